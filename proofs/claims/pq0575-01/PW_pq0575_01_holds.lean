import PyProof.Rows.All
import Wide.All
import OpenK.AllK
import Wide.FinOn
import Lean
import PySem.Challenge.RW_pq0575_01
open Option renaming some->V,none->U,map_eq_some_iff->jn,casesOn->Eh,toList_some->EQ,rec->LL,map_some->aac,isNone_iff_eq_none->aad
open Bool renaming true->M,false->aq,and_eq_true->bA,false_ne_true->cG,and_eq_true_iff->dB,false_eq_true->fi,or_eq_true->iC,not_true->pj,or_eq_true_iff->pt,rec->DS,not_eq_true'->EJ,false_or->LY,not_false->Mr,eq_iff_iff->T8,or_false->U0,true_and->W2
open PySem renaming Str->N,Value->ab,wpAny_bind->af,Expr->ag,Addr->ah,Shared->al,wpAny->av,model->ax,wpAny_pure->aC,Pos->aE,wpAny_mono->ba,Around->bo,Stmt->bw,Heap->bS,call->bT,World->bX,eval->ca,Env->cl,Obj->cx,Sem->cN,rawInt->cW,compareOp->dj,sizeLine_eq->dk,Program->dV,compEnvC->dX,pyNext->eb,wpAny_holding->eh,starEach->eR,CmpOp->fg,Scope->fh,Const->fC,backTo->fD,NameKind->fV,mainGlobals->gl,wpAny_call_entry->go,SetTable->gp,Operator->hp,strKind->hr,codeAny->hT,binaryOp->ix,cLine->iy,pyIter->iz,assign->iB,DictEntry->jk,getItem->jl,swapsWith->jr,Tok->kf,wpAny_newObj_type->kj,wpAny_attempt->kk,wpAny_setField->kl,isTrue->ko,wpAny_items_nil->kp,wpAny_standAt->kV,OsState->lR,call_meets->lV,atKey->lW,wpAny_callSpecial?_slot->lZ,argsOk->mb,Result->mg,pickOrder->mh,exec->mi,Thread->no,wpAny_dictEntries->ns,wpAny_of_eq->nu,wpAny_rule->nv,newList->nx,codeAny_builtin->ny,Flow->nA,FuncData->nB,treeTable->pc,sysModules->pg,spliced->pk,Slot->pm,typeLookup_type->pn,builtinLookup_eq_fast->po,isSubtype_type->pp,relabel->ps,plainId_quiet->pw,relayAll->px,execs->pB,importedModules->rF,builtinsNs->rI,Comprehension->rO,codeAny_mono->rP,callWith->rQ,wpAny_fieldsOf->rR,entryFor->rU,table->rV,wpAny_typeOf->rX,scanBound->sb,wpAny_setState_of->sc,setNext->sd,Data->sf,callerA->sh,denote->uy,entryOfKey->uD,wpAny_dictEpoch->uH,wpAny_isInstance->uI,typeLookup->uJ,getMethod->uL,wpAny_specialOf->uO,wpAny_field->uP,typeOf->uQ,newFunctionEnv->uX,Walks->uZ,Drawn->va,wpAny_setEntries_of->vb,unsupported->vc,wpAny_bindName->vj,IntMulOk->DY,sizeLine->DZ,setItem->Ed,UnaryOp->Ei,holding->Ek,wpAny_notOrdered_dict->Em,wpAny_truthy_bool->Eo,wpAny_askSetting->Ep,wpAny_pyIter_list->Er,wpAny_pyIter_slot->Es,wpAny_typeNameOfWhole_keyiter->Et,signature?_of->Ex,wpAny_newList->EA,letOwnedTupleGo->EB,assignInOrder->EC,wpAny_items_cons->EH,foldedSetIterable->EI,wpAny_comprehension_free->EK,swappedStores->EL,mem_of_lookup->EM,call_list_seq->LV,typeIs_int->LX,wpAny_Name->LZ,wpAny_eqBool_int->Mf,wpAny_call->Mi,wpAny_pyNext_list_end->Mj,wpAny_pyIter_keyiter->Mk,IsRangeIter->Ml,entryFor_of_tree->Mn,entryFor_alias->Mo,closureFor->Mw,checkCount->MB,wpAny_seqItems->MG,wpAny_ite_split->MI,wpAny_Constant_int->MJ,wpAny_execs_nil->MK,bootBuiltins->MO,list_append->R7,wpAny_richCompare_same_room->T4,slot_dict_getitem->T9,wpAny_isOneOf_keyiter->V2,wpAny_getItem_list_slice->V5,wpAny_assign_Tuple->W7,wpAny_collect_seq->X1,getattributeRaised->X2,wpAny_pyNext_list_item->X3,wpAny_storeSet_of->X7,fits_of_scanBound->X8,getMethod_builtin->Z1,wpAny_letTemporaryGo->Z2,wpAny_Constant_none->Z3,wpAny_isTrue_Compare1->Z6,exec_Assign_Name_used->Z7,wpAny_unpackItems_tuple->Z8
open Nat renaming le_trans->aj,ne_of_gt->aL,le_refl->aO,le_antisymm->be,ne_of_lt->bh,le_add_right->ds,ge_of_not_lt->dM,not_lt_zero->dW,zero_le->fd,lt_trans->gm,le_of_lt->gn,testBit_or->gq,lt_of_lt_of_le->gP,lt_of_le_of_ne->ho,min_le_left->hP,min_le_right->hQ,le_of_eq->kb,not_lt->kc,le_of_lt_succ->kR,lt_succ_self->mc,lt_irrefl->np,lt_or_ge->nt,ble->oW,zero_add->oX,add_le_add->oY,le_of_ble_eq_true->oZ,sub_add_cancel->pa,succ_le_succ->pe,lt_succ_of_lt->pq,not_lt_of_le->pr,mul_le_mul_left->rD,sub_le->rE,min_eq_left->rG,pos_of_ne_zero->rH,sub_le_iff_le_add->uv,lt_of_le_of_lt->uA,mod_lt->uC,le_of_not_lt->DP,succ_ne_zero->DV,le_add_left->DX,le_succ->ED,testBit_two_pow->EO,eq_of_testBit_eq->EP,add_right_comm->LI,not_le_of_lt->LJ,add_le_add_left->LK,succ_pos->LN,min_eq_zero_iff->LP,sub_le_of_le_add->LQ,add_lt_of_lt_sub->LR,max_le->LT,shiftRight_eq_div_pow->MQ,eq_zero_or_pos->MW,zero_mul->Q2,add_assoc->Q3,sub_eq_zero_of_le->Q5,le_of_succ_le_succ->Q6,add_left_cancel->Q7,add_comm->Q8,div_lt_self->R0,le_succ_of_le->S0,sub_zero->T2,max_eq_right->W3,le_of_succ_le->Y9,add_right_cancel->aae,eq_of_beq_eq_true->aaf,add_le_add_right->aaj,lt_or_eq_of_le->aam,lt_pow_two_of_testBit->aaq,pow_le_pow_right->aat,lt_trichotomy->aau,min_eq_right->aav,gt_of_not_le->aax,two_pow_pos->aaH
open PySem.Str renaming ofString->aF
open Decidable renaming decide->aP
open List renaming getElem?_eq_some_iff->bi,mem_of_getElem?->bs,length_map->bC,mem_cons->bM,mem_append->bU,mem_map->bY,replicate->ck,getElem?_eq_getElem->cu,range->cv,map_cons->dm,getElem?_map->dN,prefix_refl->eg,getElem?_append_right->ev,all_eq_true->eQ,getElem?_of_mem->fe,nodup_append->ff,take_length->fj,mem_range->fE,take_sublist->fW,take_add_one->fX,append_assoc->fY,getElem?_append_left->gQ,nodup_cons->gR,mem_append_left->gS,idxOf_lt_length_of_mem->hs,length_filter_le->ht,length_append->hR,mem_singleton->hV,getElem?_set_ne->iw,map_append->iD,pairwise_map->iE,mem_filter->iF,mem_map_of_mem->jo,map_congr_left->jp,pairwise_cons->js,getElem?_set_self->kd,lookup_cons->kh,length_range->ki,length_take->km,mem_append_right->kq,prefix_append->kS,find?_cons->kU,mem_of_mem_take->kW,nodup_iff_pairwise_ne->kX,map->md,drop_eq_getElem_cons->mf,foldl_cons->nr,getElem?_range->nw,range_succ->nC,filter_append->nD,length_cons->pi,getElem?_take->pv,getElem?_eq_none->pA,countP_cons->pE,take->pF,casesOn->rN,getD_eq_getElem?_getD->rW,mem_filterMap->rY,isEmpty_iff->se,map_map->uK,length_eq_zero_iff->uY,ext_getElem?->ve,getElem_idxOf->vf,set_comm->vh,set_set->vi,append_nil->vk,getElem?_eq_none_iff->vn,set_cons_succ->vo,set_cons_zero->vp,idxOf_append->vq,size_toArray->Ec,nil_append->Ef,any_cons->Eg,any_eq_true->En,take_of_length_le->EN,map_nil->ER,take_append_drop->ES,mem_cons_of_mem->ET,length_reverse->Mp,length_replicate->ML,filterMap_cons->MM,filter_eq_nil_iff->MN,count_cons->MS,replicate_succ'->MT,mem_take_iff_getElem->MU,cons_append->MV,getElem?_cons_zero->MX,map_take->MY,countP_le_length->MZ,dropLast_eq_take->S3,replicate_succ->S8,range'->T3,any_toArray->U1,any_eq_false->U7,length_drop->V6,take_succ_eq_append_getElem->V7,all_toArray->V8,all_map->V9,forIn_cons->W0,drop_length->W8,foldl_append->Y0,length_eraseIdx_of_lt->Y2,elem_iff->Z4,zip_cons_cons->aaa,lookup_append->aab,getElem?_replicate->aak,length_pos_of_mem->aal,count_le_length->aan,count_append->aao,take_append_of_le_length->aap,append_inj'->aar,pairwise_lt_range->aas,getElem?_take_of_lt->aaw,length_nil->aay,getElem?_drop->aaz,mem_of_mem_drop->aaA,idxOf_lt_length_iff->aaB,map_drop->aaF,sum_cons->aaG
open Option.some renaming inj->bj
open Pure renaming pure->bv
open PyProof.Rows renaming seqObj->bL,wpS_bind->hW,arrOf->iA,wpS_pure->me,IntsAre->rM,SortSt->rZ,Keyed->uR,wpS_get->uS,failedOf->uT,pendingOf->uU,sortedHeap->uV,assignInOrder_cons->uW,StrsAre->Ee,general'->Ey,listItems_at->Ez,wpS_forRange->Ms,listUpdate_at->Mt,seqEpoch_at->Mu,kind_sorted->Mx,plain_sorted->My,entry_sorted->Mz,args_sorted1->MA,slot_list_sort->MC,entry_list_sort->MD,args_list_sort->ME,len_tuple->S4,getItem_tuple->S5,assignInOrder_nil->W6,Assign_Tuple_swapped->Z9,add_int->adw,sub_int->adx,mul_int->ady,floordiv_int->adz,mod_int'->adA,pow_int->adB,lshift_int_small->adC,rshift_int->adD,and_int->adE,or_int->adF,neg_int->adG,eq_int->adH,ne_int->adI,lt_int->adJ,gt_int->adK,ge_int->adL,eq_str->adM,ne_str->adN
open Classical renaming choice->bO,byContradiction->DO,em->Q9
open PySem.Heap renaming get?_push_of_some->bP,get?_push_size->dt,lt_size->ea,size_push->jq,SameBut->kT,get?_update_self->lU,get?_update_other->vd,ExtBut->Ev,get?_push_ne->W4,size_update->W5,hide_ne->aag
open Ne renaming symm->cy
open Inhabited renaming default->cU
open LawfulBEq renaming eq_of_beq->cV
open Lean renaming Syntax->dU
open PySem.W renaming SharedT->et,Frag->eu,boot_heap->jj,findIn->nq,nsIn->pC,keepIn->rJ,mg_of->sg,stepT->ux,stepOk->uz,instObj->uE,emptyDict->vg,boot_drawn->DT,boot_toks->DU,namesBound->LM,plainGet_of->Mh
open PySem.Value renaming ref->fB,type->hU,bool->jm,int->kn,none->lY,isStrOf->EF,casesOn->LW,isInt->S9,isInt_shape->U8
open Int renaming ofNat_le->hn,toNat->lT,lt_of_le_of_lt->pb,ofNat_lt->pd,le_trans->pf,le_of_lt->rL,toNat_natCast->rS,natCast_nonneg->uw,ofNat->uB,add_sub_cancel->DQ,not_lt->DR,ofNat_sub->DW,toNat_of_nonneg->Ew,add_comm->LO,self_le_toNat->LS,fdiv->MP,fdiv_eq_ediv_of_nonneg->MR,ofNat_inj->Q4,le_of_eq->R1,natCast_succ->R2,neg_le_neg->R3,eq_ofNat_of_zero_le->V4,lt_irrefl->W1,add_nonneg->aaC,mul_nonneg->aaD
open Array renaming length_toList->hq,getElem?_toList->lX,getElem?_eq_getElem->ma,getElem?_eq_none->uN,toList_push->Ea,getElem?_eq_some_iff->Eu,toList_inj->Mv,toList_append->R4,eraseIdxIfInBounds->S2
open PySem.Heap.SameBut renaming update->hS,refl->adS
open PySem.Obj renaming mapSeq->ke,mapFields->pl,data_mapFields->rT,putSet->sa,isFreed_of_fields->Mm,cls_mapFields->V3
open False renaming elim->kg
open Int.ofNat renaming inj->lS
open PySem.F renaming called_set->nz,slot_dict_keyiterator_next->uM,slot_list_pop->Eb,slot_list_append->LU,slot_tuple_getitem->Mg,slot_list_getattribute->MF,entry_list_append->R5,args_list_append_2->R6,slot_list_extend->R8,entry_list_pop->S1,slot_list_index->S6,slot_int_rmul->S7,slot_dict_ne->T5,sub_dict_dict->T6,slot_dict_eq->T7,slot_dict_iter->U9,entry_dict_keyiterator_next->V0,args_dict_keyiterator_next_1->V1,slot_dict_get->W9,slot_dict_len->X0,plain_set_new->Y1,slot_set_iter->Y3,plain_list_iadd->Y6,plain_extend_loop->Z0,type_list_pop->Z5
open PySem.Builtin renaming bitOr->ph,bitAnd->rK,divisionGoesByPylong->uF,bitNot->vl
open PySem.Around renaming under_plainId->pu
open PySem.SetTable renaming grown->py,below->pz,laid->X6,fits->Y4
open OfNat renaming ofNat->pD
open PySem.Operator renaming Add->si,casesOn->T0,Mult->aaE
open PySem.Builtin.Int renaming intBits->uG
open List.Pairwise renaming filter->vm,imp_of_mem->adY
open PySem.PyData renaming depth->Ej,int->Ma,canLayAll0->Mb,canLay0->Mc,depthAll->Md,keyHash->U2,list->aai
open PySem.Builtin.Dict renaming dictSlotArgs->El,showsAll->Me,samePairs->T1,pairItems->X4,updateFrom->X5,dictSlotNone->adP,pendingCount->adQ,selfAndRest->adR
open PySem.Calls renaming call_function_entry->EE,Name_function_global->U3
open PySem.Code renaming builtin->EG
open PySem.Builtin.List renaming listItems->Mq,listTooLong->R9,listLengthHint->Y5,listExtendWith->Y7,listSameRef->Y8,listFitsIndex->adO
open PyProof.Rows.F renaming plain_set_update_loop->MH,entry_set_update_loop->X9
open PySem.Keeper renaming frame->U4,machine->U5,boundFrame->U6
open PySem.Challenge renaming rw_pq0575_01->aah,pw_pq0575_01->adl
open PySem.W.Fast renaming tw10156331382660048174->adm,tw11892475500146522536->adn,tw14364793385576792824->ado,tw6613529449190102663->adp,te10156331382660048174->adq,te11892475500146522536->adr,te14364793385576792824->ads,te6613529449190102663->adt,tw4187177175401517315->adu,te4187177175401517315->adv,te9446332074065402090->adX
open PySem.Builtin.Frozenset renaming newClass->adT,updateFrom->adU,slot0->adV,sizeOf->adW
open PySem PySem.W PySem.Calls PyProof.Rows
set_option Elab.async false
set_option linter.all false
set_option maxRecDepth 100000
set_option backward.defeqAttrib.useBackward true
set_option maxHeartbeats 8000000
set_option genSizeOfSpec false
set_option bootstrap.genMatcherCode false
noncomputable section
namespace Mine.Internal
@[elab_as_elim]theorem rwl{c:Sort u}{a:c}{P:c->Prop}{b:c}(h:a=b)(k:P b):P a:=h▸k
@[elab_as_elim]theorem rwr{c:Sort u}{b:c}{P:c->Prop}{a:c}(h:a=b)(k:P a):P b:=h▸k
def iG{a:Type}{i:Nonempty a}(P:a->Prop):a:=Classical.epsilon λx=>¬P x
theorem cn{b:Type u}{a:b}{P:Prop}(h:U=V a):P:=nomatch h
theorem gr{b:Type u}{a:b}{P:Prop}(h:V a=U):P:=nomatch h
theorem jt{a:Type}{i:Nonempty a}{P:a->Prop}(h:P<|@iG _ i P)(x:a):P x:=DO λn=>Classical.epsilon_spec (p:=λx=>¬P x) ⟨x,n⟩ h
noncomputable def zp1{a R:Type}(t:a×R):a:=t.1
noncomputable def zp2{b a R:Type}(t:b×a×R):a:=t.2.1
noncomputable def zp3{b c a R:Type}(t:b×c×a×R):a:=t.2.2.1
noncomputable def zp4{b c d a R:Type}(t:b×c×d×a×R):a:=t.2.2.2.1
noncomputable def zp5{b c d e a R:Type}(t:b×c×d×e×a×R):a:=t.2.2.2.2.1
noncomputable def zp6{b c d e f a R:Type}(t:b×c×d×e×f×a×R):a:=t.2.2.2.2.2.1
noncomputable def zp7{b c d e f g a R:Type}(t:b×c×d×e×f×g×a×R):a:=t.2.2.2.2.2.2.1
noncomputable def zp8{b c d e f g h a R:Type}(t:b×c×d×e×f×g×h×a×R):a:=t.2.2.2.2.2.2.2.1
noncomputable def zp9{b c d e f g h i a R:Type}(t:b×c×d×e×f×g×h×i×a×R):a:=t.2.2.2.2.2.2.2.2.1
noncomputable def zp10{b c d e f g h i j a R:Type}(t:b×c×d×e×f×g×h×i×j×a×R):a:=t.2.2.2.2.2.2.2.2.2.1
def Na{a:Type}{b:Nonempty a}(P:a->Prop):a×Unit:=iG (i:=⟨⟨bO b,()⟩⟩) λt=>P<|zp1 t
theorem eps1{a:Type}[c:Nonempty a]{P:a->Prop}(h:P<|zp1<|@Na _ c P):∀b,P b:=λb=>jt (P:=λt:a×Unit=>P<|zp1 t) h (b,())
def EU{a b:Type}{c:Nonempty a}{d:Nonempty b}(P:a->b->Prop):a×b×Unit:=iG (i:=⟨⟨bO c,bO d,()⟩⟩) λt=>P (zp1 t)<|zp2 t
theorem eps2{a b:Type}[e:Nonempty a][f:Nonempty b]{P:a->b->Prop}(h:P (zp1<|@EU _ _ e f P)<|zp2<|@EU _ _ e f P):∀c d,P c d:=λc d=>jt (P:=λt:a×b×Unit=>P (zp1 t)<|zp2 t) h (c,d,())
def vr{a b c:Type}{d:Nonempty a}{e:Nonempty b}{f:Nonempty c}(P:a->b->c->Prop):a×b×c×Unit:=iG (i:=⟨⟨bO d,bO e,bO f,()⟩⟩) λt=>P (zp1 t) (zp2 t)<|zp3 t
theorem eps3{a b c:Type}[d:Nonempty a][e:Nonempty b][f:Nonempty c]{P:a->b->c->Prop}(h:P (zp1<|@vr _ _ _ d e f P) (zp2<|@vr _ _ _ d e f P)<|zp3<|@vr _ _ _ d e f P):∀g i j,P g i j:=λg i j=>jt (P:=λt:a×b×c×Unit=>P (zp1 t) (zp2 t)<|zp3 t) h (g,i,j,())
def sj{a b c d:Type}{e:Nonempty a}{f:Nonempty b}{g:Nonempty c}{h:Nonempty d}(P:a->b->c->d->Prop):a×b×c×d×Unit:=iG (i:=⟨⟨bO e,bO f,bO g,bO h,()⟩⟩) λt=>P (zp1 t) (zp2 t) (zp3 t)<|zp4 t
theorem eps4{e f g i:Type}[a:Nonempty e][b:Nonempty f][c:Nonempty g][d:Nonempty i]{P:e->f->g->i->Prop}(h:P (zp1<|@sj _ _ _ _ a b c d P) (zp2<|@sj _ _ _ _ a b c d P) (zp3<|@sj _ _ _ _ a b c d P)<|zp4<|@sj _ _ _ _ a b c d P):∀j k l m,P j k l m:=λj k l m=>jt (P:=λt:e×f×g×i×Unit=>P (zp1 t) (zp2 t) (zp3 t)<|zp4 t) h (j,k,l,m,())
def pG{a b c d e:Type}{f:Nonempty a}{g:Nonempty b}{h:Nonempty c}{i:Nonempty d}{j:Nonempty e}(P:a->b->c->d->e->Prop):a×b×c×d×e×Unit:=iG (i:=⟨⟨bO f,bO g,bO h,bO i,bO j,()⟩⟩) λt=>P (zp1 t) (zp2 t) (zp3 t) (zp4 t)<|zp5 t
theorem eps5{f g i j k:Type}[a:Nonempty f][b:Nonempty g][c:Nonempty i][d:Nonempty j][e:Nonempty k]{P:f->g->i->j->k->Prop}(h:P (zp1<|@pG _ _ _ _ _ a b c d e P) (zp2<|@pG _ _ _ _ _ a b c d e P) (zp3<|@pG _ _ _ _ _ a b c d e P) (zp4<|@pG _ _ _ _ _ a b c d e P)<|zp5<|@pG _ _ _ _ _ a b c d e P):∀l m n o p,P l m n o p:=λl m n o p=>jt (P:=λt:f×g×i×j×k×Unit=>P (zp1 t) (zp2 t) (zp3 t) (zp4 t)<|zp5 t) h (l,m,n,o,p,())
def nE{a b c d e f:Type}{g:Nonempty a}{h:Nonempty b}{i:Nonempty c}{j:Nonempty d}{k:Nonempty e}{l:Nonempty f}(P:a->b->c->d->e->f->Prop):a×b×c×d×e×f×Unit:=iG (i:=⟨⟨bO g,bO h,bO i,bO j,bO k,bO l,()⟩⟩) λt=>P (zp1 t) (zp2 t) (zp3 t) (zp4 t) (zp5 t)<|zp6 t
theorem eps6{g i j k l m:Type}[a:Nonempty g][b:Nonempty i][c:Nonempty j][d:Nonempty k][e:Nonempty l][f:Nonempty m]{P:g->i->j->k->l->m->Prop}(h:P (zp1<|@nE _ _ _ _ _ _ a b c d e f P) (zp2<|@nE _ _ _ _ _ _ a b c d e f P) (zp3<|@nE _ _ _ _ _ _ a b c d e f P) (zp4<|@nE _ _ _ _ _ _ a b c d e f P) (zp5<|@nE _ _ _ _ _ _ a b c d e f P)<|zp6<|@nE _ _ _ _ _ _ a b c d e f P):∀n o p q r s,P n o p q r s:=λn o p q r s=>jt (P:=λt:g×i×j×k×l×m×Unit=>P (zp1 t) (zp2 t) (zp3 t) (zp4 t) (zp5 t)<|zp6 t) h (n,o,p,q,r,s,())
def mj{a b c d e f g:Type}{h:Nonempty a}{i:Nonempty b}{j:Nonempty c}{k:Nonempty d}{l:Nonempty e}{m:Nonempty f}{n:Nonempty g}(P:a->b->c->d->e->f->g->Prop):a×b×c×d×e×f×g×Unit:=iG (i:=⟨⟨bO h,bO i,bO j,bO k,bO l,bO m,bO n,()⟩⟩) λt=>P (zp1 t) (zp2 t) (zp3 t) (zp4 t) (zp5 t) (zp6 t)<|zp7 t
theorem eps7{i j k l m n o:Type}[a:Nonempty i][b:Nonempty j][c:Nonempty k][d:Nonempty l][e:Nonempty m][f:Nonempty n][g:Nonempty o]{P:i->j->k->l->m->n->o->Prop}(h:P (zp1<|@mj _ _ _ _ _ _ _ a b c d e f g P) (zp2<|@mj _ _ _ _ _ _ _ a b c d e f g P) (zp3<|@mj _ _ _ _ _ _ _ a b c d e f g P) (zp4<|@mj _ _ _ _ _ _ _ a b c d e f g P) (zp5<|@mj _ _ _ _ _ _ _ a b c d e f g P) (zp6<|@mj _ _ _ _ _ _ _ a b c d e f g P)<|zp7<|@mj _ _ _ _ _ _ _ a b c d e f g P):∀p q r s u v w,P p q r s u v w:=λp q r s u v w=>jt (P:=λt:i×j×k×l×m×n×o×Unit=>P (zp1 t) (zp2 t) (zp3 t) (zp4 t) (zp5 t) (zp6 t)<|zp7 t) h (p,q,r,s,u,v,w,())
def kY{a b c d e f g h:Type}{i:Nonempty a}{j:Nonempty b}{k:Nonempty c}{l:Nonempty d}{m:Nonempty e}{n:Nonempty f}{o:Nonempty g}{p:Nonempty h}(P:a->b->c->d->e->f->g->h->Prop):a×b×c×d×e×f×g×h×Unit:=iG (i:=⟨⟨bO i,bO j,bO k,bO l,bO m,bO n,bO o,bO p,()⟩⟩) λt=>P (zp1 t) (zp2 t) (zp3 t) (zp4 t) (zp5 t) (zp6 t) (zp7 t)<|zp8 t
theorem eps8{j k l m n o p q:Type}[a:Nonempty j][b:Nonempty k][c:Nonempty l][d:Nonempty m][e:Nonempty n][f:Nonempty o][g:Nonempty p][i:Nonempty q]{P:j->k->l->m->n->o->p->q->Prop}(h:P (zp1<|@kY _ _ _ _ _ _ _ _ a b c d e f g i P) (zp2<|@kY _ _ _ _ _ _ _ _ a b c d e f g i P) (zp3<|@kY _ _ _ _ _ _ _ _ a b c d e f g i P) (zp4<|@kY _ _ _ _ _ _ _ _ a b c d e f g i P) (zp5<|@kY _ _ _ _ _ _ _ _ a b c d e f g i P) (zp6<|@kY _ _ _ _ _ _ _ _ a b c d e f g i P) (zp7<|@kY _ _ _ _ _ _ _ _ a b c d e f g i P)<|zp8<|@kY _ _ _ _ _ _ _ _ a b c d e f g i P):∀r s u v w x y z,P r s u v w x y z:=λr s u v w x y z=>jt (P:=λt:j×k×l×m×n×o×p×q×Unit=>P (zp1 t) (zp2 t) (zp3 t) (zp4 t) (zp5 t) (zp6 t) (zp7 t)<|zp8 t) h (r,s,u,v,w,x,y,z,())
def kr{a b c d e f g h i:Type}{j:Nonempty a}{k:Nonempty b}{l:Nonempty c}{m:Nonempty d}{n:Nonempty e}{o:Nonempty f}{p:Nonempty g}{q:Nonempty h}{r:Nonempty i}(P:a->b->c->d->e->f->g->h->i->Prop):a×b×c×d×e×f×g×h×i×Unit:=iG (i:=⟨⟨bO j,bO k,bO l,bO m,bO n,bO o,bO p,bO q,bO r,()⟩⟩) λt=>P (zp1 t) (zp2 t) (zp3 t) (zp4 t) (zp5 t) (zp6 t) (zp7 t) (zp8 t)<|zp9 t
theorem eps9{k l m n o p q r s:Type}[a:Nonempty k][b:Nonempty l][c:Nonempty m][d:Nonempty n][e:Nonempty o][f:Nonempty p][g:Nonempty q][i:Nonempty r][j:Nonempty s]{P:k->l->m->n->o->p->q->r->s->Prop}(h:P (zp1<|@kr _ _ _ _ _ _ _ _ _ a b c d e f g i j P) (zp2<|@kr _ _ _ _ _ _ _ _ _ a b c d e f g i j P) (zp3<|@kr _ _ _ _ _ _ _ _ _ a b c d e f g i j P) (zp4<|@kr _ _ _ _ _ _ _ _ _ a b c d e f g i j P) (zp5<|@kr _ _ _ _ _ _ _ _ _ a b c d e f g i j P) (zp6<|@kr _ _ _ _ _ _ _ _ _ a b c d e f g i j P) (zp7<|@kr _ _ _ _ _ _ _ _ _ a b c d e f g i j P) (zp8<|@kr _ _ _ _ _ _ _ _ _ a b c d e f g i j P)<|zp9<|@kr _ _ _ _ _ _ _ _ _ a b c d e f g i j P):∀u v w x y z A B C,P u v w x y z A B C:=λu v w x y z A B C=>jt (P:=λt:k×l×m×n×o×p×q×r×s×Unit=>P (zp1 t) (zp2 t) (zp3 t) (zp4 t) (zp5 t) (zp6 t) (zp7 t) (zp8 t)<|zp9 t) h (u,v,w,x,y,z,A,B,C,())
def ju{a b c d e f g h i j:Type}{k:Nonempty a}{l:Nonempty b}{m:Nonempty c}{n:Nonempty d}{o:Nonempty e}{p:Nonempty f}{q:Nonempty g}{r:Nonempty h}{s:Nonempty i}{u:Nonempty j}(P:a->b->c->d->e->f->g->h->i->j->Prop):a×b×c×d×e×f×g×h×i×j×Unit:=iG (i:=⟨⟨bO k,bO l,bO m,bO n,bO o,bO p,bO q,bO r,bO s,bO u,()⟩⟩) λt=>P (zp1 t) (zp2 t) (zp3 t) (zp4 t) (zp5 t) (zp6 t) (zp7 t) (zp8 t) (zp9 t)<|zp10 t
theorem eps10{l m n o p q r s u v:Type}[a:Nonempty l][b:Nonempty m][c:Nonempty n][d:Nonempty o][e:Nonempty p][f:Nonempty q][g:Nonempty r][i:Nonempty s][j:Nonempty u][k:Nonempty v]{P:l->m->n->o->p->q->r->s->u->v->Prop}(h:P (zp1<|@ju _ _ _ _ _ _ _ _ _ _ a b c d e f g i j k P) (zp2<|@ju _ _ _ _ _ _ _ _ _ _ a b c d e f g i j k P) (zp3<|@ju _ _ _ _ _ _ _ _ _ _ a b c d e f g i j k P) (zp4<|@ju _ _ _ _ _ _ _ _ _ _ a b c d e f g i j k P) (zp5<|@ju _ _ _ _ _ _ _ _ _ _ a b c d e f g i j k P) (zp6<|@ju _ _ _ _ _ _ _ _ _ _ a b c d e f g i j k P) (zp7<|@ju _ _ _ _ _ _ _ _ _ _ a b c d e f g i j k P) (zp8<|@ju _ _ _ _ _ _ _ _ _ _ a b c d e f g i j k P) (zp9<|@ju _ _ _ _ _ _ _ _ _ _ a b c d e f g i j k P)<|zp10<|@ju _ _ _ _ _ _ _ _ _ _ a b c d e f g i j k P):∀w x y z A B C D E G,P w x y z A B C D E G:=λw x y z A B C D E G=>jt (P:=λt:l×m×n×o×p×q×r×s×u×v×Unit=>P (zp1 t) (zp2 t) (zp3 t) (zp4 t) (zp5 t) (zp6 t) (zp7 t) (zp8 t) (zp9 t)<|zp10 t) h (w,x,y,z,A,B,C,D,E,G,())
def nF(k:String)(a:Array dU):dU:=.node .none k.toName a
def tk(s:String):dU:=.atom .none s
def fF(k:String)(a:Array dU):dU:=nF ("Lean.Parser.Tactic."++k) a
def sn(a:Array dU):dU:=nF "null" a
def vs(s:String):dU:=Lean.mkIdent s.toName
def EV(f:String)(a:Array dU):dU:=nF "Lean.Parser.Term.app" #[vs f,sn a]
def vt(t:dU):dU:=fF "tacticSeq" #[fF "tacticSeq1Indented" #[sn #[t]]]
def EW(t:dU):dU:=nF "group" #[tk "|",vt t]
def Nb(a:Array dU)(x:dU):Array dU:=(if a.size==0 then a else a.push (tk ",")).push<|fF "generalizeArg" #[sn #[],EV ("zp"++toString ((a.size+1)/2+1)) #[nF "Lean.Parser.Term.hole" #[tk "_"]],tk "=",x]
def inM(a:Array dU):dU:=sn #[fF "apply" #[tk "apply",vs ("eps"++toString a.size)],fF "generalize" #[tk "generalize",sn (a.foldl Nb #[]),sn #[]]]
def Nc(f:String)(a:Array dU):dU:=EW<|fF "refine" #[tk "refine",EV f (a.push<|nF "Lean.Parser.Term.syntheticHole" #[tk "?",tk "_"])]
def rwL(a:Array dU)(r:Lean.TSyntax `Lean.Parser.Tactic.rwRule):Array dU:=a.push<|fF "first" #[tk "first",sn #[Nc (if r.raw[0].getNumArgs==0 then"rwl"else"rwr") #[r.raw[1]],EW (fF "rewriteSeq" #[tk "rewrite",fF "optConfig" #[sn #[]],fF "rwRuleSeq" #[tk "[",sn #[r.raw],tk "]"],sn #[]])]]
def rwM:dU:=fF "tacticTry_" #[tk "try",vt (fF "withReducible" #[tk "with_reducible",vt (fF "tacticRfl" #[tk "rfl"])])]
def smM(c:dU):dU:=fF "simp" #[tk "simp",fF "optConfig" #[sn #[fF "configItem" #[fF "negConfigItem" #[tk "-",vs "dsimp"]]]],sn #[],sn #[],c,sn #[]]
local macro_rules
  | `(tactic| intros _) => `(tactic| set_option tactic.hygienic false in intros)
  | `(tactic| intros $a $as*) => pure (inM (#[a.raw] ++ as))
  | `(tactic| rw [$r,*]) => pure (sn ((r.getElems.foldl rwL #[]).push rwM))
 def xA0 (x : Lean.Syntax) : Lean.Syntax := if x.isIdent then x else nF "Lean.Parser.Term.hole" #[tk "_"]
 def xE0 (E t : Lean.Syntax) : Lean.Syntax := fF "refine" #[tk "refine", nF "Lean.Parser.Term.app" #[E, sn #[t, nF "Lean.Parser.Term.syntheticHole" #[tk "?", tk "_"]]]]
 def xB0 (b : Lean.Syntax) : Array Lean.Syntax :=
  let h := b[1].getArgs.back![0][0]
  let c := fF "clear" #[tk "clear", sn #[h]]
  let E := b[1][0][0]
  if b[2].getNumArgs == 2 then #[xE0 (if E[0].isIdent then E[0] else vs "Y") b[2][1]] else
  if b[1].getNumArgs == 1 then #[xE0 (vs "Y") h, c] else
  if E.getNumArgs == 2 then #[xE0 E[1][0] h, c] else #[fF "apply" #[tk "apply", nF "Lean.Parser.Term.app" #[E[0], sn #[h]]], c]
 def xI0 (k : String) (a : Array Lean.Syntax) : Array Lean.Syntax := if a.size == 0 then #[] else #[fF k #[tk k, sn a]]
 def xF0 (e n : Array Lean.Syntax) : Array Lean.Syntax := (if e.size == 0 then #[] else #[inM e]) ++ xI0 "intro" n
 def xX0 (s : Array Lean.Syntax × Array Lean.Syntax × Array Lean.Syntax) (p : Lean.Syntax) : Array Lean.Syntax × Array Lean.Syntax × Array Lean.Syntax :=
   let o := s.1 ++ xF0 s.2.1 s.2.2
   let x := p[0]
   if x.getNumArgs == 0 then (o ++ xB0 p, #[], #[]) else
   if x.getNumArgs == 2 then if s.2.2.size == 0 && s.2.1.size < 10 then (s.1, s.2.1.push x[1][0], s.2.2) else (o, #[x[1][0]], #[]) else
   if x[0].getAtomVal == "-" then (o.push (fF "subst" #[tk "subst", sn #[(s.2.1 ++ s.2.2).back!]]), #[], #[]) else
   (s.1, s.2.1, s.2.2.push (xA0 x[0]))
 def xY0 (s : Array Lean.Syntax × Array Lean.Syntax × Array Lean.Syntax) : Lean.Syntax := sn (s.1 ++ xF0 s.2.1 s.2.2)
local macro_rules
  | `(tactic| ext $p $ps*) => pure (xY0 ((#[p.raw] ++ ps).foldl xX0 (#[], #[], #[])))
local macro_rules
  | `(tactic| delta $a* at $b*) => pure (sn (xI0 "revert" b ++ xI0 "revert" a ++ #[inM a] ++ xI0 "intro" b))
  | `(tactic| delta $a*) => pure (sn (xI0 "revert" a ++ #[inM a]))
universe u0 u1 u2 u3 u4 u5 u6 u7 u8 u9 u10 u11 u12 u13 u14 u15 u16 u17 u18 u19 u20 u21 u22 u23 u24 u25 u26 u27 u28 u29 w
theorem ac{a b P:Prop}(h:a/\b)(k:a->b->P):P:=k h.1 h.2
theorem bD{a b c P:Prop}(h:a/\b/\c)(k:a->b->c->P):P:=k h.1 h.2.1 h.2.2
theorem ei{a b c d P:Prop}(h:a/\b/\c/\d)(k:a->b->c->d->P):P:=k h.1 h.2.1 h.2.2.1 h.2.2.2
theorem vu{a b c d e f P:Prop}(h:a/\b/\c/\d/\e/\f)(k:a->b->c->d->e->f->P):P:=k h.1 h.2.1 h.2.2.1 h.2.2.2.1 h.2.2.2.2.1 h.2.2.2.2.2
theorem aD{c:Sort u0}{b:c->Prop}{P:Prop}(h:∃a,b a)(k:∀a,b a->P):P:=h.elim λa h=>k a h
theorem Y{d:Sort u0}{b c:d->Prop}{P:Prop}(h:∃a,b a/\c a)(k:∀a,b a->c a->P):P:=h.elim λa h=>k a h.1 h.2
theorem bd{e:Sort u0}{b c d:e->Prop}{P:Prop}(h:∃a,b a/\c a/\d a)(k:∀a,b a->c a->d a->P):P:=h.elim λa h=>k a h.1 h.2.1 h.2.2
theorem fG{f:Sort u0}{b c d e:f->Prop}{P:Prop}(h:∃a,b a/\c a/\d a/\e a)(k:∀a,b a->c a->d a->e a->P):P:=h.elim λa h=>k a h.1 h.2.1 h.2.2.1 h.2.2.2
theorem vv{g:Sort u0}{b c d e f:g->Prop}{P:Prop}(h:∃a,b a/\c a/\d a/\e a/\f a)(k:∀a,b a->c a->d a->e a->f a->P):P:=h.elim λa h=>k a h.1 h.2.1 h.2.2.1 h.2.2.2.1 h.2.2.2.2
theorem hu{d:Sort u0}{e:Sort u1}{c:d->e->Prop}{P:Prop}(h:∃a b,c a b)(k:∀a b,c a b->P):P:=h.elim λa h=>h.elim λb h=>k a b h
theorem bp{e:Sort u0}{f:Sort u1}{c d:e->f->Prop}{P:Prop}(h:∃a b,c a b/\d a b)(k:∀a b,c a b->d a b->P):P:=h.elim λa h=>h.elim λb h=>k a b h.1 h.2
theorem bk{f:Sort u0}{g:Sort u1}{c d e:f->g->Prop}{P:Prop}(h:∃a b,c a b/\d a b/\e a b)(k:∀a b,c a b->d a b->e a b->P):P:=h.elim λa h=>h.elim λb h=>k a b h.1 h.2.1 h.2.2
theorem co{g:Sort u0}{i:Sort u1}{c d e f:g->i->Prop}{P:Prop}(h:∃a b,c a b/\d a b/\e a b/\f a b)(k:∀a b,c a b->d a b->e a b->f a b->P):P:=h.elim λa h=>h.elim λb h=>k a b h.1 h.2.1 h.2.2.1 h.2.2.2
theorem kZ{i:Sort u0}{j:Sort u1}{c d e f g:i->j->Prop}{P:Prop}(h:∃a b,c a b/\d a b/\e a b/\f a b/\g a b)(k:∀a b,c a b->d a b->e a b->f a b->g a b->P):P:=h.elim λa h=>h.elim λb h=>k a b h.1 h.2.1 h.2.2.1 h.2.2.2.1 h.2.2.2.2
theorem EX{l:Sort u0}{m:Sort u1}{c d e f g i j:l->m->Prop}{P:Prop}(h:∃a b,c a b/\d a b/\e a b/\f a b/\g a b/\i a b/\j a b)(k:∀a b,c a b->d a b->e a b->f a b->g a b->i a b->j a b->P):P:=h.elim λa h=>h.elim λb h=>k a b h.1 h.2.1 h.2.2.1 h.2.2.2.1 h.2.2.2.2.1 h.2.2.2.2.2.1 h.2.2.2.2.2.2
theorem EY{m:Sort u0}{n:Sort u1}{c d e f g i j l:m->n->Prop}{P:Prop}(h:∃a b,c a b/\d a b/\e a b/\f a b/\g a b/\i a b/\j a b/\l a b)(k:∀a b,c a b->d a b->e a b->f a b->g a b->i a b->j a b->l a b->P):P:=h.elim λa h=>h.elim λb h=>k a b h.1 h.2.1 h.2.2.1 h.2.2.2.1 h.2.2.2.2.1 h.2.2.2.2.2.1 h.2.2.2.2.2.2.1 h.2.2.2.2.2.2.2
theorem Nd{e:Sort u0}{f:Sort u1}{g:Sort u2}{d:e->f->g->Prop}{P:Prop}(h:∃a b c,d a b c)(k:∀a b c,d a b c->P):P:=h.elim λa h=>h.elim λb h=>h.elim λc h=>k a b c h
theorem hX{f:Sort u0}{g:Sort u1}{i:Sort u2}{d e:f->g->i->Prop}{P:Prop}(h:∃a b c,d a b c/\e a b c)(k:∀a b c,d a b c->e a b c->P):P:=h.elim λa h=>h.elim λb h=>h.elim λc h=>k a b c h.1 h.2
theorem la{g:Sort u0}{i:Sort u1}{j:Sort u2}{d e f:g->i->j->Prop}{P:Prop}(h:∃a b c,d a b c/\e a b c/\f a b c)(k:∀a b c,d a b c->e a b c->f a b c->P):P:=h.elim λa h=>h.elim λb h=>h.elim λc h=>k a b c h.1 h.2.1 h.2.2
theorem hY{i:Sort u0}{j:Sort u1}{l:Sort u2}{d e f g:i->j->l->Prop}{P:Prop}(h:∃a b c,d a b c/\e a b c/\f a b c/\g a b c)(k:∀a b c,d a b c->e a b c->f a b c->g a b c->P):P:=h.elim λa h=>h.elim λb h=>h.elim λc h=>k a b c h.1 h.2.1 h.2.2.1 h.2.2.2
theorem Nf{j:Sort u0}{l:Sort u1}{m:Sort u2}{d e f g i:j->l->m->Prop}{P:Prop}(h:∃a b c,d a b c/\e a b c/\f a b c/\g a b c/\i a b c)(k:∀a b c,d a b c->e a b c->f a b c->g a b c->i a b c->P):P:=h.elim λa h=>h.elim λb h=>h.elim λc h=>k a b c h.1 h.2.1 h.2.2.1 h.2.2.2.1 h.2.2.2.2
theorem jv{l:Sort u0}{m:Sort u1}{n:Sort u2}{d e f g i j:l->m->n->Prop}{P:Prop}(h:∃a b c,d a b c/\e a b c/\f a b c/\g a b c/\i a b c/\j a b c)(k:∀a b c,d a b c->e a b c->f a b c->g a b c->i a b c->j a b c->P):P:=h.elim λa h=>h.elim λb h=>h.elim λc h=>k a b c h.1 h.2.1 h.2.2.1 h.2.2.2.1 h.2.2.2.2.1 h.2.2.2.2.2
theorem Ng{m:Sort u0}{n:Sort u1}{o:Sort u2}{d e f g i j l:m->n->o->Prop}{P:Prop}(h:∃a b c,d a b c/\e a b c/\f a b c/\g a b c/\i a b c/\j a b c/\l a b c)(k:∀a b c,d a b c->e a b c->f a b c->g a b c->i a b c->j a b c->l a b c->P):P:=h.elim λa h=>h.elim λb h=>h.elim λc h=>k a b c h.1 h.2.1 h.2.2.1 h.2.2.2.1 h.2.2.2.2.1 h.2.2.2.2.2.1 h.2.2.2.2.2.2
theorem Nh{f:Sort u0}{g:Sort u1}{i:Sort u2}{j:Sort u3}{e:f->g->i->j->Prop}{P:Prop}(h:∃a b c d,e a b c d)(k:∀a b c d,e a b c d->P):P:=h.elim λa h=>h.elim λb h=>h.elim λc h=>h.elim λd h=>k a b c d h
theorem EZ{g:Sort u0}{i:Sort u1}{j:Sort u2}{l:Sort u3}{e f:g->i->j->l->Prop}{P:Prop}(h:∃a b c d,e a b c d/\f a b c d)(k:∀a b c d,e a b c d->f a b c d->P):P:=h.elim λa h=>h.elim λb h=>h.elim λc h=>h.elim λd h=>k a b c d h.1 h.2
theorem Ni{i:Sort u0}{j:Sort u1}{l:Sort u2}{m:Sort u3}{e f g:i->j->l->m->Prop}{P:Prop}(h:∃a b c d,e a b c d/\f a b c d/\g a b c d)(k:∀a b c d,e a b c d->f a b c d->g a b c d->P):P:=h.elim λa h=>h.elim λb h=>h.elim λc h=>h.elim λd h=>k a b c d h.1 h.2.1 h.2.2
theorem ml{l:Sort u0}{m:Sort u1}{n:Sort u2}{o:Sort u3}{e f g i j:l->m->n->o->Prop}{P:Prop}(h:∃a b c d,e a b c d/\f a b c d/\g a b c d/\i a b c d/\j a b c d)(k:∀a b c d,e a b c d->f a b c d->g a b c d->i a b c d->j a b c d->P):P:=h.elim λa h=>h.elim λb h=>h.elim λc h=>h.elim λd h=>k a b c d h.1 h.2.1 h.2.2.1 h.2.2.2.1 h.2.2.2.2
theorem Fa{n:Sort u0}{o:Sort u1}{p:Sort u2}{q:Sort u3}{r:Sort u4}{f g i j l m:n->o->p->q->r->Prop}{P:Prop}(h:∃a b c d e,f a b c d e/\g a b c d e/\i a b c d e/\j a b c d e/\l a b c d e/\m a b c d e)(k:∀a b c d e,f a b c d e->g a b c d e->i a b c d e->j a b c d e->l a b c d e->m a b c d e->P):P:=h.elim λa h=>h.elim λb h=>h.elim λc h=>h.elim λd h=>h.elim λe h=>k a b c d e h.1 h.2.1 h.2.2.1 h.2.2.2.1 h.2.2.2.2.1 h.2.2.2.2.2
theorem sk{j:Sort u0}{l:Sort u1}{m:Sort u2}{n:Sort u3}{o:Sort u4}{p:Sort u5}{g i:j->l->m->n->o->p->Prop}{P:Prop}(h:∃a b c d e f,g a b c d e f/\i a b c d e f)(k:∀a b c d e f,g a b c d e f->i a b c d e f->P):P:=h.elim λa h=>h.elim λb h=>h.elim λc h=>h.elim λd h=>h.elim λe h=>h.elim λf h=>k a b c d e f h.1 h.2
theorem Nj{l:Sort u0}{m:Sort u1}{n:Sort u2}{o:Sort u3}{p:Sort u4}{q:Sort u5}{g i j:l->m->n->o->p->q->Prop}{P:Prop}(h:∃a b c d e f,g a b c d e f/\i a b c d e f/\j a b c d e f)(k:∀a b c d e f,g a b c d e f->i a b c d e f->j a b c d e f->P):P:=h.elim λa h=>h.elim λb h=>h.elim λc h=>h.elim λd h=>h.elim λe h=>h.elim λf h=>k a b c d e f h.1 h.2.1 h.2.2
theorem aI{a b c:Prop}(d:a)(e:b)(f:c):a/\b/\c:=⟨d,e,f⟩
theorem dC{a b c d:Prop}(e:a)(f:b)(g:c)(h:d):a/\b/\c/\d:=⟨e,f,g,h⟩
theorem sl{a b c d e:Prop}(f:a)(g:b)(h:c)(i:d)(j:e):a/\b/\c/\d/\e:=⟨f,g,h,i,j⟩
theorem vw{a b c d e f:Prop}(g:a)(h:b)(i:c)(j:d)(k:e)(l:f):a/\b/\c/\d/\e/\f:=⟨g,h,i,j,k,l⟩
theorem Fb{s:Sort u0}{t:Sort u1}{u:Sort u2}{v:Sort u3}{w:Sort u4}{x:Sort u5}{y:Sort u6}{z:Sort u7}{A:Sort u8}{B:Sort u9}{k l m n o p q r:s->t->u->v->w->x->y->z->A->B->Prop}(a:s)(b:t)(c:u)(d:v)(e:w)(f:x)(g:y)(h:z)(i:A)(j:B)(C:k a b c d e f g h i j)(D:l a b c d e f g h i j)(E:m a b c d e f g h i j)(G:n a b c d e f g h i j)(H:o a b c d e f g h i j)(I:p a b c d e f g h i j)(K:q a b c d e f g h i j)(L:r a b c d e f g h i j):∃a b c d e f g h i j,k a b c d e f g h i j/\l a b c d e f g h i j/\m a b c d e f g h i j/\n a b c d e f g h i j/\o a b c d e f g h i j/\p a b c d e f g h i j/\q a b c d e f g h i j/\r a b c d e f g h i j:=⟨a,b,c,d,e,f,g,h,i,j,C,D,E,G,H,I,K,L⟩
theorem Fc{u:Sort u0}{v:Sort u1}{z:Sort u2}{A:Sort u3}{B:Sort u4}{C:Sort u5}{D:Sort u6}{E:Sort u7}{G:Sort u8}{H:Sort u9}{w:Sort u10}{x:Sort u11}{y:Sort u12}{n o p q r s t:u->v->z->A->B->C->D->E->G->H->w->x->y->Prop}(a:u)(b:v)(f:z)(g:A)(h:B)(i:C)(j:D)(k:E)(l:G)(m:H)(c:w)(d:x)(e:y)(I:n a b f g h i j k l m c d e)(K:o a b f g h i j k l m c d e)(L:p a b f g h i j k l m c d e)(P:q a b f g h i j k l m c d e)(Q:r a b f g h i j k l m c d e)(R:s a b f g h i j k l m c d e)(S:t a b f g h i j k l m c d e):∃a b f g h i j k l m c d e,n a b f g h i j k l m c d e/\o a b f g h i j k l m c d e/\p a b f g h i j k l m c d e/\q a b f g h i j k l m c d e/\r a b f g h i j k l m c d e/\s a b f g h i j k l m c d e/\t a b f g h i j k l m c d e:=⟨a,b,f,g,h,i,j,k,l,m,c,d,e,I,K,L,P,Q,R,S⟩
theorem ad{d:Sort u0}{b c:d->Prop}(a:d)(e:b a)(f:c a):∃a,b a/\c a:=⟨a,e,f⟩
theorem aT{e:Sort u0}{b c d:e->Prop}(a:e)(f:b a)(g:c a)(h:d a):∃a,b a/\c a/\d a:=⟨a,f,g,h⟩
theorem ej{f:Sort u0}{b c d e:f->Prop}(a:f)(g:b a)(h:c a)(i:d a)(j:e a):∃a,b a/\c a/\d a/\e a:=⟨a,g,h,i,j⟩
theorem hv{g:Sort u0}{b c d e f:g->Prop}(a:g)(h:b a)(i:c a)(j:d a)(k:e a)(l:f a):∃a,b a/\c a/\d a/\e a/\f a:=⟨a,h,i,j,k,l⟩
theorem sm{h:Sort u0}{b c d e f g:h->Prop}(a:h)(i:b a)(j:c a)(k:d a)(l:e a)(m:f a)(n:g a):∃a,b a/\c a/\d a/\e a/\f a/\g a:=⟨a,i,j,k,l,m,n⟩
theorem gs{d:Sort u0}{e:Sort u1}{c:d->e->Prop}(a:d)(b:e)(f:c a b):∃a b,c a b:=⟨a,b,f⟩
theorem bK{e:Sort u0}{f:Sort u1}{c d:e->f->Prop}(a:e)(b:f)(g:c a b)(h:d a b):∃a b,c a b/\d a b:=⟨a,b,g,h⟩
theorem bu{f:Sort u0}{g:Sort u1}{c d e:f->g->Prop}(a:f)(b:g)(h:c a b)(i:d a b)(j:e a b):∃a b,c a b/\d a b/\e a b:=⟨a,b,h,i,j⟩
theorem eD{g:Sort u0}{h:Sort u1}{c d e f:g->h->Prop}(a:g)(b:h)(i:c a b)(j:d a b)(k:e a b)(l:f a b):∃a b,c a b/\d a b/\e a b/\f a b:=⟨a,b,i,j,k,l⟩
theorem jw{h:Sort u0}{i:Sort u1}{c d e f g:h->i->Prop}(a:h)(b:i)(j:c a b)(k:d a b)(l:e a b)(m:f a b)(n:g a b):∃a b,c a b/\d a b/\e a b/\f a b/\g a b:=⟨a,b,j,k,l,m,n⟩
theorem so{i:Sort u0}{j:Sort u1}{c d e f g h:i->j->Prop}(a:i)(b:j)(k:c a b)(l:d a b)(m:e a b)(n:f a b)(o:g a b)(p:h a b):∃a b,c a b/\d a b/\e a b/\f a b/\g a b/\h a b:=⟨a,b,k,l,m,n,o,p⟩
theorem Fd{j:Sort u0}{k:Sort u1}{c d e f g h i:j->k->Prop}(a:j)(b:k)(l:c a b)(m:d a b)(n:e a b)(o:f a b)(p:g a b)(q:h a b)(r:i a b):∃a b,c a b/\d a b/\e a b/\f a b/\g a b/\h a b/\i a b:=⟨a,b,l,m,n,o,p,q,r⟩
theorem nG{k:Sort u0}{l:Sort u1}{c d e f g h i j:k->l->Prop}(a:k)(b:l)(m:c a b)(n:d a b)(o:e a b)(p:f a b)(q:g a b)(r:h a b)(s:i a b)(t:j a b):∃a b,c a b/\d a b/\e a b/\f a b/\g a b/\h a b/\i a b/\j a b:=⟨a,b,m,n,o,p,q,r,s,t⟩
theorem Fe{e:Sort u0}{f:Sort u1}{g:Sort u2}{d:e->f->g->Prop}(a:e)(b:f)(c:g)(h:d a b c):∃a b c,d a b c:=⟨a,b,c,h⟩
theorem Ff{n:Sort u0}{o:Sort u1}{p:Sort u2}{d e f g h i j k l m:n->o->p->Prop}(a:n)(b:o)(c:p)(q:d a b c)(r:e a b c)(s:f a b c)(t:g a b c)(u:h a b c)(v:i a b c)(w:j a b c)(x:k a b c)(y:l a b c)(z:m a b c):∃a b c,d a b c/\e a b c/\f a b c/\g a b c/\h a b c/\i a b c/\j a b c/\k a b c/\l a b c/\m a b c:=⟨a,b,c,q,r,s,t,u,v,w,x,y,z⟩
theorem ks{f:Sort u0}{g:Sort u1}{h:Sort u2}{d e:f->g->h->Prop}(a:f)(b:g)(c:h)(i:d a b c)(j:e a b c):∃a b c,d a b c/\e a b c:=⟨a,b,c,i,j⟩
theorem hw{g:Sort u0}{h:Sort u1}{i:Sort u2}{d e f:g->h->i->Prop}(a:g)(b:h)(c:i)(j:d a b c)(k:e a b c)(l:f a b c):∃a b c,d a b c/\e a b c/\f a b c:=⟨a,b,c,j,k,l⟩
theorem gt{h:Sort u0}{i:Sort u1}{j:Sort u2}{d e f g:h->i->j->Prop}(a:h)(b:i)(c:j)(k:d a b c)(l:e a b c)(m:f a b c)(n:g a b c):∃a b c,d a b c/\e a b c/\f a b c/\g a b c:=⟨a,b,c,k,l,m,n⟩
theorem vx{i:Sort u0}{j:Sort u1}{k:Sort u2}{d e f g h:i->j->k->Prop}(a:i)(b:j)(c:k)(l:d a b c)(m:e a b c)(n:f a b c)(o:g a b c)(p:h a b c):∃a b c,d a b c/\e a b c/\f a b c/\g a b c/\h a b c:=⟨a,b,c,l,m,n,o,p⟩
theorem pH{j:Sort u0}{k:Sort u1}{l:Sort u2}{d e f g h i:j->k->l->Prop}(a:j)(b:k)(c:l)(m:d a b c)(n:e a b c)(o:f a b c)(p:g a b c)(q:h a b c)(r:i a b c):∃a b c,d a b c/\e a b c/\f a b c/\g a b c/\h a b c/\i a b c:=⟨a,b,c,m,n,o,p,q,r⟩
theorem pI{k:Sort u0}{l:Sort u1}{m:Sort u2}{d e f g h i j:k->l->m->Prop}(a:k)(b:l)(c:m)(n:d a b c)(o:e a b c)(p:f a b c)(q:g a b c)(r:h a b c)(s:i a b c)(t:j a b c):∃a b c,d a b c/\e a b c/\f a b c/\g a b c/\h a b c/\i a b c/\j a b c:=⟨a,b,c,n,o,p,q,r,s,t⟩
theorem Fg{f:Sort u0}{g:Sort u1}{h:Sort u2}{i:Sort u3}{e:f->g->h->i->Prop}(a:f)(b:g)(c:h)(d:i)(j:e a b c d):∃a b c d,e a b c d:=⟨a,b,c,d,j⟩
theorem sp{g:Sort u0}{h:Sort u1}{i:Sort u2}{j:Sort u3}{e f:g->h->i->j->Prop}(a:g)(b:h)(c:i)(d:j)(k:e a b c d)(l:f a b c d):∃a b c d,e a b c d/\f a b c d:=⟨a,b,c,d,k,l⟩
theorem pJ{h:Sort u0}{i:Sort u1}{j:Sort u2}{k:Sort u3}{e f g:h->i->j->k->Prop}(a:h)(b:i)(c:j)(d:k)(l:e a b c d)(m:f a b c d)(n:g a b c d):∃a b c d,e a b c d/\f a b c d/\g a b c d:=⟨a,b,c,d,l,m,n⟩
theorem mm{i:Sort u0}{j:Sort u1}{k:Sort u2}{l:Sort u3}{e f g h:i->j->k->l->Prop}(a:i)(b:j)(c:k)(d:l)(m:e a b c d)(n:f a b c d)(o:g a b c d)(p:h a b c d):∃a b c d,e a b c d/\f a b c d/\g a b c d/\h a b c d:=⟨a,b,c,d,m,n,o,p⟩
theorem dY{j:Sort u0}{k:Sort u1}{l:Sort u2}{m:Sort u3}{e f g h i:j->k->l->m->Prop}(a:j)(b:k)(c:l)(d:m)(n:e a b c d)(o:f a b c d)(p:g a b c d)(q:h a b c d)(r:i a b c d):∃a b c d,e a b c d/\f a b c d/\g a b c d/\h a b c d/\i a b c d:=⟨a,b,c,d,n,o,p,q,r⟩
theorem Fh{k:Sort u0}{l:Sort u1}{m:Sort u2}{n:Sort u3}{e f g h i j:k->l->m->n->Prop}(a:k)(b:l)(c:m)(d:n)(o:e a b c d)(p:f a b c d)(q:g a b c d)(r:h a b c d)(s:i a b c d)(t:j a b c d):∃a b c d,e a b c d/\f a b c d/\g a b c d/\h a b c d/\i a b c d/\j a b c d:=⟨a,b,c,d,o,p,q,r,s,t⟩
theorem Nk{l:Sort u0}{m:Sort u1}{n:Sort u2}{o:Sort u3}{e f g h i j k:l->m->n->o->Prop}(a:l)(b:m)(c:n)(d:o)(p:e a b c d)(q:f a b c d)(r:g a b c d)(s:h a b c d)(t:i a b c d)(u:j a b c d)(v:k a b c d):∃a b c d,e a b c d/\f a b c d/\g a b c d/\h a b c d/\i a b c d/\j a b c d/\k a b c d:=⟨a,b,c,d,p,q,r,s,t,u,v⟩
theorem vy{n:Sort u0}{o:Sort u1}{p:Sort u2}{q:Sort u3}{e f g h i j k l m:n->o->p->q->Prop}(a:n)(b:o)(c:p)(d:q)(r:e a b c d)(s:f a b c d)(t:g a b c d)(u:h a b c d)(v:i a b c d)(w:j a b c d)(x:k a b c d)(y:l a b c d)(z:m a b c d):∃a b c d,e a b c d/\f a b c d/\g a b c d/\h a b c d/\i a b c d/\j a b c d/\k a b c d/\l a b c d/\m a b c d:=⟨a,b,c,d,r,s,t,u,v,w,x,y,z⟩
theorem Fi{h:Sort u0}{i:Sort u1}{j:Sort u2}{k:Sort u3}{l:Sort u4}{f g:h->i->j->k->l->Prop}(a:h)(b:i)(c:j)(d:k)(e:l)(m:f a b c d e)(n:g a b c d e):∃a b c d e,f a b c d e/\g a b c d e:=⟨a,b,c,d,e,m,n⟩
theorem sq{j:Sort u0}{k:Sort u1}{l:Sort u2}{m:Sort u3}{n:Sort u4}{f g h i:j->k->l->m->n->Prop}(a:j)(b:k)(c:l)(d:m)(e:n)(o:f a b c d e)(p:g a b c d e)(q:h a b c d e)(r:i a b c d e):∃a b c d e,f a b c d e/\g a b c d e/\h a b c d e/\i a b c d e:=⟨a,b,c,d,e,o,p,q,r⟩
theorem nH{k:Sort u0}{l:Sort u1}{m:Sort u2}{n:Sort u3}{o:Sort u4}{f g h i j:k->l->m->n->o->Prop}(a:k)(b:l)(c:m)(d:n)(e:o)(p:f a b c d e)(q:g a b c d e)(r:h a b c d e)(s:i a b c d e)(t:j a b c d e):∃a b c d e,f a b c d e/\g a b c d e/\h a b c d e/\i a b c d e/\j a b c d e:=⟨a,b,c,d,e,p,q,r,s,t⟩
theorem pK{l:Sort u0}{m:Sort u1}{n:Sort u2}{o:Sort u3}{p:Sort u4}{f g h i j k:l->m->n->o->p->Prop}(a:l)(b:m)(c:n)(d:o)(e:p)(q:f a b c d e)(r:g a b c d e)(s:h a b c d e)(t:i a b c d e)(u:j a b c d e)(v:k a b c d e):∃a b c d e,f a b c d e/\g a b c d e/\h a b c d e/\i a b c d e/\j a b c d e/\k a b c d e:=⟨a,b,c,d,e,q,r,s,t,u,v⟩
theorem nI{m:Sort u0}{n:Sort u1}{o:Sort u2}{p:Sort u3}{q:Sort u4}{f g h i j k l:m->n->o->p->q->Prop}(a:m)(b:n)(c:o)(d:p)(e:q)(r:f a b c d e)(s:g a b c d e)(t:h a b c d e)(u:i a b c d e)(v:j a b c d e)(w:k a b c d e)(x:l a b c d e):∃a b c d e,f a b c d e/\g a b c d e/\h a b c d e/\i a b c d e/\j a b c d e/\k a b c d e/\l a b c d e:=⟨a,b,c,d,e,r,s,t,u,v,w,x⟩
theorem vz{n:Sort u0}{o:Sort u1}{p:Sort u2}{q:Sort u3}{r:Sort u4}{f g h i j k l m:n->o->p->q->r->Prop}(a:n)(b:o)(c:p)(d:q)(e:r)(s:f a b c d e)(t:g a b c d e)(u:h a b c d e)(v:i a b c d e)(w:j a b c d e)(x:k a b c d e)(y:l a b c d e)(z:m a b c d e):∃a b c d e,f a b c d e/\g a b c d e/\h a b c d e/\i a b c d e/\j a b c d e/\k a b c d e/\l a b c d e/\m a b c d e:=⟨a,b,c,d,e,s,t,u,v,w,x,y,z⟩
theorem Fj{o:Sort u0}{p:Sort u1}{q:Sort u2}{r:Sort u3}{s:Sort u4}{f g h i j k l m n:o->p->q->r->s->Prop}(a:o)(b:p)(c:q)(d:r)(e:s)(t:f a b c d e)(u:g a b c d e)(v:h a b c d e)(w:i a b c d e)(x:j a b c d e)(y:k a b c d e)(z:l a b c d e)(A:m a b c d e)(B:n a b c d e):∃a b c d e,f a b c d e/\g a b c d e/\h a b c d e/\i a b c d e/\j a b c d e/\k a b c d e/\l a b c d e/\m a b c d e/\n a b c d e:=⟨a,b,c,d,e,t,u,v,w,x,y,z,A,B⟩
theorem Nl{i:Sort u0}{j:Sort u1}{k:Sort u2}{l:Sort u3}{m:Sort u4}{n:Sort u5}{g h:i->j->k->l->m->n->Prop}(a:i)(b:j)(c:k)(d:l)(e:m)(f:n)(o:g a b c d e f)(p:h a b c d e f):∃a b c d e f,g a b c d e f/\h a b c d e f:=⟨a,b,c,d,e,f,o,p⟩
theorem Nm{j:Sort u0}{k:Sort u1}{l:Sort u2}{m:Sort u3}{n:Sort u4}{o:Sort u5}{g h i:j->k->l->m->n->o->Prop}(a:j)(b:k)(c:l)(d:m)(e:n)(f:o)(p:g a b c d e f)(q:h a b c d e f)(r:i a b c d e f):∃a b c d e f,g a b c d e f/\h a b c d e f/\i a b c d e f:=⟨a,b,c,d,e,f,p,q,r⟩
theorem Fk{p:Sort u0}{q:Sort u1}{r:Sort u2}{s:Sort u3}{t:Sort u4}{u:Sort u5}{g h i j k l m n o:p->q->r->s->t->u->Prop}(a:p)(b:q)(c:r)(d:s)(e:t)(f:u)(v:g a b c d e f)(w:h a b c d e f)(x:i a b c d e f)(y:j a b c d e f)(z:k a b c d e f)(A:l a b c d e f)(B:m a b c d e f)(C:n a b c d e f)(D:o a b c d e f):∃a b c d e f,g a b c d e f/\h a b c d e f/\i a b c d e f/\j a b c d e f/\k a b c d e f/\l a b c d e f/\m a b c d e f/\n a b c d e f/\o a b c d e f:=⟨a,b,c,d,e,f,v,w,x,y,z,A,B,C,D⟩
theorem Nn{i:Sort u0}{j:Sort u1}{k:Sort u2}{l:Sort u3}{m:Sort u4}{n:Sort u5}{o:Sort u6}{h:i->j->k->l->m->n->o->Prop}(a:i)(b:j)(c:k)(d:l)(e:m)(f:n)(g:o)(p:h a b c d e f g):∃a b c d e f g,h a b c d e f g:=⟨a,b,c,d,e,f,g,p⟩
theorem Fl{j:Sort u0}{k:Sort u1}{l:Sort u2}{m:Sort u3}{n:Sort u4}{o:Sort u5}{p:Sort u6}{h i:j->k->l->m->n->o->p->Prop}(a:j)(b:k)(c:l)(d:m)(e:n)(f:o)(g:p)(q:h a b c d e f g)(r:i a b c d e f g):∃a b c d e f g,h a b c d e f g/\i a b c d e f g:=⟨a,b,c,d,e,f,g,q,r⟩
theorem Fm{k:Sort u0}{l:Sort u1}{m:Sort u2}{n:Sort u3}{o:Sort u4}{p:Sort u5}{q:Sort u6}{h i j:k->l->m->n->o->p->q->Prop}(a:k)(b:l)(c:m)(d:n)(e:o)(f:p)(g:q)(r:h a b c d e f g)(s:i a b c d e f g)(t:j a b c d e f g):∃a b c d e f g,h a b c d e f g/\i a b c d e f g/\j a b c d e f g:=⟨a,b,c,d,e,f,g,r,s,t⟩
theorem No{n:Sort u0}{o:Sort u1}{p:Sort u2}{q:Sort u3}{r:Sort u4}{s:Sort u5}{t:Sort u6}{h i j k l m:n->o->p->q->r->s->t->Prop}(a:n)(b:o)(c:p)(d:q)(e:r)(f:s)(g:t)(u:h a b c d e f g)(v:i a b c d e f g)(w:j a b c d e f g)(x:k a b c d e f g)(y:l a b c d e f g)(z:m a b c d e f g):∃a b c d e f g,h a b c d e f g/\i a b c d e f g/\j a b c d e f g/\k a b c d e f g/\l a b c d e f g/\m a b c d e f g:=⟨a,b,c,d,e,f,g,u,v,w,x,y,z⟩
theorem Fn{o:Sort u0}{p:Sort u1}{q:Sort u2}{r:Sort u3}{s:Sort u4}{t:Sort u5}{u:Sort u6}{h i j k l m n:o->p->q->r->s->t->u->Prop}(a:o)(b:p)(c:q)(d:r)(e:s)(f:t)(g:u)(v:h a b c d e f g)(w:i a b c d e f g)(x:j a b c d e f g)(y:k a b c d e f g)(z:l a b c d e f g)(A:m a b c d e f g)(B:n a b c d e f g):∃a b c d e f g,h a b c d e f g/\i a b c d e f g/\j a b c d e f g/\k a b c d e f g/\l a b c d e f g/\m a b c d e f g/\n a b c d e f g:=⟨a,b,c,d,e,f,g,v,w,x,y,z,A,B⟩
theorem nJ{n:Sort u0}{o:Sort u1}{p:Sort u2}{q:Sort u3}{r:Sort u4}{s:Sort u5}{t:Sort u6}{u:Sort u7}{i j k l m:n->o->p->q->r->s->t->u->Prop}(a:n)(b:o)(c:p)(d:q)(e:r)(f:s)(g:t)(h:u)(v:i a b c d e f g h)(w:j a b c d e f g h)(x:k a b c d e f g h)(y:l a b c d e f g h)(z:m a b c d e f g h):∃a b c d e f g h,i a b c d e f g h/\j a b c d e f g h/\k a b c d e f g h/\l a b c d e f g h/\m a b c d e f g h:=⟨a,b,c,d,e,f,g,h,v,w,x,y,z⟩
theorem Np{o:Sort u0}{p:Sort u1}{q:Sort u2}{r:Sort u3}{s:Sort u4}{t:Sort u5}{u:Sort u6}{v:Sort u7}{i j k l m n:o->p->q->r->s->t->u->v->Prop}(a:o)(b:p)(c:q)(d:r)(e:s)(f:t)(g:u)(h:v)(w:i a b c d e f g h)(x:j a b c d e f g h)(y:k a b c d e f g h)(z:l a b c d e f g h)(A:m a b c d e f g h)(B:n a b c d e f g h):∃a b c d e f g h,i a b c d e f g h/\j a b c d e f g h/\k a b c d e f g h/\l a b c d e f g h/\m a b c d e f g h/\n a b c d e f g h:=⟨a,b,c,d,e,f,g,h,w,x,y,z,A,B⟩
theorem pL{p:Sort u0}{q:Sort u1}{r:Sort u2}{s:Sort u3}{t:Sort u4}{u:Sort u5}{v:Sort u6}{w:Sort u7}{i j k l m n o:p->q->r->s->t->u->v->w->Prop}(a:p)(b:q)(c:r)(d:s)(e:t)(f:u)(g:v)(h:w)(x:i a b c d e f g h)(y:j a b c d e f g h)(z:k a b c d e f g h)(A:l a b c d e f g h)(B:m a b c d e f g h)(C:n a b c d e f g h)(D:o a b c d e f g h):∃a b c d e f g h,i a b c d e f g h/\j a b c d e f g h/\k a b c d e f g h/\l a b c d e f g h/\m a b c d e f g h/\n a b c d e f g h/\o a b c d e f g h:=⟨a,b,c,d,e,f,g,h,x,y,z,A,B,C,D⟩
theorem Fo{q:Sort u0}{r:Sort u1}{s:Sort u2}{t:Sort u3}{u:Sort u4}{v:Sort u5}{w:Sort u6}{x:Sort u7}{y:Sort u8}{j k l m n o p:q->r->s->t->u->v->w->x->y->Prop}(a:q)(b:r)(c:s)(d:t)(e:u)(f:v)(g:w)(h:x)(i:y)(z:j a b c d e f g h i)(A:k a b c d e f g h i)(B:l a b c d e f g h i)(C:m a b c d e f g h i)(D:n a b c d e f g h i)(E:o a b c d e f g h i)(G:p a b c d e f g h i):∃a b c d e f g h i,j a b c d e f g h i/\k a b c d e f g h i/\l a b c d e f g h i/\m a b c d e f g h i/\n a b c d e f g h i/\o a b c d e f g h i/\p a b c d e f g h i:=⟨a,b,c,d,e,f,g,h,i,z,A,B,C,D,E,G⟩
theorem ec{a:Sort w}{t f:a}{b:Prop}{P:a->Prop}(h:t=f/\b)(k:b->P f):P t:=rwl h.1<|k h.2
theorem vA{a:Sort w}{t f:a}{b c:Prop}{P:a->Prop}(h:t=f/\b/\c)(k:b->c->P f):P t:=rwl h.1<|k h.2.1 h.2.2
theorem lb{a:Sort w}{t f:a}{b c:Prop}{P:a->Prop}(h:b/\t=f/\c)(k:b->c->P f):P t:=rwl h.2.1<|k h.1 h.2.2
theorem Fp{a:Sort w}{t f:a}{b c d e:Prop}{P:a->Prop}(h:b/\t=f/\c/\d/\e)(k:b->c->d->e->P f):P t:=rwl h.2.1<|k h.1 h.2.2.1 h.2.2.2.1 h.2.2.2.2
theorem Fq{w:Sort u0}{x:Sort u1}{y:Sort u2}{z:Sort u3}{A:Sort u4}{B:Sort u5}{C:Sort u6}{D:Sort u7}{E:Sort u8}{G:Sort u9}{n:Sort w}{t:n}{f:w->x->y->z->A->B->C->D->E->G->n}{o p q r s u v:w->x->y->z->A->B->C->D->E->G->Prop}{P:n->Prop}(h:∃a b c d e g i j l m,t=f a b c d e g i j l m/\o a b c d e g i j l m/\p a b c d e g i j l m/\q a b c d e g i j l m/\r a b c d e g i j l m/\s a b c d e g i j l m/\u a b c d e g i j l m/\v a b c d e g i j l m)(k:∀a b c d e g i j l m,o a b c d e g i j l m->p a b c d e g i j l m->q a b c d e g i j l m->r a b c d e g i j l m->s a b c d e g i j l m->u a b c d e g i j l m->v a b c d e g i j l m->P (f a b c d e g i j l m)):P t:=h.elim λa h=>h.elim λb h=>h.elim λc h=>h.elim λd h=>h.elim λe h=>h.elim λg h=>h.elim λi h=>h.elim λj h=>h.elim λl h=>h.elim λm h=>rwl h.1<|k a b c d e g i j l m h.2.1 h.2.2.1 h.2.2.2.1 h.2.2.2.2.1 h.2.2.2.2.2.1 h.2.2.2.2.2.2.1 h.2.2.2.2.2.2.2
theorem Fr{y:Sort u0}{z:Sort u1}{D:Sort u2}{E:Sort u3}{G:Sort u4}{H:Sort u5}{I:Sort u6}{K:Sort u7}{L:Sort u8}{Q:Sort u9}{A:Sort u10}{B:Sort u11}{C:Sort u12}{q:Sort w}{t:q}{f:y->z->D->E->G->H->I->K->L->Q->A->B->C->q}{r s u v w x:y->z->D->E->G->H->I->K->L->Q->A->B->C->Prop}{P:q->Prop}(h:∃a b g i j l m n o p c d e,t=f a b g i j l m n o p c d e/\r a b g i j l m n o p c d e/\s a b g i j l m n o p c d e/\u a b g i j l m n o p c d e/\v a b g i j l m n o p c d e/\w a b g i j l m n o p c d e/\x a b g i j l m n o p c d e)(k:∀a b g i j l m n o p c d e,r a b g i j l m n o p c d e->s a b g i j l m n o p c d e->u a b g i j l m n o p c d e->v a b g i j l m n o p c d e->w a b g i j l m n o p c d e->x a b g i j l m n o p c d e->P (f a b g i j l m n o p c d e)):P t:=h.elim λa h=>h.elim λb h=>h.elim λg h=>h.elim λi h=>h.elim λj h=>h.elim λl h=>h.elim λm h=>h.elim λn h=>h.elim λo h=>h.elim λp h=>h.elim λc h=>h.elim λd h=>h.elim λe h=>rwl h.1<|k a b g i j l m n o p c d e h.2.1 h.2.2.1 h.2.2.2.1 h.2.2.2.2.1 h.2.2.2.2.2.1 h.2.2.2.2.2.2
theorem bz{c:Sort u0}{b:Sort w}{t:b}{f:c->b}{P:b->Prop}(h:∃a,t=f a)(k:∀a,P<|f a):P t:=h.elim λa h=>rwl h<|k a
theorem nK{d:Sort u0}{b:Sort w}{t:b}{f:d->b}{c:d->Prop}{P:b->Prop}(h:∃a,t=f a/\c a)(k:∀a,c a->P (f a)):P t:=h.elim λa h=>rwl h.1<|k a h.2
theorem bt{d:Sort u0}{b:Sort w}{t:b}{f:d->b}{c:d->Prop}{P:b->Prop}(h:∃a,c a/\t=f a)(k:∀a,c a->P (f a)):P t:=h.elim λa h=>rwl h.2<|k a h.1
theorem lc{e:Sort u0}{b:Sort w}{t:b}{f:e->b}{c d:e->Prop}{P:b->Prop}(h:∃a,t=f a/\c a/\d a)(k:∀a,c a->d a->P (f a)):P t:=h.elim λa h=>rwl h.1<|k a h.2.1 h.2.2
theorem mn{e:Sort u0}{b:Sort w}{t:b}{f:e->b}{c d:e->Prop}{P:b->Prop}(h:∃a,c a/\d a/\t=f a)(k:∀a,c a->d a->P (f a)):P t:=h.elim λa h=>rwl h.2.2<|k a h.1 h.2.1
theorem sr{g:Sort u0}{b:Sort w}{t:b}{f:g->b}{c d e:g->Prop}{P:b->Prop}(h:∃a,t=f a/\c a/\d a/\e a)(k:∀a,c a->d a->e a->P (f a)):P t:=h.elim λa h=>rwl h.1<|k a h.2.1 h.2.2.1 h.2.2.2
theorem Fs{g:Sort u0}{b:Sort w}{t:b}{f:g->b}{c d e:g->Prop}{P:b->Prop}(h:∃a,c a/\d a/\t=f a/\e a)(k:∀a,c a->d a->e a->P (f a)):P t:=h.elim λa h=>rwl h.2.2.1<|k a h.1 h.2.1 h.2.2.2
theorem pM{i:Sort u0}{b:Sort w}{t:b}{f:i->b}{c d e g:i->Prop}{P:b->Prop}(h:∃a,t=f a/\c a/\d a/\e a/\g a)(k:∀a,c a->d a->e a->g a->P (f a)):P t:=h.elim λa h=>rwl h.1<|k a h.2.1 h.2.2.1 h.2.2.2.1 h.2.2.2.2
theorem Ft{j:Sort u0}{b:Sort w}{t:b}{f:j->b}{c d e g i:j->Prop}{P:b->Prop}(h:∃a,t=f a/\c a/\d a/\e a/\g a/\i a)(k:∀a,c a->d a->e a->g a->i a->P (f a)):P t:=h.elim λa h=>rwl h.1<|k a h.2.1 h.2.2.1 h.2.2.2.1 h.2.2.2.2.1 h.2.2.2.2.2
theorem Nq{d:Sort u0}{e:Sort u1}{c:Sort w}{t:c}{f:d->e->c}{P:c->Prop}(h:∃a b,t=f a b)(k:∀a b,P<|f a b):P t:=h.elim λa h=>h.elim λb h=>rwl h<|k a b
theorem Fu{e:Sort u0}{g:Sort u1}{c:Sort w}{t:c}{f:e->g->c}{d:e->g->Prop}{P:c->Prop}(h:∃a b,t=f a b/\d a b)(k:∀a b,d a b->P (f a b)):P t:=h.elim λa h=>h.elim λb h=>rwl h.1<|k a b h.2
theorem hZ{g:Sort u0}{i:Sort u1}{c:Sort w}{t:c}{f:g->i->c}{d e:g->i->Prop}{P:c->Prop}(h:∃a b,t=f a b/\d a b/\e a b)(k:∀a b,d a b->e a b->P (f a b)):P t:=h.elim λa h=>h.elim λb h=>rwl h.1<|k a b h.2.1 h.2.2
theorem kt{i:Sort u0}{j:Sort u1}{c:Sort w}{t:c}{f:i->j->c}{d e g:i->j->Prop}{P:c->Prop}(h:∃a b,t=f a b/\d a b/\e a b/\g a b)(k:∀a b,d a b->e a b->g a b->P (f a b)):P t:=h.elim λa h=>h.elim λb h=>rwl h.1<|k a b h.2.1 h.2.2.1 h.2.2.2
theorem Fv{i:Sort u0}{j:Sort u1}{c:Sort w}{t:c}{f:i->j->c}{d e g:i->j->Prop}{P:c->Prop}(h:∃a b,d a b/\t=f a b/\e a b/\g a b)(k:∀a b,d a b->e a b->g a b->P (f a b)):P t:=h.elim λa h=>h.elim λb h=>rwl h.2.1<|k a b h.1 h.2.2.1 h.2.2.2
theorem ss{j:Sort u0}{l:Sort u1}{c:Sort w}{t:c}{f:j->l->c}{d e g i:j->l->Prop}{P:c->Prop}(h:∃a b,t=f a b/\d a b/\e a b/\g a b/\i a b)(k:∀a b,d a b->e a b->g a b->i a b->P (f a b)):P t:=h.elim λa h=>h.elim λb h=>rwl h.1<|k a b h.2.1 h.2.2.1 h.2.2.2.1 h.2.2.2.2
theorem Nr{l:Sort u0}{m:Sort u1}{c:Sort w}{t:c}{f:l->m->c}{d e g i j:l->m->Prop}{P:c->Prop}(h:∃a b,t=f a b/\d a b/\e a b/\g a b/\i a b/\j a b)(k:∀a b,d a b->e a b->g a b->i a b->j a b->P (f a b)):P t:=h.elim λa h=>h.elim λb h=>rwl h.1<|k a b h.2.1 h.2.2.1 h.2.2.2.1 h.2.2.2.2.1 h.2.2.2.2.2
theorem Fw{q:Sort u0}{r:Sort u1}{s:Sort u2}{d:Sort w}{t:d}{f:q->r->s->d}{e g i j l m n o p:q->r->s->Prop}{P:d->Prop}(h:∃a b c,t=f a b c/\e a b c/\g a b c/\i a b c/\j a b c/\l a b c/\m a b c/\n a b c/\o a b c/\p a b c)(k:∀a b c,e a b c->g a b c->i a b c->j a b c->l a b c->m a b c->n a b c->o a b c->p a b c->P (f a b c)):P t:=h.elim λa h=>h.elim λb h=>h.elim λc h=>rwl h.1<|k a b c h.2.1 h.2.2.1 h.2.2.2.1 h.2.2.2.2.1 h.2.2.2.2.2.1 h.2.2.2.2.2.2.1 h.2.2.2.2.2.2.2.1 h.2.2.2.2.2.2.2.2.1 h.2.2.2.2.2.2.2.2.2
theorem ld{i:Sort u0}{j:Sort u1}{l:Sort u2}{d:Sort w}{t:d}{f:i->j->l->d}{e g:i->j->l->Prop}{P:d->Prop}(h:∃a b c,t=f a b c/\e a b c/\g a b c)(k:∀a b c,e a b c->g a b c->P (f a b c)):P t:=h.elim λa h=>h.elim λb h=>h.elim λc h=>rwl h.1<|k a b c h.2.1 h.2.2
theorem st{j:Sort u0}{l:Sort u1}{m:Sort u2}{d:Sort w}{t:d}{f:j->l->m->d}{e g i:j->l->m->Prop}{P:d->Prop}(h:∃a b c,t=f a b c/\e a b c/\g a b c/\i a b c)(k:∀a b c,e a b c->g a b c->i a b c->P (f a b c)):P t:=h.elim λa h=>h.elim λb h=>h.elim λc h=>rwl h.1<|k a b c h.2.1 h.2.2.1 h.2.2.2
theorem Fx{l:Sort u0}{m:Sort u1}{n:Sort u2}{d:Sort w}{t:d}{f:l->m->n->d}{e g i j:l->m->n->Prop}{P:d->Prop}(h:∃a b c,t=f a b c/\e a b c/\g a b c/\i a b c/\j a b c)(k:∀a b c,e a b c->g a b c->i a b c->j a b c->P (f a b c)):P t:=h.elim λa h=>h.elim λb h=>h.elim λc h=>rwl h.1<|k a b c h.2.1 h.2.2.1 h.2.2.2.1 h.2.2.2.2
theorem vB{n:Sort u0}{o:Sort u1}{p:Sort u2}{d:Sort w}{t:d}{f:n->o->p->d}{e g i j l m:n->o->p->Prop}{P:d->Prop}(h:∃a b c,t=f a b c/\e a b c/\g a b c/\i a b c/\j a b c/\l a b c/\m a b c)(k:∀a b c,e a b c->g a b c->i a b c->j a b c->l a b c->m a b c->P (f a b c)):P t:=h.elim λa h=>h.elim λb h=>h.elim λc h=>rwl h.1<|k a b c h.2.1 h.2.2.1 h.2.2.2.1 h.2.2.2.2.1 h.2.2.2.2.2.1 h.2.2.2.2.2.2
theorem vC{i:Sort u0}{j:Sort u1}{l:Sort u2}{m:Sort u3}{e:Sort w}{t:e}{f:i->j->l->m->e}{g:i->j->l->m->Prop}{P:e->Prop}(h:∃a b c d,t=f a b c d/\g a b c d)(k:∀a b c d,g a b c d->P (f a b c d)):P t:=h.elim λa h=>h.elim λb h=>h.elim λc h=>h.elim λd h=>rwl h.1<|k a b c d h.2
theorem Fy{j:Sort u0}{l:Sort u1}{m:Sort u2}{n:Sort u3}{e:Sort w}{t:e}{f:j->l->m->n->e}{g i:j->l->m->n->Prop}{P:e->Prop}(h:∃a b c d,t=f a b c d/\g a b c d/\i a b c d)(k:∀a b c d,g a b c d->i a b c d->P (f a b c d)):P t:=h.elim λa h=>h.elim λb h=>h.elim λc h=>h.elim λd h=>rwl h.1<|k a b c d h.2.1 h.2.2
theorem Fz{l:Sort u0}{m:Sort u1}{n:Sort u2}{o:Sort u3}{e:Sort w}{t:e}{f:l->m->n->o->e}{g i j:l->m->n->o->Prop}{P:e->Prop}(h:∃a b c d,t=f a b c d/\g a b c d/\i a b c d/\j a b c d)(k:∀a b c d,g a b c d->i a b c d->j a b c d->P (f a b c d)):P t:=h.elim λa h=>h.elim λb h=>h.elim λc h=>h.elim λd h=>rwl h.1<|k a b c d h.2.1 h.2.2.1 h.2.2.2
theorem FA{l:Sort u0}{m:Sort u1}{n:Sort u2}{o:Sort u3}{e:Sort w}{t:e}{f:l->m->n->o->e}{g i j:l->m->n->o->Prop}{P:e->Prop}(h:∃a b c d,g a b c d/\t=f a b c d/\i a b c d/\j a b c d)(k:∀a b c d,g a b c d->i a b c d->j a b c d->P (f a b c d)):P t:=h.elim λa h=>h.elim λb h=>h.elim λc h=>h.elim λd h=>rwl h.2.1<|k a b c d h.1 h.2.2.1 h.2.2.2
theorem FB{m:Sort u0}{n:Sort u1}{o:Sort u2}{p:Sort u3}{e:Sort w}{t:e}{f:m->n->o->p->e}{g i j l:m->n->o->p->Prop}{P:e->Prop}(h:∃a b c d,t=f a b c d/\g a b c d/\i a b c d/\j a b c d/\l a b c d)(k:∀a b c d,g a b c d->i a b c d->j a b c d->l a b c d->P (f a b c d)):P t:=h.elim λa h=>h.elim λb h=>h.elim λc h=>h.elim λd h=>rwl h.1<|k a b c d h.2.1 h.2.2.1 h.2.2.2.1 h.2.2.2.2
theorem Nt{n:Sort u0}{o:Sort u1}{p:Sort u2}{q:Sort u3}{e:Sort w}{t:e}{f:n->o->p->q->e}{g i j l m:n->o->p->q->Prop}{P:e->Prop}(h:∃a b c d,t=f a b c d/\g a b c d/\i a b c d/\j a b c d/\l a b c d/\m a b c d)(k:∀a b c d,g a b c d->i a b c d->j a b c d->l a b c d->m a b c d->P (f a b c d)):P t:=h.elim λa h=>h.elim λb h=>h.elim λc h=>h.elim λd h=>rwl h.1<|k a b c d h.2.1 h.2.2.1 h.2.2.2.1 h.2.2.2.2.1 h.2.2.2.2.2
theorem FC{o:Sort u0}{p:Sort u1}{q:Sort u2}{r:Sort u3}{e:Sort w}{t:e}{f:o->p->q->r->e}{g i j l m n:o->p->q->r->Prop}{P:e->Prop}(h:∃a b c d,t=f a b c d/\g a b c d/\i a b c d/\j a b c d/\l a b c d/\m a b c d/\n a b c d)(k:∀a b c d,g a b c d->i a b c d->j a b c d->l a b c d->m a b c d->n a b c d->P (f a b c d)):P t:=h.elim λa h=>h.elim λb h=>h.elim λc h=>h.elim λd h=>rwl h.1<|k a b c d h.2.1 h.2.2.1 h.2.2.2.1 h.2.2.2.2.1 h.2.2.2.2.2.1 h.2.2.2.2.2.2
theorem FD{q:Sort u0}{r:Sort u1}{s:Sort u2}{u:Sort u3}{e:Sort w}{t:e}{f:q->r->s->u->e}{g i j l m n o p:q->r->s->u->Prop}{P:e->Prop}(h:∃a b c d,t=f a b c d/\g a b c d/\i a b c d/\j a b c d/\l a b c d/\m a b c d/\n a b c d/\o a b c d/\p a b c d)(k:∀a b c d,g a b c d->i a b c d->j a b c d->l a b c d->m a b c d->n a b c d->o a b c d->p a b c d->P (f a b c d)):P t:=h.elim λa h=>h.elim λb h=>h.elim λc h=>h.elim λd h=>rwl h.1<|k a b c d h.2.1 h.2.2.1 h.2.2.2.1 h.2.2.2.2.1 h.2.2.2.2.2.1 h.2.2.2.2.2.2.1 h.2.2.2.2.2.2.2.1 h.2.2.2.2.2.2.2.2
theorem FE{j:Sort u0}{l:Sort u1}{m:Sort u2}{n:Sort u3}{o:Sort u4}{g:Sort w}{t:g}{f:j->l->m->n->o->g}{i:j->l->m->n->o->Prop}{P:g->Prop}(h:∃a b c d e,t=f a b c d e/\i a b c d e)(k:∀a b c d e,i a b c d e->P (f a b c d e)):P t:=h.elim λa h=>h.elim λb h=>h.elim λc h=>h.elim λd h=>h.elim λe h=>rwl h.1<|k a b c d e h.2
theorem FF{m:Sort u0}{n:Sort u1}{o:Sort u2}{p:Sort u3}{q:Sort u4}{g:Sort w}{t:g}{f:m->n->o->p->q->g}{i j l:m->n->o->p->q->Prop}{P:g->Prop}(h:∃a b c d e,t=f a b c d e/\i a b c d e/\j a b c d e/\l a b c d e)(k:∀a b c d e,i a b c d e->j a b c d e->l a b c d e->P (f a b c d e)):P t:=h.elim λa h=>h.elim λb h=>h.elim λc h=>h.elim λd h=>h.elim λe h=>rwl h.1<|k a b c d e h.2.1 h.2.2.1 h.2.2.2
theorem su{n:Sort u0}{o:Sort u1}{p:Sort u2}{q:Sort u3}{r:Sort u4}{g:Sort w}{t:g}{f:n->o->p->q->r->g}{i j l m:n->o->p->q->r->Prop}{P:g->Prop}(h:∃a b c d e,t=f a b c d e/\i a b c d e/\j a b c d e/\l a b c d e/\m a b c d e)(k:∀a b c d e,i a b c d e->j a b c d e->l a b c d e->m a b c d e->P (f a b c d e)):P t:=h.elim λa h=>h.elim λb h=>h.elim λc h=>h.elim λd h=>h.elim λe h=>rwl h.1<|k a b c d e h.2.1 h.2.2.1 h.2.2.2.1 h.2.2.2.2
theorem FG{o:Sort u0}{p:Sort u1}{q:Sort u2}{r:Sort u3}{s:Sort u4}{g:Sort w}{t:g}{f:o->p->q->r->s->g}{i j l m n:o->p->q->r->s->Prop}{P:g->Prop}(h:∃a b c d e,t=f a b c d e/\i a b c d e/\j a b c d e/\l a b c d e/\m a b c d e/\n a b c d e)(k:∀a b c d e,i a b c d e->j a b c d e->l a b c d e->m a b c d e->n a b c d e->P (f a b c d e)):P t:=h.elim λa h=>h.elim λb h=>h.elim λc h=>h.elim λd h=>h.elim λe h=>rwl h.1<|k a b c d e h.2.1 h.2.2.1 h.2.2.2.1 h.2.2.2.2.1 h.2.2.2.2.2
theorem FH{p:Sort u0}{q:Sort u1}{r:Sort u2}{s:Sort u3}{u:Sort u4}{g:Sort w}{t:g}{f:p->q->r->s->u->g}{i j l m n o:p->q->r->s->u->Prop}{P:g->Prop}(h:∃a b c d e,t=f a b c d e/\i a b c d e/\j a b c d e/\l a b c d e/\m a b c d e/\n a b c d e/\o a b c d e)(k:∀a b c d e,i a b c d e->j a b c d e->l a b c d e->m a b c d e->n a b c d e->o a b c d e->P (f a b c d e)):P t:=h.elim λa h=>h.elim λb h=>h.elim λc h=>h.elim λd h=>h.elim λe h=>rwl h.1<|k a b c d e h.2.1 h.2.2.1 h.2.2.2.1 h.2.2.2.2.1 h.2.2.2.2.2.1 h.2.2.2.2.2.2
theorem FI{q:Sort u0}{r:Sort u1}{s:Sort u2}{u:Sort u3}{v:Sort u4}{g:Sort w}{t:g}{f:q->r->s->u->v->g}{i j l m n o p:q->r->s->u->v->Prop}{P:g->Prop}(h:∃a b c d e,t=f a b c d e/\i a b c d e/\j a b c d e/\l a b c d e/\m a b c d e/\n a b c d e/\o a b c d e/\p a b c d e)(k:∀a b c d e,i a b c d e->j a b c d e->l a b c d e->m a b c d e->n a b c d e->o a b c d e->p a b c d e->P (f a b c d e)):P t:=h.elim λa h=>h.elim λb h=>h.elim λc h=>h.elim λd h=>h.elim λe h=>rwl h.1<|k a b c d e h.2.1 h.2.2.1 h.2.2.2.1 h.2.2.2.2.1 h.2.2.2.2.2.1 h.2.2.2.2.2.2.1 h.2.2.2.2.2.2.2
theorem Nu{r:Sort u0}{s:Sort u1}{u:Sort u2}{v:Sort u3}{w:Sort u4}{g:Sort w}{t:g}{f:r->s->u->v->w->g}{i j l m n o p q:r->s->u->v->w->Prop}{P:g->Prop}(h:∃a b c d e,t=f a b c d e/\i a b c d e/\j a b c d e/\l a b c d e/\m a b c d e/\n a b c d e/\o a b c d e/\p a b c d e/\q a b c d e)(k:∀a b c d e,i a b c d e->j a b c d e->l a b c d e->m a b c d e->n a b c d e->o a b c d e->p a b c d e->q a b c d e->P (f a b c d e)):P t:=h.elim λa h=>h.elim λb h=>h.elim λc h=>h.elim λd h=>h.elim λe h=>rwl h.1<|k a b c d e h.2.1 h.2.2.1 h.2.2.2.1 h.2.2.2.2.1 h.2.2.2.2.2.1 h.2.2.2.2.2.2.1 h.2.2.2.2.2.2.2.1 h.2.2.2.2.2.2.2.2
theorem FJ{s:Sort u0}{u:Sort u1}{v:Sort u2}{w:Sort u3}{x:Sort u4}{y:Sort u5}{i:Sort w}{t:i}{f:s->u->v->w->x->y->i}{j l m n o p q r:s->u->v->w->x->y->Prop}{P:i->Prop}(h:∃a b c d e g,t=f a b c d e g/\j a b c d e g/\l a b c d e g/\m a b c d e g/\n a b c d e g/\o a b c d e g/\p a b c d e g/\q a b c d e g/\r a b c d e g)(k:∀a b c d e g,j a b c d e g->l a b c d e g->m a b c d e g->n a b c d e g->o a b c d e g->p a b c d e g->q a b c d e g->r a b c d e g->P (f a b c d e g)):P t:=h.elim λa h=>h.elim λb h=>h.elim λc h=>h.elim λd h=>h.elim λe h=>h.elim λg h=>rwl h.1<|k a b c d e g h.2.1 h.2.2.1 h.2.2.2.1 h.2.2.2.2.1 h.2.2.2.2.2.1 h.2.2.2.2.2.2.1 h.2.2.2.2.2.2.2.1 h.2.2.2.2.2.2.2.2
theorem FK{m:Sort u0}{n:Sort u1}{o:Sort u2}{p:Sort u3}{q:Sort u4}{r:Sort u5}{s:Sort u6}{j:Sort w}{t:j}{f:m->n->o->p->q->r->s->j}{l:m->n->o->p->q->r->s->Prop}{P:j->Prop}(h:∃a b c d e g i,t=f a b c d e g i/\l a b c d e g i)(k:∀a b c d e g i,l a b c d e g i->P (f a b c d e g i)):P t:=h.elim λa h=>h.elim λb h=>h.elim λc h=>h.elim λd h=>h.elim λe h=>h.elim λg h=>h.elim λi h=>rwl h.1<|k a b c d e g i h.2
theorem FL{n:Sort u0}{o:Sort u1}{p:Sort u2}{q:Sort u3}{r:Sort u4}{s:Sort u5}{u:Sort u6}{j:Sort w}{t:j}{f:n->o->p->q->r->s->u->j}{l m:n->o->p->q->r->s->u->Prop}{P:j->Prop}(h:∃a b c d e g i,t=f a b c d e g i/\l a b c d e g i/\m a b c d e g i)(k:∀a b c d e g i,l a b c d e g i->m a b c d e g i->P (f a b c d e g i)):P t:=h.elim λa h=>h.elim λb h=>h.elim λc h=>h.elim λd h=>h.elim λe h=>h.elim λg h=>h.elim λi h=>rwl h.1<|k a b c d e g i h.2.1 h.2.2
theorem FM{r:Sort u0}{s:Sort u1}{u:Sort u2}{v:Sort u3}{w:Sort u4}{x:Sort u5}{y:Sort u6}{j:Sort w}{t:j}{f:r->s->u->v->w->x->y->j}{l m n o p q:r->s->u->v->w->x->y->Prop}{P:j->Prop}(h:∃a b c d e g i,t=f a b c d e g i/\l a b c d e g i/\m a b c d e g i/\n a b c d e g i/\o a b c d e g i/\p a b c d e g i/\q a b c d e g i)(k:∀a b c d e g i,l a b c d e g i->m a b c d e g i->n a b c d e g i->o a b c d e g i->p a b c d e g i->q a b c d e g i->P (f a b c d e g i)):P t:=h.elim λa h=>h.elim λb h=>h.elim λc h=>h.elim λd h=>h.elim λe h=>h.elim λg h=>h.elim λi h=>rwl h.1<|k a b c d e g i h.2.1 h.2.2.1 h.2.2.2.1 h.2.2.2.2.1 h.2.2.2.2.2.1 h.2.2.2.2.2.2
theorem Nv{q:Sort u0}{r:Sort u1}{s:Sort u2}{u:Sort u3}{v:Sort u4}{w:Sort u5}{x:Sort u6}{y:Sort u7}{l:Sort w}{t:l}{f:q->r->s->u->v->w->x->y->l}{m n o p:q->r->s->u->v->w->x->y->Prop}{P:l->Prop}(h:∃a b c d e g i j,t=f a b c d e g i j/\m a b c d e g i j/\n a b c d e g i j/\o a b c d e g i j/\p a b c d e g i j)(k:∀a b c d e g i j,m a b c d e g i j->n a b c d e g i j->o a b c d e g i j->p a b c d e g i j->P (f a b c d e g i j)):P t:=h.elim λa h=>h.elim λb h=>h.elim λc h=>h.elim λd h=>h.elim λe h=>h.elim λg h=>h.elim λi h=>h.elim λj h=>rwl h.1<|k a b c d e g i j h.2.1 h.2.2.1 h.2.2.2.1 h.2.2.2.2
theorem FN{r:Sort u0}{s:Sort u1}{u:Sort u2}{v:Sort u3}{w:Sort u4}{x:Sort u5}{y:Sort u6}{z:Sort u7}{l:Sort w}{t:l}{f:r->s->u->v->w->x->y->z->l}{m n o p q:r->s->u->v->w->x->y->z->Prop}{P:l->Prop}(h:∃a b c d e g i j,t=f a b c d e g i j/\m a b c d e g i j/\n a b c d e g i j/\o a b c d e g i j/\p a b c d e g i j/\q a b c d e g i j)(k:∀a b c d e g i j,m a b c d e g i j->n a b c d e g i j->o a b c d e g i j->p a b c d e g i j->q a b c d e g i j->P (f a b c d e g i j)):P t:=h.elim λa h=>h.elim λb h=>h.elim λc h=>h.elim λd h=>h.elim λe h=>h.elim λg h=>h.elim λi h=>h.elim λj h=>rwl h.1<|k a b c d e g i j h.2.1 h.2.2.1 h.2.2.2.1 h.2.2.2.2.1 h.2.2.2.2.2
theorem vD{s:Sort u0}{u:Sort u1}{v:Sort u2}{w:Sort u3}{x:Sort u4}{y:Sort u5}{z:Sort u6}{A:Sort u7}{l:Sort w}{t:l}{f:s->u->v->w->x->y->z->A->l}{m n o p q r:s->u->v->w->x->y->z->A->Prop}{P:l->Prop}(h:∃a b c d e g i j,t=f a b c d e g i j/\m a b c d e g i j/\n a b c d e g i j/\o a b c d e g i j/\p a b c d e g i j/\q a b c d e g i j/\r a b c d e g i j)(k:∀a b c d e g i j,m a b c d e g i j->n a b c d e g i j->o a b c d e g i j->p a b c d e g i j->q a b c d e g i j->r a b c d e g i j->P (f a b c d e g i j)):P t:=h.elim λa h=>h.elim λb h=>h.elim λc h=>h.elim λd h=>h.elim λe h=>h.elim λg h=>h.elim λi h=>h.elim λj h=>rwl h.1<|k a b c d e g i j h.2.1 h.2.2.1 h.2.2.2.1 h.2.2.2.2.1 h.2.2.2.2.2.1 h.2.2.2.2.2.2
theorem Nw{u:Sort u0}{v:Sort u1}{w:Sort u2}{x:Sort u3}{y:Sort u4}{z:Sort u5}{A:Sort u6}{B:Sort u7}{C:Sort u8}{m:Sort w}{t:m}{f:u->v->w->x->y->z->A->B->C->m}{n o p q r s:u->v->w->x->y->z->A->B->C->Prop}{P:m->Prop}(h:∃a b c d e g i j l,t=f a b c d e g i j l/\n a b c d e g i j l/\o a b c d e g i j l/\p a b c d e g i j l/\q a b c d e g i j l/\r a b c d e g i j l/\s a b c d e g i j l)(k:∀a b c d e g i j l,n a b c d e g i j l->o a b c d e g i j l->p a b c d e g i j l->q a b c d e g i j l->r a b c d e g i j l->s a b c d e g i j l->P (f a b c d e g i j l)):P t:=h.elim λa h=>h.elim λb h=>h.elim λc h=>h.elim λd h=>h.elim λe h=>h.elim λg h=>h.elim λi h=>h.elim λj h=>h.elim λl h=>rwl h.1<|k a b c d e g i j l h.2.1 h.2.2.1 h.2.2.2.1 h.2.2.2.2.1 h.2.2.2.2.2.1 h.2.2.2.2.2.2
theorem FO{d:Sort u0}{b:Sort w}{t:b}{f:d->b}{c:d->Prop}{P:b->Prop}(h:∃a,c a/\f a=t)(k:∀a,c a->P (f a)):P t:=h.elim λa h=>rwr h.2<|k a h.1
theorem Nx{e:Sort u0}{b:Sort w}{t:b}{f:e->b}{c d:e->Prop}{P:b->Prop}(h:∃a,c a/\f a=t/\d a)(k:∀a,c a->d a->P (f a)):P t:=h.elim λa h=>rwr h.2.1<|k a h.1 h.2.2
set_option genSizeOf false
set_option genCtorIdx false
set_option genInjectivity false
inductive gT where|a(i:Nat)|c(k:Nat)|b(x y:gT)|d(k:Nat)(x:gT)
set_option genCtorIdx true
noncomputable def gT.za(c:List Nat):gT->Nat|.a i=>(c.drop i).headD 0|.c k=>k|.b x y=>x.za c+y.za c|.d k x=>k*x.za c
noncomputable def sv:List Nat->List Nat->List Nat|[],y=>y|a::x,y=>(a+y.headD 0)::sv x y.tail
noncomputable def eS:List Nat->List Nat->Nat|[],_=>0|a::x,c=>a*c.headD 0+eS x c.tail
noncomputable def vE:Nat->List Nat|0=>[1]|i+1=>0::vE i
noncomputable def gT.zb:gT->List Nat×Nat|.a i=>(vE i,0)|.c k=>([],k)|.b x y=>(sv x.zb.1 y.zb.1,x.zb.2+y.zb.2)|.d k x=>(x.zb.1.map (k*·),k*x.zb.2)
noncomputable def FP:List Nat->List Nat->Bool|[],_=>M|b::y,x=>oW b (x.headD 0)&&FP y x.tail
theorem FQ(y c:List Nat):eS y c=y.headD 0*c.headD 0+eS y.tail c.tail:=by cases y with|nil=>exact(Q2<|c.headD 0).symm|cons=>rfl
theorem Ny(x:List Nat):∀(y c:List Nat),eS (sv x y) c=eS x c+eS y c:=by induction x with|nil=>exactλy c=>(oX _).symm|cons a x b=>ext y c;rw[FQ y,<-Q3];show(a+y.headD 0)*c.headD 0+eS (sv x y.tail) c.tail=a*c.headD 0+eS x c.tail+y.headD 0*c.headD 0+eS y.tail c.tail;rw[b,Nat.add_mul,<-Q3,LI (a*c.headD 0)<|y.headD 0*c.headD 0]
theorem Nz(k:Nat)(x:List Nat):∀c:List Nat,eS (x.map (k*·)) c=k*eS x c:=by induction x with|nil=>exactλc=>rfl|cons a x b=>ext c;show k*a*c.headD 0+eS (x.map (k*·)) c.tail=k*(a*c.headD 0+eS x c.tail);rw[b,Nat.mul_add,Nat.mul_assoc]
theorem NA(i:Nat):∀c:List Nat,eS (vE i) c=(c.drop i).headD 0:=by induction i with|zero=>exactλc=>Nat.one_mul _|succ i a=>ext c;show 0*c.headD 0+eS (vE i) c.tail=_;rw[a,Q2,oX,List.drop_tail]
theorem NB(y:List Nat):∀(x c:List Nat),FP y x=M->eS y c<=eS x c:=by induction y with|nil=>exactλx c w=>fd _|cons b y a=>ext x c h;have h:=dB.mp h;rw[FQ x];exact oY (Nat.mul_le_mul_right _<|oZ h.1)<|a _ _ h.2
theorem FR(c:List Nat)(x:gT):x.za c=eS x.zb.1 c+x.zb.2:=by induction x with|a i=>exact(NA i c).symm|c k=>exact(oX k).symm|b x y a b=>show x.za c+y.za c=eS (sv x.zb.1 y.zb.1) c+(x.zb.2+y.zb.2);rw[Ny,a,b];exact Nat.add_add_add_comm ..|d k x a=>show k*x.za c=eS (x.zb.1.map (k*·)) c+k*x.zb.2;rw[Nz,a,Nat.mul_add]
abbrev pN:=List<|Nat×gT×gT
noncomputable def sw:pN->gT×gT|[]=>(.c 0,.c 0)|e::t=>(.b (.d e.1 e.2.1) (sw t).1,.b (.d e.1 e.2.2) (sw t).2)
def vF(s:gT×gT):Bool:=FP s.2.zb.1 s.1.zb.1&&oW (s.2.zb.2+1) s.1.zb.2
noncomputable def vG(c:List Nat)(P:Prop):pN->Prop|[]=>P|e::t=>e.2.1.za c<=e.2.2.za c->vG c P t
theorem FS{c:List Nat}{P:Prop}(H:pN):((sw H).1.za c<=(sw H).2.za c->P)->vG c P H:=by induction H with|nil=>exactλh=>h<|aO _|cons e t d=>exactλh a=>d λb=>h<|oY (rD e.1 a) b
theorem FT{c:List Nat}{s:gT×gT}(h:vF s=M)(g:s.1.za c<=s.2.za c):False:=by have h:=dB.mp h;rw[FR,FR]at g;exact LJ (Nat.add_lt_add_of_le_of_lt (NB _ _ c h.1)<|oZ h.2) g
theorem cj(c:List Nat)(H:pN)(h:vF (sw H)=M):vG c False H:=FS H<|FT h
theorem ak(c:List Nat)(l r:gT)(g:Nat)(H:pN)(h:vF (sw<|(g,.b r (.c 1),l)::H)=M):vG c (l.za c<=r.za c) H:=FS H λa=>DP λb=>FT h<|oY (rD g b) a
theorem cd(a b:Nat):a<=(a-b)+b:=uv.mp<|aO _
theorem FU(a b:Nat):a-b<=a:=rE a b
theorem cH(a b:Nat)(h:b<=a):(a-b)+b<=a:=kb<|pa h
theorem an{x y:Nat}(p q c d:Nat)(P:x+p<=y+q)(e:oW (c+q) (d+p)=M):x+c<=y+d:=ak [x,y,p,q,c,d] (.b (.a 0)<|.a 4) (.b (.a 1)<|.a 5) 1 [(1,.b (.a 0) (.a 2),.b (.a 1) (.a 3)),(1,.b (.a 4) (.a 3),.b (.a 5) (.a 2))] rfl P<|oZ e
theorem aA{x y z:Nat}(p q r s c d:Nat)(P:x+p<=y+q)(Q:y+r<=z+s)(e:oW (c+q+s) (d+p+r)=M):x+c<=z+d:=ak [x,y,z,p,q,r,s,c,d] (.b (.a 0)<|.a 7) (.b (.a 2)<|.a 8) 1 [(1,.b (.a 0) (.a 3),.b (.a 1) (.a 4)),(1,.b (.a 1) (.a 5),.b (.a 2) (.a 6)),(1,.b (.b (.a 7)<|.a 4) (.a 6),.b (.b (.a 8)<|.a 3) (.a 5))] rfl P Q<|oZ e
theorem bB{x:Nat}(p q:Nat)(P:x+p<=x+q)(e:oW (q+1) p=M):False:=LJ (Nat.add_lt_add_left (oZ e) x) P
theorem du(x c d:Nat)(e:oW c d=M):x+c<=x+d:=LK (oZ e) x
theorem aw{a b:Nat}(e:a=b):a<=b:=kb e
theorem ar{a b:Nat}(e:a=b):b<=a:=kb e.symm
theorem jx{n m:Nat}{k:Int}(h:n<=m)(e:aP ((m:Int)<k)=M):(n:Int)<k:=pb (hn.mpr h)<|of_decide_eq_true e
theorem NC:∀n:Nat,(if(n:Int)-1<0 then(0:Int)else(n:Int)-1)=((n-1:Nat):Int)|0=>rfl|n+1=>by have e:((n+1:Nat):Int)-1=n:=DQ (n:Int) 1;rw[e,if_neg<|DR.mpr<|uw n];rfl
theorem ND{m:Nat}(h:m<=3):(if(5:Int)-(m:Int)>1 then(5:Int)-(m:Int)else 1)=((5-m:Nat):Int):=(show∀m:Nat,m<4->(if(5:Int)-(m:Int)>1 then(5:Int)-(m:Int)else 1)=((5-m:Nat):Int)by decide) m<|Nat.lt_succ_of_le h
def vH(c:dV->bX->et->no->Option (et×no))(b:no->Bool)(p:dV)(w:bX)(n:Nat):et->no->Option et:=@Nat.rec (λz=>et->no->Option et) (λz z=>U) (λz a s t=>@DS (λz=>Option et) (@DS (λz=>Option et) U (@LL (et×no) (λz=>Option et) U (λr=>a r.1 r.2)<|c p w s t)<|b t) (V s)<|through t) n
theorem NE{c:String->Option Builtin}{p:dV}{w:bX}{b:Nat}{a:Option ab}:∀(n:Nat)(s:et)(t:no)(r:et),vH (ux<|uy c) (uz b a) p w n s t=V r->topRun c p w b a n s.abs t=V r.abs|0,_,_,_,h=>nomatch h|n+1,s,t,r,h=>by have h:@DS (λz=>Option et) (@DS (λz=>Option et) U (@LL (et×no) (λz=>Option et) U (λr=>vH (ux<|uy c) (uz b a) p w n r.1 r.2)<|ux (uy c) p w s t)<|uz b a t) (V s) (through t)=V r:=h;unfold topRun;cases f:through t with|true=>rw[f]at h;cases h;rfl|false=>rw[f]at h;cases e:uz b a t with|false=>rw[e]at h;cases h|true=>rw[e]at h;cases d:ux (uy c) p w s t with|none=>rw[d]at h;cases h|some q=>rw[d]at h;rw[stepT_spec d];exact NE n q.1 q.2 r h
noncomputable abbrev aaI:Nat:=11
def FV(P:Params):BT:=@List.rec cx (λw=>BT->Nat->BT) (λt w=>t) (λo w a t n=>a (t.ins n o)<|n+1) (jj P).objs.toList .nil 0
theorem NF(P:Params):absHeap (FV P) 11 (jj P).life=jj P:=by rfl
def FW(w:bX)(a:lR):et:=⟨FV w.params,11,(jj w.params).life,#[],DT,DU,a⟩
theorem NG(w:bX)(a:lR):(FW w a).abs=⟨jj w.params,#[],DT,DU,a⟩:=by exact congrArg (λh=>Shared.mk h _ _ _ _)<|NF w.params
noncomputable abbrev gu:dV:=adl
theorem NH(w:bX):((jj w.params).isNs gl&&(#[]:Array GenState).size==0,(jj w.params).objs.size,(jj w.params).nsMap gl "__annotations__")=(M,11,V (fB 6)):=by kernel_rfl
def vI:=adm<|adn ado
def vJ:=adp 11<|V<|fB 6
theorem NI:ux (uy pc)=vI:=by unfold vI;rw[adq,adr,ads]
theorem NJ:uz 11 (V<|fB 6)=vJ:=by unfold vJ;rw[adt]
def pO(w:bX)(a:lR):Option et:=vH vI vJ gu w 4100 (FW w a)<|topStub gu
noncomputable def NK:List Nat:=[0,2,3,4,5,6,7,9,10,11,12,13,14,16,17,18,20,21,22,23,24,27,28,29,30,31,32,33,34,35,37,38,39,40,41,42,43,44,45]
theorem NL(w:bX)(a:lR):(pO w a).map (λs=>staticsOk (rF gu.main.body) (jj w.params) s.abs.heap&&LM gu s.abs.heap&&gensDone s.abs&&laidKept (jj w.params) s.abs.heap)=V M:=by kernel_rfl
def gv:dV:={gu with main:={gu.main with body:=NK.filterMap λi=>gu.main.body[i]?}}
noncomputable def mo:List N:=[aF "ToolError",aF "plain_grammar"]
def iH{b c:Type}(x:b×c):b:=@Prod.rec b c (λw=>b) (λa w=>a) x
def cX{c a:Type}(x:c×a):a:=@Prod.rec c a (λw=>a) (λw b=>b) x
def sx(s:al):Bool:=xlAt gv [] s&&recOk [] s
def le(s:et):=adu gv mo (rF gu.main.body) sx M s.abs
theorem NM(s:et):le s=openSeen gv mo (rF gu.main.body) sx M s.abs:=by unfold le;rw[adv]
theorem NN(w:bX)(a:lR):(pO w a).map (λs=>(iH (le s),iH (cX<|le s),iH (cX<|cX<|le s),iH (cX<|cX<|cX<|le s),iH (cX<|cX<|cX<|cX<|le s)))=V (expectedOf gv,bltViewBooted,M,M,pinGoodD (drecsOf gv)):=by kernel_rfl
theorem NO(w:bX)(a:lR):(pO w a).map (λs=>cX<|cX<|cX<|cX<|cX<|le s)=V (plainGoodE gv (looseW gv mo),plainGoodD gv mo,wideGood gv,clsGoodW gv mo):=by kernel_rfl
theorem NP{a b:Nat}(c:(a+70)<b):(a+60)<b:=ak [a,b] (.b (.b (.a 0)<|.c 60)<|.c 1) (.a 1) 1 [(1,.b (.b (.a 0)<|.c 70) (.c 1),.a 1)] rfl c
theorem pP{a:Nat}:¬(((a:Nat):Int)<0):=λb=>cj [a] [(1,.b (.a 0) (.c 1),.c 0)] rfl<|pd.mp b
theorem FX{a b:Nat}(c:(b-a)=0)(d:a<=b):a=b:=be (ak [a,b,b-a] (.a 0) (.a 1) 1 [(1,.a 0,.a 1)] rfl d)<|ak [a,b,b-a] (.a 1) (.a 0) 1 [(1,.a 2,.c 0),(1,.a 1,.b (.a 2) (.a 0))] rfl (aw c)<|cd b a
theorem FY{a b d:Nat}(c:(b-a)=(d+1)):a<b:=Nat.sub_pos_iff_lt.mp<|rwl c<|LN _
theorem FZ{a b c:Nat}(d:(a-b)=(c+1)):(a-(b+1))=c:=congrArg Nat.pred d
theorem vK{a b:Nat}(c:b<a):(a-(b+1))<(a-b):=ak [a,b,a-(b+1),a-b] (.b (.a 2)<|.c 1) (.a 3) 1 [(1,.b (.a 2) (.b (.a 1)<|.c 1),.a 0),(1,.a 0,.b (.a 3) (.a 1))] rfl (cH a (b+1)<|ak [a,b,a-(b+1),a-b] (.b (.a 1)<|.c 1) (.a 0) 1 [(1,.b (.a 1) (.c 1),.a 0)] rfl c)<|cd a b
theorem NQ{a b c:Nat}(d:c=(a-b))(e:b<a):(a-(b+1))<c:=ak [a,b,c,a-b,a-(b+1)] (.b (.a 4)<|.c 1) (.a 2) 1 [(1,.a 3,.a 2),(1,.a 0,.b (.a 3) (.a 1)),(1,.b (.a 4) (.b (.a 1)<|.c 1),.a 0)] rfl (ar d) (cd a b)<|cH a (b+1)<|ak [a,b,c,a-b,a-(b+1)] (.b (.a 1)<|.c 1) (.a 0) 1 [(1,.b (.a 1) (.c 1),.a 0)] rfl e
theorem NR{a b c:Nat}(d:b=c)(e:a<=c):(min a b)=a:=rG<|aj e<|ar d
theorem NS{a b:Nat}(c:((a+(60*(b+1)))+80)<=9900):(((a+1)+(60*b))+80)<=9900:=ak [a,b] (.b (.b (.b (.a 0)<|.c 1)<|.d 60<|.a 1)<|.c 80) (.c 9900) 1 [(1,.b (.b (.a 0)<|.d 60<|.b (.a 1)<|.c 1) (.c 80),.c 9900)] rfl c
theorem NT{a b c:Nat}(d:b<=c)(e:((a+(3*c))+6)<=1000):((a+(3*b))+6)<=1000:=ak [a,b,c] (.b (.b (.a 0)<|.d 3<|.a 1)<|.c 6) (.c 1000) 1 [(3,.a 1,.a 2),(1,.b (.b (.a 0)<|.d 3<|.a 2) (.c 6),.c 1000)] rfl d e
theorem NU{a b c:Nat}(d:b<=c)(e:((a+(60*c))+80)<=9900):((a+(60*b))+80)<=9900:=ak [a,b,c] (.b (.b (.a 0)<|.d 60<|.a 1)<|.c 80) (.c 9900) 1 [(60,.a 1,.a 2),(1,.b (.b (.a 0)<|.d 60<|.a 2) (.c 80),.c 9900)] rfl d e
theorem NV{a b:Nat}(c:((a+(3*b))+6)<=1000):a<1000:=ak [a,b] (.b (.a 0)<|.c 1) (.c 1000) 1 [(1,.b (.b (.a 0)<|.d 3<|.a 1) (.c 6),.c 1000)] rfl c
theorem NW{a b:Nat}(c:((a+(60*b))+80)<=9900):(a+70)<9900:=ak [a,b] (.b (.b (.a 0)<|.c 70)<|.c 1) (.c 9900) 1 [(1,.b (.b (.a 0)<|.d 60<|.a 1) (.c 80),.c 9900)] rfl c
theorem Ga{a b:Nat}(c:((a+(3*(b+1)))+6)<=1000):(((a+1)+(3*b))+6)<=1000:=ak [a,b] (.b (.b (.b (.a 0)<|.c 1)<|.d 3<|.a 1)<|.c 6) (.c 1000) 1 [(1,.b (.b (.a 0)<|.d 3<|.b (.a 1)<|.c 1) (.c 6),.c 1000)] rfl c
theorem NX{a b:Nat}(c:((a+(60*(b+1)))+80)<=9900):(((a+3)+(60*b))+80)<=9900:=ak [a,b] (.b (.b (.b (.a 0)<|.c 3)<|.d 60<|.a 1)<|.c 80) (.c 9900) 1 [(1,.b (.b (.a 0)<|.d 60<|.b (.a 1)<|.c 1) (.c 80),.c 9900)] rfl c
theorem Gb{a b:Nat}(c:(b+1)<=a):(a-b)=((a-(b+1))+1):=be (ak [a,b,a-b,a-(b+1)] (.a 2) (.b (.a 3)<|.c 1) 1 [(1,.b (.a 2) (.a 1),.a 0),(1,.a 0,.b (.a 3) (.b (.a 1)<|.c 1))] rfl (cH a b<|ak [a,b,a-b,a-(b+1)] (.a 1) (.a 0) 1 [(1,.b (.a 1) (.c 1),.a 0)] rfl c)<|cd a<|b+1)<|ak [a,b,a-b,a-(b+1)] (.b (.a 3)<|.c 1) (.a 2) 1 [(1,.a 0,.b (.a 2) (.a 1)),(1,.b (.a 3) (.b (.a 1)<|.c 1),.a 0)] rfl (cd a b)<|cH a (b+1)<|ak [a,b,a-b,a-(b+1)] (.b (.a 1)<|.c 1) (.a 0) 1 [(1,.b (.a 1) (.c 1),.a 0)] rfl c
theorem sy{a b:Nat}:(a+(b+1))=((a+1)+b):=be (ak [a,b] (.b (.a 0)<|.b (.a 1)<|.c 1) (.b (.b (.a 0)<|.c 1)<|.a 1) 1 [] rfl)<|ak [a,b] (.b (.b (.a 0)<|.c 1)<|.a 1) (.b (.a 0)<|.b (.a 1)<|.c 1) 1 [] rfl
theorem Gc{a b c:Nat}(d:a<=(4*c))(e:b<=3):(a+(b+1))<=(4*(c+1)):=ak [a,b,c] (.b (.a 0)<|.b (.a 1)<|.c 1) (.d 4<|.b (.a 2)<|.c 1) 1 [(1,.a 0,.d 4 (.a 2)),(1,.a 1,.c 3)] rfl d e
theorem NY{a b:Nat}(c:a<=(4*b))(d:b=6):a<=24:=ak [a,b] (.a 0) (.c 24) 1 [(1,.a 0,.d 4 (.a 1)),(4,.a 1,.c 6)] rfl c<|aw d
theorem NZ{a b:Nat}(c:b<=a):(a<=b)↔(b=a):=⟨λh=>be c h,λe=>ar e⟩
theorem Oa{a b:Nat}(c:a<=b)(d:b<=24):a<=24:=ak [a,b] (.a 0) (.c 24) 1 [(1,.a 0,.a 1),(1,.a 1,.c 24)] rfl c d
theorem Gd{a b:Nat}(c:a<b)(d:b<=10):((a:Nat):Int)<=1000000:=hn.mpr<|ak [a,b] (.a 0) (.c 1000000) 1 [(1,.b (.a 0) (.c 1),.a 1),(1,.a 1,.c 10)] rfl c d
theorem sz{a b c:Nat}(d:(a+(c+1))<=b):a<b:=ak [a,b,c] (.b (.a 0)<|.c 1) (.a 1) 1 [(1,.b (.a 0) (.b (.a 2)<|.c 1),.a 1)] rfl d
theorem Ob{a b c:Nat}(d:a<=24)(e:c<=24)(f:b<=c):(a+b)<=16777216:=ak [a,b,c] (.b (.a 0)<|.a 1) (.c 16777216) 1 [(1,.a 0,.c 24),(1,.a 2,.c 24),(1,.a 1,.a 2)] rfl d e f
theorem Oc{a b:Nat}(c:¬(a=b)):¬(((a:Nat):Int)=((b:Nat):Int)):=λe=>c<|Q4.mp e
theorem vL{a b:Nat}(c:((a:Nat):Int)=((b:Nat):Int)):a=b:=be (ak [a,b] (.a 0) (.a 1) 1 [(1,.a 0,.a 1)] rfl<|aw<|lS c)<|ak [a,b] (.a 1) (.a 0) 1 [(1,.a 1,.a 0)] rfl<|ar<|lS c
theorem Od{a b c d:Nat}(e:b<=24)(f:c<=b)(g:a<=d)(h:d<=c):a<=24:=ak [a,b,c,d] (.a 0) (.c 24) 1 [(1,.a 1,.c 24),(1,.a 2,.a 1),(1,.a 0,.a 3),(1,.a 3,.a 2)] rfl e f g h
theorem Oe{a b c:Nat}(d:b<=10)(e:a<=c)(f:c<=b):a<=16777216:=ak [a,b,c] (.a 0) (.c 16777216) 1 [(1,.a 1,.c 10),(1,.a 0,.a 2),(1,.a 2,.a 1)] rfl d e f
theorem Of{a b:Nat}:((a+1)+b)=(a+(b+1)):=be (ak [a,b] (.b (.b (.a 0)<|.c 1)<|.a 1) (.b (.a 0)<|.b (.a 1)<|.c 1) 1 [] rfl)<|ak [a,b] (.b (.a 0)<|.b (.a 1)<|.c 1) (.b (.b (.a 0)<|.c 1)<|.a 1) 1 [] rfl
theorem Ge{a b:Nat}(c:¬(a<b))(d:(a-b)=0):a=b:=be (ak [a,b,a-b] (.a 0) (.a 1) 1 [(1,.a 2,.c 0),(1,.a 0,.b (.a 2) (.a 1))] rfl (aw d)<|cd a b)<|ak [a,b,a-b] (.a 1) (.a 0) 1 [(1,.a 1,.a 0)] rfl<|DP c
theorem Og{a b c:Nat}(d:0<b)(e:c<=a):(((a+b)-(c+1))+(c+1))=(a+b):=be (ak [a,b,c,(a+b)-(c+1)] (.b (.a 3)<|.b (.a 2)<|.c 1) (.b (.a 0)<|.a 1) 1 [(1,.b (.a 3) (.b (.a 2)<|.c 1),.b (.a 0) (.a 1))] rfl<|cH (a+b) (c+1)<|ak [a,b,c,(a+b)-(c+1)] (.b (.a 2)<|.c 1) (.b (.a 0)<|.a 1) 1 [(1,.b (.c 0) (.c 1),.a 1),(1,.a 2,.a 0)] rfl d e)<|ak [a,b,c,(a+b)-(c+1)] (.b (.a 0)<|.a 1) (.b (.a 3)<|.b (.a 2)<|.c 1) 1 [(1,.b (.a 0) (.a 1),.b (.a 3) (.b (.a 2)<|.c 1))] rfl<|cd (a+b)<|c+1
theorem Oh{b c a d e:Nat}(f:(b+(c-a))<=d):(b+((c+1)-a))<=(d+(e+1)):=aj (LK (uv.mpr<|rwl (LI (c-a) 1 a)<|pe<|uv.mp<|aO _) b)<|aj (pe f)<|LK (pe<|fd e) d
theorem Oi{c d e f g h i a b:Nat}(j:d<=g)(k:0<f)(l:h=i)(m:(h+(a+1))=(c+d))(n:(i+(b+1))=(e+f))(o:((c+(g+1))+(b-(a+1)))<=e):(c+d)=(e+f):=(cj [c,d,e,f,g,h,i,a,b,b-(a+1)] [(1,.a 1,.a 4),(1,.b (.c 0) (.c 1),.a 3),(1,.a 6,.a 5),(1,.b (.a 5) (.b (.a 7)<|.c 1),.b (.a 0) (.a 1)),(1,.b (.a 2) (.a 3),.b (.a 6) (.b (.a 8)<|.c 1)),(1,.b (.b (.a 0)<|.b (.a 4)<|.c 1) (.a 9),.a 2),(1,.a 8,.b (.a 9) (.b (.a 7)<|.c 1))] rfl j k (ar l) (aw m) (ar n) o<|cd b<|a+1).elim
theorem Oj{a b c d e f:Nat}(g:(d+(e+1))=(a+b))(h:d=f)(i:(f+(e+1))=(a+c)):(a+b)=(a+c):=be (ak [a,b,c,d,e,f] (.b (.a 0)<|.a 1) (.b (.a 0)<|.a 2) 1 [(1,.b (.a 0) (.a 1),.b (.a 3) (.b (.a 4)<|.c 1)),(1,.a 3,.a 5),(1,.b (.a 5) (.b (.a 4)<|.c 1),.b (.a 0) (.a 2))] rfl (ar g) (aw h)<|aw i)<|ak [a,b,c,d,e,f] (.b (.a 0)<|.a 2) (.b (.a 0)<|.a 1) 1 [(1,.b (.a 3) (.b (.a 4)<|.c 1),.b (.a 0) (.a 1)),(1,.a 5,.a 3),(1,.b (.a 0) (.a 2),.b (.a 5) (.b (.a 4)<|.c 1))] rfl (aw g) (ar h)<|ar i
theorem Ok{c d e f g h i a b:Nat}(j:0<d)(k:f<=g)(l:h=i)(m:(h+(a+1))=(c+d))(n:(i+(b+1))=(e+f))(o:((e+(g+1))+(a-(b+1)))<=c):(c+d)=(e+f):=(cj [c,d,e,f,g,h,i,a,b,a-(b+1)] [(1,.b (.c 0) (.c 1),.a 1),(1,.a 3,.a 4),(1,.a 5,.a 6),(1,.b (.a 0) (.a 1),.b (.a 5) (.b (.a 7)<|.c 1)),(1,.b (.a 6) (.b (.a 8)<|.c 1),.b (.a 2) (.a 3)),(1,.b (.b (.a 2)<|.b (.a 4)<|.c 1) (.a 9),.a 0),(1,.a 7,.b (.a 9) (.b (.a 8)<|.c 1))] rfl j k (aw l) (ar m) (aw n) o<|cd a<|b+1).elim
theorem Ol{c d e a f b g:Nat}(h:d<=e)(i:(c+(a+1))=(f+d))(j:((f+(e+1))+(b-(a+1)))<=g)(k:g<=24)(l:b=6):c<18:=ak [c,d,e,a,f,b,g,b-(a+1)] (.b (.a 0)<|.c 1) (.c 18) 1 [(1,.a 1,.a 2),(1,.b (.a 0) (.b (.a 3)<|.c 1),.b (.a 4) (.a 1)),(1,.b (.b (.a 4)<|.b (.a 2)<|.c 1) (.a 7),.a 6),(1,.a 6,.c 24),(1,.c 6,.a 5),(1,.a 5,.b (.a 7) (.b (.a 3)<|.c 1))] rfl h (aw i) j k (ar l)<|cd b<|a+1
theorem vM{a:Nat}:0<(a+1):=ak [a] (.b (.c 0)<|.c 1) (.b (.a 0)<|.c 1) 1 [] rfl
theorem Om{a b c d e f:Nat}(g:((b+1)<c)/\((d=e)/\(a=(f+1)))):0<a:=ak [a,b,c,d,e,f] (.b (.c 0)<|.c 1) (.a 0) 1 [(1,.b (.a 5) (.c 1),.a 0)] rfl<|ar g.2.2
theorem Gf{a b:Nat}(c:a<=b)(d:b<=10):a<=10:=ak [a,b] (.a 0) (.c 10) 1 [(1,.a 0,.a 1),(1,.a 1,.c 10)] rfl c d
theorem On{a c b:Nat}(d:c=b)(e:¬(a<b))(f:(a-b)=0):a=c:=be (ak [a,c,b,a-b] (.a 0) (.a 1) 1 [(1,.a 2,.a 1),(1,.a 3,.c 0),(1,.a 0,.b (.a 3) (.a 2))] rfl (ar d) (aw f)<|cd a b)<|ak [a,c,b,a-b] (.a 1) (.a 0) 1 [(1,.a 1,.a 2),(1,.a 2,.a 0)] rfl (aw d)<|DP e
theorem vN{a:Nat}(b:a<=10):((a:Nat):Int)<=16777216:=hn.mpr<|ak [a] (.a 0) (.c 16777216) 1 [(1,.a 0,.c 10)] rfl b
theorem Gg{a:Nat}(b:a<=0):a=0:=be (ak [a] (.a 0) (.c 0) 1 [(1,.a 0,.c 0)] rfl b)<|ak [a] (.c 0) (.a 0) 1 [] rfl
theorem cO{a b:Nat}(c:a<(b+1))(d:¬(a=b)):a<b:=ho (kR c) d
theorem vO{a b:Nat}(c:b<=10)(d:a<b):((a:Nat):Int)<=1000000:=hn.mpr<|ak [a,b] (.a 0) (.c 1000000) 1 [(1,.a 1,.c 10),(1,.b (.a 0) (.c 1),.a 1)] rfl c d
theorem Oo{a b:Nat}(c:b<a):0<a:=ak [a,b] (.b (.c 0)<|.c 1) (.a 0) 1 [(1,.b (.a 1) (.c 1),.a 0)] rfl c
theorem Op{a b:Nat}(c:(b+0)<a):0<a:=ak [a,b] (.b (.c 0)<|.c 1) (.a 0) 1 [(1,.b (.b (.a 1)<|.c 0) (.c 1),.a 0)] rfl c
theorem fH{a:Nat}:0<=a:=ak [a] (.c 0) (.a 0) 1 [] rfl
theorem Oq{a b:Nat}(c:b<=262145)(d:a<b):(262146-(a+1))<(262146-a):=ak [a,b,262146-(a+1),262146-a] (.b (.a 2)<|.c 1) (.a 3) 1 [(1,.b (.a 2) (.b (.a 0)<|.c 1),.c 262146),(1,.c 262146,.b (.a 3) (.a 0))] rfl (cH 262146 (a+1)<|ak [a,b,262146-(a+1),262146-a] (.b (.a 0)<|.c 1) (.c 262146) 1 [(1,.a 1,.c 262145),(1,.b (.a 0) (.c 1),.a 1)] rfl c d)<|cd 262146 a
theorem Or{a:Nat}:((-((-((a:Nat):Int))-1))-1)=((a:Nat):Int):=(congrArg (·-1)<|(Int.neg_sub ..).trans<|Int.sub_neg ..).trans (by rw[LO];exact DQ _ 1)
theorem Os{a:Nat}:¬(0<=((-((a:Nat):Int))-1)):=Int.not_le.mpr<|Int.sub_one_lt_of_le<|Int.neg_nonpos_of_nonneg<|uw _
theorem nL{a:Nat}:0<=((a:Nat):Int):=hn.mpr<|ak [a] (.c 0) (.a 0) 1 [] rfl
theorem Ot{a b c d:Nat}(e:((a:Nat):Int)=((b:Nat):Int))(f:((c:Nat):Int)=((d:Nat):Int)):(a=b)/\(c=d):=⟨be (ak [a,b,c,d] (.a 0) (.a 1) 1 [(1,.a 0,.a 1)] rfl<|aw<|lS e)<|ak [a,b,c,d] (.a 1) (.a 0) 1 [(1,.a 1,.a 0)] rfl<|ar<|lS e,be (ak [a,b,c,d] (.a 2) (.a 3) 1 [(1,.a 2,.a 3)] rfl<|aw<|lS f)<|ak [a,b,c,d] (.a 3) (.a 2) 1 [(1,.a 3,.a 2)] rfl<|ar<|lS f⟩
theorem Ou{a b c d e:Nat}(f:c<=262145)(g:d<=6)(h:a<=(6*e))(i:e<c)(j:b<=d):(a+b)<=16777216:=ak [a,b,c,d,e] (.b (.a 0)<|.a 1) (.c 16777216) 1 [(6,.a 2,.c 262145),(1,.a 3,.c 6),(1,.a 0,.d 6 (.a 4)),(6,.b (.a 4) (.c 1),.a 2),(1,.a 1,.a 3)] rfl f g h i j
theorem Ov{a b c d e:Nat}(f:c<=262145)(g:a<=(6*d))(h:d<c)(i:b<=e)(j:e<=6):(a+b)<=2000000:=ak [a,b,c,d,e] (.b (.a 0)<|.a 1) (.c 2000000) 1 [(6,.a 2,.c 262145),(1,.a 0,.d 6 (.a 3)),(6,.b (.a 3) (.c 1),.a 2),(1,.a 1,.a 4),(1,.a 4,.c 6)] rfl f g h i j
theorem Ow{a b:Nat}(c:¬(a<b))(d:¬(a=b)):1<=(a-b):=Nat.sub_pos_of_lt<|ho (dM c)<|cy d
theorem Gh{a b:Nat}(c:(a-1)<b):a<=b:=ak [a,b,a-1] (.a 0) (.a 1) 1 [(1,.b (.a 2) (.c 1),.a 1),(1,.a 0,.b (.a 2) (.c 1))] rfl c<|cd a 1
theorem Ox{a:Nat}:1<=(a+1):=ak [a] (.c 1) (.b (.a 0)<|.c 1) 1 [] rfl
theorem Oy{d a b:Nat}(c:b<a):(d<a)->(b<a):=λw=>c
theorem Oz{a b:Nat}(c:a=(b+1))(d:a=0):False:=cj [a,b] [(1,.b (.a 1) (.c 1),.a 0),(1,.a 0,.c 0)] rfl (ar c)<|aw d
theorem OA{b a:Nat}(c:b=(a-1))(d:1<=a):(b+1)=a:=be (ak [b,a,a-1] (.b (.a 0)<|.c 1) (.a 1) 1 [(1,.a 0,.a 2),(1,.b (.a 2) (.c 1),.a 1)] rfl (aw c)<|cH a 1<|ak [b,a,a-1] (.c 1) (.a 1) 1 [(1,.c 1,.a 1)] rfl d)<|ak [b,a,a-1] (.a 1) (.b (.a 0)<|.c 1) 1 [(1,.a 2,.a 0),(1,.a 1,.b (.a 2) (.c 1))] rfl (ar c)<|cd a 1
theorem OB{a b f:Nat}(c:b≠0)(d:(1<=a)/\(a<=f)):(min a b)≠0:=λe=>(LP.mp e).elim (aL d.1) c
theorem OC{b a e c d:Nat}(g:(b+1)=c)(h:d=a)(i:d<=c):¬(((b+1)<a)/\(a<=(e+1))):=λf=>cj [b,a,e,c,d] [(1,.a 3,.b (.a 0) (.c 1)),(1,.a 1,.a 4),(1,.a 4,.a 3),(1,.b (.b (.a 0)<|.c 1) (.c 1),.a 1)] rfl (ar g) (ar h) i f.1
theorem OD{a b:Nat}(c:a<=0)(d:(b-1)<a):False:=cj [a,b,b-1] [(1,.a 0,.c 0),(1,.b (.a 2) (.c 1),.a 0)] rfl c d
theorem pQ{b a:Nat}(c:(b+1)=a):b=(a-1):=be (ak [b,a,a-1] (.a 0) (.a 2) 1 [(1,.b (.a 0) (.c 1),.a 1),(1,.a 1,.b (.a 2) (.c 1))] rfl (aw c)<|cd a 1)<|ak [b,a,a-1] (.a 2) (.a 0) 1 [(1,.a 1,.b (.a 0) (.c 1)),(1,.b (.a 2) (.c 1),.a 1)] rfl (ar c)<|cH a 1<|ak [b,a,a-1] (.c 1) (.a 1) 1 [(1,.b (.a 0) (.c 1),.a 1)] rfl<|aw c
theorem OE{b a:Nat}(c:b<a):b<((a-1)+1):=ak [b,a,a-1] (.b (.a 0)<|.c 1) (.b (.a 2)<|.c 1) 1 [(1,.b (.a 0) (.c 1),.a 1),(1,.a 1,.b (.a 2) (.c 1))] rfl c<|cd a 1
theorem OF{a c:Nat}(b:a<=0)(d:c<=(a+1)):a=(c-1):=(Nat.eq_zero_of_le_zero b).trans (Q5<|aj d<|pe b).symm
theorem OG{c a b:Nat}(d:b<=(a+1))(f:¬((a+1)=b))(g:c<=b):c≠(a+1):=λe=>f<|be (aj (ar e) g) d
theorem OH{a b c:Nat}(d:c<=(b+1))(e:a<(c+1)):(a-1)<=b:=LQ<|aj (kR e) d
theorem OI{b a:Nat}(c:b<=a):b<=((a-1)+1):=ak [b,a,a-1] (.a 0) (.b (.a 2)<|.c 1) 1 [(1,.a 0,.a 1),(1,.a 1,.b (.a 2) (.c 1))] rfl c<|cd a 1
theorem pR{b a:Nat}(c:b<(a-1)):(b+1)<a:=ak [b,a,a-1] (.b (.b (.a 0)<|.c 1)<|.c 1) (.a 1) 1 [(1,.b (.a 0) (.c 1),.a 2),(1,.b (.a 2) (.c 1),.a 1)] rfl c<|cH a 1<|ak [b,a,a-1] (.c 1) (.a 1) 1 [(1,.b (.a 0) (.c 1),.a 2),(1,.a 2,.a 1)] rfl c<|FU a 1
theorem OJ{a b c:Nat}(d:c<(b-1))(e:a<=(c+1)):(a-1)<(b-1):=uA (LQ e) d
theorem OK{a b:Nat}(c:1<=a)(d:a<b):(a-1)<(b-1):=ak [a,b,a-1,b-1] (.b (.a 2)<|.c 1) (.a 3) 1 [(1,.b (.a 0) (.c 1),.a 1),(1,.b (.a 2) (.c 1),.a 0),(1,.a 1,.b (.a 3) (.c 1))] rfl d (cH a 1<|ak [a,b,a-1,b-1] (.c 1) (.a 0) 1 [(1,.c 1,.a 0)] rfl c)<|cd b 1
theorem OL{a b:Nat}(d:b<(a-1)):a≠(b+1):=λc=>cj [a,b,a-1] [(1,.b (.a 1) (.c 1),.a 2),(1,.a 0,.b (.a 1) (.c 1)),(1,.b (.a 2) (.c 1),.a 0)] rfl d (aw c)<|cH a 1<|ak [a,b,a-1] (.c 1) (.a 0) 1 [(1,.b (.a 1) (.c 1),.a 0)] rfl<|ar c
theorem OM{a e b:Nat}(c:b<(a-1))(d:a<=(b+1)):a<=e:=absurd (LR c)<|kc.mpr d
theorem ON{b c d e f:Nat}(a:f<0):(b+c)=(d+e):=absurd a<|dW _
theorem OO{a b c d:Nat}(e:a=d):((a+b)+c)=((d+c)+b):=be (ak [a,b,c,d] (.b (.b (.a 0)<|.a 1)<|.a 2) (.b (.b (.a 3)<|.a 2)<|.a 1) 1 [(1,.a 0,.a 3)] rfl<|aw e)<|ak [a,b,c,d] (.b (.b (.a 3)<|.a 2)<|.a 1) (.b (.b (.a 0)<|.a 1)<|.a 2) 1 [(1,.a 3,.a 0)] rfl<|ar e
theorem OP{a b c d e:Nat}(f:(a+c)=(d+e)):((a+b)+c)=((d+b)+e):=be (ak [a,b,c,d,e] (.b (.b (.a 0)<|.a 1)<|.a 2) (.b (.b (.a 3)<|.a 1)<|.a 4) 1 [(1,.b (.a 0) (.a 2),.b (.a 3) (.a 4))] rfl<|aw f)<|ak [a,b,c,d,e] (.b (.b (.a 3)<|.a 1)<|.a 4) (.b (.b (.a 0)<|.a 1)<|.a 2) 1 [(1,.b (.a 3) (.a 4),.b (.a 0) (.a 2))] rfl<|ar f
theorem Gi{a b c:Nat}(d:(c+3)<b)(e:a<=c):a<=b:=ak [a,b,c] (.a 0) (.a 1) 1 [(1,.b (.b (.a 2)<|.c 3) (.c 1),.a 1),(1,.a 0,.a 2)] rfl d e
theorem OQ{a:Nat}(b:a<=16000000):((a:Nat):Int)<=16777216:=hn.mpr<|ak [a] (.a 0) (.c 16777216) 1 [(1,.a 0,.c 16000000)] rfl b
theorem Gj{a:Nat}:(((a:Nat):Int)+1)=((a+1:Nat):Int):=congrArg uB<|be (ak [a] (.b (.a 0)<|.c 1) (.b (.a 0)<|.c 1) 1 [] rfl)<|ak [a] (.b (.a 0)<|.c 1) (.b (.a 0)<|.c 1) 1 [] rfl
theorem OR{a b:Nat}(c:(a-1)<b):a<(b+1):=ak [a,b,a-1] (.b (.a 0)<|.c 1) (.b (.a 1)<|.c 1) 1 [(1,.b (.a 2) (.c 1),.a 1),(1,.a 0,.b (.a 2) (.c 1))] rfl c<|cd a 1
theorem Gk{b c a:Nat}(d:b<a)(e:(a-1)<c):b<c:=ak [b,c,a,a-1] (.b (.a 0)<|.c 1) (.a 1) 1 [(1,.b (.a 0) (.c 1),.a 2),(1,.b (.a 3) (.c 1),.a 1),(1,.a 2,.b (.a 3) (.c 1))] rfl d e<|cd a 1
theorem OS{c d a b e f:Nat}(g:(c+(d+2))=f):(c+((d+1)+(((a-b)+1)+e)))<(f+(((a-b)+1)+e)):=ak [c,d,a,b,e,f,a-b] (.b (.b (.a 0)<|.b (.b (.a 1)<|.c 1)<|.b (.b (.a 6)<|.c 1)<|.a 4)<|.c 1) (.b (.a 5)<|.b (.b (.a 6)<|.c 1)<|.a 4) 1 [(1,.b (.a 0) (.b (.a 1)<|.c 2),.a 5)] rfl<|aw g
theorem OT{a b e:Nat}(c:¬(b=0))(d:(1<=a)/\(a<=e)):(min a b)≠0:=aL<|Nat.lt_min.mpr ⟨d.1,rH c⟩
theorem OU{a b:Nat}(c:¬(b=0)):((min a b)=0)↔(a=0):=⟨λe=>(LP.mp e).resolve_right c,λe=>LP.mpr<|.inl e⟩
theorem OV{a b:Nat}(c:a<=b):(min a b)=a:=rG c
theorem Gl{a:Nat}:(-1)≠((a:Nat):Int):=λe=>absurd (e▸uw a:(0:Int)<=-1) (by decide)
theorem OW{a b:Nat}(c:¬(a=b)):((a:Nat):Int)≠((b:Nat):Int):=λe=>c<|Q4.mp e
theorem OX{b a:Nat}(d:a<=b)(c:(b-1)<a):(b-1)=(a-1):=be (ak [b,a,b-1,a-1] (.a 2) (.a 3) 1 [(1,.b (.a 2) (.c 1),.a 1),(1,.a 1,.b (.a 3) (.c 1))] rfl c<|cd a 1)<|ak [b,a,b-1,a-1] (.a 3) (.a 2) 1 [(1,.a 1,.a 0),(1,.a 0,.b (.a 2) (.c 1)),(1,.b (.a 3) (.c 1),.a 1)] rfl d (cd b 1)<|cH a 1<|ak [b,a,b-1,a-1] (.c 1) (.a 1) 1 [(1,.b (.a 2) (.c 1),.a 1)] rfl c
theorem OY{a b:Nat}(c:((a-1)+1)<=(b+1))(d:b≠(a-1)):(a+1)<=(b+1):=pe<|aj (uv.mp<|aO<|a-1)<|ho (Q6 c)<|cy d
theorem OZ{b a:Nat}(c:(1<=a)/\(a<=b)):((b+1)=0)↔(a=0):=⟨λe=>absurd e<|DV _,λe=>absurd e<|aL c.1⟩
theorem Pa{a b:Nat}(c:¬(((a:Nat):Int)=((b:Nat):Int))):a≠b:=λe=>c<|congrArg uB e
theorem Pb{a b c:Nat}(d:(a+(c+1))<=b):a<=b:=ak [a,b,c] (.a 0) (.a 1) 1 [(1,.b (.a 0) (.b (.a 2)<|.c 1),.a 1)] rfl d
theorem Pc{a b c:Nat}(d:(a+(b+1))<=c):((a+1)+b)<=c:=ak [a,b,c] (.b (.b (.a 0)<|.c 1)<|.a 1) (.a 2) 1 [(1,.b (.a 0) (.b (.a 1)<|.c 1),.a 2)] rfl d
theorem Pd{a c b:Nat}(d:(b-a)=c)(e:a<=b):(a+c)=b:=be (ak [a,c,b,b-a] (.b (.a 0)<|.a 1) (.a 2) 1 [(1,.a 1,.a 3),(1,.b (.a 3) (.a 0),.a 2)] rfl (ar d)<|cH b a<|ak [a,c,b,b-a] (.a 0) (.a 2) 1 [(1,.a 0,.a 2)] rfl e)<|ak [a,c,b,b-a] (.a 2) (.b (.a 0)<|.a 1) 1 [(1,.a 3,.a 1),(1,.a 2,.b (.a 3) (.a 0))] rfl (aw d)<|cd b a
theorem Pe:(0<0)->(0<0):=id
theorem Pf{a:Nat}(b:0=(a+1)):False:=cj [a] [(1,.b (.a 0) (.c 1),.c 0)] rfl<|ar b
theorem Pg{a:Nat}:(0<0)->(a<a):=λh=>absurd h<|np 0
theorem Ph{a:Nat}(b:(a-0)=0):a=0:=be (ak [a,a-0] (.a 0) (.c 0) 1 [(1,.a 1,.c 0),(1,.a 0,.b (.a 1) (.c 0))] rfl (aw b)<|cd a 0)<|ak [a,a-0] (.c 0) (.a 0) 1 [] rfl
theorem Gm{a:Nat}(b:a<=0)(c:0<a):False:=cj [a] [(1,.a 0,.c 0),(1,.b (.c 0) (.c 1),.a 0)] rfl b c
theorem Pi{a b:Nat}(c:b<=a):a=(b+(a-b)):=be (ak [a,b,a-b] (.a 0) (.b (.a 1)<|.a 2) 1 [(1,.a 0,.b (.a 2) (.a 1))] rfl<|cd a b)<|ak [a,b,a-b] (.b (.a 1)<|.a 2) (.a 0) 1 [(1,.b (.a 2) (.a 1),.a 0)] rfl<|cH a b<|ak [a,b,a-b] (.a 1) (.a 0) 1 [(1,.a 1,.a 0)] rfl c
theorem Pj{a:Nat}(b:¬(a=0)):0<a:=rH b
theorem Pk{a:Nat}:(0+a)<=a:=ak [a] (.b (.c 0)<|.a 0) (.a 0) 1 [] rfl
theorem Pl{a b c:Nat}(d:a<=(10*c))(e:b<=10):(a+b)<=(10*(c+1)):=ak [a,b,c] (.b (.a 0)<|.a 1) (.d 10<|.b (.a 2)<|.c 1) 1 [(1,.a 0,.d 10 (.a 2)),(1,.a 1,.c 10)] rfl d e
theorem Pm{a b c d e f:Nat}(g:c<=262145)(h:d<=10)(i:e<c)(j:a<=(10*e))(k:b<=f)(l:f<=d):(a+b)<=10000000:=ak [a,b,c,d,e,f] (.b (.a 0)<|.a 1) (.c 10000000) 1 [(10,.a 2,.c 262145),(1,.a 3,.c 10),(10,.b (.a 4) (.c 1),.a 2),(1,.a 0,.d 10 (.a 4)),(1,.a 1,.a 5),(1,.a 5,.a 3)] rfl g h i j k l
theorem Pn{a:Nat}:¬(((a:Nat):Int)=(-1)):=λe=>Gl e.symm
theorem Po{b a:Nat}(c:b<=(a-1))(d:0<a):(b+1)<=a:=ak [b,a,a-1] (.b (.a 0)<|.c 1) (.a 1) 1 [(1,.a 0,.a 2),(1,.b (.a 2) (.c 1),.a 1)] rfl c<|cH a 1<|ak [b,a,a-1] (.c 1) (.a 1) 1 [(1,.b (.c 0) (.c 1),.a 1)] rfl d
theorem Gn{a b:Nat}(c:b<=262145)(d:a<=(10*b)):a<=10000000:=ak [a,b] (.a 0) (.c 10000000) 1 [(10,.a 1,.c 262145),(1,.a 0,.d 10 (.a 1))] rfl c d
theorem Pp{a b c:Nat}(d:b<=10)(e:a<=c)(f:c<=b):a<=10:=ak [a,b,c] (.a 0) (.c 10) 1 [(1,.a 1,.c 10),(1,.a 0,.a 2),(1,.a 2,.a 1)] rfl d e f
theorem Pq{a b:Nat}:((a-1)<=b)↔(a<=(b+1)):=uv
theorem Pr{a b:Nat}(c:b<=(a+1)):(a+1)=(b+((a+1)-b)):=be (ak [a,b,(a+1)-b] (.b (.a 0)<|.c 1) (.b (.a 1)<|.a 2) 1 [(1,.b (.a 0) (.c 1),.b (.a 2) (.a 1))] rfl<|cd (a+1) b)<|ak [a,b,(a+1)-b] (.b (.a 1)<|.a 2) (.b (.a 0)<|.c 1) 1 [(1,.b (.a 2) (.a 1),.b (.a 0) (.c 1))] rfl<|cH (a+1) b<|ak [a,b,(a+1)-b] (.a 1) (.b (.a 0)<|.c 1) 1 [(1,.a 1,.b (.a 0) (.c 1))] rfl c
theorem Ps{a:Nat}:0<=(a+1):=ak [a] (.c 0) (.b (.a 0)<|.c 1) 1 [] rfl
theorem vP{a:Nat}:(((a+1:Nat):Int)-1)=((a:Nat):Int):=DQ (a:Int) 1
theorem Pt{a b:Nat}(c:a<b):((a+1)+(b-(a+1)))=b:=be (ak [a,b,b-(a+1)] (.b (.b (.a 0)<|.c 1)<|.a 2) (.a 1) 1 [(1,.b (.a 2) (.b (.a 0)<|.c 1),.a 1)] rfl<|cH b (a+1)<|ak [a,b,b-(a+1)] (.b (.a 0)<|.c 1) (.a 1) 1 [(1,.b (.a 0) (.c 1),.a 1)] rfl c)<|ak [a,b,b-(a+1)] (.a 1) (.b (.b (.a 0)<|.c 1)<|.a 2) 1 [(1,.a 1,.b (.a 2) (.b (.a 0)<|.c 1))] rfl<|cd b<|a+1
theorem Pu{a b:Nat}(c:b<=262145)(d:a<=(6*b)):a<=10000000:=ak [a,b] (.a 0) (.c 10000000) 1 [(6,.a 1,.c 262145),(1,.a 0,.d 6 (.a 1))] rfl c d
theorem Pv{a b d:Nat}(c:a<b)(e:b<d)(f:(a=b)\/(a=d)):False:=f.elim (bh c)<|bh<|gm c e
theorem Pw{a b:Nat}(c:a<=(10*b))(d:b<=262145):a<=10000000:=ak [a,b] (.a 0) (.c 10000000) 1 [(1,.a 0,.d 10 (.a 1)),(10,.a 1,.c 262145)] rfl c d
theorem Px{a c d e b f:Nat}(g:a<c)(h:c<d)(i:d<e)(j:e<=b)(k:b<f)(l:(a=b)\/(a=f)):False:=have A:=gP (gm g<|gm h i) j;l.elim (bh A) (bh<|gm A k)
theorem Py{a c d b e:Nat}(f:a<c)(g:c<d)(h:d<=b)(i:b<e)(j:(a=b)\/(a=e)):False:=have A:=gP (gm f g) h;j.elim (bh A) (bh<|gm A i)
theorem Pz{a c b d:Nat}(e:a<c)(f:c<=b)(g:b<d)(h:(a=b)\/(a=d)):False:=have A:=gP e f;h.elim (bh A) (bh<|gm A g)
theorem PA{d a b f:Nat}(c:d<=b)(g:b<f)(h:(a=b)\/(a=f)):d<=a:=h.elim (λe=>aj c<|ar e) λe=>aj c<|aj (gn g)<|ar e
theorem PB{a d e b c f g:Nat}(h:e=((a+b)+1))(i:e<=c)(j:f=((c+b)+1))(k:f<=g)(l:g<d):(min a d)=a:=rG<|gn<|uA (ds a b)<|gP (ar h)<|aj i<|aj (ds c b)<|gn<|gP (ar j)<|aj k<|gn l
theorem PC{a b c e f g h:Nat}(j:h=((a+c)+1))(k:h<=e)(l:f<a)(m:g<a)(i:b<c):(a<=(a+b))/\(((a+b)≠(a+c))/\(((a+b)≠(e+c))/\(((a+b)≠f)/\((a+b)≠g)))):=⟨ak [a,b,c,e,f,g,h] (.a 0) (.b (.a 0)<|.a 1) 1 [] rfl,⟨λd=>cj [a,b,c,e,f,g,h] [(1,.b (.a 1) (.c 1),.a 2),(1,.b (.a 0) (.a 2),.b (.a 0) (.a 1))] rfl i<|ar d,⟨λd=>cj [a,b,c,e,f,g,h] [(1,.b (.b (.a 0)<|.a 2) (.c 1),.a 6),(1,.a 6,.a 3),(1,.b (.a 1) (.c 1),.a 2),(1,.b (.a 3) (.a 2),.b (.a 0) (.a 1))] rfl (ar j) k i<|ar d,⟨λd=>cj [a,b,c,e,f,g,h] [(1,.b (.a 4) (.c 1),.a 0),(1,.b (.a 0) (.a 1),.a 4)] rfl l<|aw d,λd=>cj [a,b,c,e,f,g,h] [(1,.b (.a 5) (.c 1),.a 0),(1,.b (.a 0) (.a 1),.a 5)] rfl m<|aw d⟩⟩⟩⟩
theorem PD{c a b d i e j k l m g h:Nat}(v:i<e)(p:e<j)(q:j<k)(r:k<=l)(s:l<m)(t:m<g)(u:g<=c)(n:h=((c+d)+1))(o:h<=a)(w:b<d):(c<=(a+b))/\(((a+b)≠(c+d))/\(((a+b)≠(a+d))/\(((a+b)≠i)/\((a+b)≠e)))):=⟨ak [c,a,b,d,i,e,j,k,l,m,g,h] (.a 0) (.b (.a 1)<|.a 2) 1 [(1,.b (.b (.a 0)<|.a 3) (.c 1),.a 11),(1,.a 11,.a 1)] rfl (ar n) o,⟨λf=>cj [c,a,b,d,i,e,j,k,l,m,g,h] [(1,.b (.b (.a 0)<|.a 3) (.c 1),.a 11),(1,.a 11,.a 1),(1,.b (.a 1) (.a 2),.b (.a 0) (.a 3))] rfl (ar n) o<|aw f,⟨λf=>cj [c,a,b,d,i,e,j,k,l,m,g,h] [(1,.b (.a 2) (.c 1),.a 3),(1,.b (.a 1) (.a 3),.b (.a 1) (.a 2))] rfl w<|ar f,⟨λf=>cj [c,a,b,d,i,e,j,k,l,m,g,h] [(1,.b (.a 4) (.c 1),.a 5),(1,.b (.a 5) (.c 1),.a 6),(1,.b (.a 6) (.c 1),.a 7),(1,.a 7,.a 8),(1,.b (.a 8) (.c 1),.a 9),(1,.b (.a 9) (.c 1),.a 10),(1,.a 10,.a 0),(1,.b (.b (.a 0)<|.a 3) (.c 1),.a 11),(1,.a 11,.a 1),(1,.b (.a 1) (.a 2),.a 4)] rfl v p q r s t u (ar n) o<|aw f,λf=>cj [c,a,b,d,i,e,j,k,l,m,g,h] [(1,.b (.a 5) (.c 1),.a 6),(1,.b (.a 6) (.c 1),.a 7),(1,.a 7,.a 8),(1,.b (.a 8) (.c 1),.a 9),(1,.b (.a 9) (.c 1),.a 10),(1,.a 10,.a 0),(1,.b (.b (.a 0)<|.a 3) (.c 1),.a 11),(1,.a 11,.a 1),(1,.b (.a 1) (.a 2),.a 5)] rfl p q r s t u (ar n) o<|aw f⟩⟩⟩⟩
theorem Go{a b c:Nat}(d:(c+a)=(c+b)):a=b:=be (ak [a,b,c] (.a 0) (.a 1) 1 [(1,.b (.a 2) (.a 0),.b (.a 2) (.a 1))] rfl<|aw d)<|ak [a,b,c] (.a 1) (.a 0) 1 [(1,.b (.a 2) (.a 1),.b (.a 2) (.a 0))] rfl<|ar d
theorem PE{a b c f d e:Nat}(h:d=((a+e)+1))(i:d<=c)(j:b<e):(a+b)≠(c+f):=λg=>cj [a,b,c,f,d,e] [(1,.b (.b (.a 0)<|.a 5) (.c 1),.a 4),(1,.a 4,.a 2),(1,.b (.a 1) (.c 1),.a 5),(1,.b (.a 2) (.a 3),.b (.a 0) (.a 1))] rfl (ar h) i j<|ar g
theorem PF{a b c d e f:Nat}(g:c=((a+d)+1))(h:c<=e)(i:f=((e+d)+1))(j:f<=b):a<=b:=ak [a,b,c,d,e,f] (.a 0) (.a 1) 1 [(1,.b (.b (.a 0)<|.a 3) (.c 1),.a 2),(1,.a 2,.a 4),(1,.b (.b (.a 4)<|.a 3) (.c 1),.a 5),(1,.a 5,.a 1)] rfl (ar g) h (ar i) j
theorem PG{a h f c b d e l m n i j k:Nat}(o:h<f)(g:f<e)(q:e<l)(r:l<=m)(s:m<n)(t:n<i)(u:i<=c)(v:j=((c+b)+1))(w:j<=d)(x:k=((d+b)+1))(p:k<=a):(a≠h)/\((a≠f)/\((a≠(c+b))/\((a≠(d+b))/\(a≠e)))):=have A:d+b<a:=aj (ar x) p;have B:c+b<a:=gm (gP (aj (ar v) w)<|ds _ _) A;have C:e<a:=gm (gP q<|aj r<|gn<|gm s<|gP t<|aj u<|ds _ _) B;⟨aL<|gm o<|gm g C,aL<|gm g C,aL B,aL A,aL C⟩
theorem PH{a b c d e f g h:Nat}(i:c=b)(j:d=c)(k:e=d)(l:f=e)(m:g=f)(n:h=g)(o:a=h):a=b:=o.trans<|n.trans<|m.trans<|l.trans<|k.trans<|j.trans i
theorem PI{a c b d:Nat}(f:(b<a)/\(d<a)):(a+c)≠b:=λe=>cj [a,c,b,d] [(1,.b (.a 2) (.c 1),.a 0),(1,.b (.a 0) (.a 1),.a 2)] rfl f.1<|aw e
theorem PJ{a c b d:Nat}(f:(d<a)/\(b<a)):(a+c)≠b:=λe=>cj [a,c,b,d] [(1,.b (.a 2) (.c 1),.a 0),(1,.b (.a 0) (.a 1),.a 2)] rfl f.2<|aw e
theorem PK{a b c:Nat}(e:b<c):(a+b)≠(a+c):=λd=>cj [a,b,c] [(1,.b (.a 1) (.c 1),.a 2),(1,.b (.a 0) (.a 2),.b (.a 0) (.a 1))] rfl e<|ar d
theorem PL{a b c:Nat}(d:¬(c=b)):(a+b)≠(a+c):=λe=>d (Q7 e).symm
theorem PM{a b c:Nat}(e:b<c):(a+b)≠((a+c)+1):=λd=>cj [a,b,c] [(1,.b (.a 1) (.c 1),.a 2),(1,.b (.b (.a 0)<|.a 2) (.c 1),.b (.a 0) (.a 1))] rfl e<|ar d
theorem PN{a b c:Nat}(e:b<c):(a+b)≠((a+c)+2):=λd=>cj [a,b,c] [(1,.b (.a 1) (.c 1),.a 2),(1,.b (.b (.a 0)<|.a 2) (.c 2),.b (.a 0) (.a 1))] rfl e<|ar d
theorem PO{a c b d:Nat}(f:(b<a)/\(d<a)):((a+c)+1)≠b:=λe=>cj [a,c,b,d] [(1,.b (.a 2) (.c 1),.a 0),(1,.b (.b (.a 0)<|.a 1) (.c 1),.a 2)] rfl f.1<|aw e
theorem PP{a c b d:Nat}(f:(d<a)/\(b<a)):((a+c)+1)≠b:=λe=>cj [a,c,b,d] [(1,.b (.a 2) (.c 1),.a 0),(1,.b (.b (.a 0)<|.a 1) (.c 1),.a 2)] rfl f.2<|aw e
theorem PQ{a b c:Nat}(e:c<b):((a+b)+1)≠(a+c):=λd=>cj [a,b,c] [(1,.b (.a 2) (.c 1),.a 1),(1,.b (.b (.a 0)<|.a 1) (.c 1),.b (.a 0) (.a 2))] rfl e<|aw d
theorem PR{a c b d:Nat}(f:(b<a)/\(d<a)):((a+c)+2)≠b:=λe=>cj [a,c,b,d] [(1,.b (.a 2) (.c 1),.a 0),(1,.b (.b (.a 0)<|.a 1) (.c 2),.a 2)] rfl f.1<|aw e
theorem PS{a c b d:Nat}(f:(d<a)/\(b<a)):((a+c)+2)≠b:=λe=>cj [a,c,b,d] [(1,.b (.a 2) (.c 1),.a 0),(1,.b (.b (.a 0)<|.a 1) (.c 2),.a 2)] rfl f.2<|aw e
theorem PT{a b c:Nat}(e:c<b):((a+b)+2)≠(a+c):=λd=>cj [a,b,c] [(1,.b (.a 2) (.c 1),.a 1),(1,.b (.b (.a 0)<|.a 1) (.c 2),.b (.a 0) (.a 2))] rfl e<|aw d
theorem vQ{a:Nat}:0<=(((a:Nat):Int)+1):=hn.mpr<|ak [a] (.c 0) (.b (.a 0)<|.c 1) 1 [] rfl
theorem PU{a:Nat}(b:a<=3):(((a:Nat):Int)+1)<=16777216:=hn.mpr<|ak [a] (.b (.a 0)<|.c 1) (.c 16777216) 1 [(1,.a 0,.c 3)] rfl b
theorem PV{a b c d:Nat}(e:c=6)(f:d<c)(g:b<=3)(h:a<=(4*d)):(a+(b+1))<=16777215:=ak [a,b,c,d] (.b (.a 0)<|.b (.a 1)<|.c 1) (.c 16777215) 1 [(6,.a 2,.c 6),(6,.b (.a 3) (.c 1),.a 2),(1,.a 1,.c 3),(1,.a 0,.d 4 (.a 3))] rfl (aw e) f g h
theorem Gp{a b c d:Nat}(e:b<=d)(f:(a+(d+1))<=c):(a+b)<c:=ak [a,b,c,d] (.b (.b (.a 0)<|.a 1)<|.c 1) (.a 2) 1 [(1,.a 1,.a 3),(1,.b (.a 0) (.b (.a 3)<|.c 1),.a 2)] rfl e f
theorem PW{a b:Nat}:((a+b)-a)=b:=be (ak [a,b,(a+b)-a] (.a 2) (.a 1) 1 [(1,.b (.a 2) (.a 0),.b (.a 0) (.a 1))] rfl<|cH (a+b) a<|ak [a,b,(a+b)-a] (.a 0) (.b (.a 0)<|.a 1) 1 [] rfl)<|ak [a,b,(a+b)-a] (.a 1) (.a 2) 1 [(1,.b (.a 0) (.a 1),.b (.a 2) (.a 0))] rfl<|cd (a+b) a
theorem PX{c a b:Nat}(d:c<(a+(b+1))):(c-a)<=b:=LQ<|rwl (Q8 b a)<|kR d
theorem PY{a b:Nat}(c:¬(a<b)):a=(b+(a-b)):=be (ak [a,b,a-b] (.a 0) (.b (.a 1)<|.a 2) 1 [(1,.a 0,.b (.a 2) (.a 1))] rfl<|cd a b)<|ak [a,b,a-b] (.b (.a 1)<|.a 2) (.a 0) 1 [(1,.b (.a 2) (.a 1),.a 0)] rfl<|cH a b<|ak [a,b,a-b] (.a 1) (.a 0) 1 [(1,.a 1,.a 0)] rfl<|DP c
theorem PZ{a b:Nat}(c:b<=a):(((a:Nat):Int)-((b:Nat):Int))=((a-b:Nat):Int):=(DW c).symm
theorem Qa{a b:Nat}(c:a<=b):(a+((b-a)+1))=(b+1):=be (ak [a,b,b-a] (.b (.a 0)<|.b (.a 2)<|.c 1) (.b (.a 1)<|.c 1) 1 [(1,.b (.a 2) (.a 0),.a 1)] rfl<|cH b a<|ak [a,b,b-a] (.a 0) (.a 1) 1 [(1,.a 0,.a 1)] rfl c)<|ak [a,b,b-a] (.b (.a 1)<|.c 1) (.b (.a 0)<|.b (.a 2)<|.c 1) 1 [(1,.a 1,.b (.a 2) (.a 0))] rfl<|cd b a
theorem Qb{a b:Nat}(c:a<=6)(d:b<=3):(a+(b+1))<=10:=ak [a,b] (.b (.a 0)<|.b (.a 1)<|.c 1) (.c 10) 1 [(1,.a 0,.c 6),(1,.a 1,.c 3)] rfl c d
theorem vR{a b:Nat}(c:a<((b+1)+1))(d:¬(a=(b+1))):a<(b+1):=ho (kR c) d
theorem Gq{a:Nat}:(((a+1)+1)-a)=2:=be (ak [a,((a+1)+1)-a] (.a 1) (.c 2) 1 [(1,.b (.a 1) (.a 0),.b (.b (.a 0)<|.c 1) (.c 1))] rfl<|cH ((a+1)+1) a<|ak [a,((a+1)+1)-a] (.a 0) (.b (.b (.a 0)<|.c 1)<|.c 1) 1 [] rfl)<|ak [a,((a+1)+1)-a] (.c 2) (.a 1) 1 [(1,.b (.b (.a 0)<|.c 1) (.c 1),.b (.a 1) (.a 0))] rfl<|cd ((a+1)+1) a
theorem Qc{a:Nat}(b:a<=6):a<=16777215:=ak [a] (.a 0) (.c 16777215) 1 [(1,.a 0,.c 6)] rfl b
theorem Qd{a b:Nat}(c:a<=6)(d:b<=3):((a+1)+b)<=16777216:=ak [a,b] (.b (.b (.a 0)<|.c 1)<|.a 1) (.c 16777216) 1 [(1,.a 0,.c 6),(1,.a 1,.c 3)] rfl c d
theorem Gr{a:Nat}:((a+2)-a)=2:=be (ak [a,(a+2)-a] (.a 1) (.c 2) 1 [(1,.b (.a 1) (.a 0),.b (.a 0) (.c 2))] rfl<|cH (a+2) a<|ak [a,(a+2)-a] (.a 0) (.b (.a 0)<|.c 2) 1 [] rfl)<|ak [a,(a+2)-a] (.c 2) (.a 1) 1 [(1,.b (.a 0) (.c 2),.b (.a 1) (.a 0))] rfl<|cd (a+2) a
theorem Gs{a:Nat}(b:a<(0+1)):a=0:=be (ak [a] (.a 0) (.c 0) 1 [(1,.b (.a 0) (.c 1),.b (.c 0) (.c 1))] rfl b)<|ak [a] (.c 0) (.a 0) 1 [] rfl
theorem Gu{a:Nat}(b:a<=64):(Int.natAbs ((a:Nat):Int))<1073741824:=uA b (by decide)
theorem Qe{a b d f h:Nat}(c:(a<=d)/\((a<=f)/\(a<=h)))(g:(b=d)\/(b=f)):a<=b:=g.elim (λe=>aj c.1<|ar e) λe=>aj c.2.1<|ar e
theorem Qf{b c d a:Nat}(e:(b≠c)/\((d≠b)/\((d≠c)/\((a≠b)/\((a≠c)/\(a≠d))))))(f:(a=b)\/(a=c)):False:=f.elim e.2.2.2.1 e.2.2.2.2.1
theorem Qg{b c a d:Nat}(e:(b≠c)/\((a≠b)/\((a≠c)/\((d≠b)/\((d≠c)/\(d≠a))))))(f:(a=b)\/(a=c)):False:=f.elim e.2.1 e.2.2.1
theorem Qh{a c d f:Nat}(e:(a=c)\/(a=d))(b:(a≠c)/\((a≠d)/\(a≠f))):False:=e.elim b.1 b.2.1
theorem Qi{a b c d:Nat}(f:(a≠c)/\((b≠a)/\((b≠c)/\((d≠a)/\((d≠c)/\(d≠b)))))):¬(a=b):=λe=>f.2.1 e.symm
theorem Qj{a b c d:Nat}(f:(c≠a)/\((b≠c)/\((b≠a)/\((d≠c)/\((d≠a)/\(d≠b)))))):¬(a=b):=λe=>f.2.2.1 e.symm
theorem Qk{a b c d:Nat}(f:(c≠d)/\((a≠c)/\((a≠d)/\((b≠c)/\((b≠d)/\(b≠a)))))):a≠b:=λe=>f.2.2.2.2.2 e.symm
theorem Gv{a b:Nat}(c:¬(a=b))(d:a<(b+1)):a<b:=ho (kR d) c
theorem Gw{b a d e:Nat}(c:(a≠d)/\((a≠e)/\(a≠b))):b≠a:=c.2.2.symm
theorem vS{a:Nat}(b:a<=3):(min a 3)=a:=rG b
theorem Ql{a:Nat}(b:(a=1)\/((a=0)\/((a=2)\/(a=1)))):a<=2:=b.elim (λe=>rwl e<|by decide) λh=>h.elim (λe=>rwl e<|by decide) λh=>h.elim (λe=>rwl e<|by decide) λe=>rwl e (by decide)
theorem Qm{a b c d:Nat}(e:(b≠c)/\((d≠b)/\((d≠c)/\((a≠b)/\((a≠c)/\(a≠d)))))):a≠b:=e.2.2.2.1
theorem Qn{a b c d:Nat}(e:(c≠b)/\((d≠c)/\((d≠b)/\((a≠c)/\((a≠b)/\(a≠d)))))):a≠b:=e.2.2.2.2.1
theorem Qo{a:Nat}(b:(a=2)\/((a=3)\/((a=1)\/(a=2)))):a<=3:=have f:∀{k:Nat},oW k 3=M->a=k->a<=3:=λh e=>aj (kb e)<|oZ h;b.elim (f rfl) λh=>h.elim (f rfl) λh=>h.elim (f rfl)<|f rfl
theorem Qp{a:Nat}(b:a<=3):(2+a)<=16777216:=ak [a] (.b (.c 2)<|.a 0) (.c 16777216) 1 [(1,.a 0,.c 3)] rfl b
theorem Qq{a:Nat}(b:a<=3):(((a+1)+1)+a)<=16777216:=ak [a] (.b (.b (.b (.a 0)<|.c 1)<|.c 1)<|.a 0) (.c 16777216) 1 [(2,.a 0,.c 3)] rfl b
theorem Qr{a c:Nat}(b:a<=3):((min a c)+(min a c))<=62:=aj (oY (aj (hP _ _) b)<|aj (hP _ _) b) (by decide)
theorem Qs{a b:Nat}(c:b<(5-a)):(a+b)<=16777215:=rwl (Q8 a b)<|aj (gn<|LR c) (by decide)
theorem Qt{a:Nat}(b:a<=3):(a+(5-a))=5:=be (ak [a,5-a] (.b (.a 0)<|.a 1) (.c 5) 1 [(1,.b (.a 1) (.a 0),.c 5)] rfl<|cH 5 a<|ak [a,5-a] (.a 0) (.c 5) 1 [(1,.a 0,.c 3)] rfl b)<|ak [a,5-a] (.c 5) (.b (.a 0)<|.a 1) 1 [(1,.c 5,.b (.a 1) (.a 0))] rfl<|cd 5 a
theorem Qu{a:Nat}(b:(a=2)\/((a=1)\/((a=2)\/(a=3)))):(0<a)/\(a<=3):=b.elim (λe=>rwl e<|by decide) λh=>h.elim (λe=>rwl e<|by decide) λh=>h.elim (λe=>rwl e<|by decide) λe=>rwl e (by decide)
theorem Qv{a c d:Nat}(b:(c<a)/\(d<a)):¬((a=c)\/(a=d)):=λh=>h.elim (aL b.1)<|aL b.2
theorem Qw{a b c d:Nat}(f:a<=c)(g:a<=d)(h:(b=c)\/(b=d)):a<=b:=h.elim (λe=>e▸f) λe=>e▸g
theorem Qx{a b c d:Nat}(e:d<0):(0≠a)/\((0≠b)/\(0≠(c+1))):=⟨λf=>cj [a,b,c,d] [(1,.b (.a 3) (.c 1),.c 0)] rfl e,⟨λf=>cj [a,b,c,d] [(1,.b (.a 3) (.c 1),.c 0)] rfl e,λf=>cj [a,b,c,d] [(1,.b (.a 3) (.c 1),.c 0)] rfl e⟩⟩
theorem vT{a:Nat}:((a+1)-a)=1:=be (ak [a,(a+1)-a] (.a 1) (.c 1) 1 [(1,.b (.a 1) (.a 0),.b (.a 0) (.c 1))] rfl<|cH (a+1) a<|ak [a,(a+1)-a] (.a 0) (.b (.a 0)<|.c 1) 1 [] rfl)<|ak [a,(a+1)-a] (.c 1) (.a 1) 1 [(1,.b (.a 0) (.c 1),.b (.a 1) (.a 0))] rfl<|cd (a+1) a
theorem Qy{a b:Nat}(c:0=a)(d:b<a):False:=cj [a,b] [(1,.a 0,.c 0),(1,.b (.a 1) (.c 1),.a 0)] rfl (ar c) d
theorem Qz{a b c:Nat}(d:c=5)(e:a<=3)(f:b<=c):(a+b)<=16777216:=ak [a,b,c] (.b (.a 0)<|.a 1) (.c 16777216) 1 [(1,.a 2,.c 5),(1,.a 0,.c 3),(1,.a 1,.a 2)] rfl (aw d) e f
theorem QA{a b c:Nat}(d:c=5)(e:a<=3)(f:b<=c):(a+b)<60:=ak [a,b,c] (.b (.b (.a 0)<|.a 1)<|.c 1) (.c 60) 1 [(1,.a 2,.c 5),(1,.a 0,.c 3),(1,.a 1,.a 2)] rfl (aw d) e f
theorem QB{a:Nat}{c:Int}(d:a<=3)(b:c<((a:Nat):Int)):(lT<|4-((a:Nat):Int))<(lT<|4-c):=(Int.toNat_lt_toNat<|Int.sub_pos_of_lt<|Int.lt_of_lt_of_le b<|hn.mpr<|aj d<|by decide).mpr<|Int.sub_lt_sub_left b 4
theorem Gx{a b:Nat}(c:¬(((b:Nat):Int)<((a:Nat):Int))):a<=b:=kc.mp λh=>c<|pd.mpr h
theorem QC{a b c d:Nat}(e:c<=3)(f:b<=d)(g:d<=c):(a+b)<=(a+3):=ak [a,b,c,d] (.b (.a 0)<|.a 1) (.b (.a 0)<|.c 3) 1 [(1,.a 2,.c 3),(1,.a 1,.a 3),(1,.a 3,.a 2)] rfl e f g
theorem QD{a b c d:Nat}(e:(c+(3*d))<=21)(f:(b+1)<=d)(g:a<=(c+3)):(a+(3*b))<=21:=ak [a,b,c,d] (.b (.a 0)<|.d 3<|.a 1) (.c 21) 1 [(1,.b (.a 2) (.d 3<|.a 3),.c 21),(3,.b (.a 1) (.c 1),.a 3),(1,.a 0,.b (.a 2) (.c 3))] rfl e f g
theorem QE{a b c:Nat}(d:c<=3)(e:a<=c)(f:b<=6):(a+(3*b))<=21:=ak [a,b,c] (.b (.a 0)<|.d 3<|.a 1) (.c 21) 1 [(1,.a 2,.c 3),(1,.a 0,.a 2),(3,.a 1,.c 6)] rfl d e f
theorem QF{a b c:Nat}(d:(b+(3*c))<=21)(e:a<b):(22-(a+1))<(22-a):=ak [a,b,c,22-(a+1),22-a] (.b (.a 3)<|.c 1) (.a 4) 1 [(1,.b (.a 3) (.b (.a 0)<|.c 1),.c 22),(1,.c 22,.b (.a 4) (.a 0))] rfl (cH 22 (a+1)<|ak [a,b,c,22-(a+1),22-a] (.b (.a 0)<|.c 1) (.c 22) 1 [(1,.b (.a 1) (.d 3<|.a 2),.c 21),(1,.b (.a 0) (.c 1),.a 1)] rfl d e)<|cd 22 a
theorem QG{a b e f:Nat}(c:(b+(3*e))<=21)(d:a<=(min f b)):a<=16777000:=aj d<|aj (hQ _ _)<|aj (ds _ _)<|aj c (by decide)
theorem QH{a b c:Nat}(d:(b+(3*c))<=21)(e:a<=b):a<60:=ak [a,b,c] (.b (.a 0)<|.c 1) (.c 60) 1 [(1,.b (.a 1) (.d 3<|.a 2),.c 21),(1,.a 0,.a 1)] rfl d e
theorem QI{a b:Nat}(c:0=a)(d:b<=a)(e:0<b):False:=cj [a,b] [(1,.a 0,.c 0),(1,.a 1,.a 0),(1,.b (.c 0) (.c 1),.a 1)] rfl (ar c) d e
theorem QJ{a b c:Nat}(d:b<=3)(e:a<=c):(a+b)<=(c+3):=ak [a,b,c] (.b (.a 0)<|.a 1) (.b (.a 2)<|.c 3) 1 [(1,.a 1,.c 3),(1,.a 0,.a 2)] rfl d e
theorem QK{a b c:Nat}:((a+b)+c)=((a+c)+b):=be (ak [a,b,c] (.b (.b (.a 0)<|.a 1)<|.a 2) (.b (.b (.a 0)<|.a 2)<|.a 1) 1 [] rfl)<|ak [a,b,c] (.b (.b (.a 0)<|.a 2)<|.a 1) (.b (.b (.a 0)<|.a 1)<|.a 2) 1 [] rfl
theorem Gy{a b c d:Nat}(e:a<=(3*c))(f:b<=d)(g:d<=3):(a+b)<=(3*(c+1)):=ak [a,b,c,d] (.b (.a 0)<|.a 1) (.d 3<|.b (.a 2)<|.c 1) 1 [(1,.a 0,.d 3 (.a 2)),(1,.a 1,.a 3),(1,.a 3,.c 3)] rfl e f g
theorem QL{a b:Nat}(c:b=5)(d:a<=(3*b)):a<=15:=ak [a,b] (.a 0) (.c 15) 1 [(3,.a 1,.c 5),(1,.a 0,.d 3 (.a 1))] rfl (aw c) d
theorem Gz{a b:Nat}(c:a<b):(((a:Nat):Int)+1)<=((b:Nat):Int):=hn.mpr<|ak [a,b] (.b (.a 0)<|.c 1) (.a 1) 1 [(1,.b (.a 0) (.c 1),.a 1)] rfl c
theorem QM{a b:Nat}(c:a<b):(min a b)=a:=rG<|gn c
theorem QN{a b e f g h i j k l c d:Nat}(m:e=5)(n:f<g)(q:g<=3)(r:h<=15)(s:i<e)(t:j<=3)(u:k<j)(v:l=k)(w:a<=((((f+1)+(3*h))+(3*c))+(3*d)))(x:b<=3)(o:c<=(3*i))(p:d<=l):(a+b)<=16777216:=ak [a,b,e,f,g,h,i,j,k,l,c,d] (.b (.a 0)<|.a 1) (.c 16777216) 1 [(1,.a 0,.b (.b (.b (.b (.a 3)<|.c 1)<|.d 3<|.a 5)<|.d 3<|.a 10) (.d 3<|.a 11)),(1,.a 1,.c 3),(1,.b (.a 3) (.c 1),.a 4),(1,.a 4,.c 3),(3,.a 5,.c 15),(3,.a 10,.d 3 (.a 6)),(9,.b (.a 6) (.c 1),.a 2),(9,.a 2,.c 5),(3,.a 11,.a 9),(3,.a 9,.a 8),(3,.b (.a 8) (.c 1),.a 7),(3,.a 7,.c 3)] rfl w x n q r o s (aw m) p (aw v) u t
theorem QO{a b c d e:Nat}(f:e=(d+1)):(((((a+1)+(3*b))+(3*c))+(3*d))+3)<=((((a+1)+(3*b))+(3*c))+(3*e)):=ak [a,b,c,d,e] (.b (.b (.b (.b (.b (.a 0)<|.c 1)<|.d 3<|.a 1)<|.d 3<|.a 2)<|.d 3<|.a 3)<|.c 3) (.b (.b (.b (.b (.a 0)<|.c 1)<|.d 3<|.a 1)<|.d 3<|.a 2)<|.d 3<|.a 4) 1 [(3,.b (.a 3) (.c 1),.a 4)] rfl<|ar f
theorem QP{a b c d e:Nat}(f:e=(d+0)):((((a+1)+(3*b))+(3*c))+(3*d))<=((((a+1)+(3*b))+(3*c))+(3*e)):=ak [a,b,c,d,e] (.b (.b (.b (.b (.a 0)<|.c 1)<|.d 3<|.a 1)<|.d 3<|.a 2)<|.d 3<|.a 3) (.b (.b (.b (.b (.a 0)<|.c 1)<|.d 3<|.a 1)<|.d 3<|.a 2)<|.d 3<|.a 4) 1 [(3,.b (.a 3) (.c 0),.a 4)] rfl<|ar f
theorem QQ{a b c d:Nat}:((((a+1)+(3*b))+(3*c))+(3*d))<=(((a+1)+(3*b))+(3*(c+d))):=ak [a,b,c,d] (.b (.b (.b (.b (.a 0)<|.c 1)<|.d 3<|.a 1)<|.d 3<|.a 2)<|.d 3<|.a 3) (.b (.b (.b (.a 0)<|.c 1)<|.d 3<|.a 1)<|.d 3<|.b (.a 2)<|.a 3) 1 [] rfl
theorem QR{a b:Nat}(c:a<b)(d:b<=3):(4-(a+1))<(4-a):=ak [a,b,4-(a+1),4-a] (.b (.a 2)<|.c 1) (.a 3) 1 [(1,.b (.a 2) (.b (.a 0)<|.c 1),.c 4),(1,.c 4,.b (.a 3) (.a 0))] rfl (cH 4 (a+1)<|ak [a,b,4-(a+1),4-a] (.b (.a 0)<|.c 1) (.c 4) 1 [(1,.b (.a 0) (.c 1),.a 1),(1,.a 1,.c 3)] rfl c d)<|cd 4 a
theorem QS{a b c d e:Nat}(f:c=(d+e)):((a+b)+c)=((a+d)+(b+e)):=be (ak [a,b,c,d,e] (.b (.b (.a 0)<|.a 1)<|.a 2) (.b (.b (.a 0)<|.a 3)<|.b (.a 1)<|.a 4) 1 [(1,.a 2,.b (.a 3) (.a 4))] rfl<|aw f)<|ak [a,b,c,d,e] (.b (.b (.a 0)<|.a 3)<|.b (.a 1)<|.a 4) (.b (.b (.a 0)<|.a 1)<|.a 2) 1 [(1,.b (.a 3) (.a 4),.a 2)] rfl<|ar f
theorem QT{a b c d:Nat}(e:d=(b+c)):(((a+1)+(3*b))+(3*c))<=((a+1)+(3*d)):=ak [a,b,c,d] (.b (.b (.b (.a 0)<|.c 1)<|.d 3<|.a 1)<|.d 3<|.a 2) (.b (.b (.a 0)<|.c 1)<|.d 3<|.a 3) 1 [(3,.b (.a 1) (.a 2),.a 3)] rfl<|ar e
theorem QU{a b c d:Nat}(e:b<c)(f:c<=3)(g:d<=15)(h:a<=(b+(3*d))):a<=16777215:=ak [a,b,c,d] (.a 0) (.c 16777215) 1 [(1,.b (.a 1) (.c 1),.a 2),(1,.a 2,.c 3),(6,.a 3,.c 15),(1,.a 0,.b (.a 1) (.d 3<|.a 3))] rfl e f g h
theorem QV{a b c:Nat}(d:a<=(b+(3*c))):(a+1)<=((b+1)+(3*c)):=ak [a,b,c] (.b (.a 0)<|.c 1) (.b (.b (.a 1)<|.c 1)<|.d 3<|.a 2) 1 [(1,.a 0,.b (.a 1) (.d 3<|.a 2))] rfl d
theorem QW{a b c:Nat}(d:a<=(b+(3*c))):a<=((b+1)+(3*c)):=ak [a,b,c] (.a 0) (.b (.b (.a 1)<|.c 1)<|.d 3<|.a 2) 1 [(1,.a 0,.b (.a 1) (.d 3<|.a 2))] rfl d
theorem QX{a b c d:Nat}(e:b<=c)(f:c<=3)(g:d<=15)(h:a<=(b+(3*d))):a<60:=ak [a,b,c,d] (.b (.a 0)<|.c 1) (.c 60) 1 [(1,.a 1,.a 2),(1,.a 2,.c 3),(3,.a 3,.c 15),(1,.a 0,.b (.a 1) (.d 3<|.a 3))] rfl e f g h
theorem GA{a b:Nat}:a≠((a+2)+b):=λc=>cj [a,b] [(1,.b (.b (.a 0)<|.c 2) (.a 1),.a 0)] rfl<|ar c
theorem QY{a b:Nat}:a≠(((a+2)+b)+1):=λc=>cj [a,b] [(1,.b (.b (.b (.a 0)<|.c 2)<|.a 1) (.c 1),.a 0)] rfl<|ar c
theorem GB{a b:Nat}:(a+1)≠((a+2)+b):=λc=>cj [a,b] [(1,.b (.b (.a 0)<|.c 2) (.a 1),.b (.a 0) (.c 1))] rfl<|ar c
theorem QZ{a b:Nat}:(a+1)≠(((a+2)+b)+1):=λc=>cj [a,b] [(1,.b (.b (.b (.a 0)<|.c 2)<|.a 1) (.c 1),.b (.a 0) (.c 1))] rfl<|ar c
theorem Ra{a b c:Nat}(d:a<=b):a<=(((b+2)+c)+1):=ak [a,b,c] (.a 0) (.b (.b (.b (.a 1)<|.c 2)<|.a 2)<|.c 1) 1 [(1,.a 0,.a 1)] rfl d
theorem Rb{a b:Nat}:(((a+2)+b)+1)≠a:=λc=>cj [a,b] [(1,.b (.b (.b (.a 0)<|.c 2)<|.a 1) (.c 1),.a 0)] rfl<|aw c
theorem Rc{a b:Nat}:(((a+2)+b)+1)≠(a+1):=λc=>cj [a,b] [(1,.b (.b (.b (.a 0)<|.c 2)<|.a 1) (.c 1),.b (.a 0) (.c 1))] rfl<|aw c
theorem Rd{a b c:Nat}(e:c<b):(((a+2)+b)+1)≠((a+2)+c):=λd=>cj [a,b,c] [(1,.b (.a 2) (.c 1),.a 1),(1,.b (.b (.b (.a 0)<|.c 2)<|.a 1) (.c 1),.b (.b (.a 0)<|.c 2) (.a 2))] rfl e<|aw d
theorem Re{a b c:Nat}(d:a<=b):a<=((b+2)+c):=ak [a,b,c] (.a 0) (.b (.b (.a 1)<|.c 2)<|.a 2) 1 [(1,.a 0,.a 1)] rfl d
theorem Rf{a b:Nat}:((a+2)+b)≠a:=λc=>cj [a,b] [(1,.b (.b (.a 0)<|.c 2) (.a 1),.a 0)] rfl<|aw c
theorem Rg{a b:Nat}:((a+2)+b)≠(a+1):=λc=>cj [a,b] [(1,.b (.b (.a 0)<|.c 2) (.a 1),.b (.a 0) (.c 1))] rfl<|aw c
theorem Rh{a b c:Nat}(e:b<c):((a+2)+b)≠((a+2)+c):=λd=>cj [a,b,c] [(1,.b (.a 1) (.c 1),.a 2),(1,.b (.b (.a 0)<|.c 2) (.a 2),.b (.b (.a 0)<|.c 2) (.a 1))] rfl e<|ar d
theorem Ri{a b c:Nat}(d:¬(c=b)):((a+2)+b)≠((a+2)+c):=λe=>d (Q7 e).symm
theorem Rj{a b c:Nat}(e:b<c):((a+2)+b)≠(((a+2)+c)+1):=λd=>cj [a,b,c] [(1,.b (.a 1) (.c 1),.a 2),(1,.b (.b (.b (.a 0)<|.c 2)<|.a 2) (.c 1),.b (.b (.a 0)<|.c 2) (.a 1))] rfl e<|ar d
theorem Rk{a b c d:Nat}(e:a<=(3*c))(f:d<=3)(g:b<=d):(a+b)<=(3*(c+1)):=ak [a,b,c,d] (.b (.a 0)<|.a 1) (.d 3<|.b (.a 2)<|.c 1) 1 [(1,.a 0,.d 3 (.a 2)),(1,.a 3,.c 3),(1,.a 1,.a 3)] rfl e f g
theorem Rl{a b:Nat}(c:¬(b=a)):¬(a=b):=λe=>c e.symm
theorem Rm{a b:Nat}(c:¬(a<b))(d:¬(b=a)):¬(a<(b+1)):=λh=>c<|ho (kR h) λe=>d e.symm
theorem Rn{a b:Nat}(c:a<b):(a+1)<=b:=ak [a,b] (.b (.a 0)<|.c 1) (.a 1) 1 [(1,.b (.a 0) (.c 1),.a 1)] rfl c
theorem GC{a b:Nat}:(a+((b+1)+1))=((a+2)+b):=be (ak [a,b] (.b (.a 0)<|.b (.b (.a 1)<|.c 1)<|.c 1) (.b (.b (.a 0)<|.c 2)<|.a 1) 1 [] rfl)<|ak [a,b] (.b (.b (.a 0)<|.c 2)<|.a 1) (.b (.a 0)<|.b (.b (.a 1)<|.c 1)<|.c 1) 1 [] rfl
theorem Ro{a b:Nat}:(a+((b+1)+1))<=((a+2)+b):=ak [a,b] (.b (.a 0)<|.b (.b (.a 1)<|.c 1)<|.c 1) (.b (.b (.a 0)<|.c 2)<|.a 1) 1 [] rfl
theorem Rp{a b:Nat}:(((a+2)+b)-(a+((b+1)+1)))=0:=be (ak [a,b,((a+2)+b)-(a+((b+1)+1))] (.a 2) (.c 0) 1 [(1,.b (.a 2) (.b (.a 0)<|.b (.b (.a 1)<|.c 1)<|.c 1),.b (.b (.a 0)<|.c 2) (.a 1))] rfl<|cH ((a+2)+b) (a+((b+1)+1))<|ak [a,b,((a+2)+b)-(a+((b+1)+1))] (.b (.a 0)<|.b (.b (.a 1)<|.c 1)<|.c 1) (.b (.b (.a 0)<|.c 2)<|.a 1) 1 [] rfl)<|ak [a,b,((a+2)+b)-(a+((b+1)+1))] (.c 0) (.a 2) 1 [] rfl
theorem Rq{a b c:Nat}(d:b<c):((a+2)+b)<(a+((c+1)+1)):=ak [a,b,c] (.b (.b (.b (.a 0)<|.c 2)<|.a 1)<|.c 1) (.b (.a 0)<|.b (.b (.a 2)<|.c 1)<|.c 1) 1 [(1,.b (.a 1) (.c 1),.a 2)] rfl d
theorem Rr{a b:Nat}:(a+((b+1)+1))<=(((a+2)+b)+1):=ak [a,b] (.b (.a 0)<|.b (.b (.a 1)<|.c 1)<|.c 1) (.b (.b (.b (.a 0)<|.c 2)<|.a 1)<|.c 1) 1 [] rfl
theorem Rs{a b:Nat}:((((a+2)+b)+1)-(a+((b+1)+1)))=1:=be (ak [a,b,(((a+2)+b)+1)-(a+((b+1)+1))] (.a 2) (.c 1) 1 [(1,.b (.a 2) (.b (.a 0)<|.b (.b (.a 1)<|.c 1)<|.c 1),.b (.b (.b (.a 0)<|.c 2)<|.a 1) (.c 1))] rfl<|cH (((a+2)+b)+1) (a+((b+1)+1))<|ak [a,b,(((a+2)+b)+1)-(a+((b+1)+1))] (.b (.a 0)<|.b (.b (.a 1)<|.c 1)<|.c 1) (.b (.b (.b (.a 0)<|.c 2)<|.a 1)<|.c 1) 1 [] rfl)<|ak [a,b,(((a+2)+b)+1)-(a+((b+1)+1))] (.c 1) (.a 2) 1 [(1,.b (.b (.b (.a 0)<|.c 2)<|.a 1) (.c 1),.b (.a 2) (.b (.a 0)<|.b (.b (.a 1)<|.c 1)<|.c 1))] rfl<|cd (((a+2)+b)+1)<|a+((b+1)+1)
theorem Rt{a b c d e f:Nat}(g:c=6)(h:d<c)(i:a<=(3*d))(j:e<=3)(k:b<=f)(l:f<=e):(a+b)<=16777215:=ak [a,b,c,d,e,f] (.b (.a 0)<|.a 1) (.c 16777215) 1 [(3,.a 2,.c 6),(3,.b (.a 3) (.c 1),.a 2),(1,.a 0,.d 3 (.a 3)),(1,.a 4,.c 3),(1,.a 1,.a 5),(1,.a 5,.a 4)] rfl (aw g) h i j k l
theorem Ru{a b c d e:Nat}(f:b=(c+1))(g:b<=d)(h:d<=e)(i:(a+c)=e):a=((a-1)+1):=be (ak [a,b,c,d,e,a-1] (.a 0) (.b (.a 5)<|.c 1) 1 [(1,.a 0,.b (.a 5) (.c 1))] rfl<|cd a 1)<|ak [a,b,c,d,e,a-1] (.b (.a 5)<|.c 1) (.a 0) 1 [(1,.b (.a 5) (.c 1),.a 0)] rfl<|cH a 1<|ak [a,b,c,d,e,a-1] (.c 1) (.a 0) 1 [(1,.b (.a 2) (.c 1),.a 1),(1,.a 1,.a 3),(1,.a 3,.a 4),(1,.a 4,.b (.a 0) (.a 2))] rfl (ar f) g h<|ar i
theorem Rv{a b c d:Nat}(e:(d+b)=c)(f:d=(a+1)):(a+(b+1))=c:=be (ak [a,b,c,d] (.b (.a 0)<|.b (.a 1)<|.c 1) (.a 2) 1 [(1,.b (.a 3) (.a 1),.a 2),(1,.b (.a 0) (.c 1),.a 3)] rfl (aw e)<|ar f)<|ak [a,b,c,d] (.a 2) (.b (.a 0)<|.b (.a 1)<|.c 1) 1 [(1,.a 2,.b (.a 3) (.a 1)),(1,.a 3,.b (.a 0) (.c 1))] rfl (ar e)<|aw f
theorem Rw{a b c d e f:Nat}(g:c=(d+1))(h:c<=b)(i:(e+d)=a)(j:e=(f+1))(k:f=0):a<=b:=ak [a,b,c,d,e,f] (.a 0) (.a 1) 1 [(1,.b (.a 3) (.c 1),.a 2),(1,.a 2,.a 1),(1,.a 0,.b (.a 4) (.a 3)),(1,.a 4,.b (.a 5) (.c 1)),(1,.a 5,.c 0)] rfl (ar g) h (ar i) (aw j)<|aw k
theorem Rx{a b c:Nat}(d:c<=a)(e:b<c):(a-(b+1))<(a-b):=ak [a,b,c,a-(b+1),a-b] (.b (.a 3)<|.c 1) (.a 4) 1 [(1,.b (.a 3) (.b (.a 1)<|.c 1),.a 0),(1,.a 0,.b (.a 4) (.a 1))] rfl (cH a (b+1)<|ak [a,b,c,a-(b+1),a-b] (.b (.a 1)<|.c 1) (.a 0) 1 [(1,.a 2,.a 0),(1,.b (.a 1) (.c 1),.a 2)] rfl d e)<|cd a b
theorem Ry{a b c d:Nat}(e:(a+c)=d)(f:(b+c)=d):a=b:=be (ak [a,b,c,d] (.a 0) (.a 1) 1 [(1,.b (.a 0) (.a 2),.a 3),(1,.a 3,.b (.a 1) (.a 2))] rfl (aw e)<|ar f)<|ak [a,b,c,d] (.a 1) (.a 0) 1 [(1,.a 3,.b (.a 0) (.a 2)),(1,.b (.a 1) (.a 2),.a 3)] rfl (ar e)<|aw f
theorem Rz{a b c:Nat}:(a+(b+c))=(b+(a+c)):=be (ak [a,b,c] (.b (.a 0)<|.b (.a 1)<|.a 2) (.b (.a 1)<|.b (.a 0)<|.a 2) 1 [] rfl)<|ak [a,b,c] (.b (.a 1)<|.b (.a 0)<|.a 2) (.b (.a 0)<|.b (.a 1)<|.a 2) 1 [] rfl
theorem GD{a b:Nat}(c:a<(b+1))(d:a≠b):a<b:=ho (kR c) d
theorem GE{a:Nat}(b:0<a):(((a:Nat):Int)-1)=((a-1:Nat):Int):=(DW b).symm
theorem RA{a c:Nat}(b:(a<c)/\(a≠0)):a=((a-1)+1):=(pa<|rH b.2).symm
theorem RB{a:Nat}(b:a<=6):(2*((a:Nat):Int))<=134217728:=hn.mpr<|ak [a] (.d 2<|.a 0) (.c 134217728) 1 [(2,.a 0,.c 6)] rfl b
theorem RC{a b:Nat}(c:a<(b+1))(d:¬(b=a)):a<b:=ho (kR c)<|cy d
theorem RD{b c d:Nat}(a:d<0):b<c:=absurd a<|dW _
theorem RE{a b c d:Nat}(e:b<d)(f:a=c):(a+b)<(c+d):=ak [a,b,c,d] (.b (.b (.a 0)<|.a 1)<|.c 1) (.b (.a 2)<|.a 3) 1 [(1,.b (.a 1) (.c 1),.a 3),(1,.a 0,.a 2)] rfl e<|aw f
theorem RF{a b c:Nat}(d:a<c):(a+b)<(c+b):=ak [a,b,c] (.b (.b (.a 0)<|.a 1)<|.c 1) (.b (.a 2)<|.a 1) 1 [(1,.b (.a 0) (.c 1),.a 2)] rfl d
theorem RG{a b c:Nat}(d:c<b)(e:b<a):(a-b)<(a-c):=ak [a,b,c,a-b,a-c] (.b (.a 3)<|.c 1) (.a 4) 1 [(1,.b (.a 2) (.c 1),.a 1),(1,.b (.a 3) (.a 1),.a 0),(1,.a 0,.b (.a 4) (.a 2))] rfl d (cH a b<|ak [a,b,c,a-b,a-c] (.a 1) (.a 0) 1 [(1,.b (.a 1) (.c 1),.a 0)] rfl e)<|cd a c
theorem RH{a b:Nat}:(a<b)\/(¬(a<b)):=Q9 _
theorem RI{b c d e f:Nat}(a:f<0):(b<=c)->(d=e):=absurd a<|dW _
theorem RJ{a b:Nat}(c:a<b)(d:b<a):a=b:=be (ak [a,b] (.a 0) (.a 1) 1 [(1,.b (.a 0) (.c 1),.a 1)] rfl c)<|ak [a,b] (.a 1) (.a 0) 1 [(1,.b (.a 1) (.c 1),.a 0)] rfl d
theorem RK{a b:Int}(c:a<=b):(lT a)<=(lT b):=Int.toNat_le_toNat c
theorem RL{a b:Nat}(c:¬(a=b))(d:¬(a<b)):¬(a<(b+1)):=λh=>d<|ho (kR h) c
theorem GF{a:Nat}(b:(a%2)=0):¬((((a:Nat):Int)%2)=1):=λe=>absurd (b.symm.trans<|lS e) (by decide)
theorem GG{a:Nat}(b:0<a):(a/2)<a:=R0 b (by decide)
theorem RM{a:Nat}(b:(a%2)=1):(((a:Nat):Int)%2)=1:=congrArg uB b
theorem RN{a b:Nat}(c:b=a):(((a:Nat):Int)-((b:Nat):Int))<=0:=c▸R1 (Int.sub_self _)
theorem RO{a b:Nat}(c:a<b):((a:Nat):Int)<((b:Nat):Int):=pd.mpr<|ak [a,b] (.b (.a 0)<|.c 1) (.a 1) 1 [(1,.b (.a 0) (.c 1),.a 1)] rfl c
theorem RP{b a:Nat}(c:a<b):((((b:Nat):Int)-1)-((a:Nat):Int))=(((b-1)-a:Nat):Int):=((DW<|Nat.le_sub_one_of_lt c).trans<|congrArg (·-(a:Int))<|DW<|uA (fd _) c).symm
theorem RQ{b a:Nat}(c:((((b:Nat):Int)-1)-((a:Nat):Int))=(((b-1)-a:Nat):Int)):((((b:Nat):Int)-1)-((a+1:Nat):Int))=((((b-1)-a:Nat):Int)-1):=rwl (R2 a)<|(Int.sub_sub _ _ _).symm.trans<|congrArg (·-1) c
theorem RR{a:Nat}:((((a:Nat):Int)-1)-((a:Nat):Int))=(-1):=(congrArg (·-(a:Int))<|LO (a:Int)<|-1).trans<|DQ (-1) (a:Int)
theorem RS{a b c:Nat}(d:(b+c)<=16777215)(e:a=b):a<=16777216:=ak [a,b,c] (.a 0) (.c 16777216) 1 [(1,.b (.a 1) (.a 2),.c 16777215),(1,.a 0,.a 1)] rfl d<|aw e
theorem RT{a b c d:Nat}(e:(c+d)<=16777215)(f:a=c)(g:b=d):(a+b)<=(16777216+1):=ak [a,b,c,d] (.b (.a 0)<|.a 1) (.b (.c 16777216)<|.c 1) 1 [(1,.b (.a 2) (.a 3),.c 16777215),(1,.a 0,.a 2),(1,.a 1,.a 3)] rfl e (aw f)<|aw g
theorem RU{a b:Nat}(c:a=b)(d:(b-1)<b):(a-1)<a:=ak [a,b,b-1,a-1] (.b (.a 3)<|.c 1) (.a 0) 1 [(1,.b (.a 3) (.c 1),.a 0)] rfl<|cH a 1<|ak [a,b,b-1,a-1] (.c 1) (.a 0) 1 [(1,.a 1,.a 0),(1,.b (.a 2) (.c 1),.a 1)] rfl (ar c) d
theorem RV{a b:Nat}(c:(b-1)<b)(d:a=b):((a-1)+1)=a:=be (ak [a,b,b-1,a-1] (.b (.a 3)<|.c 1) (.a 0) 1 [(1,.b (.a 3) (.c 1),.a 0)] rfl<|cH a 1<|ak [a,b,b-1,a-1] (.c 1) (.a 0) 1 [(1,.b (.a 2) (.c 1),.a 1),(1,.a 1,.a 0)] rfl c<|ar d)<|ak [a,b,b-1,a-1] (.a 0) (.b (.a 3)<|.c 1) 1 [(1,.a 0,.b (.a 3) (.c 1))] rfl<|cd a 1
theorem RW{a:Int}{b c:Nat}(d:b=c)(e:(lT a)<c):a<((b:Nat):Int):=pb (LS a)<|pd.mpr<|gP e<|ar d
theorem RX{a:Nat}{b:Int}{c:Nat}(d:(-((c:Nat):Int))<=b)(e:a=c):(-((a:Nat):Int))<=b:=rwl e d
theorem RY{a:Int}(b:0<=a)(c:a<=16777216):((-9223372036854775808)<=a)/\(a<9223372036854775808):=⟨pf (by decide) b,pb c<|by decide⟩
theorem RZ{a:Int}(b:a<=16777216):a<=1152921504606846975:=pf b (by decide)
theorem Sa{a:Int}(b:a<=16777216):a<=16777216:=b
theorem Sb{a:Int}(b:a<=16777216):a<=16777217:=pf b (by decide)
theorem Sc{a b c:Nat}(d:b<=16777216)(e:b=c)(f:c=a):a<=16777216:=ak [a,b,c] (.a 0) (.c 16777216) 1 [(1,.a 1,.c 16777216),(1,.a 2,.a 1),(1,.a 0,.a 2)] rfl d (ar e)<|ar f
theorem Sd{c a:Nat}(b:a<=16777216):(min c a)<=16777217:=aj (hQ _ _)<|aj b (by decide)
theorem Se{a b:Nat}(c:b<=16777216)(d:a=b):a<=16777216:=ak [a,b] (.a 0) (.c 16777216) 1 [(1,.a 1,.c 16777216),(1,.a 0,.a 1)] rfl c<|aw d
theorem Sf{a b:Nat}(c:a<=16777216):(a-b)<=16777217:=ak [a,b,a-b] (.a 2) (.c 16777217) 1 [(1,.a 0,.c 16777216),(1,.a 2,.a 0)] rfl c<|FU a b
theorem Sg{a:Nat}(b:1<=a):a=((a-1)+1):=be (ak [a,a-1] (.a 0) (.b (.a 1)<|.c 1) 1 [(1,.a 0,.b (.a 1) (.c 1))] rfl<|cd a 1)<|ak [a,a-1] (.b (.a 1)<|.c 1) (.a 0) 1 [(1,.b (.a 1) (.c 1),.a 0)] rfl<|cH a 1<|ak [a,a-1] (.c 1) (.a 0) 1 [(1,.c 1,.a 0)] rfl b
theorem Sh{a c:Nat}(b:a<=1):(max a<|c%2)<=1:=LT.mpr ⟨b,kR<|uC _<|by decide⟩
theorem Si{a:Nat}(b:¬(a<64)):((a/2)+1)<=a:=R0 (gP (by decide)<|dM b) (by decide)
theorem Sj{c a b:Nat}(d:c<=((a/2)+(max b<|a%2))):c<=(a+b):=ak [c,a,b,a/2,a%2,max b<|a%2] (.a 0) (.b (.a 1)<|.a 2) 1 [(1,.a 0,.b (.a 3) (.a 5)),(1,.a 5,.b (.a 2) (.a 4)),(1,.b (.d 2<|.a 3) (.a 4),.a 1)] rfl d (LT.mpr ⟨ds _ _,DX _ _⟩)<|aw<|Nat.div_add_mod a 2
theorem Sk{a b:Nat}(c:b<=5)(d:a<=1):(max (a+1) b)<=5:=LT.mpr ⟨aj (pe d)<|by decide,c⟩
theorem Sl{a b:Nat}(c:b<a):(a-b)=((a-(b+1))+1):=be (ak [a,b,a-b,a-(b+1)] (.a 2) (.b (.a 3)<|.c 1) 1 [(1,.b (.a 2) (.a 1),.a 0),(1,.a 0,.b (.a 3) (.b (.a 1)<|.c 1))] rfl (cH a b<|ak [a,b,a-b,a-(b+1)] (.a 1) (.a 0) 1 [(1,.b (.a 1) (.c 1),.a 0)] rfl c)<|cd a<|b+1)<|ak [a,b,a-b,a-(b+1)] (.b (.a 3)<|.c 1) (.a 2) 1 [(1,.a 0,.b (.a 2) (.a 1)),(1,.b (.a 3) (.b (.a 1)<|.c 1),.a 0)] rfl (cd a b)<|cH a (b+1)<|ak [a,b,a-b,a-(b+1)] (.b (.a 1)<|.c 1) (.a 0) 1 [(1,.b (.a 1) (.c 1),.a 0)] rfl c
theorem Sm{a b c d:Nat}(e:a<=(d+c))(f:d<=(b+1)):a<=(b+(c+1)):=ak [a,b,c,d] (.a 0) (.b (.a 1)<|.b (.a 2)<|.c 1) 1 [(1,.a 0,.b (.a 3) (.a 2)),(1,.a 3,.b (.a 1) (.c 1))] rfl e f
theorem Sn{a b c f:Nat}(d:(c+1)<b)(e:a<=(min f c)):(a+1)<b:=uA (pe<|aj e<|hQ _ _) d
theorem So{a b:Nat}(c:a=(b+1)):0<a:=ak [a,b] (.b (.c 0)<|.c 1) (.a 0) 1 [(1,.b (.a 1) (.c 1),.a 0)] rfl<|ar c
theorem Sp{a b:Nat}(c:a=(b+1)):(a-1)=b:=be (ak [a,b,a-1] (.a 2) (.a 1) 1 [(1,.a 0,.b (.a 1) (.c 1)),(1,.b (.a 2) (.c 1),.a 0)] rfl (aw c)<|cH a 1<|ak [a,b,a-1] (.c 1) (.a 0) 1 [(1,.b (.a 1) (.c 1),.a 0)] rfl<|ar c)<|ak [a,b,a-1] (.a 1) (.a 2) 1 [(1,.b (.a 1) (.c 1),.a 0),(1,.a 0,.b (.a 2) (.c 1))] rfl (ar c)<|cd a 1
theorem Sq{a b:Nat}(c:a<b)(d:b<=1):a=0:=be (ak [a,b] (.a 0) (.c 0) 1 [(1,.b (.a 0) (.c 1),.a 1),(1,.a 1,.c 1)] rfl c d)<|ak [a,b] (.c 0) (.a 0) 1 [] rfl
theorem Sr{d a e:Nat}(b:a<=1)(c:((e+1)+1)=a):d=a:=(Nat.not_succ_le_zero _<|Q6<|aj (aw c) b).elim
theorem GH{a b:Nat}(c:(a+70)<b):(a+2)<b:=ak [a,b] (.b (.b (.a 0)<|.c 2)<|.c 1) (.a 1) 1 [(1,.b (.b (.a 0)<|.c 70) (.c 1),.a 1)] rfl c
theorem Ss{a b:Nat}(c:(a+70)<b):a<b:=ak [a,b] (.b (.a 0)<|.c 1) (.a 1) 1 [(1,.b (.b (.a 0)<|.c 70) (.c 1),.a 1)] rfl c
theorem GI{a b:Nat}(c:(a+70)<b):(a+64)<b:=ak [a,b] (.b (.b (.a 0)<|.c 64)<|.c 1) (.a 1) 1 [(1,.b (.b (.a 0)<|.c 70) (.c 1),.a 1)] rfl c
theorem pS{a b:Nat}(c:(a+70)<b):(a+1)<b:=ak [a,b] (.b (.b (.a 0)<|.c 1)<|.c 1) (.a 1) 1 [(1,.b (.b (.a 0)<|.c 70) (.c 1),.a 1)] rfl c
theorem St{a:Nat}(b:(a-1)<a):(-((a:Nat):Int))<=(-1):=R3<|hn.mpr (rH λe=>by subst e;exact absurd b<|np 0)
theorem Su{a:Nat}:(lT<|(-1)+((a:Nat):Int))=(a-1):=rwl (LO (-1) a)<|Int.toNat_sub a 1
theorem Sv{a b:Nat}:a<=(b+(a-b)):=ak [a,b,a-b] (.a 0) (.b (.a 1)<|.a 2) 1 [(1,.a 0,.b (.a 2) (.a 1))] rfl<|cd a b
theorem Sw{a b c:Nat}(d:b<=50)(e:c=a)(f:c<=(b+1)):a<=(16777216+1):=ak [a,b,c] (.a 0) (.b (.c 16777216)<|.c 1) 1 [(1,.a 1,.c 50),(1,.a 0,.a 2),(1,.a 2,.b (.a 1) (.c 1))] rfl d (ar e) f
noncomputable def Sx:List String:=["rules","right","left","number","symbol_count","is_terminal","automaton","nullables","transitions","index","direct","reads","includes","turns","lookback","read_masks","follow_masks","masks","grammar","number_transitions","find_reads","find_includes","joined_masks","states","moves","goto","reductions","rules_of","open_ends","terminal_count","level_of","action","line","before","names","levels","expect","start","by_left","offsets","owners","item_count","kernel","symbol","items","firsts","after","wanted","item","added","rule_of","dot_of","closer","numbers","close","number_of","expand","built","walk"]
def cY(a:Nat):N:=aF<|Sx.getD a ""
noncomputable def Sy:List String:=["Rule","Grammar","LrState","Closer","Automaton","Builder","Lookaheads"]
noncomputable def Sz:List String:=["spread","nullable","first_of","first_masks","follow_masks","transitive","digraph","Lookaheads.__init__","Lookaheads.number_transitions","Lookaheads.find_reads","Lookaheads.find_includes","Lookaheads.open_ends","Lookaheads.joined_masks","add_once","lalr_masks","slr_masks","lr_zero_masks","bits","Rule.__init__","Grammar.__init__","Grammar.symbol_count","Grammar.is_terminal","Grammar.number","Grammar.rules_of","Grammar.item","Grammar.rule_of","Grammar.dot_of","Grammar.after","last_terminal","plain_grammar","LrState.__init__","LrState.goto","Closer.__init__","Closer.wanted","Closer.added","Closer.close","advanced","kernels_behind","complete_rules","Automaton.__init__","Automaton.goto","Automaton.walk","Builder.__init__","Builder.number_of","Builder.expand","Builder.built","build","_law_pen","_law_draw","_law_pick","_law_pairs","_law_empty","_law_ahead","_law_begins","_law_behind","law"]
def pT(f:Nat):N:=aF<|Sz.getD f ""
def sA(c:Nat):N:=aF<|Sy.getD c ""
noncomputable def GJ:List<|Nat×Nat×Nat:=[(6,19,8),(6,20,9),(6,21,10),(6,28,11),(6,22,12),(1,4,20),(1,5,21),(1,3,22),(1,27,23),(1,48,24),(1,50,25),(1,51,26),(1,46,27),(2,25,31),(3,47,33),(3,49,34),(3,54,35),(4,25,40),(4,58,41),(5,55,43),(5,56,44),(5,57,45)]
noncomputable def vU(c m:Nat):List (Nat×Nat×Nat)->Option Nat|[]=>U|e::r=>if(e.1.beq c&&e.2.1.beq m)=M then V e.2.2 else vU c m r
def eT(c m:Nat):Option Nat:=vU c m GJ
noncomputable def lf(c:Nat):Nat:=[18,19,30,32,39,42,7].getD c 0
noncomputable def lg:List Nat:=[0,1,2,3,4,5,6,13,14,15,16,17,28,29,36,37,38,46,47,48,49,50,51,52,53,54,55]
noncomputable def ek:Nat:=59
noncomputable def fk:Nat:=56
noncomputable abbrev dO:Nat:=0
noncomputable abbrev el:Nat:=1
noncomputable abbrev dD:Nat:=2
noncomputable abbrev cp:Nat:=3
noncomputable abbrev pU:Nat:=4
noncomputable abbrev mq:Nat:=5
noncomputable abbrev dd:Nat:=6
noncomputable abbrev eE:Nat:=7
noncomputable abbrev dE:Nat:=8
noncomputable abbrev eU:Nat:=9
noncomputable abbrev gU:Nat:=10
noncomputable abbrev hx:Nat:=11
noncomputable abbrev iI:Nat:=12
noncomputable abbrev ku:Nat:=13
noncomputable abbrev hy:Nat:=14
noncomputable abbrev pV:Nat:=15
noncomputable abbrev pW:Nat:=16
noncomputable abbrev sB:Nat:=17
noncomputable abbrev cR:Nat:=18
noncomputable abbrev SA:Nat:=19
noncomputable abbrev SB:Nat:=20
noncomputable abbrev SC:Nat:=21
noncomputable abbrev SD:Nat:=22
noncomputable abbrev dP:Nat:=23
noncomputable abbrev ia:Nat:=24
noncomputable abbrev lh:Nat:=25
noncomputable abbrev gV:Nat:=26
noncomputable abbrev sC:Nat:=27
noncomputable abbrev GK:Nat:=28
noncomputable abbrev eV:Nat:=29
noncomputable abbrev jy:Nat:=30
noncomputable abbrev kv:Nat:=31
noncomputable abbrev li:Nat:=32
noncomputable abbrev mr:Nat:=33
noncomputable abbrev eF:Nat:=34
noncomputable abbrev ib:Nat:=35
noncomputable abbrev iJ:Nat:=36
noncomputable abbrev jz:Nat:=37
noncomputable abbrev ic:Nat:=38
noncomputable abbrev hz:Nat:=39
noncomputable abbrev gw:Nat:=40
noncomputable abbrev sD:Nat:=41
noncomputable abbrev iK:Nat:=42
noncomputable abbrev kw:Nat:=43
noncomputable abbrev iL:Nat:=44
noncomputable abbrev pX:Nat:=45
noncomputable abbrev sE:Nat:=46
noncomputable abbrev GL:Nat:=47
noncomputable abbrev sF:Nat:=48
noncomputable abbrev GM:Nat:=49
noncomputable abbrev sG:Nat:=50
noncomputable abbrev GN:Nat:=51
noncomputable abbrev ms:Nat:=52
noncomputable abbrev mt:Nat:=53
noncomputable abbrev GO:Nat:=54
noncomputable abbrev vV:Nat:=55
noncomputable abbrev GP:Nat:=56
noncomputable abbrev GQ:Nat:=57
noncomputable abbrev aaJ:Nat:=58
noncomputable abbrev fZ:Nat:=0
noncomputable abbrev lj:Nat:=1
noncomputable abbrev sH:Nat:=2
noncomputable abbrev sI:Nat:=3
noncomputable abbrev sJ:Nat:=4
noncomputable abbrev vW:Nat:=5
noncomputable abbrev hA:Nat:=6
noncomputable abbrev GR:Nat:=0
noncomputable abbrev sK:Nat:=1
noncomputable abbrev GS:Nat:=2
noncomputable abbrev GT:Nat:=3
noncomputable abbrev GU:Nat:=4
noncomputable abbrev GV:Nat:=5
noncomputable abbrev vX:Nat:=6
noncomputable abbrev SE:Nat:=7
noncomputable abbrev SF:Nat:=8
noncomputable abbrev SG:Nat:=9
noncomputable abbrev SH:Nat:=10
noncomputable abbrev SI:Nat:=11
noncomputable abbrev SJ:Nat:=12
noncomputable abbrev mu:Nat:=13
noncomputable abbrev vY:Nat:=14
noncomputable abbrev vZ:Nat:=15
noncomputable abbrev wa:Nat:=16
noncomputable abbrev GW:Nat:=17
noncomputable abbrev iM:Nat:=18
noncomputable abbrev SK:Nat:=19
noncomputable abbrev GX:Nat:=20
noncomputable abbrev GY:Nat:=21
noncomputable abbrev sL:Nat:=22
noncomputable abbrev GZ:Nat:=23
noncomputable abbrev sM:Nat:=24
noncomputable abbrev Ha:Nat:=25
noncomputable abbrev Hb:Nat:=26
noncomputable abbrev Hc:Nat:=27
noncomputable abbrev wb:Nat:=28
noncomputable abbrev iN:Nat:=29
noncomputable abbrev SL:Nat:=30
noncomputable abbrev Hd:Nat:=31
noncomputable abbrev SM:Nat:=32
noncomputable abbrev He:Nat:=33
noncomputable abbrev Hf:Nat:=34
noncomputable abbrev Hg:Nat:=35
noncomputable abbrev Hh:Nat:=36
noncomputable abbrev Hi:Nat:=37
noncomputable abbrev Hj:Nat:=38
noncomputable abbrev SN:Nat:=39
noncomputable abbrev Hk:Nat:=40
noncomputable abbrev aaK:Nat:=41
noncomputable abbrev SO:Nat:=42
noncomputable abbrev Hl:Nat:=43
noncomputable abbrev Hm:Nat:=44
noncomputable abbrev Hn:Nat:=45
noncomputable abbrev wc:Nat:=46
noncomputable abbrev wd:Nat:=47
noncomputable abbrev Ho:Nat:=48
noncomputable abbrev gx:Nat:=49
noncomputable abbrev we:Nat:=50
noncomputable abbrev wf:Nat:=51
noncomputable abbrev pY:Nat:=52
noncomputable abbrev wg:Nat:=53
noncomputable abbrev wh:Nat:=54
noncomputable abbrev wi:Nat:=55
inductive aQ{g h:Type}(R:g->h->Prop):List g->List h->Prop|b:aQ R [] []|a{c e d f}:R c e->aQ R d f->aQ R (c::d) (e::f)
theorem aQ.za{c d:Type}{R:c->d->Prop}{a:List c}{b:List d}(h:aQ R a b):a.length=b.length:=by induction h with|b=>rfl|a _ _ e=>simp[e]
theorem aQ.ze{f g:Type}{R c:f->g->Prop}(i:∀a b,R a b->c a b){d:List f}{e:List g}(h:aQ R d e):aQ c d e:=by induction h with|b=>exact .b|a h _ j=>exact .a (i _ _ h) j
theorem aQ.zf{e f:Type}{R:e->f->Prop}{a b:List e}{c d:List f}(h:aQ R a c)(g:aQ R b d):aQ R (a++b)<|c++d:=by induction h with|b=>exact g|a h _ i=>exact .a h i
theorem aQ.zh{c g:Type}{R:c->g->Prop}{d:List c}{f:List g}(h:aQ R d f):∀{i:Nat}{a:c},d[i]?=V a->∃b,f[i]?=V b/\R a b:=by induction h with|b=>ext i a e;simp at e|a h _ l=>ext i a e;cases i with|zero=>simp at e;subst e;exact ad _ rfl h|succ i=>simp at e;ext(_:l e)b j k;exact ad b (by simpa using j) k
theorem aQ.zj{c d:Type}{R:c->d->Prop}{e:List c}{f:List d}(h:aQ R e f):∀{i:Nat}{a:c}{b:d},R a b->aQ R (e.set i a) (f.set i b):=by induction h with|b=>ext i a b w;exact .b|a h t g=>ext i a b r;cases i with|zero=>exact .a r t|succ i=>exact .a h<|g r
theorem aQ.zi{c d:Type}{R:c->d->Prop}{a:List c}{b:List d}(h:aQ R a b):∀n,aQ R (a.take n)<|b.take n:=by induction h with|b=>ext n;cases n<;>exact .b|a h t e=>ext n;cases n with|zero=>exact .b|succ n=>exact .a h<|e n
theorem aQ.zk{c d:Type}{R:c->d->Prop}{a:List c}{b:List d}(h:aQ R a b):∀n,aQ R (a.drop n)<|b.drop n:=by induction h with|b=>ext n;cases n<;>exact .b|a h t e=>ext n;cases n with|zero=>exact .a h t|succ n=>exact e n
theorem aQ.zc{c b:Type}{R:c->b->Prop}{a:List b}(h:aQ R [] a):a=[]:=by cases h;rfl
theorem aQ.zb{c g:Type}{R:c->g->Prop}{a:c}{d:List c}{e:List g}(h:aQ R (a::d) e):∃b f,e=b::f/\R a b/\aQ R d f:=by cases h with|a h t=>exact bu _ _ rfl h t
set_option genSizeOf false
set_option genInjectivity true
inductive O where|e|d(h:Bool)|b(i:Int)|c(s:N)|a(i:Nat)|f(g:ah)deriving Inhabited
inductive aa where|a(h:List O)|b(h:List O)|f(n:Nat)(i:List<|Int×O)|d(n:Nat)(i:List<|List Int×Nat×O)|c(k:List<|Nat×O)|e(C j:Nat)|g(h:List O)deriving Inhabited
abbrev J:=List aa
abbrev am:=List<|Option O
def ae(X:List ah):O->ab->Prop|.e,v=>v=.none|.d b,v=>v=.bool b|.b i,v=>∃t,v=.int i t|.c s,v=>∃t,v=.str s t|.a i,v=>∃a,X[i]?=V a/\v=.ref a|.f a,v=>v=.ref a
theorem iO{b:Type}{X c:List b}{i:Nat}{a:b}(h:X[i]?=V a):(X++c)[i]?=V a:=by rw[gQ (bi.mp h).1];exact h
theorem ae.zb{X b:List ah}:∀{x:O}{v:ab},ae X x v->ae (X++b) x v|.e,_,h=>h|.d _,_,h=>h|.b _,_,h=>h|.c _,_,h=>h|.a _,_,⟨a,h,e⟩=>ad a (iO h) e|.f _,_,h=>h
noncomputable def mv(n:Nat):String:=["len","max","abs","int","list","tuple","sum","sorted","dict","set","range","reversed"].getD n ""
noncomputable def wj:List ab:=[.builtin "len",.builtin "max",.builtin "abs",.type "int",.type "list",.type "tuple",.builtin "sum",.builtin "sorted",.type "dict",.type "set",.type "range",.type "reversed"]
def hB(n:Nat):ab:=wj.getD n .none
set_option genInjectivity false
structure bf where
 b:dV
 a:bX
 d:eu
 c:bS
 e:Nat->ah
 f:Nat->ah
 g:N->Option ab
 i:N->Option ab
 h:ah
 j:cx
instance:Nonempty al:=⟨{}⟩
instance:Nonempty bo:=⟨{}⟩
instance:Nonempty bX:=⟨⟨λw w=>0,{strHash:=cU,shareClass:=cU,mergeTok:=cU,idOf:=cU,idOfShared:=cU,followText:=cU,idOfImm:=cU}⟩⟩
instance:Nonempty bf:=let⟨w⟩:=(inferInstance:Nonempty bX);⟨⟨{main:=⟨[],cU,aq,cU,[]⟩,modules:=[],parses:=[],absent:=[]},w,[],{},λz=>0,λz=>0,λz=>U,λz=>U,0,{cls:=.none}⟩⟩
structure bf.zc(T:bf):Prop where
 a:T.d.In T.c
 h:T.c.NoLimit
 d:T.c.Ns gl T.g
 i:T.c.Ns rI T.i
 j:∀p,lg.contains p=M->T.g (pT p)=V (.ref<|T.f p)/\rJ T.d (.ref<|T.f p)=M
 b:∀p,p<fk->rJ T.d (.ref<|T.f p)=M/\isFn T.d (.ref<|T.f p)=M
 e:∀o,o<7->T.g (sA o)=V (.ref<|T.e o)/\rJ T.d (.ref<|T.e o)=M/\makesIn T.d (T.e o)=M/\nq T.d (.ref<|T.e o) "__init__"=V (V<|.ref<|T.f<|lf o)
 c:∀o,o<7->plainGet T.d (T.e o) ""=M/\hasDictIn T.d (T.e o)=M/\plainOver T.d (T.e o)=M/\nq T.d (.ref<|T.e o) "__setattr__"=V (V<|.builtin "object.__setattr__")
 f:∀o q,o<7->q<ek->eT o q=U->nq T.d (.ref<|T.e o) (cY q)=V U/\takerIn T.d (T.e o) (cY q)=V U
 g:∀o s p,eT o s=V p->p<fk/\nq T.d (.ref<|T.e o) (cY s)=V (V<|.ref<|T.f p)
 k:∀r,r<12->T.g (aF<|mv r)=U/\T.i (aF<|mv r)=V (hB r)
 l:∃t,T.g (aF "END")=V (.int 0 t)
 m:∃t,T.g (aF "NONE")=V (.int (-1) t)
 n:T.g (aF "OWN_TERMINALS")=V (.ref T.h)/\∃v w x u,T.c.get? T.h=V {cls:=.type "tuple",data:=.seq #[.str (aF "$end") v,.str (aF "error") w,.str (aF "$undefined") x] u}
def mw(X:List ah)(f:Nat×O)(e:jk):Prop:=(∃t,e.key=.str (cY f.1) t)/\ae X f.2 e.val
noncomputable abbrev bf.zb(T:bf):KeyKind T.b T.a Int:=intKind T.b T.a
noncomputable abbrev bf.za(T:bf):HeapKind T.b T.a<|List Int:=tupleKind<|intKind T.b T.a
def SP(T:bf)(o:cx)(b:List<|Int×ab)(n:Nat):Prop:=o.ExactDict/\∃a,o.data=.dict a n/\KeysOf T.zb a/\Pairs T.zb a.toList b/\(b.map (·.1)).Nodup
def SQ(T:bf)(o:cx)(b:List<|List Int×ah×ab)(n:Nat):Prop:=o.ExactDict/\∃a,o.data=.dict a n/\a.toList=b.map (uD T.za)/\(b.map (·.1)).Nodup
def iP(X:List ah)(e:Int×O)(x:Int×ab):Prop:=x.1=e.1/\ae X e.2 x.2
def gW(X:List ah)(e:List Int×Nat×O)(x:List Int×ah×ab):Prop:=x.1=e.1/\X[e.2.1]?=V x.2.1/\ae X e.2.2 x.2.2
def fI(T:bf)(X:List ah)(H:J):aa->cx->Prop|.a a,o=>a.length<=16777217/\∃b n,o=bL "list" b n/\aQ (ae X) a b.toList|.b a,o=>a.length<=16777217/\∃b n,o=bL "tuple" b n/\aQ (ae X) a b.toList|.f n c,o=>∃j,SP T o j n/\aQ (iP X) c j|.d n c,o=>(∀e∈c,H[e.2.1]?=V (.b<|e.1.map .b))/\∃a,SQ T o a n/\aQ (gW X) c a|.c g,o=>(g.map (·.1)).Nodup/\(g.length<=100/\∀f∈g,f.1<ek)/\∃h n,o=dictOf h n/\aQ (mw X) g h|.e C d,o=>C<7/\∃i,X[d]?=V i/\o=uE (T.e C) i|.g a,o=>o=T.j/\o.cls=.type "list"/\∃b n,o.data=.seq b n/\aQ (ae X) a b.toList
theorem SR{o:cx}{a:Array ab}{n:Nat}(h:o.data=.seq a n):o.isFreed=aq:=by obtain⟨c,d,b,e⟩:=o;subst h;rfl
theorem Hp{o:cx}{a:Array jk}{n:Nat}(h:o.data=.dict a n):o.isFreed=aq:=by obtain⟨c,d,b,e⟩:=o;subst h;rfl
theorem fI.zb{T:bf}{X:List ah}{H:J}{o:aa}{c:cx}(h:fI T X H o c):c.isFreed=aq:=by delta T X H o c;ext h;cases o with|a f=>ext(@ac h)w a(@bp a)i n b w;subst b;rfl|b f=>ext(@ac h)w a(@bp a)i n b w;subst b;rfl|f n k=>ext(h)p a w(@ac a)w b(b)g e w;exact Hp e|d n k=>ext(@ac h)w a(a)f b w(@ac b)w j(j)g e w;exact Hp e|c m=>ext(@bD h)w w a(@bp a)g n b w;subst b;rfl|e C d=>ext(@ac h)w a(a)l w b-;rfl|g f=>ext(@bD h)w w a(@bp a)i n e w;exact SR e
def mx(H I:J):Prop:=∀(i:Nat)(a:List O),H[i]?=V (.b a)->I[i]?=V (.b a)
theorem mx.za(H X:J):mx H<|H++X:=λw w h=>iO h
theorem ae.za{X a:List ah}(b:X<+:a){x:O}{v:ab}(h:ae X x v):ae a x v:=by obtain⟨c,rfl⟩:=b;exact h.zb
theorem ay{b:Type}{X c:List b}(d:X<+:c){i:Nat}{a:b}(h:X[i]?=V a):c[i]?=V a:=by obtain⟨e,rfl⟩:=d;exact iO h
theorem fI.za{T:bf}{X p:List ah}{H I:J}(m:X<+:p)(A:mx H I){o:aa}{q:cx}(h:fI T X H o q):fI T p I o q:=by have g:∀x v,ae X x v->ae p x v:=λE E h=>h.za m;cases o with|a j=>ext(@ac h)z f(@bp f)i n e h;exact⟨z,bK i n e<|h.ze g⟩|b j=>ext(@ac h)z f(@bp f)i n e h;exact⟨z,bK i n e<|h.ze g⟩|f n u=>ext(h)B e h;exact ad B e<|h.ze λa b r=>⟨r.1,g _ _ r.2⟩|d n u=>ext(@ac h)y f(f)j e h;exact⟨λe w=>A _ _<|y e w,ad j e<|h.ze λa b r=>aI r.1 (ay m r.2.1)<|g _ _ r.2.2⟩|c D=>ext(@bD h)k l f(@bp f)s n e h;exact aI k l<|bK s n e<|h.ze λa b r=>⟨r.1,g _ _ r.2⟩|e C d=>ext(@ac h)z f(f)t k l;exact⟨z,ad t (ay m k) l⟩|g j=>ext(@bD h)z c f(@bp f)i n e h;exact aI z c<|bK i n e<|h.ze g
structure ai(T:bf)(X:List ah)(H:J)(h:bS):Prop where
 a:T.zc
 b:∀j o,T.c.get? j=V o->h.get? j=V o
 c:X.length=H.length
 f:X.Nodup
 d:∀g∈X,T.c.get? g=U/\2<g
 e:∀(i:Nat)(o:aa),H[i]?=V o->∃g k,X[i]?=V g/\h.get? g=V k/\fI T X H o k
theorem ai.zi{T:bf}{X:List ah}{H:J}{h:bS}(R:ai T X H h){i:Nat}{o:aa}{a:ah}(g:H[i]?=V o)(f:X[i]?=V a):∃c,h.get? a=V c/\fI T X H o c:=by ext(bk:R.e i o g)j c b d e;rw[f]at b;have b:=bj b;subst b;exact ad c d e
theorem ai.zx{T:bf}{X:List ah}{H:J}{h:bS}(R:ai T X H h){i:Nat}{a:ah}(b:X[i]?=V a):∃o,H[i]?=V o:=by have:=(bi.mp b).1;rw[R.c]at this;exact⟨_,cu this⟩
theorem ai.zn{T:bf}{X:List ah}{H:J}{h:bS}(R:ai T X H h){a:ah}(e:a∈X):∃b,h.get? a=V b:=by ext(aD:fe e)i c(aD:R.zx c)o f(_:R.zi f c)b d w;exact⟨b,d⟩
theorem ai.zb{T:bf}{X:List ah}{H:J}{h:bS}(R:ai T X H h):T.d.In h:=λa o e=>R.b _ _<|R.a.a a o e
theorem ai.zt{T:bf}{X:List ah}{H:J}{h:bS}(R:ai T X H h):h.NoLimit:=R.a.h.keeps R.b
theorem ai.zh{T:bf}{X:List ah}{H:J}{h:bS}(R:ai T X H h):2<h.objs.size:=by ext(_:R.zt)a n w;exact n.lt
theorem ai.ze{T:bf}{X:List ah}{H:J}{h:bS}(R:ai T X H h){i:Nat}{a:ah}(b:X[i]?=V a):(a==pg)=aq:=by have:=(R.d a<|bs b).2;simp only[beq_eq_false_iff_ne];ext e-;exact absurd this (by decide)
theorem ai.zk{T:bf}{X:List ah}{H:J}{h c:bS}(R:ai T X H h)(g:∀b o,T.c.get? b=V o->c.get? b=V o)(k:∀a∈X,∀o,h.get? a=V o->c.get? a=V o):ai T X H c:=⟨R.a,g,R.c,R.f,R.d,λi o j=>bk (R.e i o j) λa l d e f=>bu a l d (k a (bs d) _ e) f⟩
theorem ai.zc{T:bf}{X:List ah}{H:J}{h c:bS}(R:ai T X H h)(k:∀b o,h.get? b=V o->c.get? b=V o):ai T X H c:=R.zk (λb o e=>k b o<|R.b b o e) λa w o e=>k a o e
theorem ai.zp{T:bf}{X:List ah}{H:J}{h d:bS}(R:ai T X H h)(k:∀b o,h.get? b=V o->d.get? b=V o){a:ah}{g:cx}{o:aa}(j:h.get? a=U)(n:2<a)(p:d.get? a=V g)(r:fI T (X++[a]) (H++[o]) o g):ai T (X++[a]) (H++[o]) d:=by
 delta T X H h d a g o at R k j n p r;have z:a∉X:=λw=>by ext(aD:R.zn w)x l;rw[j]at l;exact cn l
 refine⟨R.a,λb o e=>k b o<|R.b b o e,by simp[R.c],?_,?_,?_⟩;.rw[ff];refine aI R.f (by simp) ?_;ext x l y m e;simp at m;have m:=m.symm;subst m;have e:=e.symm;subst e;exact z l
 .ext b c;rcases bU.mp c with c|c;.exact R.d b c
  .simp at c;have c:=c.symm;subst c;refine⟨?_,n⟩;cases q:T.c.get? a with|none=>rfl|some x=>have:=R.b _ _ q;rw[j]at this;exact cn this
 .ext i A f;by_cases s:i<H.length;.rw[gQ s]at f;ext(bk:R.e i A f)b B t u v;exact bu b B (iO t) (k _ _ u)<|v.za (kS ..)<|mx.za H [o]
  .have:i=H.length:=by have:=(bi.mp f).1;simp at this;exact be (an 1 1 0 0 this rfl)<|dM s
   subst this;simp at f;subst f;exact bu a g (by rw[<-R.c];simp) p r
theorem wk{b:Type}{l:List b}(g:l.Nodup){i j:Nat}{a:b}(e:l[i]?=V a)(f:l[j]?=V a):i=j:=by ext(aD:bi.mp e)h c(aD:bi.mp f)k d;exact(List.getElem_inj g).mp<|c.trans d.symm
theorem ai.zl{T:bf}{X:List ah}{H:J}{h g:bS}(R:ai T X H h){i:Nat}{a:ah}{l:cx}{o d:aa}(n:H[i]?=V o)(k:X[i]?=V a)(w:∀q,o≠.b q)(p:kT a h g)(u:g.get? a=V l)(v:fI T X (H.set i d) d l):ai T X (H.set i d) g:=by
 have t:i<H.length:=(bi.mp n).1
 have z:mx H<|H.set i d:=λj q c=>by
  have:i≠j:=λe=>by subst e;rw[n]at c;have c:=bj c;subst c;exact w _ rfl
  rw[iw this];exact c
 refine⟨R.a,λb x e=>?_,by simp[R.c],R.f,R.d,λj x c=>?_⟩
 .have:b≠a:=λf=>by subst f;rw[(R.d _<|bs k).1]at e;exact cn e
  rw[p.2 b this];exact R.b b x e
 .by_cases e:i=j;.subst e;rw[kd t]at c;have c:=bj c;subst c;exact bu a l k u v
  .rw[iw e]at c;ext(bk:R.e j x c)b y m r s;have:b≠a:=λf=>by subst f;exact e<|wk R.f k m
   exact bu b y m ((p.2 b this).trans r)<|s.za (eg _) z
structure bg(X g:List ah)(s:al)(i:List ah)(u:al):Prop where
 a:g<+:i
 d:u.gens=s.gens/\u.os=s.os
 b:∀f o,s.heap.get? f=V o->f∉g->f∉X->u.heap.get? f=V o
 c:∀f o,s.heap.get? f=V o->∃j,u.heap.get? f=V j
 e:∀h∈i,h∈g\/s.heap.get? h=U
theorem bg.zc{X a:List ah}{s:al}:bg X a s a s:=⟨eg _,⟨rfl,rfl⟩,λw w e w w=>e,λw o e=>⟨o,e⟩,λw h=>.inl h⟩
theorem bg.ze{X a:List ah}{s:al}(n:Nat):bg X a s a {s with toks:=n}:=⟨eg _,⟨rfl,rfl⟩,λw w e w w=>e,λw o e=>⟨o,e⟩,λw h=>.inl h⟩
theorem bg.za{X f g i:List ah}{s u d:al}(x:bg X f s g u)(y:bg X g u i d):bg X f s i d:=by
 delta X f g i s u d;ext x y;obtain⟨D,⟨p,B⟩,t,l,m⟩:=x;obtain⟨E,⟨q,C⟩,v,w,A⟩:=y;refine⟨D.trans E,⟨q.trans p,C.trans B⟩,λb o e k j=>v b o (t b o e k j) (λh=>?_) j,λb o e=>?_,λa r=>?_⟩
 .rcases m b h with h|h;.exact k h
  .rw[e]at h;exact gr h
 .ext(aD:l b o e)n c;exact w b n c
 .rcases A a r with h|h;.exact m a h
  .refine .inr ?_;cases z:s.heap.get? a with|none=>rfl|some o=>ext(aD:l a o z)n c;rw[h]at c;exact cn c
def eW{b:Type}(T:bf)(A:bo)(X c:List ah)(s:al)(t:cN b)(Q:b->List ah->J->al->Prop):Prop:=av (ax T.b T.a) A t (λv u=>∃a I,bg X c s a u/\ai T a I u.heap/\Q v a I u) (λw w=>False) s
def aU(T:bf)(A:bo)(X a:List ah)(s:al)(t:cN ab)(Q:O->J->Prop):Prop:=eW T A X a s t λv b I w=>∃x,ae b x v/\Q x I
section
variable{T:bf}{A:bo}{X c:List ah}{H:J}{s:al}
theorem eW.za{b:Type}{a:b}{Q:b->List ah->J->al->Prop}(R:ai T c H s.heap)(q:Q a c H s):eW T A X c s (bv a) Q:=aC<|bu c H .zc R q
def fl(T:bf)(X c:List ah)(s:al)(Q:O->J->Prop)(v:ab)(u:al):Prop:=∃a I,bg X c s a u/\ai T a I u.heap/\∃x,ae a x v/\Q x I
theorem dn{Q:O->J->Prop}{v:ab}{x:O}{a:Nat}(R:ai T c H s.heap)(b:ae c x v)(q:Q x H):fl T X c s Q v {s with toks:=a}:=bu c H (.ze a) R<|ad x b q
theorem cK{Q:O->J->Prop}{v:ab}{x:O}(R:ai T c H s.heap)(a:ae c x v)(q:Q x H):fl T X c s Q v s:=bu c H .zc R<|ad x a q
theorem gX(h:bS){a:ah}(b:h.objs.size<=a):h.get? a=U:=by cases q:h.get? a with|none=>rfl|some o=>exact absurd (ea q)<|kc.mpr b
theorem wl{Q:O->J->Prop}{v:ab}{x:O}{a:bS}{f:Nat}(R:ai T c H s.heap)(k:∀b o,s.heap.get? b=V o->a.get? b=V o)(d:ae c x v)(q:Q x H):fl T X c s Q v {s with heap:=a,toks:=f}:=bu c H ⟨eg _,⟨rfl,rfl⟩,λb o e w w=>k b o e,λb o e=>⟨o,k b o e⟩,λw h=>.inl h⟩ (R.zc k)<|ad x d q
theorem my{Q:O->J->Prop}{f:bS}{m:Nat}{a:ah}{h:cx}{o:aa}(R:ai T c H s.heap)(k:∀b o,s.heap.get? b=V o->f.get? b=V o)(g:s.heap.get? a=U)(j:f.get? a=V h)(i:2<a)(l:fI T (c++[a]) (H++[o]) o h)(q:Q (.a H.length)<|H++[o]):fl T X c s Q (.ref a) {s with heap:=f,toks:=m}:=(bu (c++[a]) (H++[o]) ⟨kS ..,⟨rfl,rfl⟩,λb o e w w=>k b o e,λb o e=>⟨o,k b o e⟩,λb d=>by
 rcases bU.mp d with d|d;.exact .inl d
 .simp at d;have d:=d.symm;subst d;exact .inr g⟩ (R.zp k g i j l)<|ad (.a H.length) (ad a (by rw[<-R.c];simp) rfl) q)
theorem lk{Q:O->J->Prop}{d:Nat}{b:cx}{o:aa}(R:ai T c H s.heap)(a:fI T (c++[s.heap.objs.size]) (H++[o]) o b)(q:Q (.a H.length)<|H++[o]):fl T X c s Q (.ref s.heap.objs.size) {s with heap:=s.heap.push b,toks:=d}:=my R (λw w e=>bP _ e) (gX _<|aO _) (dt _ a.zb) R.zh a q
theorem hC{d:List O}{a:Array ab}{n:Nat}(h:aQ (ae c) d a.toList)(b:d.length<=16777217):fI T c H (.a d)<|bL "list" a n:=⟨b,bK a n rfl h⟩
theorem Hq{d:List O}{a:Array ab}{n:Nat}(h:aQ (ae c) d a.toList)(b:d.length<=16777217):fI T c H (.b d)<|bL "tuple" a n:=⟨b,bK a n rfl h⟩
theorem aQ.zd{d:List O}{a:List ab}{b:List ah}(h:aQ (ae c) d a):aQ (ae<|c++b) d a:=h.ze λw w h=>h.zb
theorem pZ{d:bS}{m i:Nat}{a:ah}(j:c[i]?=V a)(f:kT a s.heap d)(k:∃l,d.get? a=V l):bg X c s c {s with heap:=d,toks:=m}:=⟨eg _,⟨rfl,rfl⟩,λb o e g w=>(f.2 b λq=>g<|q▸bs j).trans e,λb o e=>by
 by_cases q:b=a;.have q:=q.symm;subst q;exact k
 .exact⟨o,(f.2 b q).trans e⟩,λw h=>.inl h⟩
theorem SS{Q:O->J->Prop}{v:ab}{x:O}{e:bS}{p i:Nat}{a:ah}{j:cx}{o b:aa}(R:ai T c H s.heap)(k:H[i]?=V o)(f:c[i]?=V a)(m:∀d,o≠.b d)(h:kT a s.heap e)(g:e.get? a=V j)(l:fI T c (H.set i b) b j)(n:ae c x v)(q:Q x<|H.set i b):fl T X c s Q v {s with heap:=e,toks:=p}:=bu c (H.set i b) (pZ f h ⟨_,g⟩) (R.zl k f m h g l)<|ad x n q
theorem ai.za{i:Nat}{d:List O}{a:ah}(R:ai T c H s.heap)(j:H[i]?=V (.a d))(h:c[i]?=V a):∃b n,IsL s.heap a b n/\aQ (ae c) d b.toList/\b.size=d.length/\d.length<=16777217:=by ext(bd:R.zi j h)l g z f(@bp f)b n k e;subst k;exact eD b n g e (by rw[e.za];simp) z
theorem ai.zd{i:Nat}{d:List O}{a:ah}(R:ai T c H s.heap)(j:H[i]?=V (.b d))(h:c[i]?=V a):∃b n,s.heap.get? a=V (bL "tuple" b n)/\aQ (ae c) d b.toList/\b.size=d.length/\d.length<=16777217:=by ext(bd:R.zi j h)l g z f(@bp f)b n k e;subst k;exact eD b n g e (by rw[e.za];simp) z
theorem Hr{d:List O}{a:Array ab}(h:aQ (ae c) d a.toList):a.size=d.length:=by rw[h.za];simp
section intops
variable{a b:Int}{v u:ab}{Q:O->J->Prop}
theorem ST(R:ai T c H s.heap)(e:ae c (.b a) v)(d:ae c (.b b) u)(q:Q (.b<|a+b) H):aU T A X c s (ix .Add v u) Q:=by ext(bz e)t(bz d)f;exact adw<|dn (x:=.b<|a+b) R ⟨_,rfl⟩ q
theorem SU(R:ai T c H s.heap)(e:ae c (.b a) v)(d:ae c (.b b) u)(q:Q (.b<|a-b) H):aU T A X c s (ix .Sub v u) Q:=by ext(bz e)t(bz d)f;exact adx<|dn (x:=.b<|a-b) R ⟨_,rfl⟩ q
theorem SV(R:ai T c H s.heap)(e:ae c (.b a) v)(d:ae c (.b b) u)(f:DY a b)(q:Q (.b<|a*b) H):aU T A X c s (ix .Mult v u) Q:=by ext(bz e)t(bz d)g;exact ady (dn (x:=.b<|a*b) R ⟨_,rfl⟩ q) f
theorem SW(R:ai T c H s.heap)(e:ae c (.b a) v)(d:ae c (.b b) u)(f:b≠0)(g:uF a b=aq)(q:Q (.b<|a.fdiv b) H):aU T A X c s (ix .FloorDiv v u) Q:=by ext(bz e)t(bz d)h;exact adz f (dn (x:=.b<|a.fdiv b) R ⟨_,rfl⟩ q) (hp:=.inl g)
theorem SX(R:ai T c H s.heap)(e:ae c (.b a) v)(d:ae c (.b b) u)(f:b≠0)(q:Q (.b<|a.fmod b) H):aU T A X c s (ix .Mod v u) Q:=by ext(bz e)t(bz d)g;exact adA f<|dn (x:=.b<|a.fmod b) R ⟨_,rfl⟩ q
theorem SY(R:ai T c H s.heap)(e:ae c (.b a) v)(d:ae c (.b b) u)(f:0<=b)(g:(uG a:Int)*b<=2^27)(q:Q (.b<|a^b.toNat) H):aU T A X c s (ix .Pow v u) Q:=by ext(bz e)t(bz d)h;exact adB f g<|dn (x:=.b<|a^b.toNat) R ⟨_,rfl⟩ q
theorem SZ(R:ai T c H s.heap)(e:ae c (.b a) v)(d:ae c (.b b) u)(f:0<=b)(g:b<=1000000)(h:a.natAbs<2^64)(q:Q (.b<|a*2^b.toNat) H):aU T A X c s (ix .LShift v u) Q:=by ext(bz e)t(bz d)i;exact adC f g h<|dn (x:=.b<|a*2^b.toNat) R ⟨_,rfl⟩ q
theorem Ta(R:ai T c H s.heap)(e:ae c (.b a) v)(d:ae c (.b b) u)(f:0<=b)(q:Q (.b<|a.fdiv<|2^b.toNat) H):aU T A X c s (ix .RShift v u) Q:=by ext(bz e)t(bz d)g;exact adD f<|dn (x:=.b<|a.fdiv<|2^b.toNat) R ⟨_,rfl⟩ q
theorem Tb(R:ai T c H s.heap)(e:ae c (.b a) v)(d:ae c (.b b) u)(q:Q (.b<|rK a b) H):aU T A X c s (ix .BitAnd v u) Q:=by ext(bz e)t(bz d)f;exact adE<|dn (x:=.b<|rK a b) R ⟨_,rfl⟩ q
theorem Tc(R:ai T c H s.heap)(e:ae c (.b a) v)(d:ae c (.b b) u)(q:Q (.b<|ph a b) H):aU T A X c s (ix .BitOr v u) Q:=by ext(bz e)t(bz d)f;exact adF<|dn (x:=.b<|ph a b) R ⟨_,rfl⟩ q
theorem Td(R:ai T c H s.heap)(b:ae c (.b a) v)(q:Q (.b<|-a) H):aU T A X c s (unaryOp .USub v) Q:=by ext(bz b)t;exact adG<|dn (x:=.b<|-a) R ⟨_,rfl⟩ q
theorem Te(R:ai T c H s.heap)(e:ae c (.b a) v)(d:ae c (.b b) u)(q:Q (.d<|a==b) H):aU T A X c s (dj .Eq v u) Q:=by ext(bz e)t(bz d)f;exact adH<|cK (x:=.d<|a==b) R rfl q
theorem Tf(R:ai T c H s.heap)(e:ae c (.b a) v)(d:ae c (.b b) u)(q:Q (.d<|a !=b) H):aU T A X c s (dj .NotEq v u) Q:=by ext(bz e)t(bz d)f;exact adI<|cK (x:=.d<|a !=b) R rfl q
theorem Tg(R:ai T c H s.heap)(e:ae c (.b a) v)(d:ae c (.b b) u)(q:Q (.d<|aP<|a<b) H):aU T A X c s (dj .Lt v u) Q:=by ext(bz e)t(bz d)f;exact adJ<|cK (x:=.d<|aP<|a<b) R rfl q
theorem Th(R:ai T c H s.heap)(e:ae c (.b a) v)(d:ae c (.b b) u)(q:Q (.d<|aP<|b<a) H):aU T A X c s (dj .Gt v u) Q:=by ext(bz e)t(bz d)f;exact adK<|cK (x:=.d<|aP<|b<a) R rfl q
theorem Ti(R:ai T c H s.heap)(e:ae c (.b a) v)(d:ae c (.b b) u)(q:Q (.d<|aP<|b<=a) H):aU T A X c s (dj .GtE v u) Q:=by ext(bz e)t(bz d)f;exact adL<|cK (x:=.d<|aP<|b<=a) R rfl q
end intops
section strops
variable{a b:N}{v u:ab}{Q:O->J->Prop}
theorem Tj(R:ai T c H s.heap)(e:ae c (.c a) v)(d:ae c (.c b) u)(q:Q (.d<|a==b) H):aU T A X c s (dj .Eq v u) Q:=by ext(bz e)t(bz d)f;exact adM<|cK (x:=.d<|a==b) R rfl q
theorem Tk(R:ai T c H s.heap)(e:ae c (.c a) v)(d:ae c (.c b) u)(q:Q (.d<|a !=b) H):aU T A X c s (dj .NotEq v u) Q:=by ext(bz e)t(bz d)f;exact adN<|cK (x:=.d<|a !=b) R rfl q
end strops
section listops
variable{i j:Nat}{d e:List O}{v u:ab}{Q:O->J->Prop}
theorem Tl(R:ai T c H s.heap)(l:ae c (.a i) v)(k:ae c (.a j) u)(t:H[i]?=V (.a d))(w:H[j]?=V (.a e))(f:d.length+e.length<=DZ)(q:Q (.a H.length)<|H++[.a<|d++e]):aU T A X c s (ix .Add v u) Q:=by ext(bt l)a p(bt k)b r(bk:R.za t p)z n m g B(bk:R.za w r)y x o h B;refine PySem.P.add_list m o ?_ (by rw[Hr g,Hr h];exact f);exact lk R (hC (by rw[R4];exact g.zd.zf h.zd)<|by rw[hR];rw[dk]at f;exact an 0 16777216 0 16777217 f rfl) q
end listops
end
section
variable{T:bf}{A:bo}{X a:List ah}{H:J}{s:al}{i j:Nat}{b c:List O}{v u:ab}{Q:O->J->Prop}{x:O}{k:Int}
theorem jA{d:Array ab}{i:Nat}{x:O}(h:aQ (ae a) b d.toList)(g:b[i]?=V x):∃c,d[i]?=V c/\ae a x c:=by ext(_:h.zh g)c e f;exact ad c (by simpa using e) f
theorem gy{a:Type}{b:List a}{i:Nat}{x:a}(c:b[i]?=V x):i<b.length:=(bi.mp c).1
theorem wm{a:ah}{b:Array ab}{n:Nat}(h:IsL s.heap a b n)(f:Array ab->Array ab):∃c,(s.heap.update a<|ke f).get? a=V (bL "list" (f b) c):=⟨_,lU (ke f) h rfl⟩
theorem wn{k:Int}{n:Nat}(a:0<=k)(b:k<n):seqIndex? k n=V k.toNat:=by unfold seqIndex?;simp only[if_neg<|DR.mpr a];rw[if_pos<|by simp[a,b]]
theorem sN{d:ah}{g:Array ab}{n:Nat}{f:Array ab->Array ab}{w:ab}{r:Nat}(R:ai T a H s.heap)(j:H[i]?=V (.a b))(h:a[i]?=V d)(k:IsL s.heap d g n)(m:aQ (ae a) c (f g).toList)(p:c.length<=16777217)(o:ae a x w)(q:Q x<|H.set i<|.a c):fl T X a s Q w {s with heap:=s.heap.update d (ke f),toks:=r}:=by ext(aD:wm k f)t l;exact SS R j h (λz e=>by cases e) (hS ..) l (hC m p) o q
theorem Tm(R:ai T a H s.heap)(f:ae a (.a i) v)(l:ae a x u)(e:H[i]?=V (.a b))(g:b.length<=16777215)(q:Q .e<|H.set i<|.a<|b++[x]):aU T A X a s (bT (.builtin "list.append") [v,u]) Q:=by ext(bt f)h d(co:R.za e d)m n c j k w;refine lV LU (ad _ c rfl) R5 (R6 _ _) (R7 h m n u<|by rw[dk];exact aA 0 0 0 16777215 0 16777216 (aw k) g rfl) ⟨c,?_⟩;exact sN (x:=.e) R e d c (by rw[Ea];exact j.zf<|.a l .b) (by simp;exact an 0 16777215 0 16777216 g rfl) rfl q
theorem Tn(R:ai T a H s.heap)(m:ae a (.a i) v)(l:ae a (.a j) u)(k:H[i]?=V (.a b))(y:H[j]?=V (.a c))(d:b.length+c.length<=16777215)(q:Q .e<|H.set i<|.a<|b++c):aU T A X a s (bT (.builtin "list.extend") [v,u]) Q:=by
 ext(bt m)o h(bt l)p x(co:R.za k h)C n e r f D(co:R.za y x)B z t w g D;refine lV R8 (ad _ e rfl) F.entry_list_extend (F.args_list_extend_2 _ _) (AutoSeq1.list_extend_list_list_0 o C n p B z ?_ (by rw[dk];exact RS d f)<|by rw[dk];exact RT d f g)<|aI e t ?_;.simp only[R9,dk,bA,not_and,decide_eq_true_eq];exactλD=>kc.mpr (by rw[f,g];exact S0 d)
 .exact sN (x:=.e) R k h e (by rw[R4];exact r.zf w) (by simp;exact an 0 16777215 0 16777217 d rfl) rfl q
theorem To(R:ai T a H s.heap)(l:ae a (.a i) v)(j:H[i]?=V (.a b))(m:b[b.length-1]?=V x)(o:b.length<=16777216)(q:Q x<|H.set i<|.a b.dropLast):aU T A X a s (bT (.builtin "list.pop") [v]) Q:=by
 ext(bt l)p h(co:R.za j h)d n f g c w(_:jA g m)y t r;refine lV Eb (ad _ f rfl) S1 (F.args_list_pop_1 _) (PySem.MeetsSeq.list_pop_last p d n y (by rw[c];exact t)<|by rw[dk];exact aj (aw c) o) ⟨f,?_⟩;refine sN (c:=b.dropLast) R j h f ?_ (by simp;exact an 0 16777216 0 16777218 o rfl) r q;have e:(d.eraseIdxIfInBounds<|d.size-1).toList=d.toList.dropLast:=by have k:=gy m;unfold S2;rw[dif_pos<|by exact RU c k];obtain⟨u⟩:=d;simp only[List.eraseIdx_toArray,Ec];rw[List.eraseIdx_eq_dropLast<|by simp only[Ec]at c;exact RV k c]
 rw[e,S3,S3,<-g.za];exact g.zi _
theorem Tp(R:ai T a H s.heap)(j:ae a (.a i) v)(h:ae a (.b 0) u)(g:H[i]?=V (.a<|x::b))(k:b.length<=16777215)(q:Q x<|H.set i<|.a b):aU T A X a s (bT (.builtin "list.pop") [v,u]) Q:=by ext(bt j)m f(bz h)t(co:R.za g f)l n c e d D;simp only[pi]at d;ext(_:jA (i:=0) e rfl)y r p;refine lV Eb (ad _ c rfl) S1 (F.args_list_pop_2 _ _) (PySem.MeetsSeq.list_pop_at m l n 0 t 0 y (by decide) (wn (Int.le_refl _)<|pd.mpr<|d▸LN _) r<|by rw[dk];exact aA 0 1 0 16777215 0 16777216 (aw d) k rfl) ⟨c,?_⟩;refine sN (c:=b) R g f c ?_ (by exact an 0 16777215 0 16777217 k rfl) p q;obtain⟨C⟩:=l;ext(bk:e.zb)z B w D o;subst w;simpa[S2]using o
theorem Tq(R:ai T a H s.heap)(d:ae a (.a i) v)(h:H[i]?=V (.a b))(q:Q (.b b.length) H):aU T A X a s (bT (.builtin "len") [v]) Q:=by ext(bt d)j g(co:R.za h g)l n e k c f;exact Calls.call_len_list e.isList (jx (aj (kb c) f) rfl)<|dn (x:=.b b.length) R ⟨_,by rw[c]⟩ q
theorem Tr(R:ai T a H s.heap)(d:ae a (.a i) v)(h:H[i]?=V (.b b))(q:Q (.b b.length) H):aU T A X a s (bT (.builtin "len") [v]) Q:=by ext(bt d)k g(co:R.zd h g)j n e l c f;exact S4 (items:=j) (aT _ e rfl ⟨_,rfl⟩) (jx (aj (kb c) f) rfl)<|dn (x:=.b b.length) R ⟨_,by rw[c]⟩ q
theorem Ts(R:ai T a H s.heap)(c:ae a (.a i) v)(m:H[i]?=V (.a b))(d:b.length<=16777216)(q:Q (.a H.length)<|H++[.a b]):aU T A X a s (bT (.type "list") [v]) Q:=by ext(bt c)f l(co:R.za m l)r n g h j w;exact LV f (.inl rfl) g rfl rfl (λp o k e=>my R k (gX _<|aO _) e R.zh (hC h.zd<|by exact an 0 16777216 0 16777217 d rfl) q) (by rw[dk];exact aj (aw j) d)
theorem Tt(R:ai T a H s.heap)(c:ae a (.a i) v)(m:H[i]?=V (.b b))(d:b.length<=16777216)(q:Q (.a H.length)<|H++[.a b]):aU T A X a s (bT (.type "list") [v]) Q:=by ext(bt c)f l(co:R.zd m l)r n g h j w;exact LV f (.inr rfl) g rfl rfl (λp o k e=>my R k (gX _<|aO _) e R.zh (hC h.zd<|by exact an 0 16777216 0 16777217 d rfl) q) (by rw[dk];exact aj (aw j) d)
theorem Tu(R:ai T a H s.heap)(c:ae a (.a i) v)(p:H[i]?=V (.a b))(d:b.length<=16777216)(q:Q (.a H.length)<|H++[.b b]):aU T A X a s (bT (.type "tuple") [v]) Q:=by ext(bt c)r m(co:R.za p m)t n h j l w;refine call_tuple_list h.isList (λg k=>?_) (by rw[dk];exact aj (aw l) d);refine my R (λf o e=>bP _<|k f o e) ?_ (dt _ rfl) (R.zc k).zh (Hq j.zd<|by exact an 0 16777216 0 16777217 d rfl) q;cases e:s.heap.get? g.objs.size with|none=>rfl|some o=>exact absurd (ea<|k _ _ e)<|np _
theorem Tv(R:ai T a H s.heap)(d:ae a (.a i) v)(c:ae a (.b k) u)(m:H[i]?=V (.a b))(f:0<=k)(e:b[k.toNat]?=V x)(q:Q x H):aU T A X a s (jl v u) Q:=by ext(bt d)r l(bz c)t(co:R.za m l)z n g h w j(_:jA h e)y p o;have:=gy e;exact wpAny_getItem_list g.isList f (pb (LS _)<|jx (aj (gn this) j) rfl) p<|cK R o q
theorem Tw(R:ai T a H s.heap)(e:ae a (.a i) v)(d:ae a (.b k) u)(o:H[i]?=V (.b b))(c:0<=k)(f:b[k.toNat]?=V x)(q:Q x H):aU T A X a s (jl v u) Q:=by ext(bt e)z m(bz d)t(co:R.zd o m)w n g h j l(_:jA h f)y r p;have:=gy f;exact S5 (items:=w) (aT _ g rfl ⟨_,rfl⟩) (pf (by decide) c) (pb (LS _)<|jx (aj (gn this) l) rfl) (wn c<|by exact RW j this) r<|cK R p q
theorem Tx(R:ai T a H s.heap)(f:ae a (.a i) v)(e:ae a (.b k) u)(o:H[i]?=V (.a b))(h:k<0)(c:-(b.length:Int)<=k)(r:b[(k+b.length).toNat]?=V x)(q:Q x H):aU T A X a s (jl v u) Q:=by ext(bt f)z m(bz e)t(co:R.za o m)B n g j d l(_:jA j r)y w p;exact wpAny_getItem_list_neg g.isList h (by exact RX c d) (pf (R3<|rL<|jx l rfl) c) (by rw[d];exact w)<|cK R p q
theorem Ty{Q:Unit->List ah->J->al->Prop}(R:ai T a H s.heap)(m:ae a (.a i) v)(l:ae a (.b k) u){w:ab}(y:ae a x w)(h:H[i]?=V (.a b))(o:0<=k)(f:k<b.length)(q:∀z,Q () a (H.set i<|.a<|b.set k.toNat x) z):eW T A X a s (Ed v u w) Q:=by ext(bt m)B c(bz l)t(co:R.za h c)D n d p r g;refine ki_setAt d o (Int.lt_trans f<|jx g rfl) (by rw[r];exact f) ?_;ext(aD:wm (s:=s) d (·.setIfInBounds k.toNat w))C j;exact bu a _ (pZ (s:=s) c (hS ..) ⟨_,j⟩) (R.zl h c (λE e=>by cases e) (hS ..) j<|hC (by simpa using p.zj y)<|by simpa using g)<|q _
end
section
variable{T:bf}{A:bo}{X a:List ah}{H:J}{s:al}{i j:Nat}{d e:List O}{v u:ab}{Q:O->J->Prop}{x:O}{k:Int}
theorem ll{c:List Int}:∀{d:List ab},aQ (ae a) (c.map .b) d->rM d c:=by induction c with|nil=>ext d h;rw[show d=[]from h.zc];exact .nil|cons n r g=>ext d h(bk:h.zb)b k i e f;subst i;ext(@aD e)t j-;exact .cons n t<|g f
theorem qa{b:List N}:∀{c:List ab},aQ (ae a) (b.map .c) c->Ee c b:=by induction b with|nil=>ext c h;rw[show c=[]from h.zc];exact .nil|cons n r f=>ext c h(bk:h.zb)j k g d e;subst g;ext(@aD d)t i-;exact .cons n t<|f e
theorem Tz{c:List Int}{b:List ab}(h:rM b c):aQ (ae a) (c.map .b) b:=by induction h with|nil=>exact .b|cons n t _ d=>exact .a ⟨t,rfl⟩ d
section
variable{c:List Int}{b:List N}{z:N}
theorem TA(R:ai T a H s.heap)(b:ae a (.b k) u)(d:ae a (.a i) v)(h:H[i]?=V (.a<|c.map .b))(q:Q (.d<|c.any (·==k)) H):aU T A X a s (dj .In u v) Q:=by ext(bt d)j g(bz b)t(bk:R.za h g)l n e f w;exact in_list_ints e.isList (ll f)<|cK (x:=.d _) R rfl q
theorem TB(R:ai T a H s.heap)(b:ae a (.b k) u)(d:ae a (.a i) v)(h:H[i]?=V (.a<|c.map .b))(q:Q (.d<|!(c.any (·==k))) H):aU T A X a s (dj .NotIn u v) Q:=by ext(bt d)j g(bz b)t(bk:R.za h g)l n e f w;exact notin_list_ints e.isList (ll f)<|cK (x:=.d _) R rfl q
theorem TC(R:ai T a H s.heap)(b:ae a (.b k) u)(d:ae a (.a i) v)(h:H[i]?=V (.b<|c.map .b))(q:Q (.d<|!(c.any (·==k))) H):aU T A X a s (dj .NotIn u v) Q:=by ext(bt d)j g(bz b)t(bk:R.zd h g)l n e f w;exact notin_tuple_ints (aT _ e rfl ⟨_,rfl⟩) (ll f)<|cK (x:=.d _) R rfl q
theorem TD(R:ai T a H s.heap)(c:ae a (.c z) u)(d:ae a (.a i) v)(h:H[i]?=V (.a<|b.map .c))(q:Q (.d<|b.any (·==z)) H):aU T A X a s (dj .In u v) Q:=by ext(bt d)j g(bz c)t(bk:R.za h g)k n e f w;exact in_list_strs e.isList (qa f)<|cK (x:=.d _) R rfl q
theorem TE(R:ai T a H s.heap)(c:ae a (.c z) u)(d:ae a (.a i) v)(h:H[i]?=V (.a<|b.map .c))(q:Q (.d<|!(b.any (·==z))) H):aU T A X a s (dj .NotIn u v) Q:=by ext(bt d)j g(bz c)t(bk:R.za h g)k n e f w;exact notin_list_strs e.isList (qa f)<|cK (x:=.d _) R rfl q
theorem TF(R:ai T a H s.heap)(c:ae a (.c z) u)(d:ae a (.a i) v)(h:H[i]?=V (.b<|b.map .c))(q:Q (.d<|b.any (·==z)) H):aU T A X a s (dj .In u v) Q:=by ext(bt d)j g(bz c)t(bk:R.zd h g)k n e f w;exact in_tuple_strs (aT _ e rfl ⟨_,rfl⟩) (qa f)<|cK (x:=.d _) R rfl q
theorem TG(R:ai T a H s.heap)(b:ae a (.b k) u)(d:ae a (.a i) v)(h:H[i]?=V (.b<|c.map .b))(q:Q (.d<|c.any (·==k)) H):aU T A X a s (dj .In u v) Q:=by ext(bt d)j g(bz b)t(bk:R.zd h g)l n e f w;exact in_tuple_ints (aT _ e rfl ⟨_,rfl⟩) (ll f)<|cK (x:=.d _) R rfl q
theorem TH(R:ai T a H s.heap)(c:ae a (.c z) u)(d:ae a (.a i) v)(h:H[i]?=V (.b<|b.map .c))(q:Q (.d<|!(b.any (·==z))) H):aU T A X a s (dj .NotIn u v) Q:=by ext(bt d)j g(bz c)t(bk:R.zd h g)k n e f w;exact notin_tuple_strs (aT _ e rfl ⟨_,rfl⟩) (qa f)<|cK (x:=.d _) R rfl q
theorem TI{c:List ab}{b:List N}(h:Ee c b){v:ab}(a:v∈c):∃y t,v=.str y t:=by induction h with|nil=>cases a|cons y t _ d=>cases a with|head=>exact gs y t rfl|tail _ h=>exact d h
noncomputable def wo(z:N)(v:ab):Bool:=LW (motive:=λw=>Bool) v aq aq aq (λw=>aq) (λw w=>aq) (λw w=>aq) (λy w=>aP<|y=z) (λw w=>aq) (λw=>aq) (λw=>aq) λw=>aq
theorem TJ(a b:N)(t u:kf):PySem.MeetsSeq.EqGives (.str a t) (.str b u)<|aP<|a=b:=λw w w w w w h=>wpAny_eqBool_str h
theorem Hs{c:List ab}{b:List N}(h:Ee c b):∀(i:Nat)(a:i<c.length),∃t,∃y,b[i]?=V y/\c[i]=.str y t:=by induction h with|nil=>ext i a;exact absurd a<|dW _|cons y t _ f=>ext i a;cases i with|zero=>exact bK t y rfl rfl|succ i=>ext(bp:f i (by simpa using a))g j d e;exact bK g j (by simpa using d) (by simpa using e)
theorem TK{n:Nat}(R:ai T a H s.heap)(r:ae a (.a i) v)(p:ae a (.c z) u)(K:H[i]?=V (.a<|b.map .c))(o:b[n]?=V z)(I:∀m,m<n->b[m]?≠V z)(q:Q (.b n) H):aU T A X a s (bT (.builtin "list.index") [v,u]) Q:=by
 ext(bt r)x G(bz p)t;obtain⟨⟨w⟩,c,k,E,f,l⟩:=R.za K G;have S:=qa E;simp only[Ec,bC]at f l;have g:n<w.length:=by rw[f];exact gy o
 ext(bp:Hs S n g)a3 d y B;have h:d=z:=by have j:=y;rw[o]at j;exact(bj j).symm
 subst h;refine lV S6 (ad _ k rfl) F.entry_list_index (F.args_list_index_2 _ _) (PySem.MeetsSeq.list_index x ⟨w⟩ c (.str d t) (wo d) (λa5 h=>?_) n (by simpa using g) (pb (hn.mpr<|aj (gn g)<|f▸l)<|by decide+kernel) (by simp[wo,B]) λm L P=>?_) ⟨k,?_⟩;.ext(hu:TI S (by simpa using h))a6 a2 a1-;exact TJ _ _ _ _
 .obtain⟨a4,a0,C,D⟩:=Hs S m (by simpa using L);have:a0≠d:=λe=>I m P (by rw[C,e]);simp[wo,D,this]
 .exact dn (x:=.b n) R ⟨_,rfl⟩ q
end
theorem TL(k:A.units+1<iy)(R:ai T a H s.heap)(l:ae a (.a i) v)(n:ae a (.a j) u)(t:H[i]?=V (.a d))(w:H[j]?=V (.a []))(q:Q (.d<|!d.isEmpty) H):aU T A X a s (dj .NotEq v u) Q:=by ext(bt l)z o(bt n)b p(co:R.za t o)K c f C e D(co:R.za w p)I B g E h G;cases d with|nil=>refine PySem.SeqAt.RcNeAt.lists (e:=λL=>M) f.isList g.isList (by rw[e,h]) (by exact an 2 0 1 0 k rfl) (λm y L=>absurd y<|by rw[e];exact dW _) _ _ _ _<|cK (x:=.d aq) R ?_ q;show jm _=jm aq;rw[eQ.mpr λL L=>rfl];rfl|cons x r=>exact PySem.SeqAt.RcNeAt.lists_lengths f.isList g.isList (by rw[e,h];rfl) (by exact an 2 0 1 0 k rfl) _ _ _ _<|cK (x:=.d M) R rfl q
theorem TM(k:A.units<iy)(R:ai T a H s.heap)(l:ae a (.a i) v)(n:ae a (.a j) u)(t:H[i]?=V (.a d))(w:H[j]?=V (.a []))(q:Q (.d d.isEmpty) H):aU T A X a s (dj .Eq v u) Q:=by ext(bt l)z o(bt n)b p(co:R.za t o)K c f C e D(co:R.za w p)I B g E h G;cases d with|nil=>refine PySem.SeqAt.eq_listAt f.isList g.isList (by rw[e,h]) k (e:=λL=>M) (λm y L=>absurd y<|by rw[e];exact dW _)<|cK (x:=.d M) R ?_ q;show jm _=jm M;rw[eQ.mpr λL L=>rfl]|cons x r=>exact PySem.SeqAt.eq_list_lengthsAt f.isList g.isList (by rw[e,h];rfl) k<|cK (x:=.d aq) R rfl q
theorem TN(R:ai T a H s.heap)(o:ae a (.a i) v)(m:ae a (.b k) u)(D:H[i]?=V (.a [x]))(w:0<=k)(f:k<=16777216)(q:Q (.a H.length)<|H++[.a<|ck k.toNat x]):aU T A X a s (ix .Mult v u) Q:=by
 ext(bt o)h C(bz m)t(co:R.za D C)p c b z P S(bk:z.zb)y e j E B;have r:p=#[y]:=by rw[B.zc]at j;obtain⟨l⟩:=p;simpa using j
 subst r;refine wpAny_binaryOp_repeat_ref (T:="list") (U:="int") (by decide) (ad _ b rfl) (λI=>LX I k t) noFill_list_mul F.fills_int_mul S7 repeat_list F.slot_int_index.lookup<|lV S7 (LX s k t) F.entry_int_rmul (F.args_int_rmul_2 _ _) (lm_int_rmul_list_any k t h #[y] c U #[])<|dC b rfl (ad _ b rfl)<|lV F.slot_list_mul (ad _ b rfl) F.entry_list_mul (F.args_list_mul_2 _ _) (lm_list_mul_any h #[y] c U #[] k t (by simp[adO];exact RY w f) (by simp;exact RZ f)<|by simp[R9,DZ];exact Sa f) ⟨b,?_⟩;refine lk R (hC ?_<|by simp;exact Sb f) q;have:∀n(d:Array ab),(List.foldl (λK L=>K++L) d<|ck n #[y]).toList=d.toList++ck n y:=by ext n;induction n with|zero=>ext d;simp|succ n g=>ext d;rw[S8,nr,g,S8];simp
 rw[this];simp only[Ef];have G:∀n,aQ (ae<|a++[s.heap.objs.size]) (ck n x)<|ck n y:=by ext n;induction n with|zero=>exact .b|succ n g=>exact .a E.zb g
 exact G _
theorem TO(R:ai T a H s.heap)(b:ae a (.b k) v)(q:Q (.b k) H):aU T A X a s (bT (.type "int") [v]) Q:=by ext(bz b)t;exact call_int_int<|cK (x:=.b k) R ⟨_,rfl⟩ q
theorem TP{b:Bool}(R:ai T a H s.heap)(c:ae a (.d b) v)(q:Q (.b<|if b then 1 else 0) H):aU T A X a s (bT (.type "int") [v]) Q:=by cases c;exact call_int_bool<|dn (x:=.b<|if b then 1 else 0) R ⟨_,rfl⟩ q
theorem TQ(g:A.handled=U){d b:Int}(R:ai T a H s.heap)(f:ae a (.b d) v)(e:ae a (.b b) u)(q:Q (.b<|if b>d then b else d) H):aU T A X a s (bT (.builtin "max") [v,u]) Q:=by
 ext(bz f)t(bz e)i(max_two_ints:g)h j k;split;.rename_i c;rw[if_pos c]at q;exact wl (x:=.b b) R k ⟨_,rfl⟩ q
 .rename_i c;rw[if_neg c]at q;exact wl (x:=.b d) R k ⟨_,rfl⟩ q
end
noncomputable def lm(a:List<|Int×O)(k:Int)(v:O):List<|Int×O:=if a.any (λe=>e.1=k)then a.map (λe=>if e.1=k then(e.1,v)else e)else a++[(k,v)]
noncomputable def jB(a:List<|List Int×Nat×O)(k:List Int)(b:Nat)(v:O):List<|List Int×Nat×O:=if a.any (λe=>e.1=k)then a.map (λe=>if e.1=k then(e.1,e.2.1,v)else e)else a++[(k,b,v)]
noncomputable def fJ(a:List<|Int×O)(k:Int):Option O:=(a.find? λe=>e.1=k).map (·.2)
noncomputable def dp(a:List<|List Int×Nat×O)(k:List Int):Option O:=(a.find? λe=>e.1=k).map (·.2.2)
section
variable{T:bf}{A:bo}{X a:List ah}{H:J}{s:al}{i j n:Nat}{v u:ab}{Q:O->J->Prop}{x:O}{k:Int}
theorem ai.zf{b:List<|Int×O}{d:ah}(R:ai T a H s.heap)(t:H[i]?=V (.f n b))(r:a[i]?=V d):∃c,s.heap.DictAt T.zb d c n/\aQ (iP a) b c:=by ext(_:R.zi t r)u p e(e)c f q(@ac f)j g(@fG g)h k l m o;exact ad c (so u h p j k l m o) q
theorem TR{b:List<|Int×O}{h:bS}{d:ah}{c:List<|Int×ab}(e:h.DictOf T.zb d c)(r:aQ (iP a) b c):∃f n,h.get? d=V f/\fI T a H (.f n b) f:=by ext(@jv e)o g p q i j k l m;exact bK o p q<|ad c ⟨i,ej g j k l m⟩ r
theorem nM{t:kf}:T.zb.is k (.int k t)=M:=by show S9 k (.int k t)=M;simp[S9]
theorem TS{b:List<|Int×O}{c:List<|Int×ab}(h:aQ (iP a) b c)(k:Int):c.any (λf=>f.1=k)=b.any (λe=>e.1=k):=by induction h with|b=>rfl|a r _ d=>simp only[Eg,r.1,d]
theorem sO{b:List<|Int×O}{c:List<|Int×ab}(h:aQ (iP a) b c)(k:Int):match fJ b k with|V x=>∃w,valueAt c k=V w/\ae a x w|U=>valueAt c k=U:=by
 induction h with
 |b=>rfl
 |a r t f=>
  rename_i e g b c;unfold fJ valueAt at*;simp only[kU,r.1];by_cases d:e.1=k;.simp only[d,decide_true];exact ad _ rfl r.2
  .simp only[d,decide_false];exact f
theorem TT{b:List<|Int×O}{d:List<|Int×ab}(h:aQ (iP a) b d)(k:Int){w:ab}(g:ae a x w):aQ (iP a) (b.map λe=>if e.1=k then(e.1,x)else e)<|d.map λc=>if c.1=k then(c.1,w)else c:=by
 induction h with
 |b=>exact .b
 |@a e c b d r t i=>
  refine .a ?_ i;show iP a (if e.1=k then(e.1,x)else e)<|if c.1=k then(c.1,w)else c;rw[r.1];by_cases f:e.1=k;.simp only[f,if_true];exact⟨rfl,g⟩
  .simp only[f,if_false];exact r
theorem TU{b:List<|Int×O}{d:List<|Int×ab}(h:aQ (iP a) b d)(k:Int){w:ab}(c:ae a x w):aQ (iP a) (lm b k x)<|stored d k w:=by
 unfold lm stored;rw[TS h];split;.exact TT h k c
 .exact h.zf<|.a ⟨rfl,c⟩ .b
theorem TV{b:List<|Int×O}(R:ai T a H s.heap)(d:ae a (.b k) u)(f:ae a (.a i) v)(l:H[i]?=V (.f n b))(q:Q (.d (fJ b k).isSome) H):aU T A X a s (dj .In u v) Q:=by ext(bt f)m c(bz d)t(_:R.zf l c)o h j;refine wpAny_in_of (knd:=T.zb) (k:=k) nM (R.ze c) (h.dictOf.mapOf)<|dn (x:=.d _) R ?_ q;have:=sO j k;cases e:fJ b k with|some x=>rw[e]at this;ext(this)w g z;show jm _=_;rw[g];rfl|none=>rw[e]at this;show jm _=_;rw[this];rfl
theorem TW{b:List<|Int×O}(R:ai T a H s.heap)(d:ae a (.b k) u)(f:ae a (.a i) v)(l:H[i]?=V (.f n b))(q:Q (.d !(fJ b k).isSome) H):aU T A X a s (dj .NotIn u v) Q:=by ext(bt f)m c(bz d)t(_:R.zf l c)o h j;refine wpAny_notIn_of (knd:=T.zb) (k:=k) nM (R.ze c) h.dictOf.mapOf<|dn (x:=.d _) R ?_ q;have:=sO j k;cases e:fJ b k with|some x=>rw[e]at this;ext(this)w g z;show jm _=_;rw[g];rfl|none=>rw[e]at this;show jm _=_;rw[this];rfl
theorem TX{b:List<|Int×O}(R:ai T a H s.heap)(d:ae a (.a i) v)(c:ae a (.b k) u)(j:H[i]?=V (.f n b))(m:fJ b k=V x)(q:Q x H):aU T A X a s (jl v u) Q:=by ext(bt d)o h(bz c)t(_:R.zf j h)p f g;have:=sO g k;rw[m]at this;ext(this)w e l;exact wpAny_getItem_of (knd:=T.zb) (k:=k) nM (f.dictOf.mapOf) e<|dn R l q
theorem TY{b:List<|Int×O}{w:ab}{Q:Unit->List ah->J->al->Prop}(R:ai T a H s.heap)(m:ae a (.a i) v)(l:ae a (.b k) u)(y:ae a x w)(h:H[i]?=V (.f n b))(z:b.length<=16777216)(q:∀B d,Q () a (H.set i<|.f d<|lm b k x) B):eW T A X a s (Ed v u w) Q:=by ext(bt m)C c(bz l)t(_:R.zf h c)E p g;refine wpAny_setItem_pairs (knd:=T.zb) (k:=k) nM p.dictOf (λD r j=>?_) (by rw[dk,<-g.za];exact z);ext(bp:TR (H:=H.set i<|.f 0<|lm b k x) r (TU g k y))G d f o;refine bu a _ (pZ (s:=s) c j ⟨_,f⟩) (R.zl h c (λI e=>by cases e) j f ?_)<|q _ d;exact o
section
variable{c:List Int}{b:List<|List Int×Nat×O}
theorem TZ:∀{c:List Int}{d:List ab},aQ (ae a) (c.map .b) d->ItemsAre T.zb c d|[],d,h=>by rw[show d=[]from h.zc];exact .nil|k::c,d,h=>by ext(bk:h.zb)b j g e f;subst g;ext(@aD e)t i-;exact .cons nM<|TZ f
theorem ai.zj{b:ah}(R:ai T a H s.heap)(h:H[i]?=V (.b<|c.map .b))(g:a[i]?=V b):T.za.is s.heap c b:=by ext(bk:R.zd h g)j d e f w;exact gt _ j d e rfl rfl<|TZ f
theorem aQ.zg{f g:Type}{r:f->g->Prop}{d:List f}{e:List g}(h:aQ r d e):∀b∈e,∃a∈d,r a b:=by induction h with|b=>ext b c;cases c|a r _ k=>ext b c;cases c with|head=>exact ad _ (.head _) r|tail _ c=>ext(_:k b c)a i j;exact ad a (.tail _ i) j
theorem ai.zg{c:ah}(R:ai T a H s.heap)(h:H[i]?=V (.d n b))(g:a[i]?=V c):∃d,s.heap.DictOfH T.za c d/\aQ (gW a) b d/\∀e∈b,H[e.2.1]?=V (.b<|e.1.map .b):=by delta T a H s i n b c;ext R h g(bd:R.zi h g)y u j k(k)d l f(@ac l)p m(@bd m)o q r t;refine aT d (pH y o n u p q r (λx w=>?_) t) f j;ext(fG:f.zg x w)e v z A B;rw[z];exact R.zj (j e v) A
theorem Ht{I:J}{h:bS}{d:ah}{c:List<|List Int×ah×ab}(f:h.DictOfH T.za d c)(s:aQ (gW a) b c)(r:∀e∈b,I[e.2.1]?=V (.b<|e.1.map .b)):∃g n,h.get? d=V g/\fI T a I (.d n b) g:=by ext(@jv f)o i p q j k l t m;exact bu o p q r<|ad c ⟨j,aT i k l m⟩ s
theorem sP{c:List<|List Int×ah×ab}(h:aQ (gW a) b c)(k:List Int):match dp b k with|V x=>∃p,lW c k=V p/\ae a x p.2|U=>lW c k=U:=by
 induction h with
 |b=>rfl
 |a r t f=>
  rename_i e g b i;unfold dp lW at*;simp only[kU,r.1];by_cases d:e.1=k;.simp only[d,decide_true];exact ad _ rfl r.2.2
  .simp only[d,decide_false];exact f
theorem Ua{d:List<|List Int×ah×ab}(h:aQ (gW a) b d)(k:List Int):(lW d k).isSome=b.any (λe=>e.1=k):=by
 induction h with
 |b=>rfl
 |a r t f=>
  rename_i e g b i;unfold lW at*;simp only[kU,r.1,Eg];by_cases c:e.1=k;.simp[c]
  .simp only[c,decide_false,LY];exact f
theorem Ub{d:List<|List Int×ah×ab}(h:aQ (gW a) b d)(k:List Int){w:ab}(f:ae a x w):aQ (gW a) (b.map λe=>if e.1=k then(e.1,e.2.1,x)else e)<|d.map<|putAt k w:=by
 induction h with
 |b=>exact .b
 |@a e i b j r t g=>
  refine .a ?_ g;show gW a (if e.1=k then(e.1,e.2.1,x)else e)<|putAt k w i;unfold putAt;rw[r.1];by_cases c:e.1=k;.simp only[c,if_true];exact aI rfl r.2.1 f
  .simp only[c,if_false];exact r
theorem Uc{f:List<|List Int×ah×ab}{e:Nat}{c:ah}(h:aQ (gW a) b f)(k:List Int){w:ab}(d:ae a x w)(g:a[e]?=V c):aQ (gW a) (jB b k e x)<|storedH f k c w:=by
 unfold jB storedH;rw[Ua h];split;.exact Ub h k d
 .exact h.zf<|.a (aI rfl g d) .b
theorem Ud{f:Nat}{e:List Int×Nat×O}(d:e∈jB b c f x):(e.1,e.2.1)=(c,f)\/∃a∈b,a.1=e.1/\a.2.1=e.2.1:=by
 delta x c b f e;ext d;unfold jB at d;split at d;.ext(_:bY.mp d)@a g j;exact by subst j;refine .inr<|ad a g ?_;by_cases i:a.1=c<;>simp[i]
 .rcases bU.mp d with h|h;.exact .inr<|aT e h rfl rfl
  .simp at h;subst h;exact .inl rfl
theorem Ue(r:A.units+1<iy)(R:ai T a H s.heap)(f:ae a (.a j) u)(p:H[j]?=V (.b<|c.map .b))(g:ae a (.a i) v)(o:H[i]?=V (.d n b))(q:Q (.d (dp b c).isSome) H):aU T A X a s (dj .In u v) Q:=by ext(bt g)t d(bt f)y m(bd:R.zg o d)B k l z;refine wpAny_in_heap (knd:=T.za) (k:=c) r (R.zj p m) (R.ze d) k<|dn (x:=.d _) R ?_ q;have:=sP l c;cases e:dp b c with|some x=>rw[e]at this;ext(this)w h C;show jm _=_;rw[h];rfl|none=>rw[e]at this;show jm _=_;rw[this];rfl
theorem Uf(r:A.units+1<iy)(R:ai T a H s.heap)(f:ae a (.a j) u)(p:H[j]?=V (.b<|c.map .b))(g:ae a (.a i) v)(o:H[i]?=V (.d n b))(q:Q (.d !(dp b c).isSome) H):aU T A X a s (dj .NotIn u v) Q:=by ext(bt g)t d(bt f)y m(bd:R.zg o d)B k l z;refine wpAny_notIn_heap (knd:=T.za) (k:=c) r (R.zj p m) (R.ze d) k<|dn (x:=.d _) R ?_ q;have:=sP l c;cases e:dp b c with|some x=>rw[e]at this;ext(this)w h C;show jm _=_;rw[h];rfl|none=>rw[e]at this;show jm _=_;rw[this];rfl
theorem Ug(p:A.units+1<iy)(R:ai T a H s.heap)(f:ae a (.a i) v)(d:ae a (.a j) u)(o:H[j]?=V (.b<|c.map .b))(m:H[i]?=V (.d n b))(t:dp b c=V x)(q:Q x H):aU T A X a s (jl v u) Q:=by ext(bt f)y k(bt d)z l(bd:R.zg m k)C g h B;have:=sP h c;rw[t]at this;ext(this)w e r;exact wpAny_getItem_heap (knd:=T.za) (k:=c) p (R.zj o l) g e<|dn R r q
theorem Uh{w:ab}{Q:Unit->List ah->J->al->Prop}(a1:A.units+1<iy)(R:ai T a H s.heap)(C:ae a (.a i) v)(B:ae a (.a j) u)(y:H[j]?=V (.b<|c.map .b))(a2:ae a x w)(k:H[i]?=V (.d n b))(a3:b.length<=16777216)(q:∀a6 l,Q () a (H.set i<|.d l<|jB b c j x) a6):eW T A X a s (Ed v u w) Q:=by
 ext(bt C)a7 g(bt B)a8 t(bd:R.zg k g)b1 G r I;refine wpAny_setItem_heap (knd:=T.za) (k:=c) a1 (R.zj y t) G (λa9 S z=>?_) (by rw[dk,<-r.za];exact a3);have a4:∀(m:Nat)(f:List O),H[m]?=V (.b f)->∀o:aa,(H.set i o)[m]?=V (.b f):=λm f d o=>by rw[iw λe=>by subst e;rw[k]at d;cases d];exact d
 ext(bp:Ht (T:=T) (I:=H) S (Uc r c a2 t) (λe a0=>by
  rcases Ud a0 with h|⟨D,K,L,P⟩;.ext(ac:Prod.mk.inj h)a5 q;rw[a5,q];exact y
  .rw[<-L,<-P];exact I D K))b0 l p E;exact bu a _ (pZ (s:=s) g z ⟨_,p⟩) (R.zl k g (λ_ e=>by cases e) z p<|E.za (eg _) λm f d=>a4 m f d _)<|q _ l
end
end
section
set_option genInjectivity false
set_option genSizeOf false
inductive eG where|a|g|f|c|d|h|i|b|j|e deriving DecidableEq
set_option genCtorIdx false
inductive ao where|b(a0:Nat)|G|r(T:Bool)|f(a0:Int)|p(b3:N)|x(a6:Nat)|H|h(a7:hp)(R S:ao)|i(a7:fg)(R S:ao)|I(P:ao)|z(P:ao)|u(R S:ao)|t(R S:ao)|D(a1 a T:ao)|e(P:ao)(a:Nat)|g(P a0:ao)|A(P b0:ao)|F(P b1:ao)|n(X:ao)|k(X:ao)|E|y|q(a1:Nat)(a5 a3 a4:ao)|B(a1 b4:Nat)(a5 a3 a4:ao)|s(P:ao)|K(P:ao)|l(a9:Nat)(Q:ao)|v(C:Nat)(Q:ao)|j(T:eG)(Q:ao)|m(P:ao)(b2:Nat)(Q:ao)|o(P a2:ao)|J(P:ao)|L(P:ao)|M(P a2:ao)|w(P a2:ao)|N(P a6 a8:ao)|d|c(P X:ao)deriving Inhabited
inductive aW where|f|b(a s:aW)|c(v:Nat)(r:ao)|l(v x:Nat)(r:ao)|p(v x y:Nat)(r:ao)|j(o v r:ao)|h(o:ao)(a:Nat)(r:ao)|i(r:ao)|g(t:ao)(a s:aW)|k(t:ao)(s:aW)|d(t:Nat)(w:ao)(s:aW)|m(t u:Nat)(w:ao)(s:aW)|e(r:ao)|n|q deriving Inhabited
set_option genCtorIdx true
inductive Hu where|a|c|b(v:O)
abbrev au:=O->J->Prop
abbrev bl:=Nat->List O->J->(Q:au)->Prop
noncomputable def Hv(a:O):Option Int:=O.casesOn (motive:=λw=>Option Int) a U (λw=>U) V (λw=>U) (λw=>U) λw=>U
noncomputable def Hw(a:O):Option N:=O.casesOn (motive:=λw=>Option N) a U (λw=>U) (λw=>U) V (λw=>U) λw=>U
noncomputable def fK{b:Type}(f:O->Option b):List O->Option (List b)|[]=>V []|x::c=>match f x with|V a=>(fK f c).map (a::·)|U=>U
def kx(a:List O):Option<|List Int:=fK Hv a
def nN(a:List O):Option<|List N:=fK Hw a
theorem Hx{c:Type}{f:O->Option c}{g:c->O}(h:∀a,f (g a)=V a)(b:List c):fK f (b.map g)=V b:=by induction b with|nil=>rfl|cons a b d=>simp[fK,h,d]
theorem Hy(a:List Int):kx (a.map .b)=V a:=Hx (g:=O.b) (λw=>rfl) a
theorem sQ(a:List N):nN (a.map .c)=V a:=Hx (g:=O.c) (λw=>rfl) a
theorem Hz{d:Type}{f:O->Option d}{g:d->O}(h:∀x a,f x=V a->x=g a):∀{c:List O}{b:List d},fK f c=V b->c=b.map g|[],b,e=>by simp[fK]at e;subst e;rfl|x::c,b,e=>by unfold fK at e;cases q:f x with|none=>rw[q]at e;cases e|some a=>rw[q]at e;ext(_:jn.mp e)r i j-;rw[h _ _ q,Hz h i];rfl
theorem ln{c:List O}{b:List Int}(h:kx c=V b):c=b.map .b:=Hz (λx a e=>by cases x<;>simp[Hv]at e;subst e;rfl) h
theorem nO{c:List O}{b:List N}(h:nN c=V b):c=b.map .c:=Hz (λx a e=>by cases x<;>simp[Hw]at e;subst e;rfl) h
abbrev cs{a:Type}(_:a):Prop:=False
abbrev ew{a b:Type}(_:a)(_:b):Prop:=False
def gz(b:Bool->Prop)(i:Int->Prop)(s:N->Prop)(r:Nat->Prop)(a:O):Prop:=O.casesOn (motive:=λw=>Prop) a False b i s r cs
def ie(k:Int->Prop)(a:O):Prop:=gz cs k cs cs a
def wp(k:N->Prop)(a:O):Prop:=gz cs cs k cs a
def dQ(k:Nat->Prop)(a:O):Prop:=gz cs cs cs k a
def fL(l t:List O->Prop)(d:Nat->List (Int×O)->Prop)(e:Nat->List (List Int×Nat×O)->Prop)(o:Option aa):Prop:=Eh (motive:=λw=>Prop) o False λx=>aa.casesOn (motive:=λw=>Prop) x l t d e cs ew cs
def eH(l:List O->Prop)(o:Option aa):Prop:=fL l cs ew ew o
def sR(l:List O->Prop)(o:Option aa):Prop:=fL cs l ew ew o
def wq(d:Nat->List (Int×O)->Prop)(o:Option aa):Prop:=fL cs cs d ew o
def qb(d:Nat->List (List Int×Nat×O)->Prop)(o:Option aa):Prop:=fL cs cs ew d o
def sS(a:List (Nat×O)->Prop)(i:Nat->Nat->Prop)(r:List O->Prop)(o:Option aa):Prop:=Eh (motive:=λw=>Prop) o False λx=>aa.casesOn (motive:=λw=>Prop) x r cs ew ew a i r
def mz(i:Nat->Nat->Prop)(o:Option aa):Prop:=sS cs i cs o
def mA(a:List (Nat×O)->Prop)(o:Option aa):Prop:=sS a ew cs o
def HA(r:List O->Prop)(o:Option aa):Prop:=sS cs ew r o
def cz{a:Type}(k:a->Prop)(o:Option a):Prop:=Eh (motive:=λw=>Prop) o False k
def nP(k:O->Prop)(b:List O):Prop:=rN (motive:=λw=>Prop) b False λa r=>rN (motive:=λw=>Prop) r (k a) ew
def nQ(k:O->O->Prop)(b:List O):Prop:=rN (motive:=λw=>Prop) b False λa r=>nP (k a) r
def HB(k:O->O->O->Prop)(b:List O):Prop:=rN (motive:=λw=>Prop) b False λa r=>nQ (k a) r
section
variable{P:Prop}{a:O}{v:ab}{X:List ah}{o:Option aa}{b:List O}
theorem ga{b:Bool->Prop}{i:Int->Prop}{s:N->Prop}{r:Nat->Prop}(h:gz b i s r a)(c:ae X a v)(d:∀x,b x->ae X (.d x) v->P)(e:∀x,i x->ae X (.b x) v->P)(g:∀x,s x->ae X (.c x) v->P)(f:∀x,r x->ae X (.a x) v->P):P:=by cases a<;>first|exact kg h|exact d _ h c|exact e _ h c|exact g _ h c|exact f _ h c
theorem fm{k:Int->Prop}(h:ie k a)(b:ae X a v)(c:∀x,k x->ae X (.b x) v->P):P:=ga h b (λw h w=>h.elim) c (λw h w=>h.elim) λw h w=>h.elim
theorem wr{k:N->Prop}(h:wp k a)(b:ae X a v)(c:∀x,k x->ae X (.c x) v->P):P:=ga h b (λw h w=>h.elim) (λw h w=>h.elim) c λw h w=>h.elim
theorem eI{k:Nat->Prop}(h:dQ k a)(b:ae X a v)(c:∀x,k x->ae X (.a x) v->P):P:=ga h b (λw h w=>h.elim) (λw h w=>h.elim) (λw h w=>h.elim) c
theorem ws{k:Nat->Prop}(h:dQ k a):∃i,a=.a i/\k i:=by cases a<;>first|exact kg h|exact ad _ rfl h
theorem fM{l t:List O->Prop}{d:Nat->List (Int×O)->Prop}{e:Nat->List (List Int×Nat×O)->Prop}(h:fL l t d e o)(g:∀b,o=V (.a b)->l b->P)(i:∀b,o=V (.b b)->t b->P)(c:∀n a,o=V (.f n a)->d n a->P)(f:∀n a,o=V (.d n a)->e n a->P):P:=by cases o with|none=>exact h.elim|some o=>cases o<;>first|exact g _ rfl h|exact i _ rfl h|exact c _ _ rfl h|exact f _ _ rfl h|exact kg h
theorem eJ{l:List O->Prop}(h:eH l o)(k:∀a,o=V (.a a)->l a->P):P:=fM h k (λw w h=>h.elim) (λw w w h=>h.elim) λw w w h=>h.elim
theorem qc{l:List O->Prop}(h:sR l o)(k:∀a,o=V (.b a)->l a->P):P:=fM h (λw w h=>h.elim) k (λw w w h=>h.elim) λw w w h=>h.elim
theorem HC{d:Nat->List (Int×O)->Prop}(h:wq d o)(k:∀n a,o=V (.f n a)->d n a->P):P:=fM h (λw w h=>h.elim) (λw w h=>h.elim) k λw w w h=>h.elim
theorem mB{d:Nat->List (List Int×Nat×O)->Prop}(h:qb d o)(k:∀n a,o=V (.d n a)->d n a->P):P:=fM h (λw w h=>h.elim) (λw w h=>h.elim) (λw w w h=>h.elim) k
theorem wt{f:List (Nat×O)->Prop}{i:Nat->Nat->Prop}{r:List O->Prop}(h:sS f i r o)(g:∀b,o=V (.c b)->f b->P)(j:∀c d,o=V (.e c d)->i c d->P)(e:∀a,o=V (.a a)\/o=V (.g a)->r a->P):P:=by cases o with|none=>exact h.elim|some o=>cases o<;>first|exact g _ rfl h|exact j _ _ rfl h|exact e _ (.inl rfl) h|exact e _ (.inr rfl) h|exact kg h
theorem wu{k:Nat->Nat->Prop}(h:mz k o)(c:∀n d,o=V (.e n d)->k n d->P):P:=wt h (λw w h=>h.elim) c λw w h=>h.elim
theorem wv{k:List (Nat×O)->Prop}(h:mA k o)(c:∀a,o=V (.c a)->k a->P):P:=wt h c (λw w w h=>h.elim) λw w h=>h.elim
theorem HD{k:List O->Prop}(h:HA k o)(c:∀a,o=V (.a a)\/o=V (.g a)->k a->P):P:=wt h (λw w h=>h.elim) (λw w w h=>h.elim) c
theorem dv{a:Type}{k:a->Prop}{o:Option a}(h:cz k o)(c:∀x,o=V x->k x->P):P:=by cases o with|none=>exact h.elim|some x=>exact c x rfl h
theorem qd{k:O->Prop}(h:nP k b):∃a,b=[a]/\k a:=by cases b with|nil=>exact h.elim|cons a r=>cases r with|nil=>exact ad a rfl h|cons c r=>exact h.elim
theorem qe{k:O->O->Prop}(h:nQ k b):∃a c,b=[a,c]/\k a c:=by cases b with|nil=>exact h.elim|cons a r=>ext(_:qd h)c d h;subst d;exact bK a c rfl h
theorem HE{k:O->O->O->Prop}(h:HB k b):∃a d c,b=[a,d,c]/\k a d c:=by cases b with|nil=>exact h.elim|cons a r=>ext(bp:qe h)d c e h;subst e;exact ks a d c rfl h
end
def eK(H:J)(Q:au)(x:O):Prop:=Q x H
def mC(Q:Bool->Prop)(c:Bool):Prop:=Q<|!c
def nR(o:Option aa):Option<|List Int:=Eh (motive:=λw=>Option<|List Int) o U λx=>aa.casesOn (motive:=λw=>Option<|List Int) x (λw=>U) kx (λw w=>U) (λw w=>U) (λw=>U) (λw w=>U) λw=>U
def fn(H:J)(a:O):Option<|List Int:=O.casesOn (motive:=λw=>Option<|List Int) a U (λw=>U) (λw=>U) (λw=>U) (λi=>nR H[i]?) λw=>U
def ww(H:J)(Q:au)(o p:Option aa):Prop:=eH (λa=>eH (λb=>a.length+b.length<=16777216/\Q (.a H.length) (H++[.a<|a++b])) p) o
def wx(k:Int)(H:J)(Q:au)(o:Option aa):Prop:=eH (nP λx=>0<=k/\k<=16777216/\Q (.a H.length) (H++[.a<|ck k.toNat x])) o
def Ui(a:hp)(x y:Int)(H:J)(Q:au):Prop:=T0 (motive:=λw=>Prop) a (Q (.b<|x+y) H) (Q (.b<|x-y) H) (DY x y/\Q (.b<|x*y) H) False False (y≠0/\Q (.b<|x.fmod y) H) (0<=y/\(uG x:Int)*y<=2^27/\Q (.b<|x^y.toNat) H) (0<=y/\y<=1000000/\x.natAbs<2^64/\Q (.b<|x*2^y.toNat) H) (0<=y/\Q (.b<|x.fdiv<|2^y.toNat) H) (Q (.b<|ph x y) H) False (Q (.b<|rK x y) H)<|y≠0/\uF x y=aq/\Q (.b<|x.fdiv y) H
def HF(b:hp)(a m:Prop):Prop:=T0 (motive:=λw=>Prop) b a False m False False False False False False False False False False
def gb(c:hp)(a b:O)(H:J)(Q:au):Prop:=gz cs (λx=>ie (λy=>Ui c x y H Q) b) cs (λi=>gz cs (λk=>HF c False<|wx k H Q H[i]?) cs (λj=>HF c (ww H Q H[i]? H[j]?) False) b) a
def nS(k:Int)(Q:Bool->Prop)(o:Option aa):Prop:=fL (λb=>cz (λa=>Q<|aP<|k∈a)<|kx b) (λb=>cz (λa=>Q<|aP<|k∈a)<|kx b) (λw c=>Q (fJ c k).isSome) ew o
def sT(z:N)(Q:Bool->Prop)(o:Option aa):Prop:=fL (λb=>cz (λa=>Q<|aP<|z∈a)<|nN b) (λb=>cz (λa=>Q<|aP<|z∈a)<|nN b) ew ew o
def wy(Q:Bool->Prop)(t:Option<|List Int)(o:Option aa):Prop:=cz (λb=>qb (λw a=>Q (dp a b).isSome) o) t
def iQ(a b:O)(H:J)(Q:Bool->Prop):Prop:=dQ (λi=>gz cs (λk=>nS k Q H[i]?) (λz=>sT z Q H[i]?) (λj=>wy Q (fn H<|.a j) H[i]?) a) b
def sU(H:J)(b c:List O):Prop:=∃a,fK (fn H) b=V a/\fK (fn H) c=V a
def qf(a b:List<|List Int×Nat×O):Prop:=a.length=b.length/\∀e∈a,∃k,e.2.2=.b k/\dp b e.1=V (.b k)
def qg(H:J)(Q:Bool->Prop)(o p:Option aa):Prop:=fL (λa=>eH (λc=>rN (motive:=λw=>Prop) c (Q a.isEmpty) λw w=>a.length<=16777216/\sU H a c/\Q M) p) cs ew (λw b=>qb (λw d=>b.length<=16777216/\qf b d/\Q M) p) o
def iR(a b:O)(H:J)(Q:Bool->Prop):Prop:=gz cs (λx=>ie (λy=>Q<|x==y) b) (λx=>wp (λy=>Q<|x==y) b) (λi=>dQ (λj=>qg H Q H[i]? H[j]?) b) a
def sV(a b:O)(Q:Int->Int->Prop):Prop:=ie (λx=>ie (Q x) b) a
def gc(c:fg)(a b:O)(H:J)(Q:Bool->Prop):Prop:=CmpOp.casesOn (motive:=λw=>Prop) c (iR a b H Q) (iR a b H<|mC Q) (sV a b λx y=>Q<|aP<|x<y) False (sV a b λx y=>Q<|aP<|y<x) (sV a b λx y=>Q<|aP<|y<=x) False False (iQ a b H Q)<|iQ a b H<|mC Q
noncomputable def jC:am->Nat->(Option O->Prop)->Prop|[],_,_=>False|a::_,0,Q=>Q a|_::r,n+1,Q=>jC r n Q
def lo(Q:O->Prop)(o:Option O):Prop:=cz Q o
theorem Uj{Q:O->Prop}:∀{b:am}{i:Nat},jC b i (lo Q)->∃x,b[i]?=V (V x)/\Q x|[],i,h=>h.elim|a::_,0,h=>dv h λx e q=>ad x (congrArg V e) q|a::r,n+1,h=>Uj (b:=r) (i:=n) h
noncomputable def qh(a:O):Bool:=O.casesOn (motive:=λw=>Bool) a aq (λw=>M) (λw=>M) (λw=>M) (λw=>M) λw=>M
def lp(k:Int)(H:J)(Q:au)(o:Option aa):Prop:=fL (λa=>if k=-1 then cz (eK H Q) a[a.length-1]? else 0<=k/\cz (eK H Q) a[k.toNat]?) (λa=>0<=k/\cz (eK H Q) a[k.toNat]?) (λw b=>cz (eK H Q)<|fJ b k) ew o
def wz(H:J)(Q:au)(t:Option<|List Int)(o:Option aa):Prop:=cz (λb=>qb (λw a=>cz (eK H Q)<|dp a b) o) t
def jD(a b:O)(H:J)(Q:au):Prop:=dQ (λi=>gz cs (λk=>lp k H Q H[i]?) cs (λj=>wz H Q (fn H<|.a j) H[i]?) b) a
def qi(i:Nat)(k:Int)(v:O)(H:J)(Q:J->Prop)(o:Option aa):Prop:=fL (λb=>0<=k/\k<b.length/\Q (H.set i<|.a<|b.set k.toNat v)) cs (λw a=>a.length<=16777216/\∀c,Q (H.set i<|.f c<|lm a k v)) ew o
def wA(i j:Nat)(v:O)(H:J)(Q:J->Prop)(t:Option<|List Int)(o:Option aa):Prop:=cz (λb=>qb (λw a=>a.length<=16777216/\∀c,Q (H.set i<|.d c<|jB a b j v)) o) t
def mD(a b v:O)(H:J)(Q:J->Prop):Prop:=dQ (λi=>gz cs (λk=>qi i k v H Q H[i]?) cs (λj=>wA i j v H Q (fn H<|.a j) H[i]?) b) a
def cS(v:O)(a:Nat)(H:J)(Q:au):Prop:=dQ (λi=>mz (λC d=>mA (λb=>eT C a=U/\cz (eK H Q) (b.lookup a)) H[d]?) H[i]?) v
noncomputable def fN(b:List<|Nat×O)(a:Nat)(v:O):List<|Nat×O:=if b.any (λf=>f.1=a)then b.map (λf=>if f.1=a then(a,v)else f)else b++[(a,v)]
def mE(o:O)(a:Nat)(v:O)(H:J)(Q:J->Prop):Prop:=dQ (λi=>mz (λC d=>mA (λb=>b.length<=50/\eT C a=U/\Q (H.set d<|.c<|fN b a v)) H[d]?) H[i]?) o
def wB(Q:Bool->Prop)(o:Option aa):Prop:=eH (λa=>Q<|!a.isEmpty) o
def iS(v:O)(H:J)(Q:Bool->Prop):Prop:=gz Q cs cs (λi=>wB Q H[i]?) v
def nT(i:Nat)(Q:List O->(J->Prop)->Prop)(o:Option aa):Prop:=fL (λb=>Q b λI=>I[i]?=V (.a b)) (λb=>Q b λI=>I[i]?=V (.b b)) (λn a=>Q (a.map λe=>.b e.1) λI=>I[i]?=V (.f n a)) (λn a=>Q (a.map λe=>.a e.2.1) λI=>I[i]?=V (.d n a)) o
def hD(v:O)(H:J)(Q:List O->(J->Prop)->Prop):Prop:=dQ (λi=>nT i Q H[i]?) v
def sW(v:O)(Q:List O->Prop):Prop:=ie (λk=>0<=k/\k<=16777216/\Q ((cv k.toNat).map λn:Nat=>O.b (n:Int))) v
def wC(i:Nat)(Q:List O->(J->Prop)->Prop)(o:Option aa):Prop:=sR (λa=>Q a.reverse λI=>I[i]?=V (.b a)) o
def sX(v:O)(H:J)(Q:List O->(J->Prop)->Prop):Prop:=dQ (λi=>wC i Q H[i]?) v
def ky(t:Nat)(x:O)(r:am)(_:J)(Q:am->Prop):Prop:=Q<|r.set t<|V x
def wD(t u:Nat)(r:am)(Q:am->Prop)(o:Option aa):Prop:=sR (nQ λa b=>Q<|(r.set t<|V a).set u<|V b) o
def wE(t u w:Nat)(r:am)(Q:am->Prop)(o:Option aa):Prop:=sR (HB λa b c=>Q<|((r.set t<|V a).set u<|V b).set w<|V c) o
def gY(t u:Nat)(x:O)(r:am)(H:J)(Q:am->Prop):Prop:=dQ (λi=>wD t u r Q H[i]?) x
def nU(t u w:Nat)(x:O)(r:am)(H:J)(Q:am->Prop):Prop:=dQ (λi=>wE t u w r Q H[i]?) x
noncomputable def aaL(a b:N):Bool:=PySem.Spec.ltCps a.cps.toList b.cps.toList
noncomputable def qj(k l:List Int):Bool:=aP (k.headD 0<l.headD 0)||(k.headD 0==l.headD 0&&aP (k.tail.headD 0<l.tail.headD 0))
def kz(b:List Int)(H:J)(Q:au):Prop:=b.length<64/\∀a:List Int,a.Perm b->a.Pairwise (·<=·)->Q (.a H.length) (H++[.a<|a.map .b])
def qk(H:J)(Q:au)(o:Option aa):Prop:=fL (λa=>Q (.b a.length) H) (λa=>Q (.b a.length) H) ew (λw b=>b.length<=16777216/\Q (.b b.length) H) o
def sY(H:J)(Q:au)(o:Option aa):Prop:=fL (λa=>a.length<=16777216/\Q (.a H.length) (H++[.a a])) (λa=>a.length<=16777216/\Q (.a H.length) (H++[.a a])) ew ew o
def wF(H:J)(Q:au)(o:Option aa):Prop:=eH (λa=>a.length<=16777216/\Q (.a H.length) (H++[.b a])) o
def wG(H:J)(Q:au)(o:Option aa):Prop:=eH (λb=>cz (λa=>Q (.b a.sum) H)<|kx b) o
def nV(H:J)(Q:au)(o:Option aa):Prop:=fL (λg=>cz (λd=>kz d H Q)<|kx g) (λg=>cz (λd=>kz d H Q)<|kx g) (λw c=>kz (c.map (·.1)) H Q) (λw c=>c.length<=16777216/\c.Pairwise (λe f=>qj e.1 f.1=M)/\(∀e∈c,∃a b,e.1=[a,b])/\Q (.a H.length) (H++[.a<|c.map λe=>.a e.2.1])) o
def wH(H:J)(Q:au)(o:Option aa):Prop:=eH (λb=>∃a:List (List Int×Nat×O×Nat),b=a.map (λp=>.a p.2.2.2)/\a.length<=16777216/\(a.map (·.1)).Nodup/\(∀p∈a,H[p.2.2.2]?=V (.b [.a p.2.1,p.2.2.1])/\H[p.2.1]?=V (.b<|p.1.map .b))/\∀n,Q (.a H.length) (H++[.d n<|a.map λp=>(p.1,p.2.1,p.2.2.1)])) o
def wI(H:J)(Q:au)(o:Option aa):Prop:=eH (λc=>cz (λb=>b.length<60/\∀a:List N,(∀z,z∈a↔z∈b)->a.Nodup->Q (.a H.length) (H++[.a<|a.map .c]))<|nN c) o
def lq(a:Option aa->Prop)(H:J)(b:List O):Prop:=nP (dQ λi=>a H[i]?) b
def gA(c:eG)(b:List O)(H:J)(Q:au):Prop:=eG.casesOn (motive:=λw=>Prop) c (lq (qk H Q) H b) (nQ (λa c=>sV a c λx y=>Q (.b<|if y>x then y else x) H) b) (nP (ie λx=>Q (.b<|if x<0 then-x else x) H) b) (nP (gz (λx=>Q (.b<|if x then 1 else 0) H) (λx=>Q (.b x) H) cs cs) b) (lq (sY H Q) H b) (lq (wF H Q) H b) (lq (wG H Q) H b) (lq (nV H Q) H b) (lq (wH H Q) H b)<|lq (wI H Q) H b
def sZ(k:Int)(H:J)(Q:au)(o:Option aa):Prop:=HA (λa=>a.length<=16777216/\0<=k/\Q (.a H.length) (H++[.a<|a.take k.toNat])) o
def lr(a b:O)(H:J)(Q:au):Prop:=ie (λk=>gz cs cs (λz=>k=1/\z.cps.size=1/\Q (.c z) H) (λi=>sZ k H Q H[i]?) a) b
def wJ(k:Int)(H:J)(Q:au)(o:Option aa):Prop:=eH (λa=>a.length<=16777216/\0<=k/\k<=a.length/\Q (.a H.length) (H++[.a<|a.drop k.toNat])) o
def nW(a b:O)(H:J)(Q:au):Prop:=ie (λk=>dQ (λi=>wJ k H Q H[i]?) a) b
def ta(o:Option aa):Prop:=eH (λw=>True) o
def wK(o:Option aa):Prop:=wq (λw w=>True) o
def gZ(a:O)(H:J):Prop:=dQ (λi=>ta H[i]?) a
def ql(a:O)(H:J):Prop:=dQ (λi=>wK H[i]?) a
def wL(i:Nat)(x:O)(H:J)(Q:au)(o:Option aa):Prop:=eH (λa=>a.length<=16777215/\Q .e (H.set i<|.a<|a++[x])) o
def qm(a x:O)(H:J)(Q:au):Prop:=dQ (λi=>wL i x H Q H[i]?) a
def tb(i:Nat)(H:J)(Q:au)(o p:Option aa):Prop:=eH (λa=>eH (λb=>a.length+b.length<=16777215/\Q .e (H.set i<|.a<|a++b)) p) o
def qn(a x:O)(H:J)(Q:au):Prop:=dQ (λi=>dQ (λj=>tb i H Q H[i]? H[j]?) x) a
def wM(i:Nat)(H:J)(Q:au)(o:Option aa):Prop:=eH (λa=>a.length<=16777216/\cz (eK (H.set i<|.a a.dropLast) Q) a[a.length-1]?) o
def qo(a:O)(H:J)(Q:au):Prop:=dQ (λi=>wM i H Q H[i]?) a
def wN(i:Nat)(H:J)(Q:au)(o:Option aa):Prop:=eH (λl=>rN (motive:=λw=>Prop) l False λx a=>a.length<=16777215/\Q x (H.set i<|.a a)) o
def qp(a:O)(H:J)(Q:au):Prop:=dQ (λi=>wN i H Q H[i]?) a
def wO(z:N)(H:J)(Q:au)(o:Option aa):Prop:=eH (λb=>cz (λa=>z∈a/\Q (.b<|a.idxOf z) H)<|nN b) o
def qq(a x:O)(H:J)(Q:au):Prop:=wp (λz=>dQ (λi=>wO z H Q H[i]?) a) x
def wP(k:Int)(d:O)(H:J)(Q:au)(o:Option aa):Prop:=wq (λw a=>Q ((fJ a k).getD d) H) o
def qr(a k d:O)(H:J)(Q:au):Prop:=ie (λk=>dQ (λi=>wP k d H Q H[i]?) a) k
noncomputable def tc(n:Nat):Int:=[0].getD n<|-1
noncomputable def fo:List N:=[aF "$end",aF "error",aF "$undefined"]
variable(C:bl)
def dR(o:O)(m:Nat)(H:J)(Q:Nat->Prop):Prop:=dQ (λi=>mz (λc d=>mA (λa=>a.lookup m=U/\cz Q (eT c m)) H[d]?) H[i]?) o
noncomputable def eL(c:O->J->(am->Prop)->Prop)(e:am->J->(Bool->J->Prop)->Prop)(d:am->J->au->Prop)(a:J->Prop):List O->List O->J->(Q:List O->J->Prop)->Prop|[],b,H,Q=>a H/\Q b H|x::g,b,H,Q=>a H/\c x H λh=>e h H λj f=>if j then d h f (λv i=>b.length<=16777000/\eL c e d a g (b++[v]) i Q)else eL c e d a g b f Q
mutual noncomputable def aK:(e:ao)->am->J->(Q:au)->Prop|.b i,g,H,Q=>jC g i<|lo λx=>Q x H|.G,_,H,Q=>Q .e H|.r p,_,H,Q=>Q (.d p) H|.f i,_,H,Q=>Q (.b i) H|.p s,_,H,Q=>Q (.c s) H|.x k,_,H,Q=>Q (.b<|tc k) H|.H,_,H,Q=>Q (.a H.length)<|H++[.a<|fo.map .c]|.h B l r,g,H,Q=>aK l g H λa h=>aK r g h λp j=>gb B a p j Q|.i B l r,g,H,Q=>aK l g H λa h=>aK r g h λp j=>gc B a p j λc=>Q (.d c) j|.D t a p,g,H,Q=>de t g H λc h=>if c then aK a g h Q else aK p g h Q|.e e a,g,H,Q=>aK e g H λo h=>cS o a h Q|.g e i,g,H,Q=>aK e g H λa h=>aK i g h λp j=>jD a p j Q|.A e i,g,H,Q=>aK e g H λa h=>aK i g h λp j=>lr a p j Q|.F e i,g,H,Q=>aK e g H λa h=>aK i g h λp j=>nW a p j Q|.n A,g,H,Q=>gB A g H λn h=>n.length<=100/\Q (.a h.length) (h++[.b n])|.k A,g,H,Q=>gB A g H λn h=>n.length<=100/\Q (.a h.length) (h++[.a n])|.E,_,H,Q=>Q (.a H.length)<|H++[.f 0 []]|.y,_,H,Q=>Q (.a H.length)<|H++[.d 0 []]|.q t G D E,g,H,Q=>eM G g H λn w h=>eL (λx I=>ky t x g I) (λz I=>de D z I) (λz I=>aK E z I) w n [] h λb j=>Q (.a j.length)<|j++[.a b]|.B t u G D E,g,H,Q=>eM G g H λn w h=>eL (λx I=>gY t u x g I) (λz I=>de D z I) (λz I=>aK E z I) w n [] h λb j=>Q (.a j.length)<|j++[.a b]|.l f y,g,H,Q=>gB y g H λn h=>C f n h Q|.v c y,g,H,Q=>gB y g H λn h=>C (lf c) (.a (h.length+1)::n) (h++[.c [],.e c h.length]) λv j=>v=.e/\Q (.a<|h.length+1) j|.j p y,g,H,Q=>gB y g H λn h=>gA p n h Q|.m e m y,g,H,Q=>aK e g H λo h=>dR o m h λf=>gB y g h λn j=>C f (o::n) j Q|.o e x,g,H,Q=>aK e g H λa h=>gZ a h/\aK x g h λp j=>qm a p j Q|.M e x,g,H,Q=>aK e g H λa h=>gZ a h/\aK x g h λp j=>qn a p j Q|.J e,g,H,Q=>aK e g H λa h=>qo a h Q|.L e,g,H,Q=>aK e g H λa h=>qp a h Q|.w e x,g,H,Q=>aK e g H λa h=>gZ a h/\aK x g h λp j=>qq a p j Q|.N e k d,g,H,Q=>aK e g H λa h=>ql a h/\aK k g h λp j=>aK d g j λc q=>qr a p c q Q|_,_,_,_=>False noncomputable def gB:(e:ao)->am->J->(Q:List O->J->Prop)->Prop|.d,_,H,Q=>Q [] H|.c e A,g,H,Q=>aK e g H λx h=>gB A g h λn j=>Q (x::n) j|_,_,_,_=>False noncomputable def de:(e:ao)->am->J->(Q:Bool->J->Prop)->Prop|.z e,g,H,Q=>de e g H λp h=>Q (!p) h|.u l r,g,H,Q=>de l g H λp h=>if p then de r g h Q else Q aq h|.t l r,g,H,Q=>de l g H λp h=>if p then Q M h else de r g h Q|.i B l r,g,H,Q=>aK l g H λa h=>aK r g h λp j=>gc B a p j λc=>Q c j|.I e,g,H,Q=>aK e g H λa h=>Q (qh a) h|.d,_,H,Q=>Q M H|.b i,g,H,Q=>jC g i<|lo λx=>iS x H λp=>Q p H|.g e i,g,H,Q=>aK e g H λa h=>aK i g h λp j=>jD a p j λx q=>iS x q λc=>Q c q|.m e m y,g,H,Q=>aK e g H λo h=>dR o m h λf=>gB y g h λn j=>C f (o::n) j λx q=>iS x q λc=>Q c q|_,_,_,_=>False noncomputable def eM:(e:ao)->am->J->(Q:List O->(J->Prop)->J->Prop)->Prop|.s e,g,H,Q=>aK e g H λa h=>sW a λn=>Q n (λK=>True) h|.K e,g,H,Q=>aK e g H λa h=>sX a h λn w=>Q n w h|.b i,g,H,Q=>jC g i<|lo λx=>hD x H λn w=>Q n w H|.e e a,g,H,Q=>aK e g H λo h=>cS o a h λx j=>hD x j λn w=>Q n w j|.g e i,g,H,Q=>aK e g H λa h=>aK i g h λp j=>jD a p j λx q=>hD x q λn w=>Q n w q|.A e i,g,H,Q=>aK e g H λa h=>aK i g h λp j=>lr a p j λx q=>hD x q λn w=>Q n w q|.j p y,g,H,Q=>gB y g H λn h=>gA p n h λx q=>hD x q λn w=>Q n w q|.l f y,g,H,Q=>gB y g H λn h=>C f n h λx q=>hD x q λn w=>Q n w q|.m e m y,g,H,Q=>aK e g H λo h=>dR o m h λf=>gB y g h λn j=>C f (o::n) j λx q=>hD x q λn w=>Q n w q|_,_,_,_=>False end
abbrev aS:=Hu->am->J->Prop
def qs(k:am->J->aS->Prop)(Q:aS):aS:=λf r H=>match f with|.a=>k r H Q|f=>Q f r H
noncomputable def ig(c:O->am->J->(am->Prop)->Prop)(d:am->J->aS->Prop)(a:J->Prop):List O->am->J->(Q:aS)->Prop|[],r,H,Q=>a H/\Q .a r H|x::g,r,H,Q=>a H/\c x r H λh=>d h H λf e b=>match f with|.b v=>Q (.b v) e b|_=>ig c d a g e b Q
noncomputable def kA(e:am->J->(Bool->J->Prop)->Prop)(d:am->J->aS->Prop):Nat->am->J->(Q:aS)->Prop|0,_,_,_=>False|n+1,r,H,Q=>e r H λb a=>if b then d r a λf g c=>match f with|.b v=>Q (.b v) g c|_=>kA e d n g c Q else Q .a r a
noncomputable def cA:(e:aW)->am->J->(Q:aS)->Prop|.f,r,H,Q=>Q .a r H|.b a b,r,H,Q=>cA a r H<|qs (λf I s=>cA b f I s) Q|.c i e,r,H,Q=>aK C e r H λx d=>Q .a (r.set i<|V x) d|.l i j e,r,H,Q=>aK C e r H λx d=>gY i j x r d λf=>Q .a f d|.p i j k e,r,H,Q=>aK C e r H λx d=>nU i j k x r d λf=>Q .a f d|.j o i e,r,H,Q=>aK C e r H λx d=>aK C o r d λa g=>aK C i r g λb h=>mD a b x h λq=>Q .a r q|.h o a e,r,H,Q=>aK C e r H λx d=>aK C o r d λv g=>mE v a x g λh=>Q .a r h|.i e,r,H,Q=>aK C e r H λw d=>Q .a r d|.g t a b,r,H,Q=>de C t r H λc d=>if c then cA a r d Q else cA b r d Q|.k t b,r,H,Q=>∃n,kA (λf I=>de C t f I) (λf I=>cA b f I) n r H Q|.d t l b,r,H,Q=>eM C l r H λp m d=>ig (ky t) (λf I=>cA b f I) m p r d Q|.m t u l b,r,H,Q=>eM C l r H λp m d=>ig (gY t u) (λf I=>cA b f I) m p r d Q|.e e,r,H,Q=>aK C e r H λx d=>Q (.b x) r d|.n,r,H,Q=>Q .c r H|.q,_,_,_=>False
end
structure dw(A:bo)(d:Nat):Prop where
 a:A.handled=U
 b:A.depth+3*d+6<=1000
 c:A.units+60*d+80<=9900
theorem dw.zb{A:bo}{d a:Nat}(c:dw A d)(h:a<=d):dw A a:=⟨c.a,by have:=c.b;exact NT h this,by have:=c.c;exact NU h this⟩
theorem dw.zc{A:bo}{d:Nat}(c:dw A d):A.depth<recursionLimit:=by have:=c.b;show A.depth<1000;exact NV this
theorem dw.za{A:bo}{d:Nat}(c:dw A d):A.units+70<iy:=by have:=c.c;show A.units+70<9900;exact NW this
theorem dw.zd{A:bo}{d:Nat}(c:dw A<|d+1)(a:cl):dw (A.deeper a) d:=⟨c.a,by have:=c.b;show A.depth+1+3*d+6<=1000;exact Ga this,by have:=c.c;simp only[Around.deeper_units];exact NX this⟩
abbrev cD:=List<|Option<|N×Option ah
structure ih(k:cl)(l:cD):Prop where
 a:k.scope.kind=.function
 d:k.globals=gl
 f:k.builtins=rI
 c:∀(i:Nat)n,l[i]?=V (V (n,U))->k.kindOf n=V .local
 b:∀(i:Nat)n h,l[i]?=V (V (n,V h))->(k.kindOf n=V .cell\/k.kindOf n=V .free)/\k.cells.lookup n=V h
 g:∀(i:Nat)n h,l[i]?=V (V (n,h))->(n==("__debug__":N))=aq/\(n==("__classdict__":N))=aq
 e:∀(i j:Nat)n h p o,l[i]?=V (V (n,h))->l[j]?=V (V (p,o))->i≠j->n≠p/\(∀m,h=V m->o≠V m)
def qt(X:List ah):Option O->Option ab->Prop|U,_=>True|V x,a=>∃v,a=V v/\ae X x v
theorem qt.za{X b:List ah}(c:X<+:b){x:Option O}{a:Option ab}(h:qt X x a):qt b x a:=by cases x with|none=>trivial|some x=>ext(h)v e r;exact ad v e<|r.za c
structure bq(T:bf)(f:cl)(g:cD)(X:List ah)(r:am)(h:bS):Prop where
 d:g.length<=r.length
 c:∃m,h.Ns f.locals m/\∀(i:Nat)n,g[i]?=V (V (n,U))->qt X (r[i]?.join) (m n)
 a:f.locals∉X/\T.c.get? f.locals=U
 b:∀(i:Nat)n e,g[i]?=V (V (n,V e))->e∉X/\e≠f.locals/\T.c.get? e=U/\∃j,h.IsCell e j/\qt X (r[i]?.join) j
noncomputable def cZ(a:cl)(b:cD):List ah:=a.locals::b.filterMap λx=>x.bind (·.2)
section
variable{T:bf}{A:bo}{X a d:List ah}{H:J}{s u:al}{b:cl}{c:cD}{r:am}
theorem bq.za(p:bq T b c a r s.heap)(f:bg [] a s d u):bq T b c d r u.heap:=by
 delta T a d s u b c r;ext p f;obtain⟨L,⟨m,w,P⟩,k,K⟩:=p;have Q:∀o,s.heap.get? b.locals=V o->u.heap.get? b.locals=V o:=λo e=>f.b _ o e k.1 (by simp)
 have x:∀g,(∃o,s.heap.get? g=V o)->g∉a->g∉d:=λg j I h=>aD j λo e=>by
  rcases f.e g h with h|h;.exact I h
  .rw[e]at h;exact gr h
 ext(@hX w)R C B q A;refine⟨L,ad m (ks R C B (Q _ q) A) λi n l=>(P i n l).za f.a,⟨x _ ⟨_,q⟩ k.1,k.2⟩,λi n z l=>?_⟩;ext(ei:K i n z l)t D E j(j)X y H(y)S v G;exact dC (x _ ⟨_,v⟩ t) D E<|ad X (ad S (f.b _ _ v t<|by simp) G)<|H.za f.a
theorem HG{r:am}{i:Nat}{x:O}(h:r[i]?=V (V x)):r[i]?.join=V x:=by rw[h];rfl
theorem Uk{i:Nat}{n:N}{d:Option ah}{x:O}{B:aE}{Q:au}(f:ih b c)(p:bq T b c a r s.heap)(R:ai T a H s.heap)(g:c[i]?=V (V (n,d)))(w:r[i]?=V (V x))(q:Q x H):aU T A X a s (ca (.Name n B) b) Q:=by
 have j:=f.g i n d g
 cases d with
 |none=>ext(_:p.c)m z y;have:=y i n g;rw[HG w]at this;ext(this)v e l;exact LZ (wpAny_loadName_local f.a (f.c i n g) z e<|cK R l q) j.1
 |some d=>
  ext(ei:p.b i n d g)D D D o(o)C t h;rw[HG w]at h;ext(h)v o l;subst o;ext(ac:f.b i n d g)k u;rcases k with k|k;.exact LZ (wpAny_loadName_cell f.a k u t<|cK R l q) j.1
  .exact LZ (wpAny_loadName_free f.a k u t (cK R l q) j.2) j.1
theorem td{r:am}{i j:Nat}{x:O}(h:i≠j):(r.set i<|V x)[j]?.join=r[j]?.join:=by rw[iw h]
theorem ai.zo{d:bS}{c:ah}(R:ai T a H s.heap)(i:c∉a)(j:T.c.get? c=U)(f:kT c s.heap d):ai T a H d:=R.zk (λb o e=>(f.2 b λq=>by subst q;rw[j]at e;exact cn e).trans<|R.b b o e) λg h o e=>(f.2 g λq=>i<|q▸h).trans e
theorem HH{i:Nat}{n:N}{f:Option ah}{x:O}{v:ab}(w:ih b c)(g:bq T b c a r s.heap)(R:ai T a H s.heap)(k:c[i]?=V (V (n,f)))(y:f=U\/b.kindOf n=V .cell)(S:ae a x v):av (ax T.b T.a) A (storeName b n v) (λ_ u=>bg [f.getD b.locals] a s a u/\ai T a H u.heap/\bq T b c a (r.set i<|V x) u.heap) (λ_ _=>False) s:=by
 revert T A a H s b c r i n f x v;ext@T@A@a@H@s@b@c@r@i@n@f@x@v w g R k y S;have a6:i<r.length:=gP (bi.mp k).1 g.d;have a1:(r.set i<|V x)[i]?.join=V x:=by rw[kd a6];rfl
 cases f with
 |none=>
  ext(_:g.c)a2 P L;refine wpAny_storeName_local (w.c i n k) P (λa4 Q l=>aI ?_ (R.zo g.a.1 g.a.2 l) ⟨by simpa using g.d,ad _ Q λj t d=>?_,g.a,λj t D d=>?_⟩) (by rw[w.a];rfl)
  .exact⟨eg _,⟨rfl,rfl⟩,λm o e _ I=>(l.2 m λq=>I<|by rw[q];exact .head _).trans e,λm o e=>by
    by_cases q:m=b.locals;.subst q;ext(@hX Q)X _ _ E _;exact⟨X,E⟩
    .exact⟨o,(l.2 m q).trans e⟩,λ_ h=>.inl h⟩
  .by_cases q:i=j;.subst q;rw[k]at d;cases d;rw[a1];exact ad v (by simp) S
   .rw[td q];have:=(w.e i j _ _ _ _ k d q).1;simp only[if_neg<|cy this];exact L j t d
  .have q:i≠j:=λq=>by subst q;rw[k]at d;cases d
   ext(ei:g.b j t D d)B z C p(p)a3 G a0;exact dC B z C<|ad a3 (G.sameBut l z) (by rw[td q];exact a0)
 |some f=>
  delta f;intros _
  exact by
   rcases y with y|y;.exact gr y
   ext(ei:g.b i n f k)B z C p(p)a3 G a0;refine wpAny_storeName_cell w.a y (w.b i n f k).2 G λa4 K l=>aI ?_ (R.zo B C l) ⟨by simpa using g.d,?_,g.a,λj t D d=>?_⟩
   .have a5:f∈[f]:=.head _
    exact⟨eg _,⟨rfl,rfl⟩,λm o e _ I=>(l.2 m λq=>I<|q▸a5).trans e,λm o e=>by
     by_cases q:m=f;.have q:=q.symm;subst q;ext(K)X E _;exact⟨X,E⟩
     .exact⟨o,(l.2 m q).trans e⟩,λ_ h=>.inl h⟩
   .ext(_:g.c)a2 P L;refine ad a2 (P.sameBut l<|cy z) λj t d=>?_;have q:i≠j:=λq=>by subst q;rw[k]at d;cases d
    rw[td q];exact L j t d
   .by_cases q:i=j;.subst q;rw[k]at d;cases d;exact dC B z C<|ad (V v) K (by rw[a1];exact ad v rfl S)
    .ext(ei:g.b j t D d)a8 a9 b0 p(p)b3 b1 b2;have a7:=(w.e i j _ _ _ _ k d q).2 f rfl;exact dC a8 a9 b0<|ad b3 (b1.sameBut l λe=>a7<|by rw[e]) (by rw[td q];exact b2)
end
set_option genInjectivity false
structure cm where
 b:List<|N×fV
 a:List<|Option N
instance:Nonempty cm:=⟨by constructor<;>exact cU⟩
noncomputable def cm.ze(g:cm)(n:N):Bool:=(λk=>k==V .local||k==V .cell||k==V .free)<|g.b.lookup n
noncomputable def cm.zc(g:cm)(n:N):Bool:=g.b.lookup n==V .globalImplicit
noncomputable def cm.zf(g:cm)(n:N):Bool:=(λk=>k==V .local||k==V .cell)<|g.b.lookup n
def cm.zg(g:cm)(i:Nat)(n:N):Bool:=g.a[i]?==V (V n)&&g.ze n
def cm.za(g:cm)(i:Nat)(n:N):Bool:=g.a[i]?==V (V n)&&g.zf n
def cm.zd(g:cm)(b:Nat)(n:N):Bool:=n==aF (mv b)&&g.zc n
noncomputable def wQ(b a:List<|N×fV):List<|N×fV:=b.map λ(n,k)=>if(k==.free&&a.lookup n==V .cell)then(n,.cell)else(n,k)
noncomputable def qu(b:List<|N×fV)(a:List<|Option N)(c:List<|Nat×N):List<|Option N:=(cv a.length).map λj=>match c.lookup j with|V n=>V n|U=>match a[j]? with|V (V n)=>if b.lookup n==V .free then V n else U|_=>U
def cm.zb(g:cm)(a:fh)(b:List<|Nat×N):cm:=⟨wQ a.names g.b,qu a.names g.a b⟩
def ls(g:cm)(a:fh)(b:List<|Nat×N):Bool:=a.kind==.function&&aP (a.names.map (·.1)).Nodup&&a.names.all (λx=>x.2==.local||x.2==.globalImplicit||(x.2==.free&&g.ze x.1&&g.a.any (·==V x.1)&&g.b.lookup x.1 !=V .local))&&b.all (λt=>aP (t.1<g.a.length)&&a.names.lookup t.2==V .local&&t.2 !=("__debug__":N)&&t.2 !=("__classdict__":N))&&aP (b.map (·.1)).Nodup&&aP (b.map (·.2)).Nodup
noncomputable def dS:List ag->Bool|[]=>M|e::r=>e.ctorIdx !=22&&dS r
noncomputable def HI(e:ag):Bool:=e.ctorIdx !=26
noncomputable def ha(a n:N)(b p:aE):Bool:=a==n&&b.endLine==p.line
noncomputable def wR:eG->Nat|.a=>0|.g=>1|.f=>2|.c=>3|.d=>4|.h=>5|.i=>6|.b=>7|.j=>8|.e=>7
noncomputable abbrev bF{a:Type}(_:a):Bool:=aq
theorem dx{b:Type}{P:b->Prop}(a:b)(h:bF a=M):P a:=absurd h cG
noncomputable abbrev aZ{a b:Type}(_:a)(_:b):Bool:=aq
theorem bQ{c d:Type}{P:c->d->Prop}(a:c)(b:d)(h:aZ a b=M):P a b:=absurd h cG
noncomputable abbrev aG{a b c:Type}(_:a)(_:b)(_:c):Bool:=aq
theorem aM{d e f:Type}{P:d->e->f->Prop}(a:d)(b:e)(c:f)(h:aG a b c=M):P a b c:=absurd h cG
noncomputable abbrev aN{a b c d:Type}(_:a)(_:b)(_:c)(_:d):Bool:=aq
theorem aR{e f g i:Type}{P:e->f->g->i->Prop}(a:e)(b:f)(c:g)(d:i)(h:aN a b c d=M):P a b c d:=absurd h cG
noncomputable abbrev hb{a b c d e:Type}(_:a)(_:b)(_:c)(_:d)(_:e):Bool:=aq
theorem mF{f g i j k:Type}{P:f->g->i->j->k->Prop}(a:f)(b:g)(c:i)(d:j)(e:k)(h:hb a b c d e=M):P a b c d e:=absurd h cG
def fO(c:BoolOp->List ag->aE->Bool)(b:ag->hp->ag->aE->Bool)(o:Ei->ag->aE->Bool)(h:ag->ag->ag->aE->Bool)(g:List (Option ag)->List ag->aE->Bool)(i:ag->List rO->fh->aE->Bool)(e:ag->List fg->List ag->aE->Bool)(d:ag->List ag->List Keyword->aE->Bool)(f:fC->Nat->aE->Bool)(a:ag->N->aE->Bool)(m:ag->ag->aE->Bool)(k:N->aE->Bool)(j:List ag->aE->Bool)(n:List ag->Nat->aE->Bool)(l:Option ag->Option ag->Option ag->aE->Bool)(z:ag):Bool:=Expr.casesOn (motive_1:=λw=>Bool) z c aG b o aN h g aG i aN hb aN aZ aZ aZ e d aN aZ f a m aZ k j n l
theorem gd{g:BoolOp->List ag->aE->Bool}{f:ag->hp->ag->aE->Bool}{t:Ei->ag->aE->Bool}{m:ag->ag->ag->aE->Bool}{l:List (Option ag)->List ag->aE->Bool}{n:ag->List rO->fh->aE->Bool}{j:ag->List fg->List ag->aE->Bool}{i:ag->List ag->List Keyword->aE->Bool}{k:fC->Nat->aE->Bool}{e:ag->N->aE->Bool}{r:ag->ag->aE->Bool}{p:N->aE->Bool}{o:List ag->aE->Bool}{s:List ag->Nat->aE->Bool}{q:Option ag->Option ag->Option ag->aE->Bool}{P:ag->Prop}{z:ag}(h:fO g f t m l n j i k e r p o s q z=M)(w:∀a b c,g a b c=M->P (.BoolOp a b c))(v:∀a b c d,f a b c d=M->P (.BinOp a b c d))(L:∀a b c,t a b c=M->P (.UnaryOp a b c))(C:∀a b c d,m a b c d=M->P (.IfExp a b c d))(B:∀a b c,l a b c=M->P (.Dict a b c))(D:∀a b c d,n a b c d=M->P (.ListComp a b c d))(y:∀a b c d,j a b c d=M->P (.Compare a b c d))(x:∀a b c d,i a b c d=M->P (.Call a b c d))(A:∀a b c,k a b c=M->P (.Constant a b c))(u:∀a b c,e a b c=M->P (.Attribute a b c))(I:∀a b c,r a b c=M->P (.Subscript a b c))(G:∀a b,p a b=M->P (.Name a b))(E:∀a b,o a b=M->P (.List a b))(K:∀a b c,s a b c=M->P (.Tuple a b c))(H:∀a b c d,q a b c d=M->P (.Slice a b c d)):P z:=by cases z<;>first|exact absurd h cG|exact w _ _ _ h|exact v _ _ _ _ h|exact L _ _ _ h|exact C _ _ _ _ h|exact B _ _ _ h|exact D _ _ _ _ h|exact y _ _ _ _ h|exact x _ _ _ _ h|exact A _ _ _ h|exact u _ _ _ h|exact I _ _ _ h|exact G _ _ h|exact E _ _ h|exact K _ _ _ h|exact H _ _ _ _ h
def kB(f:aE->Bool)(a:List ag->ag->aE->Bool)(c:ag->aE->Bool)(e h:ag->List bw->List bw->aE->Bool)(d:ag->ag->List bw->List bw->aE->Bool)(g:Option ag->aE->Bool)(b:aE->Bool)(z:bw):Bool:=Stmt.casesOn (motive_2:=λw=>Bool) z (λw w w w w w w w w w=>aq) (λw w w w w w w w w w=>aq) (λw w w w w w w w w w w=>aq) g aZ a (λw w w w w w w=>aq) aN hb d hb h e aG aG aG aG hb hb aG aZ aN aZ aZ c f bF b
theorem lt{l:aE->Bool}{f:List ag->ag->aE->Bool}{i:ag->aE->Bool}{k n:ag->List bw->List bw->aE->Bool}{j:ag->ag->List bw->List bw->aE->Bool}{m:Option ag->aE->Bool}{g:aE->Bool}{P:bw->Prop}{z:bw}(h:kB l f i k n j m g z=M)(t:∀a,l a=M->P (.Pass a))(o:∀a b c,f a b c=M->P (.Assign a b c))(q:∀a b,i a b=M->P (.Expr a b))(s:∀a b c d,k a b c d=M->P (.If a b c d))(v:∀a b c d,n a b c d=M->P (.While a b c d))(r:∀a b c d e,j a b c d e=M->P (.For a b c d e))(u:∀a b,m a b=M->P (.Return a b))(p:∀a,g a=M->P (.Continue a)):P z:=by cases z<;>first|exact absurd h cG|exact t _ h|exact o _ _ _ h|exact q _ _ h|exact s _ _ _ _ h|exact v _ _ _ _ h|exact r _ _ _ _ _ h|exact u _ _ h|exact p _ h
noncomputable def dl{a:Type}(n:Bool)(c:a->List a->Bool):List a->Bool|[]=>n|x::r=>c x r
theorem fp{a:Type}{n:Bool}{c:a->List a->Bool}{P:List a->Prop}{l:List a}(h:dl n c l=M)(d:n=M->P [])(b:∀x r,c x r=M->P (x::r)):P l:=by cases l with|nil=>exact d h|cons x r=>exact b x r h
noncomputable def lu{a:Type}(n:Bool)(c:a->Bool):Option a->Bool|U=>n|V x=>c x
theorem mG{a:Type}{n:Bool}{c:a->Bool}{P:Option a->Prop}{l:Option a}(h:lu n c l=M)(d:n=M->P U)(b:∀x,c x=M->P (V x)):P l:=by cases l with|none=>exact d h|some x=>exact b x h
theorem gC{P:Prop}(h:aq=M):P:=absurd h cG
def qv(n:Bool)(b:Bool->Bool)(i:Int->Bool)(s:N->Bool)(z:fC):Bool:=Const.casesOn (motive:=λw=>Bool) z n b i bF aZ s bF aq
theorem te{n:Bool}{b:Bool->Bool}{i:Int->Bool}{s:N->Bool}{P:fC->Prop}{z:fC}(h:qv n b i s z=M)(d:n=M->P .none)(a:∀x,b x=M->P (.bool x))(c:∀x,i x=M->P (.int x))(e:∀x,s x=M->P (.str x)):P z:=by cases z<;>first|exact absurd h cG|exact d h|exact a _ h|exact c _ h|exact e _ h
def ed(k:N->aE->Bool)(z:ag):Bool:=fO aG aN aG aN aG aN aN aN aG aG aG k aZ aG aN z
theorem dF{k:N->aE->Bool}{P:ag->Prop}{z:ag}(h:ed k z=M)(c:∀n p,k n p=M->P (.Name n p)):P z:=gd (P:=P) h aM aR aM aR aM aR aR aR aM aM aM c bQ aM aR
def lv(k:fC->Nat->aE->Bool)(z:ag):Bool:=fO aG aN aG aN aG aN aN aN k aG aG aZ aZ aG aN z
theorem mH{k:fC->Nat->aE->Bool}{P:ag->Prop}{z:ag}(h:lv k z=M)(c:∀a b p,k a b p=M->P (.Constant a b p)):P z:=gd (P:=P) h aM aR aM aR aM aR aR aR c aM aM bQ bQ aM aR
def wS(k:Ei->ag->aE->Bool)(z:ag):Bool:=fO aG aN k aN aG aN aN aN aG aG aG aZ aZ aG aN z
theorem HJ{k:Ei->ag->aE->Bool}{P:ag->Prop}{z:ag}(h:wS k z=M)(c:∀o x p,k o x p=M->P (.UnaryOp o x p)):P z:=gd (P:=P) h aM aR c aR aM aR aR aR aM aM aM bQ bQ aM aR
def fP(k:ag->List ag->aE->Bool)(z:ag):Bool:=fO aG aN aG aN aG aN aN (λf a b p=>dl (k f a p) aZ b) aG aG aG aZ aZ aG aN z
theorem ge{k:ag->List ag->aE->Bool}{P:ag->Prop}{z:ag}(h:fP k z=M)(c:∀f a p,k f a p=M->P (.Call f a [] p)):P z:=gd (P:=P) h aM aR aM aR aM aR aR (λf a b p h=>fp (P:=λb=>P<|.Call f a b p) h (c f a p) bQ) aM aM aM bQ bQ aM aR
def HK(k:ag->hp->ag->aE->Bool)(z:ag):Bool:=fO aG k aG aN aG aN aN aN aG aG aG aZ aZ aG aN z
theorem Ul{k:ag->hp->ag->aE->Bool}{P:ag->Prop}{z:ag}(h:HK k z=M)(c:∀l o r p,k l o r p=M->P (.BinOp l o r p)):P z:=gd (P:=P) h aM c aM aR aM aR aR aR aM aM aM bQ bQ aM aR
def wT(k:ag->fg->ag->aE->Bool)(z:ag):Bool:=fO aG aN aG aN aG aN (λl a b p=>dl aq (λo a=>dl (dl aq (λr b=>dl (k l o r p) aZ b) b) aZ a) a) aN aG aG aG aZ aZ aG aN z
theorem wU{k:ag->fg->ag->aE->Bool}{P:ag->Prop}{z:ag}(h:wT k z=M)(c:∀l o r p,k l o r p=M->P (.Compare l [o] [r] p)):P z:=gd (P:=P) h aM aR aM aR aM aR (λl b a p h=>fp (P:=λb=>P<|.Compare l b a p) h gC λo b h=>fp (P:=λb=>P<|.Compare l (o::b) a p) h (λh=>fp (P:=λa=>P<|.Compare l [o] a p) h gC λr a h=>fp (P:=λa=>P<|.Compare l [o] (r::a) p) h (c l o r p) bQ) bQ) aR aM aM aM bQ bQ aM aR
def wV(k:BoolOp->ag->ag->List ag->aE->Bool)(z:ag):Bool:=fO (λo a p=>dl aq (λx r=>dl aq (λy r=>k o x y r p) r) a) aN aG aN aG aN aN aN aG aG aG aZ aZ aG aN z
theorem HL{k:BoolOp->ag->ag->List ag->aE->Bool}{P:ag->Prop}{z:ag}(h:wV k z=M)(c:∀o x y r p,k o x y r p=M->P (.BoolOp o (x::y::r) p)):P z:=gd (P:=P) h (λo a p h=>fp (P:=λa=>P<|.BoolOp o a p) h gC λx r h=>fp (P:=λr=>P<|.BoolOp o (x::r) p) h gC λy r h=>c o x y r p h) aR aM aR aM aR aR aR aM aM aM bQ bQ aM aR
def HM(k:ag->ag->ag->aE->Bool)(z:ag):Bool:=fO aG aN aG k aG aN aN aN aG aG aG aZ aZ aG aN z
theorem Um{k:ag->ag->ag->aE->Bool}{P:ag->Prop}{z:ag}(h:HM k z=M)(c:∀t x y p,k t x y p=M->P (.IfExp t x y p)):P z:=gd (P:=P) h aM aR aM c aM aR aR aR aM aM aM bQ bQ aM aR
def jE(k:ag->N->aE->Bool)(z:ag):Bool:=fO aG aN aG aN aG aN aN aN aG k aG aZ aZ aG aN z
theorem jF{k:ag->N->aE->Bool}{P:ag->Prop}{z:ag}(h:jE k z=M)(c:∀v n p,k v n p=M->P (.Attribute v n p)):P z:=gd (P:=P) h aM aR aM aR aM aR aR aR aM c aM bQ bQ aM aR
def qw(k:ag->ag->aE->Bool)(z:ag):Bool:=fO aG aN aG aN aG aN aN aN aG aG k aZ aZ aG aN z
theorem qx{k:ag->ag->aE->Bool}{P:ag->Prop}{z:ag}(h:qw k z=M)(c:∀v x p,k v x p=M->P (.Subscript v x p)):P z:=gd (P:=P) h aM aR aM aR aM aR aR aR aM aM c bQ bQ aM aR
def HN(k:ag->aE->Bool)(z:ag):Bool:=fO aG aN aG aN aG aN aN aN aG aG aG aZ aZ aG (λa b e p=>lu (lu aq (λu=>lu (k u p) bF e) b) bF a) z
theorem Un{k:ag->aE->Bool}{P:ag->Prop}{z:ag}(h:HN k z=M)(c:∀u p,k u p=M->P (.Slice U (V u) U p)):P z:=gd (P:=P) h aM aR aM aR aM aR aR aR aM aM aM bQ bQ aM λa b e p h=>mG (P:=λa=>P<|.Slice a b e p) h (λh=>mG (P:=λb=>P<|.Slice U b e p) h gC λu h=>mG (P:=λe=>P<|.Slice U (V u) e p) h (c u p) dx) dx
def HO(k:ag->aE->Bool)(z:ag):Bool:=fO aG aN aG aN aG aN aN aN aG aG aG aZ aZ aG (λa b e p=>lu aq (λu=>lu (lu (k u p) bF e) bF b) a) z
theorem Uo{k:ag->aE->Bool}{P:ag->Prop}{z:ag}(h:HO k z=M)(c:∀u p,k u p=M->P (.Slice (V u) U U p)):P z:=gd (P:=P) h aM aR aM aR aM aR aR aR aM aM aM bQ bQ aM λa b e p h=>mG (P:=λa=>P<|.Slice a b e p) h gC λu h=>mG (P:=λb=>P<|.Slice (V u) b e p) h (λh=>mG (P:=λe=>P<|.Slice (V u) U e p) h (c u p) dx) dx
def mI(k:List ag->Nat->aE->Bool)(z:ag):Bool:=fO aG aN aG aN aG aN aN aN aG aG aG aZ aZ k aN z
theorem nX{k:List ag->Nat->aE->Bool}{P:ag->Prop}{z:ag}(h:mI k z=M)(c:∀a b p,k a b p=M->P (.Tuple a b p)):P z:=gd (P:=P) h aM aR aM aR aM aR aR aR aM aM aM bQ bQ c aR
def HP(k:List ag->aE->Bool)(z:ag):Bool:=fO aG aN aG aN aG aN aN aN aG aG aG aZ k aG aN z
theorem Up{k:List ag->aE->Bool}{P:ag->Prop}{z:ag}(h:HP k z=M)(c:∀a p,k a p=M->P (.List a p)):P z:=gd (P:=P) h aM aR aM aR aM aR aR aR aM aM aM bQ c aM aR
def wW(k:aE->Bool)(z:ag):Bool:=fO aG aN aG aN (λa b p=>dl (dl (k p) aZ b) aZ a) aN aN aN aG aG aG aZ aZ aG aN z
theorem HQ{k:aE->Bool}{P:ag->Prop}{z:ag}(h:wW k z=M)(c:∀p,k p=M->P (.Dict [] [] p)):P z:=gd (P:=P) h aM aR aM aR (λa b p h=>fp (P:=λa=>P<|.Dict a b p) h (λh=>fp (P:=λb=>P<|.Dict [] b p) h (c p) bQ) bQ) aR aR aR aM aM aM bQ bQ aM aR
noncomputable def HR(k:ag->ag->List ag->Bool)(z:rO):Bool:=z.is_async==0&&k z.target z.iter z.ifs
theorem Uq{k:ag->ag->List ag->Bool}{P:rO->Prop}{g:rO}(h:HR k g=M)(c:∀t e d,k t e d=M->P ⟨t,e,d,0⟩):P g:=by obtain⟨t,e,d,a⟩:=g;ext(ac:dB.mp h)b f;have b:=cV b;subst b;exact c _ _ _ f
def wX(k:ag->ag->ag->List ag->fh->aE->Bool)(z:ag):Bool:=fO aG aN aG aN aG (λe a d p=>dl aq (λg a=>dl (HR (λt c b=>k e t c b d p) g) aZ a) a) aN aN aG aG aG aZ aZ aG aN z
theorem tf{k:ag->ag->ag->List ag->fh->aE->Bool}{P:ag->Prop}{z:ag}(h:wX k z=M)(c:∀e t f d a p,k e t f d a p=M->P (.ListComp e [⟨t,f,d,0⟩] a p)):P z:=gd (P:=P) h aM aR aM aR aM (λe b a p h=>fp (P:=λb=>P<|.ListComp e b a p) h gC λg b h=>fp (P:=λb=>P<|.ListComp e (g::b) a p) h (λh=>Uq (P:=λg=>P<|.ListComp e [g] a p) h λt f d h=>c e t f d a p h) bQ) aR aR aM aM aM bQ bQ aM aR
def tg(k:Bool)(z:List ag):Bool:=dl k aZ z
theorem wY{k:Bool}{P:List ag->Prop}{z:List ag}(h:tg k z=M)(c:k=M->P []):P z:=fp (P:=P) h c bQ
def qy(k:ag->List ag->Bool)(z:List ag):Bool:=dl aq k z
theorem th{k:ag->List ag->Bool}{P:List ag->Prop}{z:List ag}(h:qy k z=M)(c:∀x r,k x r=M->P (x::r)):P z:=fp (P:=P) h gC c
def ii(k:ag->Bool)(z:List ag):Bool:=qy (λx r=>tg (k x) r) z
theorem iT{k:ag->Bool}{P:List ag->Prop}{z:List ag}(h:ii k z=M)(c:∀x,k x=M->P [x]):P z:=th (P:=P) h λx r h=>wY (P:=λr=>P<|x::r) h<|c x
def nY(k:ag->ag->Bool)(z:List ag):Bool:=qy (λx r=>ii (k x) r) z
theorem nZ{k:ag->ag->Bool}{P:List ag->Prop}{z:List ag}(h:nY k z=M)(c:∀x y,k x y=M->P [x,y]):P z:=th (P:=P) h λx r h=>iT (P:=λr=>P<|x::r) h<|c x
def HS(k:ag->ag->ag->Bool)(z:List ag):Bool:=qy (λx r=>nY (k x) r) z
theorem Ur{k:ag->ag->ag->Bool}{P:List ag->Prop}{z:List ag}(h:HS k z=M)(c:∀x y w,k x y w=M->P [x,y,w]):P z:=th (P:=P) h λx r h=>nZ (P:=λr=>P<|x::r) h<|c x
def wZ(k:Bool)(z:fC):Bool:=qv k bF bF bF z
theorem HT{k:Bool}{P:fC->Prop}{z:fC}(h:wZ k z=M)(c:k=M->P .none):P z:=te (P:=P) h c dx dx dx
def HU(k:Bool->Bool)(z:fC):Bool:=qv aq k bF bF z
theorem Us{k:Bool->Bool}{P:fC->Prop}{z:fC}(h:HU k z=M)(c:∀x,k x=M->P (.bool x)):P z:=te (P:=P) h gC c dx dx
def ti(k:Int->Bool)(z:fC):Bool:=qv aq bF k bF z
theorem Aa{k:Int->Bool}{P:fC->Prop}{z:fC}(h:ti k z=M)(c:∀x,k x=M->P (.int x)):P z:=te (P:=P) h gC dx c dx
def HV(k:N->Bool)(z:fC):Bool:=qv aq bF bF k z
theorem Ut{k:N->Bool}{P:fC->Prop}{z:fC}(h:HV k z=M)(c:∀x,k x=M->P (.str x)):P z:=te (P:=P) h gC dx dx c
def tj(k:Bool)(z:List bw):Bool:=dl k aZ z
theorem Ab{k:Bool}{P:List bw->Prop}{z:List bw}(h:tj k z=M)(c:k=M->P []):P z:=fp (P:=P) h c bQ
def kC(k:bw->Bool)(z:List bw):Bool:=dl aq (λx r=>dl (k x) aZ r) z
theorem lw{k:bw->Bool}{P:List bw->Prop}{z:List bw}(h:kC k z=M)(c:∀x,k x=M->P [x]):P z:=fp (P:=P) h gC λx r h=>fp (P:=λr=>P<|x::r) h (c x) bQ
def HW(k:bw->bw->List bw->Bool)(z:List bw):Bool:=dl aq (λx r=>dl aq (k x) r) z
theorem Uu{k:bw->bw->List bw->Bool}{P:List bw->Prop}{z:List bw}(h:HW k z=M)(c:∀x y r,k x y r=M->P (x::y::r)):P z:=fp (P:=P) h gC λx r h=>fp (P:=λr=>P<|x::r) h gC<|c x
def HX(k:aE->Bool)(z:List bw):Bool:=kC (kB k aG aZ aN aN hb aZ bF) z
theorem Uv{k:aE->Bool}{P:List bw->Prop}{z:List bw}(h:HX k z=M)(c:∀p,k p=M->P [.Pass p]):P z:=lw (P:=P) h λx h=>lt (P:=λx=>P [x]) h c aM bQ aR aR mF bQ dx
def oa(k:ag->ag->aE->Bool)(z:List bw):Bool:=kC (kB bF (λa v p=>ii (λt=>k t v p) a) aZ aN aN hb aZ bF) z
theorem qz{k:ag->ag->aE->Bool}{P:List bw->Prop}{z:List bw}(h:oa k z=M)(c:∀t v p,k t v p=M->P [.Assign [t] v p]):P z:=lw (P:=P) h λx h=>lt (P:=λx=>P [x]) h dx (λa v p h=>iT (P:=λa=>P [.Assign a v p]) h λt h=>c t v p h) bQ aR aR mF bQ dx
def HY(k:ag->aE->Bool)(z:List bw):Bool:=kC (kB bF aG k aN aN hb aZ bF) z
theorem Uw{k:ag->aE->Bool}{P:List bw->Prop}{z:List bw}(h:HY k z=M)(c:∀v p,k v p=M->P [.Expr v p]):P z:=lw (P:=P) h λx h=>lt (P:=λx=>P [x]) h dx aM c aR aR mF bQ dx
def HZ(k:ag->List bw->List bw->aE->Bool)(z:List bw):Bool:=kC (kB bF aG aZ k aN hb aZ bF) z
theorem Ux{k:ag->List bw->List bw->aE->Bool}{P:List bw->Prop}{z:List bw}(h:HZ k z=M)(c:∀t a b p,k t a b p=M->P [.If t a b p]):P z:=lw (P:=P) h λx h=>lt (P:=λx=>P [x]) h dx aM bQ c aR mF bQ dx
def Ia(k:ag->List bw->aE->Bool)(z:List bw):Bool:=kC (kB bF aG aZ aN (λt b e p=>tj (k t b p) e) hb aZ bF) z
theorem Uy{k:ag->List bw->aE->Bool}{P:List bw->Prop}{z:List bw}(h:Ia k z=M)(c:∀t b p,k t b p=M->P [.While t b [] p]):P z:=lw (P:=P) h λx h=>lt (P:=λx=>P [x]) h dx aM bQ aR (λt b e p h=>Ab (P:=λe=>P [.While t b e p]) h<|c t b p) mF bQ dx
def Ac(k:ag->ag->List bw->aE->Bool)(z:List bw):Bool:=kC (kB bF aG aZ aN aN (λt a b e p=>tj (k t a b p) e) aZ bF) z
theorem Ib{k:ag->ag->List bw->aE->Bool}{P:List bw->Prop}{z:List bw}(h:Ac k z=M)(c:∀t a b p,k t a b p=M->P [.For t a b [] p]):P z:=lw (P:=P) h λx h=>lt (P:=λx=>P [x]) h dx aM bQ aR aR (λt a b e p h=>Ab (P:=λe=>P [.For t a b e p]) h<|c t a b p) bQ dx
def Ic(k:ag->aE->Bool)(z:List bw):Bool:=kC (kB bF aG aZ aN aN hb (λv p=>lu aq (λv=>k v p) v) bF) z
theorem Uz{k:ag->aE->Bool}{P:List bw->Prop}{z:List bw}(h:Ic k z=M)(c:∀v p,k v p=M->P [.Return (V v) p]):P z:=lw (P:=P) h λx h=>lt (P:=λx=>P [x]) h dx aM bQ aR aR mF (λv p h=>mG (P:=λv=>P [.Return v p]) h gC λv h=>c v p h) dx
def Id(k:aE->Bool)(z:List bw):Bool:=kC (kB bF aG aZ aN aN hb aZ k) z
theorem UA{k:aE->Bool}{P:List bw->Prop}{z:List bw}(h:Id k z=M)(c:∀p,k p=M->P [.Continue p]):P z:=lw (P:=P) h λx h=>lt (P:=λx=>P [x]) h dx aM bQ aR aR mF bQ c
def qA(e:ao):Bool:=ao.casesOn (motive:=λw=>Bool) e bF aq bF bF bF bF aq aG aG bF bF aZ aZ aG aZ aZ aZ aZ bF bF aq aq aN hb bF bF aZ aZ aZ aG aZ bF bF aZ aZ aG M aZ
theorem Ie{e:ao}(h:qA e=M):e=.d:=by delta e;ext h;cases e<;>first|rfl|exact absurd h cG
def iU(e:ag):Bool:=!(fP (λf a w=>f.ctorIdx==23&&a.isEmpty) e)
mutual noncomputable def df(j:cm):ao->ag->Bool|.b i,e=>ed (λn P=>j.zg i n) e|.G,e=>lv (λc P P=>wZ M c) e|.r b,e=>lv (λc P P=>HU (λy=>b==y) c) e|.f i,e=>lv (λc P P=>ti (λy=>i==y) c) e||wS (λo x P=>o==.USub&&lv (λc P P=>ti (λy=>i==-y) c) x) e|.p z,e=>lv (λc P P=>HV (λy=>z==y) c) e|.x k,e=>ed (λn P=>j.zc n&&((k==0&&n==("END":N))||(k==1&&n==("NONE":N)))) e|.H,e=>fP (λf s P=>ed (λn P=>ii (λa=>ed (λo P=>j.zd 4 n&&o==("OWN_TERMINALS":N)&&j.zc o) a) s) f) e|.h H l r,e=>HK (λx o y P=>H==o&&df j l x&&df j r y) e|.i H l r,e=>wT (λx o y P=>H==o&&df j l x&&df j r y&&!behindInMarks o y) e|.I y,e=>wT (λx o c P=>o==.IsNot&&lv (λc P P=>wZ (df j y x) c) c) e|.z y,e=>wS (λo x P=>o==.Not&&df j y x) e|.u l r,e=>wV (λo x y t P=>o==.And&&t.isEmpty&&df j l x&&df j r y) e|.t l r,e=>wV (λo x y t p=>o==.Or&&df j l x&&dl (df j r y) (λc t=>dl (df j r<|.BoolOp .Or [y,c] p) aZ t) t) e|.D t a b,e=>HM (λx y z P=>df j t x&&df j a y&&df j b z) e|.e y a,e=>jE (λv n P=>n==cY a&&aP (a<ek)&&iU v&&df j y v) e|.g y i,e=>qw (λv x P=>HI x&&df j y v&&df j i x) e|.A y i,e=>qw (λv x P=>HN (λu P=>df j y v&&df j i u) x) e|.F y i,e=>qw (λv x P=>HO (λu P=>df j y v&&df j i u) x) e|.n D,e=>mI (λl P P=>dS l&&UB j D l) e|.k D,e=>HP (λl P=>dS l&&UB j D l) e|.E,e=>wW (λP=>M) e|.y,e=>wW (λP=>M) e|.q t G B C,e=>wX (λy I i E A P=>ed (λx P=>ls j A [(t,x)]&&df j G i&&dl (qA B) (λc r=>dl (df (j.zb A [(t,x)]) B c) aZ r) E&&df (j.zb A [(t,x)]) C y) I) e|.B t u G B C,e=>wX (λy I i E A P=>mI (λl P P=>nY (λa b=>ed (λx P=>ed (λz P=>ls j A [(t,x),(u,z)]&&df j G i&&dl (qA B) (λc r=>dl (df (j.zb A [(t,x),(u,z)]) B c) aZ r) E&&df (j.zb A [(t,x),(u,z)]) C y) b) a) l) I) e|.s y,e=>fP (λf s P=>ed (λn P=>ii (λa=>j.zd 10 n&&dS [a]&&df j y a) s) f) e|.K y,e=>fP (λf s P=>ed (λn P=>ii (λa=>j.zd 11 n&&dS [a]&&df j y a) s) f) e|.l f w,e=>fP (λg s P=>ed (λn P=>lg.contains f&&n==pT f&&j.zc n&&dS s&&aP (s.length<20)&&UB j w s) g) e|.v K w,e=>fP (λg s P=>ed (λn P=>aP (K<7)&&n==sA K&&j.zc n&&dS s&&aP (s.length<20)&&UB j w s) g) e|.j b w,e=>fP (λg s P=>ed (λn P=>if b=.e then ii (λz=>fP (λh s P=>ed (λm P=>ii (λa=>j.zd 7 n&&j.zd 9 m&&dS [a]&&UB j w [a]) s) h) z) s else j.zd (wR b) n&&dS s&&aP (s.length<20)&&UB j w s) g) e|.m y m w,e=>fP (λg s p=>jE (λv n q=>ha n (cY m) q p&&aP (m<ek)&&iU v&&dS s&&aP (s.length<20)&&df j y v&&UB j w s) g) e|.o x y,e=>fP (λg s p=>jE (λv n q=>ii (λa=>ha n "append" q p&&iU v&&dS [a]&&df j x v&&df j y a) s) g) e|.M x y,e=>fP (λg s p=>jE (λv n q=>ii (λa=>ha n "extend" q p&&iU v&&dS [a]&&df j x v&&df j y a) s) g) e|.w x y,e=>fP (λg s p=>jE (λv n q=>ii (λa=>ha n "index" q p&&iU v&&dS [a]&&df j x v&&df j y a) s) g) e|.J x,e=>fP (λg s p=>jE (λv n q=>tg (ha n "pop" q p&&iU v&&df j x v) s) g) e|.L x,e=>fP (λg s p=>jE (λv n q=>ii (λa=>lv (λc P P=>ti (λi=>i==0&&ha n "pop" q p&&iU v&&df j x v) c) a) s) g) e|.N x k d,e=>fP (λg s p=>jE (λv n q=>nY (λa b=>ha n "get" q p&&iU v&&dS [a,b]&&df j x v&&df j k a&&df j d b) s) g) e|.d,_=>aq|.c _ _,_=>aq noncomputable def UB(j:cm):ao->List ag->Bool|.d,l=>tg M l|.c x L,l=>qy (λy r=>df j x y&&UB j L r) l|_,_=>aq end
def tl(e:ag):Bool:=e.ctorIdx !=25||mI (λa w w=>!(a.all<|constantsAlone 8)) e
noncomputable def Ad(e:ag):Bool:=e.ctorIdx !=9&&e.ctorIdx !=10
def UC(e:ag):Bool:=fP (λw w w=>M) e
noncomputable def Ae(g:cm):aW->List bw->Bool|.b a b,l=>HW (λx y r=>Ae g a [x]&&Ae g b (y::r)) l|.f,l=>tj M l||HX (λs=>M) l|.c i e,l=>oa (λt v s=>ed (λn s=>g.za i n&&df g e v&&Ad v) t) l|.l i j e,l=>oa (λt v s=>mI (λw s s=>nY (λa b=>ed (λn s=>ed (λm s=>g.za i n&&g.za j m&&i !=j&&n !=m&&tl v&&df g e v) b) a) w) t) l|.p i j k e,l=>oa (λt v s=>mI (λw s s=>HS (λa b c=>ed (λn s=>ed (λm s=>ed (λo s=>g.za i n&&g.za j m&&g.za k o&&i !=j&&i !=k&&j !=k&&n !=m&&n !=o&&m !=o&&tl v&&df g e v) c) b) a) w) t) l|.j o i e,l=>oa (λt v s=>qw (λa x s=>HI x&&df g o a&&df g i x&&df g e v) t) l|.h o a e,l=>oa (λt v s=>jE (λb n s=>n==cY a&&aP (a<ek)&&df g o b&&df g e v) t) l|.i e,l=>HY (λv s=>df g e v&&UC v) l|.g t a b,l=>HZ (λx y z s=>df g t x&&Ae g a y&&Ae g b z) l|.k t b,l=>Ia (λx y s=>df g t x&&Ae g b y) l|.d t d b,l=>Ac (λx i y s=>ed (λn s=>g.za t n&&df g d i&&Ae g b y) x) l|.m t u d b,l=>Ac (λx i y s=>mI (λw s s=>nY (λa c=>ed (λn s=>ed (λm s=>g.za t n&&g.za u m&&t !=u&&df g d i&&Ae g b y) c) a) w) x) l|.e e,l=>Ic (λv s=>df g e v) l|.n,l=>Id (λs=>M) l|.q,_=>M
section
variable{T:bf}{A:bo}{X a c:List ah}{H:J}{s b:al}{i j:Nat}{v u:ab}{Q:au}
theorem qB{o:Option aa}{a:List Int}(h:nR o=V a):o=V (.b<|a.map .b):=by delta o a;ext h;cases o with|none=>cases h|some o=>cases o<;>first|(cases h;done)|exact congrArg (λz=>V<|aa.b z)<|ln h
theorem UD{x:O}{a:List Int}(h:fn H x=V a):∃i,x=.a i/\H[i]?=V (.b<|a.map .b):=by delta H x a;ext h;cases x<;>first|(cases h;done)|exact ad _ rfl<|qB h
noncomputable def hE(a:List Int):PyData:=.tuple<|a.map Ma
theorem UE{c:List Int}{x:O}(R:ai T a H s.heap)(h:fn H x=V c)(b:ae a x v):∃d,Reads s.heap v (hE c) d:=by ext(_:UD h)i k j;subst k;ext(bt b)l g(bk:R.zd j g)m n e f w;exact⟨_,Reads.tuple e rfl rfl<|by simpa using readsAll_of_ints (ll f)⟩
theorem UF(R:ai T a H s.heap):∀{f:List O}{d:List ab}{c:List<|List Int},fK (fn H) f=V c->aQ (ae a) f d->∃i,ReadsAll s.heap d (c.map hE) i|[],d,c,h,e=>by simp[fK]at h;subst h;rw[e.zc];exact⟨_,.nil⟩|x::f,d,c,h,e=>by ext(bk:e.zb)b p g j k;subst g;unfold fK at h;cases q:fn H x with|none=>rw[q]at h;cases h|some t=>rw[q]at h;ext(_:jn.mp h)r l g-(aD:UE R q j)i m(aD:UF R l k)o n;exact⟨_,.cons m n⟩
theorem UG:∀a:List<|List Int,Mb (a.map hE)=M|[]=>by simp[Mb]|b::r=>by simp[Mb,hE,Mc,canLayAll0_ints,UG r]
theorem UH:∀b:List<|List Int,Md (b.map hE)<=5|[]=>by simp[Md]|a::r=>by have:=UH r;have:=W.depthAll_ints a;simp only[dm,Md,hE,Ej];exact Sk (by assumption) this
theorem qC(a:List<|List Int):SeqAt.shaped (.list<|a.map hE)=M:=by
 have b:=UH a;have c:Ej (.list<|a.map hE)<=64:=by simp only[Ej];exact an 0 5 1 64 b rfl
 show(Mc (.list<|a.map hE)&&aP (Ej (.list<|a.map hE)<=64))=M;rw[bA];exact⟨by simp only[Mc];exact UG a,decide_eq_true c⟩
theorem If(a:List<|List Int):PyData.eqv (.list<|a.map hE) (.list<|a.map hE)=M:=SeqAt.eqv_refl _<|SeqAt.canLay_of_shaped<|qC a
theorem tm{e:List O}{d:List<|List Int}{b:ah}(R:ai T a H s.heap)(k:H[i]?=V (.a e))(j:a[i]?=V b)(h:fK (fn H) e=V d):∃c,Reads s.heap (.ref b) (.list<|d.map hE) c:=by ext(bk:R.za k j)l n f g w(aD:UF R h g)c r;exact⟨_,Reads.list f rfl rfl r⟩
theorem UI{e f:List O}(p:A.units+64<iy)(R:ai T a H s.heap)(d:ae a (.a i) v)(c:ae a (.a j) u)(n:H[i]?=V (.a e))(o:H[j]?=V (.a f))(h:sU H e f)(q:Q (.d M) H):aU T A X a s (dj .Eq v u) Q:=by ext(bt d)w l(bt c)b m(h)z g k(aD:tm R n l g)x r(aD:tm R o m k)y t;refine SeqAt.compareEq_shaped r t (qC _) (qC _) p ?_;rw[If];exact cK (x:=.d M) R rfl q
theorem UJ{e f:List O}(p:A.units+64<iy)(R:ai T a H s.heap)(d:ae a (.a i) v)(c:ae a (.a j) u)(n:H[i]?=V (.a e))(o:H[j]?=V (.a f))(h:sU H e f)(q:Q (.d aq) H):aU T A X a s (dj .NotEq v u) Q:=by ext(bt d)w l(bt c)b m(h)z g k(aD:tm R n l g)x r(aD:tm R o m k)y t;refine SeqAt.compareNe_shaped r t (qC _) (qC _) p ?_;rw[If];exact cK (x:=.d aq) R rfl q
end
section
variable{b:dV}{w:bX}{K:Type}[DecidableEq K]{a:HeapKind b w K}{A:bo}{E:ab->al->Prop}{s:al}
theorem Ig{c1:String}{n g:ah}{f r:List<|K×ah×ab}{Q:Bool->al->Prop}(b8:a.room A)(a3:(n==pg)=aq)(a4:(g==pg)=aq)(I:s.heap.DictOfH a n f)(L:s.heap.DictOfH a g r)(b2:f.length=r.length)(b0:∀x∈f,∃(k:Int)(a1 u:kf)(c:ah),x.2.2=.int k a1/\lW r x.1=V (c,.int k u))(h:Q M s):av (ax b w) A (T1 c1 n g) Q E s:=by
 ext(@jv I)c7 d c2 p _ o P a8 c6(@jv L)c8 t c3 C _ v z a9 X;have S:f.length=d.size:=by rw[<-hq,P,bC]
 have b3:r.length=t.size:=by rw[<-hq,z,bC]
 unfold T1 Me;rw[if_neg<|show¬(n==pg)=M by rw[a3];exact cG,if_neg<|show¬(g==pg)=M by rw[a4];exact cG];refine af<|aC<|af<|aC ?_;refine af<|ns p o ?_;dsimp only;refine af<|ns C v ?_;have b7:d.size=t.size:=by rw[<-S,<-b3,b2]
 rw[if_neg<|by rw[b7];simp];refine af<|uH p o ?_;refine af ?_;rw[Std.Legacy.Range.forIn_eq_forIn_range'];simp only[Std.Legacy.Range.size,T2,Nat.add_sub_cancel,Nat.div_one];refine wpAny_forIn_list _ (λD q G=>G=s/\q=(U,())/\∃i,D=T3 i (d.size-i)/\i<=d.size) _ ?_ ?_ _ _<|aI rfl rfl<|ad 0 (by simp)<|fd _
 .ext x D q G l(vA l)H m;subst H;ext(m)i j a7
  have B:i<d.size:=by
   rcases nt i d.size with h|h;.exact h
   .rw[Q5 h]at j;simp at j
  obtain⟨rfl,b6⟩:x=i/\D=T3 (i+1) (d.size-(i+1)):=by
   have a2:d.size-i=(d.size-(i+1))+1:=by exact Sl B
   rw[a2,List.range'_succ]at j;injection j with c4 c5;exact⟨c4,c5⟩
  refine af<|ns p o ?_;have b4:x<f.length:=by rw[S];exact B
  obtain⟨y,a0⟩:∃y,f[x]?=V y:=⟨_,cu b4⟩;have a6:d[x]?=V (uD a y):=by rw[<-lX,P,dN,a0];rfl
  have T:=bs a0;ext(EZ:b0 y T)k a1 u c b9 e;have b1:=a8 y T;rw[a6];dsimp only;show av _ _ (Ek [_,_] _>>=_) _ _ _;refine af<|eh<|af ?_;show av _ _ (dictFind g (.ref y.2.1)<|a.hash y.1) _ _ _;refine wpAny_dictFind_heap b8 b1 C v z a9 X (λb5=>?_) λc0 c9 R=>?_;.rw[atKey_none_of_get b5]at e;exact cn e
  .rw[atKey_of_get X R]at e;have e:=bj e;subst e;refine af<|ns C v ?_;have a5:t[c0]?=V (uD a (y.1,c,.int k u)):=by rw[<-lX,z,dN,R];rfl
   rw[a5];dsimp only[uD];rw[b9];refine eh<|Mf ?_;rw[beq_self_eq_true];show av _ _ (if(!M)=M then _ else _) _ _ _;rw[if_neg<|by decide];refine af<|uH p o ?_;rw[if_neg<|by simp];exact aC<|aI rfl rfl<|ad (x+1) b6 B
 .ext q G l(vA l)H m;subst H;ext(m)i j a7;exact aC h
end
section
variable{T:bf}{A:bo}{X a c:List ah}{H:J}{s b:al}{i j:Nat}{v u:ab}{Q:au}
theorem Ih{b:List<|List Int×Nat×O}{c:List<|List Int×ah×ab}(h:aQ (gW a) b c){k:List Int}{x:O}(e:dp b k=V x):∃p,lW c k=V p/\ae a x p.2:=by have:=sP h k;rw[e]at this;exact this
theorem UK{n m:Nat}{p q:List<|List Int×Nat×O}(w:A.units+2<iy)(R:ai T a H s.heap)(y:ae a (.a i) v)(g:ae a (.a j) u)(G:H[i]?=V (.d n p))(I:H[j]?=V (.d m q))(h:qf p q)(a1:Q (.d aq) H):aU T A X a s (dj .NotEq v u) Q:=by
 ext(bt y)o r(bt g)b t(bd:R.zg G r)a5 f z _(bd:R.zg I t)a6 l B _;refine T4 (op:=.NotEq) f.typeIs l.typeIs T5 (go T5 f.typeIs PySem.F.entry_dict_ne ?_<|PySem.F.args_dict_ne_2 _ _) (by exact an 3 0 1 0 w rfl);show av _ _ (El "__ne__" ⟨[.ref o,.ref b],[]⟩>>=_) _ _ s;refine af ?_;unfold El;refine af<|Em f.typeIs ?_;show av _ _ (bv (fB o,fB b)) _ _ s;refine aC ?_;refine af<|uI (T:="dict") l.typeIs T6 ?_;simp only[pj,fi,if_false];refine af<|aC<|af<|aC ?_;refine af<|Ig (a:=T.za) (A:=A.in1) (show T.za.room A.in1 from(by exact an 3 0 2 0 w rfl:A.units+1<cLine)) (R.ze r) (R.ze t) f l (by rw[<-z.za,<-B.za];exact h.1) ?_ ?_;.ext x P(fG:z.zg x P)e D S a3 d(_:h.2 e D)k K E;rw[K]at d;ext(@aD d)a2 d(_:Ih B E)a0 L C(@aD C)u g;obtain⟨c,a4⟩:=a0;cases g;exact sp k a2 u c d (by rw[S];exact L)
 .refine aC<|aT _ rfl ?_ ?_;.exactλx=>nomatch x
  .exact cK (x:=.d aq) R rfl a1
theorem UL{n m:Nat}{p q:List<|List Int×Nat×O}(w:A.units+2<iy)(R:ai T a H s.heap)(y:ae a (.a i) v)(g:ae a (.a j) u)(G:H[i]?=V (.d n p))(I:H[j]?=V (.d m q))(h:qf p q)(a1:Q (.d M) H):aU T A X a s (dj .Eq v u) Q:=by
 ext(bt y)o r(bt g)b t(bd:R.zg G r)a5 f z _(bd:R.zg I t)a6 l B _;refine T4 (op:=.Eq) f.typeIs l.typeIs T7 (go T7 f.typeIs PySem.F.entry_dict_eq ?_<|PySem.F.args_dict_eq_2 _ _) (by exact an 3 0 1 0 w rfl);show av _ _ (El "__eq__" ⟨[.ref o,.ref b],[]⟩>>=_) _ _ s;refine af ?_;unfold El;refine af<|Em f.typeIs ?_;show av _ _ (bv (fB o,fB b)) _ _ s;refine aC ?_;refine af<|uI (T:="dict") l.typeIs T6 ?_;simp only[pj,fi,if_false];refine af<|aC<|af<|aC ?_;refine af<|Ig (a:=T.za) (A:=A.in1) (show T.za.room A.in1 from(by exact an 3 0 2 0 w rfl:A.units+1<cLine)) (R.ze r) (R.ze t) f l (by rw[<-z.za,<-B.za];exact h.1) ?_ ?_;.ext x P(fG:z.zg x P)e D S a3 d(_:h.2 e D)k K E;rw[K]at d;ext(@aD d)a2 d(_:Ih B E)a0 L C(@aD C)u g;obtain⟨c,a4⟩:=a0;cases g;exact sp k a2 u c d (by rw[S];exact L)
 .refine aC<|aT _ rfl ?_ ?_;.exactλx=>nomatch x
  .exact cK (x:=.d M) R rfl a1
end
section
variable{T:bf}{A:bo}{X c e:List ah}{H I:J}{s f:al}{a b:O}{v u:ab}{Q:au}{d:Nat}
theorem eX{t:cN ab}(j:bg X c s e f)(h:aU T A X e f t Q):av (ax T.b T.a) A t (fl T X c s Q) (λw w=>False) f:=ba h (λw w h=>bk h λk d a b g=>bu k d (j.za a) b g) λw w i=>i
theorem Af{v:ab}{d:al}(j:bg X c s e f)(h:fl T X e f Q v d):fl T X c s Q v d:=bk h λk g a b i=>bu k g (j.za a) b i
theorem lx{a:Type}[DecidableEq a](b:List a)(k:a):b.any (·==k)=aP (k∈b):=by rw[T8];simp only[En,beq_iff_eq,decide_eq_true_eq];exact⟨λc=>Y c λx h e=>e▸h,λh=>ad k h rfl⟩
theorem UM{g:hp}(R:ai T c H s.heap)(f:ae c a v)(d:ae c b u)(h:gb g a b H Q):aU T A X c s (ix g v u) Q:=by
 refine ga h f (λw h w=>h.elim) (λx h f=>fm h d λy h d=>?_) (λw h w=>h.elim) λi h f=>ga h d (λw h w=>h.elim) (λk h d=>?_) (λw h w=>h.elim) λj h d=>?_;.cases g with|Add=>exact ST R f d h|Sub=>exact SU R f d h|Mult=>exact SV R f d h.1 h.2|Mod=>exact SX R f d h.1 h.2|Pow=>exact SY R f d h.1 h.2.1 h.2.2|LShift=>exact SZ R f d h.1 h.2.1 h.2.2.1 h.2.2.2|RShift=>exact Ta R f d h.1 h.2|BitOr=>exact Tc R f d h|BitAnd=>exact Tb R f d h|FloorDiv=>exact SW R f d h.1 h.2.1 h.2.2|_=>exact h.elim
 .cases g with|Mult=>ext(eJ:h)n e h(_:qd h)x o h;subst o;exact TN R f d e h.1 h.2.1 h.2.2|_=>exact h.elim
 .cases g with|Add=>exact eJ h λn l h=>eJ h λp m h=>Tl R f d l m (by rw[dk];exact h.1) h.2|_=>exact h.elim
theorem UN(l:dw A d)(R:ai T c H s.heap)(f:ae c a v)(e:ae c b u)(h:iR a b H λl=>Q (.d l) H):aU T A X c s (dj .Eq v u) Q:=by have o:=l.za;refine ga h f (λz h z=>h.elim) (λx h f=>fm h e λy h e=>Te R f e h) (λx h f=>wr h e λy h e=>Tj R f e h) λi h f=>eI h e λj h e=>?_;refine fM h (λw g h=>eJ h λp k h=>?_) (λz z h=>h.elim) (λz z z h=>h.elim) λn q g h=>mB h λm t k h=>UL (by exact GH o) R f e g k h.2.1 h.2.2;cases p with|nil=>exact TM (by exact Ss o) R f e g k h|cons y r=>exact UI (by exact GI o) R f e g k h.2.1 h.2.2
theorem UO(l:dw A d)(R:ai T c H s.heap)(f:ae c a v)(e:ae c b u)(h:iR a b H<|mC λl=>Q (.d l) H):aU T A X c s (dj .NotEq v u) Q:=by have o:=l.za;refine ga h f (λz h z=>h.elim) (λx h f=>fm h e λy h e=>Tf R f e h) (λx h f=>wr h e λy h e=>Tk R f e h) λi h f=>eI h e λj h e=>?_;refine fM h (λw g h=>eJ h λp k h=>?_) (λz z h=>h.elim) (λz z z h=>h.elim) λn q g h=>mB h λm t k h=>UK (by exact GH o) R f e g k h.2.1 h.2.2;cases p with|nil=>exact TL (by exact pS o) R f e g k h|cons y r=>exact UJ (by exact GI o) R f e g k h.2.1 h.2.2
theorem UP(m:dw A d)(R:ai T c H s.heap)(f:ae c a v)(l:ae c b u)(h:iQ a b H λm=>Q (.d m) H):aU T A X c s (dj .In v u) Q:=by
 have t:=m.za;refine eI h l λi h l=>ga h f (λy h y=>h.elim) (λk h f=>?_) (λz h f=>?_) λj h f=>?_
 .refine fM h (λp e h=>dv h λo g h=>?_) (λp e h=>dv h λo g h=>?_) (λn r e h=>TV R f l e h) λy y y h=>h.elim;.rw[ln g]at e;exact TA R f l e (by rw[lx];exact h)
  .rw[ln g]at e;exact TG R f l e (by rw[lx];exact h)
 .refine fM h (λp e h=>dv h λo g h=>?_) (λp e h=>dv h λo g h=>?_) (λy y y h=>h.elim) λy y y h=>h.elim;.rw[nO g]at e;exact TD R f l e (by rw[lx];exact h)
  .rw[nO g]at e;exact TF R f l e (by rw[lx];exact h)
 .exact dv h λw q h=>mB h λn r g h=>Ue (by exact pS t) R f (qB q) l g h
theorem UQ(m:dw A d)(R:ai T c H s.heap)(f:ae c a v)(l:ae c b u)(h:iQ a b H<|mC λm=>Q (.d m) H):aU T A X c s (dj .NotIn v u) Q:=by
 have t:=m.za;refine eI h l λi h l=>ga h f (λy h y=>h.elim) (λk h f=>?_) (λz h f=>?_) λj h f=>?_
 .refine fM h (λp e h=>dv h λo g h=>?_) (λp e h=>dv h λo g h=>?_) (λn r e h=>TW R f l e h) λy y y h=>h.elim;.rw[ln g]at e;exact TB R f l e (by rw[lx];exact h)
  .rw[ln g]at e;exact TC R f l e (by rw[lx];exact h)
 .refine fM h (λp e h=>dv h λo g h=>?_) (λp e h=>dv h λo g h=>?_) (λy y y h=>h.elim) λy y y h=>h.elim;.rw[nO g]at e;exact TE R f l e (by rw[lx];exact h)
  .rw[nO g]at e;exact TH R f l e (by rw[lx];exact h)
 .exact dv h λw q h=>mB h λn r g h=>Uf (by exact pS t) R f (qB q) l g h
theorem Ii{i:fg}(g:dw A d)(R:ai T c H s.heap)(f:ae c a v)(e:ae c b u)(h:gc i a b H λg=>Q (.d g) H):aU T A X c s (dj i v u) Q:=by cases i with|Eq=>exact UN g R f e h|NotEq=>exact UO g R f e h|Lt=>exact fm h f λx h f=>fm h e λy h e=>Tg R f e h|Gt=>exact fm h f λx h f=>fm h e λy h e=>Th R f e h|GtE=>exact fm h f λx h f=>fm h e λy h e=>Ti R f e h|In=>exact UP g R f e h|NotIn=>exact UQ g R f e h|_=>exact h.elim
theorem UR(p:dw A d)(R:ai T c H s.heap)(l:ae c a v)(g:ae c b u)(h:jD a b H Q):aU T A X c s (jl v u) Q:=by
 have w:=p.za;refine eI h l λi h l=>ga h g (λz h z=>h.elim) (λk h g=>?_) (λz h z=>h.elim) λj h g=>dv h λy e h=>mB h λn t r h=>dv h λx f q=>Ug (by exact pS w) R l g (qB e) r f q;refine fM h (λm e h=>?_) (λm e h=>dv h.2 λx f q=>Tw R l g e h.1 f q) (λn t e h=>dv h λx f q=>TX R l g e f q) λz z z h=>h.elim;by_cases o:k=-1;.subst o;ext(dv:h)x f q;have:=gy f;exact Tx R l g e (by decide) (by exact St this) (by rw[show(-1+(m.length:Int)).toNat=m.length-1 by exact Su];exact f) q
 .rw[if_neg o]at h;exact dv h.2 λx f q=>Tv R l g e h.1 f q
theorem ai.zu{i:Nat}{f:List O}{g:ah}(R:ai T c H s.heap)(b:H[i]?=V (.a f)\/H[i]?=V (.g f))(j:c[i]?=V g):∃a,s.heap.IsList g a/\aQ (ae c) f a.toList:=by
 rcases b with b|b;.ext(co:R.za b j)a n d e h w;exact ad a d.isList e
 .ext(fG:R.zi b j)l d o m k(@bp k)a n e h;exact ad a (aT l d m ⟨n,e⟩) h
def qD(s:al)(v:ab):Prop:=∃a b,s.TypeIs v a/\uJ (.type a) "__getitem__"=bv (V<|.builtin b)
theorem ai.zq{i:Nat}{b:List O}(R:ai T c H s.heap)(a:ae c (.a i) v)(e:H[i]?=V (.a b)\/H[i]?=V (.g b)):qD s v:=by ext(bt a)j h(_:R.zu e h)k d w(@bd d)o f g w;exact bK ("list") _ (ad _ f g) slot_list_getitem.lookup
theorem ai.zy{i:Nat}{f:List O}(R:ai T c H s.heap)(a:ae c (.a i) v)(e:H[i]?=V (.b f)):qD s v:=by ext(bt a)g d;exact co (R.zd e d) λh n b w w w=>bK ("tuple") _ (ad _ b rfl) Mg.lookup
theorem US(R:ai T c H s.heap)(d:ae c a v)(l:ae c b u)(h:jD a b H Q):qD s v:=by
 refine eI h d λi h d=>ga h l (λz h z=>h.elim) (λk h l=>?_) (λz h z=>h.elim) λj h l=>dv h λw e h=>mB h λn q p h=>?_;.refine fM h (λt e h=>R.zq d<|.inl e) (λt e h=>R.zy d e) (λn q e h=>?_) λz z z h=>h.elim;ext(d)o g m-;exact Y (R.zf e g) λr f z=>bK ("dict") _ f.dictOf.typeIs T9.lookup
 .ext(d)o g m-;exact bd (R.zg p g) λr f z z=>bK ("dict") _ f.typeIs T9.lookup
theorem UT{w:ab}{x:O}{Q:J->Prop}(p:dw A d)(R:ai T c H s.heap)(l:ae c a v)(f:ae c b u)(m:ae c x w)(h:mD a b x H Q):eW T A X c s (Ed v u w) λB e I B=>e=c/\Q I:=by have t:=p.za;refine eI h l λi h l=>ga h f (λB h B=>h.elim) (λk h f=>?_) (λB h B=>h.elim) λj h f=>dv h λy g h=>mB h λn r q h=>Uh (by exact pS t) R l f (qB g) m q h.1 λB o=>⟨rfl,h.2 o⟩;exact fM h (λz g h=>Ty R l f m g h.1 h.2.1 λB=>⟨rfl,h.2.2⟩) (λB B h=>h.elim) (λn r g h=>TY R l f m g h.1 λB o=>⟨rfl,h.2 o⟩) λB B B h=>h.elim
theorem UU{Q:Bool->Prop}(R:ai T c H s.heap)(b:ae c a v)(h:iS a H Q):eW T A X c s (truthy v) λg e I w=>e=c/\I=H/\Q g:=by
 delta T A X c H s a v Q;ext R b h;refine ga h b (λx h b=>?_) (λw h w=>h.elim) (λw h w=>h.elim) λi h b=>eJ h λf m q=>?_;.cases b;exact Eo<|jw c H .zc R rfl rfl h
 .ext(b)t l p-;refine co (R.za m l) λo n j u d k=>wpAny_truthy_list j.isList (jx (aj (kb d) k) rfl)<|jw c H (.ze _) R rfl rfl ?_;have:o.isEmpty=f.isEmpty:=by cases f with|nil=>simp at d;simp[d]|cons x r=>simp only[Array.isEmpty,d];rfl
  rw[this];exact q
end
theorem Ij:∀a,a<ek->∀b,b<ek->cY a=cY b->a=b:=by decide+kernel
section
variable{T:bf}{A:bo}{X c e:List ah}{H I:J}{s f:al}{a b:O}{v u:ab}{Q:au}{d:Nat}
theorem Ik{v:ab}{n:N}{t:kf}(h:v=.str n t)(m:N):v.isStr m=(n==m):=by subst h;rfl
theorem Il{d:List<|Nat×O}{a:List jk}(h:aQ (mw c) d a):a.any (·.refKey)=aq:=by induction h with|b=>rfl|a r t f=>ext(@ac r)b w(@aD b)g e;simp only[Eg,f,U0];simp[DictEntry.refKey,e]
theorem Im{d:List<|Nat×O}{b:List jk}(h:aQ (mw c) d b)(g:∀f∈d,f.1<ek){a:Nat}(i:a<ek):match d.lookup a with|V x=>∃w,getL (cY a) b=V (V w)/\ae c x w|U=>getL (cY a) b=V U:=by
 delta c d b a at h g i
 have s:∀{d:List<|Nat×O}{b:List jk},aQ (mw c) d b->(∀f∈d,f.1<ek)->match d.lookup a with|V x=>∃e,b.find? (·.key.isStr (cY a))=V e/\ae c x e.val|U=>b.find? (·.key.isStr (cY a))=U:=by
  ext d b h
  induction h with
  |b=>ext C;rfl
  |@a f e d b r t p=>
   ext g(@ac r)j o(@aD j)B n;rw[kh,kU,Ik n];by_cases q:a=f.1;.subst q;simp only[beq_self_eq_true];exact ad _ rfl o
   .have v:(cY f.1==cY a)=aq:=by rw[beq_eq_false_iff_ne];exactλz=>q (Ij _ (g f<|.head _) _ i z).symm
    have y:(a==f.1)=aq:=by rw[beq_eq_false_iff_ne];exact q
    rw[v,y];exact p λf m=>g f<|.tail _ m
 have u:b.any (·.refKey)=aq:=Il h;have:=s h g;unfold getL;cases e:d.lookup a with|some x=>rw[e]at this;ext(this)A k l;rw[k];exact ad _ rfl l|none=>rw[e]at this;rw[this,u];rfl
theorem ai.zr{i b d:Nat}{a:List<|Nat×O}{j:ah}(R:ai T c H s.heap)(r:H[i]?=V (.e b d))(q:H[d]?=V (.c a))(p:c[i]?=V j):b<7/\∃g e n,c[d]?=V g/\s.heap.get? g=V (dictOf e n)/\InstAt s.heap j (uE (T.e b) g) (T.e b) (V<|dictOf e n)/\aQ (mw c) a e/\(∀f∈a,f.1<ek)/\a.length<=100/\(a.map (·.1)).Nodup:=by delta T c H s i b d a j;ext R r q p(bd:R.zi r p)x t w h(h)g l k-(fG:R.zi q l)y m u o h(@bp h)e n k v;subst k;exact⟨w,pI g e n l m ⟨t,rfl,rfl,m⟩ v o.2 o.1 u⟩
theorem UV{x:O}{w:ab}(h:ae c x w):handedIn w=M:=by cases x with|e=>cases h;rfl|d b=>cases h;rfl|b i=>ext(bz h)t;rfl|c z=>ext(bz h)t;rfl|a i=>ext(bt h)a y;rfl|f a=>cases h;rfl
theorem UW{b:Nat}{e:Bool}(k:b<ek)(R:ai T c H s.heap)(d:ae c a v)(h:cS a b H Q):aU T A X c s (getAttr v (cY b) e) Q:=by refine eI h d λi h d=>wu h λg D r h=>wv h λP t h=>dv h.2 λa3 u q=>?_;have w:=h.1;ext(d)C x f-(ac:R.zr r t x)l f(@jv f)G E n K L I m o _;have:=Im m o k;rw[u]at this;ext(this)a2 p j(ei:R.a.c g l)z B a0 a1(ac:R.a.f g b l k w)y S;exact get_value R.zb I (Mh z).1 (findObj_own B y rfl p) (UV j)<|dn R j q
theorem Io{a:List<|Nat×O}{d:List jk}(h:aQ (mw c) a d)(k:∀f∈a,f.1<ek)(j:(a.map (·.1)).Nodup){b:Nat}(p:b<ek){x:O}{w:ab}(l:ae c x w)(v:Int)(m:kf):aQ (mw c) (fN a b x)<|putL (cY b) v (.str (cY b) m) w d:=by
 induction h with
 |b=>exact .a ⟨⟨m,rfl⟩,l⟩ .b
 |@a f e a d r t A=>
  ext(@ac r)o y(@aD o)n i;unfold putL;rw[Ik i];simp only[dm,gR]at j;by_cases q:f.1=b
  .subst q;simp only[beq_self_eq_true,if_true];have:fN (f::a) f.1 x=(f.1,x)::a:=by unfold fN;rw[if_pos<|by simp];rw[dm,if_pos rfl];congr 1;have:∀g∈a,(if g.1=f.1 then(f.1,x)else g)=g:=λg u=>if_neg λ(z:g.1=f.1)=>j.1<|z▸jo u;rw[jp this];exact List.map_id' _
   rw[this];exact .a ⟨⟨n,i⟩,l⟩ t
  .have B:(cY f.1==cY b)=aq:=by rw[beq_eq_false_iff_ne];exactλz=>q<|Ij _ (k f<|.head _) _ p z
   rw[B];have:fN (f::a) b x=f::fN a b x:=by unfold fN;simp only[Eg,q,decide_false,LY,dm,if_false];split<;>rfl
   rw[this];exact .a ⟨⟨n,i⟩,y⟩<|A (λf s=>k f<|.tail _ s) j.2
theorem UX{b:List<|Nat×O}{a:Nat}{x:O}(e:∀f∈b,f.1<ek)(d:a<ek):∀f∈fN b a x,f.1<ek:=by
 delta b a x;ext e d f c;unfold fN at c;split at c
 .ext(_:bY.mp c)g i j-;split;.exact d
  .exact e g i
 .rcases bU.mp c with h|h;.exact e f h
  .simp at h;subst h;exact d
theorem UY{b:List<|Nat×O}{a:Nat}{x:O}:(fN b a x).map (·.1)=if b.any (λf=>f.1=a)then b.map (·.1)else b.map (·.1)++[a]:=by
 unfold fN;split
 .rw[uK];refine jp λf w=>?_;show(if f.1=a then(a,x)else f).1=f.1;split;.rename_i h;exact h.symm
  .rfl
 .simp
theorem UZ{c:List<|Nat×O}{i:Nat}{x:O}(g:(c.map (·.1)).Nodup):((fN c i x).map (·.1)).Nodup:=by
 rw[UY];split;.exact g
 .rename_i h;rw[ff];refine aI g (by simp) ?_;ext a j b d e;simp at d;subst d;subst e;ext(_:bY.mp j)f k l-;exact h<|En.mpr<|ad f k (by simp)
theorem Ip{a:List<|Nat×O}{b:Nat}{x:O}:(fN a b x).length<=a.length+1:=by unfold fN;split<;>simp
theorem Va{d:Nat}{w:ab}{x:O}{Q:J->Prop}(f:d<ek)(R:ai T c H s.heap)(i:ae c a v)(y:ae c x w)(h:mE a d x H Q):eW T A X c s (setAttr v (cY d) w) λ_ e I _=>e=c/\Q I:=by
 revert T A X c H s a v d w x Q;ext@T@A@X@c@H@s@a@v@d@w@x@Q f R i y h;refine eI h i λb7 h i=>wu h λo b4 a2 h=>wv h λu D h=>?_;ext(@bD h)E a3 b1(i)b2 a6 m-(ac:R.zr a2 D a6)G m(@Ng m)a0 p b9 C k n l q b5 r(ei:R.a.c o G)c0 a8 a9 b0(ac:R.a.f o d G f a3)b8 a7;have b6:p.length=u.length:=l.za.symm;obtain⟨K,g,B,t,P⟩:=s;refine set_plain R.zb n b0 ?_;refine osa_open (s:=⟨K,g,B,t+1,P⟩) R.zb n a9 a7 λb=>?_;ext(_:any_some (show(clsIn T.d<|T.e o).any (·.hasDict)=M from a8))b3 a4 a5;have L:=n.at_;have z:=R.zb;dsimp only at L k z;refine af<|aC<|af<|af<|wpAny_loadPart L<|af<|(looks_clsIn z a4).here ?_;rw[a5];refine aC (a:=V a0)<|af<|aC<|af ?_;unfold nsSet;refine af<|af<|Ep<|aC<|af<|wpAny_mkText<|af<|wpAny_loadPart k ?_;have S:(!p.toArray.any (·.key.isStr (cY d))&&p.toArray.any (·.refKey))=aq:=by rw[U1,U1,Il l,Bool.and_false]
 dsimp only;rw[aRefKeyMayBeTheName_at,S];have j:=lU (Obj.putName (cY d) (U2 T.a.params<|cY d) (.str (cY d)<|t+1) w) k (by rw[putName_dict];rfl);rw[putName_dict]at j;ext(wpAny_updatePart:k);refine af<|wpAny_lookBehind j (pastItsLine_dict ?_) ?_;.have:=(Io l q r f y (U2 T.a.params<|cY d)<|t+1).za;have:=@Ip u d x;rw[Ec,dk];exact Sw E (by assumption) this
 .refine aC<|eD c _ (pZ (s:=⟨K,g,B,t,P⟩) C (hS ..) ⟨_,j⟩) (R.zl D C (λ_ a1=>by cases a1) (hS ..) j ?_) rfl b1;exact aI (UZ r) ⟨by have:=@Ip u d x;exact aA 0 1 0 50 0 100 this E rfl,UX q f⟩<|bK _ _ rfl<|Io l q r f y _ _
end
structure cL(T:bf)(A:bo)(k:Nat)(h:cl)(f:cD)(g:cm):Prop where
 a:ih h f
 b:dw A<|k+1
 d:g.b=h.scope.names
 c:g.a.length=f.length
 e:∀(i:Nat)n,g.a[i]?=V (V n)->∃j,f[i]?=V (V (n,j))
def kD(T:bf)(d f:Nat)(b:List O)(H:J)(Q:au):Prop:=∀A X s a,dw A d->ai T X H s.heap->aQ (ae X) b a->f<fk->hT (ax T.b T.a) A (.call (.ref<|T.f f) ⟨a,[]⟩) (λr u=>match r with|.ok (.ret v)=>fl T [] X s Q v u|_=>False) s
theorem kD.za{T:bf}{d f:Nat}{b:List O}{H:J}{Q:au}(h:kD T d f b H Q){A:bo}{X:List ah}{s:al}{a:List ab}(c:dw A d)(R:ai T X H s.heap)(i:aQ (ae X) b a)(g:f<fk):aU T A [] X s (bT (.ref<|T.f f) a []) Q:=Mi (rP (h A X s a c R i g) λr u h=>by cases r with|error e=>exact h.elim|ok f=>cases f<;>first|exact h|exact h.elim)
theorem Vb:∀i,i<12->(aF (mv i)==("__debug__":N))=aq:=by decide+kernel
section
variable{T:bf}{A:bo}{X e h:List ah}{H I:J}{s i:al}{a b:O}{v u:ab}{Q:au}{d:Nat}{c:cl}{f:cD}{g:cm}{r:am}
theorem cL.za{n:N}(B:cL T A d c f g)(h:g.zc n=M):c.kindOf n=V .globalImplicit:=by unfold cm.zc at h;rw[B.d]at h;exact beq_iff_eq.mp h
theorem qE{n:N}{w:ab}{j:aE}{P E:ab->al->Prop}(B:cL T A d c f g)(R:ai T e H s.heap)(b:g.zc n=M)(i:T.g n=V w)(h:P w s)(a:(n==("__debug__":N))=aq):av (ax T.b T.a) A (ca (.Name n j) c) P E s:=U3 B.a.a (B.za b) (Calls.loadGlobal_global (mg:=T.g) (by rw[B.a.d];exact R.a.d.keeps R.b) i h) a
theorem ob{n:N}{i:Nat}{o:aE}{P E:ab->al->Prop}(B:cL T A d c f g)(R:ai T e H s.heap)(l:i<12)(k:g.zd i n=M)(h:P (hB i) s):av (ax T.b T.a) A (ca (.Name n o) c) P E s:=by unfold cm.zd at k;ext(ac:dB.mp k)a m;have a:=beq_iff_eq.mp a;ext(ac:R.a.k i l)b j;rw[<-a]at b j;refine U3 B.a.a (B.za m) (Calls.loadGlobal_builtin (mg:=T.g) (mb:=T.i) (by rw[B.a.d];exact R.a.d.keeps R.b) b (by rw[B.a.f];exact R.a.i.keeps R.b) j h) ?_;rw[a];exact Vb i l
theorem Iq{o:ag}{b:N}{c:cl}{a:cN ab}(h:iU o=M):attributeBase o b c a=a:=by
 delta o b c a;ext h;cases o<;>first|rfl|skip
 rename_i f d e p;cases f<;>first|rfl|(cases d<;>first|rfl|(cases e<;>first|rfl|exact absurd h cG))
theorem qF{e:ag}{r:List ag}(h:dS (e::r)=M):eR (e::r) c=(aq,ca e c)::eR r c/\dS r=M:=by delta c e r;ext h;refine ac (dB.mp h) λh a=>⟨?_,a⟩;cases e<;>first|rfl|exact absurd h cG
theorem Ir{a:aE}:∀{r:List ag},dS r=M->(fD a<|eR r c).any (·.1)=aq|[],_=>rfl|e::r,h=>by ext(ac:qF (c:=c) h)b d;rw[b];show(aq||(fD a<|eR r c).any (·.1))=aq;rw[Ir d];rfl
theorem qG{f:ab}{d:List ab}{a:List ag}{b:aE}{P E:ab->al->Prop}(o:dS a=M)(g:∀h,T.d.In h->∃k,(k=U4\/k=U5\/k=U6)/\Looks (ax T.b T.a) h (keeperOf f) k)(h:av (ax T.b T.a) A (pk<|fD b<|eR a c) (λq j=>T.d.In j.heap/\av (ax T.b T.a) A (bT f (d++q) []) P E j) E s):av (ax T.b T.a) A (rQ b f d (fD b<|eR a c) []) P E s:=by cases a with|nil=>ext l p i;exact callWith_of (first:=d) (P:=T.d.In) rfl g (evalArgs_nil3<|h l p i) l p i|cons e r=>ext(ac:qF (c:=c) o)m n;rw[m]at h⊢;exact callWith_of (by show((aq||(fD b<|eR r c).any (·.1))||aq)=aq;rw[Ir n];rfl) g<|Calls.evalArgs_plain h
theorem tn{f:ab}(h:∀a,f≠.ref a):∀b,T.d.In b->∃k,(k=U4\/k=U5\/k=U6)/\Looks (ax T.b T.a) b (keeperOf f) k:=by ext b w;refine ad .machine (.inr<|.inl rfl)<|Looks.of_pure ?_;cases f<;>first|rfl|exact absurd rfl<|h _
def Ag(T:bf)(A:bo)(X e:List ah)(s:al)(t:cN<|List ab)(Q:List O->J->Prop):Prop:=eW T A X e s t λb h I w=>∃a,aQ (ae h) a b/\Q a I
theorem Vc{m:Nat}{B:cN Bool}{P:ab×List ab->al->Prop}{E:ab->al->Prop}{i c b f:Nat}{d:List<|Nat×O}(w:m<ek)(R:ai T e H s.heap)(g:ae e (.a i) v)(o:H[i]?=V (.e c b))(p:H[b]?=V (.c d))(r:d.lookup m=U)(t:eT c m=V f)(q:P (.ref (T.f f),[v]) s):av (ax T.b T.a) A (uL v (cY m) B) P E s:=by ext(g)C x a-(ac:R.zr o p x)u a(@jv a)D j n G K I k l _(ei:R.a.c c u)h L Q S(ac:R.a.g c m f t)y z;have:=Im k l w;rw[r]at this;refine method_fn R.zb I (Mh h).1 (Mh h).2 z (beq_iff_eq.mp (R.a.b f y).2) ?_ q;show(lookIn (cY m)<|dictOf j n).map _=_;rw[lookIn_dict,this];rfl
theorem mJ{o:ag}{d:N}{g a:aE}{b:List ag}{P E:ab->al->Prop}(n:iU o=M)(p:(g.endLine==a.line)=M)(r:dS b=M)(q:b.length<20)(h:av (ax T.b T.a) A (ca o c) (λf j=>∀w,av (ax T.b T.a) A (uL f d w) (λi k=>av (ax T.b T.a) A (rQ a i.1 i.2 (fD a<|eR b c) []) P E k) E j) E s):av (ax T.b T.a) A (ca (.Call (.Attribute o d g) b [] a) c) P E s:=by
 show av _ _ (do
  let f<-attributeBase o d c (ca o c);
  standAt g.atName;
  methodCall o d g a c f (b.length+0) (fD a<|eR b c) (backToKw a<|keywordEach [] c)) _ _ _;rw[Iq n];refine af<|ba h (λf j u=>af<|kV ?_) λz z e=>e
 have l:methodCallForm (b.length+0) (fD a<|eR b c) (backToKw a<|keywordEach [] c)=M:=by
  unfold methodCallForm;have:=Ir (c:=c) (a:=a) r;have m:(fD a<|eR b c).all (λx=>!x.1)=M:=by rw[eQ];ext x t;rw[U7]at this;have:=this x t;simpa using this
  rw[m];show(M&&M&&aP (b.length+0+(if([]:List (Option N×cN ab)).isEmpty=M then 0 else 1)<30))=M;simp;exact an 1 20 1 30 q rfl
 unfold methodCall;rw[l];refine af<|eh ?_;show av _ _ (uL f d _) _ _ _;refine ba (u _) (λi k v=>?_) λz z e=>e;refine af ?_;unfold methodCallPos;rw[if_pos<|by rw[p];rfl];exact aC v
end
def Ah(I:ah)(s u:al):Prop:=(u.gens=s.gens/\u.os=s.os)/\∀b o,b≠I->s.heap.get? b=V o->u.heap.get? b=V o
theorem bg.zd{X j i:List ah}{c s u:al}{I:ah}(x:bg X j c i s)(o:Ah I s u)(t:c.heap.get? I=U):bg X j c i u:=by
 obtain⟨p,⟨g,q⟩,k,l,n⟩:=x;ext(@ac o)h o(@ac h)r y;have d:∀b o,c.heap.get? b=V o->b≠I:=λb o e q=>by have q:=q.symm;subst q;rw[t]at e;exact cn e
 exact⟨p,⟨r.trans g,y.trans q⟩,λI a e w v=>o I a (d I a e)<|k I a e w v,λI a e=>by ext(aD:l I a e)f m;exact⟨f,o I f (d I a e) m⟩,n⟩
theorem bg.zf{X d c:List ah}{a s:al}{I:ah}(x:bg (I::X) d a c s)(f:a.heap.get? I=U):bg X d a c s:=⟨x.a,x.d,λb o e h g=>x.b b o e h (λq=>by
 rcases bM.mp q with q|q;.subst q;rw[f]at e;exact cn e
 .exact g q),x.c,x.e⟩
theorem bg.zb{X c g f:List ah}{d s:al}(x:bg X g d f s)(h:∀a∈X,a∈c):bg c g d f s:=⟨x.a,x.d,λb o e j i=>x.b b o e j λq=>i<|h b q,x.c,x.e⟩
structure hc(T:bf)(A:bo)(m:List ah)(l:List O)(j:J->Prop)(I:ah)(g:Nat->bS->Prop):Prop where
 a:∀k h i,g k h->(∀o,h.get? I=V o->i.get? I=V o)->g k i
 b:∀k h,g k h->∃o,h.get? I=V o
 c:∀k h,g k h->∃o n,h.get? I=V o/\o.cls=.type n/\["enumerate","zip","dict_itemiterator","dict_reverseitemiterator","odict_iterator","itertools.zip_longest","itertools.pairwise"].contains n=aq
 f:∀k(s:al)(P E:ab->al->Prop),g k s.heap->P (.ref I) s->av (ax T.b T.a) A (iz<|.ref I) P E s
 d:∀k X H(s:al)x,m<+:X->ai T X H s.heap->j H->g k s.heap->I∉X->T.c.get? I=U->l[k]?=V x->av (ax T.b T.a) A (eb<|.ref I) (λr u=>∃w,r=V w/\ae X x w/\g (k+1) u.heap/\bg [I] X s X u/\ai T X H u.heap) (λz z=>False) s
 e:∀k X H(s:al),m<+:X->ai T X H s.heap->j H->g k s.heap->I∉X->T.c.get? I=U->k=l.length->av (ax T.b T.a) A (eb<|.ref I) (λr u=>r=U/\Ah I s u/\ai T X H u.heap) (λz z=>False) s
def ij(T:bf)(A:bo)(h:al)(a:List ah)(c:al)(v:ab)(i:List O)(g:J->Prop):Prop:=av (ax T.b T.a) A (iz v) (λf d=>∃I e,f=.ref I/\hc T A a i g I e/\e 0 d.heap/\I∉a/\T.c.get? I=U/\h.heap.get? I=U/\bg [] a c a d/\∀b o,c.heap.get? b=V o->d.heap.get? b=V o) (λw w=>False) c
theorem ij.za{T:bf}{A:bo}{X t k:List ah}{j i:al}{v:ab}{n:List O}{m:J->Prop}(r:bg X t j k i)(h:ij T A i k i v n m):ij T A j k i v n m:=ba h (λw w s=>EX s λI p a b c d e f g=>Fd I p a b c d e (by cases q:j.heap.get? I with|none=>rfl|some o=>ext(aD:r.c I o q)u l;rw[f]at l;exact cn l) g) λw w e=>e
section
variable{T:bf}{A:bo}{X b d:List ah}{H:J}{s u:al}{v:ab}{c:List O}{i:Nat}{a:ah}
theorem jG(R:ai T b H s.heap):s.heap.objs.size∉b/\T.c.get? s.heap.objs.size=U/\s.heap.get? s.heap.objs.size=U:=by
 have a:=gX s.heap<|aO _;refine aI (λh=>?_) ?_ a;.ext(aD:R.zn h)o e;rw[a]at e;exact cn e
 .cases e:T.c.get? s.heap.objs.size with|none=>rfl|some o=>rw[R.b _ _ e]at a;exact gr a
theorem oc{c:bS}{l:Nat}{I:ah}(R:ai T b H s.heap)(f:I∉b)(j:T.c.get? I=U)(d:∀a o,a≠I->s.heap.get? a=V o->c.get? a=V o)(k:∃o,c.get? I=V o):bg [I] b s b {s with heap:=c,toks:=l}/\ai T b H c:=⟨⟨eg _,⟨rfl,rfl⟩,λa o e w g=>d a o (λq=>g<|by simp[q]) e,λa o e=>by
 by_cases q:a=I;.have q:=q.symm;subst q;exact k
 .exact⟨o,d a o q e⟩,λw h=>.inl h⟩,R.zk (λa o e=>d a o (λq=>by have q:=q.symm;subst q;rw[j]at e;exact cn e)<|R.b a o e) λa i o e=>d a o (λq=>f<|q▸i) e⟩
theorem mK{c:cx}{d:Nat}:bg [] b s b {s with heap:=s.heap.push c,toks:=d}:=⟨eg _,⟨rfl,rfl⟩,λa o e w w=>bP _ e,λa o e=>⟨o,bP _ e⟩,λw h=>.inl h⟩
theorem kE{c:bS}{i:Nat}{I:ah}(R:ai T b H s.heap)(f:I∉b)(h:T.c.get? I=U)(d:∀a o,a≠I->s.heap.get? a=V o->c.get? a=V o):Ah I s {s with heap:=c,toks:=i}/\ai T b H c:=⟨⟨⟨rfl,rfl⟩,d⟩,R.zk (λa o e=>d a o (λq=>by have q:=q.symm;subst q;rw[h]at e;exact cn e)<|R.b a o e) λa g o e=>d a o (λq=>f<|q▸g) e⟩
theorem Vd(B:A.handled=U)(z:d[i]?=V a){I:ah}(S:a≠I):hc T A d c (λE=>E[i]?=V (.a c)) I λk h=>h.IsListIter I a k where
 a:=λ_ _ _ l e=>Y l λo f a4=>ad o (e o f) a4;b:=λ_ _ l=>Y l λo f _=>⟨o,f⟩;c:=λ_ _ l=>bd l λo f P _=>bu o _ f P (by decide);f:=λ_ _ _ _ g j=>wpAny_pyIter_listiter g j;d:=λk b H s a7 j R w g r u m=>by
  ext(co:R.za w (ay j z))D a1 p x q _;have G:=Walks.list (prog:=T.b) (w:=T.a) B I a S D;refine G.item k s _ _ (by rw[q];exact gy m) ⟨g,p.isList⟩ λv K a5 L y Q=>?_;ext(_:jA x m)a6 C X;have:v=a6:=by rw[L]at C;exact bj C
  subst this;ext(ac:oc (l:=a5) R r u (λn o t e=>Q n o (by simpa using t) e) (let⟨o,f,_⟩:=y.1;⟨o,f⟩))a2 a3;exact hv v rfl X y.1 a2 a3
 e:=λk b H s j R w g r u m=>by ext(co:R.za w (ay j z))D a1 p x q _;subst m;rw[<-q]at g;exact Mj B g p.isList (by simp) λK a0=>⟨rfl,kE R r u λn o t e=>a0 n o t e⟩
theorem Ve(C:A.handled=U)(B:d[i]?=V a){I:ah}(S:a≠I):hc T A d c (λE=>E[i]?=V (.b c)) I λk h=>h.IsTupleIter I a k where
 a:=λ_ _ _ l e=>Y l λo f a4=>ad o (e o f) a4;b:=λ_ _ l=>Y l λo f _=>⟨o,f⟩;c:=λ_ _ l=>bd l λo f P _=>bu o _ f P (by decide);f:=λ_ _ _ _ g j=>wpAny_pyIter_tupleiter g j;d:=λk b H s a7 j R w g r u m=>by
  ext(co:R.zd w (ay j B))x a1 p y q _;have G:=Walks.tuple (prog:=T.b) (w:=T.a) C I a S x;refine G.item k s _ _ (by rw[q];exact gy m) ⟨g,aT _ p rfl ⟨_,rfl⟩⟩ λv K a5 L z Q=>?_;ext(_:jA y m)a6 D X;have:v=a6:=by rw[L]at D;exact bj D
  subst this;ext(ac:oc (l:=a5) R r u (λn o t e=>Q n o (by simpa using t) e) (let⟨o,f,_⟩:=z.1;⟨o,f⟩))a2 a3;exact hv v rfl X z.1 a2 a3
 e:=λk b H s j R w g r u m=>by ext(co:R.zd w (ay j B))x a1 p y q _;subst m;rw[<-q]at g;exact wpAny_pyNext_tuple_end (items:=x) C g (aT _ p rfl ⟨_,rfl⟩) (by simp) λK a0=>⟨rfl,kE R r u λn o t e=>a0 n o t e⟩
theorem Vf{n:Nat}{q:List<|Int×O}(K:A.handled=U)(y:d[i]?=V a){I:ah}(a3:a≠I):hc T A d (q.map λe=>.b e.1) (λC=>C[i]?=V (.f n q)) I λk h=>h.IsKeyIter I a k q.length n where
 a:=λ_ _ _ c e=>Y c λo g a1=>ad o (e o g) a1;b:=λ_ _ c=>Y c λo g _=>⟨o,g⟩;c:=λ_ _ c=>bd c λo g E _=>bu o _ g E (by decide);f:=λ_ _ _ _ f l=>Mk f l;d:=λk b H s a5 l R w f t v m=>by ext(_:R.zf w (ay l y))S r j;rw[j.za]at f;rw[dN]at m;ext(_:jn.mp m)e G c-(_:j.zh G)B P Q;refine wpAny_pyNext_dict_item (k:=B.1) (v:=B.2) f r P λa4 D L z x=>?_;ext(aD:U8 L)a2 c-(ac:oc (l:=s.toks) R t v (λp o u e=>(x.2 p u).trans e) (let⟨o,g,_⟩:=z;⟨o,g⟩))X a0;exact hv _ rfl ⟨a2,by rw[Q.1]⟩ (by rw[j.za];exact z) X a0
 e:=λk b H s l R w f t v m=>by ext(_:R.zf w (ay l y))S r j;rw[j.za]at f;simp only[bC]at m;exact wpAny_pyNext_dict_end K f r (by rw[m,j.za];simp) λD x=>⟨rfl,kE R t v λp o u e=>x p o u e⟩
theorem Vg(q:A.handled=U)(n:Nat){I:ah}:hc T A d ((cv n).map λk:Nat=>O.b (k:Int)) (λK=>True) I λk h=>Ml h I ((0:Int)+(k:Nat)*1) ((n:Int)-(k:Nat)) 1 where
 a:=λK K K a e=>e _ a;b:=λK K a=>⟨_,a⟩;c:=λK K a=>bu _ _ a rfl (by decide);f:=λk s P E a l=>wpAny_pyIter_rangeiter a l;d:=λk b H s x l R z a g j c=>by
  have u:=Walks.range (prog:=T.b) (w:=T.a) q I 0 1 n;have r:k<n:=by simpa using gy c
  refine u.item k s _ _ r a λv w G m p y=>?_;ext(bz m)t(ac:oc (l:=G) R g j (λf o i e=>y f o (by simpa using i) e) ⟨_,p⟩)C D;refine hv _ rfl ?_ p C D;simp[r]at c;subst c;exact⟨t,by simp⟩
 e:=λk b H s l R z a g j c=>by simp only[bC,ki]at c;exact wpAny_pyNext_range_end q a (by exact RN c) λw B=>⟨rfl,kE R g j λf o i e=>B f o i e⟩
theorem Vh(h:A.handled=U)(R:ai T b H s.heap)(j:H[i]?=V (.a c))(g:ae b (.a i) v):ij T A s b s v c λI=>I[i]?=V (.a c):=by ext(bt g)a f(co:R.za j f)q n d o p w(bD:jG R)k l m;exact Er d.isList<|nG _ _ rfl (Vd h f<|bh<|ea d) (aT _ (dt _ rfl) rfl rfl) k l m mK λw w e=>bP _ e
theorem Vi(h:A.handled=U)(R:ai T b H s.heap)(j:H[i]?=V (.b c))(g:ae b (.a i) v):ij T A s b s v c λI=>I[i]?=V (.b c):=by ext(bt g)a f(co:R.zd j f)o n d p q w(bD:jG R)k l m;exact wpAny_pyIter_tuple (items:=o) (aT _ d rfl ⟨_,rfl⟩)<|nG _ _ rfl (Ve h f<|bh<|ea d) (aT _ (dt _ rfl) rfl rfl) k l m mK λw w e=>bP _ e
theorem Vj{n:Nat}{c:List<|Int×O}(j:A.handled=U)(R:ai T b H s.heap)(k:H[i]?=V (.f n c))(g:ae b (.a i) v):ij T A s b s v (c.map λe=>.b e.1) λI=>I[i]?=V (.f n c):=by ext(bt g)a d(_:R.zf k d)p f h(bD:jG R)l m o;refine wpAny_pyIter_dict (R.ze d) f<|nG _ _ rfl (Vf j d<|bh f.lt_size) (aT _ (dt _ rfl) rfl ?_) l m o mK λw w e=>bP _ e;rw[h.za];rfl
end
section
variable{a:dV}{w:bX}{A:bo}{E:ab->al->Prop}{s:al}
theorem qH{h:Type}{Q:Option ab->al->Prop}{P:h->al->Prop}(f:A.handled=U)(g:∀d,(∀b o,s.heap.get? b=V o->d.get? b=V o)->Q U {s with heap:=d}):av (ax a w) A.in1 (do
 let c<-newExc (hU "StopIteration") []
 (raiseNew c:cN h)) P (λe u=>av (ax a w) A (do
 let c<-isInstance e (hU "StopIteration")
 if c=M then
  bv U else
  throw e) Q E u) s:=by revert a w A E s Q P;ext@a@w@A@E@s Q P f g;refine af ?_;simp only[newExc,newTuple];refine af<|kj ?_ (by size_fits);refine af (m:=firstArgMember _ _)<|nu (a:=lY) (by first|rfl|(simp only[firstArgMember];rfl)) ?_;refine kj ?_ (by size_fits);refine af<|wpAny_handled ?_;rw[show A.in1.handled=U from f];refine af<|aC<|wpAny_throw ?_;refine af<|uI (T:="StopIteration") (b:=M) (ad _ (dt _ rfl) rfl) isSubtype_stop ?_;exact aC<|g _ λb o e=>bP _<|bP _ e
theorem Is{d:ah}{h:cx}{e:Array jk}{c:Nat}{Q:ab->al->Prop}(j:(d==pg)=aq)(b:s.TypeIs (.ref d) "dict")(g:s.heap.get? d=V h)(f:h.data=.dict e c)(i:Q (.ref s.heap.objs.size) {s with heap:=s.heap.push {cls:=.type "dict_keyiterator",data:=.fields #[.ref d,.int 0 0,.int e.size 0,.int c 0]}}):av (ax a w) A (iz<|.ref d) Q E s:=by refine Es b U9<|go U9 b F.entry_dict_iter ?_<|F.args_dict_iter_1 _;unfold Builtin.«dict.__iter__»;refine af ?_;unfold adP;refine af<|Em b ?_;show av _ _ (bv<|fB d) _ _ s;refine aC ?_;show av _ _ (Me d>>=_) _ _ s;unfold Me;rw[if_neg<|by rw[j];exact cG];refine af<|aC ?_;refine af<|ns g f ?_;refine af<|uH g f ?_;refine af<|kj<|aC<|ad _ rfl<|bu ("dict_keyiterator") _ (ad _ (dt _ rfl) rfl) uM.lookup ?_;simpa[cW]using i
theorem It{c d:ah}{i g:Nat}{j:cx}{b:Array jk}{e:jk}{Q:Option ab->al->Prop}(f:s.heap.IsKeyIter c d i b.size g)(n:s.heap.get? d=V j)(l:j.data=.dict b g)(p:b[i]?=V e)(q:∀k,k.IsKeyIter c d (i+1) b.size g->kT c s.heap k->Q (V e.key) {s with heap:=k}):av (ax a w) A (eb<|.ref c) Q E s:=by
 revert a w A E s c d i g j b e Q;ext@a@w@A@E@s@c@d@i@g@j@b@e@Q f n l p q(bd:id f)o m t h;unfold eb;refine af<|kk<|lZ (name:=aF "__next__") f.typeIs uM<|go uM f.typeIs V0 ?_<|V1 _;refine af<|aC ?_;refine af ?_;refine af ?_;first|refine af<|Et f.typeIs<|aC ?_|refine wpAny_bind<|wpAny_typeNameOf_keyiter f.typeIs<|wpAny_pure ?_
 refine af<|rR m h ?_;have x:Builtin.Dict_items.ownsTuple "dict_keyiterator"=aq:=by decide
 rw[x];show av _ _ (if(fB d==lY)=M then _ else _) _ _ s;rw[if_neg<|show¬((fB d==lY)=M)from cG];refine af<|aC ?_;refine af<|ns n l ?_;rw[if_neg<|by simp];refine af<|aC ?_;refine af<|uH n l ?_;rw[if_neg<|by simp];refine aC ?_;have v:i<b.size:=(Eu.mp p).1;have u:b[i]=e:=(Eu.mp p).2;simp only[show¬((i:Int)<0)from by exact pP,if_false,rS,ma v];refine af ?_;first|refine af<|Et f.typeIs<|aC ?_|refine wpAny_bind<|wpAny_typeNameOf_keyiter f.typeIs<|wpAny_pure ?_
 refine af<|V2 f.typeIs ?_;show av _ _ (setField (.ref c) 1 (cW<|(i:Int)+1)>>=_) _ _ s;refine af<|kl m h (by simp) ?_;have r:(s.heap.update c<|pl (·.setIfInBounds 1 (cW<|(i:Int)+1))).IsKeyIter c d (i+1) b.size g:=aT _ (lU _ m<|Mm<|rT h _) ((V3 ..).trans t) (by rw[rT h];simp[cW]);refine af<|eh ?_;refine af<|V2 (s:={s with heap:=s.heap.update c (pl (·.setIfInBounds 1 (cW<|(i:Int)+1)))}) r.typeIs ?_;show av _ _ (bv b[i].key) _ _ _;rw[u];exact aC<|aC<|ad _ rfl<|aC<|q _ r<|hS ..
theorem Iu{f d:ah}{i h:Nat}{l:cx}{g:Array jk}{Q:Option ab->al->Prop}(t:A.handled=U)(c:s.heap.IsKeyIter f d i g.size h)(n:s.heap.get? d=V l)(m:l.data=.dict g h)(r:g.size<=i)(p:∀j,Ev f s.heap j->Q U {s with heap:=j}):av (ax a w) A (eb<|.ref f) Q E s:=by
 revert a w A E s f d i h l g Q;ext@a@w@A@E@s@f@d@i@h@l@g@Q t c n m r p(bd:id c)o u y q;unfold eb;refine af<|kk<|lZ (name:=aF "__next__") c.typeIs uM<|go uM c.typeIs V0 ?_<|V1 _;refine af<|aC ?_;refine af ?_;refine af ?_;first|refine af<|Et c.typeIs<|aC ?_|refine wpAny_bind<|wpAny_typeNameOf_keyiter c.typeIs<|wpAny_pure ?_
 refine af<|rR u q ?_;have x:Builtin.Dict_items.ownsTuple "dict_keyiterator"=aq:=by decide
 rw[x];show av _ _ (if(fB d==lY)=M then _ else _) _ _ s;rw[if_neg<|show¬((fB d==lY)=M)from cG];refine af<|aC ?_;refine af<|ns n m ?_;rw[if_neg<|by simp];refine af<|aC ?_;refine af<|uH n m ?_;rw[if_neg<|by simp];refine aC ?_;simp only[show¬((i:Int)<0)from by exact pP,if_false,rS,uN r];refine af ?_;first|refine af<|Et c.typeIs<|aC ?_|refine wpAny_bind<|wpAny_typeNameOf_keyiter c.typeIs<|wpAny_pure ?_
 show av _ _ (setField (.ref f) 0 .none>>=_) _ _ s;refine af<|kl u q (by simp) ?_;show av _ _ (newExc (.type "StopIteration") []>>=_) _ _ _;exact qH (s:={s with heap:=_}) t λj k=>p j λb o v e=>k b o<|(hS ..).extBut b o v e
end
section
variable{T:bf}{A:bo}{X b c:List ah}{H:J}{s u:al}{v:ab}{d:List O}{i:Nat}{a:ah}
theorem ai.zm{n:Nat}{f:List<|List Int×Nat×O}(R:ai T b H s.heap)(h:H[i]?=V (.d n f))(g:b[i]?=V a):∃o c,s.heap.get? a=V o/\s.TypeIs (.ref a) "dict"/\o.data=.dict c n/\c.size=f.length/\∀(k:Nat)e,f[k]?=V e->∃d,c[k]?=V d/\ae b (.a e.2.1) d.key:=by
 delta T b H s i a n f;ext R h g(bd:R.zi h g)o u A m(m)C p l(@ac p)B t(@bd t)c v j z(_:R.zg h g)D q E;refine jw o c u q.typeIs v ?_ λk e w=>?_;.rw[<-hq,j,bC,l.za]
 .ext(_:l.zh w)y x r;refine ad (uD T.za y) ?_<|ad y.2.1 r.2.1 rfl;rw[<-lX,j,dN,x];rfl
theorem Vk{n:Nat}{q:List<|List Int×Nat×O}(S:A.handled=U)(B:c[i]?=V a){I:ah}(a4:a≠I):hc T A c (q.map λe=>.a e.2.1) (λD=>D[i]?=V (.d n q)) I λk h=>h.IsKeyIter I a k q.length n where
 a:=λ_ _ _ g e=>Y g λo f a2=>ad o (e o f) a2;b:=λ_ _ g=>Y g λo f _=>⟨o,f⟩;c:=λ_ _ g=>bd g λo f L _=>bu o _ f L (by decide);f:=λ_ _ _ _ d l=>Mk d l;d:=λk b H s a5 l R x d u w m=>by ext(kZ:R.zm x (ay l B))o E r K t j z;rw[<-j]at d;rw[dN]at m;ext(_:jn.mp m)e Q g-(_:z k e Q)a3 P X;refine It d r t P λG C y=>?_;ext(ac:oc (l:=s.toks) R u w (λp o v e=>(y.2 p v).trans e) (let⟨o,f,_⟩:=C;⟨o,f⟩))a0 a1;exact hv _ rfl X (by rw[<-j];exact C) a0 a1
 e:=λk b H s l R x d u w m=>by ext(kZ:R.zm x (ay l B))o E r K t j z;rw[<-j]at d;simp only[bC]at m;exact Iu S d r t (by exact aj (aw j)<|ar m) λG y=>⟨rfl,kE R u w λp o v e=>y p o v e⟩
theorem Vl{n:Nat}{c:List<|List Int×Nat×O}(l:A.handled=U)(R:ai T b H s.heap)(m:H[i]?=V (.d n c))(g:ae b (.a i) v):ij T A s b s v (c.map λe=>.a e.2.1) λI=>I[i]?=V (.d n c):=by ext(bt g)a d(kZ:R.zm m d)o t f h j k u(bD:jG R)p q r;refine Is (R.ze d) h f j<|nG _ _ rfl (Vk l d<|bh<|ea f) (aT _ (dt _ rfl) rfl ?_) p q r mK λw w e=>bP _ e;rw[k];rfl
end
section
variable{T:bf}{A c:bo}{X b e:List ah}{H:J}{s u:al}{v:ab}{d:List O}{i:Nat}{a:ah}
def mL(T:bf)(A:bo)(X b:List ah)(s:al)(t:cN ab)(Q:List O->(J->Prop)->J->Prop):Prop:=eW T A X b s t λv e I u=>∃d a,(∀c:bo,c.handled=U->ij T c s e u v d a)/\Q d a I
theorem Vm{k:Int}{Q:List O->(J->Prop)->J->Prop}(R:ai T b H s.heap)(d:ae b (.b k) v)(f:0<=k)(g:k<=16777216)(q:Q ((cv k.toNat).map λn:Nat=>O.b (n:Int)) (λw=>True) H):mL T A X b s (bT (.type "range") [v]) Q:=by
 delta T A X b H s v k Q;ext R d f g q(bz d)@t
 exact by
  refine call_range_1<|bu b H ?_ (R.zc λa o e=>bP _ e)<|bK _ _ (λc j=>?_) q;.exact⟨eg _,⟨rfl,rfl⟩,λa o e w w=>bP _ e,λa o e=>⟨o,bP _ e⟩,λw h=>.inl h⟩
  .have i:ai T b H<|s.heap.push {cls:=.type "range",data:=.fields #[.int 0 s.toks,.int k t,.int 1 (s.toks+1)]}:=R.zc λa o e=>bP _ e;ext(bD:jG (s:={s with heap:=s.heap.push {cls:=.type "range",data:=.fields #[.int 0 s.toks,.int k t,.int 1 (s.toks+1)]},toks:=s.toks+1+1}) i)l m r;have p:s.heap.get? (s.heap.push {cls:=.type "range",data:=.fields #[.int 0 s.toks,.int k t,.int 1 (s.toks+1)]}).objs.size=U:=gX _ (by rw[jq];exact du _ 0 1 rfl);refine wpAny_pyIter_range (a:=0) (b:=k) (c:=1) (IsRange.new s.heap 0 k 1 s.toks t<|s.toks+1) (small_one (by decide) (by decide) (pf (by decide) f)<|pb g<|by decide)<|nG _ _ rfl (Vg j k.toNat) ?_ l m p mK λw w e=>bP _ e;show Ml _ _ _ _ _;have e:Builtin.Range.rangeSize 0 k 1=(k.toNat:Int):=by rw[rangeSize_one];split<;>rename_i h;rw[Int.sub_zero,Ew<|rL h];rw[Int.toNat_of_nonpos<|DR.mp h];rfl
   unfold Ml;rw[dt _ rfl,e];simp
end
namespace gD
open PySem.F
theorem zf:pm "reversed" "__init__" "object.__init__":=.of (owner:="object") (n:="__init__") (by rw[pn,po];kernel_rfl) (by decide+kernel) (by decide+kernel) (by decide+kernel) (by first|exact .inl (by decide+kernel)|exact .inr (by decide+kernel)) (by rw[pp];kernel_rfl)
theorem zg:TypeCalled "reversed" "reversed.__new__" "object.__init__":=⟨by decide+kernel,by decide+kernel,gs _ _ mro_reversed,madeBy_type mro_reversed lookup_reversed_new<|by decide+kernel,by decide+kernel,by rw[pp];kernel_rfl,zf⟩
theorem zh(b a:ab):mb "object.__init__" ⟨[b,a],[]⟩:=args_object_init_2 b a
theorem zi:uJ (.type "tuple") "__reversed__"=bv U:=by rw[pn,po];kernel_rfl
theorem za:pm "reversed" "__next__" "reversed.__next__":=.of (owner:="reversed") (n:="__next__") (by rw[pn,po];kernel_rfl) (by decide+kernel) (by decide+kernel) (by decide+kernel) (by first|exact .inl (by decide+kernel)|exact .inr (by decide+kernel)) (by rw[pp];kernel_rfl)
theorem zb:Manifest.owners.lookup (String.ofList ['d','e','s','r','e','v','e','r'].reverse)=V Manifest.sig_reversed:=by kernel_rfl
theorem zc:rU rV "reversed.__next__"=V Builtin.«reversed.__next__»:=Mn (by kernel_rfl)
theorem zd(a:ab):mb "reversed.__next__" ⟨[a],[]⟩:=by unfold mb;rw[Ex (id:="reversed.__next__") (n:=['_','_','t','x','e','n','_','_']) (o:=['d','e','s','r','e','v','e','r']) (by kernel_rfl) zb];kernel_rfl
theorem ze:pm "reversed" "__iter__" "reversed.__iter__":=.of (owner:="reversed") (n:="__iter__") (by rw[pn,po];kernel_rfl) (by decide+kernel) (by decide+kernel) (by decide+kernel) (by first|exact .inl (by decide+kernel)|exact .inr (by decide+kernel)) (by rw[pp];kernel_rfl)
theorem zj(a:ab):mb "reversed.__iter__" ⟨[a],[]⟩:=by unfold mb;rw[Ex (id:="reversed.__iter__") (n:=['_','_','r','e','t','i','_','_']) (o:=['d','e','s','r','e','v','e','r']) (by kernel_rfl) zb];kernel_rfl
theorem zk:rU rV "reversed.__iter__"=V Builtin.«dict_keyiterator.__iter__»:=Mo (id':="dict_keyiterator.__iter__") (by kernel_rfl) (by first|rfl|decide+kernel|(unfold String.splitOn;simp+decide[String.splitOnAux])) (by decide+kernel) (by kernel_rfl)
end gD
noncomputable def tp(l:ah)(i:Int):cx:={cls:=.type "reversed",data:=.fields #[.ref l,cW i]}
def kF(h:bS)(a l:ah)(i:Int):Prop:=∃o,h.get? a=V o/\o.cls=.type "reversed"/\o.data=.fields #[.ref l,cW i]
section
variable{b:dV}{w:bX}{A:bo}{E:ab->al->Prop}{s:al}{l:ah}{a:Array ab}{n:Nat}
theorem kF.za{a:ah}{i:Int}(x:kF s.heap a l i):s.TypeIs (.ref a) "reversed":=let⟨o,c,b,_⟩:=x;(ad o c b)
theorem Vn{Q:ab->al->Prop}(d:s.heap.get? l=V (bL "tuple" a n))(e:a.size<=20000000)(h:Q (.ref s.heap.objs.size) {s with heap:=s.heap.push (tp l<|(a.size:Int)-1),toks:=s.toks+1+1}):av (ax b w) A (bT (.type "reversed") [.ref l]) Q E s:=by
 delta b w A E s l a n Q;ext d e h;have c:s.TypeIs (.ref l) "tuple":=ad _ d rfl;refine callType_new gD.zg (by decide) (F.typeCall_reversed_1 _) (F.newCall_reversed_1 _) (λj=>gD.zh j _) F.entry_reversed_new (S:=λA R f=>f=s/\R (.ok<|.ret<|.ref s.heap.objs.size) {s with heap:=s.heap.push (tp l<|(a.size:Int)-1),toks:=s.toks+1+1}) ?_<|aI rfl (ad _ (dt _ rfl) rfl) h;ext@b@w@A@R@f g
 exact by
  ext(ec g)i;unfold Builtin.«reversed.__new__»;refine af<|nu (newClass_reversed _) ?_;try dsimp only
  refine af<|nu (a:=()) (by first|rfl|kernel_rfl) ?_;refine af<|nu (a:=()) (by first|rfl|kernel_rfl) ?_;try dsimp only
  refine af<|uO c gD.zi ?_;try dsimp only
  refine af ?_;wp_delta;refine af<|uI c PySem.F.sub_tuple_dict ?_;simp only[fi,if_false];refine af<|uO c Mg.lookup ?_;dsimp only;rw[if_pos<|by decide];refine aC ?_;simp only[pj,fi,if_false];refine af (m:=bT _ _)<|S4 (items:=a) (aT _ d rfl ⟨_,rfl⟩) (jx e rfl) ?_;refine af<|nu (a:=V (a.size:Int)) rfl ?_;dsimp only;refine af ?_;unfold Builtin.SmallTypes.newRecord;dsimp only;exact kj<|aC i
theorem Iv{a:ah}{i:Int}{Q:ab->al->Prop}(c:kF s.heap a l i)(h:Q (.ref a) s):av (ax b w) A (iz<|.ref a) Q E s:=by refine Es c.za gD.ze<|go gD.ze c.za gD.zk ?_<|gD.zj _;show av _ _ (ret<|.ref a) _ _ s;exact aC<|ad _ rfl<|bu ("reversed") _ c.za gD.za.lookup h
theorem Vo{c:ah}{i:Nat}{x:ab}{Q:Option ab->al->Prop}(f:kF s.heap c l (i:Int))(h:s.heap.get? l=V (bL "tuple" a n))(t:l≠c)(p:a.size<=20000000)(j:a[i]?=V x)(k:∀g u,kF g c l ((i:Int)-1)->kT c s.heap g->Q (V x) {s with heap:=g,toks:=u}):av (ax b w) A (eb<|.ref c) Q E s:=by
 revert b w A E s l a n c i x Q;ext@b@w@A@E@s@l@a@n@c@i@x@Q f h t p j k(bd:id f)o e r d;have m:=(Eu.mp j).1;unfold eb;refine af<|kk<|lZ (name:=aF "__next__") f.za gD.za<|go gD.za f.za gD.zc ?_<|gD.zd _;unfold Builtin.«reversed.__next__»;refine af<|nu (a:=(fB c,[])) rfl ?_;try dsimp only
 refine af<|uP e d (x:=.ref l) rfl ?_;refine af<|uP e d (x:=cW (i:Int)) rfl ?_;show av _ _ (if(i:Int)<0 then _ else _) _ _ s;rw[if_neg<|by exact pP];have q:s.TypeIs (.ref l) "tuple":=ad _ h rfl;refine af<|uO q Mg.lookup ?_;simp only[Option.isNone_some,fi,if_false];refine af<|wpAny_mkInt ?_;refine af<|kk<|S5 (items:=a) (k:=i) (aT _ h rfl ⟨_,rfl⟩) (pf (by decide)<|uw _) (jx (aj (gn m) p) rfl) (wn (by exact nL)<|by exact RO m) j ?_;dsimp only;refine af<|uP e d (x:=cW (i:Int)) rfl ?_;refine af<|kl e d (by simp) ?_;refine aC<|ad x rfl<|aC<|k _ _ ?_<|hS ..;exact aT _ (lU _ e<|Mm<|rT d _) ((V3 ..).trans r) (by rw[rT d];simp)
theorem Vp{a:ah}{Q:Option ab->al->Prop}(p:A.handled=U)(h:kF s.heap a l<|-1)(m:∀d,Ev a s.heap d->Q U {s with heap:=d}):av (ax b w) A (eb<|.ref a) Q E s:=by
 delta b w A E s l a Q;ext p h m(bd:id h)o i t g;unfold eb;refine af<|kk<|lZ (name:=aF "__next__") h.za gD.za<|go gD.za h.za gD.zc ?_<|gD.zd _;unfold Builtin.«reversed.__next__»;refine af<|nu (a:=(fB a,[])) rfl ?_;try dsimp only
 refine af<|uP i g (x:=.ref l) rfl ?_;refine af<|uP i g (x:=cW<|-1) rfl ?_;show av _ _ (if(-1:Int)<0 then _ else _) _ _ s;rw[if_pos<|by decide];refine af<|nv ?_;refine af ?_;wp_delta;refine af<|kl i g (by simp) ?_;have r:=lU (h:=s.heap) (pl (·.setIfInBounds 1 (cW<|-1))) i<|Mm<|rT g _;refine kl r (rT g _) (by simp) ?_;generalize q:((s.heap.update a<|pl λx=>x.setIfInBounds 1<|cW<|-1).update a<|pl λx=>x.setIfInBounds 0 lY)=j;have f:Ev a s.heap j:=by rw[<-q];ext c o f e;exact(hS ..).extBut c o f<|(hS ..).extBut c o f e
 first|exact qH (s:={s with heap:=j}) p λd k=>m d λc o n e=>k c o<|f c o n e|exact af<|qH (s:={s with heap:=j}) p λd k=>m d λc o n e=>k c o<|f c o n e
end
section
variable{T:bf}{A d:bo}{X c e:List ah}{H:J}{s u:al}{v:ab}{b:List O}{i:Nat}{a:ah}
theorem Vq(L:A.handled=U)(G:e[i]?=V a){I:ah}(P:a≠I):hc T A e b.reverse (λx=>x[i]?=V (.b b)) I λk h=>kF h I a<|(b.length:Int)-1-k where
 a:=λ_ _ _ l d=>Y l λo g a1=>ad o (d o g) a1;b:=λ_ _ l=>Y l λo g _=>⟨o,g⟩;c:=λ_ _ l=>bd l λo g K _=>bu o _ g K (by decide);f:=λ_ _ _ _ f m=>Iv f m;d:=λk c H s a5 m R w f p r j=>by
  ext(co:R.zd w (ay m G))a4 a3 B C D E;have t:=gy j;simp only[Mp]at t;rw[List.getElem?_reverse t]at j;ext(_:jA C j)a6 S Q;have d:(b.length:Int)-1-(k:Nat)=((b.length-1-k:Nat):Int):=by exact RP t
  rw[d]at f;refine Vo f B P (by exact aA 0 0 0 16777217 0 20000000 (aw D) E rfl) S λz a2 v u=>?_;ext(ac:oc (l:=a2) R p r (λn o q d=>(u.2 n q).trans d) (let⟨o,g,_⟩:=v;⟨o,g⟩))X a0;refine hv _ rfl Q ?_ X a0;show kF _ _ _ _;have y:(b.length:Int)-1-((k+1:Nat):Int)=((b.length-1-k:Nat):Int)-1:=by exact RQ d
  rw[y];exact v
 e:=λk c H s m R w f p r j=>by
  simp only[Mp]at j;subst j;have d:(b.length:Int)-1-(b.length:Int)=-1:=by exact RR
  rw[d]at f;exact Vp L f λz u=>⟨rfl,kE R p r λn o q d=>u n o q d⟩
theorem Vr{Q:List O->(J->Prop)->J->Prop}(R:ai T c H s.heap)(m:ae c (.a i) v)(t:H[i]?=V (.b b))(q:Q b.reverse (λI=>I[i]?=V (.b b)) H):mL T A X c s (bT (.type "reversed") [v]) Q:=by
 ext(bt m)a k(co:R.zd t k)y n g z j p;refine Vn g (by exact aA 0 0 0 16777217 0 20000000 (aw j) p rfl)<|bu c H ?_ (R.zc λf o e=>bP _ e)<|bK _ _ (λd r=>?_) q;.exact⟨eg _,⟨rfl,rfl⟩,λf o e B B=>bP _ e,λf o e=>⟨o,bP _ e⟩,λB h=>.inl h⟩
 .ext(bD:jG (s:=s) R)u w x;have l:kF (s.heap.push<|tp a<|(y.size:Int)-1) s.heap.objs.size a<|(b.length:Int)-1-(0:Nat):=aT _ (dt _ rfl) rfl (by rw[j];simp[tp]);exact Iv l<|nG _ _ rfl (Vq r k<|bh<|ea g) l u w x .zc λB B e=>e
theorem Vs{Q:List O->(J->Prop)->Prop}{x:O}{k:al}{m:List ah}(g:bg X m k c s)(R:ai T c H s.heap)(f:ae c x v)(h:hD x H Q):∃b j,(∀d:bo,d.handled=U->ij T d k c s v b j)/\Q b j:=by exact eI h f λi h f=>fM h (λb e h=>bK _ _ (λd a=>(Vh a R e f).za g) h) (λb e h=>bK _ _ (λd a=>(Vi a R e f).za g) h) (λn l e h=>bK _ _ (λd a=>(Vj a R e f).za g) h) λn l e h=>bK _ _ (λd a=>(Vl a R e f).za g) h
end
section
variable{T:bf}{A:bo}{X c g:List ah}{H:J}{s f:al}{a b:O}{v u:ab}{Q:au}{d:Nat}{e:List O}{i:Nat}
theorem Vt{a:Array ab}{k:Nat}(h:aQ (ae c) e a.toList):aQ (ae c) (e.take k) (slicePick a U (V (k:Int)) U).toList:=by rw[slicePick_upto'];exact h.zi k
theorem Vu{a:Array ab}{k:Nat}(h:aQ (ae c) e a.toList):aQ (ae c) (e.drop k) (slicePick a (V (k:Int)) U U).toList:=by rw[slicePick_from'];exact h.zk k
theorem Vv{j:ah}(R:ai T c H s.heap)(f:ae c a v)(g:ae c b u)(l:s.heap.IsSliceOf j .none u .none)(h:lr a b H Q):aU T A X c s (jl v<|.ref j) Q:=by
 revert T A X c H s a b v u Q j;ext@T@A@X@c@H@s@a@b@v@u@Q@j R f g l h;refine fm h g λk h g=>ga h f (λK h K=>h.elim) (λK h K=>h.elim) (λz h f=>?_) λi h f=>HD h λe C h=>?_
 .ext(@bD h)d G q;subst d;ext(@aD f)t d-(@aD g)n d-;refine wpAny_getItem_str_slice (l:=U) (u:=V (1,n)) (st:=U) l rfl ?_;unfold sliceMade;have r:z.length=1:=G;have:(slicePicked z U (V (1,n)) U).length=1:=by unfold slicePicked;rw[r];rfl
  rw[if_pos<|by rw[this,r];rfl];exact cK (x:=.c z) R ⟨t,rfl⟩ q
 .ext(@bD h)p D q(f)I E d-(@aD g)n d-(_:R.zu C E)w x o(aD:V4 D)m d-;have y:=o.za;have B:w.toList.length=w.size:=hq;refine V5 x l .none (.int _ _) .none (by simp) ?_ (by rw[dk];exact Sc p y B);exact lk R (hC (Vt o.zd)<|by rw[km];exact Sd p) q
theorem Vw{l:ah}(R:ai T c H s.heap)(g:ae c a v)(f:ae c b u)(y:s.heap.IsSliceOf l u .none .none)(h:nW a b H Q):aU T A X c s (jl v<|.ref l) Q:=by refine fm h f λk h f=>eI h g λi h g=>eJ h λe t h=>?_;ext(@ei h)j w B q(g)z x d-(@aD f)C d-(co:R.za t x)D n o p r E(aD:V4 w)m d-;refine V5 o.isList y (.int _ _) .none .none (by simp) ?_ (by rw[dk];exact Se j r);exact lk R (hC (Vu p.zd)<|by rw[V6];exact Sf j) q
theorem Vx(R:ai T c H s.heap)(d:ae c a v)(f:ae c b u)(h:lr a b H Q):qD s v:=by refine fm h f λk h f=>ga h d (λw h w=>h.elim) (λw h w=>h.elim) (λz h d=>?_) λi h d=>HD h λe g h=>R.zq d g;ext(@aD d)t j-;exact bK ("str") _ rfl PySem.F.slot_str_getitem.lookup
theorem Vy(R:ai T c H s.heap)(d:ae c a v)(f:ae c b u)(h:nW a b H Q):qD s v:=fm h f λk h f=>eI h d λi h d=>eJ h λe g h=>R.zq d<|.inl g
theorem Vz{x:Int}(R:ai T c H s.heap)(a:ae c (.b x) v)(q:Q (.b<|if x<0 then-x else x) H):aU T A X c s (bT (.builtin "abs") [v]) Q:=by ext(bz a)t;exact call_abs_int λu b=>dn (x:=.b<|if x<0 then-x else x) R ⟨u,rfl⟩ q
theorem VA(a:List Int):∀n,n<=a.length->preSum (λi=>a.getD i 0) n=(a.take n).sum|0,_=>rfl|n+1,h=>by have b:n<a.length:=h;rw[preSum,VA a n<|by exact an 1 0 0 0 h rfl,V7 b,List.sum_append];simp[rW,b]
theorem VB{a:List Int}(l:A.handled=U)(R:ai T c H s.heap)(d:ae c (.a i) v)(m:H[i]?=V (.a<|a.map .b))(q:Q (.b a.sum) H):aU T A X c s (bT (.builtin "sum") [v]) Q:=by
 delta T A X c H s v Q i a;ext l R d m q(bt d)@p u
 exact by
  ext(co:R.za m u)j n f r t E(bD:jG R)B C x;have I:=ll r;refine call_sum_walkG<|Er f.isList<|No _ _ _ j.size _ _ (λi=>a.getD i 0) rfl (Walks.list (by simpa using l) s.heap.objs.size p (bh<|ea f) j) ⟨aT _ (dt _ rfl) rfl rfl,f.isList.push _⟩ ?_ (λi v d=>I.int_at i v<|by rw[lX];exact d) λz D y w=>?_
  .ext b k;rw[jq];simp only[bM,List.not_mem_nil,or_false]at k;rcases k with rfl|rfl;.exact mc _
   .exact pq<|ea f
  .have e:preSum (λi=>a.getD i 0) j.size=a.sum:=by rw[t,bC,VA a a.length<|aO _,fj]
   rw[e];exact wl (x:=.b a.sum) R (λb o g=>w b o (by simp only[hV];ext h-;rw[x]at g;exact cn g)<|bP _ g) ⟨y,rfl⟩ q
end
noncomputable def ly:SortKind:=(sortPriv%PySem.Builtin.KeyKind.tuples) M
theorem VC(x y:ab):keyLt' ly x y=(do
 let a<-Mq x;
 let b<-Mq y
 for((p,q),i)in(a.toList.zip b.toList).zipIdx do
  if !(<-eqBool p q)then
   return<-oneLt' (M&&i==0) p q
 return a.size<b.size):=rfl
noncomputable def Iw:ab->cN (Option ab):=sortPriv%PySem.Builtin.firstOfTuple?
theorem VD(v:ab):Iw v=(do
 if(<-uQ v)!=.type "tuple"then
  return U
 return(<-Mq v)[0]?):=rfl
noncomputable def Ai:Array ab->cN (Option ab):=sortPriv%PySem.Builtin.oneTypeOnly
theorem VE(b:Array ab):Ai b=(do
 let a<-b.mapM uQ
 match a[0]? with
  |V t=>
   return if a.all (·==t)then V t else U
  |U=>
   return U):=rfl
theorem VF(b:Array ab):keyKind' b=(do
 let a<-b.mapM Iw
 if a.all (·.isSome)then
  rule "list.sort.keys-are-tuples"
  return(sortPriv%PySem.Builtin.KeyKind.tuples) ((<-Ai (a.filterMap id)).any (·!=.type "tuple"))
 if(a[0]?.bind id).isSome then
  return Ey
 return if(<-Ai b).isSome then oneType' else Ey):=rfl
section
variable{a:dV}{w:bX}{A:bo}{E:ab->al->Prop}{s:al}
theorem VG{c b:Type}{f:c->cN b}{g:c->b}:∀{l:List c}{Q:List b->al->Prop},(∀x∈l,∀d:b->al->Prop,d (g x) s->av (ax a w) A (f x) d E s)->Q (l.map g) s->av (ax a w) A (l.mapM f) Q E s|[],Q,_,h=>by rw[List.mapM_nil];exact aC h|x::r,Q,e,h=>by rw[List.mapM_cons];refine af<|e x (.head _) _<|af<|VG (λy i=>e y<|.tail _ i) ?_;exact aC h
theorem Ix{c b:Type}{f:c->cN b}{g:c->b}{l:List c}{Q:Array b->al->Prop}(e:∀x∈l,∀d:b->al->Prop,d (g x) s->av (ax a w) A (f x) d E s)(h:Q (l.map g).toArray s):av (ax a w) A (l.toArray.mapM f) Q E s:=by rw[List.mapM_toArray];show av _ _ (List.toArray<$>l.mapM f) _ _ _;rw[map_eq_pure_bind];exact af<|VG e<|aC h
def kG(h:bS)(v:ab)(x y:Int):Prop:=∃a n t u,v=.ref a/\h.get? a=V (bL "tuple" #[.int x t,.int y u] n)
theorem VH{x:Int}{t:kf}{Q:ab->al->Prop}(h:Q (.type "int") s):av (ax a w) A (uQ<|.int x t) Q E s:=rX (LX s x t) h
theorem VI{d:List ab}(B:d≠[])(D:∀v∈d,∃x y,kG s.heap v x y){Q:SortKind->al->Prop}(h:Q ly s):av (ax a w) A (keyKind' d.toArray) Q E s:=by
 delta a w A E s d Q at B D h
 classical
  let g:ab->Option ab:=λv=>if c:∃x,∃t:kf,∃y,∃b n u,v=.ref b/\s.heap.get? b=V (bL "tuple" #[.int x t,.int y u] n)then V (.int c.choose c.choose_spec.choose)else U;have m:∀v∈d,∃x t y b n u,g v=V (.int x t)/\v=.ref b/\s.heap.get? b=V (bL "tuple" #[.int x t,.int y u] n):=by ext v c(sk:D v c)x y b n t u f j;have o:∃x,∃t:kf,∃y,∃b n u,v=.ref b/\s.heap.get? b=V (bL "tuple" #[.int x t,.int y u] n):=Nl x t y b n u f j;ext(EZ:o.choose_spec.choose_spec)a1 H T X I K;refine Nm o.choose o.choose_spec.choose a1 H T X ?_ I K;show(if c:_ then _ else _)=_;rw[dif_pos o]
  rw[VF];refine af<|Ix (g:=g) (λv c G k=>?_) ?_;.ext(Nj:m v c)x t y b n u f i j;subst i;rw[VD];refine af<|rX (T:="tuple") (ad _ j rfl) ?_;rw[if_neg<|by decide];refine af<|Ez j rfl ?_;rw[f]at k;exact aC k
  .have p:((d.map g).toArray.all (·.isSome))=M:=by simp only[V8,V9,eQ];ext v c(sk:m v c)x t y b n u f _;simp[f]
   rw[if_pos p];refine af<|nv ?_;have P:((d.map g).toArray.filterMap id)=((d.map g).filterMap id).toArray:=by simp
   rw[P];refine af ?_;rw[VE];have q:∀v∈(d.map g).filterMap id,∃x t,v=.int x t:=by ext v c(_:rY.mp c)a2 R e(_:bY.mp R)a0 S i-(sk:m a0 S)x t y b n u f _;rw[f]at e;exact gs x t<|(bj e).symm
   have C:(d.map g).filterMap id≠[]:=by cases d with|nil=>exact absurd rfl B|cons v r=>ext(sk:m v (.head _))x t y b n u f _;simp[f]
   revert q C;generalize(d.map g).filterMap id=l;ext q C;refine af<|Ix (g:=λ_=>hU "int") (λv c G k=>?_) ?_;.ext(hu:q v c)x t i-;exact VH k
   .cases l with
    |nil=>exact absurd rfl C
    |cons z r=>
     have L:(md (λ_=>hU "int")<|z::r).toArray[0]?=V (hU "int"):=by simp
     rw[L];have p:((md (λ_=>hU "int")<|z::r).toArray.all λx=>x==hU "int")=M:=by simp only[V8,V9,eQ];ext _ _;rfl
     dsimp only;rw[p];exact aC<|aC h
theorem VJ{v u:ab}{x y c d:Int}(k:kG s.heap v x y)(j:kG s.heap u c d)(f:c<x\/(c=x/\d<y)){Q:Bool->al->Prop}(h:Q aq s):av (ax a w) A (keyLt' ly v u) Q E s:=by
 ext(vC k)z n o g q(vC j)b m p i r;rw[VC];refine af<|Ez q rfl ?_;refine af<|Ez r rfl ?_;have e:((#[kn x o,kn y g]:Array ab).toList.zip (#[kn c p,kn d i]:Array ab).toList).zipIdx=[((kn x o,kn c p),0),((kn y g,kn d i),1)]:=rfl;rw[e];simp only[W0,List.forIn_nil,bind_assoc];refine af<|Mf ?_;by_cases l:x=c
 .subst l;simp only[beq_self_eq_true,pj,fi,if_false,pure_bind];refine af<|af<|Mf ?_;have t:(y==d)=aq:=by simp only[beq_eq_false_iff_ne];rcases f with h|h;exact absurd h<|W1 _;exact Int.ne_of_gt h.2
  rw[t];simp only[Mr,if_true,bind_assoc];refine af ?_;rw[oneLt'_eq];simp only[W2,Nat.reduceBEq,fi,if_false];refine af (m:=richCompare .Lt _ _) ?_;refine show av _ _ (dj .Lt (.int y g)<|.int d i) _ _ _ from ?_;refine wpAny_lt_int ?_;refine Eo ?_;rw[show aP (y<d)=aq by simp;rcases f with h|h;exact absurd h<|W1 _;exact rL h.2];exact aC<|aC h
 .rw[show(x==c)=aq by simp[l]];simp only[Mr,if_true,bind_assoc];refine af ?_;simp only[W2,beq_self_eq_true];refine oneLt_int ?_;simp only[pure_bind];rw[show aP (x<c)=aq by simp;rcases f with h|h;exact rL h;exact R1 h.1];exact aC h
def Aj(a:dV)(w:bX)(A:bo)(s:al)(b:Array uR):Prop:=∀(i:Nat)(p q:uR),b[i]?=V p->b[i+1]?=V q->∀(Q:Bool->al->Prop)(E:ab->al->Prop),Q aq s->av (ax a w) A (keyLt' ly q.1 p.1) Q E s
theorem VK{b:Array uR}(k:Aj a w A s b){c:rZ}(j:kindOf c=ly)(g:iA c=b){i:Nat}(f:i+1<b.size){Q:Option Bool->rZ->Prop}(h:Q (V aq) c):wpS (ax a w) A E s (ltAt' (i+1) i) Q c:=by
 rw[ltAt'_eq];refine hW<|uS ?_
 show wpS _ _ _ _ (do
  let x<-elem' (iA c) (i+1);
  let y<-elem' (iA c) i;
  lt' x y) Q c;have d:b[i]?=V b[i]:=ma (by exact an 2 0 1 0 f rfl);have e:b[i+1]?=V b[i+1]:=ma f;rw[elem'_eq,elem'_eq,g,d,e];refine hW<|me<|hW<|me ?_;rw[lt'_eq];refine hW<|uS ?_;rw[j];refine hW<|wpS_lift<|kk ?_;refine k i _ _ d e _ _ ?_;exact⟨rfl,me h⟩
theorem VL{e:Array uR}(l:Aj a w A s e){f:rZ}(k:kindOf f=ly)(j:iA f=e)(i:1<=e.size){Q:Option Nat->rZ->Prop}(h:Q (V e.size) f):wpS (ax a w) A E s (countRun' 0 e.size) Q f:=by
 rw[countRun0_eq];refine hW ?_;unfold ascLoop;refine wpS_mono (Ms (I:=λx c g=>c=(U,x)/\g=f) (Q:=λc g=>c=(U,e.size)/\g=f) ?_ ?_ ?_) ?_;.ext x c g n m d(ec d)b;have b:=b.symm;subst b;obtain⟨y,rfl⟩:∃y,x=y+1:=⟨x-1,by exact Sg n⟩;refine hW ?_;show wpS _ _ _ _ (ltAt' (y+1) y) _ _;refine VK l k j m ?_;simp only[fi,if_false];exact me ⟨rfl,rfl⟩
 .ext c g d(ec d)b;have b:=b.symm;subst b;exact⟨by rw[W3 i],rfl⟩
 .exact⟨rfl,rfl⟩
 .ext c g d(ec d)b;have b:=b.symm;subst b;dsimp only;rw[if_pos<|by simp];exact me h
theorem VM:∀(f n r:Nat),r<=1->minRun' f n r<=n+r
 |0,n,r,_=>aO _
 |f+1,n,r,b=>by
  rw[minRun'_succ];split;.exact aO _
  .rename_i h;have a:max r (n%2)<=1:=by have:=uC n (show 0<2 by decide);exact Sh b
   have:=VM f (n/2) (max r<|n%2) a;have:n/2+1<=n:=by exact Si h
   exact Sj (by assumption)
theorem VN{d:Array uR}(v:Aj a w A s d){g:rZ}(t:kindOf g=ly)(j:iA g=d)(q:uT g=U)(m:uU g=#[])(l:1<=d.size){Q:Unit->rZ->Prop}(h:∀b,iA b=d->uT b=U->Q () b):wpS (ax a w) A E s sortRuns' Q g:=by
 rw[sortRuns'_eq];refine hW<|uS ?_;dsimp only;rw[j];have u:=VM d.size d.size 0 (by exact du _ 0 1 rfl);refine hW<|wpS_mono (Ms (I:=λx c b=>(x=0/\c=(U,0)/\b=g)\/(1<=x/\c=(U,d.size)/\iA b=d/\uT b=U/\(uU b).size=1)) (Q:=λc b=>c=(U,d.size)/\iA b=d/\uT b=U/\(uU b).size=1) ?step ?fin<|.inl<|aI rfl rfl rfl) ?post
 case fin=>
  rintro c b(⟨n,_,_⟩|⟨_,p,f⟩);.exact absurd n (by rw[W3<|fd _];exact aL ‹_›)
  .exact⟨p,f⟩
 case step=>
  rintro x c b _ n(⟨rfl,rfl,rfl⟩|⟨y,rfl,f⟩)
  .dsimp only;rw[if_neg<|by exact LJ l];simp only[T2,oX];refine hW<|VL v t j l ?_;dsimp only;rw[if_neg<|by exact pr u];refine hW<|uS ?_;have o:(uU b).back?=U:=by rw[m];rfl
   rw[o];dsimp only;refine hW<|wpS_modify<|me<|.inr<|sl (by exact aO _) rfl j q ?_;show((uU b).push _).size=1;rw[m];rfl
  .dsimp only;rw[if_pos<|aO _];exact me ⟨rfl,f⟩
 case post=>
  ext c b e(ec e)f;dsimp only;refine hW<|wpS_mono (Ms (I:=λz c i=>i=b/\c=(U,())) (Q:=λc i=>i=b/\c=(U,())) ?_ (λz z r=>r) ⟨rfl,rfl⟩) ?_;.ext x c i z z e(ec e)k-;refine hW<|uS ?_;rw[if_pos<|by rw[f.2.2];exact aO 1];exact me ⟨rfl,rfl⟩
  .ext c i e(ec e)k-;exact me<|h _ f.1 f.2.1
theorem Ak(a:List ab):((a.toArray.zip a.toArray).map (·.2))=a.toArray:=by
 delta a;apply Array.ext;.simp
 .ext i b c;simp
theorem VO{d:ah}{c:List ab}{n:Nat}{P:Fin->al->Prop}(g:s.heap.get? d=V (bL "list" c.toArray n))(I:c.length<=16777216)(G:∀v∈c,∃x y,kG s.heap v x y)(H:∀(i:Nat)v u,c[i]?=V v->c[i+1]?=V u->∃x y m t,kG s.heap v x y/\kG s.heap u m t/\(x<m\/(x=m/\y<t)))(h:P (.done<|.ret .none) {s with heap:=uV s.heap d c c.toArray}):av (ax a w) A (Builtin.«list.sort» ⟨[.ref d],[]⟩) P E s:=by
 delta a w A E s d c n P;ext g I G H h;rw[list_sort_plain];have z:d<s.heap.objs.size:=ea g;have p:c.toArray.size<=DZ:=by rw[dk];simpa using I
 refine af<|Ez g rfl ?_;refine af<|Mt g rfl ?_ p<|fd _;obtain⟨j,D⟩:∃j,(s.heap.update d<|ke λ_=>#[]).get? d=V (bL "list" #[] j):=⟨_,get?_update_seq g λ_=>#[]⟩;delta j;intros _
 exact by
  refine af<|Mu D rfl ?_;refine af<|wpAny_newTuple ?_;refine af<|EA ?_;refine eh ?_;have k:(((s.heap.update d<|ke λ_=>#[]).push<|bL "tuple" c.toArray 0).push<|bL "list" #[] 0).get? d=V (bL "list" #[] j):=by rw[W4 _ _ _<|by rw[size_push',W5];exact bh<|pq z,W4 _ _ _<|by rw[W5];exact bh z];exact D
  show av (ax a w) A _ P E {s with heap:=((s.heap.update d<|ke λ_=>#[]).push<|bL "tuple" c.toArray 0).push (bL "list" #[] 0)};dsimp only
  have r:∀{v:ab}{x y:Int},kG s.heap v x y->kG (((s.heap.update d<|ke λ_=>#[]).push<|bL "tuple" c.toArray 0).push<|bL "list" #[] 0) v x y:=by
   ext v x y o(vC o)b a4 a7 u e;refine sp b a4 a7 u rfl<|bP _<|bP _ ?_;have S:b≠d:=λq=>by subst q;rw[g]at e;exact absurd (congrArg (λa5=>a5.map (·.cls)) e) (by simp)
   exact((hS ..).2 b S).trans e
  by_cases f:c.toArray.size<2;.rw[if_pos f,if_pos f];refine af<|aC ?_;rw[StateT.run_pure];refine af<|aC ?_;dsimp only;refine af<|Mu k rfl ?_;refine af<|Mt k rfl ?_ (fd _) (hsz2:=by show((c.toArray.zip c.toArray).map (·.2)).size<=_;rw[Ak];exact an 0 0 0 1 p rfl);simp only[bne_self_eq_false,fi,if_false];refine aC ?_;have e:(Array.map (λx=>x.snd)<|iA<|SortSt.mk' Ey (c.toArray.zip c.toArray) #[] 7 U)=c.toArray:=Ak c;show P _ {s with heap:=uV s.heap d c (Array.map (λx=>x.snd)<|iA<|SortSt.mk' Ey (c.toArray.zip c.toArray) #[] 7 U)};rw[e];exact h
  .rw[if_neg f,if_neg f];refine af<|VI (by rintro rfl;simp at f) (λv a0=>let⟨x,y,q⟩:=G v a0;(gs x y<|r q)) ?_;refine af<|ba (VN (d:=c.toArray.zip c.toArray) (g:=SortSt.mk' ly (c.toArray.zip c.toArray) #[] 7 U) ?_ rfl rfl rfl rfl (by simp at f⊢;exact an 2 0 1 0 f rfl) (Q:=λ_ l=>iA l=c.toArray.zip c.toArray/\uT l=U) λl L Q=>⟨L,Q⟩) ?_ λ_ _ e=>e;.ext i a6 q B C a9 a8 R;simp only[Array.getElem?_zip_eq_some,List.getElem?_toArray]at B C;ext(Ni:H i a6.1 q.1 B.1 C.1)x y m t a1 a2 a3;exact VJ (r a2) (r a1) a3 R
   .ext o;obtain⟨⟨⟩,l⟩:=o;ext b0 K(vA K)X T;dsimp only;refine af<|Mu k rfl ?_;rw[X,Ak];refine af<|Mt k rfl ?_ (fd _) (by exact an 0 0 0 1 p rfl);rw[T];simp only[bne_self_eq_false,fi,if_false];exact aC h
end
theorem Iy{b:Model}{A:bo}{E:ab->al->Prop}{s:al}{c:ag}{I:ah}{v:ab}{o:cx}{n:String}{Q:Unit->al->Prop}(h:s.heap.get? I=V o)(f:o.cls=.type n)(g:["enumerate","zip","dict_itemiterator","dict_reverseitemiterator","odict_iterator","itertools.zip_longest","itertools.pairwise"].contains n=aq)(q:Q () s):av b A (EB c (.ref I) v) Q E s:=by
 unfold EB
 have i:av b A (do
  let(.ref r,.ref a):=(fB I,v)|
   return
  let o<-load r
  match o.cls,o.data with
   |.type n,.fields d=>
    if["enumerate","zip","dict_itemiterator","dict_reverseitemiterator","odict_iterator","itertools.zip_longest","itertools.pairwise"].contains n&&d[0]?==V (cW a)then
     rule "for.unpacks-the-owned-tuple"
     updateField r 0 .none
   |_,_=>
    bv ()) Q E s:=by
  cases v<;>try exact aC q
  refine af<|wpAny_load h ?_;rw[f];generalize o.data=e;cases e with|fields d=>show av b A (if(_&&_)=M then _ else _) Q E s;rw[g,Bool.false_and,if_neg<|by decide];exact aC q|_=>exact aC q
 cases c<;>first|exact i|exact aC q
section
variable{T:bf}{A:bo}{X a h:List ah}{H:J}{s e:al}{b:cl}{d:cD}{r:am}{i j k:Nat}{n m o:N}{c f g:Option ah}{x y z:O}{v u w:ab}
theorem fq{i:Nat}{n:N}{c:Option ah}(h:d[i]?=V (V (n,c))):c.getD b.locals∈cZ b d:=by unfold cZ;cases c with|none=>exact .head _|some c=>refine .tail _<|rY.mpr<|ad _ (bs h) rfl
def hF(b:cl)(n:N)(c:Option ah):Prop:=c=U\/b.kindOf n=V .cell
theorem lz(t:ih b d)(h:bq T b d a r s.heap)(R:ai T a H s.heap)(m:d[i]?=V (V (n,c)))(q:hF b n c)(l:c.getD b.locals∈X)(o:ae a x v){p:aE}:av (ax T.b T.a) A (iB (.Name n p) b v) (λw e=>bg X a s a e/\ai T a H e.heap/\bq T b d a (r.set i<|V x) e.heap) (λw w=>False) s:=wpAny_assign_Name<|ba (HH t h R m q o) (λw e u=>bD u λf j c=>aI (f.zb λf g=>by rw[hV]at g;subst g;exact l) j c) λw w k=>k
theorem od(q:ih b d)(h:bq T b d a r s.heap)(R:ai T a H s.heap)(m:d[i]?=V (V (n,c)))(p:hF b n c)(l:c.getD b.locals∈X)(o:ae a x v):av (ax T.b T.a) A (storeName b n v) (λw e=>bg X a s a e/\ai T a H e.heap/\bq T b d a (r.set i<|V x) e.heap) (λw w=>False) s:=ba (HH q h R m p o) (λw e t=>bD t λf j c=>aI (f.zb λf g=>by rw[hV]at g;subst g;exact l) j c) λw w k=>k
theorem tq{c:bS}(k:∀b o,s.heap.get? b=V o->c.get? b=V o):bg X a s a {s with heap:=c}:=⟨eg _,⟨rfl,rfl⟩,λb o e w w=>k b o e,λb o e=>⟨o,k b o e⟩,λw h=>.inl h⟩
theorem tr{a:bS}(c:Ev s.heap.objs.size s.heap a):∀b o,s.heap.get? b=V o->a.get? b=V o:=λb o e=>c b o (bh<|ea e) e
theorem ai.zs(R:ai T a H s.heap)(h:H[i]?=V (.b [x,y]))(f:ae a (.a i) v):∃e c d,v=.ref e/\s.heap.IsTuple e #[c,d]/\ae a x c/\ae a y d:=by
 delta T a H s i x y v;ext R h f(bt f)e m(bk:R.zd h m)o n l b w(bk:b.zb)c p g j b;obtain⟨d,q,rfl,k,b⟩:=b.zb;rw[b.zc]at g;have:o=#[c,d]:=by rw[<-Mv,g]
 subst this;exact gt e c d rfl (aT _ l rfl ⟨_,rfl⟩) j k
theorem ai.zv(R:ai T a H s.heap)(h:H[i]?=V (.b [x,y,z]))(g:ae a (.a i) v):∃f c d e,v=.ref f/\s.heap.IsTuple f #[c,d,e]/\ae a x c/\ae a y d/\ae a z e:=by
 delta T a H s i x y z v;ext R h g(bt g)@f p
 exact by
  ext(bk:R.zd h p)q n o b w(bk:b.zb)c r j k b;obtain⟨d,t,rfl,l,b⟩:=b.zb;obtain⟨e,u,rfl,m,b⟩:=b.zb;rw[b.zc]at j;have:q=#[c,d,e]:=by rw[<-Mv,j]
  subst this;exact dY f c d e rfl (aT _ o rfl ⟨_,rfl⟩) k l m
abbrev fr(T:bf)(b:cl)(d:cD)(X a:List ah)(H:J)(s:al)(c:am)(e:al):Prop:=bg X a s a e/\ai T a H e.heap/\bq T b d a c e.heap
theorem fr.za{i f:am}{c:al}(h:fr T b d X a H s i e)(g:fr T b d X a H e f c):fr T b d X a H s f c:=⟨h.1.za g.1,g.2⟩
theorem Iz{f g:ab->cN Unit}{i j:am}(m:∀s,bq T b d a r s.heap->ai T a H s.heap->av (ax T.b T.a) A (f v) (λw e=>fr T b d X a H s i e) (λw w=>False) s)(n:∀s,bq T b d a i s.heap->ai T a H s.heap->av (ax T.b T.a) A (g u) (λw e=>fr T b d X a H s j e) (λw w=>False) s)(k:bq T b d a r s.heap)(R:ai T a H s.heap):av (ax T.b T.a) A (EC [f,g] [v,u]) (λw e=>fr T b d X a H s j e) (λw w=>False) s:=by refine uW<|ba (m s k R) (λw o c=>?_) λw w h=>h;refine uW<|ba (n o c.2.2 c.2.1) (λw p l=>?_) λw w h=>h;exact W6<|c.za l
theorem IA{f g h:ab->cN Unit}{k l m:am}(p:∀s,bq T b d a r s.heap->ai T a H s.heap->av (ax T.b T.a) A (f v) (λB e=>fr T b d X a H s k e) (λB B=>False) s)(q:∀s,bq T b d a k s.heap->ai T a H s.heap->av (ax T.b T.a) A (g u) (λB e=>fr T b d X a H s l e) (λB B=>False) s)(t:∀s,bq T b d a l s.heap->ai T a H s.heap->av (ax T.b T.a) A (h w) (λB e=>fr T b d X a H s m e) (λB B=>False) s)(n:bq T b d a r s.heap)(R:ai T a H s.heap):av (ax T.b T.a) A (EC [f,g,h] [v,u,w]) (λB e=>fr T b d X a H s m e) (λB B=>False) s:=by refine uW<|ba (p s n R) (λB x i=>?_) λB B c=>c;refine uW<|ba (q x i.2.2 i.2.1) (λB y j=>?_) λB B c=>c;refine uW<|ba (t y j.2.2 j.2.1) (λB z o=>?_) λB B c=>c;exact W6<|(i.za j).za o
theorem Al{a2:Nat}{a3 a4 a5:aE}{z:O}{Q:am->Prop}(K:A.handled=U)(t:ih b d)(g:bq T b d a r s.heap)(R:ai T a H s.heap)(L:d[i]?=V (V (n,c)))(a0:hF b n c)(E:c.getD b.locals∈X)(P:d[j]?=V (V (m,f)))(a1:hF b m f)(G:f.getD b.locals∈X)(o:ae a z v)(h:gY i j z r H Q):av (ax T.b T.a) A (iB (.Tuple [.Name n a3,.Name m a4] a2 a5) b v) (λ_ e=>∃B,fr T b d X a H s B e/\Q B) (λ_ _=>False) s:=by refine eI h o λa7 h o=>qc h λb0 l h=>?_;ext(bp:qe h)x y p h;subst p;ext(hY:R.zs l o)a6 a8 a9 p S C D;subst p;refine W7 K S rfl rfl λq I=>?_;have k:=tr I;have w:bg [] a s a {s with heap:=q}:=tq k;refine ba (Iz (s:={s with heap:=q}) (λs g R=>lz t g R L a0 E C) (λs g R=>lz t g R P a1 G D) (g.za w)<|R.zc k) (λ_ e u=>ad _ ⟨(w.zb<|by simp).za u.1,u.2⟩ h) λ_ _ l=>l
end
section
variable{T:bf}{A:bo}{i:List ah}{q:J}{f:al}{b:cl}{d:cD}
structure fs(T:bf)(A:bo)(b:cl)(d:cD)(i:List ah)(f:al)(j:List ah)(a:List O)(e:J->Prop)(I D:ah)(h:Nat->bS->Prop)(g:am->Prop)(k:Nat)(X:List ah)(H:J)(c:List O)(s:al):Prop where
 u:bg [] i f X s
 r:j<+:X
 o:ai T X H s.heap
 p:h k s.heap
 l:I∉X/\T.c.get? I=U/\f.heap.get? I=U
 v:∃x z,s.heap.get? D=V (bL "list" x z)/\aQ (ae X) c x.toList
 m:D∉X/\T.c.get? D=U/\f.heap.get? D=U
 t:∃y,g y/\bq T b d X y s.heap
 n:f.heap.get? b.locals=U/\(∀w∈cZ b d,w≠I/\w≠D)
 q:I≠D
theorem bg.zg{d X c:List ah}{s u:al}{b:ah}(g:bg d X s c u)(f:b∉X)(a:∃o,s.heap.get? b=V o):b∉c:=λh=>by
 rcases g.e b h with h|h;.exact f h
 .ext(@aD a)o e;rw[e]at h;exact gr h
theorem bq.zc{a:cl}{d:cD}{X:List ah}{r:am}{h:bS}(c:bq T a d X r h):∃o,h.get? a.locals=V o:=by ext(_:c.c)m b w(@hX b)o w w e w;exact⟨o,e⟩
theorem oe{f:cl}{g:cD}{X:List ah}{s:am}{h:bS}(b:bq T f g X s h):∀a∈cZ f g,a∉X/\T.c.get? a=U/\∃o,h.get? a=V o:=by
 ext a d;unfold cZ at d;rcases bM.mp d with rfl|d;.exact aI b.a.1 b.a.2 b.zc
 .ext(_:rY.mp d)x r e(aD:fe r)i q;cases x with|none=>cases e|some x=>obtain⟨n,c⟩:=x;simp at e;subst e;ext(ei:b.b i n a q)l t m j(j)u k w(k)o p w;exact aI l m ⟨o,p⟩
theorem bq.zb{b:cl}{d:cD}{X:List ah}{q:am}{h f:bS}(s:bq T b d X q h)(k:∀a∈cZ b d,∀o,h.get? a=V o->f.get? a=V o):bq T b d X q f:=by
 obtain⟨D,⟨m,j,E⟩,B,C⟩:=s;refine⟨D,ad m ?_ E,B,λi n c g=>?_⟩;.ext(@hX j)o u t e r;exact ks o u t (k _ (.head _) _ e) r
 .ext(ei:C i n c g)v w x l(l)G p A(p)o y z;exact dC v w x<|ad G (ad o (k _ (fq g) _ y) z) A
structure IB(T:bf)(b:cl)(d:cD)(i:List ah)(f:al)(D:ah)(X:List ah)(H:J)(c:List O)(s:al):Prop where
 a:bg [] i f X s
 e:ai T X H s.heap
 g:∃k n,s.heap.get? D=V (bL "list" k n)/\aQ (ae X) c k.toList
 h:∃r,bq T b d X r s.heap
 j:D∉X
variable{j:List ah}{a:List O}{e:J->Prop}{I D:ah}{h:Nat->bS->Prop}{g:am->Prop}{k:Nat}{X:List ah}{H:J}{c:List O}{s:al}{n:O->J->(am->Prop)->Prop}{m:am->J->(Bool->J->Prop)->Prop}{l:am->J->au->Prop}{Q:List O->J->Prop}{o p:ag}
structure IC(T:bf)(A:bo)(b:cl)(d:cD)(g:am->Prop)(n:O->J->(am->Prop)->Prop)(c:am->J->(Bool->J->Prop)->Prop)(l:am->J->au->Prop)(o:ag)(k:cN Bool)(p:cN ab):Prop where
 a:∀X H s x v i(h:am->Prop),g i->bq T b d X i s.heap->ai T X H s.heap->ae X x v->n x H h->av (ax T.b T.a) A (iB o b v) (λw u=>∃f,fr T b d [b.locals] X H s f u/\g f/\h f) (λw w=>False) s
 c:∀X H s f(h:Bool->J->Prop),bq T b d X f s.heap->ai T X H s.heap->c f H h->eW T A [] X s k λj w I w=>h j I
 e:∀X H s f(h:au),bq T b d X f s.heap->ai T X H s.heap->l f H h->aU T A [] X s p h
theorem fs.za{p:List ah}{w:J}{u:al}{q:List ah}(l:fs T A b d i f j a e I D h g k X H c s)(y:hc T A j a e I h)(m:bg q X s p u)(t:∀r∈q,r=b.locals)(C:ai T p w u.heap){v:am}(G:g v)(B:bq T b d p v u.heap):fs T A b d i f j a e I D h g k p w c u:=by ext(bp:l.v)a0 n x L(_:l.t)a4 a2 a1;have Q:b.locals∈cZ b d:=.head _;have z:=l.n.2 _ Q;have S:I∉q:=λo=>z.1 (t _ o).symm;have R:D∉q:=λo=>z.2 (t _ o).symm;have P:=y.b _ _ l.p;refine⟨?_,l.r.trans m.a,C,y.a _ _ _ l.p λa3 E=>m.b _ _ E l.l.1 S,⟨m.zg l.l.1 P,l.l.2⟩,bK a0 n (m.b _ _ x l.m.1 R)<|L.ze λ_ _ o=>o.za m.a,⟨m.zg l.m.1 ⟨_,x⟩,l.m.2⟩,ad v G B,l.n,l.q⟩;have:bg (b.locals::[]) i f p u:=(l.u.zb<|by simp).za (m.zb λr K=>by rw[t r K];exact .head _);exact this.zf l.n.1
theorem fs.zb(a0:A.handled=U)(l:fs T A b d i f j a e I D h g k X H c s)(P:hc T A j a e I h)(E:e H){x:O}(L:a[k]?=V x):av (ax T.b T.a) A (eb<|.ref I) (λr u=>∃w,r=V w/\ae X x w/\fs T A b d i f j a e I D h g (k+1) X H c u) (λ_ _=>False) s:=by
 refine ba (P.d k X H s x l.r l.o E l.p l.l.1 l.l.2.1 L) (λr u R=>vv R λw m K C o y=>aT w m K ?_) λ_ _ m=>m;ext(bp:l.v)v n B G(_:l.t)S z p;have Q:u.heap.get? D=V (bL "list" v n):=o.b _ _ B l.m.1 (by simp only[hV];exactλm=>l.q m.symm);refine⟨?_,l.r,y,C,l.l,bK v n Q G,l.m,ad S z<|p.zb λq t a1 m=>?_,l.n,l.q⟩;.have:bg (I::[]) i f X u:=(l.u.zb<|by simp).za o;exact this.zf l.l.2.2
 .exact o.b _ _ m (oe p q t).1 (by simp only[hV];exact(l.n.2 q t).1)
theorem fs.zc{x:O}{v:ab}(l:fs T A b d i f j a e I D h g k X H c s)(a1:hc T A j a e I h)(S:ae X x v)(a0:c.length<=16777000){P E:ab->al->Prop}(G:∀a5 y,fs T A b d i f j a e I D h g k X H (c++[x]) y->P a5 y):av (ax T.b T.a) A (bT (.builtin "list.append") [.ref D,v]) P E s:=by
 ext(bp:l.v)p a2 t w(_:l.t)a6 C z;have L:=w.za;have Q:p.toList.length=p.size:=hq;refine lV LU (ad _ t rfl) R5 (R6 _ _) (R7 D p a2 v<|by rw[dk];exact aA 0 0 0 16777000 0 16777216 (aj (ar Q)<|ar L) a0 rfl) ⟨t,?_⟩;ext(aD:wm t (λp=>p.push v))a3 R;have a4:kT D s.heap<|s.heap.update D<|ke λp=>p.push v:=hS ..;have r:∀n o,n≠D->s.heap.get? n=V o->(s.heap.update D<|ke λp=>p.push v).get? n=V o:=λn o u m=>(a4.2 n u).trans m;refine G _ _ ⟨?_,l.r,?_,a1.a _ _ _ l.p λo m=>r _ _ l.q m,l.l,bK _ a3 R ?_,l.m,ad a6 C<|z.zb λB K o m=>r _ _ (l.n.2 B K).2 m,l.n,l.q⟩;.exact l.u.zd ⟨⟨rfl,rfl⟩,r⟩ l.m.2.2
 .exact l.o.zk (λn o m=>r n o (λq=>by have q:=q.symm;subst q;rw[l.m.2.1]at m;exact cn m)<|l.o.b n o m) λn u o m=>r n o (λq=>l.m.1<|q▸u) m
 .rw[Ea];exact w.zf<|.a S .b
theorem fs.zd(P:A.handled=U)(l:fs T A b d i f j a e I D h g k X H c s)(C:hc T A j a e I h)(y:e H)(B:k=a.length):av (ax T.b T.a) A (eb<|.ref I) (λr u=>r=U/\IB T b d i f D X H c u) (λQ Q=>False) s:=by refine ba (C.e k X H s l.r l.o y l.p l.l.1 l.l.2.1 B) (λr u G=>bD G λm p t=>⟨m,?_⟩) λQ Q m=>m;ext(bp:l.v)E n w z(_:l.t)K L q;exact⟨l.u.zd p l.l.2.2,t,bK E n (p.2 _ _ (cy l.q) w) z,⟨K,q.zb λv x o m=>p.2 _ _ (l.n.2 v x).1 m⟩,l.m.1⟩
theorem fs.ze(l:fs T A b d i f j a e I D h g k X H c s)(t:hc T A j a e I h){v:ab}{P:Unit->al->Prop}{E:ab->al->Prop}(m:P () s):av (ax T.b T.a) A (EB o (.ref I) v) P E s:=by ext(bk:t.c _ _ l.p)u n r p q;exact Iy r p q m
theorem ID{b:Type}{a:List b}{k:Nat}(h:k<a.length):∃x,a[k]?=V x/\a.drop k=x::a.drop (k+1):=ad (a[k]) (by simp[h])<|mf h
theorem VP(a9:A.handled=U){a0:List ag}{c6:ag}{c9:fh}{c7:aE}{b3:cN Bool}{R:mg->al->Prop}(B:hc T A j a e I h)(c3:(a0=[]/\∀g0 H Q,m g0 H Q->Q M H)\/∃x,a0=[x]/\b3=ko x b (ca x b))(a4:IC T A b d g n m l o b3<|ca p b)(c2:∀X H c s,IB T b d i f D X H c s->c.length<=16777001->Q c H->R (.ok .next) s)(x:fs T A b d i f j a e I D h g 0 X H [] s)(b9:eL n m l e a [] H Q):hT (ax T.b T.a) A (.compLoop (.ListComp p [⟨o,c6,a0,0⟩] c9 c7) 0 (.ref I) (.ref D) b) R s:=by
 revert a9 B c3 a4 c2 x b9;revert T A i f b d j a e I D h g X H s n m l Q o p a0 c6 c9 c7 b3 R;ext@T@A@i@f@b@d@j@a@e@I@D@h@g@X@H@s@n@m@l@Q@o@p@a0@c6@c9@c7@b3@R a9 B c3 a4 c2 x b9;let S:Nat->al->Prop:=λw s=>∃k X H c,(k<=a.length/\c.length<=16777001)/\w=a.length-k/\fs T A b d i f j a e I D h g k X H c s/\eL n m l e (a.drop k) c H Q;have d5:S (a.length-0) s:=mm 0 X H ([]) ⟨fd _,by simp⟩ rfl x (by simpa using b9);have d3:∀w k X H c s(E:ab->al->Prop)u,k<a.length->w=a.length-k->fs T A b d i f j a e I D h g (k+1) X H c s->bq T b d X u s.heap->g u->l u H (λv b6=>c.length<=16777000/\eL n m l e (a.drop<|k+1) (c++[v]) b6 Q)->av (ax T.b T.a) A (ca p b) (λb4 f8=>av (ax T.b T.a) A (bT (.builtin "list.append") [.ref D,b4]) (λ_ f9=>∃d9,d9<w/\S d9 f9) E f8) E s:=by rintro w k X H c s E u y rfl x d0 e9 z;refine ba (a4.e X H s u _ d0 x.o z) (λv e1 t=>bk t λb5 a5 K b7 L=>bd L λb4 c5 d8 C=>?_) λ_ _ q=>q.elim;have a7:=x.za B K (by simp) b7 e9<|d0.za K;exact a7.zc B c5 d8 λe5 g3 e8=>ad (a.length-(k+1)) (by exact vK y)<|mm (k+1) b5 a5 _ ⟨y,by rw[hR,List.length_singleton];exact an 0 16777000 1 16777001 d8 rfl⟩ rfl e8 C
 have e4:∀w s,S w s->∀(E:ab->al->Prop),av (ax T.b T.a) A (eb<|.ref I) (λr e2=>match r with|U=>R (.ok .next) e2|V v=>av (ax T.b T.a) A (EB o (.ref I) v) (λ_ f7=>av (ax T.b T.a) A (iB o b v) (λ_ e3=>∃k X H c u,(k<a.length/\c.length<=16777001)/\w=a.length-k/\fs T A b d i f j a e I D h g (k+1) X H c e3/\bq T b d X u e3.heap/\g u/\m u H λb8 d2=>if b8 then l u d2 (λv b6=>c.length<=16777000/\eL n m l e (a.drop<|k+1) (c++[v]) b6 Q)else eL n m l e (a.drop<|k+1) c d2 Q) E f7) E e2) E s:=by
  ext w s t(FA t)k X H c L x z(@ac L)y a3 E;rcases nt k a.length with d7|f3;.ext(_:ID d7)b4 f5 f2;rw[f2]at z;unfold eL at z;ext(@ac z)f4 f1;refine ba (x.zb a9 B f4 f5) (λr b2 t=>bd t λe5 q c5 G=>?_) λ_ _ q=>q.elim;subst q;ext(G.ze:B)(_:G.t)g1 f0 e6;refine ba (a4.a X H b2 b4 e5 g1 _ f0 e6 G.o c5 f1) (λ_ e0 t=>bd t λu L d4 C=>bD L λf6 e7 d1=>?_) λ_ _ q=>q.elim;exact pK k X H c u ⟨d7,a3⟩ rfl (G.za B f6 (by simp) e7 d4 d1) d1 d4 C
  .have:k=a.length:=by exact be y f3
   subst this;rw[W8]at z;unfold eL at z;refine ba (x.zd a9 B z.1 rfl) (λr b2 t=>ac t λq G=>?_) λ_ _ q=>q.elim;subst q;exact c2 _ _ _ _ G a3 z.2
 rcases c3 with⟨rfl,c4⟩|⟨g2,rfl,c4⟩;.refine kcp_loop S (λw s c1=>?_) _ d5;refine ba (e4 w s c1 _) (λr b2 a1=>?_) λ_ _ q=>q;cases r with|none=>exact a1|some v=>refine ba a1 (λ_ e0 c0=>ba c0 (λ_ c8 a2=>?_) λ_ _ q=>q) λ_ _ q=>q;ext(@Fa a2)k X H c u t b0 a6 P a8 C(@ac t)y a3;have:=c4 _ _ _ C;simp only[if_true]at this;exact d3 w k X H c c8 _ u y b0 a6 P a8 this
 .refine kct_loop S (λw s c1=>?_) _ d5;refine ba (e4 w s c1 _) (λr b2 a1=>?_) λ_ _ q=>q;cases r with|none=>exact a1|some v=>refine ba a1 (λ_ e0 c0=>ba c0 (λ_ c8 a2=>?_) λ_ _ q=>q) λ_ _ q=>q;ext(@Fa a2)k X H c u t b0 a6 P a8 C(@ac t)y a3;have d6:=a4.c X H c8 u _ P a6.o C;rw[c4]at d6;refine ba d6 (λb8 e1 t=>bk t λb5 a5 K b7 b1=>?_) λ_ _ q=>q.elim;have a7:=a6.za B K (by simp) b7 a8<|P.za K;cases b8 with|true=>simp only[if_true]at b1⊢;exact d3 w k b5 a5 c e1 _ u y b0 a7 (P.za K) a8 b1|false=>simp only[fi,if_false]at b1⊢;exact ad (a.length-(k+1)) (by exact NQ b0 y)<|mm (k+1) b5 a5 c ⟨y,a3⟩ rfl a7 b1
end
noncomputable def ct(b:cl)(a:List<|N×ah)(x:N×fV):List<|N×ah:=if x.2=.free then(x.1,(b.cells.lookup x.1).getD 0)::a else a
theorem VQ{b:cl}{f:N×fV->List (N×ah)->cN (ForInStep<|List<|N×ah)}:∀(l:List<|N×fV)(a:List<|N×ah),(∀x∈l,∀a,f x a=bv (.yield<|ct b a x))->forIn l a f=bv (l.foldl (ct b) a)|[],a,_=>rfl|x::l,a,h=>by rw[W0,h x<|.head _];show forIn l (ct b a x) f=_;exact VQ l _ λy c=>h y<|.tail _ c
theorem VR{b:fh}{a:cl}(h:∀x∈b.names,x.2=.free->∃c,a.cells.lookup x.1=V c):Mw b a=bv (b.names.foldl (ct a) []):=by
 unfold Mw;dsimp only;rw[VQ (b:=a) b.names []];.rfl
 .rintro⟨n,k⟩f g;unfold ct;by_cases d:k=.free;.subst d;ext(aD:h _ f rfl)c e;simp only[beq_self_eq_true,if_true,cellOf,e,Option.getD_some];rfl
  .have:(k==NameKind.free)=aq:=by simpa using d
   simp only[this,fi,if_false,d]
theorem VS{b:cl}{n:N}:∀(l:List<|N×fV)(a:List<|N×ah),n∉l.map (·.1)->(l.foldl (ct b) a).lookup n=a.lookup n
 |[],a,_=>rfl
 |x::l,a,h=>by
  simp only[dm,bM,not_or]at h;rw[nr,VS l _ h.2];unfold ct;split
  .rw[kh];have:(n==x.1)=aq:=by simpa using h.1
   rw[this]
  .rfl
theorem VT{d:cl}{n:N}{c:ah}(e:d.cells.lookup n=V c):∀(l:List<|N×fV)(a:List<|N×ah),(l.map (·.1)).Nodup->(n,NameKind.free)∈l->(l.foldl (ct d) a).lookup n=V c
 |[],a,_,h=>nomatch h
 |x::l,a,b,h=>by
  simp only[dm,gR]at b;rcases bM.mp h with rfl|h;.rw[nr,VS l _ b.1];unfold ct;simp[e]
  .rw[nr];exact VT e l _ b.2 h
theorem Am{a:Type}{l:List<|N×a}{n:N}{k:a}(h:l.lookup n=V k):(n,k)∈l:=by
 induction l with
 |nil=>simp at h
 |cons x l b=>
  rw[kh]at h;split at h;.rename_i e;cases h;have:=cV e;subst this;exact .head _
  .exact .tail _<|b h
theorem qI{b:Type}{l:List<|N×b}{n:N}{k:b}(a:(l.map (·.1)).Nodup)(h:(n,k)∈l):l.lookup n=V k:=by
 induction l with
 |nil=>nomatch h
 |cons x l c=>
  simp only[dm,gR]at a;rw[kh];rcases bM.mp h with rfl|h;.simp
  .have:(n==x.1)=aq:=by rw[beq_eq_false_iff_ne];rintro rfl;exact a.1<|jo (f:=(·.1)) h
   rw[this];exact c a.2 h
theorem lA{a:Type}{l:List<|Nat×a}{n:Nat}{k:a}(h:l.lookup n=V k):(n,k)∈l:=by
 induction l with
 |nil=>simp at h
 |cons x l b=>
  rw[kh]at h;split at h;.rename_i e;cases h;have:=cV e;subst this;exact .head _
  .exact .tail _<|b h
theorem VU{i j:Type}{l:List<|i×j}(h:(l.map (·.2)).Nodup){a f:i}{b:j}(c:(a,b)∈l)(d:(f,b)∈l):a=f:=by
 induction l with
 |nil=>nomatch c
 |cons x l k=>
  simp only[dm,gR]at h;rcases bM.mp c with g|c<;>rcases bM.mp d with e|d;.rw[<-g]at e;cases e;rfl
  .exact absurd (jo (f:=(·.2)) d) (by rw[<-g]at h;exact h.1)
  .exact absurd (jo (f:=(·.2)) c) (by rw[<-e]at h;exact h.1)
  .exact k h.2 c d
def em(b:fh)(a:cD)(d:List<|Nat×N):cD:=(cv a.length).map λj=>match d.lookup j with|V n=>V (n,U)|U=>match a[j]? with|V (V (n,V c))=>if b.names.lookup n==V .free then V (n,V c)else U|_=>U
theorem lB{d:fh}{f:cD}{b:List<|Nat×N}{i:Nat}{n:N}{c:Option ah}(h:(em d f b)[i]?=V (V (n,c))):(b.lookup i=V n/\c=U)\/(b.lookup i=U/\∃a,c=V a/\f[i]?=V (V (n,V a))/\d.names.lookup n=V .free):=by
 delta d f b i n c;ext h;unfold em at h;rw[dN]at h;ext(_:jn.mp h)@j k e
 exact by
  have p:j=i:=by rw[nw<|by have:=(bi.mp k).1;simpa using this]at k;exact(bj k).symm
  subst p;split at e;.rename_i m g;cases e;exact .inl ⟨g,rfl⟩
  .rename_i g;split at e
   .rename_i m a l;split at e;.rename_i o;cases e;exact .inr ⟨g,aT a rfl l<|by simpa using o⟩
    .exact cn e
   .exact cn e
theorem tt{d:fh}{b:cD}{a:List<|Nat×N}{i:Nat}{n:N}(c:i<b.length)(h:a.lookup i=V n):(em d b a)[i]?=V (V (n,U)):=by unfold em;rw[dN,nw c];simp[h]
structure mM(h:cm)(g:fh)(j:List<|Nat×N):Prop where
 b:g.kind=.function
 c:(g.names.map (·.1)).Nodup
 d:∀x∈g.names,x.2=.local\/x.2=.globalImplicit\/(x.2=.free/\h.ze x.1=M/\(∃i:Nat,h.a[i]?=V (V x.1))/\h.b.lookup x.1≠V .local)
 a:∀t∈j,t.1<h.a.length/\g.names.lookup t.2=V .local/\(t.2==("__debug__":N))=aq/\(t.2==("__classdict__":N))=aq
 e:(j.map (·.1)).Nodup
 f:(j.map (·.2)).Nodup
theorem of{g:cm}{a:fh}{b:List<|Nat×N}(h:ls g a b=M):mM g a b:=by
 delta g a b;ext h;unfold ls at h;simp only[bA,decide_eq_true_eq,eQ]at h;ext(@ac h)c q(@ac c)d p(@ac d)f o(@ac f)i n(@ac i)l m;refine⟨by simpa using l,m,λx s=>?_,λt r=>?_,p,q⟩
 .delta x;intros _
  exact by
   have:=n x s;simp only[iC,bA,beq_iff_eq,bne_iff_ne,ne_eq,En]at this;rcases this with(h|h)|⟨⟨⟨h,j⟩,⟨y,u,e⟩⟩,k⟩;.exact .inl h
   .exact .inr<|.inl h
   .subst e;exact .inr<|.inr<|dC h j (fe u) k
 .have:=o t r;simp only[bA,beq_iff_eq,bne_iff_ne,ne_eq,decide_eq_true_eq]at this;exact dC this.1.1.1 this.1.1.2 (by simpa using this.1.2) (by simpa using this.2)
section
variable{T:bf}{A:bo}{X:List ah}{H:J}{s:al}{b:cl}{e:cD}{d:Nat}{g:cm}{a:fh}{c:List<|Nat×N}{C:ah}{r:am}
theorem VV(B:cL T A d b e g)(j:mM g a c){n:N}(h:a.names.lookup n=V .free):∃(i:Nat)(f:ah),e[i]?=V (V (n,V f))/\b.cells.lookup n=V f:=by
 delta T A b e d g a c n at B j h;rcases j.d _ (Am h)with h|h|⟨_,o,⟨i,m⟩,l⟩;.cases h
 .cases h
 .ext(aD:B.e i n m)f k;cases f with|none=>have:=B.a.c i n k;rw[B.d]at l;exact absurd this l|some f=>exact bK i f k<|(B.a.b i n f k).2
theorem qJ(B:cL T A d b e g)(j:mM g a c):Mw a b=bv (a.names.foldl (ct b) [])/\∀n f,a.names.lookup n=V .free->b.cells.lookup n=V f->(a.names.foldl (ct b) []).lookup n=V f:=by refine⟨VR λx o m=>?_,λn f h l=>VT l _ _ j.c<|Am h⟩;obtain⟨n,k⟩:=x;simp at m;subst m;ext(bp:VV B j (qI j.c o))i f w l;exact⟨f,l⟩
theorem VW{a:List<|N×fV}{n:N}{p:N->Bool}(h:a.lookup n=V .free):(a.map λ(x:N×fV)=>if(x.2==.free&&p x.1)=M then(x.1,NameKind.cell)else(x.1,x.2)).lookup n=V (if p n then .cell else .free):=by
 delta a n p;ext h
 induction a with
 |nil=>simp at h
 |cons x l d=>
  delta x l;intros _
  exact by
   rw[kh]at h;rewrite[dm,kh];have b:(if(x.2==.free&&p x.1)=M then(x.1,NameKind.cell)else(x.1,x.2)).1=x.1:=by split<;>rfl
   rewrite[b];split at h;.rename_i e;have:=cV e;subst this;have c:x.2=.free:=bj h;rewrite[c];cases f:p x.1<;>simp
   .exact d h
theorem VX(B:cL T A d b e g)(p:mM g a c):ih (dX a (a.names.foldl (ct b) []) C b)<|em a e c where
 a:=p.b;d:=B.a.d;f:=B.a.f;c:=λi n h=>by
  rcases lB h with⟨l,_⟩|⟨_,o,f,_⟩;.exact lookup_relabel_local (p.a _<|lA l).2.1
  .exact cn f
 b:=λi n r h=>by
  rcases lB h with⟨_,f⟩|⟨_,o,f,l,t⟩;.exact gr f
  .have f:=bj f;subst f;ext(ac:B.a.b i n r l)k y;refine⟨?_,(qJ B p).2 n r t y⟩;have:(dX a (a.names.foldl (ct b) []) C b).kindOf n=V (if(b.scope.kind==.function&&b.kindOf n==V .cell)then .cell else .free):=by have:=VW (p:=λm=>b.scope.kind==.function&&b.kindOf m==V .cell) t;refine Eq.trans ?_ this;show(md _ _).lookup n=_;congr 1;refine jp λx H=>?_;obtain⟨o,E⟩:=x;simp only[Bool.and_assoc]
   rw[this];split;.exact .inl rfl
   .exact .inr rfl
 g:=λi n r h=>by
  rcases lB h with⟨l,_⟩|⟨_,o,f,l,_⟩;.exact(p.a _<|lA l).2.2
  .exact B.a.g i n _ l
 e:=λi j n r z G h v u=>by
  rcases lB h with⟨l,rfl⟩|⟨_,o,rfl,l,t⟩<;>rcases lB v with⟨s,rfl⟩|⟨_,D,rfl,s,w⟩;.refine⟨λf=>?_,λo f=>by exact cn f⟩;subst f;exact u<|VU p.f (lA l)<|lA s
  .refine⟨λf=>?_,λo f=>by exact cn f⟩;subst f;have:=(p.a _<|lA l).2.1;rw[w]at this;cases this
  .refine⟨λf=>?_,λo f=>by ext q;exact cn q⟩;subst f;have:=(p.a _<|lA s).2.1;rw[t]at this;cases this
  .exact B.a.e i j n _ z _ l s u
theorem VY(B:cL T A d b e g):wQ a.names g.b=(ps a b).names:=by
 unfold wQ ps;refine jp λx w=>?_;obtain⟨n,k⟩:=x;rw[B.d];have:(b.scope.kind==ScopeKind.function)=M:=by rw[B.a.a];rfl
 simp only[this,Bool.and_true];rfl
theorem VZ(B:cL T A d b e g)(r:mM g a c):cL T A d (dX a (a.names.foldl (ct b) []) C b) (em a e c)<|g.zb a c where
 a:=VX B r;b:=B.b;d:=VY B;c:=by show(qu a.names g.a c).length=_;simp[qu,em,B.c]
 e:=λi n h=>by
  have h:(qu a.names g.a c)[i]?=V (V n):=h;unfold qu at h;rw[dN]at h;ext(_:jn.mp h)j p f;have q:i<g.a.length:=by have:=(bi.mp p).1;simpa using this
  have v:j=i:=by rw[nw q]at p;exact(bj p).symm
  subst v;split at f;.rename_i m o;have f:=bj f;subst f;exact⟨U,tt (by rw[<-B.c];exact q) o⟩
  .rename_i o;split at f
   .rename_i m u;split at f
    .rename_i k;have f:=(bj f).symm;subst f;have k:a.names.lookup n=V .free:=by simpa using k
     ext(aD:B.e j n u)l t;rcases r.d _ (Am k)with h|h|⟨_,w,_,s⟩;.cases h
     .cases h
     .cases l with|none=>have:=B.a.c j n t;rw[B.d]at s;exact absurd this s|some l=>refine⟨V l,?_⟩;unfold em;rw[dN,nw<|by rw[<-B.c];exact q];simp[o,t,k]
    .exact cn f
   .exact cn f
theorem Wa(B:cL T A d b e g)(L:mM g a c){t:List<|N×ah}{h:bS}(p:bq T b e X r h){l:am}(y:l.length=r.length)(u:∀i n,c.lookup i=V n->l[i]?.join=U)(v:∀i,c.lookup i=U->l[i]?.join=r[i]?.join){m:N->Option ab}(z:h.Ns C m)(w:C∉X/\T.c.get? C=U)(x:∀(i:Nat)n j,e[i]?=V (V (n,V j))->j≠C):bq T (dX a t C b) (em a e c) X l h where
 d:=by rw[y];simpa[em]using p.d
 c:=(ad m z (λi n o=>by
  rcases lB o with⟨k,_⟩|⟨_,s,f,_⟩;.rw[u i n k];trivial
  .exact cn f));a:=w;b:=λi n j o=>by
  rcases lB o with⟨_,f⟩|⟨K,s,f,k,Q⟩;.exact gr f
  .have f:=bj f;subst f;ext(ei:p.b i n j k)D P E q(q)I G H;exact dC D (x i n j k) E<|ad I G (by rw[v i K];exact H)
end
section
variable{T:bf}{A:bo}{X:List ah}{H:J}{s:al}{b:cl}{e:cD}{d:Nat}{g:cm}{a:fh}{c:List<|Nat×N}{C:ah}{r:am}{h:bS}
theorem ai.zw{D:ah}{d:cx}{o:aa}(R:ai T X H h)(j:D∉X)(k:T.c.get? D=U)(f:2<D)(m:h.get? D=V d)(n:fI T (X++[D]) (H++[o]) o d):ai T (X++[D]) (H++[o]) h:=by
 delta T X H h D d o;ext R j k f m n;refine⟨R.a,R.b,by simp[R.c],?_,?_,?_⟩;.rw[ff];refine aI R.f (by simp) ?_;ext x r y g e;simp at g;have g:=g.symm;subst g;have e:=e.symm;subst e;exact j r
 .ext b a;rcases bU.mp a with a|a;.exact R.d b a
  .simp at a;have a:=a.symm;subst a;exact⟨k,f⟩
 .ext i s c;by_cases l:i<H.length;.rw[gQ l]at c;ext(bk:R.e i s c)b t p f q;exact bu b t (iO p) f<|q.za (kS ..)<|mx.za H [o]
  .have:i=H.length:=by have:=(bi.mp c).1;simp at this;exact be (an 1 1 0 0 this rfl)<|dM l
   subst this;simp at c;subst c;exact bu D d (by rw[<-R.c];simp) m n
theorem bg.zh{c X d:List ah}{s u:al}{D:ah}(b:bg c X s d u)(e:s.heap.get? D=U):bg c X s (d++[D]) u:=⟨b.a.trans<|kS ..,b.d,b.b,b.c,λa f=>by
 rcases bU.mp f with h|h;.exact b.e a h
 .simp at h;subst h;exact .inr e⟩
theorem IE(B:cL T A d b e g)(G:mM g a c)(b1:bq T b e X r s.heap){b0 K a3:ag}{I:List ag}{b8:aE}{R:am->Prop}{w:am}{E:ab->al->Prop}{b3:O->J->(am->Prop)->Prop}{a8:am->J->(Bool->J->Prop)->Prop}{b4:am->J->au->Prop}{Q:List O->J->Prop}{a1:ab->ah->mg->al->Prop}{a9:cl->cN Bool}(d2:w.length=r.length)(c4:∀i a6,c.lookup i=V a6->w[i]?.join=U)(a4:∀i,c.lookup i=U->w[i]?.join=r[i]?.join)(c3:R w)(c9:(I=[]/\∀r H Q,a8 r H Q->Q M H)\/∃v,I=[v]/\a9=λe6=>ko v e6<|ca v e6)(y:∀C,cL T A d (dX a (a.names.foldl (ct b) []) C b) (em a e c) (g.zb a c)->IC T A (dX a (a.names.foldl (ct b) []) C b) (em a e c) R b3 a8 b4 b0 (a9<|dX a (a.names.foldl (ct b) []) C b) (ca a3<|dX a (a.names.foldl (ct b) []) C b))(c8:∀D C P c1 b9 L,bg [] X s P L->ai T P c1 L.heap->(∃f8 a6,L.heap.get? D=V (bL "list" f8 a6)/\aQ (ae P) b9 f8.toList)->(∃d5,L.heap.Ns C d5)->s.heap.get? D=U->s.heap.get? C=U->T.c.get? D=U->T.c.get? C=U->2<D->D≠C->D∉P->C∉P->b9.length<=16777001->Q b9 c1->a1 (.ref D) C (.ok .next) L)(d0:mL T A [] X s (ca K b) λd8 d6 S=>eL b3 a8 b4 d6 d8 [] S Q):av (ax T.b T.a) A (ca K b) (λx i1=>av (ax T.b T.a) A (iz x) (λf0 i2=>av (ax T.b T.a) A (nx []) (λe3 i3=>av (ax T.b T.a) A (uX a b.globals (a.names.foldl (ct b) []) [] b.qual U .none<|V b) (λe4 i4=>hT (ax T.b T.a) A (.compStart (.ListComp a3 [⟨b0,K,I,0⟩] a b8) 0 f0 e3 {e4 with scope:=ps a b}) (a1 e3 e4.locals) i4) E i3) E i2) E i1) E s:=by
 revert B G b1 d2 c4 a4 c3 c9 y c8 d0;revert T A X s b e d g a c r b0 K a3 I b8 R w E b3 a8 b4 Q a1 a9;ext@T@A@X@s@b@e@d@g@a@c@r@b0@K@a3@I@b8@R@w@E@b3@a8@b4@Q@a1@a9 B G b1 d2 c4 a4 c3 c9 y c8 d0;have e7:=B.b.a;refine ba d0 (λx i9 u=>bk u λp S f6 g2 i5=>bp i5 λd8 d6 g9 h1=>?_) λ_ _ f=>f.elim;refine ba (g9 A e7) (λf0 k u=>EY u λa0 e2 f i f1 h6 h5 e9 f7 h8=>?_) λ_ _ f=>f.elim;subst f;have b2:ai T p S k.heap:=g2.zc h8;have e0:bq T b e p r k.heap:=(b1.za f6).za f7;have d7:bg [] X s p k:=f6.za f7;have g8:∀c0∈a.names,c0.2≠.cell:=λc0 y f=>by rcases G.d c0 y with q|q|⟨q,_⟩<;>rw[f]at q<;>cases q
 refine kj<|wpAny_newFunctionEnv g8 (by ext c0 y;simp at y) (λt d4 b6=>?_) G.b;dsimp only at d4 b6⊢;generalize c7:k.heap.push {cls:=.type "list",dict:=U,data:=.seq ([]:List ab).toArray}=m at d4 b6⊢;have c5:m.objs.size=k.heap.objs.size+1:=by rw[<-c7,jq]
 have c6:k.heap.objs.size≠m.objs.size:=by rw[c5];exact bh<|mc _
 have g4:∀l,l<k.heap.objs.size->l≠m.objs.size/\l≠k.heap.objs.size:=λl e8=>⟨by rw[c5];exact bh<|pq e8,bh e8⟩;have a7:∀l o,k.heap.get? l=V o->t.get? l=V o:=λl o f=>b6.extBut l o (g4 l<|ea f).1<|bP _<|c7▸bP _ f;have g7:t.get? k.heap.objs.size=V (bL "list" #[] 0):=b6.extBut _ _ c6<|bP _<|c7▸dt _ rfl;have c2:∀j,k.heap.objs.size<=j->k.heap.get? j=U:=λj n=>gX _ n;have b5:∀j,k.heap.objs.size<=j->s.heap.get? j=U:=λj n=>by cases f:s.heap.get? j with|none=>rfl|some o=>ext(aD:d7.c j o f)i7 e5;rw[c2 j n]at e5;exact cn e5
 have f5:∀j,k.heap.objs.size<=j->j∉p:=λj n d3=>by ext(aD:b2.zn d3)o f;rw[c2 j n]at f;exact cn f
 have b7:∀j,k.heap.objs.size<=j->T.c.get? j=U:=λj n=>by cases f:T.c.get? j with|none=>rfl|some o=>have:=b2.b j o f;rw[c2 j n]at this;exact cn this
 have z:k.heap.objs.size<=m.objs.size:=by rw[c5];exact ED _
 have f3:=i.b _ _ f1;have e1:a0<k.heap.objs.size:=by ext(@aD f3)o f;exact ea f
 have f2:e2 0 t:=i.a _ _ _ f1 λo f=>a7 a0 o f;have g3:ai T p S t:=b2.zc a7;have g0:bq T b e p r t:=e0.zb λj _ o f=>a7 j o f;have f9:=VZ (C:=m.objs.size) B G;have g1:bq T (dX a (a.names.foldl (ct b) []) m.objs.size b) (em a e c) p w t:=Wa B G g0 d2 c4 a4 d4 ⟨f5 _ z,b7 _ z⟩ λh7 a6 v d1 f=>by ext(bD:oe e0 v (fq d1))_ _ u(@aD u)o a5;have:=ea a5;rw[f]at this;exact absurd this<|kc.mpr z
 have h3:=y m.objs.size f9;have i0:bg [] X s p {k with heap:=t,toks:=k.toks+([]:List (N×ab)).length}:=d7.za ⟨eg _,⟨rfl,rfl⟩,λl o f _ _=>a7 l o f,λl o f=>⟨o,a7 l o f⟩,λ_ h=>.inl h⟩
 have g5:fs T A (dX a (a.names.foldl (ct b) []) m.objs.size b) (em a e c) X s p d8 d6 a0 k.heap.objs.size e2 R 0 p S [] {k with heap:=t,toks:=k.toks+([]:List (N×ab)).length}:=by
  refine⟨i0,eg _,g3,f2,aI h6 h5 e9,bK _ _ g7 .b,aI (f5 _<|aO _) (b7 _<|aO _)<|b5 _<|aO _,ad w c3 g1,⟨b5 _ z,λj n=>?_⟩,bh e1⟩
  .unfold cZ at n;rcases bM.mp n with f|n;.rw[f];show m.objs.size≠a0/\m.objs.size≠k.heap.objs.size;exact⟨aL<|gP e1 z,cy c6⟩
   .ext(_:rY.mp n)x h2 f(aD:fe h2)h7 d1
    cases x with
    |none=>cases f
    |some x=>
     obtain⟨a6,v⟩:=x;simp at f;subst f;rcases lB d1 with⟨_,f⟩|⟨_,i6,f,h9,_⟩;.exact gr f
     .have f:=bj f;subst f;ext(bD:oe b1 j (fq h9))_ _ u(@aD u)o a5;refine⟨λf=>by subst f;rw[e9]at a5;exact cn a5,λf=>?_⟩;ext(aD:d7.c j o a5)i8 h0;have:=ea h0;rw[f]at this;exact absurd this<|np _
 have f4:hT (ax T.b T.a) A (.compLoop (.ListComp a3 [⟨b0,K,I,0⟩] a b8) 0 (.ref a0) (.ref k.heap.objs.size)<|dX a (a.names.foldl (ct b) []) m.objs.size b) (a1 (.ref k.heap.objs.size) m.objs.size) {k with heap:=t,toks:=k.toks+([]:List (N×ab)).length}:=by
  refine VP e7 i (b3:=a9<|dX a (a.names.foldl (ct b) []) m.objs.size b) ?_ h3 (λP c1 b9 L a2 h4 q=>?_) g5 h1
  .rcases c9 with h|⟨v,a4,g6⟩;.exact .inl h
   .exact .inr<|ad v a4 (by rw[g6])
  .ext(aD:a2.h)j0 d9(_:d9.c)d5 d3 _;exact c8 _ _ _ _ _ _ a2.a a2.e a2.g ⟨d5,d3⟩ (b5 _<|aO _) (b5 _ z) (b7 _<|aO _) (b7 _ z) b2.zh c6 a2.j d9.a.1 h4 q
 exact codeAny_compStart_list f4<|i.f 0 _ _ _ f2 f4
end
section
variable{T:bf}{A:bo}{X c f:List ah}{H I:J}{s e:al}{a b:O}{v u:ab}{Q:au}{d i:Nat}
theorem Wb{n:Nat}{b:List<|Int×O}{k:Int}{x:O}{w:ab}(R:ai T c H s.heap)(f:ae c (.a i) v)(d:ae c (.b k) u)(l:ae c x w)(j:H[i]?=V (.f n b))(q:Q ((fJ b k).getD x) H):aU T A X c s (bT (.builtin "dict.get") [v,u,w]) Q:=by revert T A X c H s v u Q i n b k x w;ext@T@A@X@c@H@s@v@u@Q@i@n@b@k@x@w R f d l j q(bt f)@a h;exact by ext(bz d)@t;exact by ext(_:R.zf j h)@r g o;exact by refine call_meetsIn W9 g.dictOf.typeIs PySem.F.entry_dict_get (PySem.F.args_dict_get_3 _ _ _) (meets_dict_get_default T.zb a (k:=k) nM (R.ze h) w)<|ad _ g.dictOf.mapOf ?_;have:=sO o k;cases e:fJ b k with|some y=>rw[e]at this q;ext(this)z m p;rw[m];exact dn R p q|none=>rw[e]at this q;rw[this];exact dn R l q
theorem Wc{n:Nat}{b:List<|List Int×Nat×O}(R:ai T c H s.heap)(f:ae c (.a i) v)(l:H[i]?=V (.d n b))(m:b.length<=16777216)(q:Q (.b b.length) H):aU T A X c s (bT (.builtin "len") [v]) Q:=by
 revert T A X c H s v Q i n b;ext@T@A@X@c@H@s@v@Q@i@n@b R f l m q(bt f)@a k
 exact by
  ext(kZ:R.zm l k)@o@d p e r j y
  exact by
   have B:=R.ze k;refine EE kind_len plain_len entry_len (args_len1 _) ?_;unfold Builtin.«len»;refine af (m:=oneArg "len" _)<|aC ?_;have w:MeetsIn T.b T.a (Builtin.«dict.__len__» ⟨[.ref a],[]⟩) λC R s=>∃o b g,s.heap.get? a=V o/\s.TypeIs (.ref a) "dict"/\o.data=.dict b g/\R (.ok<|.ret<|.int b.size s.toks) {s with toks:=s.toks+1}:=.of_wp λA R s x=>hY x λo b g u z t h=>by show av _ _ (dictSize a>>=_) _ _ s;unfold dictSize;refine af<|af<|ns u t<|aC ?_;show av _ _ (adQ a>>=_) _ _ s;refine af<|wpAny_pendingCount_other (by assumption) ?_;refine wpAny_ret_mkInt ?_;rw[Nat.add_zero];exact h
   refine af (m:=callSpecial? (.ref a)<|aF "__len__")<|lZ (name:=aF "__len__") e X0<|call_meetsIn X0 e PySem.F.entry_dict_len (PySem.F.args_dict_len_1 _) w<|gt o d n p e r ?_;show av _ _ _ _ _ {s with toks:=s.toks+1};refine af<|eh<|aC ?_;refine af<|wpAny_letGo ?_;show av _ _ (if((d.size:Nat):Int)<0 then _ else _) _ _ _;rw[if_neg<|by exact pP];show av _ _ (if((d.size:Nat):Int)≥2^63 then _ else _) _ _ _;rw[if_neg<|Int.not_le.mpr<|jx (aj (kb j) m) rfl];exact af<|wpAny_mkInt<|aC<|ad _ rfl<|dn (x:=.b b.length) R ⟨_,by rw[j]⟩ q
theorem An{a:bS}{p:Nat}{d:List ab}{f:Array ab}{g:List O}(R:ai T c H s.heap)(k:∀b o,s.heap.get? b=V o->a.get? b=V o)(m:∀r,aQ (ae<|c++r) g f.toList)(n:g.length<=16777216)(q:Q (.a H.length)<|H++[.a g]):fl T X c s Q (.ref a.objs.size) {s with heap:=uV (a.push<|bL "list" d.toArray 0) a.objs.size d f,toks:=p}:=by
 ext(aD:sortedHeap_at (h:=a.push<|bL "list" d.toArray 0) (a:=a.objs.size) (vs:=d) (n:=0) (out:=f) (dt _ rfl))e j;have l:s.heap.get? a.objs.size=U:=by cases q:s.heap.get? a.objs.size with|none=>rfl|some o=>exact absurd (ea<|k _ _ q)<|np _
 refine my R (λb o h=>?_) l j (R.zc k).zh (hC (m _)<|by exact an 0 16777216 0 16777217 n rfl) q;have i:=ea<|k b o h;rw[sortedHeap_old (bh i)<|by rw[jq];exact pq i];exact bP _<|k b o h
theorem Ao{o:List Int}(L:A.handled=U)(R:ai T c H s.heap)(u:ae c (.a i) v)(l:H[i]?=V (.a<|o.map .b)\/H[i]?=V (.b<|o.map .b)\/∃n e,H[i]?=V (.f n e)/\o=e.map (·.1))(h:kz o H Q):aU T A X c s (bT (.builtin "sorted") [v]) Q:=by
 delta T A X c H s v Q i o;ext L R u l h(bt u)@a w
 exact by
  ext(@ac h)m b0;refine EE Mx My Mz (MA _) ?_;unfold Builtin.«sorted»;refine af (m:=MB "sorted" 1 1 _)<|aC ?_
  have a5:∀y:List ab->al->Prop,(∀d x g,(∀b a1,s.heap.get? b=V a1->d.get? b=V a1)->rM g o->y g {s with heap:=d,toks:=x})->av (ax T.b T.a) A.in1 (collect<|.ref a) y (λ_ _=>False) s:=by
   ext y B;rcases l with l|l|⟨n,e,l,rfl⟩;.ext(co:R.za l w)g n t p z _;exact X1 a (.inl rfl) t rfl rfl (λd k=>B d s.toks g.toList k<|ll p) (by rw[dk,z];simp;exact an 1 64 0 16777216 m rfl)
   .ext(co:R.zd l w)g n t p z _;exact X1 a (.inr rfl) t rfl rfl (λd k=>B d s.toks g.toList k<|ll p) (by rw[dk,z];simp;exact an 1 64 0 16777216 m rfl)
   .ext(_:R.zf l w)f t p;have q:=p.za;simp only[bC]at m;refine kdu_collect (kdl_dict (knd:=T.zb) (kvs:=f) (ep:=n)<|R.ze w) (by simpa using L) t (by rw[dk];exact aA 0 0 1 64 0 16777216 (ar q) m rfl) λd x E k K=>B d x E.toList k ?_;ext(@ac K)b1 a9;have:∀(b3:Nat)(r:List ab)(e:List<|Int×O)(f:List<|Int×ab),aQ (iP c) e f->r.length=f.length->(∀(j:Nat)v,r[j]?=V v->∃k a2,f[j]?=V (k,a2)/\T.zb.is k v=M)->rM r (e.map (·.1)):=by ext b3 r;induction r with|nil=>ext e f C q _;have:f=[]:=uY.mp q.symm;subst this;cases C;exact .nil|cons b8 r b2=>ext e f C q P;cases C with|b=>simp at q|a b5 b7=>ext(bp:P 0 b8 rfl)k a2 G a7;simp at G;subst G;ext(aD:U8 a7)c1 b9-;have b6:k=_:=b5.1;rw[dm,<-b6];exact .cons _ _<|b2 _ _ b7 (by simpa using q) λj v u=>P (j+1) v (by simpa using u)
    exact this 0 E.toList e f p (by rw[hq];exact b1) λj v a6=>a9 j v (by rw[<-lX];exact a6)
  refine af<|a5 _ λd x g k I=>?_;have S:=IntsAre.length I;refine af<|EA ?_ (by rw[S,dk];exact an 1 64 0 16777216 m rfl);have a0:(d.push<|bL "list" g.toArray 0).get? d.objs.size=V (bL "list" g.toArray 0):=dt _ rfl;refine af<|eh<|go MC (ad _ a0 rfl) MD (list_sort_tree a0 I (by exact aA 0 0 1 64 1 64 (aw S) m rfl) λc0 b4 a3 D a4=>ad _ rfl ?_)<|ME _;refine aC<|ad _ rfl ?_;have a8:=D.length_eq;refine An R k (λc2=>Tz a3) (by rw[bC];exact aA 0 0 1 64 0 16777216 (aw a8) m rfl)<|b0 b4 D a4
theorem Wd(r:A.handled=U)(I a:ah)(u:a≠I)(o:cx)(g:Array jk)(k:Nat)(l:o.data=.dict g k):uZ T.b T.a A I [I,a] [I] g.size (λi v=>∃e,g[i]?=V e/\v=e.key) λi h=>h.IsKeyIter I a i g.size k/\h.get? a=V o where
 sub:=λb d=>by simp at d;simp[d]
 frame:=λw w w c n=>⟨c.1.at λo e=>n I (by simp) o e,n a (by simp) _ c.2⟩;item:=λi s Q E m c f=>by refine It c.1 c.2 l (ma m) λj t p=>?_;exact f _ j s.toks (ad _ (ma m) rfl) ⟨t,(p.2 a u).trans c.2⟩ λb o d e=>(p.2 b λh=>d<|by simp[h]).trans e
 done:=λs Q E c f=>Iu r c.1 c.2 l (aO _) λj q=>f j s.toks λb o d e=>q b o (λh=>d<|by simp[h]) e;self:=λw w w w c f=>Mk c.1 f
theorem We{a:ah}{o:cx}{c:Array jk}{g:Nat}(m:(a==pg)=aq)(d:o.cls=.type "dict")(j:o.data=.dict c g):KdlSrc T.b T.a "dict" a a c.size (λi v=>∃e,c[i]?=V e/\v=e.key) λh=>h.get? a=V o where
 type:=λw b=>ad o b d;there:=λw b=>⟨ea b,ea b⟩;keep:=λw w b l=>l a (.inl rfl) _ b;notList:=by decide
 notTuple:=by decide
 hint:=λw w s w b f=>kdl_hint_dict (ad o b d) f;iter:=λw s k b=>bu _ _ (λw w f=>Is m (ad o b d) b j f) (Wd k _ a (bh<|ea b) o c g j) ⟨aT _ (dt _ rfl) rfl rfl,bP _ b⟩
theorem Wf{a3:Nat}{d:List<|List Int×Nat×O}(a9:A.handled=U)(R:ai T c H s.heap)(a2:ae c (.a i) v)(a0:H[i]?=V (.d a3 d))(D:d.length<=16777216)(b3:d.Pairwise λe f=>qj e.1 f.1=M)(t:∀e∈d,∃a b,e.1=[a,b])(b6:Q (.a H.length)<|H++[.a<|d.map λe=>.a e.2.1]):aU T A X c s (bT (.builtin "sorted") [v]) Q:=by
 revert T A X c H s v Q i a3 d;ext@T@A@X@c@H@s@v@Q@i@a3@d a9 R a2 a0 D b3 t b6(bt a2)@a S
 exact by
  ext(kZ:R.zm a0 S)@o@e1 G a6 c6 P c7
  exact by
   ext(bd:R.zg a0 S)_ _ _ d0;have c9:o.cls=.type "dict":=by ext(a6)e3 k B;rw[G]at k;have k:=bj k;subst k;exact B
   refine EE Mx My Mz (MA _) ?_;unfold Builtin.«sorted»;refine af (m:=MB "sorted" 1 1 _)<|aC ?_;refine af<|kdu_collect (A:=A.in1) (We (T:=T) (R.ze S) c9 c6) (by simpa using a9) G (by rw[dk,P];exact D) λE e6 l b5 a7=>?_;ext(@ac a7)d3 d1;have a1:l.toList.length=d.length:=by rw[hq,d3,P]
   refine af<|EA ?_ (by rw[a1,dk];exact D);have b2:(E.push<|bL "list" l.toList.toArray 0).get? E.objs.size=V (bL "list" l.toList.toArray 0):=dt _ rfl
   have L:∀(j:Nat)w,l.toList[j]?=V w->∃e,d[j]?=V e/\ae c (.a e.2.1) w:=by
    ext j w p(_:d1 j w (by rw[<-lX];exact p))x b4 q-;have m:j<d.length:=by rw[<-P];exact(Eu.mp b4).1
    ext(_:c7 j _ (cu m))y K n;rw[b4]at K;have K:=bj K;subst K;exact ad _ (cu m) n
   have d6:∀{b:ah}{o:cx},s.heap.get? b=V o->(E.push<|bL "list" l.toList.toArray 0).get? b=V o:=λe=>bP _<|b5 _ _ e
   have a4:∀e∈d,∀w,ae c (.a e.2.1) w->∀x y,e.1=[x,y]->kG (E.push<|bL "list" l.toList.toArray 0) w x y:=by
    intro e g w⟨b,c8,c3⟩x y r;subst c3;have b0:=d0 e g;rw[r]at b0;ext(bk:R.zd b0 c8)d9 c1 c4 C _(bk:C.zb)e7 e4 k q C(@aD q)b7 d7(bk:C.zb)e8 e5 B q C(@aD q)b8 d8;have c2:=C.zc;subst c2;subst B;subst d7;subst d8;have:d9=#[kn x b7,kn y b8]:=by rw[<-Mv,k]
    subst this;exact sp b c1 b7 b8 rfl<|d6 c4
   refine af<|eh<|go MC (ad _ b2 rfl) MD (VO b2 (by exact aj (aw a1) D) (λw p=>?_) (λj w u p d4=>?_)<|ad _ rfl ?_)<|ME _;.ext(aD:fe p)j m(_:L j w m)e g n(hu:t e (bs g))x y r;exact gs x y<|a4 e (bs g) w n x y r
   .ext(_:L j w p)e g n(_:L (j+1) u d4)f z d2(hu:t e (bs g))x y r(hu:t f (bs z))b9 c0 a5;refine pJ x y b9 c0 (a4 e (bs g) w n x y r) (a4 f (bs z) u d2 b9 c0 a5) ?_;have b1:=(List.pairwise_iff_getElem.mp b3) j (j+1) (gy g) (gy z)<|mc _;have k:d[j]'(gy g)=e:=by have:=cu<|gy g;rw[g]at this;exact(bj this).symm
    have B:d[j+1]'(gy z)=f:=by have:=cu<|gy z;rw[z]at this;exact(bj this).symm
    rw[k,B,r,a5]at b1;exact(pt.mp b1).imp of_decide_eq_true λc5=>ac (dB.mp c5) λG t=>⟨cV G,of_decide_eq_true t⟩
   .refine aC<|ad _ rfl ?_;refine An (g:=d.map λe=>.a e.2.1) R b5 (λe0=>?_) (by rw[bC];exact D) b6;have:∀(d:List<|List Int×Nat×O)(h:List ab),h.length=d.length->(∀(j:Nat)w,h[j]?=V w->∃e,d[j]?=V e/\ae c (.a e.2.1) w)->aQ (ae<|c++e0) (d.map λe=>O.a e.2.1) h:=by ext d;induction d with|nil=>ext h I _;have:h=[]:=uY.mp I;subst this;exact .b|cons e d d5=>ext h I m;cases h with|nil=>simp at I|cons w h=>ext(_:m 0 w rfl)e2 a8 n;simp at a8;subst a8;exact .a n.zb<|d5 h (by simpa using I) λj w p=>m (j+1) w (by simpa using p)
    simpa using this d l.toList a1 L
end
theorem Wg:uJ (.type "list") "keys"=bv U:=by rw[pn,po];kernel_rfl
section
variable{a:dV}{w:bX}{A:bo}{E:ab->al->Prop}{s:al}
theorem Wh{c:ah}{i:Array ab}{k:Nat}{Q:Option ab->al->Prop}(j:s.heap.get? c=V (bL "list" i k))(m:A.handled=U)(h:∀f q,(∀b o,s.heap.get? b=V o->f.get? b=V o)->Q U {s with heap:=f,toks:=q}):av (ax a w) A (getAttr? (.ref c) "keys") Q E s:=by
 delta a w A E s c i k Q;ext j m h;obtain⟨r,g,d,q,t⟩:=s;have n:∀l,(⟨r,g,d,l,t⟩:al).TypeIs (.ref c) "list":=λD=>ad _ j rfl;have u:=sub_AttributeError;have v:=MF.lookup;have x:=MF.bind<|.ref c;have y:=am_list_getattr_none;unfold getAttr? getAttrBy?;refine af<|wpAny_mkText ?_;refine af<|kk ?_;unfold getAttrBy;repeat(any_goals(first|assumption|exact n _|((with_reducible show av _ _ (bT (Value.builtin "list.__getattribute__") _ _) _ _ _);refine lV MF (n _) am_entry_list_getattribute (PySem.F.args_list_getattribute_2 _ _) (meets_getattribute_miss_list c i k #[] "keys" _ Wg (by decide)<|by size_fits)<|aI j m λf l e p=>?_)|wp_step))
 ext(hu:p.there)B C z;show av _ _ (X2 _ _ _ _ _ _ _) _ _ _;unfold X2;repeat(any_goals(first|assumption|wp_step))
 exact h f l p.keeps
end
theorem IF:rU rV "dict.update.loop"=V Builtin.«dict.update.loop»:=Mn (by kernel_rfl)
theorem tu:plainId "dict.update.loop"=M:=by decide+kernel
section
variable{T:bf}{A:bo}{X c f:List ah}{H I:J}{s e:al}{a b:O}{v u:ab}{Q:au}{d i:Nat}
noncomputable abbrev mN(a:List<|List Int×Nat×O×Nat):List<|List Int×Nat×O:=a.map λp=>(p.1,p.2.1,p.2.2.1)
theorem Wi{b:List<|List Int×Nat×O}{d:List<|List Int×ah×ab}{k:List Int}(h:aQ (gW c) b d)(a:k∉b.map (·.1)):lW d k=U:=by induction h with|b=>rfl|a r t f=>simp only[dm,bM,not_or]at a;unfold lW at*;rw[kU];rename_i i g _ _;have:aP (g.1=k)=aq:=decide_eq_false λe=>a.1<|e.symm.trans r.1;rw[this];exact f a.2
theorem Wj{L D I:ah}{a:List<|List Int×Nat×O×Nat}(b5:A.units+4<iy)(b1:A.handled=U)(E:H[i]?=V (.a<|a.map λp=>.a p.2.2.2))(C:c[i]?=V L)(b3:(a.map (·.1)).Nodup)(b8:a.length<=16777216)(q:∀p∈a,H[p.2.2.2]?=V (.b [.a p.2.1,p.2.2.1])/\H[p.2.1]?=V (.b<|p.1.map .b))(B:I∉c)(a9:D∉c)(u:D≠I)(z:T.c.get? I=U)(a7:T.c.get? D=U){y:mg->al->Prop}:∀(k j:Nat)(s:al)(r:List<|List Int×ah×ab),a.length-j=k->j<=a.length->ai T c H s.heap->s.heap.IsListIter I L j->s.heap.DictOfH T.za D r->aQ (gW c) (mN<|a.take j) r->(∀f c2 X,ai T c H f->f.DictOfH T.za D X->aQ (gW c) (mN a) X->(∀b o,b≠D->b≠I->s.heap.get? b=V o->f.get? b=V o)->y (.ok<|.ret .none) {s with heap:=f,toks:=c2})->hT (ax T.b T.a) A (.builtin "dict.update.loop" ⟨[.ref D,.ref I,cW j,.none],[]⟩) y s:=by
 delta T A c H i L D I a y at b5 b1 E C b3 b8 q B a9 u z a7;ext k
 induction k with
 |zero=>
  ext j s r G d3 R b2 v h b0;have e8:j=a.length:=by exact FX G d3
  subst e8;ext(co:R.za E C)g7 g2 a8 c6 c8 _(ny:IF);rw[pu tu _];show av _ _ (eb (.ref I)>>=_) _ _ s;refine af<|Mj (by simpa using b1) b2 a8.isList (uN<|by rw[c8];simp) λf b6=>?_;refine aC ?_;have m:∀b o,b≠I->s.heap.get? b=V o->f.get? b=V o:=λb o l e=>b6 b o l e;ext(@jv v)o a1 a3 n t a4 a5 e4 a6;have c5:ai T c H f:=(kE (i:=s.toks) R B z m).2;rw[fj]at h;exact b0 f s.toks r c5 (pH o a1 a3 (m _ _ u n) t a4 a5 (λc3 b7=>by ext(fG:h.zg c3 b7)e w c0 c1 g3(_:bY.mp w)p S d-;rw[c0];exact ai.zj (s:={s with heap:=f}) c5 (q p S).2 c1) a6) h λb o _ l e=>m b o l e
 |succ k f9=>
  ext j s r G d3 R b2 v h b0;have K:j<a.length:=by exact FY G
  ext(co:R.za E C)g7 g2 a8 c6 c8 _;obtain⟨p,Q⟩:∃p,a[j]?=V p:=⟨_,cu K⟩;have S:=bs Q;ext(_:jA (i:=j) c6 (x:=.a p.2.2.2) (by rw[dN,Q];rfl))h0 f7 f8(ny:IF);rw[pu tu _];show av _ _ (eb (.ref I)>>=_) _ _ s;refine af<|X3 b2 a8.isList f7 λg d2 b6=>?_;have m:∀b o,b≠I->s.heap.get? b=V o->g.get? b=V o:=λb o l e=>(b6.2 b l).trans e;have x:ai T c H g:=(kE (i:=s.toks) R B z m).2;have e7:g.DictOfH T.za D r:=by ext(@jv v)o a1 a3 n t a4 a5 e4 a6;exact pH o a1 a3 (m _ _ u n) t a4 a5 (λc3 b7=>by ext(fG:h.zg c3 b7)e w c0 c1 g3(_:bY.mp w)d7 b4 d-;rw[c0];exact ai.zj (s:={s with heap:=g}) x (q d7<|kW b4).2 c1) a6
  ext(hY:ai.zs (s:={s with heap:=g}) x (q p S).1 f8)g4 g9 g6 d d5 n t;subst d;ext(n)g0 d4 d-(@bd d5)g5 d6 f5 d(@aD d)g8 f6;refine af<|eh ?_;refine af<|wpAny_tryCatch ?_;have f3:∀{a0:List ab->al->Prop}{c4:ab->al->Prop},a0 [.ref g0,g6] {s with heap:=g}->av (ax T.b T.a) A.in1 (X4<|.ref g4) a0 c4 {s with heap:=g}:=by ext a0 c4 e5;unfold X4;refine af<|rX (T:="tuple") (ad g5 d6 f5) ?_;rw[if_pos<|by decide];exact af<|MG d6 f6<|aC e5
  refine f3 ?_
  have f1:p.1∉(mN<|a.take j).map (·.1):=by
   ext e9(_:bY.mp e9)e w a2(_:bY.mp w)d7 b4 d-(aD:fe b4)g1 P;rw[pv]at P;split at P;.rename_i f0;have:=wk b3 (i:=g1) (j:=j) (a:=p.1) (by rw[dN,P];simpa using a2) (by rw[dN,Q];rfl);exact bB 1 0 (aA 0 0 1 0 1 0 (ar this) f0 rfl) rfl
   .exact cn P
  have f2:=Wi h f1;refine eh<|wpAny_dictSet_heap (knd:=T.za) (k:=p.1) (show T.za.room A.in1 from(by exact an 5 0 2 0 b5 rfl:A.units+1<cLine)) (ai.zj (s:={s with heap:=g}) x (q p S).2 d4) e7 (λc7 d1 f4=>?_) (by rw[dk,<-h.za];simp[mN];exact aj (hQ _ _) b8);rw[storedH_new f2]at d1;refine aC ⟨pw tu _,?_⟩;have b9:∀b o,b≠D->g.get? b=V o->c7.get? b=V o:=λb o l e=>(f4.2 b l).trans e;have d8:ai T c H c7:=(kE (s:={s with heap:=g}) (i:=s.toks) x a9 a7 b9).2;have e6:cW ((j:Int)+1)=cW ((j+1:Nat):Int):=by rw[R2]
  rw[e6];refine f9 (j+1) _ _ (by exact FZ G) K d8 ?_ d1 ?_ λf c2 X d9 e0 e1 e2=>b0 f c2 X d9 e0 e1 λb o c9 d0 e=>e2 b o c9 d0<|b9 b o c9<|m b o d0 e;.ext(d2)o a2 e3;exact ad o (b9 _ _ (cy u) a2) e3
  .have:mN (a.take<|j+1)=mN (a.take j)++[(p.1,p.2.1,p.2.2.1)]:=by
    rw[V7 K];have:a[j]=p:=by have:=cu K;rw[Q]at this;exact(bj this).symm
    rw[this];simp[mN]
   rw[this];exact h.zf<|.a (aI rfl d4 t) .b
theorem Wk{d:List<|List Int×Nat×O×Nat}(S:A.units+60<iy)(x:A.handled=U)(R:ai T c H s.heap)(z:ae c (.a i) v)(l:H[i]?=V (.a<|d.map λp=>.a p.2.2.2))(a0:d.length<=16777216)(P:(d.map (·.1)).Nodup)(y:∀p∈d,H[p.2.2.2]?=V (.b [.a p.2.1,p.2.2.1])/\H[p.2.1]?=V (.b<|p.1.map .b))(a2:∀a1,Q (.a H.length)<|H++[.d a1<|d.map λp=>(p.1,p.2.1,p.2.2.1)]):aU T A X c s (bT (.type "dict") [v]) Q:=by
 delta T A X c H s v Q i d;ext S x R z l a0 P y a2(bt z)@L w
 exact by
  ext(bD:jG R)b7 b8 b9;refine callType_codes (Q₁:=λD a3=>D=.ref s.heap.objs.size/\a3={s with heap:=s.heap.push {cls:=.type "dict",data:=.dict #[]}}) PySem.F.kt_called_dict (PySem.F.kt_typeCall_dict_1 _) PySem.F.entry_dict_init (kt_code_dict_new _ ⟨rfl,rfl⟩) ?_;ext D a3 n(ec n)c2-;have m:(s.heap.push {cls:=.type "dict",data:=.dict #[]}).DictOfH T.za s.heap.objs.size []:=Heap.DictOfH.new s.heap;refine aI m.typeIs (PySem.F.args_dict_init_2 _ _) ?_;unfold Builtin.«dict.__init__»;refine af ?_;unfold adR;refine af<|Em m.typeIs ?_;show av _ _ (bv (s.heap.objs.size,[fB L])) _ _ _;refine aC ?_;show av _ _ (X5 "dict.__init__" s.heap.objs.size (.ref L) [] .none) _ _ _;unfold X5;have E:ai T c H<|s.heap.push {cls:=.type "dict",data:=.dict #[]}:=R.zc λb o e=>bP _ e;ext(co:ai.za (s:={s with heap:=s.heap.push {cls:=.type "dict",data:=.dict #[]}}) E l w)d0 a1 G c4 c5 _;refine af<|rX (T:="list") (ad _ G rfl) ?_;rw[if_pos<|by decide];refine af<|Wh G (by simpa using x) λa c9 C=>?_;simp only[Option.isNone_none,if_true];refine af<|nv ?_;have q:ai T c H a:=E.zc C;ext(co:ai.za (s:={s with heap:=a}) q l w)d1 c7 a9 _ _ _;refine af<|Er (IsL.isList a9) ?_;have k:a.DictOfH T.za s.heap.objs.size []:=by ext(@jv m)o h j f g r t a8 u;exact pH o h j (C _ _ f) g r t (λc1 B=>by cases B) u
  have K:s.heap.objs.size<a.objs.size:=by ext(@hX k)o h j f _;exact ea f
  have a4:ai T c H<|a.push {cls:=.type "list_iterator",data:=.fields #[.ref L,.int 0 0]}:=q.zc λb o e=>bP _ e;have b1:(a.push {cls:=.type "list_iterator",data:=.fields #[.ref L,.int 0 0]}).DictOfH T.za s.heap.objs.size []:=by ext(@jv k)o h j f g r t a8 u;exact pH o h j (bP _ f) g r t (λc1 B=>by cases B) u
  ext(bD:jG (s:={s with heap:=a}) q)b5 b6 c6;refine aC ⟨pw tu _,Wj (A:=A.in1) (D:=s.heap.objs.size) (I:=a.objs.size) (by simp only[Around.in1_units];exact an 61 0 6 0 S rfl) (by simpa using x) l w P a0 y b5 b7 (bh K) b6 b8 (d.length-0) 0 _ [] rfl (fd _) a4 (aT _ (dt _ rfl) rfl rfl) b1 .b λb0 c8 d2 c3 a5 a6 a7=>⟨rfl,?_⟩⟩;have b4:∀b o,s.heap.get? b=V o->b0.get? b=V o:=λb o e=>by have I:=ea e;refine a7 b o (bh I) (bh<|gm I K)<|bP _<|C _ _<|bP _ e
  ext(bp:Ht (T:=T) (a:=c) (I:=H) a5 a6 (λe b2=>by ext(_:bY.mp b2)p b3 n-;exact(y p b3).2))D c0 f g;exact my R b4 b9 f R.zh (g.za (kS ..)<|mx.za H _)<|a2 c0
end
theorem Wl(t:gp)(n:Nat):(t.orStandIn n).led=t.led:=by unfold SetTable.orStandIn;split<;>rfl
theorem Wm(t:gp)(a:Array<|Int×ab)(h:Int)(x:ab):(layNew t a h x).2.1.led=t.led:=by
 delta t a h x;unfold layNew;split;.exact Wl _ _
 .rfl
theorem Wn{c f g:Nat}{b d:Bool}{a:Array Int}{t:gp}{o:Array Nat}(h:X6 c f g b d a=V (t,o)):t.led=b/\t.plain=d:=by delta c f g b d a t o;ext h;unfold X6 at h;cases e:SetTable.layClean c a with|none=>rw[e]at h;cases h|some i=>delta i;intros _;exact by rw[e]at h;simp only[bind,Option.bind,bv]at h;cases h;exact⟨rfl,rfl⟩
theorem Wo(t:gp)(a:Array<|Int×ab)(n:Nat):(px t a n).2.1.led=t.led/\(t.plain=aq->(px t a n).2.1.plain=aq):=by
 delta t a n;unfold px;split
 .rename_i b o e;have:=Wn e;dsimp only;split;.exact⟨this.1,λh=>this.2.trans h⟩
  .exact⟨rfl,λw=>rfl⟩
 .exact⟨rfl,λw=>rfl⟩
def Ap(w:bX)(e:Int×ab):Prop:=∃x t,e=(hashStr w x,.str x t)
noncomputable def mO(e:Int×ab):N:=match e.2 with|.str x _=>x|_=>aF ""
noncomputable def da(b:Array<|Int×ab)(a:Nat)(t:gp):cx:={cls:=.type "set",dict:=U,data:=.set b a t}
noncomputable def ik(w:bX):Bool:=w.params.followText "set-order"
structure gE(w:bX)(f:Array<|Int×ab)(t:gp)(h:List N):Prop where
 b:∀g∈f.toList,Ap w g
 c:(f.toList.map mO).Perm h
 a:t.fits f.size=M
 d:t.led=!(ik w)
 e:t.plain=aq\/f.size=0
def hd(w:bX)(h:bS)(a:ah)(d:List N):Prop:=∃b c t,h.get? a=V (da b c t)/\gE w b t d
noncomputable def fQ(a:List N)(x:N):List N:=if x∈a then a else a++[x]
theorem gE.za{w:bX}{a:Array<|Int×ab}{t:gp}{b:List N}(h:gE w a t b):a.size=b.length:=by have:=h.c.length_eq;simpa using this
theorem gE.zb{d:dV}{w:bX}{a:Array<|Int×ab}{t:gp}{c:List N}(h:gE w a t c):ElemsOf (hr d w) a.toList:=λe b=>by ext(hu:h.b e b)x g f-;exact⟨ad x (by simp[hr,EF]) rfl,rfl⟩
theorem IG{a:dV}{w:bX}{x:N}{e:Int×ab}(h:Ap w e):(hr a w).is x e.2=M↔mO e=x:=by ext(Nq h)y b;simp[hr,EF,mO]
section
variable{b:dV}{w:bX}{A:bo}{E:ab->al->Prop}{s:al}{a:ah}{c:List N}{x:N}{d:kf}
theorem IH{e b:Array<|Int×ab}{d:Nat}{t c:gp}{g:List N}(i:s.heap.get? a=V (da e d t))(h:gE w b c g):(s.heap.update a<|sa b c).get? a=V (da b (d+1) c)/\hd w (s.heap.update a<|sa b c) a g:=by
 have f:(s.heap.update a<|sa b c).get? a=V (da b (d+1) c):=by have:=lU (sa b c) i (by rw[putSet_of (o:=da e d t) b c rfl];rfl);rw[putSet_of (o:=da e d t) b c rfl]at this;exact this
 exact⟨f,ks b (d+1) c f h⟩
theorem II{g:Bool->cN Unit}(I:∀(y:Bool)(v:al)(n:Unit->al->Prop),n () v->av (ax b w) A (g y) n E v){B c:Array<|Int×ab}{z:Nat}{t d:gp}{m:List N}(q:s.heap.get? a=V (da B z t))(i:gE w c d m)(K:d.plain=aq)(p:c.size<sb){Q:Bool}{R:Option Bool->al->Prop}(h:∀k,kT a s.heap k->hd w k a m->R (V M) {s with heap:=k}):av (ax b w) A (do
 storeSet a c d
 if(!Q&&d.tooFull)=M then
  do
   g (px d c<|py c.size).2.2
   storeSet a (px d c<|py c.size).1 (px d c<|py c.size).2.1
   bv (V M)else
  bv (V M)) R E s:=by
 refine af<|X7 q rfl ?_<|X8 p;ext(ac:IH (s:=s) q i)r D;have u:=hS s.heap a<|sa c d;split
 .have f:=relayAll_perm d c<|py c.size;have l:=relayAll_fits d c<|py c.size;have j:=Wo d c<|py c.size;generalize px d c (py c.size)=x at f l j⊢;obtain⟨o,P,S⟩:=x;dsimp only at f l j⊢;have L:o.size=c.size:=by rw[<-hq,f.length_eq,hq]
  have C:gE w o P m:=⟨λe H=>i.b e<|f.mem_iff.mp H,(f.map mO).trans i.c,l,j.1.trans i.d,.inl<|j.2 K⟩;refine af<|I _ _ _ ?_;refine af<|X7 r rfl ?_<|X8 (by rw[L];exact p);ext(ac:IH (s:={s with heap:=s.heap.update a (sa c d)}) r C)T G;exact aC<|h _ (u.trans<|hS _ a _) G
 .exact aC<|h _ u D
theorem Wp{Q:Bool->al->Prop}(D:hd w s.heap a c)(G:c.length+1<sb)(h:∀f i,kT a s.heap f->hd w f a (fQ c x)->Q i {s with heap:=f}):av (ax b w) A (setAddHashed a (.str x d)<|(hr b w).hash x) Q E s:=by
 delta b w A E s a c x d Q;ext D G h(@hX D)@j@C@t u g
 exact by
  have a1:=g.za;have P:ElemsOf (hr b w) j.toList:=g.zb;have a7:(hr b w).is x (.str x d)=M:=by simp[hr,EF]
  have L:(da j C t).data=.set j C t:=rfl;unfold setAddHashed setAddHashedIn;refine eh<|af<|sc u L g.a ?_;dsimp only;rw[byScan_of rfl (by exact aA 0 0 2 0 1 0 (aw a1) G rfl) P];simp only[↓reduceIte];unfold setAddByScan;refine af ?_;refine af<|nv ?_;refine af<|wpAny_setScan_of a7 u L g.a P ?_
  cases X:List.findIdx? (λe=>(hr b w).is x e.2) j.toList with
  |some b0=>
   dsimp only;ext(_:List.findIdx?_eq_some_iff_getElem.mp X)a5 a8 _;have r:x∈c:=by have T:=List.getElem_mem a5;have:=(IG<|g.b _ T).mp a8;rw[<-this];exact g.c.mem_iff.mp<|bY.mpr<|ad _ T rfl
   refine aC<|aC ?_;have e:s={s with heap:=s.heap}:=by cases s;rfl
   rw[e];exact h s.heap _ (adS a s.heap) (by rw[fQ,if_pos r];exact ks j C t u g)
  |none=>
   dsimp only;have r:x∉c:=λr=>by ext(_:bY.mp (g.c.mem_iff.mpr r))@e k a6;exact by have:=List.findIdx?_eq_none_iff.mp X e k;rw[(IG<|g.b e k).mpr a6]at this;cases this
   have a4:∀(i:Bool){v:al}{o:Unit->al->Prop},o () v->av (ax b w) A (match i with|M=>rule "set.scan.the-table-gave-way"|aq=>bv ()) o E v:=λi v o l=>by cases i<;>first|exact aC l|exact nv l
   have n:=layNew_perm t j ((hr b w).hash x)<|.str x d;have y:=layNew_fits t j ((hr b w).hash x)<|.str x d;have z:=Wm t j ((hr b w).hash x)<|.str x d;generalize layNew t j ((hr b w).hash x) (.str x d)=a3 at n y z⊢;obtain⟨m,H,a2,I⟩:=a3;delta m H a2 I;intros _
   exact by
    dsimp only at n y z⊢;rw[Ea]at n
    have a0:∀e∈m.toList,Ap w e:=λe k=>by
     rcases bU.mp (n.mem_iff.mp k)with k|k;.exact g.b e k
     .simp at k;exact gs x d k
    have S:(m.toList.map mO).Perm<|fQ c x:=by rw[fQ,if_neg r];refine(n.map mO).trans ?_;rw[iD];exact g.c.append_right _
    have a9:m.size=c.length+1:=by rw[<-hq,n.length_eq,hR,hq,a1];rfl
    refine af<|a4 _ ?_;have K:m.size<sb:=by exact aA 0 1 2 0 1 0 (aw a9) G rfl
    have R:∀f,kT a s.heap f->hd w f a (fQ c x)->Q M {s with heap:=f}:=λf p q=>h f M p q;split;.refine af ?_;rw[hashByValue_scannable 8 (x:=.str x d) rfl];refine aC ?_;simp only[plainKind,fi,↓reduceIte];refine II (λi v o l=>by cases i<;>first|exact aC l|exact nv l) u ⟨a0,S,SetTable.fits_plain_off y,z.trans g.d,.inl rfl⟩ rfl K λf p q=>?_;dsimp only;exact aC<|R f p q
    .rename_i B;have B:H.plain=aq:=by simpa using B
     refine af<|aC ?_;simp only[↓reduceIte];refine II (λi v o l=>by cases i<;>first|exact aC l|exact nv l) u ⟨a0,S,y,z.trans g.d,.inl B⟩ B K λf p q=>?_;dsimp only;exact aC<|R f p q
end
def gF(a:List N):List N:=a.foldl fQ []
theorem Wq(a:List N)(x:N):(fQ a x).length<=a.length+1:=by unfold fQ;split<;>simp
theorem Wr{a:List N}{x y:N}:y∈fQ a x↔y∈a\/y=x:=by
 unfold fQ;split;.rename_i h;exact⟨.inl,λb=>b.elim id λe=>e▸h⟩
 .simp
theorem Ws{d:List N}{x:N}(h:d.Nodup):(fQ d x).Nodup:=by
 unfold fQ;split;.exact h
 .rename_i g;rw[ff];exact aI h (by simp) (λa f b c e=>by simp at c;subst c;subst e;exact g f)
theorem Wt{y:N}:∀{b a:List N},y∈b.foldl fQ a↔y∈a\/y∈b|[],a=>by simp|x::b,a=>by rw[nr,Wt,Wr,bM,or_assoc]
theorem Wu:∀{b a:List N},a.Nodup->(b.foldl fQ a).Nodup|[],a,h=>h|x::b,a,h=>Wu (b:=b)<|Ws h
theorem IJ:∀{b a:List N},(b.foldl fQ a).length<=a.length+b.length|[],a=>by simp|x::b,a=>by have c:=IJ (b:=b) (a:=fQ a x);have d:=Wq a x;rw[nr];simp only[pi];exact Sm c d
theorem hd.za{w:bX}{h b:bS}{a:ah}{c:List N}(g:hd w h a c)(k:∀o,h.get? a=V o->b.get? a=V o):hd w b a c:=hX g λe d t i f=>ks e d t (k _ i) f
section
variable{a:dV}{w:bX}{A:bo}{E:ab->al->Prop}{s:al}
theorem Wv{S I L:ah}{f:Array ab}{n:Nat}{c:List N}(B:A.handled=U)(E:∀(a3:Nat)(x:N),c[a3]?=V x->∃t,f[a3]?=V (.str x t))(D:f.size=c.length)(G:c.length+1<sb)(h:S≠I)(z:S≠L)(v:L≠I){l:mg->al->Prop}:∀(k j:Nat)(s:al),c.length-j=k->j<=c.length->s.heap.get? L=V (bL "list" f n)->s.heap.IsListIter I L j->hd w s.heap S (gF<|c.take j)->(∀d P,hd w d S (gF c)->(∀b o,b≠S->b≠I->s.heap.get? b=V o->d.get? b=V o)->l (.ok<|.ret .none) {s with heap:=d,toks:=P})->hT (ax a w) A (.builtin "set.update.loop" ⟨[.ref S,.ref I],[]⟩) l s:=by
 delta a w A S I L f n c l at B E D G h z v;ext k
 induction k with
 |zero=>
  ext j s q a0 m C p y;have b0:j=c.length:=by exact FX q a0
  subst b0;ext(ny:X9);rw[pu MH _];show av _ A.in1 (eb (.ref I)>>=_) _ _ s;have u:s.heap.IsList L f:=aT _ m rfl ⟨n,rfl⟩;refine af<|Mj (by simpa using B) C u (uN<|by exact aw D) λd r=>?_;refine aC ?_;rw[fj]at p;exact y d s.toks (p.za λo e=>r S o h e) λb o _ i e=>r b o i e
 |succ k b5=>
  ext j s q a0 m C p y;have a1:j<c.length:=by exact FY q
  obtain⟨x,a2⟩:∃x,c[j]?=V x:=⟨_,cu a1⟩;ext(aD:E j x a2)t b4(ny:X9);rw[pu MH _];show av _ A.in1 (eb (.ref I)>>=_) _ _ s;have u:s.heap.IsList L f:=aT _ m rfl ⟨n,rfl⟩;refine af<|X3 C u b4 λg X r=>?_;have H:∀b o,b≠I->s.heap.get? b=V o->g.get? b=V o:=λb o i e=>(r.2 b i).trans e;have a7:hd w g S<|gF<|c.take j:=p.za λo e=>H S o h e;show av _ A.in1 (Ek [Value.str x t] (setAdd S<|.str x t)>>=_) _ _ {s with heap:=g};refine af<|eh ?_;unfold setAdd;refine eh ?_;refine af<|(hr a w).pyHash (k:=x) (by simp[hr,EF]) ?_;have b2:(gF<|c.take j).length+1<sb:=by have:=IJ (b:=c.take j) (a:=[]);have:=(fW j c).length_le;unfold gF;simp at*;exact Sn G (by assumption)
  refine Wp (s:={s with heap:=g,toks:=s.toks+1}) a7 b2 λQ b b3 a8=>?_;have K:∀b o,b≠S->g.get? b=V o->Q.get? b=V o:=λb o i e=>(b3.2 b i).trans e
  have a9:hd w Q S<|gF<|c.take<|j+1:=by
   have:gF (c.take<|j+1)=fQ (gF<|c.take j) x:=by unfold gF;rw[fX,a2,Y0];rfl
   rw[this];exact a8
  refine aC ⟨pw MH _,b5 (j+1) _ (by exact FZ q) a1 (K L _ (cy z)<|H L _ v m) ?_ a9 λd P a6 b1=>y d P a6 λb o T R e=>b1 b o T R<|K b o T<|H b o R e⟩;ext(X)o a4 a5;exact ad o (K _ _ (cy h) a4) a5
theorem Ww(b:ab){c:ab->al->Prop}(h:c (.ref s.heap.objs.size) {s with heap:=s.heap.push (da #[] 0<|.fresh 0 0<|!(ik w))}):hT (ax a w) A (.call (.builtin "set.__new__") ⟨[.type "set",b],[]⟩) (wants c E) s:=by
 delta a w A E s b c;ext h;refine codeAny_of_tree ?_
 show av _ A.in1 (do
  checkBuiltinCall "set.__new__" ⟨[.type "set",b],[]⟩;
  again (.builtin "set.__new__" ⟨[.type "set",b],[]⟩)) _ _ s;refine af<|nu (PySem.F.newCall_set_1 b)<|aC ⟨pw Y1 _,ny PySem.F.entry_set_new ?_⟩;rw[pu Y1 _];unfold Builtin.«set.__new__»adT;have f:=sub_set_self;obtain⟨e,g,d,j,i⟩:=s;dsimp only;wp_walk;refine Ep<|aC ?_;dsimp only;simp only[newObj];refine af<|wpAny_alloc<|aC ?_;exact aC h
end
section
variable{a:dV}{w:bX}{A:bo}{E:ab->al->Prop}{s:al}
theorem Wx(b:Bool)(w:bX)(h:b=!(ik w)):gE w #[] (.fresh 0 0 b) []:=⟨by simp,by simp,by rfl,h,.inr rfl⟩
set_option maxHeartbeats 3200000 in theorem Wy{L:ah}{g:Array ab}{n:Nat}{d:List N}{Q:ab->al->Prop}(u:A.handled=U)(q:s.heap.get? L=V (bL "list" g n))(D:∀(i:Nat)(x:N),d[i]?=V x->∃a4,g[i]?=V (.str x a4))(C:g.size=d.length)(G:d.length+1<sb)(h:∀(c:bS)(j:Nat),hd w c s.heap.objs.size (gF d)->(∀b o,s.heap.get? b=V o->c.get? b=V o)->Q (.ref s.heap.objs.size) {s with heap:=c,toks:=j}):av (ax a w) A (bT (.type "set") [.ref L]) Q E s:=by
 delta a w A E s L g n d Q;ext u q D C G h(hu:nz.mro)a7 c0 b5;have b4:=nz.made;have b9:=nz.sub;refine Mi<|codeAny_of_tree ?_;show av _ _ (callAny (.type "set") _) _ _ _;refine aC ⟨Code.quiet_builtin _<|by decide+kernel,ny PySem.F.entry_type_call ?_⟩;rw[Around.under_plain (weight_type_call_type "set" [.ref L] []) rfl];have a8:=nz.notType;have a9:=nz.canCreate;have b1:=PySem.F.typeCall_set_1<|.ref L;repeat(any_goals(first|assumption|wp_step))
 ext(rP:Ww (.ref L) (E:=E) (c:=λH I=>H=.ref s.heap.objs.size/\I={s with heap:=s.heap.push (da #[] 0<|.fresh 0 0<|!(ik w))}) ⟨rfl,rfl⟩)r I k
 cases r with
 |error e=>exact k
 |ok P=>
  cases P with
  |ret H=>
   ext(ec k)m-;unfold da;generalize a2:(!(ik w))=f;have z:(s.heap.push {cls:=.type "set",dict:=U,data:=.set #[] 0 (.fresh 0 0 f)}).get? s.heap.objs.size=V {cls:=.type "set",dict:=U,data:=.set #[] 0 (.fresh 0 0 f)}:=dt _ rfl;have T:Shared.TypeIs {s with heap:=s.heap.push {cls:=.type "set",dict:=U,data:=.set #[] 0 (.fresh 0 0 f)}} (.ref s.heap.objs.size) "set":=ad _ z rfl;have b3:=nz.init.lookup;have b0:=nz.init.bind<|.ref s.heap.objs.size;repeat(any_goals(first|assumption|wp_step))
   refine rP (codeAny_call_builtin (R:=wants (λr K=>r=.none/\∃c j,K={s with heap:=c,toks:=j}/\hd w c s.heap.objs.size (gF d)/\(∀b o,s.heap.get? b=V o->c.get? b=V o)) E) nz.init.plain PySem.F.entry_set_init<|check_set_init_1 T ?_) λa3 K l=>?_
   .have y:L<s.heap.objs.size:=ea q;have v:(s.heap.push {cls:=.type "set",dict:=U,data:=.set #[] 0 (.fresh 0 0 f)}).get? L=V {cls:=.type "list",data:=.seq g n}:=bP _ q;have b8:=PySem.F.sub_list_set;have b7:=PySem.F.sub_list_frozenset;have b6:(hU "list"==hU "dict")=aq:=by decide
    have a1:(s.heap.push {cls:=.type "set",dict:=U,data:=.set #[] 0 (.fresh 0 0 f)}).IsList L g:=aT _ v rfl ⟨n,rfl⟩;unfold Builtin.«set.__init__»noKeywords adU;generalize S:iz=a6;wp_walk;subst S;ext(Er:a1);refine af<|wpAny_runValue ?_;have b2:A.in1.in1.in1.handled=U:=by simp[u]
    have p:(s.heap.push {cls:=.type "set",dict:=U,data:=.set #[] 0 (.fresh 0 0 f)}).objs.size=s.heap.objs.size+1:=jq _ _;refine Wv (I:=(s.heap.push {cls:=.type "set",dict:=U,data:=.set #[] 0 (.fresh 0 0 f)}).objs.size) (L:=L) (f:=g) (n:=n) (c:=d) (A:=A.in1.in1) (by simp[u]) D C G (by rw[p];exact bh<|mc _) (aL y) (by rw[p];exact bh<|pq y) (d.length-0) 0 _ rfl (fd _) (bP _ v) (aT _ (dt _ rfl) rfl rfl) (ks _ _ _ (bP _ z)<|Wx f w a2.symm) λc j t X=>?_;show av _ _ _ _ _ _;refine aC ?_;show av _ _ (ret lY) _ _ _;refine aC ⟨rfl,bu c j rfl t λb o e=>?_⟩;have B:=ea e;exact X b o (bh B) (by rw[p];exact bh<|pq B)<|bP _<|bP _ e
   .cases a3 with
    |error e=>exact l
    |ok R=>
     cases R with
     |ret r=>
      ext(ec l)m(@bk m)c j a5 t a0;subst a5;repeat(any_goals(first|assumption|wp_step))
      exact h _ _ t a0
     |_=>exact l.elim
  |_=>exact k.elim
end
theorem IK:Manifest.owners.lookup (String.ofList ['r','o','t','a','r','e','t','i','_','t','e','s'].reverse)=V Manifest.sig_set_iterator:=by kernel_rfl
theorem jH:pm "set_iterator" "__next__" "set_iterator.__next__":=.of (owner:="set_iterator") (n:="__next__") (by rw[pn,po];kernel_rfl) (by decide+kernel) (by decide+kernel) (by decide+kernel) (by first|exact .inl (by decide+kernel)|exact .inr (by decide+kernel)) (by rw[pp];kernel_rfl)
theorem tv:rU rV "set_iterator.__next__"=V Builtin.«set_iterator.__next__»:=Mn (by kernel_rfl)
theorem tw(a:ab):mb "set_iterator.__next__" ⟨[a],[]⟩:=by unfold mb;rw[Ex (id:="set_iterator.__next__") (n:=['_','_','t','x','e','n','_','_']) (o:=['r','o','t','a','r','e','t','i','_','t','e','s']) (by kernel_rfl) IK];kernel_rfl
theorem IL:pm "set_iterator" "__iter__" "set_iterator.__iter__":=.of (owner:="set_iterator") (n:="__iter__") (by rw[pn,po];kernel_rfl) (by decide+kernel) (by decide+kernel) (by decide+kernel) (by first|exact .inl (by decide+kernel)|exact .inr (by decide+kernel)) (by rw[pp];kernel_rfl)
theorem Wz:rU rV "set_iterator.__iter__"=V Builtin.«dict_keyiterator.__iter__»:=Mo (id':="dict_keyiterator.__iter__") (by kernel_rfl) rfl (by decide+kernel) (by kernel_rfl)
theorem WA(a:ab):mb "set_iterator.__iter__" ⟨[a],[]⟩:=by unfold mb;rw[Ex (id:="set_iterator.__iter__") (n:=['_','_','r','e','t','i','_','_']) (o:=['r','o','t','a','r','e','t','i','_','t','e','s']) (by kernel_rfl) IK];kernel_rfl
theorem WB:rU rV "set.__iter__"=V Builtin.«frozenset.__iter__»:=Mo (id':="frozenset.__iter__") (by kernel_rfl) rfl (by decide+kernel) (by kernel_rfl)
theorem IM{b:Type}:∀{l:List b}{i:Nat}{x:b},l[i]?=V x->(x::l.eraseIdx i).Perm l|[],i,x,h=>by simp at h|a::l,0,x,h=>by simp at h;subst h;exact .refl _|a::l,i+1,x,h=>by simp at h;have c:=IM h;exact(List.Perm.swap a x _).trans<|c.cons a
section
variable{a:Model}{A:bo}{E:ab->al->Prop}{s:al}
theorem WC{c:Source}{n:Nat}{Q:Nat->al->Prop}(b:n≠0)(h:∀i d,i<n->Q i {s with drawn:=d}):av a A (choose c n) Q E s:=by ext g p w;show n≠0/\_;exact⟨b,h _ _<|uC _<|rH b⟩
theorem WD{j:Type}:∀(n:Nat)(b:List j)(s:al){Q:List j->al->Prop},b.length=n->(∀e d,e.Perm b->Q e {s with drawn:=d})->av a A (drawOrder n b) Q E s:=by ext n;induction n with|zero=>ext b s Q c h;have:b=[]:=uY.mp c;subst this;exact aC<|h [] s.drawn<|List.Perm.refl _|succ n m=>ext b s Q c h;cases b with|nil=>simp at c|cons x b=>show av _ _ (choose .order (x::b).length>>=_) _ _ _;refine af<|WC (by simp) λi d f=>?_;have g:(x::b)[i]?=V (x::b)[i]:=cu f;rw[g];dsimp only;refine af<|m _ _ (by rw[Y2 f];simp at c⊢;exact c) λe k l=>?_;exact aC<|h _ k<|(List.Perm.cons _ l).trans<|IM g
end
section
variable{d:dV}{w:bX}{A:bo}{E:ab->al->Prop}{s:al}{a:ah}{b:Array<|Int×ab}{c:Nat}{t:gp}
noncomputable def fR(b:ab)(i:Nat)(a:ah)(n c:Nat):cx:={cls:=.type "set_iterator",data:=.fields #[b,.int i 0,.ref a,.int n 0,.int c 0]}
theorem tx{Q:Bool->al->Prop}(h:Q (ik w) s):av (ax d w) A setsByText Q E s:=by unfold setsByText;exact af<|Ep<|aC h
def kH(w:bX)(b:Array<|Int×ab)(t:gp):Bool:=!(ik w)&&(!t.plain&&aP (b.size>1))
theorem WE{Q:Bool->al->Prop}(f:s.heap.get? a=V (da b c t))(e:t.fits b.size=M)(h:Q (kH w b t) s):av (ax d w) A (setDrawn a) Q E s:=by unfold setDrawn;refine af<|sc f rfl e ?_;dsimp only;refine af<|tx ?_;exact aC h
theorem WF{Q:ab->al->Prop}(e:s.heap.get? a=V (da b c t))(j:t.fits b.size=M)(B:b.size<4096)(n:kH w b t=aq->Q (.ref s.heap.objs.size) {s with heap:=s.heap.push (fR (.int 0 0) 0 a b.size c)})(o:kH w b t=M->∀(f:List Nat)(g:va),f.Perm (cv b.size)->Q (.ref<|s.heap.objs.size+1) {s with heap:=(s.heap.push<|bL "tuple" (f.map λi:Nat=>cW i).toArray 0).push (fR (.ref s.heap.objs.size) 0 a b.size c),drawn:=g}):av (ax d w) A (iz<|.ref a) Q E s:=by
 delta d w A E s a b c t Q;ext e j B n o;have p:s.TypeIs (.ref a) "set":=ad _ e rfl;refine Es p Y3<|go Y3 p WB ?_<|PySem.F.args_set_iter_1 _;unfold Builtin.«frozenset.__iter__»adV adW;refine af<|af<|aC<|aC ?_;refine af<|af<|vb e rfl j<|aC ?_;refine af<|WE e j ?_
 have h:∀(u:al)(l:ab),u.heap.get? a=V (da b c t)->Q (.ref u.heap.objs.size) {u with heap:=u.heap.push (fR l 0 a b.size c)}->av (ax d w) A.in1 (do
  let k<-setEpoch a
  let k<-newFields "set_iterator" [l,cW 0,fB a,cW ↑b.size,cW ↑k]
  ret k) (λh u=>∃v,h=Fin.done (Flow.ret v)/\∃m r,u.TypeIs v m/\uJ (hU m) (aF "__next__")=bv (V r)/\Q v u) E u:=by ext@u@l C q;exact by refine af<|wpAny_setEpoch_of C rfl j ?_;refine af<|kj ?_ (by size_fits);exact aC<|ad _ rfl<|bu ("set_iterator") _ (ad _ (dt _ rfl) rfl) jH.lookup q
 cases x:kH w b t with|true=>rw[if_pos rfl];refine af<|WD _ _ _ (by simp) λf g z=>?_;have y:=z.length_eq;simp only[ki]at y;refine af<|wpAny_newTuple ?_ (by rw[bC,dk];exact aA 0 0 1 4096 0 16777216 (aw y) B rfl);have:=h {s with heap:=s.heap.push (bL "tuple" (f.map λi:Nat=>cW i).toArray 0),drawn:=g} (.ref s.heap.objs.size) (bP _ e) (by have:=o x f g z;rw[show(s.heap.push<|bL "tuple" (f.map λi:Nat=>cW i).toArray 0).objs.size=s.heap.objs.size+1 from jq _ _];exact this);exact this|false=>rw[if_neg cG];refine af<|aC ?_;exact h s _ e<|n x
end
section
variable{e:dV}{w:bX}{A:bo}{E:ab->al->Prop}{s:al}{a c:ah}{b:Array<|Int×ab}{d i:Nat}{t:gp}
theorem IN{c:Nat}{Q:Option (ab×Nat)->al->Prop}(j:s.heap.get? a=V (da b d t))(g:t.fits b.size=M)(f:ik w=M)(h:Q (((mh (w.params.setOrder a d) b)[i]?).map λk=>(k.2,c)) s):av (ax e w) A (sd a c i d) Q E s:=by revert e w A E s a b d i t c Q;ext@e@w@A@E@s@a@b@d@i@t@c@Q j g f h;unfold sd;refine af<|sc j rfl g ?_;dsimp only;refine af<|tx ?_;rw[f,if_pos rfl];rw[if_neg<|by simp];refine af ?_;unfold setWalk;refine af<|sc j rfl g ?_;dsimp only;refine af<|tx ?_;rw[f,if_pos rfl];refine af<|Ep<|aC ?_;exact aC h
theorem IO{g:Nat}{Q:Option (ab×Nat)->al->Prop}(n:s.heap.get? a=V (da b d t))(l:t.fits b.size=M)(k:ik w=aq)(f:kH w b t=aq)(m:t.led=M)(h:Q (match b[pz t.place g]?,t.place[pz t.place g]? with|V (_,x),V j=>V (x,j+1)|_,_=>U) s):av (ax e w) A (sd a g i d) Q E s:=by
 unfold sd;refine af<|sc n rfl l ?_;dsimp only;refine af<|tx ?_;rw[k,if_neg cG];split;.rename_i c;have c:(!t.plain&&aP (b.size>1))=M:=c;unfold kH at f;rw[k,c]at f;simp at f
 .refine af ?_;show av _ _ (if(!t.led&&!b.isEmpty)=M then vc "set:maker-not-led"else bv ()) _ _ _;rw[m,if_neg<|by simp];exact aC<|aC h
theorem WG{f:Nat}{Q:ab->al->Prop}{c:Int×ab}(j:s.heap.get? a=V (da b d t))(i:t.fits b.size=M)(g:b[f]?=V c)(h:Q c.2 s):av (ax e w) A (setNextDrawn a f d) Q E s:=by unfold setNextDrawn;refine af<|sc j rfl i ?_;dsimp only;rw[if_neg<|by simp];refine af<|aC ?_;rw[g];exact aC h
theorem og{o:cx}{a:Array ab}{k:Nat}{x:ab}{h:bS}(f:h.get? c=V {cls:=.type "set_iterator",data:=.fields a}):(h.update c<|pl (·.setIfInBounds k x)).get? c=V {cls:=.type "set_iterator",data:=.fields (a.setIfInBounds k x)}/\∀b o,b≠c->h.get? b=V o->(h.update c<|pl (·.setIfInBounds k x)).get? b=V o:=⟨lU _ f rfl,λb o d e=>(vd _ _<|cy d).trans e⟩
theorem IP{k j:Nat}{x:ab}{Q:Option ab->al->Prop}(g:s.heap.get? c=V (fR (.int k 0) i a b.size d))(u:s.heap.get? a=V (da b d t))(r:t.fits b.size=M)(n:∀{Q:Option (ab×Nat)->al->Prop}{A:bo}{E:ab->al->Prop},Q (V (x,j)) s->av (ax e w) A (sd a k i d) Q E s)(h:∀l,l.get? c=V (fR (.int j 0) (i+1) a b.size d)->(∀f o,f≠c->s.heap.get? f=V o->l.get? f=V o)->Q (V x) {s with heap:=l}):av (ax e w) A (eb<|.ref c) Q E s:=by
 revert e w A E s a c b d i t k j x Q;ext@e@w@A@E@s@a@c@b@d@i@t@k@j@x@Q g u r n h;have p:s.TypeIs (.ref c) "set_iterator":=ad _ g rfl;unfold eb;refine af<|kk<|lZ (name:=aF "__next__") p jH<|go jH p tv ?_<|tw _;unfold Builtin.«set_iterator.__next__»;refine af<|aC ?_;refine af<|rR g rfl ?_;dsimp only;refine af<|vb u rfl r ?_;rw[if_neg<|by simp];try dsimp only
 simp only[rS];refine af<|n ?_;dsimp only;refine af<|kl g rfl (by simp) ?_;ext(ac:og (o:=cU) (k:=0) (x:=cW j) g)m z;refine af<|kl m rfl (by simp) ?_;ext(ac:og (o:=cU) (k:=1) (x:=cW<|(i:Int)+1) m)y B;exact aC<|ad _ rfl<|aC<|h _ y λf o q v=>B f o q<|z f o q v
theorem IQ{k:Nat}{Q:Option ab->al->Prop}(p:A.handled=U)(g:s.heap.get? c=V (fR (.int k 0) i a b.size d))(q:s.heap.get? a=V (da b d t))(n:t.fits b.size=M)(l:∀{Q:Option (ab×Nat)->al->Prop}{A:bo}{E:ab->al->Prop},Q U s->av (ax e w) A (sd a k i d) Q E s)(h:∀j,(∀f o,f≠c->s.heap.get? f=V o->j.get? f=V o)->Q U {s with heap:=j}):av (ax e w) A (eb<|.ref c) Q E s:=by
 revert e w A E s a c b d i t k Q;ext@e@w@A@E@s@a@c@b@d@i@t@k@Q p g q n l h;have m:s.TypeIs (.ref c) "set_iterator":=ad _ g rfl;unfold eb;refine af<|kk<|lZ (name:=aF "__next__") m jH<|go jH m tv ?_<|tw _;unfold Builtin.«set_iterator.__next__»;refine af<|aC ?_;refine af<|rR g rfl ?_;dsimp only;refine af<|vb q rfl n ?_;rw[if_neg<|by simp];try dsimp only
 simp only[rS];refine af<|l ?_;dsimp only;refine af<|kl g rfl (by simp) ?_;ext(ac:og (o:=cU) (k:=2) (x:=.none) g)y v;exact qH (s:={s with heap:=_}) p λj x=>h j λf o u r=>x f o<|v f o u r
theorem WH{j p:Nat}{g:List Nat}{n:Nat}{k:Int×ab}{Q:Option ab->al->Prop}(f:s.heap.get? c=V (fR (.ref j) i a b.size d))(r:s.heap.get? a=V (da b d t))(q:t.fits b.size=M)(y:s.heap.get? j=V (bL "tuple" (g.map λi:Nat=>cW i).toArray n))(x:g[i]?=V p)(v:b[p]?=V k)(h:∀m,m.get? c=V (fR (.ref j) (i+1) a b.size d)->(∀l o,l≠c->s.heap.get? l=V o->m.get? l=V o)->Q (V k.2) {s with heap:=m}):av (ax e w) A (eb<|.ref c) Q E s:=by
 revert e w A E s a c b d i t j p g n k Q;ext@e@w@A@E@s@a@c@b@d@i@t@j@p@g@n@k@Q f r q y x v h;have u:s.TypeIs (.ref c) "set_iterator":=ad _ f rfl;unfold eb;refine af<|kk<|lZ (name:=aF "__next__") u jH<|go jH u tv ?_<|tw _;unfold Builtin.«set_iterator.__next__»;refine af<|aC ?_;refine af<|rR f rfl ?_;dsimp only;refine af<|vb r rfl q ?_;rw[if_neg<|by simp];try dsimp only
 refine af<|MG y rfl ?_;dsimp only;have B:((g.map λi:Nat=>cW i).toArray)[i]?=V (kn p 0):=by simp[x,cW]
 simp only[rS,B];refine af<|WG r q v ?_;refine af<|kl f rfl (by simp) ?_;ext(ac:og (o:=cU) (k:=1) (x:=cW<|(i:Int)+1) f)z C;exact aC<|ad _ rfl<|aC<|h _ z C
theorem WI{l:Nat}{j:List Nat}{n:Nat}{Q:Option ab->al->Prop}(u:A.handled=U)(g:s.heap.get? c=V (fR (.ref l) i a b.size d))(v:s.heap.get? a=V (da b d t))(r:t.fits b.size=M)(y:s.heap.get? l=V (bL "tuple" (j.map λi:Nat=>cW i).toArray n))(x:j.length<=i)(h:∀k,(∀f o,f≠c->s.heap.get? f=V o->k.get? f=V o)->Q U {s with heap:=k}):av (ax e w) A (eb<|.ref c) Q E s:=by
 revert e w A E s a c b d i t l j n Q;ext@e@w@A@E@s@a@c@b@d@i@t@l@j@n@Q u g v r y x h;have p:s.TypeIs (.ref c) "set_iterator":=ad _ g rfl;unfold eb;refine af<|kk<|lZ (name:=aF "__next__") p jH<|go jH p tv ?_<|tw _;unfold Builtin.«set_iterator.__next__»;refine af<|aC ?_;refine af<|rR g rfl ?_;dsimp only;refine af<|vb v rfl r ?_;rw[if_neg<|by simp];try dsimp only
 refine af<|MG y rfl ?_;dsimp only;have B:((j.map λi:Nat=>cW i).toArray)[i]?=U:=by simp[x]
 simp only[rS,B];refine af<|kl g rfl (by simp) ?_;ext(ac:og (o:=cU) (k:=0) (x:=cW 0) g)m C;refine af<|kl m rfl (by simp) ?_;ext(ac:og (o:=cU) (k:=2) (x:=.none) m)H D;exact qH (s:={s with heap:=_}) u λk G=>h k λf o q z=>G f o<|D f o q<|C f o q z
end
theorem WJ{h:Type}(d:Nat->Nat):∀(b k:Nat)(a:List h)(e:Array h),a.length=b->(pickOrder.go d b k a e).toList.Perm (e.toList++a):=by ext b;induction b with|zero=>ext k a e c;have:a=[]:=uY.mp c;subst this;simp[pickOrder.go]|succ b i=>ext k a e c;have f:d k%a.length<a.length:=uC _ (by exact So c);have g:a[d k%a.length]?=V a[d k%a.length]:=cu f;unfold pickOrder.go;rw[g];dsimp only;refine(i _ _ _<|by rw[Y2 f];exact Sp c).trans ?_;rw[Ea,fY];exact(IM g).append_left _
theorem Aq{c:Type}(b:Nat->Nat)(a:Array c):(mh b a).toList.Perm a.toList:=by have:=WJ b a.size 0 a.toList #[] (by simp);simpa[mh]using this
section
variable{d:dV}{w:bX}{A:bo}{E:ab->al->Prop}{s:al}{a I:ah}{b:Array<|Int×ab}{c:Nat}{t:gp}{e:List N}
theorem Ar{e:ab}{i n:Nat}{Q:ab->al->Prop}(f:s.heap.get? I=V (fR e i a n c))(h:Q (.ref I) s):av (ax d w) A (iz<|.ref I) Q E s:=by have b:s.TypeIs (.ref I) "set_iterator":=ad _ f rfl;refine Es b IL<|go IL b Wz ?_<|WA _;show av _ _ (ret<|.ref I) _ _ s;exact aC<|ad _ rfl<|bu ("set_iterator") _ b jH.lookup h
abbrev ty(a:List ab)(i:Nat)(v:ab):Prop:=a[i]?=V v
theorem tz{h:bS}{b c:ah}{o q:cx}(d:h.get? b=V o)(a:h.get? c=V q)(f:o≠q):b≠c:=λe=>by subst e;rw[d]at a;exact f<|bj a
theorem WK(x:A.handled=U)(g:ik w=M)(n:gE w b t e):uZ d w A I [I,a] [I] b.size (ty<|(mh (w.params.setOrder a c) b).toList.map (·.2)) λi h=>h.get? I=V (fR (.int 0 0) i a b.size c)/\h.get? a=V (da b c t)where
 sub:=λm g=>by simp at g;simp[g]
 frame:=λB B B f k=>⟨k I (by simp) _ f.1,k a (by simp) _ f.2⟩;item:=λi s Q E y f r=>by
  have u:(mh (w.params.setOrder a c) b).toList.length=b.size:=by rw[(Aq _ b).length_eq];simp
  obtain⟨j,p⟩:∃j,(mh (w.params.setOrder a c) b)[i]?=V j:=⟨_,ma<|by rw[<-hq,u];exact y⟩;refine IP (k:=0) (j:=0) (x:=j.2) f.1 f.2 n.a (λl=>IN f.2 n.a g<|by rw[p];exact l) λq v k=>?_;have z:a≠I:=tz f.2 f.1 (by simp[da,fR]);refine r _ q s.toks ?_ ⟨v,k a _ z f.2⟩ λm o g j=>k m o (by simpa using g) j;show((mh (w.params.setOrder a c) b).toList.map (·.2))[i]?=V j.2;rw[dN,lX,p];rfl
 done:=λs Q E f r=>by
  have u:(mh (w.params.setOrder a c) b).toList.length=b.size:=by rw[(Aq _ b).length_eq];simp
  have p:(mh (w.params.setOrder a c) b)[b.size]?=U:=uN (by rw[<-hq,u];exact aO _);exact IQ (k:=0) x f.1 f.2 n.a (λl=>IN f.2 n.a g<|by rw[p];exact l) λq k=>r q s.toks λm o g j=>k m o (by simpa using g) j
 self:=λB B B B f l=>Ar f.1 l
theorem IR{p:Nat}:pz #[p] 0=0/\pz #[p] (p+1)=1:=by simp[pz,SetTable.below.go]
noncomputable def lC(t:gp)(i:Nat):Nat:=if i=0 then 0 else t.place.getD 0 0+1
theorem WL(L:A.handled=U)(j:ik w=aq)(m:kH w b t=aq)(k:gE w b t e):uZ d w A I [I,a] [I] b.size (ty<|b.toList.map (·.2)) λi h=>h.get? I=V (fR (.int (lC t i) 0) i a b.size c)/\h.get? a=V (da b c t)where
 sub:=λv j=>by simp at j;simp[j]
 frame:=λ_ _ _ f q=>⟨q I (by simp) _ f.1,q a (by simp) _ f.2⟩;item:=λi s Q E B f z=>by
  have C:t.led=M:=by rw[k.d,j];rfl
  have x:b.size<=1:=by
   rcases k.e with h|h;.unfold kH at m;rw[j,h]at m;simp at m;exact m
   .exact an 0 0 0 1 (aw h) rfl
  have P:i=0:=by exact Sq B x
  subst P;have g:t.place.size=1:=by have:=k.a;simp only[Y4,bA,beq_iff_eq]at this;exact be (aj (aw this.1) x)<|aj B<|ar this.1
  obtain⟨p,G⟩:∃p,t.place=#[p]:=by cases r:t.place with|mk l=>rw[r]at g;match l,g with|[p],_=>exact⟨p,rfl⟩
  obtain⟨n,D⟩:∃n,b[0]?=V n:=⟨_,ma B⟩;have T:lC t 0=0:=rfl;have S:lC t 1=p+1:=by simp[lC,G]
  refine IP (k:=0) (j:=p+1) (x:=n.2) f.1 f.2 k.a (λu=>IO f.2 k.a j m C<|by rw[G,IR.1,D];exact u) λy H q=>?_;have R:a≠I:=tz f.2 f.1 (by simp[da,fR]);refine z _ y s.toks ?_ ⟨by rw[S];exact H,q a _ R f.2⟩ λv o j n=>q v o (by simpa using j) n;show(b.toList.map (·.2))[0]?=V n.2;rw[dN,lX,D];rfl
 done:=λs Q E f z=>by
  have C:t.led=M:=by rw[k.d,j];rfl
  have x:b.size<=1:=by
   rcases k.e with h|h;.unfold kH at m;rw[j,h]at m;simp at m;exact m
   .exact an 0 0 0 1 (aw h) rfl
  have g:t.place.size=b.size:=by have:=k.a;simp only[Y4,bA,beq_iff_eq]at this;exact this.1
  have K:pz t.place (lC t b.size)=b.size:=by
   cases r:t.place with
   |mk l=>
    rw[r]at g
    match l,g,r with
     |[],g,r=>simp at g;rw[<-g];simp[pz,SetTable.below.go]
     |[p],g,r=>
      simp at g;rw[<-g];have:lC t 1=p+1:=by simp[lC,r]
      rw[this];exact IR.2
     |_::_::_,g,_=>simp at g;exact Sr x g
  exact IQ (k:=lC t b.size) L f.1 f.2 k.a (λu=>IO f.2 k.a j m C<|by rw[K,uN<|aO _];exact u) λy q=>z y s.toks λv o j n=>q v o (by simpa using j) n
 self:=λ_ _ _ _ f u=>Ar f.1 u
theorem WM{m:ah}{k:List Nat}{n:Nat}(D:A.handled=U)(x:k.Perm<|cv b.size)(z:gE w b t e):uZ d w A I [I,a,m] [I] b.size (ty<|k.map λp=>(b[p]?.map (·.2)).getD .none) λi h=>h.get? I=V (fR (.ref m) i a b.size c)/\h.get? a=V (da b c t)/\h.get? m=V (bL "tuple" (k.map λi:Nat=>cW i).toArray n)where
 sub:=λq l=>by simp at l;simp[l]
 frame:=λR R R f g=>aI (g I (by simp) _ f.1) (g a (by simp) _ f.2.1)<|g m (by simp) _ f.2.2;item:=λi s Q E G f u=>by
  have v:k.length=b.size:=by rw[x.length_eq];simp
  obtain⟨p,y⟩:∃p,k[i]?=V p:=⟨_,cu<|by exact aj G<|ar v⟩;have L:p<b.size:=fE.mp<|x.mem_iff.mp<|bs y;obtain⟨j,B⟩:∃j,b[p]?=V j:=⟨_,ma L⟩;refine WH f.1 f.2.1 z.a f.2.2 y B λr C g=>?_;have H:a≠I:=tz f.2.1 f.1 (by simp[da,fR]);have K:m≠I:=tz f.2.2 f.1 (by simp[bL,fR]);refine u _ r s.toks ?_ (aI C (g a _ H f.2.1)<|g m _ K f.2.2) λq o l j=>g q o (by simpa using l) j;show(k.map λp=>(b[p]?.map (·.2)).getD .none)[i]?=V j.2;rw[dN,y];simp[B]
 done:=λs Q E f u=>by
  have v:k.length=b.size:=by rw[x.length_eq];simp
  exact WI D f.1 f.2.1 z.a f.2.2 (by exact aw v) λr g=>u r s.toks λq o l j=>g q o (by simpa using l) j
 self:=λR R R R f P=>Ar f.1 P
end
section
variable{c:dV}{w:bX}{A:bo}{E:ab->al->Prop}{s:al}{a:ah}{b:Array<|Int×ab}{d:Nat}{t:gp}{e:List N}
theorem WN{Q:Bool->al->Prop}(b:s.TypeIs (.ref a) "set")(h:Q aq s):av (ax c w) A (Y5<|.ref a) Q E s:=by delta c w A E s a Q;ext b h;unfold Y5;refine af<|uO b PySem.F.slot_set_len.lookup ?_;generalize e:("set.__len__":String)=f;wp_delta;rw[show splitId f=V ("set","__len__")from by subst e;decide+kernel];subst e;refine af<|uI (T:="set") (b:=M) b (by rw[pp];kernel_rfl) ?_;ext(MI:λd=>absurd d (by decide))z;refine MI (λz=>?_) λd=>absurd (by decide+kernel) d;refine af<|rX b ?_;exact aC h
theorem WO(m:A.handled=U)(k:s.heap.get? a=V (da b d t))(j:gE w b t e)(u:b.size<4096){Q:ab->al->Prop}(h:∀(I:ah)(x:List ah)(C:List ab)(v:Nat->bS->Prop)(n:bS)(q:va),uZ c w A I x [I] b.size (ty C) v->v 0 n->(∀f o,s.heap.get? f=V o->n.get? f=V o)->(∀f∈x,f=a\/s.heap.objs.size<=f)->s.heap.objs.size<=I->I<n.objs.size->C.Perm (b.toList.map (·.2))->Q (.ref I) {s with heap:=n,drawn:=q}):av (ax c w) A (iz<|.ref a) Q E s:=by
 revert m k j u h;revert c w A E s a b d t e Q;ext@c@w@A@E@s@a@b@d@t@e@Q m k j u h;have H:s={s with drawn:=s.drawn}:=rfl;refine WF k j.a u (λy=>?_) λy G q z=>?_
 .cases g:ik w with
  |true=>
   refine h _ _ _ _ _ s.drawn (WK (a:=a) (c:=d) m g j) ⟨dt _ rfl,bP _ k⟩ (λf o l=>bP _ l) (λf g=>?_) (aO _) (by rw[jq];exact mc _)<|(Aq _ b).map _;simp at g;rcases g with rfl|rfl;.exact .inr<|aO _
   .exact .inl rfl
  |false=>
   refine h _ _ _ _ _ s.drawn (WL (a:=a) (c:=d) m g y j) ⟨dt _ rfl,bP _ k⟩ (λf o l=>bP _ l) (λf g=>?_) (aO _) (by rw[jq];exact mc _)<|.refl _;simp at g;rcases g with rfl|rfl;.exact .inr<|aO _
   .exact .inl rfl
 .have B:(s.heap.push<|bL "tuple" (G.map λi:Nat=>cW i).toArray 0).objs.size=s.heap.objs.size+1:=jq _ _;refine h _ _ _ _ _ q (WM (a:=a) (c:=d) (m:=s.heap.objs.size) (n:=0) m z j) (aI ?_ (bP _<|bP _ k)<|bP _<|dt _ rfl) (λf o l=>bP _<|bP _ l) (λf g=>?_) (ED _) (by rw[jq,B];exact mc _) ?_;.rw[<-B];exact dt _ rfl
  .simp at g;rcases g with rfl|rfl|rfl;.exact .inr<|ED _
   .exact .inl rfl
   .exact .inr<|aO _
  .have D:=z.map λp=>(b[p]?.map (·.2)).getD .none;refine D.trans ?_
   have:(cv b.size).map (λp=>(b[p]?.map (·.2)).getD .none)=b.toList.map (·.2):=by
    apply ve;ext i;by_cases r:i<b.size;.simp[r,nw]
    .rw[pA<|by simp;exact dM r,pA<|by simp;exact dM r]
   rw[this]
theorem WP(G:A.handled=U)(x:s.heap.get? a=V (da b d t))(B:gE w b t e)(y:b.size<4096){R:List ab->al->Prop}(h:∀(X:bS)(a8:Nat)(m:va)(a9:List ab),(∀g o,s.heap.get? g=V o->X.get? g=V o)->a9.Perm (b.toList.map (·.2))->R a9 {s with heap:=X,toks:=a8,drawn:=m}):av (ax c w) A (collect<|.ref a) R E s:=by
 revert G x B y h;revert c w A E s a b d t e R;ext@c@w@A@E@s@a@b@d@t@e@R G x B y h;have a2:=ea x;unfold collect;refine af<|wpAny_runValue<|ny entry_proto_collect' ?_;rw[pu PySem.F.plain_proto_collect _];show av _ A.in1 (nx []>>=λc7=>again<|.builtin "list.__iadd__" ⟨[c7,.ref a],[]⟩) _ _ s;refine af<|kj ?_;refine aC ⟨pw Y6 _,ny entry_list_iadd' ?_⟩;rw[pu Y6 _];have b6:(s.heap.push {cls:=.type "list",data:=.seq ([]:List ab).toArray}).get? s.heap.objs.size=V {cls:=.type "list",data:=.seq #[]}:=dt _ rfl;have P:(s.heap.push {cls:=.type "list",data:=.seq ([]:List ab).toArray}).get? a=V (da b d t):=bP _ x;show av _ A.in1 (Y7 (.ref s.heap.objs.size) (.ref a)<|.ref s.heap.objs.size) _ _ _;unfold Y7;refine af<|rX (T:="set") (ad _ P rfl) ?_;have q:Y8 (.ref s.heap.objs.size) (.ref a)=aq:=by simp[Y8];exact aL a2
 have c2:(hU "set"==hU "list")=aq:=by decide
 have c3:(hU "set"==hU "tuple")=aq:=by decide
 simp only[q,c2,c3,U0,fi,if_false];have a4:(s.heap.push {cls:=.type "list",data:=.seq ([]:List ab).toArray}).objs.size=s.heap.objs.size+1:=jq _ _;refine af<|WO (s:={s with heap:=s.heap.push {cls:=.type "list",data:=.seq ([]:List ab).toArray}}) (by simpa using G) P B y λI b3 Q b0 n m S a7 K b9 b4 d5 a3=>?_;have C:=K _ _ b6;have c4:=K _ _ P;refine af<|eh<|WN (ad _ c4 rfl) ?_;have a0:s.heap.objs.size+1<=I:=by rw[<-a4];exact b4
 have d6:s.heap.objs.size≠I:=bh a0
 have a1:s.heap.objs.size∉b3:=λl=>by
  rcases b9 _ l with f|f;.exact absurd f.symm<|bh a2
  .have f:s.heap.objs.size+1<=s.heap.objs.size:=by rw[<-a4];exact f
   exact absurd f<|Nat.not_succ_le_self _
 have c6:Q.length=b.size:=by rw[a3.length_eq];simp
 have c1:b.size<=DZ:=by rw[dk];exact an 1 4096 0 16777216 y rfl
 have a6:∀(j:bS)(z:Nat),b0 0 j->(∀g o,g≠s.heap.objs.size->n.get? g=V o->j.get? g=V o)->j.get? s.heap.objs.size=V {cls:=.type "list",data:=.seq #[] z}->hT (ax c w) A (.builtin "list.extend.loop" ⟨[.ref s.heap.objs.size,.ref I,.ref s.heap.objs.size],[]⟩) (λc8 u=>match c8 with
  |Except.ok (Flow.ret v)=>av (ax c w) A (match v with
   |fB a=>do
    let b1<-load a
    match b1.data with
     |Data.seq d0 d3=>
      bv d0.toList
     |c9=>
      vc "internal:collect"
   |c9=>vc "internal:collect") R E u
  |Except.ok a=>False
  |Except.error f=>E f u) {s with heap:=j,drawn:=m}:=by
  ext j z c5 c0 r;refine codeAny_extend_loopS S.toS c1 s.heap.objs.size a1 (.ref s.heap.objs.size) b.size 0 _ #[] z rfl (fd _) c5 r (ItemsOf.nil _) λu T d1 l b5 D=>?_;refine af<|wpAny_load b5 ?_;refine aC ?_
  have b8:T.toList=Q:=by
   apply ve;ext i;by_cases H:i<b.size;.obtain⟨v,a5⟩:∃v,T[i]?=V v:=⟨_,ma<|by rw[D.1];exact H⟩;rw[lX,a5];exact(D.2 i v a5).symm
   .rw[pA<|by rw[hq,D.1];exact dM H,pA<|by exact aj (aw c6)<|dM H]
  rw[b8];have f:u={s with heap:=u.heap,toks:=u.toks,drawn:=m}:=by obtain⟨d7,d4,d2,a8,d8⟩:=u;have q:=l.gens;have n:=l.drawn;have j:=l.os;simp only at q n j;subst q;subst n;subst j;rfl
  rw[f];refine h u.heap u.toks m Q (λg o f=>?_) a3;have k:=ea f;have p:g≠s.heap.objs.size:=bh k;refine l.heap g o (λL=>?_)<|c0 g o p<|K g o<|bP _ f;rcases bM.mp L with b2|L;.exact p b2
  .have:g=I:=hV.mp L;rw[this]at k;exact absurd (gP k<|Y9 a0)<|np _
 refine MI (λ_=>?_) λ_=>aC ⟨pw Z0 _,a6 n 0 a7 (λg o _ f=>f) C⟩;refine af<|nv ?_;refine af ?_;show av _ _ (updateSeq s.heap.objs.size (·.push .none)>>=λ_=>updateSeq s.heap.objs.size (·.pop)) _ _ _;refine af<|wpAny_updateSeq C rfl ?_;have r:=lU (ke (·.push lY)) C rfl;refine wpAny_updateSeq (hz:=by seq_fits) r rfl ?_;have b7:=lU (ke (·.pop)) r rfl;refine aC ⟨pw Z0 _,a6 _ _ ?_ (λg o k f=>?_) b7⟩;.refine S.frame 0 _ _ a7 λg k o f=>?_;have p:g≠s.heap.objs.size:=λh=>a1<|h▸k;exact(vd _ _<|cy p).trans<|(vd _ _<|cy p).trans f
 .exact(vd _ _<|cy k).trans<|(vd _ _<|cy k).trans f
end
section
variable{T:bf}{A:bo}{X c f:List ah}{H I:J}{s e:al}{a b:O}{v u:ab}{Q:au}{d i:Nat}
theorem WQ{w:ab}{b:va}(h:fl T X c s Q w e):fl T X c s Q w {e with drawn:=b}:=by ext(@bk h)f I a R q;exact bu f I ⟨a.a,a.d,a.b,a.c,a.e⟩ R q
theorem WR{c:List ah}{b:List ab}{a:List N}(h:Ee b a):aQ (ae c) (a.map .c) b:=by induction h with|nil=>exact .b|cons y t h d=>exact .a ⟨t,rfl⟩ d
theorem WS{j:Array<|Int×ab}{P:Nat}{t:gp}{f:List N}{r:ah}{g:al}(S:A.handled=U)(R:ai T c H s.heap)(y:g.gens=s.gens/\g.os=s.os)(a7:∀b o,s.heap.get? b=V o->g.heap.get? b=V o)(a2:g.heap.get? r=V (da j P t))(h:gE T.a j t f)(k:f.length<60)(b1:f.Nodup)(a9:∀l:List N,l.Perm f->Q (.a H.length) (H++[.a<|l.map .c])):av (ax T.b T.a) A (bT (.builtin "sorted") [.ref r]) (fl T X c s Q) (λ_ _=>False) g:=by
 have C:=h.za;refine EE Mx My Mz (MA _) ?_;unfold Builtin.«sorted»;refine af (m:=MB "sorted" 1 1 _)<|aC ?_;refine af<|WP (A:=A.in1) (by simpa using S) a2 h (by exact aA 0 0 1 60 1 4096 (aw C) k rfl) λd u m a a8 q=>?_;have D:a.length=f.length:=by rw[q.length_eq,bC,hq,C]
 have a5:∀v∈a,∃x t,v=.str x t:=λv a6=>by ext(_:bY.mp (q.mem_iff.mp a6))e p i-(hu:h.b e p)x t i-;exact gs x t rfl
 have n:=strsAre_map a a5
 have a0:(a.map strOf).Perm f:=by
  refine(q.map strOf).trans ?_;have:(j.toList.map (·.2)).map strOf=j.toList.map mO:=by rw[uK];refine jp λe p=>?_;ext(hu:h.b e p)x t i-;rfl
  rw[this];exact h.c
 refine af<|EA ?_ (by rw[D,dk];exact an 1 60 0 16777216 k rfl);have z:(d.push<|bL "list" a.toArray 0).get? d.objs.size=V (bL "list" a.toArray 0):=dt _ rfl;refine af<|eh<|go MC (ad _ z rfl) MD (list_sort_treeK strKind_oneLt z n.keysOf (λb3 b4 b2 e=>keyKind_strs<|by rw[<-e];exact n) (by exact aA 0 0 1 60 1 64 (aw D) k rfl) λE a3 a4=>ad _ rfl ?_)<|ME _;refine aC<|ad _ rfl ?_;ext(bd:sorted_out_str n a3 a4)l G I _;have B:=I.trans a0;have a1:=B.length_eq;have:=An (X:=X) (d:=a) (p:=u) R (λb o e=>a8 b o<|a7 b o e) (λb0=>WR (c:=c++b0) G) (by rw[bC];exact aA 0 0 1 60 0 16777216 (aw a1) k rfl)<|a9 l B;have w:=WQ (b:=m) this;ext(@ac y)K L;have:({g with heap:=uV (d.push<|bL "list" a.toArray 0) d.objs.size a ((iA E).map (·.2)),toks:=u,drawn:=m}:al)={s with heap:=uV (d.push<|bL "list" a.toArray 0) d.objs.size a ((iA E).map (·.2)),toks:=u,drawn:=m}:=by rw[K,L]
 rw[<-this]at w;exact w
theorem WT{a:List N}(f:dw A d)(R:ai T c H s.heap)(n:ae c (.a i) v)(E:H[i]?=V (.a<|a.map .c))(o:a.length<60)(q:∀e:List N,(∀z,z∈e↔z∈a)->e.Nodup->Q (.a H.length) (H++[.a<|e.map .c])):av (ax T.b T.a) A (bT (.type "set") [v]) (λw p=>T.d.In p.heap/\av (ax T.b T.a) A (bT (.builtin "sorted") [w]) (fl T X c s Q) (λ_ _=>False) p) (λ_ _=>False) s:=by
 ext(bt n)L C(co:R.za E C)a4 a2 u y g _;rw[bC]at g;refine Wy (d:=a) f.a u (λj x K=>?_) g (by show a.length+1<4096;exact an 1 60 2 4096 o rfl) λa1 a3 h k=>?_;.ext(_:jA (i:=j) y (x:=.c x) (by rw[dN,K];rfl))b D r(@aD r)t P-;exact⟨t,D⟩
 .refine⟨(R.zc k).zb,?_⟩;ext(@hX h)a0 S t I B;have G:(gF a).length<=a.length:=by have:=IJ (b:=a) (a:=[]);simpa[gF]using this
  have l:(gF a).Nodup:=Wu (by simp);refine WS f.a R ⟨rfl,rfl⟩ k I B (by exact aA 0 0 1 60 1 60 G o rfl) l λe m=>q e (λz=>?_)<|m.nodup_iff.mpr l;rw[m.mem_iff];unfold gF;rw[Wt];simp
end
section
variable{T:bf}{A:bo}{X c f:List ah}{H I:J}{s e:al}{a b:O}{v u:ab}{Q:au}{d i:Nat}
theorem mP{e:Option aa->Prop}{f:List O}{d:List ab}{P:List ab->Prop}(h:lq e H f)(b:aQ (ae c) f d)(k:∀i v,e H[i]?->ae c (.a i) v->P [v]):P d:=by ext(_:qd h)a j h;subst j;obtain⟨u,d,rfl,b,g⟩:=b.zb;rw[g.zc];exact eI h b λi h b=>k i u h b
theorem WU{t:eG}{D:List O}{g:List ab}(K:t≠.e)(B:dw A d)(R:ai T c H s.heap)(l:aQ (ae c) D g)(h:gA t D H Q):aU T A X c s (bT (hB<|wR t) g) Q:=by have P:=B.za;have o:=B.a;cases t with|e=>exact absurd rfl K|a=>exact mP (P:=λg=>aU T A X c s (bT (hB 0) g) Q) h l λi v h f=>fM h (λm e h=>Tq R f e h) (λm e h=>Tr R f e h) (λ_ _ _ h=>h.elim) λn y e h=>Wc R f e h.1 h.2|g=>ext(bp:qe h)a b j h;subst j;ext(bk:l.zb)u g j k L;subst j;ext(bk:L.zb)w a0 j z r;subst j;rw[r.zc];exact fm h k λx h k=>fm h z λa1 h z=>TQ o R k z h|f=>ext(_:qd h)a j h;subst j;ext(bk:l.zb)u g j k r;subst j;rw[r.zc];exact fm h k λx h k=>Vz R k h|c=>ext(_:qd h)a j h;subst j;ext(bk:l.zb)u g j k r;subst j;rw[r.zc];exact ga h k (λx h k=>TP R k h) (λx h k=>TO R k h) (λ_ h _=>h.elim) λ_ h _=>h.elim|d=>exact mP (P:=λg=>aU T A X c s (bT (hB 4) g) Q) h l λi v h f=>fM h (λm e h=>Ts R f e h.1 h.2) (λm e h=>Tt R f e h.1 h.2) (λ_ _ _ h=>h.elim) λ_ _ _ h=>h.elim|h=>exact mP (P:=λg=>aU T A X c s (bT (hB 5) g) Q) h l λi v h f=>eJ h λm e h=>Tu R f e h.1 h.2|i=>exact mP (P:=λg=>aU T A X c s (bT (hB 6) g) Q) h l λi v h f=>eJ h λm e h=>dv h λC p h=>VB o R f (ln p▸e) h|b=>refine mP (P:=λg=>aU T A X c s (bT (hB 7) g) Q) h l λi v h f=>fM h (λm e h=>dv h λC p h=>Ao o R f (.inl<|ln p▸e) h) (λm e h=>dv h λC p h=>Ao o R f (.inr<|.inl<|ln p▸e) h) (λn y e h=>Ao o R f (.inr<|.inr<|bK n y e rfl) h) λn y e h=>Wf o R f e h.1 h.2.1 h.2.2.1 h.2.2.2|j=>refine mP (P:=λg=>aU T A X c s (bT (hB 8) g) Q) h l λi v h f=>eJ h λm e h=>?_;ext(@vv h)S j E G I q;subst j;exact Wk (by exact NP P) o R f e E G I q
theorem qK{j:N}{d:String}{q:List O}{m:cN Bool}{P:ab×List ab->al->Prop}{E:ab->al->Prop}(o:pm "list" j d)(p:uQ (.builtin d)=bv (.type "method_descriptor"))(R:ai T c H s.heap)(g:ae c (.a i) v)(l:H[i]?=V (.a q))(h:P (.builtin d,[v]) s):av (ax T.b T.a) A (uL v j m) P E s:=by ext(g)a k r-(bp:R.za l k)t n f w;exact Z1 (ad _ f rfl) PySem.F.plainAttrs_list o p (λb e=>by cases e;exact ad _ f rfl) h
theorem WV{f:N}{b:String}{n:Nat}{g:List<|Int×O}{l:cN Bool}{P:ab×List ab->al->Prop}{E:ab->al->Prop}(m:pm "dict" f b)(o:uQ (.builtin b)=bv (.type "method_descriptor"))(R:ai T c H s.heap)(e:ae c (.a i) v)(k:H[i]?=V (.f n g))(h:P (.builtin b,[v]) s):av (ax T.b T.a) A (uL v f l) P E s:=by ext(e)a j p-(_:R.zf k j)q d w;exact Z1 d.dictOf.typeIs PySem.F.plainAttrs_dict m o d.dictOf.mapOf.noDict h
end
theorem WW(C:ah)(b:List ab)(a:List<|N×ab):(EG "type.__call__" ⟨.ref C::b,a⟩).weight=1:=by kernel_rfl
theorem WX(C:ah)(b:List ab)(a:List<|N×ab):(EG "type.__call__" ⟨.ref C::b,a⟩).cUnits=1:=by kernel_rfl
theorem dw.ze{A:bo}{d:Nat}(c:dw A<|d+1)(C:ah)(b:List ab)(a:List<|N×ab):dw (A.under<|.builtin "type.__call__" ⟨.ref C::b,a⟩) d:=⟨c.a,by have:=c.b;show A.depth+(EG "type.__call__" ⟨.ref C::b,a⟩).weight+3*d+6<=1000;rw[WW];exact Ga this,by have:=c.c;show A.units+(EG "type.__call__" ⟨.ref C::b,a⟩).cUnits+60*d+80<=9900;rw[WX];exact NS this⟩
section
variable{a:Model}{A:bo}{E:ab->al->Prop}{s:al}{b:cl}
theorem WY{u:ag}{p:aE}{Q:ab->al->Prop}(h:av a A (ca u b) (λd c=>Q (.ref c.heap.objs.size) {c with heap:=c.heap.push {cls:=.type "slice",data:=.fields #[.none,d,.none]}}) E s):av a A (ca (.Slice U (V u) U p) b) Q E s:=by rw[arm_eval_Slice];refine af<|aC<|af<|eh<|ba h (λd c f=>?_) λw w e=>e;refine af<|eh<|aC ?_;exact kj f
theorem WZ{u:ag}{p:aE}{Q:ab->al->Prop}(h:av a A (ca u b) (λd c=>Q (.ref c.heap.objs.size) {c with heap:=c.heap.push {cls:=.type "slice",data:=.fields #[d,.none,.none]}}) E s):av a A (ca (.Slice (V u) U U p) b) Q E s:=by rw[arm_eval_Slice];refine af<|ba h (λd c f=>?_) λw w e=>e;refine af<|eh<|aC ?_;refine af<|eh<|aC ?_;exact kj f
end
section
variable{a:dV}{w:bX}{A:bo}{E:ab->al->Prop}{s:al}{b:cl}
theorem As{f c:ag}{B:aE}{Q:ab->al->Prop}(v:∀o i,subscripted c aq o i=operate [o,i] (jl o i)\/subscripted c aq o i=operate [i,o] (jl o i))(h:av (ax a w) A (ca f b) (λo n=>av (ax a w) A (ca c b) (λi d=>(∃(T m:String),d.TypeIs o T/\uJ (.type T) "__getitem__"=bv (V<|.builtin m))/\av (ax a w) A (jl o i) Q E d) E n) E s):av (ax a w) A (ca (.Subscript f c B) b) Q E s:=by
 rw[eval_Subscript];refine af<|ba h (λo n y=>af<|eh<|ba y (λi d k=>af<|kV ?_) λC C x=>x) λC C x=>x;ext(@ac k)q t(@bp q)T m j u;refine af ?_;rw[getitemInPython_of_ne j.not_modules];refine af<|uO j u ?_;refine aC ?_;have g:∀l,av (ax a w) A (operate l<|jl o i) (λr p=>av (ax a w) A (letTemporaryGo f o r>>=λC=>bv r) Q E p) E d:=λl=>wpAny_operating<|ba t (λr p z=>af<|Z2<|aC z) λC C x=>x;rcases v o i with e|e;.rw[e];exact af<|g _
 .rw[e];exact af<|g _
theorem Xa{c:ag}{d:N}{j:aE}{Q:ab->al->Prop}(f:iU c=M)(h:av (ax a w) A (ca c b) (λo e=>av (ax a w) A (getAttr o d M) Q E e) E s):av (ax a w) A (ca (.Attribute c d j) b) Q E s:=by rw[arm_eval_Attribute,Iq f];refine af<|ba h (λo e g=>af<|kV<|af<|eh<|ba g (λr k i=>?_) λz z x=>x) λz z x=>x;exact af<|Z2<|aC i
end
section
variable{T:bf}{A:bo}{X c f:List ah}{H I:J}{s e:al}{a b:O}{v u:ab}{Q:au}{d:Nat}{g:cl}{h:cD}{i:cm}{r:am}
theorem cI{t:cN ab}{d:au}{P E:ab->al->Prop}(h:aU T A X c s t d)(k:∀v x f I e,bg X c s f e->ai T f I e.heap->ae f x v->d x I->P v e):av (ax T.b T.a) A t P E s:=ba h (λv e j=>bk j λf I a b l=>Y l λx g q=>k v x f I e a b g q) λw w i=>i.elim
theorem IS{j:ab}{i:List ag}{l:aE}{P:ab->al->Prop}{m:List O->J->Prop}(t:dS i=M)(r:∀a,j≠.ref a)(h:Ag T A [] c s (pk<|fD l<|eR i g) m)(k:∀b d f I e,bg [] c s f e->ai T f I e.heap->aQ (ae f) d b->m d I->av (ax T.b T.a) A (bT j b []) P (λB B=>False) e):av (ax T.b T.a) A (rQ l j [] (fD l<|eR i g) []) P (λB B=>False) s:=by refine qG t (tn r)<|ba h (λb v x=>bk x λz o w n y=>Y y λd u q=>?_) λB B p=>p;exact⟨n.zb,k b d z o v w n u q⟩
theorem At{a:ah}{n:List ab}{i:List ag}{j:aE}{P:ab->al->Prop}{l:List O->J->Prop}(t:dS i=M)(r:rJ T.d (.ref a)=M)(h:Ag T A [] c s (pk<|fD j<|eR i g) l)(k:∀b d f I e,bg [] c s f e->ai T f I e.heap->aQ (ae f) d b->l d I->av (ax T.b T.a) A (bT (.ref a) (n++b) []) P (λB B=>False) e):av (ax T.b T.a) A (rQ j (.ref a) n (fD j<|eR i g) []) P (λB B=>False) s:=by refine qG t (keeps_K r)<|ba h (λb v x=>bk x λz o w m y=>Y y λd u q=>?_) λB B p=>p;exact⟨m.zb,k b d z o v w m u q⟩
theorem lD{a:ag}{b:List ag}{i:aE}{d:au}{P:List ab->al->Prop}(j:dS (a::b)=M)(h:aU T A [] c s (ca a g) d)(k:∀v x f I e,bg [] c s f e->ai T f I e.heap->ae f x v->d x I->av (ax T.b T.a) A (pk<|fD i<|eR b g) (λl=>P<|v::l) (λw w=>False) e):av (ax T.b T.a) A (pk<|fD i<|eR (a::b) g) P (λw w=>False) s:=EH (cI h k) (qF j).1
theorem lE{f:ab}{d:List ab}{b:List ag}{c:aE}{P:ab->al->Prop}(j:dS b=M)(i:∀a,f≠.ref a)(h:av (ax T.b T.a) A (pk<|fD c<|eR b g) (λk e=>T.d.In e.heap/\av (ax T.b T.a) A (bT f (d++k) []) P (λw w=>False) e) (λw w=>False) s):av (ax T.b T.a) A (rQ c f d (fD c<|eR b g) []) P (λw w=>False) s:=qG j (tn i) h
theorem qL(h:gZ a H):∃i b,a=.a i/\H[i]?=V (.a b):=by ext(_:ws h)i c h;subst c;exact eJ h λb e w=>bK i b rfl e
theorem IT{l:Nat->List O->Prop}(h:dQ (λi=>eH (l i) H[i]?) a):gZ a H:=by ext(_:ws h)i b h;subst b;exact eJ h λc e w=>by show ta H[i]?;rw[e];trivial
theorem Xb(h:ql a H):∃i n b,a=.a i/\H[i]?=V (.f n b):=by ext(_:ws h)i c h;subst c;exact HC h λn b e w=>ks i n b rfl e
theorem Xc{i:Nat}(R:ai T c H s.heap)(d:ae c (.a i) v)(a:ae c b u)(h:qm (.a i) b H Q):aU T A X c s (bT (.builtin "list.append") [v,u]) Q:=eJ h λf e h=>Tm R d a e h.1 h.2
theorem Xd{i:Nat}(R:ai T c H s.heap)(f:ae c (.a i) v)(a:ae c b u)(h:qn (.a i) b H Q):aU T A X c s (bT (.builtin "list.extend") [v,u]) Q:=eI (k:=λj=>tb i H Q H[i]? H[j]?) h a λj h a=>eJ h λg d h=>eJ h λk e h=>Tn R f a d e h.1 h.2
theorem Xe{i:Nat}(R:ai T c H s.heap)(a:ae c (.a i) v)(h:qo (.a i) H Q):aU T A X c s (bT (.builtin "list.pop") [v]) Q:=eJ h λd e h=>dv h.2 λx b q=>To R a e b h.1 q
theorem Xf{i:Nat}(R:ai T c H s.heap)(d:ae c (.a i) v)(b:ae c (.b 0) u)(h:qp (.a i) H Q):aU T A X c s (bT (.builtin "list.pop") [v,u]) Q:=eJ h λa e h=>by cases a with|nil=>exact h.elim|cons x a=>exact Tp R d b e h.1 h.2
theorem Xg{i:Nat}(R:ai T c H s.heap)(n:ae c (.a i) v)(e:ae c b u)(h:qq (.a i) b H Q):aU T A X c s (bT (.builtin "list.index") [v,u]) Q:=by
 refine wr h e λz h e=>eJ h λo f h=>dv h λa k h=>?_;rw[nO k]at f;have d:a.idxOf z<a.length:=hs h.1;refine TK R n e f (n:=a.idxOf z) ?_ (λm j g=>?_) h.2;.rw[cu d,vf d]
 .have l:m<a.length:=gm j d;rw[cu l]at g;have:=List.not_of_lt_findIdx (p:=(·==z)) j;rw[bj g]at this;simp at this
theorem Xh{i:Nat}{e:O}{w:ab}(R:ai T c H s.heap)(f:ae c (.a i) v)(a:ae c b u)(g:ae c e w)(h:qr (.a i) b e H Q):aU T A X c s (bT (.builtin "dict.get") [v,u,w]) Q:=fm h a λk h a=>HC h λn j d h=>Wb R f a g d h
theorem mQ{b c:Bool->Prop}{i d:Int->Prop}{s e:N->Prop}{r f:Nat->Prop}(h:gz b i s r a)(g:∀x,b x->c x)(j:∀x,i x->d x)(l:∀x,s x->e x)(k:∀x,r x->f x):gz c d e f a:=by cases a<;>first|exact kg h|exact g _ h|exact j _ h|exact l _ h|exact k _ h
theorem mR{l t g i:List O->Prop}{d c:Nat->List (Int×O)->Prop}{e f:Nat->List (List Int×Nat×O)->Prop}{o:Option aa}(h:fL l t d e o)(m:∀b,l b->g b)(p:∀b,t b->i b)(j:∀n a,d n a->c n a)(k:∀n a,e n a->f n a):fL g i c f o:=by cases o with|none=>exact h.elim|some o=>cases o<;>first|exact m _ h|exact p _ h|exact j _ _ h|exact k _ _ h|exact kg h
theorem qM{b:Type}{k a:b->Prop}{o:Option b}(h:cz k o)(c:∀x,k x->a x):cz a o:=by cases o with|none=>exact h|some x=>exact c x h
theorem Au{k b:Int->Prop}(h:ie k a)(c:∀x,k x->b x):ie b a:=mQ h (λw h=>h) c (λw h=>h) λw h=>h
theorem IU{Q d:Bool->Prop}(k:∀c,Q c->d c)(h:iQ a b H Q):iQ a b H d:=mQ h (λw h=>h) (λw h=>h) (λw h=>h) λi h=>mQ h (λw h=>h) (λx h=>mR h (λw h=>qM h λw=>k _) (λw h=>qM h λw=>k _) (λw w=>k _) λw w h=>h) (λz h=>mR h (λw h=>qM h λw=>k _) (λw h=>qM h λw=>k _) (λw w h=>h) λw w h=>h) λj h=>qM h λe h=>mR h (λw h=>h) (λw h=>h) (λw w h=>h) λw w=>k _
theorem IV{Q d:Bool->Prop}(k:∀c,Q c->d c)(h:iR a b H Q):iR a b H d:=by refine mQ h (λw h=>h) (λw h=>Au h λw=>k _) (λw h=>mQ h (λw h=>h) (λw h=>h) (λw=>k _) λw h=>h) λi h=>mQ h (λw h=>h) (λw h=>h) (λw h=>h) λj h=>mR h (λg h=>mR h (λe h=>?_) (λw h=>h) (λw w h=>h) λw w h=>h) (λw h=>h) (λw w h=>h) λn f h=>mR h (λw h=>h) (λw h=>h) (λw w h=>h) λw w h=>aI h.1 h.2.1<|k _ h.2.2;cases e with|nil=>exact k _ h|cons y r=>exact aI h.1 h.2.1<|k _ h.2.2
theorem Xi{k d:O->O->Prop}{e:List O}(h:nQ k e)(c:∀a b,k a b->d a b):nQ d e:=by ext(bp:qe h)a b f h;subst f;exact c a b h
theorem Xj{d:fg}{Q e:Bool->Prop}(k:∀c,Q c->e c)(h:gc d a b H Q):gc d a b H e:=by cases d<;>first|exact kg h|exact IV k h|exact IV (λc=>k _) h|exact IU k h|exact IU (λc=>k _) h|exact Au h λx h=>Au h λy=>k _
theorem ij.zb{j:bo}{w x r:List ah}{i m n:al}{p:List O}{l:J->Prop}(h:ij T j m r n v p l)(t:bg X w i x m):ij T j i r n v p l:=ba h (λz z u=>EX u λI s a b c d e f g=>Fd I s a b c d e (by cases q:i.heap.get? I with|none=>rfl|some o=>ext(aD:t.c I o q)y k;rw[f]at k;exact cn k) g) λz z e=>e
theorem lF{n:N}{c a:aE}{b:List ag}{P E:ab->al->Prop}(h:av (ax T.b T.a) A (ca (.Name n c) g) (λf d=>av (ax T.b T.a) A (rQ a f [] (fD a<|eR b g) []) P E d) E s):av (ax T.b T.a) A (ca (.Call (.Name n c) b [] a) g) P E s:=wpAny_Call_Name_kw h
theorem Xk{j:Nat}{n:List O}{m:List ab}(C:dw A<|d+1)(p:j<7)(R:ai T c H s.heap)(z:aQ (ae c) n m)(h:kD T d (lf j) (.a (H.length+1)::n) (H++[.c [],.e j H.length]) λv G=>v=.e/\Q (.a<|H.length+1) G):aU T A [] c s (bT (.ref<|T.e j) m []) Q:=by
 delta T A c H s Q d j n m;ext C p R z h(ei:R.a.e j p)_ b0 a3 a4
 have w:lf j<fk:=by
  have:∀j,j<7->lf j<fk:=by decide
  exact this j p
 obtain⟨i,g,u,t,B⟩:=s;refine Mi<|make_core (makes_of R.zb a3) (looks_findIn R.zb a4) (λa7=>bind_fn R.zb a7<|beq_iff_eq.mp (R.a.b _ w).2) (.inl rfl) ?_;have k:∀b o,i.get? b=V o->((i.push vg).push<|uE (T.e j) i.objs.size).get? b=V o:=λb o l=>bP _<|bP _ l;have L:ai T (c++[i.objs.size]) (H++[.c []])<|i.push vg:=R.zp (λb o l=>bP _ l) (gX _<|aO _) R.zh (dt _ rfl)<|aI (by simp) ⟨by simp,by simp⟩<|bK ([]) 0 rfl .b;have y:(i.push vg).objs.size=i.objs.size+1:=jq ..;have r:ai T ((c++[i.objs.size])++[i.objs.size+1]) ((H++[.c []])++[.e j H.length])<|(i.push vg).push<|uE (T.e j) i.objs.size:=by refine L.zp (λb o l=>bP _ l) (gX _<|by rw[y];exact aO _) (pq R.zh) (by rw[<-y];exact dt _ rfl) ⟨p,ad i.objs.size ?_ rfl⟩;rw[fY,ev<|by rw[R.c];exact aO _,R.c];simp
 have P:(c++[i.objs.size])++[i.objs.size+1]=c++[i.objs.size,i.objs.size+1]:=by simp
 have S:(H++[.c []])++[.e j H.length]=H++[.c [],.e j H.length]:=by simp
 rw[P,S]at r
 have a8:bg [] c ⟨i,g,u,t,B⟩ (c++[i.objs.size,i.objs.size+1]) ⟨(i.push vg).push<|uE (T.e j) i.objs.size,g,u,t,B⟩:=⟨kS ..,⟨rfl,rfl⟩,λb o l _ _=>k b o l,λb o l=>⟨o,k b o l⟩,λa a0=>by
  rcases bU.mp a0 with h|h;.exact .inl h
  .simp at h;rcases h with rfl|rfl;.exact .inr<|gX _<|aO _
   .exact .inr<|gX _<|ED _⟩;have x:ae (c++[i.objs.size,i.objs.size+1]) (.a<|H.length+1)<|.ref<|i.objs.size+1:=ad _ (by rw[ev<|by rw[R.c];exact du _ 0 1 rfl,R.c,show H.length+1-H.length=1 by exact vT];rfl) rfl;have a1:aQ (ae<|c++[i.objs.size,i.objs.size+1]) (.a (H.length+1)::n)<|.ref (i.objs.size+1)::m:=.a x<|z.ze λ_ _ h=>h.zb;ext(rP:h _ _ _ _ (C.ze (T.e j) m []) r a1 w)a6 e q
 cases a6 with
 |error l=>exact q.elim
 |ok X=>
  cases X<;>try exact q.elim
  rename_i v;ext(@bk q)f I D K E(@bd E)b1 a2 a9 a5;subst a9;cases a2;refine⟨rfl,bu f I (a8.za D) K<|ad (.a<|H.length+1) (x.za D.a) a5⟩
end
theorem IW{r:am}{t u:Nat}(h:t≠u)(a b c e:Option O):((((r.set t a).set u b).set t c).set u e)=(r.set t c).set u e:=by rw[vh b c<|cy h,vi,vi]
theorem Av{r:am}{t:Nat}:(r.set t U)[t]?.join=U:=by
 by_cases h:t<r.length;.rw[kd h];rfl
 .rw[pA<|by simp;exact dM h];rfl
theorem tA{r:am}{t i:Nat}{x:Option O}(h:t≠i):(r.set t x)[i]?.join=r[i]?.join:=by rw[iw h]
theorem jI{g:cm}{e:ao}{a:ag}(h:df g e a=M)(b:cl)(x:ab):EI a b x=bv x:=by
 cases a<;>try rfl
 exfalso;cases e<;>exact cG h
section
variable{T:bf}{A:bo}{X e f:List ah}{H I:J}{s g:al}{a b:O}{v u:ab}{Q:au}{d:Nat}{c:cl}{h:cD}{i:cm}{r:am}
theorem IX{C D:ah}{a:List O}(P:bg [] e s f g)(R:ai T f I g.heap)(i:∃c n,g.heap.get? D=V (bL "list" c n)/\aQ (ae f) a c.toList)(j:∃m,g.heap.Ns C m)(w:s.heap.get? D=U)(v:s.heap.get? C=U)(t:T.c.get? D=U)(r:T.c.get? C=U)(u:2<D)(x:D≠C)(L:D∉f)(K:C∉f)(H:a.length<=16777001)(q:Q (.a I.length)<|I++[.a a]){E:ab->al->Prop}{k:bo}:compPost (ax T.b T.a) k E U (fl T [] e s Q) (.ref D) C (.ok .next) g:=by ext(@aD j)m z;refine ad m z λd h=>?_;ext(@bp i)c n A G;have l:ai T f I d:=R.zo K r h;have S:bg [] e s f {g with heap:=d}:=P.zd ⟨⟨rfl,rfl⟩,λb o y p=>(h.2 b y).trans p⟩ v;have B:d.get? D=V (bL "list" c n):=(h.2 D x).trans A;refine bu (f++[D]) (I++[.a a]) (S.zh w) (l.zw L t u B<|hC G.zd<|by exact an 0 16777001 0 16777217 H rfl)<|ad (.a I.length) (ad D ?_ rfl) q;rw[<-R.c,ev<|aO _];simp
def Xl(r:am)(t:Nat)(a:am):Prop:=∀x,a.set t x=r.set t x
def IY(r:am)(t u:Nat)(c:am):Prop:=∀a b,(c.set t a).set u b=(r.set t a).set u b
theorem IZ{t:Nat}{n:N}{c2 c4:aE}{p a1:ag}{w:List ag}{a:fh}{S:O->J->(am->Prop)->Prop}{z:am->J->(Bool->J->Prop)->Prop}{a2:am->J->au->Prop}{G:cl->cN Bool}(B:cL T A d c h i)(b6:ls i a [(t,n)]=M)(d3:∀x,EI p c x=bv x)(a7:bq T c h e r s.heap)(b2:∀x H Q,S x H Q=ky t x r H Q)(b3:(w=[]/\∀r H Q,z r H Q->Q M H)\/∃u,w=[u]/\G=λa3=>ko u a3<|ca u a3)(b7:∀C,cL T A d (dX a (a.names.foldl (ct c) []) C c) (em a h [(t,n)]) (i.zb a [(t,n)])->∀e H s o(j:Bool->J->Prop),bq T (dX a (a.names.foldl (ct c) []) C c) (em a h [(t,n)]) e o s.heap->ai T e H s.heap->z o H j->eW T A [] e s (G<|dX a (a.names.foldl (ct c) []) C c) λb _ I _=>j b I)(b4:∀C,cL T A d (dX a (a.names.foldl (ct c) []) C c) (em a h [(t,n)]) (i.zb a [(t,n)])->∀e H s o(j:au),bq T (dX a (a.names.foldl (ct c) []) C c) (em a h [(t,n)]) e o s.heap->ai T e H s.heap->a2 o H j->aU T A [] e s (ca a1<|dX a (a.names.foldl (ct c) []) C c) j){P:ab->ah->mg->al->Prop}{L:List O->J->Prop}{E:ab->al->Prop}(b1:∀D C f I K g,bg [] e s f g->ai T f I g.heap->(∃a6 n,g.heap.get? D=V (bL "list" a6 n)/\aQ (ae f) K a6.toList)->(∃m,g.heap.Ns C m)->s.heap.get? D=U->s.heap.get? C=U->T.c.get? D=U->T.c.get? C=U->2<D->D≠C->D∉f->C∉f->K.length<=16777001->L K I->P (.ref D) C (.ok .next) g)(b5:mL T A [] e s (ca p c) λd0 c3 a9=>eL S z a2 c3 d0 [] a9 L):av (ax T.b T.a) A (ca p c) (λx c6=>av (ax T.b T.a) A (iz x) (λc0 c7=>av (ax T.b T.a) A (nx []) (λR c8=>av (ax T.b T.a) A (uX a c.globals (a.names.foldl (ct c) []) [] c.qual U .none<|V c) (λX c9=>hT (ax T.b T.a) A (.compStart (.ListComp a1 [⟨.Name n c2,p,w,0⟩] a c4) 0 c0 R {X with scope:=ps a c}) (P R X.locals) c9) E c8) E c7) E c6) E s:=by
 have a0:=of b6;have b8:t<h.length:=by rw[<-B.c];exact(a0.a _<|.head _).1
 have c1:∀k m,([(t,n)]:List (Nat×N)).lookup k=V m->k=t:=λk m l=>by have:=lA l;simp at this;exact this.1
 refine IE (R:=Xl r t) (w:=r.set t U) (a9:=G) B a0 a7 (by simp) (λk m l=>?_) (λk l=>?_) (λx=>by rw[vi]) b3 (λC q=>⟨?_,b7 C q,b4 C q⟩) b1 b5;.rw[c1 k m l];exact Av
 .refine tA λy=>?_;subst y;simp at l
 .ext e H s x v d2 j a4 a8 b0 b9 a5;rw[b2]at a5;refine ba (lz (X:=[(dX a (a.names.foldl (ct c) []) C c).locals]) q.a a8 b0 (tt b8<|by simp) (.inl rfl) (.head _) b9) (λ_ g c5=>aT _ c5 ?_ ?_) λ_ _ y=>y;.ext d1;rw[vi];exact a4 d1
  .show j<|d2.set t<|V x;rw[a4];exact a5
theorem Ja{t u:Nat}{n m:N}{d3 d2 e0 d5:aE}{d0:Nat}{G a5:ag}{L:List ag}{l:fh}{a3:O->J->(am->Prop)->Prop}{R:am->J->(Bool->J->Prop)->Prop}{a6:am->J->au->Prop}{S:cl->cN Bool}(B:cL T A d c h i)(c3:ls i l [(t,n),(u,m)]=M)(e2:∀x,EI G c x=bv x)(b4:bq T c h e r s.heap)(b9:∀x H Q,a3 x H Q=gY t u x r H Q)(c0:(L=[]/\∀r H Q,R r H Q->Q M H)\/∃K,L=[K]/\S=λa7=>ko K a7<|ca K a7)(c5:∀C,cL T A d (dX l (l.names.foldl (ct c) []) C c) (em l h [(t,n),(u,m)]) (i.zb l [(t,n),(u,m)])->∀e H s p(q:Bool->J->Prop),bq T (dX l (l.names.foldl (ct c) []) C c) (em l h [(t,n),(u,m)]) e p s.heap->ai T e H s.heap->R p H q->eW T A [] e s (S<|dX l (l.names.foldl (ct c) []) C c) λb _ I _=>q b I)(c1:∀C,cL T A d (dX l (l.names.foldl (ct c) []) C c) (em l h [(t,n),(u,m)]) (i.zb l [(t,n),(u,m)])->∀e H s p(q:au),bq T (dX l (l.names.foldl (ct c) []) C c) (em l h [(t,n),(u,m)]) e p s.heap->ai T e H s.heap->a6 p H q->aU T A [] e s (ca a5<|dX l (l.names.foldl (ct c) []) C c) q){a1:ab->ah->mg->al->Prop}{a0:List O->J->Prop}{E:ab->al->Prop}(b8:∀D C f I X g,bg [] e s f g->ai T f I g.heap->(∃b2 n,g.heap.get? D=V (bL "list" b2 n)/\aQ (ae f) X b2.toList)->(∃m,g.heap.Ns C m)->s.heap.get? D=U->s.heap.get? C=U->T.c.get? D=U->T.c.get? C=U->2<D->D≠C->D∉f->C∉f->X.length<=16777001->a0 X I->a1 (.ref D) C (.ok .next) g)(c2:mL T A [] e s (ca G c) λb3 d4 b6=>eL a3 R a6 d4 b3 [] b6 a0):av (ax T.b T.a) A (ca G c) (λx d6=>av (ax T.b T.a) A (iz x) (λc9 d7=>av (ax T.b T.a) A (nx []) (λa2 d8=>av (ax T.b T.a) A (uX l c.globals (l.names.foldl (ct c) []) [] c.qual U .none<|V c) (λa4 d9=>hT (ax T.b T.a) A (.compStart (.ListComp a5 [⟨.Tuple [.Name n d3,.Name m d2] d0 e0,G,L,0⟩] l d5) 0 c9 a2 {a4 with scope:=ps l c}) (a1 a2 a4.locals) d9) E d8) E d7) E d6) E s:=by
 have y:=of c3;have c6:t<h.length:=by rw[<-B.c];exact(y.a _<|.head _).1
 have c7:u<h.length:=by rw[<-B.c];exact(y.a _<|.tail _<|.head _).1
 have z:t≠u:=by have:=y.e;simp at this;exact this
 have d1:∀o k,([(t,n),(u,m)]:List (Nat×N)).lookup o=V k->o=t\/o=u:=λo k j=>by
  have:=lA j;simp at this;rcases this with j|j;.exact .inl j.1
  .exact .inr j.1
 have b0:([(t,n),(u,m)]:List (Nat×N)).lookup t=V n:=by simp
 have b1:([(t,n),(u,m)]:List (Nat×N)).lookup u=V m:=by
  rw[kh];have:(u==t)=aq:=by simpa using cy z
  rw[this];simp
 refine IE (R:=IY r t u) (w:=(r.set t U).set u U) (a9:=S) B y b4 (by simp) (λo k j=>?_) (λo j=>?_) (λa b=>IW z _ _ _ _) c0 (λC w=>⟨?_,c5 C w,c1 C w⟩) b8 c2
 .rcases d1 o k j with rfl|rfl;.rw[tA<|cy z];exact Av
  .exact Av
 .rw[tA λP=>by subst P;rw[b1]at j;exact gr j,tA λP=>by subst P;rw[b0]at j;exact gr j]
 .ext e H s x v e1 q a8 b5 b7 c8 a9;rw[b9]at a9;have c4:gY t u x e1 H λp=>IY r t u p/\q p:=by exact mQ a9 (λ_ j=>j) (λ_ j=>j) (λ_ j=>j) λo j=>mR j (λ_ j=>j) (λb3 j=>Xi j λa b j=>⟨λa b=>by rw[IW z];exact a8 a b,by rw[a8];exact j⟩) (λ_ _ j=>j) λ_ _ j=>j
  exact Al (X:=[(dX l (l.names.foldl (ct c) []) C c).locals]) w.b.a w.a b5 b7 (tt c6 b0) (.inl rfl) (.head _) (tt c7 b1) (.inl rfl) (.head _) c8 c4
end
def hG(c:Bool)(a b:Prop):Prop:=if c then a else b
@[simp]theorem Jb{a b:Prop}:hG M a b=a:=rfl
@[simp]theorem tB{a b:Prop}:hG aq a b=b:=rfl
theorem cE{c:Bool}{a b:Prop}(d:c=M->a)(e:c=aq->b):hG c a b:=by
 cases c;.exact e rfl
 .exact d rfl
@[simp]theorem cb{a:Option O}{r:am}{Q:Option O->Prop}:jC (a::r) 0 Q=Q a:=rfl
@[simp]theorem dG{a:Option O}{r:am}{n:Nat}{Q:Option O->Prop}:jC (a::r) (n+1) Q=jC r n Q:=rfl
@[simp]theorem ce{x:O}{Q:O->Prop}:lo Q (V x)=Q x:=rfl
@[simp]theorem cf{H:J}{Q:au}{x:O}:eK H Q x=(Q x H):=rfl
def mS(H:J)(Q:Bool->J->Prop)(c:Bool):Prop:=Q c H
@[simp]theorem qN{H:J}{Q:Bool->J->Prop}{c:Bool}:mS H Q c=(Q c H):=rfl
def Aw(H:J)(Q:au)(c:Bool):Prop:=Q (.d c) H
@[simp]theorem aaM{H:J}{Q:au}{c:Bool}:Aw H Q c=(Q (.d c) H):=rfl
def tC(Q:Bool->J->Prop)(x:O)(H:J):Prop:=iS x H<|mS H Q
@[simp]theorem Xm{Q:Bool->J->Prop}{x:O}{H:J}:tC Q x H=(iS x H<|mS H Q):=rfl
def Jc(H:J)(Q:Bool->J->Prop)(x:O):Prop:=iS x H<|mS H Q
@[simp]theorem aaN{H:J}{Q:Bool->J->Prop}{x:O}:Jc H Q x=(iS x H<|mS H Q):=rfl
def mT(H:J)(Q:List O->(J->Prop)->J->Prop)(b:List O)(a:J->Prop):Prop:=Q b a H
@[simp]theorem Jd{H:J}{Q:List O->(J->Prop)->J->Prop}{b:List O}{a:J->Prop}:mT H Q b a=(Q b a H):=rfl
def lG(Q:List O->(J->Prop)->J->Prop)(x:O)(H:J):Prop:=hD x H<|mT H Q
@[simp]theorem oh{Q:List O->(J->Prop)->J->Prop}{x:O}{H:J}:lG Q x H=(hD x H<|mT H Q):=rfl
def Je(H:J)(Q:List O->(J->Prop)->J->Prop)(x:O):Prop:=hD x H<|mT H Q
@[simp]theorem Jf{H:J}{Q:List O->(J->Prop)->J->Prop}{x:O}:Je H Q x=(hD x H<|mT H Q):=rfl
def Ax(H:J)(Q:List O->(J->Prop)->J->Prop)(a:List O):Prop:=Q a (λw=>True) H
@[simp]theorem tD{H:J}{Q:List O->(J->Prop)->J->Prop}{a:List O}:Ax H Q a=(Q a (λw=>True) H):=rfl
def Ay(c:hp)(a:O)(Q:au)(b:O)(H:J):Prop:=gb c a b H Q
@[simp]theorem Az{c:hp}{a:O}{Q:au}{b:O}{H:J}:Ay c a Q b H=(gb c a b H Q):=rfl
def Jg(C:bl)(b:hp)(r:ao)(c:am)(Q:au)(a:O)(H:J):Prop:=aK C r c H<|Ay b a Q
@[simp]theorem AA{C:bl}{b:hp}{r:ao}{c:am}{Q:au}{a:O}{H:J}:Jg C b r c Q a H=(aK C r c H<|Ay b a Q):=rfl
def AB(c:fg)(a:O)(Q:au)(b:O)(H:J):Prop:=gc c a b H<|Aw H Q
@[simp]theorem aaO{c:fg}{a:O}{Q:au}{b:O}{H:J}:AB c a Q b H=(gc c a b H<|Aw H Q):=rfl
def Jh(C:bl)(b:fg)(r:ao)(c:am)(Q:au)(a:O)(H:J):Prop:=aK C r c H<|AB b a Q
@[simp]theorem aaP{C:bl}{b:fg}{r:ao}{c:am}{Q:au}{a:O}{H:J}:Jh C b r c Q a H=(aK C r c H<|AB b a Q):=rfl
def AC(c:fg)(a:O)(Q:Bool->J->Prop)(b:O)(H:J):Prop:=gc c a b H<|mS H Q
@[simp]theorem tE{c:fg}{a:O}{Q:Bool->J->Prop}{b:O}{H:J}:AC c a Q b H=(gc c a b H<|mS H Q):=rfl
def Ji(C:bl)(b:fg)(r:ao)(c:am)(Q:Bool->J->Prop)(a:O)(H:J):Prop:=aK C r c H<|AC b a Q
@[simp]theorem AD{C:bl}{b:fg}{r:ao}{c:am}{Q:Bool->J->Prop}{a:O}{H:J}:Ji C b r c Q a H=(aK C r c H<|AC b a Q):=rfl
def Jj(C:bl)(a b:ao)(r:am)(Q:au)(c:Bool)(H:J):Prop:=hG c (aK C a r H Q)<|aK C b r H Q
@[simp]theorem aaQ{C:bl}{a b:ao}{r:am}{Q:au}{c:Bool}{H:J}:Jj C a b r Q c H=(hG c (aK C a r H Q)<|aK C b r H Q):=rfl
def AE(n:Nat)(Q:au)(o:O)(H:J):Prop:=cS o n H Q
@[simp]theorem dH{n:Nat}{Q:au}{o:O}{H:J}:AE n Q o H=(cS o n H Q):=rfl
def AF(a:O)(Q:au)(b:O)(H:J):Prop:=jD a b H Q
@[simp]theorem qO{a:O}{Q:au}{b:O}{H:J}:AF a Q b H=(jD a b H Q):=rfl
def tF(C:bl)(x:ao)(r:am)(Q:au)(a:O)(H:J):Prop:=aK C x r H<|AF a Q
@[simp]theorem qP{C:bl}{x:ao}{r:am}{Q:au}{a:O}{H:J}:tF C x r Q a H=(aK C x r H<|AF a Q):=rfl
def AG(a:O)(Q:au)(b:O)(H:J):Prop:=lr a b H Q
@[simp]theorem aaR{a:O}{Q:au}{b:O}{H:J}:AG a Q b H=(lr a b H Q):=rfl
def AH(C:bl)(x:ao)(r:am)(Q:au)(a:O)(H:J):Prop:=aK C x r H<|AG a Q
@[simp]theorem aaS{C:bl}{x:ao}{r:am}{Q:au}{a:O}{H:J}:AH C x r Q a H=(aK C x r H<|AG a Q):=rfl
def AI(a:O)(Q:au)(b:O)(H:J):Prop:=nW a b H Q
@[simp]theorem aaT{a:O}{Q:au}{b:O}{H:J}:AI a Q b H=(nW a b H Q):=rfl
def Jk(C:bl)(x:ao)(r:am)(Q:au)(a:O)(H:J):Prop:=aK C x r H<|AI a Q
@[simp]theorem aaU{C:bl}{x:ao}{r:am}{Q:au}{a:O}{H:J}:Jk C x r Q a H=(aK C x r H<|AI a Q):=rfl
def Jl(Q:au)(a:List O)(H:J):Prop:=a.length<=100/\Q (.a H.length) (H++[.b a])
@[simp]theorem tG{Q:au}{a:List O}{H:J}:Jl Q a H=(a.length<=100/\Q (.a H.length) (H++[.b a])):=rfl
def Jm(Q:au)(a:List O)(H:J):Prop:=a.length<=100/\Q (.a H.length) (H++[.a a])
@[simp]theorem Jn{Q:au}{a:List O}{H:J}:Jm Q a H=(a.length<=100/\Q (.a H.length) (H++[.a a])):=rfl
def mU(Q:au)(a:List O)(H:J):Prop:=Q (.a H.length)<|H++[.a a]
@[simp]theorem oi{Q:au}{a:List O}{H:J}:mU Q a H=(Q (.a H.length)<|H++[.a a]):=rfl
def AJ(n:Nat)(r:am)(x:O)(H:J)(Q:am->Prop):Prop:=ky n x r H Q
@[simp]theorem aaV{n:Nat}{r:am}{x:O}{H:J}{Q:am->Prop}:AJ n r x H Q=(ky n x r H Q):=rfl
def AK(n m:Nat)(r:am)(x:O)(H:J)(Q:am->Prop):Prop:=gY n m x r H Q
@[simp]theorem aaW{n m:Nat}{r:am}{x:O}{H:J}{Q:am->Prop}:AK n m r x H Q=(gY n m x r H Q):=rfl
def oj(C:bl)(t:ao)(r:am)(H:J)(Q:Bool->J->Prop):Prop:=de C t r H Q
@[simp]theorem aaX{C:bl}{t:ao}{r:am}{H:J}{Q:Bool->J->Prop}:oj C t r H Q=(de C t r H Q):=rfl
def qQ(C:bl)(e:ao)(r:am)(H:J)(Q:au):Prop:=aK C e r H Q
@[simp]theorem aaY{C:bl}{e:ao}{r:am}{H:J}{Q:au}:qQ C e r H Q=(aK C e r H Q):=rfl
def qR(C:bl)(s:aW)(r:am)(H:J)(Q:aS):Prop:=cA C s r H Q
@[simp]theorem eY{C:bl}{s:aW}{r:am}{H:J}{Q:aS}:qR C s r H Q=(cA C s r H Q):=rfl
def AL(C:bl)(n:Nat)(a b:ao)(r:am)(Q:au)(d:List O)(c:J->Prop)(H:J):Prop:=eL (AJ n r) (oj C a) (qQ C b) c d [] H<|mU Q
@[simp]theorem Jo{C:bl}{n:Nat}{a b:ao}{r:am}{Q:au}{d:List O}{c:J->Prop}{H:J}:AL C n a b r Q d c H=(eL (AJ n r) (oj C a) (qQ C b) c d [] H<|mU Q):=rfl
def AM(C:bl)(n m:Nat)(a b:ao)(r:am)(Q:au)(d:List O)(c:J->Prop)(H:J):Prop:=eL (AK n m r) (oj C a) (qQ C b) c d [] H<|mU Q
@[simp]theorem aaZ{C:bl}{n m:Nat}{a b:ao}{r:am}{Q:au}{d:List O}{c:J->Prop}{H:J}:AM C n m a b r Q d c H=(eL (AK n m r) (oj C a) (qQ C b) c d [] H<|mU Q):=rfl
def AN(C:bl)(f:Nat)(Q:au)(a:List O)(H:J):Prop:=C f a H Q
@[simp]theorem qS{C:bl}{f:Nat}{Q:au}{a:List O}{H:J}:AN C f Q a H=(C f a H Q):=rfl
def AO(i:Nat)(Q:au)(v:O)(H:J):Prop:=v=.e/\Q (.a i) H
@[simp]theorem aba{i:Nat}{Q:au}{v:O}{H:J}:AO i Q v H=(v=.e/\Q (.a i) H):=rfl
def Jp(C:bl)(c:Nat)(Q:au)(a:List O)(H:J):Prop:=C (lf c) (.a (H.length+1)::a) (H++[.c [],.e c H.length])<|AO (H.length+1) Q
@[simp]theorem abb{C:bl}{c:Nat}{Q:au}{a:List O}{H:J}:Jp C c Q a H=(C (lf c) (.a (H.length+1)::a) (H++[.c [],.e c H.length])<|AO (H.length+1) Q):=rfl
def AP(b:eG)(Q:au)(a:List O)(H:J):Prop:=gA b a H Q
@[simp]theorem lH{b:eG}{Q:au}{a:List O}{H:J}:AP b Q a H=(gA b a H Q):=rfl
def AQ(C:bl)(o:O)(f:Nat)(Q:au)(a:List O)(H:J):Prop:=C f (o::a) H Q
@[simp]theorem kI{C:bl}{o:O}{f:Nat}{Q:au}{a:List O}{H:J}:AQ C o f Q a H=(C f (o::a) H Q):=rfl
def AR(C:bl)(a:ao)(r:am)(H:J)(o:O)(Q:au)(f:Nat):Prop:=gB C a r H<|AQ C o f Q
@[simp]theorem kJ{C:bl}{a:ao}{r:am}{H:J}{o:O}{Q:au}{f:Nat}:AR C a r H o Q f=(gB C a r H<|AQ C o f Q):=rfl
def tH(C:bl)(m:Nat)(a:ao)(r:am)(Q:au)(o:O)(H:J):Prop:=dR o m H<|AR C a r H o Q
@[simp]theorem ol{C:bl}{m:Nat}{a:ao}{r:am}{Q:au}{o:O}{H:J}:tH C m a r Q o H=(dR o m H<|AR C a r H o Q):=rfl
def AS(a:O)(Q:au)(b:O)(H:J):Prop:=qm a b H Q
@[simp]theorem AT{a:O}{Q:au}{b:O}{H:J}:AS a Q b H=(qm a b H Q):=rfl
def Jq(C:bl)(x:ao)(r:am)(Q:au)(a:O)(H:J):Prop:=gZ a H/\aK C x r H (AS a Q)
@[simp]theorem AU{C:bl}{x:ao}{r:am}{Q:au}{a:O}{H:J}:Jq C x r Q a H=(gZ a H/\aK C x r H (AS a Q)):=rfl
def AV(a:O)(Q:au)(b:O)(H:J):Prop:=qn a b H Q
@[simp]theorem abc{a:O}{Q:au}{b:O}{H:J}:AV a Q b H=(qn a b H Q):=rfl
def Jr(C:bl)(x:ao)(r:am)(Q:au)(a:O)(H:J):Prop:=gZ a H/\aK C x r H (AV a Q)
@[simp]theorem abd{C:bl}{x:ao}{r:am}{Q:au}{a:O}{H:J}:Jr C x r Q a H=(gZ a H/\aK C x r H (AV a Q)):=rfl
def Js(Q:au)(a:O)(H:J):Prop:=qo a H Q
@[simp]theorem abe{Q:au}{a:O}{H:J}:Js Q a H=(qo a H Q):=rfl
def Jt(Q:au)(a:O)(H:J):Prop:=qp a H Q
@[simp]theorem Xn{Q:au}{a:O}{H:J}:Jt Q a H=(qp a H Q):=rfl
def AW(a:O)(Q:au)(b:O)(H:J):Prop:=qq a b H Q
@[simp]theorem abf{a:O}{Q:au}{b:O}{H:J}:AW a Q b H=(qq a b H Q):=rfl
def Ju(C:bl)(x:ao)(r:am)(Q:au)(a:O)(H:J):Prop:=gZ a H/\aK C x r H (AW a Q)
@[simp]theorem abg{C:bl}{x:ao}{r:am}{Q:au}{a:O}{H:J}:Ju C x r Q a H=(gZ a H/\aK C x r H (AW a Q)):=rfl
def AX(a b:O)(Q:au)(c:O)(H:J):Prop:=qr a b c H Q
@[simp]theorem abh{a b:O}{Q:au}{c:O}{H:J}:AX a b Q c H=(qr a b c H Q):=rfl
def AY(C:bl)(x:ao)(r:am)(a:O)(Q:au)(b:O)(H:J):Prop:=aK C x r H<|AX a b Q
@[simp]theorem abi{C:bl}{x:ao}{r:am}{a:O}{Q:au}{b:O}{H:J}:AY C x r a Q b H=(aK C x r H<|AX a b Q):=rfl
def Jv(C:bl)(k x:ao)(r:am)(Q:au)(a:O)(H:J):Prop:=ql a H/\aK C k r H (AY C x r a Q)
@[simp]theorem abj{C:bl}{k x:ao}{r:am}{Q:au}{a:O}{H:J}:Jv C k x r Q a H=(ql a H/\aK C k r H (AY C x r a Q)):=rfl
def AZ(x:O)(Q:List O->J->Prop)(a:List O)(H:J):Prop:=Q (x::a) H
@[simp]theorem en{x:O}{Q:List O->J->Prop}{a:List O}{H:J}:AZ x Q a H=(Q (x::a) H):=rfl
def Jw(C:bl)(a:ao)(r:am)(Q:List O->J->Prop)(x:O)(H:J):Prop:=gB C a r H<|AZ x Q
@[simp]theorem dy{C:bl}{a:ao}{r:am}{Q:List O->J->Prop}{x:O}{H:J}:Jw C a r Q x H=(gB C a r H<|AZ x Q):=rfl
def Jx(Q:Bool->J->Prop)(b:Bool)(H:J):Prop:=Q (!b) H
@[simp]theorem Xo{Q:Bool->J->Prop}{b:Bool}{H:J}:Jx Q b H=(Q (!b) H):=rfl
def Jy(C:bl)(r:ao)(a:am)(Q:Bool->J->Prop)(b:Bool)(H:J):Prop:=hG b (de C r a H Q)<|Q aq H
@[simp]theorem Xp{C:bl}{r:ao}{a:am}{Q:Bool->J->Prop}{b:Bool}{H:J}:Jy C r a Q b H=(hG b (de C r a H Q)<|Q aq H):=rfl
def Jz(C:bl)(r:ao)(a:am)(Q:Bool->J->Prop)(b:Bool)(H:J):Prop:=hG b (Q M H)<|de C r a H Q
@[simp]theorem Xq{C:bl}{r:ao}{a:am}{Q:Bool->J->Prop}{b:Bool}{H:J}:Jz C r a Q b H=(hG b (Q M H)<|de C r a H Q):=rfl
def JA(Q:Bool->J->Prop)(a:O)(H:J):Prop:=Q (qh a) H
@[simp]theorem abk{Q:Bool->J->Prop}{a:O}{H:J}:JA Q a H=(Q (qh a) H):=rfl
def JB(Q:List O->(J->Prop)->J->Prop)(a:O)(H:J):Prop:=sW a<|Ax H Q
@[simp]theorem JC{Q:List O->(J->Prop)->J->Prop}{a:O}{H:J}:JB Q a H=(sW a<|Ax H Q):=rfl
def JD(Q:List O->(J->Prop)->J->Prop)(a:O)(H:J):Prop:=sX a H<|mT H Q
@[simp]theorem abl{Q:List O->(J->Prop)->J->Prop}{a:O}{H:J}:JD Q a H=(sX a H<|mT H Q):=rfl
def JE(i:Nat)(r:am)(Q:aS)(x:O)(H:J):Prop:=Q .a (r.set i<|V x) H
@[simp]theorem qT{i:Nat}{r:am}{Q:aS}{x:O}{H:J}:JE i r Q x H=(Q .a (r.set i<|V x) H):=rfl
def qU(H:J)(Q:aS)(r:am):Prop:=Q .a r H
@[simp]theorem abm{H:J}{Q:aS}{r:am}:qU H Q r=(Q .a r H):=rfl
def om(r:am)(Q:aS)(H:J):Prop:=Q .a r H
@[simp]theorem oo{r:am}{Q:aS}{H:J}:om r Q H=(Q .a r H):=rfl
def JF(i j:Nat)(r:am)(Q:aS)(x:O)(H:J):Prop:=gY i j x r H<|qU H Q
@[simp]theorem abn{i j:Nat}{r:am}{Q:aS}{x:O}{H:J}:JF i j r Q x H=(gY i j x r H<|qU H Q):=rfl
def JG(i j n:Nat)(r:am)(Q:aS)(x:O)(H:J):Prop:=nU i j n x r H<|qU H Q
@[simp]theorem abo{i j n:Nat}{r:am}{Q:aS}{x:O}{H:J}:JG i j n r Q x H=(nU i j n x r H<|qU H Q):=rfl
def Ba(a v:O)(r:am)(Q:aS)(b:O)(H:J):Prop:=mD a b v H<|om r Q
@[simp]theorem tI{a v:O}{r:am}{Q:aS}{b:O}{H:J}:Ba a v r Q b H=(mD a b v H<|om r Q):=rfl
def Bb(C:bl)(x:ao)(v:O)(r:am)(Q:aS)(a:O)(H:J):Prop:=aK C x r H<|Ba a v r Q
@[simp]theorem tJ{C:bl}{x:ao}{v:O}{r:am}{Q:aS}{a:O}{H:J}:Bb C x v r Q a H=(aK C x r H<|Ba a v r Q):=rfl
def JH(C:bl)(e x:ao)(r:am)(Q:aS)(v:O)(H:J):Prop:=aK C e r H<|Bb C x v r Q
@[simp]theorem Bc{C:bl}{e x:ao}{r:am}{Q:aS}{v:O}{H:J}:JH C e x r Q v H=(aK C e r H<|Bb C x v r Q):=rfl
def Bd(n:Nat)(v:O)(r:am)(Q:aS)(o:O)(H:J):Prop:=mE o n v H<|om r Q
@[simp]theorem Be{n:Nat}{v:O}{r:am}{Q:aS}{o:O}{H:J}:Bd n v r Q o H=(mE o n v H<|om r Q):=rfl
def JI(C:bl)(e:ao)(n:Nat)(r:am)(Q:aS)(v:O)(H:J):Prop:=aK C e r H<|Bd n v r Q
@[simp]theorem Bf{C:bl}{e:ao}{n:Nat}{r:am}{Q:aS}{v:O}{H:J}:JI C e n r Q v H=(aK C e r H<|Bd n v r Q):=rfl
def JJ(r:am)(Q:aS)(x:O)(H:J):Prop:=Q .a r H
@[simp]theorem JK{r:am}{Q:aS}{x:O}{H:J}:JJ r Q x H=(Q .a r H):=rfl
def JL(C:bl)(a b:aW)(r:am)(Q:aS)(c:Bool)(H:J):Prop:=hG c (cA C a r H Q)<|cA C b r H Q
@[simp]theorem qV{C:bl}{a b:aW}{r:am}{Q:aS}{c:Bool}{H:J}:JL C a b r Q c H=(hG c (cA C a r H Q)<|cA C b r H Q):=rfl
def Bg(a:O->am->J->(am->Prop)->Prop)(b:am->J->aS->Prop)(r:am)(Q:aS)(d:List O)(c:J->Prop)(H:J):Prop:=ig a b c d r H Q
@[simp]theorem tK{a:O->am->J->(am->Prop)->Prop}{b:am->J->aS->Prop}{r:am}{Q:aS}{d:List O}{c:J->Prop}{H:J}:Bg a b r Q d c H=(ig a b c d r H Q):=rfl
def JM(r:am)(Q:aS)(x:O)(H:J):Prop:=Q (.b x) r H
@[simp]theorem Bh{r:am}{Q:aS}{x:O}{H:J}:JM r Q x H=(Q (.b x) r H):=rfl
def tL(a G:J->Prop)(b:Bool)(H:J):Prop:=hG b (a H)<|G H
@[simp]theorem abp{a G:J->Prop}{b:Bool}{H:J}:tL a G b H=(hG b (a H)<|G H):=rfl
def JN(a:am->J->aS->Prop)(H:J)(Q:aS)(r:am):Prop:=a r H Q
@[simp]theorem abq{a:am->J->aS->Prop}{H:J}{Q:aS}{r:am}:JN a H Q r=(a r H Q):=rfl
def JO(a:am->J->aS->Prop)(r:am)(Q:aS)(H:J):Prop:=a r H Q
@[simp]theorem abr{a:am->J->aS->Prop}{r:am}{Q:aS}{H:J}:JO a r Q H=(a r H Q):=rfl
def Bi(a:List O)(Q:List O->J->Prop)(v:O)(H:J):Prop:=a.length<=16777000/\Q (a++[v]) H
@[simp]theorem JP{a:List O}{Q:List O->J->Prop}{v:O}{H:J}:Bi a Q v H=(a.length<=16777000/\Q (a++[v]) H):=rfl
def Bj(a:am->J->au->Prop)(r:am)(b:List O)(Q:List O->J->Prop)(H:J):Prop:=a r H<|Bi b Q
@[simp]theorem abt{a:am->J->au->Prop}{r:am}{b:List O}{Q:List O->J->Prop}{H:J}:Bj a r b Q H=(a r H<|Bi b Q):=rfl
def Bk(a:List O)(Q:List O->J->Prop)(H:J):Prop:=Q a H
@[simp]theorem abu{a:List O}{Q:List O->J->Prop}{H:J}:Bk a Q H=(Q a H):=rfl
def Bl(c:am->J->(Bool->J->Prop)->Prop)(b:am->J->au->Prop)(a:List O)(H:J)(Q:List O->J->Prop)(r:am):Prop:=c r H<|tL (Bj b r a Q)<|Bk a Q
@[simp]theorem abv{c:am->J->(Bool->J->Prop)->Prop}{b:am->J->au->Prop}{a:List O}{H:J}{Q:List O->J->Prop}{r:am}:Bl c b a H Q r=(c r H<|tL (Bj b r a Q)<|Bk a Q):=rfl
section
variable{C:bl}{e l r x k z a b t h q p g o:ao}{d A:am}{H I:J}{Q:au}{i j n m f c:Nat}{s u y:aW}{v w:O}
@[simp]theorem cg:aK C (.b i) d H Q=(jC d i<|lo<|eK H Q):=rfl
@[simp]theorem Xr:aK C .G d H Q=(Q .e H):=rfl
@[simp]theorem Bm{b:Bool}:aK C (.r b) d H Q=(Q (.d b) H):=rfl
@[simp]theorem op{i:Int}:aK C (.f i) d H Q=(Q (.b i) H):=rfl
@[simp]theorem Xs{z:N}:aK C (.p z) d H Q=(Q (.c z) H):=rfl
@[simp]theorem Xt:aK C (.x i) d H Q=(Q (.b<|tc i) H):=rfl
@[simp]theorem Xu:aK C .H d H Q=(Q (.a H.length)<|H++[.a<|fo.map .c]):=rfl
@[simp]theorem oq{a:hp}:aK C (.h a l r) d H Q=(aK C l d H<|Jg C a r d Q):=rfl
@[simp]theorem Xv{a:fg}:aK C (.i a l r) d H Q=(aK C l d H<|Jh C a r d Q):=rfl
@[simp]theorem Xw:aK C (.D t a b) d H Q=(de C t d H<|Jj C a b d Q):=rfl
@[simp]theorem fS:aK C (.e e n) d H Q=(aK C e d H<|AE n Q):=rfl
@[simp]theorem os:aK C (.g e x) d H Q=(aK C e d H<|tF C x d Q):=rfl
@[simp]theorem Xx:aK C (.A e x) d H Q=(aK C e d H<|AH C x d Q):=rfl
@[simp]theorem Xy:aK C (.F e x) d H Q=(aK C e d H<|Jk C x d Q):=rfl
@[simp]theorem qW:aK C (.n o) d H Q=(gB C o d H<|Jl Q):=rfl
@[simp]theorem JQ:aK C (.k o) d H Q=(gB C o d H<|Jm Q):=rfl
@[simp]theorem Xz:aK C .E d H Q=(Q (.a H.length)<|H++[.f 0 []]):=rfl
@[simp]theorem XA:aK C .y d H Q=(Q (.a H.length)<|H++[.d 0 []]):=rfl
@[simp]theorem tM:aK C (.q n h p q) d H Q=(eM C h d H<|AL C n p q d Q):=rfl
@[simp]theorem JR:aK C (.B n m h p q) d H Q=(eM C h d H<|AM C n m p q d Q):=rfl
@[simp]theorem tN:aK C (.l f g) d H Q=(gB C g d H<|AN C f Q):=rfl
@[simp]theorem XB:aK C (.v c g) d H Q=(gB C g d H<|Jp C c Q):=rfl
@[simp]theorem mV{b:eG}:aK C (.j b g) d H Q=(gB C g d H<|AP b Q):=rfl
@[simp]theorem ot:aK C (.m e m g) d H Q=(aK C e d H<|tH C m g d Q):=rfl
@[simp]theorem XC:aK C (.o e x) d H Q=(aK C e d H<|Jq C x d Q):=rfl
@[simp]theorem XD:aK C (.M e x) d H Q=(aK C e d H<|Jr C x d Q):=rfl
@[simp]theorem XE:aK C (.J e) d H Q=(aK C e d H<|Js Q):=rfl
@[simp]theorem Bn:aK C (.L e) d H Q=(aK C e d H<|Jt Q):=rfl
@[simp]theorem XF:aK C (.w e x) d H Q=(aK C e d H<|Ju C x d Q):=rfl
@[simp]theorem XG:aK C (.N e k z) d H Q=(aK C e d H<|Jv C k z d Q):=rfl
@[simp]theorem dg{Q:List O->J->Prop}:gB C .d d H Q=(Q [] H):=rfl
@[simp]theorem dI{Q:List O->J->Prop}:gB C (.c e o) d H Q=(aK C e d H<|Jw C o d Q):=rfl
@[simp]theorem XH{Q:Bool->J->Prop}:de C (.z e) d H Q=(de C e d H<|Jx Q):=rfl
@[simp]theorem XI{Q:Bool->J->Prop}:de C (.u l r) d H Q=(de C l d H<|Jy C r d Q):=rfl
@[simp]theorem XJ{Q:Bool->J->Prop}:de C (.t l r) d H Q=(de C l d H<|Jz C r d Q):=rfl
@[simp]theorem Bo{Q:Bool->J->Prop}{a:fg}:de C (.i a l r) d H Q=(aK C l d H<|Ji C a r d Q):=rfl
@[simp]theorem XK{Q:Bool->J->Prop}:de C (.I e) d H Q=(aK C e d H<|JA Q):=rfl
@[simp]theorem abw{Q:Bool->J->Prop}:de C .d d H Q=(Q M H):=rfl
@[simp]theorem abx{Q:Bool->J->Prop}:de C (.b i) d H Q=(jC d i<|lo<|Jc H Q):=rfl
@[simp]theorem aby{Q:Bool->J->Prop}:de C (.g e x) d H Q=(aK C e d H<|tF C x d<|tC Q):=rfl
@[simp]theorem abz{Q:Bool->J->Prop}:de C (.m e m g) d H Q=(aK C e d H<|tH C m g d<|tC Q):=rfl
@[simp]theorem JS{Q:List O->(J->Prop)->J->Prop}:eM C (.s e) d H Q=(aK C e d H<|JB Q):=rfl
@[simp]theorem XM{Q:List O->(J->Prop)->J->Prop}:eM C (.K e) d H Q=(aK C e d H<|JD Q):=rfl
@[simp]theorem JT{Q:List O->(J->Prop)->J->Prop}:eM C (.b i) d H Q=(jC d i<|lo<|Je H Q):=rfl
@[simp]theorem qX{Q:List O->(J->Prop)->J->Prop}:eM C (.e e n) d H Q=(aK C e d H<|AE n<|lG Q):=rfl
@[simp]theorem abA{Q:List O->(J->Prop)->J->Prop}:eM C (.g e x) d H Q=(aK C e d H<|tF C x d<|lG Q):=rfl
@[simp]theorem abB{Q:List O->(J->Prop)->J->Prop}:eM C (.A e x) d H Q=(aK C e d H<|AH C x d<|lG Q):=rfl
@[simp]theorem abC{Q:List O->(J->Prop)->J->Prop}{b:eG}:eM C (.j b g) d H Q=(gB C g d H<|AP b<|lG Q):=rfl
@[simp]theorem abD{Q:List O->(J->Prop)->J->Prop}:eM C (.l f g) d H Q=(gB C g d H<|AN C f<|lG Q):=rfl
@[simp]theorem abE{Q:List O->(J->Prop)->J->Prop}:eM C (.m e m g) d H Q=(aK C e d H<|tH C m g d<|lG Q):=rfl
@[simp]theorem eZ{Q:aS}{a:am->J->aS->Prop}:qs a Q .a d H=(a d H Q):=rfl
@[simp]theorem abF{Q:aS}{a:am->J->aS->Prop}:qs a Q .c d H=(Q .c d H):=rfl
@[simp]theorem Bp{Q:aS}{a:am->J->aS->Prop}:qs a Q (.b v) d H=(Q (.b v) d H):=rfl
@[simp]theorem ou{Q:aS}:cA C .f d H Q=(Q .a d H):=rfl
@[simp]theorem gG{Q:aS}:cA C (.b u y) d H Q=(cA C u d H<|qs (qR C y) Q):=rfl
@[simp]theorem qY{Q:aS}:cA C (.c i e) d H Q=(aK C e d H<|JE i d Q):=rfl
@[simp]theorem XN{Q:aS}:cA C (.l i j e) d H Q=(aK C e d H<|JF i j d Q):=rfl
@[simp]theorem XO{Q:aS}:cA C (.p i j n e) d H Q=(aK C e d H<|JG i j n d Q):=rfl
@[simp]theorem Bq{Q:aS}:cA C (.j e x k) d H Q=(aK C k d H<|JH C e x d Q):=rfl
@[simp]theorem qZ{Q:aS}:cA C (.h e n x) d H Q=(aK C x d H<|JI C e n d Q):=rfl
@[simp]theorem ov{Q:aS}:cA C (.i e) d H Q=(aK C e d H<|JJ d Q):=rfl
@[simp]theorem XP{Q:aS}:cA C (.g t u y) d H Q=(de C t d H<|JL C u y d Q):=rfl
@[simp]theorem XQ{Q:aS}:cA C (.k t s) d H Q=(∃n,kA (oj C t) (qR C s) n d H Q):=rfl
@[simp]theorem ow{Q:aS}:cA C (.d n h s) d H Q=(eM C h d H<|Bg (ky n) (qR C s) d Q):=rfl
@[simp]theorem JU{Q:aS}:cA C (.m n m h s) d H Q=(eM C h d H<|Bg (gY n m) (qR C s) d Q):=rfl
@[simp]theorem Br{Q:aS}:cA C (.e e) d H Q=(aK C e d H<|JM d Q):=rfl
@[simp]theorem XR{Q:aS}:cA C .n d H Q=(Q .c d H):=rfl
end
theorem XS:∀{b:eG},wR b<12:=by ext b;cases b<;>decide
noncomputable def JV:ab->Bool|.ref _=>aq|_=>M
theorem ox{b:Nat}(a:ah):hB b≠.ref a:=λe=>by
 have h:JV (hB b)=M:=by unfold hB;rw[rW];cases q:wj[b]? with|none=>rfl|some v=>exact(show∀v∈wj,JV v=M by decide) v<|bs q
 rw[e]at h;exact absurd h cG
section
variable{T:bf}{X c g:List ah}{H I:J}{s e:al}{a b:O}{v u:ab}{d:Nat}
theorem XT{A:bo}{Q:au}{j:Bool->J->Prop}{a:ag}{d:cN ab}(R:ai T c H s.heap)(h:aU T A [] c s d Q)(k:∀x I,Q x I->iS x I λb=>j b I)(o:ko a n d=(do
 let v<-d;
 standAt a.pos;
 Ek [v] (truthy v))):eW T A [] c s (ko a n d) λb C I C=>j b I:=by refine isTrue_plain (cI h λv x g I e t l p q=>?_) o;refine ba (UU (X:=[]) l p<|k _ _ q) (λb z w=>kZ w λB y u m f i r=>?_) λC C a=>a;have f:=f.symm;subst f;have i:=i.symm;subst i;exact bu _ _ (t.za u) m r
structure br(T:bf)(d:Nat)(C:bl)(e:ao):Prop where
 a:∀{A:bo}{b:cl}{g:cD}{h:cm}{r:am}{c:List ah}{H:J}{s:al}{Q:au}{f:ag},cL T A d b g h->df h e f=M->bq T b g c r s.heap->ai T c H s.heap->aK C e r H Q->aU T A [] c s (ca f b) Q
structure ra(T:bf)(d:Nat)(C:bl)(e:ao):Prop where
 a:∀{A:bo}{f:cl}{g:cD}{h:cm}{r:am}{c:List ah}{H:J}{s:al}{Q:List O->J->Prop}{b:List ag}{i:aE},cL T A d f g h->dS b=M->UB h e b=M->bq T f g c r s.heap->ai T c H s.heap->gB C e r H Q->Ag T A [] c s (pk<|fD i<|eR b f) Q
structure kK(T:bf)(d:Nat)(C:bl)(e:ao):Prop where
 a:∀{A:bo}{b:cl}{g:cD}{h:cm}{r:am}{c:List ah}{H:J}{s:al}{Q:Bool->J->Prop}{f:ag},cL T A d b g h->df h e f=M->bq T b g c r s.heap->ai T c H s.heap->de C e r H Q->eW T A [] c s (ko f b<|ca f b) λi w I w=>Q i I
structure oy(T:bf)(d:Nat)(C:bl)(e:ao):Prop where
 a:∀{A:bo}{b:cl}{g:cD}{h:cm}{r:am}{c:List ah}{H:J}{s:al}{Q:List O->(J->Prop)->J->Prop}{f:ag},cL T A d b g h->df h e f=M->bq T b g c r s.heap->ai T c H s.heap->eM C e r H Q->mL T A [] c s (ca f b) Q
structure bG(T:bf)(d:Nat)(C:bl)(z:ao):Prop where
 a:br T d C z
 c:ra T d C z
 b:kK T d C z
 e:oy T d C z
theorem br.zc{C:bl}{e:ao}(g:br T d C e)(h:∀{r H}{Q:Bool->J->Prop},de C e r H Q->aK C e r H (tC Q))(i:∀{k a b},df k e a=M->ko a b (ca a b)=(do
 let v<-ca a b;
 standAt a.pos;
 Ek [v] (truthy v))):kK T d C e:=⟨λB c f R j=>XT R (g.a B c f R<|h j) (λw w q=>q)<|i c⟩
theorem br.zb{C:bl}{e:ao}(g:br T d C e)(h:∀{r H}{Q:List O->(J->Prop)->J->Prop},eM C e r H Q->aK C e r H (lG Q)):oy T d C e:=⟨λB j c R k=>ba (g.a B j c R<|h k) (λv u p=>bk p λt f b a s=>Y s λx l q=>by ext(bp:Vs b a l q)o m i n;exact bu t f b a<|bK o m i n) λw w e=>e⟩
theorem ra.za{C:bl}{e:ao}(h:∀r H Q,¬gB C e r H Q):ra T d C e:=⟨λz z z z z w=>absurd w<|h _ _ _⟩
theorem kK.za{C:bl}{e:ao}(h:∀r H Q,¬de C e r H Q):kK T d C e:=⟨λz z z z w=>absurd w<|h _ _ _⟩
theorem oy.za{C:bl}{e:ao}(h:∀r H Q,¬eM C e r H Q):oy T d C e:=⟨λz z z z w=>absurd w<|h _ _ _⟩
theorem br.za{C:bl}{e:ao}(h:∀r H Q,¬aK C e r H Q):br T d C e:=⟨λz z z z w=>absurd w<|h _ _ _⟩
variable{C:bl}(i:∀f h H Q,C f h H Q->kD T d f h H Q)
theorem XU{i:Nat}:br T d C<|.b i:=by refine⟨λ{A j l m r c H s Q k}B a b R h=>?_⟩;simp only[cg]at h;ext(dF a)n p a;simp only[cm.zg,bA,beq_iff_eq]at a;ext(aD:B.e i n a.1)g e(_:Uj h)x f q;exact Uk B.a b R e f q
theorem XV:br T d C<|.G:=by refine⟨λ{A e g i r c H s Q f}B a b R h=>?_⟩;simp only[Xr]at h;ext(mH a)w w w a(HT a)a;exact Z3<|cK (x:=.e) R rfl h
theorem XW{b:Bool}:br T d C<|.r b:=by refine⟨λ{A g j k r c H s Q i}B a e R h=>?_⟩;simp only[Bm]at h;ext(mH a)w w w a(Us a)f a;have:=cV a;subst this;exact wpAny_Constant_bool<|cK (x:=.d b) R rfl h
theorem XX{i:Int}:br T d C<|.f i:=by
 delta T d C i;refine⟨λ{A g l m r c H s Q k}B a e R h=>?_⟩;simp only[op]at h;rcases pt.mp a with a|a;.ext(mH a)w w w a(Aa a)f a;have:=cV a;subst this;exact MJ<|dn (x:=.b _) R ⟨_,rfl⟩ h
 .ext(HJ a)w w w a(ac:dB.mp a)b a;have:=cV b;subst this;ext(mH a)w w w a(Aa a)j a;have:=cV a;subst this;refine wpAny_UnaryOp<|MJ ?_;exact eX (.ze _)<|Td (s:={s with toks:=s.toks+1}) R ⟨_,rfl⟩ h
theorem XY{z:N}:br T d C<|.p z:=by refine⟨λ{A f i j r c H s Q g}B a b R h=>?_⟩;simp only[Xs]at h;ext(mH a)w w w a(Ut a)e a;have:=cV a;subst this;exact wpAny_Constant_str<|dn (x:=.c z) R ⟨_,rfl⟩ h
theorem XZ{k:Nat}:br T d C<|.x k:=by
 refine⟨λ{A g j l r c H s Q i}B a f R h=>?_⟩;simp only[Xt]at h;ext(dF a)n p a;simp only[bA,iC,beq_iff_eq]at a;obtain⟨e,⟨rfl,rfl⟩|⟨rfl,rfl⟩⟩:=a;.ext(aD:R.a.l)t b;exact qE B R e b (cK (x:=.b 0) R ⟨t,rfl⟩ h) (by decide)
 .ext(aD:R.a.m)t b;exact qE B R e b (cK (x:=.b<|-1) R ⟨t,rfl⟩ h) (by decide)
theorem Ya:br T d C<|.H:=by delta T d C;refine⟨λ{A D K L P c H s Q I}B b y R h=>?_⟩;simp only[Xu]at h;ext(ge b)S S p b(dF b)f E b(iT b)S b(dF b)o t b;simp only[bA,beq_iff_eq]at b;ext(@ac b)g j(@ac g)i x-;refine lF<|ob B R (i:=4) (by decide) i ?_;ext(ac:R.a.n)q g(@Nh g)u v w n m;have r:dS [Expr.Name ("OWN_TERMINALS":N) t]=M:=rfl;refine qG r (tn λa=>ox a) ?_;refine EH<|qE B R j q (kp ⟨R.zb,?_⟩) (by decide);show av _ _ (bT (.type "list") [.ref T.h] []) _ _ _;have l:aQ (ae<|c++[s.heap.objs.size]) [.c<|aF "$end",.c<|aF "error",.c<|aF "$undefined"] [Value.str (aF "$end") u,.str (aF "error") v,.str (aF "$undefined") w]:=.a ⟨_,rfl⟩<|.a ⟨_,rfl⟩<|.a ⟨_,rfl⟩ .b;refine LV T.h (.inr rfl) (R.b _ _ m) rfl rfl (λG z k e=>my R k (gX _<|aO _) e R.zh (hC (d:=fo.map .c) l<|by decide) h) (by rw[dk];simp)
theorem Yb{t:hp}{l r:ao}(n:bG T d C l)(o:bG T d C r):br T d C<|.h t l r:=by refine⟨λ{A G X a1 a2 c H s Q K}B a b R h=>?_⟩;simp only[oq]at h;ext(Ul a)I _ L _ a;simp only[bA,beq_iff_eq]at a;ext(@ac a)g m(@ac g)z k;subst z;refine wpAny_BinOp<|cI (n.a.a B k b R h) λv x a3 D P e i q w=>?_;ext(cI:o.a.a B m (b.za e) i w)u a0 a4 E S f j p y;exact eX (e.za f)<|UM j (q.za f.a) p y
theorem Yc{x:fg}{l r:ao}(p:bG T d C l)(q:bG T d C r):br T d C<|.i x l r:=by refine⟨λ{A I a0 a3 a4 c H s Q L}B a b R h=>?_⟩;simp only[Xv]at h;ext(wU a)K _ P _ a;simp only[bA,beq_iff_eq,EJ]at a;ext(@ac a)g o(@ac g)i n(@ac i)D m;subst D;refine wpAny_Compare1 (cI (p.a.a B m b R h) λv a1 a5 E S e j w y=>?_) o;ext(cI:q.a.a B n (b.za e) j y)u a2 a6 G X f k t z;exact eX (e.za f)<|Ii B.b k (w.za f.a) t z
theorem Yd{t x y:ao}(o:bG T d C t)(p:bG T d C x)(q:bG T d C y):br T d C<|.D t x y:=by refine⟨λ{A u D E G c H s Q v}B a g R h=>?_⟩;simp only[Xw]at h;ext(Um a)K K K K a;simp only[bA]at a;ext(@ac a)f n(@ac f)l m;have w:=o.b.a B l g R h;refine IfExp_<|ba w (λk z f=>bk f λI r b i j=>?_) λK K e=>e;cases k with|true=>exact eX b<|p.a.a B m (g.za b) i j|false=>exact eX b<|q.a.a B n (g.za b) i j
theorem Ye{x:ao}{i:Nat}(n:bG T d C x):br T d C<|.e x i:=by refine⟨λ{A t z D E c H s Q u}B a f R h=>?_⟩;simp only[fS]at h;ext(jF a)I I I a;simp only[bA,beq_iff_eq,decide_eq_true_eq]at a;ext(@ac a)b l(@ac b)e k(@ac e)q j;subst q;refine Xa k<|cI (n.a.a B l f R h) λv y G r w p g m o=>?_;exact eX p<|UW j g m o
theorem Yf{x i:ao}(D:bG T d C x)(w:bG T d C i):br T d C<|.g x i:=by
 refine⟨λ{A K X a0 a1 c H s Q L}B a e R h=>?_⟩;simp only[os]at h;ext(qx a)_ l _ a;simp only[bA]at a;ext(@ac a)n t(@ac n)q r;refine As (λo i=>.inl ?_)<|cI (D.a.a B r e R h) λv y a2 G P m p j E=>?_;.rename_i l _;cases l<;>first|rfl|exact absurd q cG
 .ext(cI:w.a.a B t (e.za m) p E)u z a3 I S b f g k;exact⟨US f (j.za b.a) g k,eX (m.za b)<|UR B.b f (j.za b.a) g k⟩
theorem Yg{x i:ao}(E:bG T d C x)(D:bG T d C i):br T d C<|.A x i:=by refine⟨λ{A P a0 a3 a4 c H s Q S}B a j R h=>?_⟩;simp only[Xx]at h;ext(qx a)_ _ _ a(Un a)_ _ a;simp only[bA]at a;ext(@ac a)y z;refine As (λo i=>.inr rfl)<|cI (E.a.a B y j R h) λv a1 a5 K X q t n G=>?_;refine WY<|cI (D.a.a B z (j.za q) t G) λu a2 r L f g w m p=>?_;have k:∀b o,f.heap.get? b=V o->(f.heap.push {cls:=.type "slice",data:=.fields #[.none,u,.none]}).get? b=V o:=λb o e=>bP _ e;have l:=w.zc k;have I:bg [] r f r {f with heap:=f.heap.push {cls:=.type "slice",data:=.fields #[.none,u,.none]}}:=mK;exact⟨Vx l (n.za g.a) m p,eX ((q.za g).za I)<|Vv l (n.za g.a) m (Heap.IsSliceOf.new ..) p⟩
theorem Yh{x i:ao}(E:bG T d C x)(D:bG T d C i):br T d C<|.F x i:=by refine⟨λ{A P a0 a3 a4 c H s Q S}B a j R h=>?_⟩;simp only[Xy]at h;ext(qx a)_ _ _ a(Uo a)_ _ a;simp only[bA]at a;ext(@ac a)y z;refine As (λo i=>.inr rfl)<|cI (E.a.a B y j R h) λv a1 a5 K X q t n G=>?_;refine WZ<|cI (D.a.a B z (j.za q) t G) λu a2 r L f g w m p=>?_;have k:∀b o,f.heap.get? b=V o->(f.heap.push {cls:=.type "slice",data:=.fields #[u,.none,.none]}).get? b=V o:=λb o e=>bP _ e;have l:=w.zc k;have I:bg [] r f r {f with heap:=f.heap.push {cls:=.type "slice",data:=.fields #[u,.none,.none]}}:=mK;exact⟨Vy l (n.za g.a) m p,eX ((q.za g).za I)<|Vw l (n.za g.a) m (Heap.IsSliceOf.new ..) p⟩
theorem Yi{b:ao}(l:bG T d C b):br T d C<|.n b:=by refine⟨λ{A t w y z c H s Q u}B a j R h=>?_⟩;simp only[qW]at h;ext(nX a)E E E a;simp only[bA]at a;refine wpAny_Tuple<|ba (l.c.a B a.1 a.2 j R h) (λv n p=>bk p λD r o k q=>Y q λx f i=>?_) λE E e=>e;ext(@ac i)g m;have:=f.za;refine⟨by rw[dk];exact aA 0 0 0 100 0 16777216 (ar this) g rfl,Af o<|lk (d:=n.toks) k (Hq ?_<|by exact an 0 100 0 16777217 g rfl) m⟩;simpa using f.zd
theorem Yj{b:ao}(l:bG T d C b):br T d C<|.k b:=by refine⟨λ{A t w y z c H s Q u}B a j R h=>?_⟩;simp only[JQ]at h;ext(Up a)E E a;simp only[bA]at a;refine wpAny_List<|ba (l.c.a B a.1 a.2 j R h) (λv n p=>bk p λD r o k q=>Y q λx f i=>?_) λE E e=>e;ext(@ac i)g m;have:=f.za;refine⟨by rw[dk];exact aA 0 0 0 100 0 16777216 (ar this) g rfl,Af o<|lk (d:=n.toks) k (hC ?_<|by exact an 0 100 0 16777217 g rfl) m⟩;simpa using f.zd
theorem Yk:br T d C<|.E:=by refine⟨λ{A g j k r c H s Q i}B a f R h=>?_⟩;simp only[Xz]at h;ext(HQ a)w a;rw[eval_Dict_empty];refine af<|kV<|kj<|lk (o:=.f 0 []) (d:=s.toks) R (ad ([]) ⟨aI rfl rfl rfl,ej (#[]) rfl (by ext e b;simp at b) .nil .nil⟩ .b) h
theorem Yl:br T d C<|.y:=by refine⟨λ{A e g i r c H s Q f}B a b R h=>?_⟩;simp only[XA]at h;ext(HQ a)w a;rw[eval_Dict_empty];refine af<|kV<|kj<|lk (o:=.d 0 []) (d:=s.toks) R ⟨by simp,ad ([]) ⟨aI rfl rfl rfl,aT (#[]) rfl rfl .nil⟩ .b⟩ h
theorem JW{t:Nat}{m l y:ao}{A:bo}{a:cl}{a8:cD}{o:cm}{v:am}{c:List ah}{H:J}{s:al}{Q:au}{n:N}{b4 b5:aE}{K a0:ag}{G:List ag}{f:fh}(a4:bG T d C m)(b2:bG T d C l)(a3:bG T d C y)(B:cL T A d a a8 o)(p:bq T a a8 c v s.heap)(R:ai T c H s.heap)(a5:ls o f [(t,n)]=M/\df o m K=M/\dl (qA l) (λb0 r=>dl (df (o.zb f [(t,n)]) l b0) aZ r) G=M/\df (o.zb f [(t,n)]) y a0=M)(a1:eM C m v H<|AL C t l y v Q){P:ab->ah->mg->al->Prop}{E:ab->al->Prop}(a2:∀D C g I h e,bg [] c s g e->ai T g I e.heap->(∃a9 n,e.heap.get? D=V (bL "list" a9 n)/\aQ (ae g) h a9.toList)->(∃b3,e.heap.Ns C b3)->s.heap.get? D=U->s.heap.get? C=U->T.c.get? D=U->T.c.get? C=U->2<D->D≠C->D∉g->C∉g->h.length<=16777001->mU Q h I->P (.ref D) C (.ok .next) e):av (ax T.b T.a) A (ca K a) (λc0 b6=>av (ax T.b T.a) A (iz c0) (λm b7=>av (ax T.b T.a) A (nx []) (λS b8=>av (ax T.b T.a) A (uX f a.globals (f.names.foldl (ct a) []) [] a.qual U .none<|V a) (λX b9=>hT (ax T.b T.a) A (.compStart (.ListComp a0 [⟨.Name n b4,K,G,0⟩] f b5) 0 m S {X with scope:=ps f a}) (P S X.locals) b9) E b8) E b7) E b6) E s:=by ext(@ei a5)a6 u L a7;cases G with|nil=>have b1:=Ie L;subst b1;exact IZ (z:=λi I=>de C .d i I) (G:=λz=>bv M) B a6 (jI u a) p (λ_ _ _=>rfl) (.inl ⟨rfl,λv H Q q=>q⟩) (λC j c H s i w k b q=>eW.za b q) (λC j c H s i w k b q=>a3.a.a j a7 k b q) a2<|a4.e.a B u p R a1|cons x r=>cases r with|cons=>exact absurd L cG|nil=>exact IZ (z:=λi I=>de C l i I) (G:=λz=>ko x z<|ca x z) B a6 (jI u a) p (λ_ _ _=>rfl) (.inr<|ad x rfl rfl) (λC j c H s i w k b q=>b2.b.a j L k b q) (λC j c H s i w k b q=>a3.a.a j a7 k b q) a2<|a4.e.a B u p R a1
theorem Ym{t:Nat}{z u v:ao}(S:bG T d C z)(L:bG T d C u)(P:bG T d C v):br T d C<|.q t z u v:=by refine⟨λ{a0 G b0 b1 b2 c H s Q a7}B n A R w=>?_⟩;simp only[tM]at w;ext(tf n)a2 _ a4 a3 a9 a8 n(dF n)a5 a6 n;simp only[bA,and_assoc]at n;rw[eval_ListComp];have r:=of n.1;refine EK (use:=U) rfl (jI n.2.1 G) (qJ B r).1 r.b (λy X x=>by obtain⟨a,b⟩:=y;simp only at x;subst x;exact qI r.c X) ?_;exact JW S L P B A R n w λa1 C g I h e a b D E f K i j k l m o p q=>IX (Q:=Q) a b D E f K i j k l m o p q
theorem JX{t u:Nat}{o l G:ao}{A:bo}{a:cl}{b0:cD}{p:cm}{x:am}{c:List ah}{H:J}{s:al}{Q:au}{n m:N}{b7 b6 c3 b8:aE}{b5:Nat}{P a2:ag}{L:List ag}{f:fh}(a6:bG T d C o)(b4:bG T d C l)(a5:bG T d C G)(B:cL T A d a b0 p)(v:bq T a b0 c x s.heap)(R:ai T c H s.heap)(a7:ls p f [(t,n),(u,m)]=M/\df p o P=M/\dl (qA l) (λb2 r=>dl (df (p.zb f [(t,n),(u,m)]) l b2) aZ r) L=M/\df (p.zb f [(t,n),(u,m)]) G a2=M)(a3:eM C o x H<|AM C t u l G x Q){X:ab->ah->mg->al->Prop}{E:ab->al->Prop}(a4:∀D C g I h e,bg [] c s g e->ai T g I e.heap->(∃b1 n,e.heap.get? D=V (bL "list" b1 n)/\aQ (ae g) h b1.toList)->(∃m,e.heap.Ns C m)->s.heap.get? D=U->s.heap.get? C=U->T.c.get? D=U->T.c.get? C=U->2<D->D≠C->D∉g->C∉g->h.length<=16777001->mU Q h I->X (.ref D) C (.ok .next) e):av (ax T.b T.a) A (ca P a) (λc4 b9=>av (ax T.b T.a) A (iz c4) (λo c0=>av (ax T.b T.a) A (nx []) (λa0 c1=>av (ax T.b T.a) A (uX f a.globals (f.names.foldl (ct a) []) [] a.qual U .none<|V a) (λa1 c2=>hT (ax T.b T.a) A (.compStart (.ListComp a2 [⟨.Tuple [.Name n b7,.Name m b6] b5 c3,P,L,0⟩] f b8) 0 o a0 {a1 with scope:=ps f a}) (X a0 a1.locals) c2) E c1) E c0) E b9) E s:=by ext(@ei a7)a8 w S a9;cases L with|nil=>have b3:=Ie S;subst b3;exact Ja (R:=λi I=>de C .d i I) (S:=λK=>bv M) B a8 (jI w a) v (λ_ _ _=>rfl) (.inl ⟨rfl,λx H Q q=>q⟩) (λC j c H s i y k b q=>eW.za b q) (λC j c H s i y k b q=>a5.a.a j a9 k b q) a4<|a6.e.a B w v R a3|cons z r=>cases r with|cons=>exact absurd S cG|nil=>exact Ja (R:=λi I=>de C l i I) (S:=λK=>ko z K<|ca z K) B a8 (jI w a) v (λ_ _ _=>rfl) (.inr<|ad z rfl rfl) (λC j c H s i y k b q=>b4.b.a j S k b q) (λC j c H s i y k b q=>a5.a.a j a9 k b q) a4<|a6.e.a B w v R a3
theorem Yn{t u:Nat}{z v w:ao}(S:bG T d C z)(L:bG T d C v)(P:bG T d C w):br T d C<|.B t u z v w:=by refine⟨λ{a1 G b4 b5 b6 c H s Q b0}B n A R x=>?_⟩;simp only[JR]at x;ext(tf n)a3 _ a5 a4 b2 b1 n(nX n)_ a6 b3 n(nZ n)_ _ n(dF n)a8 a9 n(dF n)m a7 n;simp only[bA,and_assoc]at n;rw[eval_ListComp];have r:=of n.1;refine EK (use:=U) rfl (jI n.2.1 G) (qJ B r).1 r.b (λa0 X y=>by obtain⟨a,b⟩:=a0;simp only at y;subst y;exact qI r.c X) ?_;exact JX S L P B A R n x λa2 C g I h e a b D E f K i j k l m o p q=>IX (Q:=Q) a b D E f K i j k l m o p q
include i in theorem Yo{f:Nat}{e:ao}(v:bG T d C e):br T d C<|.l f e:=by
 refine⟨λ{A I a0 a2 a3 c H s Q P}B a o R h=>?_⟩;simp only[tN]at h;ext(ge a)_ G _ a(dF a)n L a;simp only[bA,beq_iff_eq,decide_eq_true_eq]at a;ext(@ac a)j u(@ac j)k K(@ac k)l g(@ac l)m t(@ac m)b D-(ac:R.a.j f b)q r
 have w:f<fk:=by
  have:∀f∈lg,f<fk:=by decide
  exact this f<|Z4.mp b
 refine lF<|qE B R t q (At g r (v.c.a B g u o R h) λX a1 a4 E S z p x y=>?_) ?_;.exact eX z<|(i _ _ _ _ y).za (B.b.zb<|by exact du _ 0 1 rfl) p x w
 .have:∀f∈lg,(pT f==("__debug__":N))=aq:=by decide+kernel
  exact this f<|Z4.mp b
include i in theorem Yp{b:Nat}{f:ao}(v:bG T d C f):br T d C<|.v b f:=by
 refine⟨λ{A G a1 a3 a4 c H s Q S}B a o R h=>?_⟩;simp only[XB]at h;ext(ge a)_ E _ a(dF a)n P a;simp only[bA,beq_iff_eq,decide_eq_true_eq]at a;ext(@ac a)j u(@ac j)k L(@ac k)l g(@ac l)m t(@ac m)e z-(ei:R.a.e b e)q r I K;refine lF<|qE B R t q (At g r (v.c.a B g u o R h) λa0 a2 a5 D X y p w x=>?_) ?_;.exact eX y<|Xk B.b e p w<|i _ _ _ _ x
 .have:∀b,b<7->(sA b==("__debug__":N))=aq:=by decide+kernel
  exact this b e
theorem Yq{b:eG}{y:ao}(z:bG T d C y):br T d C<|.j b y:=by
 refine⟨λ{a1 a3 b0 b2 b3 c H s Q a7}B f x R h=>?_⟩;simp only[mV]at h;ext(ge f)_ a2 _ f(dF f)a5 a6 f;by_cases u:b=.e;.subst u;rw[if_pos rfl]at f;ext(iT f)_ f(ge f)_ _ S f(dF f)m P f(iT f)E f;simp only[bA]at f;ext(@ac f)g t(@ac g)l r(@ac l)p n;have I:dS [Expr.Call (.Name m P) [E] [] S]=M:=rfl;refine lF<|ob B R (i:=7) (by decide) p<|qG I (tn λa=>ox a) ?_;refine EH ?_;refine lF<|ob B R (i:=9) (by decide) n<|IS r (λa=>ox a) (z.c.a B r t x R h) λk A a0 D X w o i j=>?_;revert k;ext k i;refine mP (P:=λk=>av _ _ (bT (.type "set") k []) _ _ _) j i λa4 v h i=>eJ h λA e h=>dv h λa9 G j=>?_;rw[nO G]at e;refine ba (WT (X:=[]) B.b o i e j.1 j.2) (λb1 a8 g=>ac g λL K=>kp ⟨L,?_⟩) λ_ _ e=>e;exact ba K (λ_ _ q=>Af w q) λ_ _ e=>e
 .rw[if_neg u]at f;simp only[bA,decide_eq_true_eq]at f;ext(@ac f)g t(@ac g)l r(@ac l)p n;refine lF<|ob B R XS p<|IS n (λa=>ox a) (z.c.a B n t x R h) λk A a0 D X w o i j=>?_;exact eX w<|WU u B.b o i j
include i in theorem Yr{x:ao}{m:Nat}{g:ao}(n:bG T d C x)(l:bG T d C g):br T d C<|.m x m g:=by delta T d C x m g at i n l;refine⟨?_⟩;ext@a5@b0@b8@c1@c2@c@H@s@Q@b3 B b o R h;exact by simp only[ot]at h;ext(ge b)_ a8 _ b(jF b)_ _ _ b;simp only[bA,decide_eq_true_eq]at b;ext(@ac b)y a2(@ac y)z a1(@ac z)A a0(@ac A)D k(@ac D)E X(@ac E)e S;simp only[ha,bA,beq_iff_eq]at e;ext(ec e)e;refine mJ X (by rw[beq_iff_eq];exact e) k a0<|cI (n.a.a B a1 o R h) λv c0 c3 a6 b5 u p t a=>?_;ext b4;refine eI a t λb2 a a3=>wu a λI a9 K a=>wv a λb1 L a=>dv a.2 λf q j=>?_;have P:=a.1;clear a;have a:=j;clear j;ext(ac:R.a.g I m f q)r _;refine Vc S p a3 K L P q ?_;refine At k (R.a.b f r).1 (l.c.a B k a2 (o.za u) p a) λb7 b9 c4 a7 b6 w G a4 j=>?_;exact eX (u.za w)<|(i _ _ _ _ j).za (B.b.zb<|by exact du _ 0 1 rfl) G (.a (t.za w.a) a4) r
theorem Ys{x y:ao}(I:bG T d C x)(K:bG T d C y):br T d C<|.o x y:=by refine⟨λ{A a1 a7 a9 b0 c H s Q a3}B b g R h=>?_⟩;simp only[XC]at h;ext(ge b)_ a0 _ b(jF b)_ _ _ b(iT b)_ b;simp only[ha,bA,beq_iff_eq]at b;ext(@ac b)e D(@ac e)o w(@ac o)p f(@ac p)q t(@ac q)P r;subst P;refine mJ t (by rw[beq_iff_eq];exact r) f (by simp)<|cI (I.a.a B w g R h) λv z b1 S a5 m i k l=>?_;ext a4(bp:qL l.1)a2 a8 e E;subst e;refine qK LU PySem.F.type_list_append i k E<|lE f (λa=>by simp)<|lD f (K.a.a B D (g.za m) i l.2) λu z b2 X a6 n j G L=>kp ⟨j.zb,?_⟩;exact eX (m.za n)<|Xc j (k.za n.a) G L
theorem Yt{x y:ao}(I:bG T d C x)(K:bG T d C y):br T d C<|.M x y:=by refine⟨λ{A a1 a7 a9 b0 c H s Q a3}B b g R h=>?_⟩;simp only[XD]at h;ext(ge b)_ a0 _ b(jF b)_ _ _ b(iT b)_ b;simp only[ha,bA,beq_iff_eq]at b;ext(@ac b)e D(@ac e)o w(@ac o)p f(@ac p)q t(@ac q)P r;subst P;refine mJ t (by rw[beq_iff_eq];exact r) f (by simp)<|cI (I.a.a B w g R h) λv z b1 S a5 m i k l=>?_;ext a4(bp:qL l.1)a2 a8 e E;subst e;refine qK R8 PySem.F.type_list_extend i k E<|lE f (λa=>by simp)<|lD f (K.a.a B D (g.za m) i l.2) λu z b2 X a6 n j G L=>kp ⟨j.zb,?_⟩;exact eX (m.za n)<|Xd j (k.za n.a) G L
theorem Yu{x y:ao}(I:bG T d C x)(K:bG T d C y):br T d C<|.w x y:=by refine⟨λ{A a1 a7 a9 b0 c H s Q a3}B b g R h=>?_⟩;simp only[XF]at h;ext(ge b)_ a0 _ b(jF b)_ _ _ b(iT b)_ b;simp only[ha,bA,beq_iff_eq]at b;ext(@ac b)e D(@ac e)o w(@ac o)p f(@ac p)q t(@ac q)P r;subst P;refine mJ t (by rw[beq_iff_eq];exact r) f (by simp)<|cI (I.a.a B w g R h) λv z b1 S a5 m i k l=>?_;ext a4(bp:qL l.1)a2 a8 e E;subst e;refine qK S6 PySem.F.type_list_index i k E<|lE f (λa=>by simp)<|lD f (K.a.a B D (g.za m) i l.2) λu z b2 X a6 n j G L=>kp ⟨j.zb,?_⟩;exact eX (m.za n)<|Xg j (k.za n.a) G L
theorem Yv{x:ao}(t:bG T d C x):br T d C<|.J x:=by refine⟨λ{A D K P S c H s Q E}B b l R h=>?_⟩;simp only[XE]at h;ext(ge b)_ y _ b(jF b)_ _ _ b(wY b)b;simp only[ha,bA,beq_iff_eq]at b;ext(@ac b)e p(@ac e)k o(@ac k)w n;subst w;refine mJ o (by rw[beq_iff_eq];exact n) rfl (by simp)<|cI (t.a.a B p l R h) λv z X m I u f g j=>?_;ext G;have q:gZ z m:=IT j;ext(bp:qL q)i L e r;subst e;refine qK Eb Z5 f g r<|lE rfl (λa=>by simp)<|kp ⟨f.zb,?_⟩;exact eX u<|Xe f g j
theorem Yw{x:ao}(u:bG T d C x):br T d C<|.L x:=by refine⟨λ{A G L S X c H s Q I}B b m R h=>?_⟩;simp only[Bn]at h;ext(ge b)_ E _ b(jF b)_ _ _ b(iT b)_ b(mH b)_ _ _ b(Aa b)_ b;simp only[ha,bA,beq_iff_eq]at b;ext(@ac b)e q(@ac e)l p(@bD l)y D o;subst y;subst D;refine mJ p (by rw[beq_iff_eq];exact o) rfl (by simp)<|cI (u.a.a B q m R h) λv z a0 n k w f g j=>?_;ext K;have r:gZ z n:=IT j;ext(bp:qL r)i P e t;subst e;refine qK Eb Z5 f g t<|lE rfl (λa=>by simp)<|EH (MJ<|kp ⟨f.zb,?_⟩) rfl;exact eX (w.za<|.ze _)<|Xf (s:={k with toks:=k.toks+1}) f g ⟨_,rfl⟩ j
theorem Yx{x k o:ao}(a1:bG T d C x)(P:bG T d C k)(L:bG T d C o):br T d C<|.N x k o:=by refine⟨λ{a6 A b9 c2 c3 c H s Q b4}B b g R h=>?_⟩;simp only[XG]at h;ext(ge b)_ b0 _ b(jF b)_ _ _ b(nZ b)_ _ b;simp only[ha,bA,beq_iff_eq]at b;ext(@ac b)f K(@ac f)r I(@ac r)t G(@ac t)w e(@ac w)y E(@ac y)a5 D;subst a5;refine mJ E (by rw[beq_iff_eq];exact D) e (by simp)<|cI (a1.a.a B G g R h) λv a4 c4 a7 b6 i m p q=>?_;ext b5(hX:Xb q.1)b2 b3 b1 f S;subst f;refine WV W9 PySem.F.type_dict_get m p S<|lE e (λa=>by simp)<|lD e (P.a.a B I (g.za i) m q.2) λu a4 c5 a8 b7 j z X a2=>?_;refine lD (qF (c:=A) e).2 (L.a.a B K ((g.za i).za j) z a2) λc0 c1 c6 a9 b8 l n a0 a3=>kp ⟨n.zb,?_⟩;exact eX ((i.za j).za l)<|Xh n ((p.za j.a).za l.a) (X.za l.a) a0 a3
theorem Yy:ra T d C<|.d:=by refine⟨λ{A f j k r c H s Q e i}B g a b R h=>?_⟩;simp only[dg]at h;ext(wY a)a;exact kp<|bu c H .zc R<|ad ([]) .b h
theorem Yz{x j:ao}(p:bG T d C x)(q:bG T d C j):ra T d C<|.c x j:=by refine⟨λ{A n X a0 a1 c H s Q I K}B b a f R h=>?_⟩;simp only[dI]at h;revert b;ext(th a)_ _ a b;simp only[bA]at a;refine lD b (p.a.a B a.1 f R h) λv z a2 G L g l o t=>?_;refine ba (q.c.a B (qF (c:=n) b).2 a.2 (f.za g) l t) (λS P y=>bk y λE k i m D=>Y D λw r u=>?_) λ_ _ e=>e;exact bu E k (g.za i) m<|ad (z::w) (.a (o.za i.a) r) u
theorem YA{x:ao}(f:bG T d C x):kK T d C<|.z x:=by refine⟨λ{A g j k r c H s Q i}B a b R h=>?_⟩;simp only[XH]at h;ext(HJ a)z z z a;simp only[bA,beq_iff_eq]at a;ext(ec a)a;have w:=f.b.a B a b R h;refine isTrue_not<|ba w (λz z q=>?_) λz z e=>e;exact q
theorem YB{l r:ao}(m:bG T d C l)(n:bG T d C r):kK T d C<|.u l r:=by delta T d C l r;ext m n;refine⟨?_⟩;ext@A@G@P@S@X@c@H@s@Q@I B a i R h;exact by simp only[XI]at h;ext(HL a)_ _ _ E _ a;simp only[bA,beq_iff_eq,se]at a;ext(@ac a)b v(@ac b)t u(@ac t)x y;subst x;subst y;have w:=m.b.a B u i R h;refine isTrue_and<|ba w (λg K b=>bk b λa0 z f j o=>?_) λ_ _ e=>e;cases g with|false=>exact bu _ _ f j o|true=>simp only[if_true];have w:=n.b.a B v (i.za f) j o;refine isTrue_and<|ba w (λg L b=>bk b λa1 D q k p=>?_) λ_ _ e=>e;cases g with|false=>exact bu _ _ (f.za q) k p|true=>exact isTrue_and_nil<|bu _ _ (f.za q) k p
theorem YC{l r:ao}(t:bG T d C l)(p:bG T d C r):kK T d C<|.t l r:=by
 delta T d C l r;ext t p;refine⟨?_⟩;ext@A@L@X@a0@a1@c@H@s@Q@P B f n R h
 exact by
  simp only[XJ]at h;ext(HL f)_ G I v K f;simp only[bA,beq_iff_eq]at f;ext(@ac f)a b(@ac a)z x;subst z;have w:=t.b.a B x n R h;refine isTrue_or<|ba w (λi S a=>bk a λa2 E g o q=>?_) λ_ _ e=>e
  cases i with
  |true=>exact bu _ _ g o q
  |false=>
   simp only[fi,if_false]
   match v,b with
    |[],b=>have w:=p.b.a B b (n.za g) o q;refine isTrue_or<|ba w (λi y a=>bk a λD u m j k=>?_) λ_ _ e=>e;cases i with|true=>exact bu _ _ (g.za m) j k|false=>exact isTrue_or_nil<|bu _ _ (g.za m) j k
    |[i],b=>have w:=p.b.a B b (n.za g) o q;exact ba w (λi y a=>bk a λD u m j k=>bu _ _ (g.za m) j k) λ_ _ e=>e
    |_::_::_,b=>exact absurd b cG
theorem YD{K:fg}{l r:ao}(z:bG T d C l)(A:bG T d C r):kK T d C<|.i K l r:=by refine⟨λ{a0 a3 b0 b4 b5 c H s Q a5}B a i R h=>?_⟩;simp only[Bo]at h;ext(wU a)a4 _ a6 _ a;simp only[bA,beq_iff_eq,EJ]at a;ext(@ac a)f y(@ac f)g w(@ac g)X t;subst X;refine Z6 (cI (z.a.a B t i R h) λv x b6 a1 a7 k n E L=>?_) y;ext(cI:A.a.a B w (i.za k) n L)u b2 b7 j a8 m o D P(cI:Ii (Q:=λx I=>∃b,x=.d b/\I=j/\Q b j) (X:=[]) B.b o (E.za m.a) D (Xj (λb q=>aT b rfl rfl q) P))b1 b3 b8 a2 a9 S p G e(@bd e)b f g e;subst f;subst g;cases G;exact Eo<|bu _ _ ((k.za m).za S) p e
theorem YE{x:ao}(l:bG T d C x):kK T d C<|.I x:=by
 refine⟨λ{A p u w D c H s Q q}B e g R h=>?_⟩;simp only[XK]at h;ext(wU e)G G G G e(ac:dB.mp e)k e;have:=cV k;subst this;ext(mH e)G G G e(HT e)e;refine Z6 (cI (l.a.a B e g R h) λv y E o r n j f m=>?_) rfl;refine Z3<|isNot_none<|Eo<|bu _ _ n j ?_;have:(!(v==lY))=qh y:=by cases y with|e=>cases f;rfl|d b=>cases f;rfl|b i=>ext(bz f)t;rfl|c z=>ext(bz f)t;rfl|a i=>ext(bt f)a G;rfl|f a=>cases f;rfl
 rw[this];exact m
theorem YF{x:ao}(D:bG T d C x):oy T d C<|.s x:=by refine⟨λ{A a0 a7 a9 b0 c H s Q a4}B b o R h=>?_⟩;simp only[JS]at h;ext(ge b)_ X _ b(dF b)a2 a3 b(iT b)_ b;simp only[bA]at b;ext(@ac b)g w(@ac g)i l;refine lF<|ob B R (i:=10) (by decide) i<|lE l (λa=>ox a)<|lD l (D.a.a B w o R h) λv a8 b1 S a5 m k j f=>kp ⟨k.zb,?_⟩;refine fm f j λa1 f j=>?_;ext(@bD f)t i q;refine ba (Vm (X:=[]) k j t i q) (λu a6 g=>bk g λP p I r L=>bp L λK E z G=>?_) λ_ _ e=>e;exact bu P p (m.za I) r<|bK K E (λn y=>(z n y).zb m) G
theorem YG{x:ao}(D:bG T d C x):oy T d C<|.K x:=by refine⟨λ{A X a5 a7 a8 c H s Q a2}B b p R h=>?_⟩;simp only[XM]at h;ext(ge b)_ S _ b(dF b)a0 a1 b(iT b)_ b;simp only[bA]at b;ext(@ac b)g w(@ac g)t l;refine lF<|ob B R (i:=11) (by decide) t<|lE l (λa=>ox a)<|lD l (D.a.a B w p R h) λv a6 a9 P a3 m k j f=>kp ⟨k.zb,?_⟩;refine eI f j λi f j=>qc f λn e f=>?_;refine ba (Vr (X:=[]) k j e f) (λu a4 g=>bk g λL q I r K=>bp K λn E z G=>?_) λ_ _ e=>e;exact bu L q (m.za I) r<|bK n E (λo y=>(z o y).zb m) G
include i in theorem eo(e:ao):bG T d C e:=by delta T d C e at i;induction e with|b b=>have a:br T d C<|.b b:=XU;exact⟨a,.za λw w w h=>h,a.zc (λh=>h) λj=>by ext(dF j)n p w;rfl,a.zb λh=>h⟩|G=>have a:br T d C<|.G:=XV;exact⟨a,.za λw w w h=>h,.za λw w w h=>h,.za λw w w h=>h⟩|r b=>have a:br T d C<|.r b:=XW;exact⟨a,.za λw w w h=>h,.za λw w w h=>h,.za λw w w h=>h⟩|f b=>have a:br T d C<|.f b:=XX;exact⟨a,.za λw w w h=>h,.za λw w w h=>h,.za λw w w h=>h⟩|p b=>have a:br T d C<|.p b:=XY;exact⟨a,.za λw w w h=>h,.za λw w w h=>h,.za λw w w h=>h⟩|x b=>have a:br T d C<|.x b:=XZ;exact⟨a,.za λw w w h=>h,.za λw w w h=>h,.za λw w w h=>h⟩|H=>have a:br T d C<|.H:=Ya;exact⟨a,.za λw w w h=>h,.za λw w w h=>h,.za λw w w h=>h⟩|h b f k c g=>have a:br T d C<|.h b f k:=Yb c g;exact⟨a,.za λw w w h=>h,.za λw w w h=>h,.za λw w w h=>h⟩|i b f k c g=>have a:br T d C<|.i b f k:=Yc c g;exact⟨a,.za λw w w h=>h,YD c g,.za λw w w h=>h⟩|I b c=>have a:br T d C<|.I b:=.za λw w w h=>h;exact⟨a,.za λw w w h=>h,YE c,.za λw w w h=>h⟩|z b c=>have a:br T d C<|.z b:=.za λw w w h=>h;exact⟨a,.za λw w w h=>h,YA c,.za λw w w h=>h⟩|u b f c g=>have a:br T d C<|.u b f:=.za λw w w h=>h;exact⟨a,.za λw w w h=>h,YB c g,.za λw w w h=>h⟩|t b f c g=>have a:br T d C<|.t b f:=.za λw w w h=>h;exact⟨a,.za λw w w h=>h,YC c g,.za λw w w h=>h⟩|D b f k c g l=>have a:br T d C<|.D b f k:=Yd c g l;exact⟨a,.za λw w w h=>h,.za λw w w h=>h,.za λw w w h=>h⟩|e b f c=>have a:br T d C<|.e b f:=Ye c;exact⟨a,.za λw w w h=>h,.za λw w w h=>h,a.zb λh=>h⟩|g b f c g=>have a:br T d C<|.g b f:=Yf c g;exact⟨a,.za λw w w h=>h,a.zc (λh=>h) λj=>by ext(qx j)w w w w;rfl,a.zb λh=>h⟩|A b f c g=>have a:br T d C<|.A b f:=Yg c g;exact⟨a,.za λw w w h=>h,.za λw w w h=>h,a.zb λh=>h⟩|F b f c g=>have a:br T d C<|.F b f:=Yh c g;exact⟨a,.za λw w w h=>h,.za λw w w h=>h,.za λw w w h=>h⟩|n b c=>have a:br T d C<|.n b:=Yi c;exact⟨a,.za λw w w h=>h,.za λw w w h=>h,.za λw w w h=>h⟩|k b c=>have a:br T d C<|.k b:=Yj c;exact⟨a,.za λw w w h=>h,.za λw w w h=>h,.za λw w w h=>h⟩|E=>have a:br T d C<|.E:=Yk;exact⟨a,.za λw w w h=>h,.za λw w w h=>h,.za λw w w h=>h⟩|y=>have a:br T d C<|.y:=Yl;exact⟨a,.za λw w w h=>h,.za λw w w h=>h,.za λw w w h=>h⟩|q b f k m c g l=>have a:br T d C<|.q b f k m:=Ym c g l;exact⟨a,.za λw w w h=>h,.za λw w w h=>h,.za λw w w h=>h⟩|B b f k m o c g l=>have a:br T d C<|.B b f k m o:=Yn c g l;exact⟨a,.za λw w w h=>h,.za λw w w h=>h,.za λw w w h=>h⟩|s b c=>have a:br T d C<|.s b:=.za λw w w h=>h;exact⟨a,.za λw w w h=>h,.za λw w w h=>h,YF c⟩|K b c=>have a:br T d C<|.K b:=.za λw w w h=>h;exact⟨a,.za λw w w h=>h,.za λw w w h=>h,YG c⟩|l b f c=>have a:br T d C<|.l b f:=Yo i c;exact⟨a,.za λw w w h=>h,.za λw w w h=>h,a.zb λh=>h⟩|v b f c=>have a:br T d C<|.v b f:=Yp i c;exact⟨a,.za λw w w h=>h,.za λw w w h=>h,.za λw w w h=>h⟩|j b f c=>have a:br T d C<|.j b f:=Yq c;exact⟨a,.za λw w w h=>h,.za λw w w h=>h,a.zb λh=>h⟩|m b f k c g=>have a:br T d C<|.m b f k:=Yr i c g;exact⟨a,.za λw w w h=>h,a.zc (λh=>h) λj=>by ext(ge j)w w w j(jF j)w w w w;rfl,a.zb λh=>h⟩|o b f c g=>have a:br T d C<|.o b f:=Ys c g;exact⟨a,.za λw w w h=>h,.za λw w w h=>h,.za λw w w h=>h⟩|J b c=>have a:br T d C<|.J b:=Yv c;exact⟨a,.za λw w w h=>h,.za λw w w h=>h,.za λw w w h=>h⟩|L b c=>have a:br T d C<|.L b:=Yw c;exact⟨a,.za λw w w h=>h,.za λw w w h=>h,.za λw w w h=>h⟩|M b f c g=>have a:br T d C<|.M b f:=Yt c g;exact⟨a,.za λw w w h=>h,.za λw w w h=>h,.za λw w w h=>h⟩|w b f c g=>have a:br T d C<|.w b f:=Yu c g;exact⟨a,.za λw w w h=>h,.za λw w w h=>h,.za λw w w h=>h⟩|N b f k c g l=>have a:br T d C<|.N b f k:=Yx c g l;exact⟨a,.za λw w w h=>h,.za λw w w h=>h,.za λw w w h=>h⟩|d=>have a:br T d C<|.d:=.za λw w w h=>h;exact⟨a,Yy,⟨λw j=>absurd j cG⟩,.za λw w w h=>h⟩|c b f c g=>have a:br T d C<|.c b f:=.za λw w w h=>h;exact⟨a,Yz c g,.za λw w w h=>h,.za λw w w h=>h⟩
end
def YH(X:List ah):Hu->nA->Prop|.a,f=>f=.next|.c,f=>f=.cont|.b v,f=>∃w,f=.ret w/\ae X v w
section
variable{T:bf}{A:bo}{X h g:List ah}{H I:J}{s f:al}{a b:O}{v u:ab}{Q:aS}{d:Nat}{c:cl}{e:cD}{j:cm}{r i:am}
def jJ(T:bf)(c:cl)(e:cD)(h:List ah)(s:al)(Q:aS)(b:nA)(f:al):Prop:=∃g I i a,bg (cZ c e) h s g f/\ai T g I f.heap/\bq T c e g i f.heap/\YH g a b/\Q a i I
def he(T:bf)(A:bo)(c:cl)(e:cD)(h:List ah)(s:al)(t:cN nA)(Q:aS):Prop:=av (ax T.b T.a) A t (jJ T c e h s Q) (λw w=>False) s
theorem jJ.za{i:nA}{j:al}(p:bg (cZ c e) h s g f)(o:jJ T c e g f Q i j):jJ T c e h s Q i j:=ml o λr k q n a b l d m=>dY r k q n (p.za a) b l d m
theorem Bs{t:cN nA}(d:bg (cZ c e) h s g f)(b:he T A c e g f t Q):av (ax T.b T.a) A t (jJ T c e h s Q) (λw w=>False) f:=ba b (λw w q=>q.za d) λw w a=>a
theorem hf(a:bw):pB [a] c=mi a c:=by
 rw[execs_cons];have:(λf:nA=>match f with|.next=>pB [] c|f=>(bv f:cN nA))=bv:=by funext f;cases f<;>rfl
 show(mi a c>>=λf=>match f with|.next=>pB [] c|f=>bv f)=_;rw[this,bind_pure]
theorem YI(a:ih c e):interactive c=aq:=by unfold interactive;rw[a.a];rfl
theorem YJ{a:ag}{n:N}{p:aE}{f:Nat}(h:Ad a=M):jr a (V<|.Name n p) f c=bv aq\/(jr a (V<|.Name n p) f c=bv M/\c.kindOf n=V .local/\∃d e b g,a=.ListComp d e b g):=by
 delta c a n p f;ext h;cases a<;>first|exact .inl rfl|exact absurd h cG|skip
 rename_i d e b g;have i:jr (.ListComp d e b g) (V<|.Name n p) f c=bv (c.blockKind==.function&&c.kindOf n==V .local&&p.line==(Expr.ListComp d e b g).pos.line&&!(b.names.any λ(m,k)=>m==n&&(k==.local||k==.cell))):=rfl;rw[i];cases j:(c.blockKind==.function&&c.kindOf n==V .local&&p.line==(Expr.ListComp d e b g).pos.line&&!(b.names.any λ(m,k)=>m==n&&(k==.local||k==.cell)))with|false=>exact .inl rfl|true=>exact .inr<|aI rfl (cV (dB.mp (dB.mp (dB.mp j).1).1).2)<|Fg _ _ _ _ rfl
theorem tO{h t:ag}{g:Nat}(i:∀a b f d,jr (.ListComp a b f d) (V t) g c=bv aq)(j:∀a b f d,jr (.SetComp a b f d) (V t) g c=bv aq)(k:∀a b f d e,jr (.DictComp a b f d e) (V t) g c=bv aq):jr h (V t) g c=bv aq:=by cases h<;>first|rfl|exact i ..|exact j ..|exact k ..
theorem YK{b c d f g:Bool}{a:List N}{k:Nat}(i:g=aq):(if b=M then(bv U:cN (Option<|List N))else if c=M then bv U else if(a.length !=k||d)=M then bv U else if f=M then bv U else if g=M then(do
 vc "assign.tuple-of-constant-expressions:order-of-the-stores";
 bv (V a))else bv (V a))=bv U\/((if b=M then(bv U:cN (Option<|List N))else if c=M then bv U else if(a.length !=k||d)=M then bv U else if f=M then bv U else if g=M then(do
 vc "assign.tuple-of-constant-expressions:order-of-the-stores";
 bv (V a))else bv (V a))=bv (V a)/\a.length=k):=by subst i;cases b with|true=>exact .inl rfl|false=>cases c with|true=>exact .inl rfl|false=>cases h:(a.length !=k||d)with|true=>exact .inl rfl|false=>cases f with|true=>exact .inl rfl|false=>exact .inr ⟨rfl,DO λe=>by rw[bne_iff_ne.mpr e]at h;exact absurd h.symm cG⟩
theorem YL{b:Type}{a:b}{c:Prop}[Decidable c]:(if c then V a else U)=V a\/(if c then V a else U)=U:=(Q9 c).imp (λh=>if_pos h) λh=>if_neg h
theorem YM{a:List ag}{b:ag}{e:Nat}{g:aE}(d:tl b=M):∃f:ag->Option N,(∀n p,f (.Name n p)=V n\/f (.Name n p)=U)/\(EL [.Tuple a e g] b c=bv U\/(EL [.Tuple a e g] b c=bv (V<|a.filterMap f)/\(a.filterMap f).length=a.length)):=by
 cases b<;>first|exact⟨λw=>U,λw w=>.inr rfl,.inl rfl⟩|skip
 have d:=(EJ _).mp d;exact⟨_,λn p=>YL,YK d⟩
theorem YN{f:ag->Option N}(c:∀n p,f (.Name n p)=V n\/f (.Name n p)=U):∀{l:List<|N×aE},((l.map λx=>Expr.Name x.1 x.2).filterMap f).length=(l.map λx=>Expr.Name x.1 x.2).length->(l.map λx=>Expr.Name x.1 x.2).filterMap f=l.map (·.1):=by
 ext l h;replace h:=List.filterMap_length_eq_length.mp h
 induction l with
 |nil=>rfl
 |cons x l d=>
  have e:f (.Name x.1 x.2)=V x.1:=(c x.1 x.2).elim id λe=>by have:=h _<|.head _;rw[e]at this;exact absurd this cG
  rw[dm,List.filterMap_cons_some e,d λa b=>h a<|.tail _ b];rfl
theorem JY{l:List<|N×aE}{a:ag}{b:Nat}{d:aE}(e:tl a=M):EL [.Tuple (l.map λx=>.Name x.1 x.2) b d] a c=bv U\/EL [.Tuple (l.map λx=>.Name x.1 x.2) b d] a c=bv (V<|l.map (·.1)):=Y (YM e) λf g h=>h.imp id λh=>by rw[h.1,YN g h.2]
end
section
variable{T:bf}{A:bo}{X e i k:List ah}{H I:J}{s g:al}{a b:O}{v u:ab}{Q:aS}{d:Nat}{c:cl}{f:cD}{h:cm}{r j:am}
theorem jK{i:Nat}{n:N}(B:cL T A d c f h)(a:h.za i n=M):∃b,f[i]?=V (V (n,b))/\hF c n b:=by
 simp only[cm.za,cm.zf,bA,beq_iff_eq]at a;ext(@ac a)j e(aD:B.e i n j)b g;refine ad b g ?_
 cases b with
 |none=>exact .inl rfl
 |some b=>
  rcases(B.a.b i n b g).1 with a|a;.exact .inr a
  .rw[B.d]at e;have a:c.scope.names.lookup n=V .free:=a;rw[a]at e;exact absurd e (by decide)
theorem YO{i:Nat}{n:N}{x:O}(B:cL T A d c f h)(m:h.za i n=M)(b:bq T c f e r s.heap)(R:ai T e H s.heap)(o:ae e x v)(q:Q .a (r.set i<|V x) H):av (ax T.b T.a) A (storeName c n v) (λz=>jJ T c f e s Q .next) (λz z=>False) s:=by ext(_:jK B m)w a p;exact ba (od B.a b R a p (fq a) o) (λz g u=>bD u λt k j=>dY e H _ .a t k j rfl q) λz z l=>l
theorem JZ{C D:ah}{p:List O}{z:Nat}{n:N}{b8:aE}(B:cL T A d c f h)(k:h.za z n=M)(t:bq T c f e r s.heap)(L:bg [] e s i g)(R:ai T i I g.heap)(v:∃u n,g.heap.get? D=V (bL "list" u n)/\aQ (ae i) p u.toList)(y:∃m,g.heap.Ns C m)(a7:s.heap.get? D=U)(w:s.heap.get? C=U)(a4:T.c.get? D=U)(a3:T.c.get? C=U)(a6:2<D)(a8:D≠C)(b7:D∉i)(b6:C∉i)(b5:p.length<=16777001)(b9:Q .a (r.set z<|V<|.a I.length)<|I++[.a p]):compPost (ax T.b T.a) A (λ_ _=>False) (V<|iB (.Name n b8) c) (λ_ g=>jJ T c f e s Q .next g) (.ref D) C (.ok .next) g:=by
 ext(_:jK B k)c2 x b4(@bp v)u c3 b1 b2;have c1:=t.za L;have a1:ai T (i++[D]) (I++[.a p]) g.heap:=R.zw b7 a4 a6 b1<|hC b2.zd (by exact an 0 16777001 0 16777217 b5 rfl);have P:bg [] e s (i++[D]) g:=L.zh a7;have X:bq T c f (i++[D]) r g.heap:=t.za P;have b3:ae (i++[D]) (.a I.length)<|.ref D:=ad D (by rw[<-R.c,ev<|aO _];simp) rfl
 have G:C∉i++[D]:=λl=>by
  rcases bU.mp l with k|k;.exact b6 k
  .simp at k;exact a8 k.symm
 have H:C∉cZ c f:=λl=>by ext(bD:oe t C l)_ _ q(@aD q)o j;rw[w]at j;exact cn j
 refine ba (lz (X:=cZ c f) B.a X a1 x b4 (fq x) b3) (λ_ c0 q=>bD q λS a2 a0=>?_) λ_ _ j=>j;ext(@aD y)m l;refine ad m (l.at' λo j=>S.b _ _ j G H) λa5 K=>?_;have E:∀b o,b≠C->c0.heap.get? b=V o->a5.get? b=V o:=λb o b0 j=>(K.2 b b0).trans j;refine dY (i++[D]) (I++[.a p]) _ .a ?_ (a2.zo G a3 K) (a0.zb λa a9 o j=>E a o (λj=>H<|j▸a9) j) rfl b9;exact((P.zb<|by simp).za S).zd ⟨⟨rfl,rfl⟩,E⟩ w
theorem YP{C:bl}(v:∀k y H Q,C k y H Q->kD T d k y H Q){l t:Nat}{w o u:ao}{n:N}{p L:aE}{x:ag}(B:cL T A d c f h)(a3:h.za l n=M)(j:df h (.q t w o u) x=M)(z:bq T c f e r s.heap)(R:ai T e H s.heap)(E:jr x (V<|.Name n p) L.line c=bv M)(G:aK C (.q t w o u) r H λb5 S=>Q .a (r.set l<|V b5) S):he T A c f e s (mi (.Assign [.Name n p] x L) c) Q:=by
 rw[he,Z7 _ _ _ _ E];clear E;simp only[tM]at G;ext(tf j)a1 _ K a6 P a0 j(dF j)b1 b2 j;simp only[bA,and_assoc]at j;have m:=of j.1;refine af<|kV<|af ?_
 show av _ A (do
  let _<-comprehension (.ListComp a1 [⟨.Name b1 b2,K,a6,0⟩] P a0) P c _ (nx []) aq (ca K c) (V<|iB (.Name n p) c)) _ _ s;refine af<|ba (EK (use:=V<|iB (.Name n p) c) (Q:=λ_ g=>jJ T c f e s Q .next g) rfl (jI j.2.1 c) (qJ B m).1 m.b (λb6 a5 D=>by obtain⟨a,b⟩:=b6;simp only at D;subst D;exact qI m.c a5) ?_) (λ_ g a4=>aC<|aC a4) λ_ _ q=>q;exact JW (eo v w) (eo v o) (eo v u) B z R j G λb7 C i I y g a b X q k a2 l a7 a8 a9 b0 b3 p b4=>JZ (Q:=Q) B a3 z a b X q k a2 l a7 a8 a9 b0 b3 p b4
theorem YQ{C:bl}(w:∀k z H Q,C k z H Q->kD T d k z H Q){l t u:Nat}{x o v:ao}{n:N}{p P:aE}{y:ag}(B:cL T A d c f h)(a4:h.za l n=M)(j:df h (.B t u x o v) y=M)(D:bq T c f e r s.heap)(R:ai T e H s.heap)(G:jr y (V<|.Name n p) P.line c=bv M)(K:aK C (.B t u x o v) r H λc0 X=>Q .a (r.set l<|V c0) X):he T A c f e s (mi (.Assign [.Name n p] y P) c) Q:=by
 rw[he,Z7 _ _ _ _ G];clear G;simp only[JR]at K;ext(tf j)a2 _ L a7 S a1 j(nX j)_ b0 b9 j(nZ j)_ _ j(dF j)b5 b6 j(dF j)b3 b4 j;simp only[bA,and_assoc]at j;have m:=of j.1;refine af<|kV<|af ?_
 show av _ A (do
  let _<-comprehension (.ListComp a2 [⟨.Tuple [.Name b5 b6,.Name b3 b4] b0 b9,L,a7,0⟩] S a1) S c _ (nx []) aq (ca L c) (V<|iB (.Name n p) c)) _ _ s;refine af<|ba (EK (use:=V<|iB (.Name n p) c) (Q:=λ_ g=>jJ T c f e s Q .next g) rfl (jI j.2.1 c) (qJ B m).1 m.b (λc1 a6 E=>by obtain⟨a,b⟩:=c1;simp only at E;subst E;exact qI m.c a6) ?_) (λ_ g a5=>aC<|aC a5) λ_ _ q=>q;exact JX (eo w x) (eo w o) (eo w v) B D R j K λc2 C i I z g a b a0 q k a3 l a8 a9 b1 b2 b7 p b8=>JZ (Q:=Q) B a4 D a b a0 q k a3 l a8 a9 b1 b2 b7 p b8
theorem YR{e:ao}{f:ag}{g:List rO}{l:fh}{d:aE}{P:ao->Prop}(i:df h e (.ListComp f g l d)=M)(j:∀t c a b,P<|.q t c a b)(k:∀t u c a b,P<|.B t u c a b):P e:=by cases e<;>first|exact j ..|exact k ..|exact absurd i cG
theorem YS{C:bl}(o:∀z I H Q,C z I H Q->kD T d z I H Q){i:Nat}{a:ao}{n:N}{p t:aE}{q:ag}(B:cL T A d c f h)(m:h.za i n=M)(b:df h a q=M)(S:Ad q=M)(j:bq T c f e r s.heap)(R:ai T e H s.heap)(g:aK C a r H λx k=>Q .a (r.set i<|V x) k):he T A c f e s (mi (.Assign [.Name n p] q t) c) Q:=by
 rcases YJ (c:=c) (n:=n) (p:=p) (f:=t.line) S with l|⟨l,a4,y,D,E,w,rfl⟩;.refine wpAny_Assign_Name (cI ((eo o a).a.a B b j R g) λv x a7 k a5 G K X a2=>?_) l;exact ba (YO B m (j.za G) K X a2) (λ_ a6 a1=>a1.za<|G.zb<|by simp) λ_ _ a=>a
 .exact YR b (P:=λa=>df h a (.ListComp y D E w)=M->(aK C a r H λx k=>Q .a (r.set i<|V x) k)->he T A c f e s (mi (.Assign [.Name n p] (.ListComp y D E w) t) c) Q) (λa3 a0 L P b g=>YP o B m b j R l g) (λa3 u a0 L P b g=>YQ o B m b j R l g) b g
structure Ka(T:bf)(A:bo)(c:cl)(f:cD)(n:List ah)(j:al)(k:List ah)(p:List O)(o:J->Prop)(I:ah)(l:Nat->bS->Prop)(m:Nat)(e:List ah)(H:J)(r:am)(s:al):Prop where
 g:bg (cZ c f) n j e s
 b:k<+:e
 h:ai T e H s.heap
 d:bq T c f e r s.heap
 i:l m s.heap
 a:I∉e/\T.c.get? I=U/\j.heap.get? I=U/\I∉cZ c f
theorem bg.zi{X b e:List ah}{a s:al}{I:ah}(x:bg (I::X) b a e s)(c:a.heap.get? I=U):bg X b a e s:=x.zf c
theorem YT{u:List ah}{t:al}{l:List O}{q:J->Prop}{I:ah}{w:Nat->bS->Prop}{L:ag}{C:List bw}{y:O->am->J->(am->Prop)->Prop}{z:am->J->aS->Prop}(c6:A.handled=U)(i:hc T A k l q I w)(a9:∀e H s x v r(B:am->Prop),bq T c f e r s.heap->ai T e H s.heap->ae e x v->y x r H B->av (ax T.b T.a) A (iB L c v) (λ_ g=>∃j,fr T c f (cZ c f) e H s j g/\B j) (λ_ _=>False) s)(b0:∀e H s r(B:aS),bq T c f e r s.heap->ai T e H s.heap->z r H B->he T A c f e s (pB C c) B)(b:Ka T A c f u t k l q I w 0 e H r s)(h:ig y z q l r H Q):hT (ax T.b T.a) A (.forLoop L (.ref I) C [] c) (λa1 g=>match a1 with|.ok a8=>jJ T c f u t Q a8 g|.error d=>cameBackBy (ax T.b T.a) A c (λ_ _=>False) d g) s:=by
 revert T A e k H s Q c f r u t l q I w L C y z;ext@T@A@e@k@H@s@Q@c@f@r@u@t@l@q@I@w@L@C@y@z c6 i a9 b0 b h;let a6:Nat->al->Prop:=λb4 s=>∃m e H r,m<=l.length/\b4=l.length-m/\Ka T A c f u t k l q I w m e H r s/\ig y z q (l.drop m) r H Q;refine codeAny_forLoop_any a6 ?_ (l.length-0)<|mm 0 e H r (fd _) rfl b (by simpa using h);ext b4 s n(FA n)m e H r d1 b p;rcases nt m l.length with S|d0;.ext(_:ID S)x d6 c9;rw[c9]at p;unfold ig at p;ext(@ac p)d4 c7;refine ba (i.d m e H s x b.b b.h d4 b.i b.a.1 b.a.2.1 d6) (λa1 G n=>vv n λa2 d X b1 b9 R=>?_) λ_ _ d=>d.elim;subst d;have c2:bq T c f e r G.heap:=b.d.zb λa D o d=>b9.b _ _ d (oe b.d a D).1 (by simp only[hV];exactλd=>b.a.2.2.2<|d▸D);have d8:bg (cZ c f) u t e G:=((b.g.zb (c:=I::cZ c f) λa h=>.tail _ h).za<|b9.zb λa h=>by rw[hV]at h;have h:=h.symm;subst h;exact .head _).zi b.a.2.2.1;ext(bk:i.c _ _ b1)o e1 d3 c8 d2;refine Iy d3 c8 d2 ?_;refine ba (a9 e H G x a2 r _ c2 R X c7) (λ_ b7 n=>Y n λe0 d9 d5=>bD d9 λc0 c4 c3=>?_) λ_ _ d=>d.elim;have b2:w (m+1) b7.heap:=i.a _ _ _ b1 λo d=>c0.b _ _ d b.a.1 b.a.2.2.2;refine ba (b0 e H b7 e0 _ c3 c4 d5) (λa8 b8 n=>ml n λa4 P a3 c5 K a7 a5 E a0=>?_) λ_ _ d=>d.elim;have c1:bg (cZ c f) u t a4 b8:=(d8.za c0).za K;have b5:ig y z q (l.drop<|m+1) a3 P Q->∃b3,b3<l.length-m/\a6 b3 b8:=λd7=>ad (l.length-(m+1)) (by exact vK S)<|mm (m+1) a4 P a3 S rfl ⟨c1,b.b.trans K.a,a7,a5,i.a _ _ _ b2 λo d=>K.b _ _ d b.a.1 b.a.2.2.2,⟨K.zg b.a.1<|i.b _ _ b2,b.a.2⟩⟩ d7;cases c5 with|a=>cases E;exact b5 a0|c=>cases E;exact b5 a0|b v=>ext(E)a2 n X;subst n;exact dY a4 P a3 (.b v) c1 a7 a5 (ad a2 rfl X) a0
 .have:m=l.length:=by exact be d1 d0
  subst this;rw[W8]at p;unfold ig at p;refine ba (i.e _ e H s b.b b.h p.1 b.i b.a.1 b.a.2.1 rfl) (λa1 G n=>bD n λd b6 R=>?_) λ_ _ d=>d.elim;subst d;refine MK<|dY e H r .a (b.g.zd b6 b.a.2.2.1) R (b.d.zb λa D o d=>b6.2 _ _ (λd=>b.a.2.2.2<|d▸D) d) rfl p.2
theorem YU(a:A.handled=U):A.mark U=A:=by obtain⟨h,d,f,g,u⟩:=A;cases a;rfl
theorem Kb{m C:ag}{q:List bw}{a4:aE}{p:O->am->J->(am->Prop)->Prop}{t:am->J->aS->Prop}(B:cL T A d c f h)(n:bq T c f e r s.heap)(X:∀x,EI m c x=bv x)(I:∀e H s x v r(k:am->Prop),bq T c f e r s.heap->ai T e H s.heap->ae e x v->p x r H k->av (ax T.b T.a) A (iB C c v) (λ_ g=>∃j,fr T c f (cZ c f) e H s j g/\k j) (λ_ _=>False) s)(K:∀e H s r(k:aS),bq T c f e r s.heap->ai T e H s.heap->t r H k->he T A c f e s (pB q c) k)(L:mL T A [] e s (ca m c) λD w o=>ig p t w D r o Q):he T A c f e s (mi (.For C m q [] a4) c) Q:=by have l:=B.b.a;rw[he,arm_exec_For];refine af<|kV<|af<|ba L (λx b2 b=>bk b λa7 o y G a6=>bp a6 λD w P S=>?_) λ_ _ a=>a;rw[X];refine af<|aC ?_;refine af<|kV ?_;refine af<|eh<|ba (P A l) (λb0 a5 b=>EY b λa8 a9 a i a2 a1 a0 u z a3=>?_) λ_ _ a=>a;subst a;refine wpAny_runOwn ?_;rw[YU l];have E:bq T c f a7 r a5.heap:=(n.za y).za z;refine YT l i I K ⟨(y.za z).zb<|by simp,eg _,G.zc a3,E,a2,dC a1 a0 u λR=>?_⟩ S;ext(bD:oe n _ R)_ _ b(@aD b)b1 a;rw[u]at a;exact cn a
theorem YV{p:ag}{q:List bw}{C:aE}{k:am->J->(Bool->J->Prop)->Prop}{b:am->J->aS->Prop}(B:cL T A d c f h)(L:bq T c f e r s.heap)(a1:ai T e H s.heap)(a5:∀e H s r(l:Bool->J->Prop),bq T c f e r s.heap->ai T e H s.heap->k r H l->eW T A [] e s (ko p c<|ca p c) λx _ I _=>l x I)(a4:∀e H s r(l:aS),bq T c f e r s.heap->ai T e H s.heap->b r H l->he T A c f e s (pB q c) l)(o:∃n,kA k b n r H Q):he T A c f e s (mi (.While p q [] C) c) Q:=by revert T A e H s Q d c f h r p q C k b;ext@T@A@e@H@s@Q@d@c@f@h@r@p@q@C@k@b B L a1 a5 a4 o;have c4:=B.b.a;ext(@aD o)n o;refine wpAny_While ?_;let a0:Nat->al->Prop:=λm g=>∃i I j,bg (cZ c f) e s i g/\ai T i I g.heap/\bq T c f i j g.heap/\kA k b m j I Q;refine codeAny_whileLoop a0 ?_ n<|gt e H r .zc a1 L o;ext m b7 a(@hY a)c2 b2 G c0 b3 P z;cases m with|zero=>exact kg z|succ m=>unfold kA at z;refine ba (a5 c2 b2 b7 G _ P b3 z) (λx b8 a=>bk a λb0 X a8 a2 u=>?_) λ_ _ y=>y.elim;have R:=P.za a8;have E:=c0.za<|a8.zb (c:=cZ c f) (by simp);cases x with|false=>simp only[fi,if_false]at u⊢;exact MK<|dY b0 X G .a E a2 R rfl u|true=>simp only[if_true]at u⊢;refine ba (a4 b0 X b8 G _ R a2 u) (λc3 b9 a=>ml a λb1 w K b4 a9 a3 S t D=>?_) λ_ _ y=>y.elim;have a7:kA k b m K w Q->∃a6,a6<m+1/\a0 a6 b9:=λb6=>ad m (mc _)<|gt b1 w K (E.za a9) a3 S b6;cases b4 with|a=>cases t;exact a7 D|c=>cases t;exact a7 D|b v=>ext(t)c1 a b5;subst a;exact dY b1 w K (.b v) (E.za a9) a3 S (ad c1 rfl b5) D
end
section
variable{T:bf}{A:bo}{X e j k:List ah}{H I:J}{s i:al}{a b:O}{v u:ab}{Q:aS}{d:Nat}{c:cl}{f:cD}{g:cm}{r h:am}
theorem YW{z j k:Nat}{n m o:N}{l p q:Option ah}{a8:Nat}{a9 b0 g b1:aE}{D:O}{Q:am->Prop}(a0:A.handled=U)(w:ih c f)(b:bq T c f e r s.heap)(R:ai T e H s.heap)(a1:f[z]?=V (V (n,l)))(a5:hF c n l)(K:l.getD c.locals∈X)(a2:f[j]?=V (V (m,p)))(a6:hF c m p)(L:p.getD c.locals∈X)(a3:f[k]?=V (V (o,q)))(a7:hF c o q)(P:q.getD c.locals∈X)(u:ae e D v)(d:nU z j k D r H Q):av (ax T.b T.a) A (iB (.Tuple [.Name n a9,.Name m b0,.Name o g] a8 b1) c v) (λ_ i=>∃h,fr T c f X e H s h i/\Q h) (λ_ _=>False) s:=by refine eI d u λb2 d u=>qc d λb7 t d=>?_;ext(hX:HE d)b6 b8 b9 x d;subst x;ext(ml:R.zv t u)a b3 b4 b5 x a4 E G I;subst x;refine W7 a0 a4 rfl rfl λy S=>?_;have B:=tr S;have C:bg [] e s e {s with heap:=y}:=tq B;refine ba (IA (s:={s with heap:=y}) (λs b R=>lz w b R a1 a5 K E) (λs b R=>lz w b R a2 a6 L G) (λs b R=>lz w b R a3 a7 P I) (b.za C)<|R.zc B) (λ_ i g=>ad _ ⟨(C.zb<|by simp).za g.1,g.2⟩ d) λ_ _ t=>t
theorem YX{p j:Nat}{n m:N}{g k:Option ah}{z:O}{Q:am->Prop}(I:A.handled=U)(w:ih c f)(L:p≠j)(d:bq T c f e r s.heap)(R:ai T e H s.heap)(K:f[p]?=V (V (n,g)))(a0:hF c n g)(D:g.getD c.locals∈X)(P:f[j]?=V (V (m,k)))(a1:hF c m k)(E:k.getD c.locals∈X)(o:ae e z v)(b:gY p j z r H Q):av (ax T.b T.a) A (unpackItems v 2 U) (λa2 a3=>av (ax T.b T.a) A (EC ([n,m].reverse.map λn=>bindName c n) a2.reverse) (λ_ i=>∃h,fr T c f X e H s h i/\Q h) (λ_ _=>False) a3) (λ_ _=>False) s:=by refine eI b o λa6 b o=>qc b λa8 l b=>?_;ext(bp:qe b)a7 a9 q b;subst q;ext(hY:R.zs l o)a a4 a5 q S B C;subst q;refine Z8 (items:=#[a4,a5]) I S λt G=>?_;have u:=tr G;have y:bg [] e s e {s with heap:=t}:=tq u;refine ba (Iz (s:={s with heap:=t}) (λs d R=>vj<|od w d R P a1 E C) (λs d R=>vj<|od w d R K a0 D B) (d.za y)<|R.zc u) (λ_ i x=>ad _ ⟨(y.zb<|by simp).za x.1,x.2⟩ ?_) λ_ _ l=>l;rw[vh _ _<|cy L];exact b
theorem YY{b j k:Nat}{n m o:N}{l p q:Option ah}{I:O}{Q:am->Prop}(a3:A.handled=U)(w:ih c f)(a5:b≠j)(a6:b≠k)(a8:j≠k)(d:bq T c f e r s.heap)(R:ai T e H s.heap)(a4:f[b]?=V (V (n,l)))(b1:hF c n l)(S:l.getD c.locals∈X)(a7:f[j]?=V (V (m,p)))(b2:hF c m p)(a0:p.getD c.locals∈X)(a9:f[k]?=V (V (o,q)))(b3:hF c o q)(a1:q.getD c.locals∈X)(u:ae e I v)(g:nU b j k I r H Q):av (ax T.b T.a) A (unpackItems v 3 U) (λb4 b5=>av (ax T.b T.a) A (EC ([n,m,o].reverse.map λn=>bindName c n) b4.reverse) (λ_ i=>∃h,fr T c f X e H s h i/\Q h) (λ_ _=>False) b5) (λ_ _=>False) s:=by
 refine eI g u λb9 g u=>qc g λc0 t g=>?_;ext(hX:HE g)x y z B g;subst B;ext(ml:R.zv t u)a b6 b7 b8 B b0 K L P;subst B;refine Z8 (items:=#[b6,b7,b8]) a3 b0 λC a2=>?_;have D:=tr a2;have G:bg [] e s e {s with heap:=C}:=tq D;refine ba (IA (s:={s with heap:=C}) (λs d R=>vj<|od w d R a9 b3 a1 P) (λs d R=>vj<|od w d R a7 b2 a0 L) (λs d R=>vj<|od w d R a4 b1 S K) (d.za G)<|R.zc D) (λ_ i E=>ad _ ⟨(G.zb<|by simp).za E.1,E.2⟩ ?_) λ_ _ t=>t;have:(((r.set k<|V z).set j<|V y).set b<|V x)=(((r.set b<|V x).set j<|V y).set k<|V z):=by rw[vh (i:=k) (j:=j) _ _<|cy a8,vh (i:=k) (j:=b) _ _<|cy a6,vh (i:=j) (j:=b) _ _<|cy a5]
 rw[this];exact g
theorem YZ{o a:ag}{n:N}{p d:aE}{P:nA->al->Prop}{E:ab->al->Prop}(l:jr a (V<|.Attribute o n p) d.line c=bv aq)(h:av (ax T.b T.a) A (ca a c) (λw f=>av (ax T.b T.a) A (ca o c) (λb g=>av (ax T.b T.a) A (setAttr b n w) (λz=>P .next) E g) E f) E s):av (ax T.b T.a) A (mi (.Assign [.Attribute o n p] a d) c) P E s:=by refine wpAny_Assign_stores (ba h (λw f i=>?_) λz z e=>e) l rfl;show av _ _ (iB (.Attribute o n p) c w) _ _ _;rw[arm_assign_Attribute];refine af<|eh<|ba i (λb g j=>?_) λz z e=>e;refine af<|kV<|af<|eh<|ba j (λz m k=>wpAny_release k) λz z e=>e
theorem Za{c6:bl}(C:∀d3 e7 H Q,c6 d3 e7 H Q->kD T d d3 e7 H Q)(b6:aW):∀{A:bo}{c:cl}{f:cD}{g:cm}{r:am}{e:List ah}{H:J}{s:al}{Q:aS}{l:List bw},cL T A d c f g->Ae g b6 l=M->bq T c f e r s.heap->ai T e H s.heap->cA c6 b6 r H Q->he T A c f e s (pB l c) Q:=by
 delta T d c6 b6 at C
 induction b6 with
 |f=>
  ext A c f g r e H s Q l B j k R m;simp only[ou]at m;rcases pt.mp j with j|j;.ext(Ab j)_;exact MK<|dY e H r .a .zc R k rfl m
  .ext(Uv j)_ _;rw[hf];exact wpAny_Pass<|dY e H r .a .zc R k rfl m
 |b a b d8 a4=>ext A c f g r e H s Q l B j k R m;simp only[gG]at m;ext(Uu j)a0 e9 i1 j;simp only[bA]at j;have e5:=d8 B j.1 k R m;rw[hf]at e5;refine wpAny_execs_cons<|ba e5 (λd3 a5 n=>ml n λE D f5 g0 p t d0 c7 x=>?_) λ_ _ o=>o;cases g0 with|a=>cases c7;exact Bs p<|a4 B j.2 d0 t x|c=>cases c7;exact dY E D f5 .c p t d0 rfl x|b v=>ext(c7)h1 n z;subst n;exact dY E D f5 (.b v) p t d0 (ad h1 rfl z) x
 |c c8 o=>ext A c f g r e H s Q l B j k R m;simp only[qY]at m;ext(qz j)_ b0 a9 j(dF j)a1 a2 j;simp only[bA]at j;rw[hf];exact YS C B j.1.1 j.1.2 j.2 k R m
 |l c8 g7 o=>
  ext A c f g r e H s Q l B j k R m;simp only[XN]at m;ext(qz j)_ b0 a9 j(nX j)_ b4 b8 j(nZ j)_ _ j(dF j)a1 a2 j(dF j)a7 a8 j;simp only[bA,bne_iff_ne,ne_eq]at j;ext(@ac j)n c1(@ac n)y d6(@ac y)a3 g5(@ac a3)c5 d5(@ac c5)I w(_:jK B I)d2 G a6(_:jK B w)e4 L b9;rw[hf];have c2:swapsWithSole [.Tuple [.Name a1 a2,.Name a7 a8] b4 b8] b0 a9.line c=bv aq:=show jr b0 (V<|.Tuple [.Name a1 a2,.Name a7 a8] b4 b8) a9.line c=bv aq from tO (λ_ _ _ _=>rfl) (λ_ _ _ _=>rfl) (λ_ _ _ _ _=>rfl);rcases JY (c:=c) (l:=[(a1,a2),(a7,a8)]) (d:=b8) (b:=b4) d6 with b3|b3;.refine Assign_Tuple (cI ((eo C o).a.a B c1 k R m) λv a0 E D a5 p t z x=>?_) c2 b3;exact ba (Al (X:=cZ c f) B.b.a B.a (k.za p) t G a6 (fq G) L b9 (fq L) z x) (λ_ c3 n=>Y n λh y X=>bD y λK P b1=>dY E D h .a ((p.zb<|by simp).za K) P b1 rfl X) λ_ _ o=>o
  .refine Z9 (cI ((eo C o).a.a B c1 k R m) λv a0 E D a5 p t z x=>?_) c2 b3;refine ba (YX (X:=cZ c f) B.b.a B.a d5 (k.za p) t G a6 (fq G) L b9 (fq L) z x) (λg6 c3 w=>ba w (λ_ e6 n=>Y n λh y X=>bD y λK P b1=>dY E D h .a ((p.zb<|by simp).za K) P b1 rfl X) λ_ _ o=>o) λ_ _ o=>o
 |p c8 g7 i0 o=>
  ext A c f g r e H s Q l B j k R m;simp only[XO]at m;ext(qz j)_ b0 a9 j(nX j)_ b4 b8 j(Ur j)_ _ _ j(dF j)a1 a2 j(dF j)a7 a8 j(dF j)b5 e0 j;simp only[bA,bne_iff_ne,ne_eq]at j;ext(@ac j)n c1(@ac n)y d6(@ac y)a3 h6(@ac a3)c5 h7(@ac c5)f0 g5(@ac f0)f1 g4(@ac f1)f2 g3(@ac f2)f3 d5(@ac f3)f4 S(@ac f4)I w(_:jK B I)d2 G a6(_:jK B w)e4 L b9(_:jK B S)h5 c9 e8;rw[hf];have c2:swapsWithSole [.Tuple [.Name a1 a2,.Name a7 a8,.Name b5 e0] b4 b8] b0 a9.line c=bv aq:=show jr b0 (V<|.Tuple [.Name a1 a2,.Name a7 a8,.Name b5 e0] b4 b8) a9.line c=bv aq from tO (λ_ _ _ _=>rfl) (λ_ _ _ _=>rfl) (λ_ _ _ _ _=>rfl);rcases JY (c:=c) (l:=[(a1,a2),(a7,a8),(b5,e0)]) (d:=b8) (b:=b4) d6 with b3|b3;.refine Assign_Tuple (cI ((eo C o).a.a B c1 k R m) λv a0 E D a5 p t z x=>?_) c2 b3;exact ba (YW (X:=cZ c f) B.b.a B.a (k.za p) t G a6 (fq G) L b9 (fq L) c9 e8 (fq c9) z x) (λ_ c3 n=>Y n λh y X=>bD y λK P b1=>dY E D h .a ((p.zb<|by simp).za K) P b1 rfl X) λ_ _ o=>o
  .refine Z9 (cI ((eo C o).a.a B c1 k R m) λv a0 E D a5 p t z x=>?_) c2 b3;refine ba (YY (X:=cZ c f) B.b.a B.a d5 g3 g4 (k.za p) t G a6 (fq G) L b9 (fq L) c9 e8 (fq c9) z x) (λg6 c3 w=>ba w (λ_ e6 n=>Y n λh y X=>bD y λK P b1=>dY E D h .a ((p.zb<|by simp).za K) P b1 rfl X) λ_ _ o=>o) λ_ _ o=>o
 |j b5 c8 o=>ext A c f g r e H s Q l B j k R m;simp only[Bq]at m;ext(qz j)_ b0 a9 j(qx j)_ _ _ j;simp only[bA]at j;ext(@ac j)n d4(@ac n)y S(@ac y)I w;rw[hf];refine wpAny_Assign_Subscript (cI ((eo C o).a.a B d4 k R m) λv a0 E D a5 p t z x=>?_)<|tO (λ_ _ _ _=>rfl) (λ_ _ _ _=>rfl) λ_ _ _ _ _=>rfl;ext(cI:(eo C b5).a.a B w (k.za p) t x)g8 e9 h2 f6 c3 K P d7 X(cI:(eo C c8).a.a B S ((k.za p).za K) P X)h9 i2 i3 h4 e6 e2 f8 g2 g9;refine ba (UT (X:=[]) B.b f8 (d7.za e2.a) g2 ((z.za K.a).za e2.a) g9) (λ_ h0 n=>co n λh3 f7 e3 d1 b2 e1=>?_) λ_ _ o=>o.elim;have b2:=b2.symm;subst b2;have c4:=((p.za K).za e2).za e3;exact dY _ _ r .a (c4.zb<|by simp) d1 (k.za c4) rfl e1
 |h b5 a o=>ext A c f g r e H s Q l B j k R m;simp only[qZ]at m;ext(qz j)_ b0 a9 j(jF j)_ _ _ j;simp only[bA,beq_iff_eq,decide_eq_true_eq]at j;ext(@ac j)n d4(@ac n)y S(@ac y)a3 w;subst a3;rw[hf];refine YZ (tO (λ_ _ _ _=>rfl) (λ_ _ _ _=>rfl) λ_ _ _ _ _=>rfl)<|cI ((eo C o).a.a B d4 k R m) λv a0 E D a5 p t z x=>?_;ext(cI:(eo C b5).a.a B S (k.za p) t x)g8 e9 h2 f6 c3 K P d7 X;refine ba (Va (X:=[]) w P d7 (z.za K.a) X) (λ_ h0 n=>co n λh3 f7 e3 d1 b2 e1=>?_) λ_ _ o=>o.elim;have b2:=b2.symm;subst b2;have c4:=(p.za K).za e3;exact dY _ _ r .a (c4.zb<|by simp) d1 (k.za c4) rfl e1
 |i o=>ext A c f g r e H s Q l B j k R m;simp only[ov]at m;ext(Uw j)_ _ j;simp only[bA]at j;ext(@ac j)I w;revert I;ext(ge w)_ _ _ _ I;rw[hf];refine wpAny_Expr_any (cI ((eo C o).a.a B I k R m) λv a0 E D a5 p t z x=>?_) (YI B.a) rfl;exact dY E D r .a (p.zb<|by simp) t (k.za p) rfl x
 |g b7 a b d8 a4=>ext A c f g r e H s Q l B j k R m;simp only[XP]at m;ext(Ux j)_ _ _ _ j;simp only[bA]at j;ext(@ac j)n S(@ac n)I w;rw[hf];refine wpAny_If<|ba ((eo C b7).b.a B I k R m) (λf9 a5 n=>bk n λE D p t x=>?_) λ_ _ o=>o;cases f9 with|true=>exact Bs (p.zb<|by simp)<|d8 B w (k.za p) t x|false=>exact Bs (p.zb<|by simp)<|a4 B S (k.za p) t x
 |k b7 b a4=>ext A c f g r e H s Q l B j k R m;simp only[XQ]at m;ext(Uy j)_ _ _ j;simp only[bA]at j;rw[hf];exact YV B k R (λe H s r c0 k R q=>(eo C b7).b.a B j.1 k R q) (λe H s r c0 k R q=>a4 B j.2 k R q) m
 |d b7 d9 b a4=>ext A c f g r e H s Q l B j k R m;simp only[ow]at m;ext(Ib j)_ _ _ _ j(dF j)a1 a2 j;simp only[bA]at j;ext(@ac j)n S(@ac n)I w(_:jK B I)d2 G a6;rw[hf];refine Kb (p:=ky b7) B k (jI w c) (λe H s a0 v r c0 k R z q=>?_) (λe H s r c0 k R q=>a4 B S k R q)<|(eo C d9).e.a B w k R m;exact ba (lz (X:=cZ c f) B.a k R G a6 (fq G) z) (λ_ i b6=>ad _ b6 q) λ_ _ o=>o
 |m b7 u d9 b a4=>ext A c f g r e H s Q l B j k R m;simp only[JU]at m;ext(Ib j)_ _ _ _ j(nX j)_ _ _ j(nZ j)_ _ j(dF j)a1 a2 j(dF j)a7 a8 j;simp only[bA,bne_iff_ne,ne_eq]at j;ext(@ac j)n S(@ac n)y w(@ac y)a3 h8(@ac a3)I g1(_:jK B I)d2 G a6(_:jK B g1)e4 L b9;rw[hf];refine Kb (p:=gY b7 u) B k (jI w c) (λe H s a0 v r c0 k R z q=>?_) (λe H s r c0 k R q=>a4 B S k R q)<|(eo C d9).e.a B w k R m;exact Al (X:=cZ c f) B.b.a B.a k R G a6 (fq G) L b9 (fq L) z q
 |e o=>ext A c f g r e H s Q l B j k R m;simp only[Br]at m;ext(Uz j)_ _ j;rw[hf];refine wpAny_Return_some<|cI ((eo C o).a.a B j k R m) λv a0 E D a5 p t z x=>?_;exact dY E D r (.b a0) (p.zb<|by simp) t (k.za p) (ad v rfl z) x
 |n=>ext A c f g r e H s Q l B j k R m;simp only[XR]at m;ext(UA j)_ j;rw[hf];exact wpAny_Continue<|dY e H r .c .zc R k rfl m
 |q=>ext A c f g r e H s Q l B j k R m;exact kg m
end
def Bt:aW:=.b (.c 2<|.j .d<|.c (.b 1)<|.d)<|.b (.c 3<|.k<|.d)<|.b (.c 4<|.q 9 (.b 2) (.d)<|.k<|.d)<|.b (.c 5<|.k<|.d)<|.b (.d 6 (.e (.b 0) dO)<|.b (.c 8<|.f 0)<|.b (.d 9 (.e (.b 6) el)<|.g (.z<|.g (.b 2)<|.b 9) (.b (.c 8<|.h .Add (.b 8)<|.f 1)<|.i<|.o (.g (.b 4)<|.b 9)<|.e (.b 6) cp)<|.f)<|.i<|.o (.b 3)<|.b 8)<|.b (.d 6 (.e (.b 0) dO)<|.g (.u (.i .Eq (.g (.b 3)<|.e (.b 6) cp)<|.f 0)<|.z<|.g (.b 2)<|.e (.b 6) dD) (.b (.j (.b 2) (.e (.b 6) dD)<|.r M)<|.i<|.o (.b 5)<|.e (.b 6) dD)<|.f)<|.b (.c 7<|.f 0)<|.b (.k (.i .Lt (.b 7)<|.j .a<|.c (.b 5)<|.d)<|.b (.d 10 (.g (.b 4)<|.g (.b 5)<|.b 7)<|.b (.j (.b 3) (.b 10)<|.h .Sub (.g (.b 3)<|.b 10)<|.f 1)<|.b (.c 11<|.e (.g (.e (.b 0) dO)<|.b 10) dD)<|.g (.u (.i .Eq (.g (.b 3)<|.b 10)<|.f 0)<|.z<|.g (.b 2)<|.b 11) (.b (.j (.b 2) (.b 11)<|.r M)<|.i<|.o (.b 5)<|.b 11)<|.f)<|.c 7<|.h .Add (.b 7)<|.f 1)<|.e<|.b 2
def Bu:aW:=.e<|.l GR<|.c (.b 0)<|.c (.h .Mult (.k<|.c (.r aq)<|.d)<|.m (.b 0) pU<|.d)<|.d
noncomputable def Bv:aW:=.b (.c 3<|.f 0)<|.b (.d 4 (.b 0)<|.b (.c 3<|.h .BitOr (.b 3)<|.g (.b 2)<|.b 4)<|.g (.z<|.g (.b 1)<|.b 4) (.e<|.n<|.c (.b 3)<|.c (.r aq)<|.d)<|.f)<|.e<|.n<|.c (.b 3)<|.c (.r M)<|.d
def Bw:aW:=.b (.c 1<|.l sK<|.c (.b 0)<|.d)<|.b (.c 2<|.k<|.d)<|.b (.d 3 (.s<|.m (.b 0) pU<|.d)<|.i<|.o (.b 2)<|.D (.m (.b 0) mq<|.c (.b 3)<|.d) (.h .LShift (.f 1)<|.b 3)<|.f 0)<|.b (.c 4<|.r M)<|.b (.k (.b 4)<|.b (.c 4<|.r aq)<|.d 5 (.e (.b 0) dO)<|.b (.c 6<|.h .BitOr (.g (.b 2)<|.e (.b 5) dD)<|.g (.l GS<|.c (.e (.b 5) el)<|.c (.b 1)<|.c (.b 2)<|.d)<|.f 0)<|.g (.i .NotEq (.b 6)<|.g (.b 2)<|.e (.b 5) dD) (.b (.j (.b 2) (.e (.b 5) dD)<|.b 6)<|.c 4<|.r M)<|.f)<|.e<|.b 2
def Bx:aW:=.b (.c 1<|.l sK<|.c (.b 0)<|.d)<|.b (.c 2<|.l GT<|.c (.b 0)<|.d)<|.b (.c 3<|.h .Mult (.k<|.c (.f 0)<|.d)<|.m (.b 0) pU<|.d)<|.b (.c 4<|.r M)<|.b (.k (.b 4)<|.b (.c 4<|.r aq)<|.d 5 (.e (.b 0) dO)<|.b (.c 6<|.g (.b 3)<|.e (.b 5) dD)<|.d 7 (.K<|.e (.b 5) el)<|.b (.g (.m (.b 0) mq<|.c (.b 7)<|.d) (.b (.c 6<|.g (.b 2)<|.b 7)<|.n)<|.f)<|.b (.g (.i .NotEq (.h .BitOr (.g (.b 3)<|.b 7)<|.b 6)<|.g (.b 3)<|.b 7) (.b (.j (.b 3) (.b 7)<|.h .BitOr (.g (.b 3)<|.b 7)<|.b 6)<|.c 4<|.r M)<|.f)<|.c 6<|.D (.g (.b 1)<|.b 7) (.h .BitOr (.b 6)<|.g (.b 2)<|.b 7)<|.g (.b 2)<|.b 7)<|.e<|.b 3
noncomputable def By:aW:=.b (.c 1<|.j .d<|.c (.b 0)<|.d)<|.b (.d 2 (.s<|.j .a<|.c (.b 1)<|.d)<|.d 3 (.s<|.j .a<|.c (.b 1)<|.d)<|.g (.i .Eq (.h .BitAnd (.h .RShift (.g (.b 1)<|.b 3)<|.b 2)<|.f 1)<|.f 1) (.j (.b 1) (.b 3)<|.h .BitOr (.g (.b 1)<|.b 3)<|.g (.b 1)<|.b 2)<|.f)<|.e<|.b 1
noncomputable def Bz:aW:=.b (.c 3<|.j .d<|.c (.b 2)<|.d)<|.b (.c 4<|.h .Mult (.k<|.c (.f 0)<|.d)<|.b 0)<|.b (.c 5<|.h .Add (.b 0)<|.f 1)<|.b (.c 6<|.k<|.d)<|.b (.d 7 (.s<|.b 0)<|.b (.g (.i .NotEq (.g (.b 4)<|.b 7)<|.f 0) (.n)<|.f)<|.b (.i<|.o (.b 6)<|.b 7)<|.b (.j (.b 4) (.b 7)<|.j .a<|.c (.b 6)<|.d)<|.b (.c 8<|.k<|.c (.k<|.c (.b 7)<|.c (.j .a<|.c (.b 6)<|.d)<|.c (.f 0)<|.d)<|.d)<|.k (.b 8)<|.b (.c 9<|.g (.b 8)<|.f<|-1)<|.b (.c 10<|.g (.b 9)<|.f 0)<|.b (.g (.i .Lt (.g (.b 9)<|.f 2)<|.j .a<|.c (.g (.b 1)<|.b 10)<|.d) (.b (.c 11<|.g (.g (.b 1)<|.b 10)<|.g (.b 9)<|.f 2)<|.b (.g (.i .Eq (.g (.b 4)<|.b 11)<|.f 0) (.b (.i<|.o (.b 6)<|.b 11)<|.b (.j (.b 4) (.b 11)<|.j .a<|.c (.b 6)<|.d)<|.b (.i<|.o (.b 8)<|.k<|.c (.b 11)<|.c (.j .a<|.c (.b 6)<|.d)<|.c (.f 0)<|.d)<|.n)<|.f)<|.b (.j (.b 9) (.f 2)<|.h .Add (.g (.b 9)<|.f 2)<|.f 1)<|.b (.g (.i .Lt (.g (.b 4)<|.b 11)<|.g (.b 4)<|.b 10) (.j (.b 4) (.b 10)<|.g (.b 4)<|.b 11)<|.f)<|.b (.j (.b 3) (.b 10)<|.h .BitOr (.g (.b 3)<|.b 10)<|.g (.b 3)<|.b 11)<|.n)<|.f)<|.b (.i<|.J<|.b 8)<|.g (.i .Eq (.g (.b 4)<|.b 10)<|.g (.b 9)<|.f 1) (.b (.c 12<|.f<|-1)<|.k (.i .NotEq (.b 12)<|.b 10)<|.b (.c 12<|.J<|.b 6)<|.b (.j (.b 4) (.b 12)<|.b 5)<|.j (.b 3) (.b 12)<|.g (.b 3)<|.b 10)<|.f)<|.e<|.b 3
def BA:aW:=.b (.h (.b 0) dd<|.b 1)<|.b (.h (.b 0) eE<|.l sK<|.c (.e (.b 1) cR)<|.d)<|.b (.h (.b 0) dE<|.k<|.d)<|.b (.h (.b 0) eU<|.y)<|.b (.i<|.m (.b 0) SA<|.d)<|.b (.h (.b 0) gU<|.k<|.d)<|.b (.h (.b 0) hx<|.k<|.d)<|.b (.i<|.m (.b 0) SB<|.d)<|.b (.h (.b 0) iI<|.q 3 (.e (.b 0) dE) (.d)<|.k<|.d)<|.b (.h (.b 0) ku<|.q 3 (.e (.b 0) dE) (.d)<|.k<|.d)<|.b (.h (.b 0) hy<|.y)<|.b (.i<|.m (.b 0) SC<|.d)<|.b (.c 2<|.j .a<|.c (.e (.b 0) dE)<|.d)<|.b (.h (.b 0) pV<|.l vX<|.c (.b 2)<|.c (.e (.b 0) hx)<|.c (.e (.b 0) gU)<|.d)<|.b (.h (.b 0) pW<|.l vX<|.c (.b 2)<|.c (.e (.b 0) iI)<|.c (.e (.b 0) pV)<|.d)<|.h (.b 0) sB<|.m (.b 0) SD<|.d
def BB:aW:=.b (.c 1<|.e (.e (.b 0) dd) cR)<|.d 2 (.e (.e (.b 0) dd) dP)<|.d 3 (.j .b<|.c (.e (.b 2) ia)<|.d)<|.g (.z<|.m (.b 1) mq<|.c (.b 3)<|.d) (.b (.j (.e (.b 0) eU) (.n<|.c (.e (.b 2) cp)<|.c (.b 3)<|.d)<|.j .a<|.c (.e (.b 0) dE)<|.d)<|.i<|.o (.e (.b 0) dE)<|.n<|.c (.e (.b 2) cp)<|.c (.b 3)<|.d)<|.f
def BC:aW:=.b (.c 1<|.e (.e (.b 0) dd) cR)<|.m 2 3 (.e (.b 0) dE)<|.b (.c 4<|.m (.e (.b 0) dd) lh<|.c (.b 2)<|.c (.b 3)<|.d)<|.b (.c 5<|.f 0)<|.b (.c 6<|.k<|.d)<|.b (.c 7<|.e (.g (.e (.e (.b 0) dd) dP)<|.b 4) ia)<|.b (.d 8 (.j .b<|.c (.b 7)<|.d)<|.g (.m (.b 1) mq<|.c (.b 8)<|.d) (.c 5<|.h .BitOr (.b 5)<|.h .LShift (.f 1)<|.b 8)<|.g (.g (.e (.b 0) eE)<|.b 8) (.i<|.o (.b 6)<|.g (.e (.b 0) eU)<|.n<|.c (.b 4)<|.c (.b 8)<|.d)<|.f)<|.b (.i<|.o (.e (.b 0) gU)<|.b 5)<|.i<|.o (.e (.b 0) hx)<|.b 6
def BD:aW:=.b (.c 1<|.e (.e (.b 0) dd) cR)<|.b (.d 2 (.e (.e (.b 0) dd) dP)<|.d 4 (.e (.b 2) gV)<|.j (.e (.b 0) hy) (.n<|.c (.e (.b 2) cp)<|.c (.b 4)<|.d)<|.k<|.d)<|.d 3 (.s<|.j .a<|.c (.e (.b 0) dE)<|.d)<|.b (.l 5 6<|.g (.e (.b 0) dE)<|.b 3)<|.d 4 (.m (.b 1) sC<|.c (.b 6)<|.d)<|.b (.c 7<|.e (.g (.e (.b 1) dO)<|.b 4) el)<|.b (.c 8<|.m (.b 0) GK<|.c (.b 7)<|.d)<|.b (.c 9<|.b 5)<|.b (.d 10 (.s<|.j .a<|.c (.b 7)<|.d)<|.b (.c 11<|.g (.b 7)<|.b 10)<|.b (.g (.u (.i .GtE (.b 10)<|.b 8)<|.z<|.m (.b 1) mq<|.c (.b 11)<|.d) (.b (.c 12<|.g (.e (.b 0) eU)<|.n<|.c (.b 9)<|.c (.b 11)<|.d)<|.b (.i<|.l mu<|.c (.g (.e (.b 0) iI)<|.b 12)<|.c (.b 3)<|.d)<|.g (.i .Eq (.b 10)<|.f 0) (.i<|.l mu<|.c (.g (.e (.b 0) ku)<|.b 12)<|.c (.b 3)<|.d)<|.f)<|.f)<|.c 9<|.m (.e (.b 0) dd) lh<|.c (.b 9)<|.c (.b 11)<|.d)<|.i<|.l mu<|.c (.g (.e (.b 0) hy)<|.n<|.c (.b 9)<|.c (.b 4)<|.d)<|.c (.b 3)<|.d
def BE:aW:=.b (.c 2<|.j .a<|.c (.b 1)<|.d)<|.b (.k (.u (.i .Gt (.b 2)<|.f 0)<|.g (.e (.b 0) eE)<|.g (.b 1)<|.h .Sub (.b 2)<|.f 1)<|.c 2<|.h .Sub (.b 2)<|.f 1)<|.e<|.j .g<|.c (.h .Sub (.b 2)<|.f 1)<|.c (.f 0)<|.d
def BF:aW:=.b (.c 1<|.y)<|.b (.d 2 (.e (.b 0) hy)<|.b (.c 3<|.f 0)<|.b (.d 4 (.g (.e (.b 0) hy)<|.b 2)<|.c 3<|.h .BitOr (.b 3)<|.g (.e (.b 0) pW)<|.b 4)<|.j (.b 1) (.b 2)<|.b 3)<|.e<|.b 1
noncomputable def BG:aW:=.g (.i .NotIn (.b 1)<|.b 0) (.i<|.o (.b 0)<|.b 1)<|.f
def BH:aW:=.e<|.e (.v hA<|.c (.b 0)<|.d) sB
def BI:aW:=.b (.c 1<|.l GU<|.c (.e (.b 0) cR)<|.d)<|.b (.c 2<|.y)<|.b (.d 3 (.e (.b 0) dP)<|.d 4 (.e (.b 3) gV)<|.j (.b 2) (.n<|.c (.e (.b 3) cp)<|.c (.b 4)<|.d)<|.g (.b 1)<|.e (.g (.e (.e (.b 0) cR) dO)<|.b 4) dD)<|.e<|.b 2
def BJ:aW:=.b (.c 1<|.h .Sub (.h .LShift (.f 1)<|.e (.e (.b 0) cR) eV)<|.f 1)<|.b (.c 2<|.y)<|.b (.d 3 (.e (.b 0) dP)<|.d 4 (.e (.b 3) gV)<|.j (.b 2) (.n<|.c (.e (.b 3) cp)<|.c (.b 4)<|.d)<|.b 1)<|.e<|.b 2
noncomputable def BK:aW:=.b (.c 1<|.k<|.d)<|.b (.c 2<|.f 0)<|.b (.c 3<|.b 0)<|.b (.k (.i .Gt (.b 3)<|.f 0)<|.b (.g (.i .Eq (.h .BitAnd (.b 3)<|.f 1)<|.f 1) (.i<|.o (.b 1)<|.b 2)<|.f)<|.b (.c 3<|.h .RShift (.b 3)<|.f 1)<|.c 2<|.h .Add (.b 2)<|.f 1)<|.e<|.b 1
def BL:aW:=.b (.h (.b 0) cp<|.b 1)<|.b (.h (.b 0) dD<|.b 2)<|.b (.h (.b 0) el<|.b 3)<|.b (.h (.b 0) jy<|.b 4)<|.b (.h (.b 0) kv<|.b 5)<|.b (.h (.b 0) li<|.b 6)<|.h (.b 0) mr<|.b 7
def BM:aW:=.b (.h (.b 0) eF<|.b 1)<|.b (.h (.b 0) eV<|.b 2)<|.b (.h (.b 0) dO<|.b 3)<|.b (.h (.b 0) ib<|.b 4)<|.b (.h (.b 0) iJ<|.b 5)<|.b (.h (.b 0) jz<|.b 6)<|.b (.h (.b 0) ic<|.q 8 (.e (.b 0) eF) (.d)<|.k<|.d)<|.b (.h (.b 0) hz<|.k<|.d)<|.b (.h (.b 0) gw<|.k<|.d)<|.b (.d 7 (.e (.b 0) dO)<|.b (.i<|.o (.g (.e (.b 0) ic)<|.e (.b 7) dD)<|.e (.b 7) cp)<|.b (.i<|.o (.e (.b 0) hz)<|.j .a<|.c (.e (.b 0) gw)<|.d)<|.i<|.M (.e (.b 0) gw)<|.h .Mult (.k<|.c (.e (.b 7) cp)<|.d)<|.h .Add (.j .a<|.c (.e (.b 7) el)<|.d)<|.f 1)<|.h (.b 0) sD<|.j .a<|.c (.e (.b 0) gw)<|.d
def BN:aW:=.e<|.j .a<|.c (.e (.b 0) eF)<|.d
def BO:aW:=.e<|.i .Lt (.b 1)<|.e (.b 0) eV
def BP:aW:=.e<|.D (.i .In (.b 1)<|.e (.b 0) eF) (.w (.e (.b 0) eF)<|.b 1)<|.f<|-1
def BQ:aW:=.e<|.j .d<|.c (.g (.e (.b 0) ic)<|.b 1)<|.d
def BR:aW:=.e<|.h .Add (.g (.e (.b 0) hz)<|.b 1)<|.b 2
def BS:aW:=.e<|.g (.e (.b 0) gw)<|.b 1
def BU:aW:=.e<|.h .Sub (.b 1)<|.g (.e (.b 0) hz)<|.g (.e (.b 0) gw)<|.b 1
def BV:aW:=.b (.c 2<|.e (.g (.e (.b 0) dO)<|.g (.e (.b 0) gw)<|.b 1) el)<|.b (.c 3<|.h .Sub (.b 1)<|.g (.e (.b 0) hz)<|.g (.e (.b 0) gw)<|.b 1)<|.e<|.D (.i .Lt (.b 3)<|.j .a<|.c (.b 2)<|.d) (.g (.b 2)<|.b 3)<|.f<|-1
noncomputable def BW:aW:=.b (.c 2<|.f<|-1)<|.b (.d 3 (.b 0)<|.g (.i .Lt (.b 3)<|.b 1) (.c 2<|.b 3)<|.f)<|.e<|.b 2
def BX:aW:=.b (.c 2<|.k<|.d)<|.b (.m 7 8 (.b 0)<|.b (.g (.t (.i .Eq (.b 7)<|.p<|aF "error")<|.i .In (.A (.b 7)<|.f 1)<|.n<|.c (.p<|aF "")<|.c (.p<|aF "$")<|.c (.p<|aF "'")<|.d) (.q)<|.f)<|.g (.i .NotIn (.b 7)<|.b 2) (.i<|.o (.b 2)<|.b 7)<|.f)<|.b (.c 3<|.D (.t (.I<|.b 1)<|.i .Eq (.b 2)<|.k<|.d) (.b 1)<|.g (.b 2)<|.f 0)<|.b (.g (.i .NotIn (.b 3)<|.b 2) (.q)<|.f)<|.b (.c 4<|.H)<|.b (.m 7 8 (.b 0)<|.d 9 (.b 8)<|.g (.u (.i .NotIn (.b 9)<|.b 2)<|.i .NotIn (.b 9)<|.b 4) (.i<|.o (.b 4)<|.b 9)<|.f)<|.b (.c 5<|.j .a<|.c (.b 4)<|.d)<|.b (.c 4<|.h .Add (.h .Add (.b 4)<|.k<|.c (.p<|aF "$accept")<|.d)<|.b 2)<|.b (.c 6<|.k<|.c (.v fZ<|.c (.f 0)<|.c (.b 5)<|.c (.n<|.c (.w (.b 4)<|.b 3)<|.c (.x 0)<|.d)<|.c (.x 0)<|.d)<|.d)<|.b (.m 7 8 (.b 0)<|.b (.c 10<|.j .h<|.c (.q 9 (.b 8) (.d)<|.w (.b 4)<|.b 9)<|.d)<|.i<|.o (.b 6)<|.v fZ<|.c (.j .a<|.c (.b 6)<|.d)<|.c (.w (.b 4)<|.b 7)<|.c (.b 10)<|.c (.l wb<|.c (.b 10)<|.c (.b 5)<|.d)<|.d)<|.e<|.v lj<|.c (.b 4)<|.c (.b 5)<|.c (.b 6)<|.c (.E)<|.c (.G)<|.c (.w (.b 4)<|.b 3)<|.d
def BY:aW:=.b (.h (.b 0) cp<|.b 1)<|.b (.h (.b 0) iK<|.b 2)<|.b (.h (.b 0) kw<|.b 3)<|.b (.h (.b 0) iL<|.k<|.d)<|.b (.h (.b 0) ia<|.E)<|.h (.b 0) gV<|.k<|.d
def BZ:aW:=.e<|.N (.e (.b 0) ia) (.b 1)<|.x 1
def Ca:aW:=.b (.h (.b 0) cR<|.b 1)<|.b (.c 2<|.h .Mult (.k<|.c (.f 0)<|.d)<|.m (.b 1) pU<|.d)<|.b (.d 3 (.e (.b 1) dO)<|.g (.i .Gt (.j .a<|.c (.e (.b 3) el)<|.d)<|.f 0) (.j (.b 2) (.e (.b 3) dD)<|.h .BitOr (.g (.b 2)<|.e (.b 3) dD)<|.h .LShift (.f 1)<|.g (.e (.b 3) el)<|.f 0)<|.f)<|.h (.b 0) pX<|.l GV<|.c (.b 2)<|.d
def Cb:aW:=.b (.c 2<|.f 0)<|.b (.d 3 (.b 1)<|.b (.c 4<|.m (.e (.b 0) cR) sE<|.c (.b 3)<|.d)<|.g (.i .GtE (.b 4)<|.f 0) (.c 2<|.h .BitOr (.h .BitOr (.b 2)<|.h .LShift (.f 1)<|.b 4)<|.g (.e (.b 0) pX)<|.b 4)<|.f)<|.e<|.b 2
def Cc:aW:=.b (.c 2<|.k<|.d)<|.b (.d 3 (.l GW<|.c (.m (.b 0) GL<|.c (.b 1)<|.d)<|.d)<|.d 4 (.m (.e (.b 0) cR) sC<|.c (.b 3)<|.d)<|.b (.c 5<|.m (.e (.b 0) cR) sF<|.c (.b 4)<|.c (.f 0)<|.d)<|.g (.i .NotIn (.b 5)<|.b 1) (.i<|.o (.b 2)<|.b 5)<|.f)<|.e<|.j .b<|.c (.b 2)<|.d
def Cd:aW:=.e<|.h .Add (.j .b<|.c (.b 1)<|.d)<|.m (.b 0) GM<|.c (.b 1)<|.d
def Ce:aW:=.e<|.m (.b 0) sF<|.c (.m (.b 0) sG<|.c (.b 1)<|.d)<|.c (.h .Add (.m (.b 0) GN<|.c (.b 1)<|.d)<|.f 1)<|.d
def Cf:aW:=.b (.c 2<|.E)<|.b (.d 3 (.b 1)<|.b (.c 5<|.m (.b 0) sE<|.c (.b 3)<|.d)<|.g (.i .GtE (.b 5)<|.f 0) (.b (.g (.i .NotIn (.b 5)<|.b 2) (.j (.b 2) (.b 5)<|.k<|.d)<|.f)<|.i<|.o (.g (.b 2)<|.b 5)<|.l Hh<|.c (.b 0)<|.c (.b 3)<|.d)<|.f)<|.b (.c 4<|.E)<|.b (.d 5 (.j .b<|.c (.b 2)<|.d)<|.j (.b 4) (.b 5)<|.j .h<|.c (.j .b<|.c (.g (.b 2)<|.b 5)<|.d)<|.d)<|.e<|.b 4
def Cg:aW:=.b (.c 2<|.k<|.d)<|.b (.d 3 (.b 1)<|.g (.u (.i .Lt (.m (.b 0) sE<|.c (.b 3)<|.d)<|.f 0)<|.i .NotEq (.m (.b 0) sG<|.c (.b 3)<|.d)<|.f 0) (.i<|.o (.b 2)<|.m (.b 0) sG<|.c (.b 3)<|.d)<|.f)<|.e<|.j .b<|.c (.b 2)<|.d
def Ch:aW:=.b (.h (.b 0) cR<|.b 1)<|.h (.b 0) dP<|.b 2
def Ci:aW:=.e<|.m (.g (.e (.b 0) dP)<|.b 1) lh<|.c (.b 2)<|.d
def Zb:aW:=.b (.c 3<|.b 1)<|.b (.d 4 (.b 2)<|.b (.g (.i .Eq (.b 3)<|.x 1) (.e<|.x 1)<|.f)<|.c 3<|.m (.b 0) lh<|.c (.b 3)<|.c (.b 4)<|.d)<|.e<|.b 3
def Cj:aW:=.b (.h (.b 0) cR<|.b 1)<|.b (.h (.b 0) ms<|.v sI<|.c (.b 1)<|.d)<|.b (.h (.b 0) dP<|.k<|.d)<|.h (.b 0) mt<|.y
def Ck:aW:=.b (.g (.i .NotIn (.b 1)<|.e (.b 0) mt) (.b (.j (.e (.b 0) mt) (.b 1)<|.j .a<|.c (.e (.b 0) dP)<|.d)<|.i<|.o (.e (.b 0) dP)<|.v sH<|.c (.j .a<|.c (.e (.b 0) dP)<|.d)<|.c (.b 1)<|.c (.b 2)<|.d)<|.f)<|.e<|.g (.e (.b 0) mt)<|.b 1
def Cl:aW:=.b (.h (.b 1) iL<|.m (.e (.b 0) ms) GO<|.c (.e (.b 1) iK)<|.d)<|.b (.h (.b 1) gV<|.l Hj<|.c (.e (.b 0) cR)<|.c (.e (.b 1) iL)<|.d)<|.b (.c 2<|.l Hi<|.c (.e (.b 0) cR)<|.c (.e (.b 1) iL)<|.d)<|.d 3 (.b 2)<|.j (.e (.b 1) ia) (.b 3)<|.m (.b 0) vV<|.c (.g (.b 2)<|.b 3)<|.c (.b 3)<|.d
def Cm:aW:=.b (.i<|.m (.b 0) vV<|.c (.n<|.c (.m (.e (.b 0) cR) sF<|.c (.f 0)<|.c (.f 0)<|.d)<|.d)<|.c (.x 1)<|.d)<|.b (.c 1<|.f 0)<|.b (.k (.i .Lt (.b 1)<|.j .a<|.c (.e (.b 0) dP)<|.d)<|.b (.i<|.m (.b 0) GP<|.c (.g (.e (.b 0) dP)<|.b 1)<|.d)<|.c 1<|.h .Add (.b 1)<|.f 1)<|.e<|.v sJ<|.c (.e (.b 0) cR)<|.c (.e (.b 0) dP)<|.d
def Cn:aW:=.e<|.m (.v vW<|.c (.b 0)<|.d) GQ<|.d
noncomputable def Co:aW:=.e<|.k<|.c (.q 1 (.A (.b 0)<|.f 63) (.d)<|.h .Add (.h .Mult (.f 2)<|.j .f<|.c (.j .c<|.c (.b 1)<|.d)<|.d)<|.j .c<|.c (.i .Lt (.b 1)<|.f 0)<|.d)<|.c (.f 0)<|.c (.f 0)<|.d
noncomputable def rb:aW:=.b (.j (.b 0) (.f 1)<|.h .Add (.g (.b 0)<|.f 1)<|.f 1)<|.b (.g (.u (.i .Eq (.g (.b 0)<|.f 2)<|.f 0)<|.i .NotEq (.g (.b 0)<|.f 0)<|.k<|.d) (.j (.b 0) (.f 2)<|.L<|.g (.b 0)<|.f 0)<|.f)<|.b (.c 2<|.h .Mod (.j .c<|.c (.g (.b 0)<|.f 2)<|.d)<|.b 1)<|.b (.j (.b 0) (.f 2)<|.h .FloorDiv (.j .c<|.c (.g (.b 0)<|.f 2)<|.d)<|.b 1)<|.e<|.h .Mod (.h .Add (.b 2)<|.g (.b 0)<|.f 1)<|.b 1
def Cp:aW:=.e<|.g (.b 1)<|.l Ho<|.c (.b 0)<|.c (.j .a<|.c (.b 1)<|.d)<|.d
def Cq:aW:=.b (.c 1<|.A (.k<|.c (.p<|aF "S")<|.c (.p<|aF "T")<|.c (.p<|aF "U")<|.d)<|.l gx<|.c (.b 0)<|.c (.k<|.c (.f 2)<|.c (.f 1)<|.c (.f 2)<|.c (.f 3)<|.d)<|.d)<|.b (.c 2<|.k<|.d)<|.b (.d 3 (.b 1)<|.i<|.o (.b 2)<|.n<|.c (.b 3)<|.c (.q 6 (.s<|.l gx<|.c (.b 0)<|.c (.k<|.c (.f 1)<|.c (.f 0)<|.c (.f 2)<|.c (.f 1)<|.d)<|.d) (.d)<|.l gx<|.c (.b 0)<|.c (.k<|.c (.p<|aF "a")<|.c (.p<|aF "b")<|.c (.p<|aF "c")<|.d)<|.d)<|.d)<|.b (.d 4 (.s<|.j .g<|.c (.f 1)<|.c (.h .Sub (.f 5)<|.j .a<|.c (.b 1)<|.d)<|.d)<|.b (.l 3 5<|.n<|.c (.l gx<|.c (.b 0)<|.c (.b 1)<|.d)<|.c (.l gx<|.c (.b 0)<|.c (.k<|.c (.f 2)<|.c (.f 3)<|.c (.f 1)<|.c (.f 2)<|.d)<|.d)<|.d)<|.i<|.o (.b 2)<|.n<|.c (.b 3)<|.c (.q 6 (.s<|.b 5) (.d)<|.l gx<|.c (.b 0)<|.c (.h .Add (.h .Add (.k<|.c (.p<|aF "a")<|.c (.p<|aF "b")<|.d)<|.b 1)<|.b 1)<|.d)<|.d)<|.e<|.b 2
noncomputable def Cr:aW:=.b (.l 1 2<|.n<|.c (.k<|.d)<|.c (.f<|-1)<|.d)<|.b (.k (.i .Lt (.b 2)<|.j .a<|.c (.b 1)<|.d)<|.b (.c 2<|.j .a<|.c (.b 1)<|.d)<|.c 1<|.j .e<|.c (.h .Add (.b 1)<|.B 3 4 (.b 0) (.i .Eq (.q 5 (.b 4) (.i .NotIn (.b 5)<|.b 1)<|.b 5)<|.k<|.d)<|.b 3)<|.d)<|.e<|.b 1
noncomputable def Cs:aW:=.b (.c 2<|.k<|.d)<|.b (.d 3 (.b 0)<|.b (.c 2<|.h .Add (.b 2)<|.k<|.c (.b 3)<|.d)<|.g (.i .NotIn (.b 3)<|.b 1) (.e<|.n<|.c (.b 2)<|.c (.r aq)<|.d)<|.f)<|.e<|.n<|.c (.b 2)<|.c (.r M)<|.d
def Ct:aW:=.b (.l 4 5<|.n<|.c (.g (.l pY<|.c (.b 1)<|.c (.b 2)<|.d)<|.f 0)<|.c (.f 0)<|.d)<|.b (.c 3<|.B 6 7 (.b 0) (.d)<|.b 6)<|.b (.k (.i .Lt (.b 5)<|.j .a<|.c (.b 4)<|.d)<|.b (.m 6 7 (.b 0)<|.g (.i .Eq (.b 6)<|.g (.b 4)<|.b 5) (.c 4<|.h .Add (.b 4)<|.q 9 (.g (.l pY<|.c (.b 7)<|.c (.b 2)<|.d)<|.f 0) (.i .NotIn (.b 9)<|.b 4)<|.b 9)<|.f)<|.c 5<|.h .Add (.b 5)<|.f 1)<|.e<|.j .e<|.c (.q 8 (.b 4) (.i .NotIn (.b 8)<|.b 3)<|.b 8)<|.d
def Cu:aW:=.b (.p 3 4 5<|.n<|.c (.k<|.c (.b 1)<|.d)<|.c (.f 0)<|.c (.k<|.d)<|.d)<|.b (.k (.i .Lt (.b 4)<|.j .a<|.c (.b 3)<|.d)<|.b (.g (.i .Eq (.g (.b 3)<|.b 4)<|.p<|aF "S") (.c 5<|.h .Add (.b 5)<|.k<|.c (.p<|aF "$end")<|.d)<|.f)<|.b (.m 6 7 (.b 0)<|.d 8 (.s<|.j .a<|.c (.b 7)<|.d)<|.g (.i .Eq (.g (.b 7)<|.b 8)<|.g (.b 3)<|.b 4) (.b (.c 5<|.h .Add (.b 5)<|.l wg<|.c (.b 0)<|.c (.F (.b 7)<|.h .Add (.b 8)<|.f 1)<|.c (.b 2)<|.d)<|.g (.u (.g (.l pY<|.c (.F (.b 7)<|.h .Add (.b 8)<|.f 1)<|.c (.b 2)<|.d)<|.f 1)<|.i .NotIn (.b 6)<|.b 3) (.c 3<|.h .Add (.b 3)<|.k<|.c (.b 6)<|.d)<|.f)<|.f)<|.c 4<|.h .Add (.b 4)<|.f 1)<|.e<|.j .e<|.c (.b 5)<|.d
def Cv:aW:=.b (.c 1<|.l wd<|.c (.b 0)<|.d)<|.b (.c 2<|.l we<|.c (.b 1)<|.d)<|.b (.c 3<|.l iN<|.c (.B 15 16 (.b 2) (.d)<|.n<|.c (.b 15)<|.c (.j .d<|.c (.b 16)<|.d)<|.d)<|.d)<|.b (.l 6 7<|.n<|.c (.l wc<|.c (.b 3)<|.d)<|.c (.l wf<|.c (.b 2)<|.d)<|.d)<|.b (.l 8 9<|.n<|.c (.y)<|.c (.h .Sub (.h .Pow (.f 2)<|.e (.b 3) eV)<|.f 1)<|.d)<|.b (.d 4 (.e (.b 6) dP)<|.d 10 (.e (.b 4) gV)<|.b (.c 14<|.l wh<|.c (.b 2)<|.c (.g (.g (.b 2)<|.h .Sub (.b 10)<|.f 1)<|.f 0)<|.c (.b 7)<|.d)<|.j (.b 8) (.n<|.c (.e (.b 4) cp)<|.c (.b 10)<|.d)<|.j .i<|.c (.q 17 (.b 14) (.d)<|.h .Pow (.f 2)<|.m (.b 3) cp<|.c (.b 17)<|.d)<|.d)<|.b (.p 11 12 13<|.n<|.c (.l vZ<|.c (.b 6)<|.d)<|.c (.l wa<|.c (.b 6)<|.d)<|.c (.l vY<|.c (.b 6)<|.d)<|.d)<|.b (.g (.t (.i .NotEq (.b 11)<|.b 8)<|.t (.i .NotEq (.b 12)<|.j .j<|.c (.q 5 (.b 8) (.d)<|.n<|.c (.b 5)<|.c (.b 9)<|.d)<|.d)<|.i .NotEq (.j .b<|.c (.b 13)<|.d)<|.j .b<|.c (.b 8)<|.d) (.e<|.r aq)<|.f)<|.b (.d 5 (.b 8)<|.g (.t (.i .NotEq (.h .BitOr (.g (.b 13)<|.b 5)<|.g (.b 8)<|.b 5)<|.g (.b 8)<|.b 5)<|.t (.i .Eq (.g (.b 13)<|.b 5)<|.f 0)<|.i .NotEq (.h .BitOr (.g (.b 8)<|.b 5)<|.b 9)<|.b 9) (.e<|.r aq)<|.f)<|.e<|.i .Gt (.j .a<|.c (.b 8)<|.d)<|.f 0
def Zc:List aW:=[Bt,Bu,Bv,Bw,Bx,By,Bz,BA,BB,BC,BD,BE,BF,BG,BH,BI,BJ,BK,BL,BM,BN,BO,BP,BQ,BR,BS,BU,BV,BW,BX,BY,BZ,Ca,Cb,Cc,Cd,Ce,Cf,Cg,Ch,Ci,Zb,Cj,Ck,Cl,Cm,Cn,Co,rb,Cp,Cq,Cr,Cs,Ct,Cu,Cv]
def mW(f:Nat):aW:=Zc.getD f .f
noncomputable def Kc:List<|List String:=[["grammar","known","found","lacking","users","queue","rule","at","missing","symbol","number","left"],["grammar"],["symbols","nullables","firsts","mask","symbol"],["grammar","nullables","firsts","symbol","is_grown","rule","mask"],["grammar","nullables","firsts","follows","is_grown","rule","behind","symbol"],["rows","found","middle","one"],["count","relation","masks","result","heights","done","pile","start","frames","frame","x","y","last"],["self","automaton","count","x"],["self","grammar","state","symbol"],["self","grammar","state","symbol","goal","mask","row","moves","later"],["self","grammar","state","x","rule","first","left","right","ends","at","spot","symbol","inner"],["self","right","spot"],["self","masks","pair","mask","x"],["row","number"],["automaton"],["automaton","follows","masks","state","rule"],["automaton","every","masks","state","rule"],["mask","found","at","left"],["self","number","left","right","level_of","action","line","before"],["self","names","terminal_count","rules","levels","expect","start","rule","name"],["self"],["self","symbol"],["self","name"],["self","symbol"],["self","rule","dot"],["self","item"],["self","item"],["self","item","right","dot"],["right","terminal_count","found","symbol"],["pairs","start","lefts","begin","names","count","rules","left","parts","name","right"],["self","number","kernel","symbol"],["self","symbol"],["self","grammar","rows","rule"],["self","kernel","mask","item","symbol"],["self","kernel","found","symbol","number","item"],["self","kernel"],["grammar","item"],["grammar","items","found","item","ordered","symbol"],["grammar","items","found","item"],["self","grammar","states"],["self","state","symbol"],["self","state","symbols","here","symbol"],["self","grammar"],["self","kernel","symbol"],["self","state","behind","symbol"],["self","at"],["grammar"],["script","cell"],["pen","many","digit"],["pen","some"],["pen","names","pairs","name","turn","many","spot"],["pairs","found","known","name","parts","part"],["parts","empty","found","part"],["pairs","parts","empty","lefts","line","at","name","body","part","one"],["pairs","name","empty","line","at","found","left","parts","spot"],["script","pen","pairs","grammar","state","key","machine","empty","due","every","rule","simple","plain","middle","signs","name","parts","sign"]]
def hH(f:Nat):List N:=(Kc.getD f []).map aF
noncomputable def Zd:List Nat:=[2,1,3,1,1,1,3,2,1,1,1,2,1,2,1,1,1,1,8,7,1,2,2,2,3,2,2,2,2,2,4,2,2,2,2,2,2,2,2,3,3,3,2,3,2,1,1,1,2,2,1,1,2,3,3,1]
def mX(Q:au):aS:=λa w H=>match a with|.b v=>Q v H|.a=>Q .e H|.c=>False
def ft(f:Nat):List O:=if f=iM then[.e,.b 0,.b 0]else if f=iN then[.e]else[]
def rc(f:Nat):Nat:=(Kc.getD f []).length
def gH(f:Nat):Nat:=Zd.getD f 0
def iV(f:Nat)(a:List O):am:=(a++ft f).map V++ck (rc f-(a++ft f).length) U
def Ze(f:Nat)(a:List O):Prop:=a.length+(ft f).length=gH f
noncomputable def aY:Nat->bl|0=>λw w w w=>False|d+1=>λf a H Q=>Ze f a/\f<fk/\cA (aY d) (mW f) (iV f a) H (mX Q)
theorem Kd{g:O->am->J->(am->Prop)->Prop}{i:am->J->aS->Prop}{f:J->Prop}{Q:aS}(I:Nat->am->J->Prop):∀(c:List O)(n:Nat)(r:am)(H:J),I n r H->(∀k x r H,n<=k->c[k-n]?=V x->I k r H->f H/\∀K:aS,(∀b a,I (k+1) b a->K .a b a/\K .c b a)->(∀v b a,Q (.b v) b a->K (.b v) b a)->g x r H λs=>i s H K)->(∀r H,I (n+c.length) r H->f H/\Q .a r H)->ig g i f c r H Q:=by ext c;induction c with|nil=>exactλn r H h w e=>e _ _ h|cons x c q=>ext n r H h l e(ac:l n x r H (aO _) (by simp) h)m o;refine⟨m,o _ (λb a h=>?_) λv b a h=>h⟩;have:=q (n+1) b a h (λk y r H j p d=>l k y r H (by exact an 1 0 0 0 j rfl) (by rw[show k-n=(k-(n+1))+1 by exact Gb j];simpa using p) d) λr H d=>e r H (by rw[pi,show n+(c.length+1)=n+1+c.length by exact sy];exact d);exact⟨this,this⟩
theorem Zf{g:am->J->(Bool->J->Prop)->Prop}{d:am->J->aS->Prop}{Q:aS}(I:Nat->am->J->Prop)(o:∀n r H,I n r H->∀K:aS,(∀m c a,m<n->I m c a->K .a c a/\K .c c a)->(∀v c a,Q (.b v) c a->K (.b v) c a)->g r H λb i=>if b then d r i K else Q .a r i){n:Nat}{r:am}{H:J}(h:I n r H):∃f,kA g d f r H Q:=by
 refine⟨n+1,?_⟩;have:∀(f n:Nat)r H,n<f->I n r H->kA g d f r H Q:=by ext f;induction f with|zero=>ext n r H e;exact absurd e<|dW _|succ f p=>ext n r H e k;refine o n r H k _ (λm c a l j=>?_) λv c a h=>h;have:=p m c a (by exact aA 1 0 1 1 1 0 l e rfl) j;exact⟨this,this⟩
 exact this _ _ _ _ (mc n) h
def oz(a:List<|N×fV)(f:Nat):List<|Option N:=(hH f).map λn=>if(a.lookup n==V .local||a.lookup n==V .cell)=M then V n else U
def lI(a:List<|N×fV)(b:List<|N×ah)(f:Nat):cD:=(hH f).map λn=>if(a.lookup n==V .local)=M then V (n,U)else if(a.lookup n==V .cell)=M then(b.lookup n).map λc=>(n,V c)else U
def ep(f:Nat):List N:=(hH f).take<|gH f
structure Ke(T:bf)(p:Nat)(m:nB)(t:List bw):Prop where
 b:∃v w x,T.d.lookup (T.f p)=V ⟨v,w,.func m,x⟩
 c:m.body=.stmts t
 d:Ae ⟨m.scope.names,oz m.scope.names p⟩ (mW p) t=M
 e:m.closure=[]
 f:codeIn T.d m.code m.qualname=M
 g:m.scope.isCoroutine=aq
 h:m.scope.isGenerator=aq
 a:m.scope.kind=.function
 i:m.globals=gl
 j:m.builtins=rI
 k:∀n∈ep p,m.scope.names.lookup n=V .local\/m.scope.names.lookup n=V .cell
 l:∀(q:List ab)(s:al),(∀r o,T.c.get? r=V o->s.heap.get? r=V o)->q.length+(ft p).length=gH p->∃u,aQ (ae []) (ft p) u/\BindsTo s m ⟨q,[]⟩ ((ep p).zip<|q++u)
def Kf(T:bf):Prop:=∀f,f<fk->∃b a,Ke T f b a
theorem Cw:∀f,f<fk->(hH f).Nodup:=by decide+kernel
theorem Zg:∀f,f<fk->∀n∈hH f,(n==("__debug__":N))=aq/\(n==("__classdict__":N))=aq:=by decide+kernel
theorem Kg:∀f,f<fk->(hH f).length=rc f/\gH f<=rc f:=by decide+kernel
theorem Zh{c:N->Option fV}{n:N}:∀(a:List<|N×ab)(m:N->Option ab),(∀v,(n,v)∉a)->bindL c a m n=m n
 |[],m,_=>rfl
 |(k,v)::r,m,h=>by
  unfold bindL;rw[Zh r _ λv b=>h v<|.tail _ b];split;.have:n≠k:=λe=>h v (by rw[e];exact .head _);simp[this]
  .rfl
theorem Zi{d:N->Option fV}{n:N}{v:ab}(c:d n=V .local):∀(a:List<|N×ab)(m:N->Option ab),(a.map (·.1)).Nodup->(n,v)∈a->bindL d a m n=V v
 |[],m,_,h=>nomatch h
 |(k,w)::r,m,b,h=>by
  simp only[dm,gR]at b;unfold bindL;rcases bM.mp h with e|h;.cases e;rw[Zh r _ λv f=>b.1<|jo (f:=(·.1)) f,if_pos c];simp
  .exact Zi c r _ b.2 h
theorem Zj{c:N->Option fV}{n:N}:∀(a:List<|N×ab)(m:N->Option ab),(∀v,(n,v)∉a)->bindC c a m n=m n
 |[],m,_=>rfl
 |(k,v)::r,m,h=>by
  unfold bindC;rw[Zj r _ λv b=>h v<|.tail _ b];split;.rfl
  .have:n≠k:=λe=>h v (by rw[e];exact .head _);simp[this]
theorem Zk{d:N->Option fV}{n:N}{v:ab}(c:d n≠V .local):∀(a:List<|N×ab)(m:N->Option ab),(a.map (·.1)).Nodup->(n,v)∈a->bindC d a m n=V v
 |[],m,_,h=>nomatch h
 |(k,w)::r,m,b,h=>by
  simp only[dm,gR]at b;unfold bindC;rcases bM.mp h with e|h;.cases e;rw[Zj r _ λv f=>b.1<|jo (f:=(·.1)) f,if_neg c];simp
  .exact Zk c r _ b.2 h
theorem bg.zj{X f d:List ah}{c s:al}(x:bg X f c d s)(g:∀a∈X,c.heap.get? a=U):bg [] f c d s:=⟨x.a,x.d,λb o e h w=>x.b b o e h λq=>by rw[g b q]at e;exact cn e,x.c,x.e⟩
theorem Zl{f:Nat}{a:List ab}(h:a.length=gH f)(b:gH f<=(hH f).length):((ep f).zip a).map (·.1)=ep f:=by rw[List.map_fst_zip];unfold ep;rw[km];exact aj (hP _ _)<|ar h
theorem Zm{b:List<|N×fV}{d:List<|N×ah}{f i:Nat}{n:N}{c:Option ah}(h:(lI b d f)[i]?=V (V (n,c))):(hH f)[i]?=V n/\((b.lookup n=V .local/\c=U)\/(b.lookup n=V .cell/\∃a,c=V a/\d.lookup n=V a)):=by
 delta b d f i n c;ext h;unfold lI at h;rw[dN]at h;ext(_:jn.mp h)m k e;by_cases g:(b.lookup m==V .local)=M;.rw[if_pos g]at e;cases e;exact⟨k,.inl ⟨cV g,rfl⟩⟩
 .rw[if_neg g]at e;by_cases j:(b.lookup m==V .cell)=M;.rw[if_pos j]at e;ext(_:jn.mp e)a l e;cases e;exact⟨k,.inr ⟨cV j,ad a rfl l⟩⟩
  .rw[if_neg j]at e;exact cn e
theorem Zn{X:List ah}{s a:al}(h:∃c d,a={s with heap:=c,toks:=d})(k:∀b o,s.heap.get? b=V o->a.heap.get? b=V o):bg [] X s X a:=hu h λc d e=>⟨eg _,by rw[e];exact⟨rfl,rfl⟩,λb o e w w=>k b o e,λb o e=>⟨o,k b o e⟩,λw h=>.inl h⟩
theorem Zo{f i:Nat}{b:List O}{d:List ab}{X:List ah}{n:N}{x:O}(j:d.length=gH f)(g:aQ (ae X) (b++ft f) d)(h:(hH f)[i]?=V n)(a:(iV f b)[i]?.join=V x):∃v,(n,v)∈(ep f).zip d/\ae X x v:=by
 delta f i b d X n x;ext j g h a;unfold iV at a;by_cases c:i<(b++ft f).length;.rw[gQ<|by simpa using c,dN]at a;refine aD (⟨_,cu c⟩:∃y,(b++ft f)[i]?=V y) λy k=>?_;rw[k]at a;simp at a;subst a;ext(_:g.zh k)v m l;refine ad v (bs (i:=i) ?_) l;rw[List.getElem?_zip_eq_some];refine⟨?_,m⟩;unfold ep;rw[pv,if_pos<|by rw[<-j,<-g.za];exact c];exact h
 .rw[ev<|by simp at c⊢;exact c]at a;cases e:(ck (rc f-(b++ft f).length) (U:Option O))[i-(md V<|b++ft f).length]? with|none=>rw[e]at a;cases a|some y=>rw[e]at a;have:=bs e;rw[List.mem_replicate]at this;rw[this.2]at a;cases a
section
variable{T:bf}
theorem Zp(a9:Kf T):∀(d f:Nat)(p:List O)(H:J)(Q:au),aY d f p H Q->kD T (2*d) f p H Q:=by
 delta T;ext a9 d
 induction d with
 |zero=>ext f p H Q h;exact kg h
 |succ d e7=>
  intro f p H Q⟨b6,E,d8⟩a8 y s B b3 R c3 _;ext(hu:a9 f E)b g4 X(Nd:X.b)g7 g8 g9 e5;have b8:=c3.za;ext(_:X.l B s R.b (b8▸b6))C b5 d9;have e1:=b5.za;ext(ac:Kg f E)c8 f8;have c2:(B++C).length=gH f:=by rw[hR,<-e1,<-b8];exact b6
  have a3:=Zl (a:=B++C) c2 (by exact aj f8<|ar c8);have b9:(ep f).Nodup:=(Cw f E).sublist<|fW _ _;have b4:aQ (ae y) (p++ft f)<|B++C:=by exact c3.zf<|b5.ze λ_ _ h=>h.za<|List.nil_prefix
  have b2:∀n,b.scope.names.lookup n=V .cell->((cellsFrom (s.heap.objs.size+1) b.scope.names []).lookup n).isSome=M:=λn h=>cellsFrom_some _ _ _<|.inl h
  have e4:∀x∈(ep f).zip (B++C),b.scope.names.lookup x.1=V .local\/(b.scope.names.lookup x.1=V .cell/\((cellsFrom (s.heap.objs.size+1) b.scope.names []).lookup x.1).isSome=M):=by
   ext x m;have:x.1∈ep f:=by rw[<-a3];exact jo m
   rcases X.k _ this with h|h;.exact .inl h
   .exact .inr ⟨h,b2 _ h⟩
  refine codeAny_call_function b3.zc (R.b _ _<|R.a.a _ _ e5) rfl X.g X.h X.c (codeRec_of R.zb X.f)<|d9 _ _ _ _ ?_;rw[X.e];refine wpAny_newFunctionEnv_cells X.a e4 λg e2 a5 o=>⟨R.zt.keeps o.toInCall.keep,codeAny_func ?_⟩;have A:g=callEnvC b s.heap.objs.size (T.f f):=e2;have G:g.locals=s.heap.objs.size:=by rw[A];rfl
  have e0:g.cells=cellsFrom (s.heap.objs.size+1) b.scope.names []:=by rw[A];rfl
  have c1:g.scope=b.scope:=by rw[A];rfl
  have K:∀n,g.kindOf n=b.scope.names.lookup n:=λn=>by rw[A];rfl
  ext(bD:jG R)f0 f1 f2;have f6:bg [] y s y a5:=Zn o.toInCall.same o.toInCall.keep;have c9:ai T y H a5.heap:=R.zc o.toInCall.keep;let w:cD:=lI b.scope.names g.cells f;have q:∀(i:Nat)n c,w[i]?=V (V (n,c))->(hH f)[i]?=V n/\((b.scope.names.lookup n=V .local/\c=U)\/(b.scope.names.lookup n=V .cell/\∃a,c=V a/\g.cells.lookup n=V a)):=by exactλi n c h=>Zm h
  have f9:∀(i j:Nat)n,(hH f)[i]?=V n->(hH f)[j]?=V n->i=j:=λi j n D S=>wk (Cw f E) D S
  have d3:ih g w:=by
   refine⟨by rw[c1];exact X.a,by rw[A];exact X.i,by rw[A];exact X.j,λi n h=>?_,λi n c h=>?_,λi n c h=>?_,λi j n c c5 d1 h d7 e3=>?_⟩
   .rcases(q i n U h).2 with⟨D,_⟩|⟨_,a,e,_⟩;.rw[K];exact D
    .exact cn e
   .rcases(q i n _ h).2 with⟨_,e⟩|⟨D,a,e,S⟩;.exact gr e
    .have e:=bj e;subst e;exact⟨.inl<|by rw[K];exact D,S⟩
   .exact Zg f E n<|bs (q i n c h).1
   .have z:=q i n c h;have k:=q j c5 d1 d7;have c0:n≠c5:=λe=>by subst e;exact e3<|f9 i j n z.1 k.1
    refine⟨c0,λa e d2=>?_⟩;subst e;subst d2;rcases z.2 with⟨_,e⟩|⟨_,g2,l,e8⟩;.exact gr e
    rcases k.2 with⟨_,e⟩|⟨_,g3,L,e9⟩;.exact gr e
    have l:=bj l;subst l;have L:=bj L;subst L;exact c0<|name_of_addr o.apart (EM e8)<|EM e9
  have d0:cL T (a8.deeper g) (2*d) g w ⟨b.scope.names,oz b.scope.names f⟩:=by
   refine⟨d3,(show dw a8 (2*d+1+1)from b3).zd g,by rw[c1],by simp[w,oz,lI],λi n h=>?_⟩;have h:(oz b.scope.names f)[i]?=V (V n):=h;unfold oz at h;rw[dN]at h;ext(_:jn.mp h)c4 u e;show∃c,(lI b.scope.names g.cells f)[i]?=V (V (n,c));unfold lI;rw[dN,u];by_cases P:(b.scope.names.lookup c4==V .local||b.scope.names.lookup c4==V .cell)=M
   .rw[if_pos P]at e;have e:=bj e;subst e;rcases pt.mp P with l|l;.exact⟨U,congrArg V<|if_pos l⟩
    .ext(aD:Option.isSome_iff_exists.mp (b2 _<|cV l))a r;rw[<-e0]at r;exact⟨V a,congrArg V<|(if_neg<|by rw[cV l];decide).trans<|(if_pos l).trans<|by rw[r];rfl⟩
   .rw[if_neg P]at e;exact cn e
  have c6:∀(i:Nat)n x,(hH f)[i]?=V n->(iV f p)[i]?.join=V x->∃v,(n,v)∈(ep f).zip (B++C)/\ae y x v:=by exactλi n x a1 m=>Zo c2 b4 a1 m
  have d4:bq T g w y (iV f p) a5.heap:=by
   refine⟨?_,ad _ o.toInCall.ns λi n h=>?_,⟨by rw[G];exact f0,by rw[G];exact f1⟩,λi n c h=>?_⟩;.show(lI b.scope.names g.cells f).length<=_;have g6:=b4.za;unfold lI iV;rw[bC,hR,bC,ML,c8];exact Sv
   .ext(ac:q i n U h)z k;rcases k with⟨k,_⟩|⟨_,a,e,_⟩;.cases m:(iV f p)[i]?.join with|none=>trivial|some x=>ext(_:c6 i n x z m)v u a2;exact ad v (Zi (by rw[K];exact k) _ _ (by rw[a3];exact b9) u) a2
    .exact cn e
   .ext(ac:q i n _ h)z k;rcases k with⟨_,e⟩|⟨k,a,e,I⟩;.exact gr e
    .have e:=bj e;subst e;have t:=o.above n c<|EM I;have b7:s.heap.objs.size<=c:=by rw[G]at t;exact gn t
     refine dC (λu=>?_) (λe=>?_) ?_<|ad _ (o.cell n c I) ?_;.ext(aD:R.zn u)f3 e;rw[gX _ b7]at e;exact cn e
     .rw[e]at t;exact absurd t<|np _
     .cases e:T.c.get? c with|none=>rfl|some f3=>have:=R.b _ _ e;rw[gX _ b7]at this;exact cn this
     .cases m:(iV f p)[i]?.join with|none=>trivial|some x=>ext(_:c6 i n x z m)v u a2;exact ad v (Zk (by rw[K,k];decide) _ _ (by rw[a3];exact b9) u) a2
  have d5:∀a∈cZ g w,s.heap.get? a=U:=by
   ext a r;unfold cZ at r;rcases bM.mp r with e|r;.rw[e,G];exact f2
   .ext(_:rY.mp r)x m e(aD:fe m)i a1
    cases x with
    |none=>cases e
    |some x=>
     obtain⟨n,c⟩:=x;simp at e;subst e;rcases(q i n _ a1).2 with⟨_,e⟩|⟨_,g1,e,I⟩;.exact gr e
     .have e:=bj e;subst e;have t:=o.above n a<|EM I;rw[G]at t;exact gX _<|gn t
  have f4:=Za (c6:=aY d) e7 (mW f) d0 X.d d4 c9 d8;refine ba f4 (λg5 f5 a6=>ml a6 λa7 b0 h1 d6 f7 b1 g0 a0 a4=>?_) λ_ _ e=>e.elim;have c7:bg [] y s a7 f5:=((f6.zb (c:=cZ g w)<|by simp).za f7).zj d5;cases d6 with|a=>cases a0;exact bu a7 b0 c7 b1<|ad .e rfl a4|c=>exact kg a4|b v=>ext(a0)h0 a6 e6;subst a6;exact bu a7 b0 c7 b1<|ad v e6 a4
end
theorem Zq{b:List N}{a:List ab}(h:a.length=b.length):∀n∈b,((b.zip a).lookup n).isNone=aq:=by
 induction b generalizing a with
 |nil=>ext n c;cases c
 |cons m r f=>
  cases a with
  |nil=>cases h
  |cons u a=>
   ext n c;rw[aaa,kh]
   cases d:n==m with
   |true=>rfl
   |false=>
    rcases bM.mp c with e|e;.subst e;simp at d
    .exact f (by simpa using h) n e
theorem Zr{b:List N}(i:b.Nodup){a:List ab}(h:a.length=b.length)(c:List<|N×ab)(f:∀n∈b,c.lookup n=U):(b.filterMap λn=>((c++b.zip a).lookup n).map (n,·))=b.zip a:=by
 induction b generalizing a c with
 |nil=>rfl
 |cons m r j=>
  cases a with
  |nil=>cases h
  |cons u a=>
   ext(ac:gR.mp i)k l;have g:(c++(m::r).zip (u::a)).lookup m=V u:=by rw[aab,f m<|.head _];simp
   rw[MM,g];have:=j l (a:=a) (by simpa using h) (c++[(m,u)]) λn d=>by rw[aab,f n<|.tail _ d];have:(n==m)=aq:=beq_eq_false_iff_ne.mpr λe=>k<|e▸d;simp[kh,this]
   rw[fY]at this;simp only[List.singleton_append]at this;rw[aaa];simp only[aac];rw[this]
theorem Zs{a:Type}{c:Bool}{m:List N}{A B:cN a}{z:List<|N×ab}{b:a}{d:List<|N×ab}{i:N×ab->List (N×ab)->cN (ForInStep<|List<|N×ab)}{G:List (N×ab)->cN a}(f:c=aq)(g:m=[])(h:z=[])(e:G d=bv b):(if c=M then A else if(!m.isEmpty)=M then B else forIn z d i>>=G)=bv b:=by subst f;subst g;subst h;exact e
theorem Zt{c:nB}{a:List Arg}{k:List<|Option ag}{g:List ag}(f:c.params=⟨[],a,U,[],k,U,g⟩)(e:c.defaults=.none)(i:(a.map (·.arg)).Nodup){b:List ab}(h:b.length=a.length):bindArgs c ⟨b,[]⟩=bv ((a.map (·.arg)).zip b):=by
 have d:b.length=(a.map (·.arg)).length:=by rw[bC];exact h
 obtain⟨w,z,y,o,A,u,p,t,v,s,x,l,q,r,m⟩:=c;simp only at f e;subst f;subst e;exact Zs (Bool.and_eq_false_iff.mpr<|.inl<|decide_eq_false<|kc.mpr<|kb d) (MN.mpr λn j=>show¬((((a.map (·.arg)).zip b).lookup n).isNone=M)by rw[Zq d n<|kW j];exact cG) ((congrArg _ List.drop_nil).trans List.zip_nil_right)<|show(bv _:cN (List<|N×ab))=bv _ from congrArg bv ((congrArg (List.filterMap _)<|vk _).trans<|Zr i d [] λB B=>rfl)
theorem iW{b:Type}{l:List b}{n:Nat}(h:l.length=n+1):∃a r,l=a::r/\r.length=n:=by cases l with|nil=>exact nomatch h|cons a r=>exact bK a r rfl<|Nat.succ.inj h
theorem tP{a:Type}{l:List a}(h:l.length=0):l=[]:=uY.mp h
theorem Zu{b:nB}{g:List Arg}{u:List<|Option ag}{l:List ag}(j:b.params=⟨[],g,U,[],u,U,l⟩)(i:g.map (·.arg)=ep iN){T:ah}{s:al}{o:cx}{a:Array ab}{n:Nat}(h:b.defaults=.ref T)(p:s.heap.get? T=V o)(q:o.data=.seq a n)(t:a.size=1)(d:List ab)(m:d.length=1):BindsTo s b ⟨d,[]⟩<|(ep iN).zip<|d++a.toList:=by
 obtain⟨a⟩:=a;ext(bp:iW (l:=a) t)B r f c;subst f;have c:=tP c;subst c;have e:ep iN=[aF "pairs",aF "start"]:=by decide+kernel
 rw[e]at i⊢;ext(bp:iW m)Q r f k;subst f;have k:=tP k;subst k;obtain⟨H,L,K,x,P,E,y,D,G,C,I,v,z,A,w⟩:=b;simp only at j h;subst j;refine BindsTo.of_defaults h p q rfl ?_;rw[i];rfl
theorem Zv{c:nB}{g:List Arg}{B:List<|Option ag}{l:List ag}(j:c.params=⟨[],g,U,[],B,U,l⟩)(i:g.map (·.arg)=ep iM){T:ah}{s:al}{o:cx}{b:Array ab}{n:Nat}(h:c.defaults=.ref T)(t:s.heap.get? T=V o)(u:o.data=.seq b n)(v:b.size=4)(f:List ab)(m:f.length=5):BindsTo s c ⟨f,[]⟩<|(ep iM).zip<|f++b.toList.drop 1:=by
 obtain⟨b⟩:=b;ext(bp:iW (l:=b) v)Q a8 a p;subst a;ext(bp:iW p)R C a q;subst a;ext(bp:iW q)S D a r;subst a;ext(bp:iW r)X E a d;subst a;have d:=tP d;subst d;have e:ep iM=["self","number","left","right","level_of","action","line","before"].map aF:=by decide+kernel
 rw[e]at i⊢;ext(bp:iW m)b2 a9 a w;subst a;ext(bp:iW w)b3 C a x;subst a;ext(bp:iW x)b4 D a y;subst a;ext(bp:iW y)b5 E a z;subst a;ext(bp:iW z)b6 b0 a A;subst a;have k:=tP A;subst k;obtain⟨a4,a7,a6,I,b1,a2,K,a1,a3,a0,a5,G,L,P,H⟩:=c;simp only at j h;subst j;refine BindsTo.of_defaults h t u rfl ?_;rw[i];rfl
theorem Cx{a:Type}{p:a->Bool}{x:Option a}(h:x.any p=M):∃y,x=V y/\p y=M:=by cases x with|none=>exact absurd h cG|some y=>exact⟨y,rfl,h⟩
noncomputable def rd(v:ab):kf:=LW (motive:=λw=>kf) v cU cU cU (λw=>cU) (λw t=>t) (λw w=>cU) (λw t=>t) (λw w=>cU) (λw=>cU) (λw=>cU) λw=>cU
def re(k:Array ab->Nat->Bool)(d:sf):Bool:=Data.casesOn (motive:=λw=>Bool) d aq bF k aZ aG aZ bF bF bF bF aq
theorem Kh{k:Array ab->Nat->Bool}{P:sf->Prop}{d:sf}(h:re k d=M)(q:∀v n,k v n=M->P (.seq v n)):P d:=by cases d<;>first|exact q _ _ h|exact absurd h cG
noncomputable def tQ(v:ab):ah:=LW (motive:=λw=>ah) v 0 0 0 (λw=>0) (λw w=>0) (λw w=>0) (λw w=>0) (λw w=>0) (λw=>0) (λw=>0) λa=>a
def Cy(k:nB->Bool)(d:sf):Bool:=Data.casesOn (motive:=λw=>Bool) d aq bF aZ aZ aG aZ bF k bF bF aq
theorem Zw{k:nB->Bool}{P:sf->Prop}{d:sf}(h:Cy k d=M)(q:∀f,k f=M->P (.func f)):P d:=by cases d<;>first|exact q _ h|exact absurd h cG
def Ki(x:O)(v:ab):Bool:=O.casesOn (motive:=λw=>Bool) x (v==.none) bF (λi=>v==.int i (rd v)) bF bF bF
def Kj(b:List O)(a:List ab):Bool:=b.length==a.length&&(b.zip a).all λp=>Ki p.1 p.2
theorem Zx{x:O}{v:ab}(h:Ki x v=M):ae [] x v:=by cases x<;>first|exact cV h|exact⟨_,cV h⟩|exact absurd h cG
theorem Zy{d:List O}{c:List ab}(h:Kj d c=M):aQ (ae []) d c:=by
 ext(ac:dB.mp h)f g;have e:d.length=c.length:=cV f;clear h f
 induction d generalizing c with
 |nil=>cases c with|nil=>exact .b|cons _ _=>exact absurd e<|bh<|LN _
 |cons x d i=>cases c with|nil=>exact absurd e<|DV _|cons v c=>ext(ac:dB.mp g)a b;exact .a (Zx a)<|i b<|Nat.succ.inj e
def Zz(f:Nat)(a:Arguments):Bool:=a.1.isEmpty&&(a.3.isNone&&(a.4.isEmpty&&(a.6.isNone&&a.2.map (·.arg)==ep f)))
def Kk(f:Nat)(a:nB):Bool:=match a.body with|.stmts b=>Ae ⟨a.scope.names,oz a.scope.names f⟩ (mW f) b|_=>aq
def ZA(K:eu)(f:Nat)(v:ab):Bool:=(v==.none&&(ft f).isEmpty)||(v==.ref (tQ v)&&((f==iM||f==iN)&&(K.lookup<|tQ v).any λo=>re (λa w=>a.size==(if f=iM then 4 else 1)&&Kj (ft f) (a.toList.drop<|if f=iM then 1 else 0)) o.data))
def Kl(K:eu)(f:Nat)(a:nB):Bool:=a.closure.isEmpty&&codeIn K a.code a.qualname&&!a.scope.isCoroutine&&!a.scope.isGenerator&&a.scope.kind==.function&&a.globals==gl&&a.builtins==rI&&(ep f).all (λn=>a.scope.names.lookup n==V .local||a.scope.names.lookup n==V .cell)&&Zz f a.params&&ZA K f a.defaults
def Km(K:eu)(f:Nat)(a:ah):Bool:=(K.lookup a).any λo=>Cy (λb=>Kk f b&&Kl K f b) o.data
theorem ZB{a:Arguments}(b:a.1.isEmpty=M)(c:a.3.isNone=M)(d:a.4.isEmpty=M)(e:a.6.isNone=M):a=⟨[],a.2,U,[],a.5,U,a.7⟩:=by obtain⟨f,j,g,h,k,i,l⟩:=a;have b:f=[]:=se.mp b;have c:g=U:=aad.mp c;have d:h=[]:=se.mp d;have e:i=U:=aad.mp e;rw[b,c,d,e]
theorem ZC{T:bf}{f:Nat}(y:T.zc)(p:f<fk)(h:Km T.d f (T.f f)=M):∃b m,Ke T f b m:=by
 delta T f;ext y p h(_:Cx h)o s h;obtain⟨X,a0,n,a1⟩:=o;have h:Cy _ n=M:=h;revert s;ext(Zw h)b h s;simp only[bA]at h;ext(@ac h)k t;unfold Kk at k;split at k
 .rename_i m P;simp only[Kl,bA,EJ,beq_iff_eq,se,eQ,iC]at t;ext(@ac t)z d(@ac z)A a(@ac A)B b3(@ac B)C b2(@ac C)D b1(@ac D)E b0(@ac E)G a9(@ac G)H a8(@ac H)a6 a7;refine gs b m ⟨Fe X a0 a1 s,P,k,a6,a7,a8,a9,b0,b1,b2,b3,?_⟩;ext u c2 L j(ac:dB.mp a)a2 a(ac:dB.mp a)a3 a(ac:dB.mp a)a4 a(ac:dB.mp a)a5 a;have a:=cV a;have i:=ZB a2 a3 a4 a5;generalize b.params.2=I at i a;generalize b.params.5=c0 at i;generalize b.params.7=b9 at i;have R:(ep f).Nodup:=(Cw f p).sublist<|fW _ _;have S:(ep f).length=gH f:=by unfold ep;rw[km];ext(ac:Kg f p)b4 b5;exact NR b4 b5
  have K:I.length=gH f:=by rw[<-S,<-a,bC]
  rcases pt.mp d with d|d;.ext(ac:dB.mp d)g d;have g:b.defaults=.none:=cV g;have Q:=se.mp d;rw[Q]at j⊢;have:=Zt i g (by rw[a];exact R) (b:=u)<|j.trans K.symm;rw[a]at this;refine ad ([]) (by simpa using aQ.b)<|BindsTo.of_eq ?_;rw[vk];exact this
  .ext(ac:dB.mp d)g d;have g:b.defaults=.ref (tQ b.defaults):=cV g;generalize tQ b.defaults=b6 at g d;ext(ac:dB.mp d)q c;have q:f=iM\/f=iN:=(pt.mp q).imp cV cV;ext(_:Cx c)o r c;obtain⟨b7,b8,n,c3⟩:=o;have c:re _ n=M:=c;revert r;ext(Kh c)x c1 c r;have v:=L _ _<|y.a _ _ r;ext(ac:dB.mp c)l c;have l:=cV l;have w:=Zy c;rcases q with e|e;.subst e;exact ad (x.toList.drop 1) w<|Zv i a g v rfl l u<|aae (m:=3) j
   .subst e;exact ad x.toList w<|Zu i a g v rfl l u<|aae (m:=1) j
 .exact absurd k cG
set_option genInjectivity false
noncomputable abbrev mY(x:Option<|Option ab)(b:ah):Bool:=x==V (V<|.ref b)
noncomputable abbrev tR(x:Option<|Option ab):Bool:=x==V U
abbrev Cz(x:Option<|Option ab)(j:Int):Bool:=x==V (V<|.int j<|rd<|x.join.getD .none)
noncomputable abbrev Kn(x:Option<|Option ab)(m:String):Bool:=x==V (V<|.builtin m)
theorem oA{x:Option<|Option ab}{a:ah}(h:mY x a=M):x=V (V<|.ref a):=cV h
theorem CA{x:Option<|Option ab}(h:tR x=M):x=V U:=cV h
theorem Ko{x:Option<|Option ab}{j:Int}(h:Cz x j=M):∃t,x=V (V<|.int j t):=⟨_,cV h⟩
theorem ZD{x:Option<|Option ab}{m:String}(h:Kn x m=M):x=V (V<|.builtin m):=cV h
structure il where
 b:Nat->ah
 a:Nat->ah
 c:ah
def Kp(K:eu)(D:il):Bool:=(cv 56).all λf=>!lg.contains f||mY (pC K gl<|pT f) (D.b f)
noncomputable def Kq(K:eu)(D:il):Bool:=(cv 56).all λf=>rJ K (.ref<|D.b f)&&isFn K (.ref<|D.b f)
def Kr(K:eu)(D:il):Bool:=(cv 7).all λc=>mY (pC K gl<|sA c) (D.a c)&&rJ K (.ref<|D.a c)&&makesIn K (D.a c)&&mY (nq K (.ref<|D.a c) "__init__") (D.b<|lf c)
def Ks(K:eu)(D:il):Bool:=(cv 7).all λc=>plainGet K (D.a c) ""&&hasDictIn K (D.a c)&&plainOver K (D.a c)&&Kn (nq K (.ref<|D.a c) "__setattr__") "object.__setattr__"
def Kt(K:eu)(D:il):Bool:=(cv 7).all λc=>(cv ek).all λa=>match eT c a with|U=>tR (nq K (.ref<|D.a c)<|cY a)&&tR (takerIn K (D.a c)<|cY a)|V f=>aP (f<fk)&&mY (nq K (.ref<|D.a c)<|cY a) (D.b f)
def Ku(K:eu):Bool:=(cv 12).all λb=>tR<|pC K gl<|aF<|mv b
def rf(K:eu)(D:il):Bool:=Cz (pC K gl<|aF "END") 0&&Cz (pC K gl<|aF "NONE") (-1)&&mY (pC K gl<|aF "OWN_TERMINALS") D.c&&(K.lookup D.c).any λo=>o.cls==.type "tuple"&&(o.dict==U&&(o.slots.isEmpty&&re (λa w=>a.toList==[.str (aF "$end")<|rd<|a.toList.getD 0 .none,.str (aF "error")<|rd<|a.toList.getD 1 .none,.str (aF "$undefined")<|rd<|a.toList.getD 2 .none]) o.data))
noncomputable def Kv:ab->Bool|.type c=>c !="list"|_=>M
def Kw(K:eu):Bool:=K.all λp=>Kv p.2.cls
def Kx(K:eu)(D:il):Bool:=(cv 56).all λf=>Km K f<|D.b f
structure rg(K:eu)(D:il):Prop where
 b:Kp K D=M
 c:Kq K D=M
 e:Kr K D=M
 f:Ks K D=M
 d:Kt K D=M
 g:Ku K=M
 a:rf K D=M
 h:Kw K=M
 i:Kx K D=M
theorem ZE{c m f:Nat}:∀{l:List<|Nat×Nat×Nat},vU c m l=V f->(c,m,f)∈l
 |e::r,h=>by
  unfold vU at h;by_cases q:(e.1.beq c&&e.2.1.beq m)=M;.rw[if_pos q]at h;ext(ac:dB.mp q)a b;have a:=aaf a;have b:=aaf b;have h:=bj h;subst h;subst a;subst b;exact .head _
  .rw[if_neg q]at h;exact .tail _<|ZE h
theorem ZF{c m f:Nat}(h:eT c m=V f):c<7/\m<ek:=(show∀e∈GJ,e.1<7/\e.2.1<ek by decide) _<|ZE h
theorem ZG:∀b,b<12->MO (aF<|mv b)=V (hB b):=by ext b a;rcases b with _|_|_|_|_|_|_|_|_|_|_|_|b<;>first|decide+kernel|exact absurd a<|kc.mpr<|DX 12 _
theorem ZH:∀b,b<12->aF (mv b)≠"__name__":=by decide+kernel
theorem ZI:∀f∈lg,f<56:=by decide
theorem Ky{K:eu}{a:ah}{o:cx}(h:K.lookup a=V o):(a,o)∈K:=by induction K with|nil=>cases h|cons p r d=>obtain⟨b,x⟩:=p;rw[kh]at h;cases c:a==b with|true=>rw[c]at h;cases h;rw[cV c];exact .head _|false=>rw[c]at h;exact .tail _<|d h
theorem CB{h:bS}{l a:ah}{m:N->Option ab}{o:cx}(f:h.Ns a m)(j:h.get? l=V o)(i:∀d c,o.data≠.dict d c):(h.hide l).Ns a m:=by
 ext(@la f)k d c b g r;refine hw k d c ?_ g r;rewrite[aag h λe=>?_];.exact b
 .subst e;rw[j]at b;have b:=bj b;subst b;exact i _ _ g
section
variable{K:eu}{D:il}{p:dV}{w:bX}{s:al}{b a:N->Option ab}{l:ah}{o:cx}{c:Array ab}{n:Nat}
noncomputable def Kz(K:eu)(D:il)(p:dV)(w:bX)(s:al)(b a:N->Option ab)(l:ah)(o:cx):bf:={b:=p,a:=w,d:=K,c:=s.heap.hide l,e:=D.a,f:=D.b,g:=b,i:=a,h:=D.c,j:=o}
theorem ZJ(C:rg K D)(X:K.In s.heap)(a1:s.heap.Ns gl b)(T:s.heap.Ns rI a)(a2:s.heap.NoLimit)(a0:∀x:N,x≠"__name__"->a x=MO x)(E:s.heap.get? l=V o)(j:o.cls=.type "list")(b3:o.data=.seq c n):(Kz K D p w s b a l o).zc:=have L:∀R Q,o.data≠.dict R Q:=λR Q e=>by rw[b3]at e;cases e
 have k:K.In<|s.heap.hide l:=λP b8 e=>by
  rewrite[aag _ λb2=>?_];.exact X _ _ e
  .subst b2;have g:=X _ _ e;rw[E]at g;cases g;have d:=eQ.mp C.h _<|Ky e;simp only at d;rw[j]at d;revert d;decide
 have r:=CB a1 E L;have a9:=CB T E L;{
 a:=k
 h:=let⟨b6,g,d⟩:=a2;(ad b6 (CB g E L) d)
 d:=r
 i:=a9
 j:=λf z=>by have b4:f∈lg:=List.contains_iff_mem.mp z;have S:=ZI f b4;have g:=eQ.mp C.b f<|fE.mpr S;have d:=eQ.mp C.c f<|fE.mpr S;simp only[z,pj,LY]at g;simp only[bA]at d;exact⟨sg k r<|oA g,d.1⟩
 b:=λf z=>by have d:=eQ.mp C.c f<|fE.mpr z;simp only[bA]at d;exact d
 e:=λi j=>by have h:=eQ.mp C.e i<|fE.mpr j;simp only[bA]at h;ext(@ac h)m y(@ac m)q u(@ac q)g d;exact dC (sg k r<|oA g) d u<|oA y
 c:=λi j=>by have h:=eQ.mp C.f i<|fE.mpr j;simp only[bA]at h;ext(@ac h)m y(@ac m)q u(@ac q)g d;exact dC g d u<|ZD y
 f:=λi P j H B=>by have h:=eQ.mp (eQ.mp C.d i<|fE.mpr j) P<|fE.mpr H;simp only[B,bA]at h;exact⟨CA h.1,CA h.2⟩
 g:=λi b5 f B=>by ext(ac:ZF B)j H;have h:=eQ.mp (eQ.mp C.d i<|fE.mpr j) b5<|fE.mpr H;simp only[B,bA,decide_eq_true_eq]at h;exact⟨h.1,oA h.2⟩
 k:=λG I=>⟨mg_none_of k r<|CA<|eQ.mp C.g G<|fE.mpr I,(a0 _<|ZH G I).trans<|ZG G I⟩
 l:=by have h:=C.a;simp only[rf,bA]at h;ext(aD:Ko h.1.1.1)t e;exact⟨t,sg k r e⟩
 m:=by have h:=C.a;simp only[rf,bA]at h;ext(aD:Ko h.1.1.2)t e;exact⟨t,sg k r e⟩
 n:=by have h:=C.a;simp only[rf,bA]at h;ext(@ac h)m y(@ac m)q u(@ac q)_ _;refine⟨sg k r<|oA u,?_⟩;ext(_:Cx y)o A h;obtain⟨i,b1,b0,b7⟩:=o;ext(ac:dB.mp h)a3 h(ac:dB.mp h)a4 h(ac:dB.mp h)a5 h;have a6:i=_:=cV a3;have a7:b1=U:=cV a4;have a8:b7=#[]:=Array.isEmpty_iff.mp a5;subst a6;subst a7;subst a8;have h:re _ b0=M:=h;revert A;apply Kh h;ext v n h A;obtain⟨v⟩:=v;have h:v=_:=cV h;rw[h]at A;exact Fg _ _ _ n<|k _ _ A}
end
noncomputable def ZK:List Nat:=[26,33,40,47,54,61,68,80,87,94,101,108,115,136,143,150,157,204,220,239,246,253,267,274,281,288,295,302,316,322,336,343,371,378,385,392,406,413,420,434,441,448,490,497,504,511,525,530,537,544,549,554,561,566,573,578]
noncomputable def ZL:List Nat:=[223,305,353,395,472,514,125]
def jL:il:=⟨λf=>ZK.getD f 0,λc=>ZL.getD c 0,205⟩
def KA(a:ah):Option cx->Option (ah×cx)
 |V o=>match Kv o.cls with|M=>V (a,o)|aq=>U
 |U=>U
def oB(g:ah->Option cx):eu:=(cv 579).filterMap λa=>KA a<|g a
theorem ZM{h:bS}:(oB h.get?).In h:=by
 ext a o e(_:rY.mp (Ky e))b w c;unfold KA at c;split at c
 .split at c;.cases c;assumption
  .cases c
 .cases c
theorem ZN{c e:Type}{f g:c->Option e}:∀{l:List c},(∀a∈l,f a=g a)->l.filterMap f=l.filterMap g|[],_=>rfl|a::l,h=>by rw[MM,MM,h a<|.head _,ZN λb d=>h b<|.tail _ d]
theorem ZO{g b:ah->Option cx}(h:∀a,a<579->g a=b a):oB g=oB b:=ZN λa c=>by rw[h a<|fE.mp c]
def tS(s:et)(a:ah):Option cx:=alive<|@LL cx (λw=>cx) cU (λo=>o)<|s.tree.get a
def oC(K:eu):Bool:=Kp K jL&&Kq K jL&&Kr K jL&&Ks K jL&&Kt K jL&&Ku K&&rf K jL&&Kw K&&Kx K jL
theorem ZP(w:bX)(a:lR):(pO w a).map (λs=>(s.n,oC (oB<|tS s)))=V (579,M):=by kernel_rfl
theorem ZQ{w:bX}{a:lR}{s:et}(h:pO w a=V s):topRun pc gu w 11 (V<|fB 6) 4100 ⟨jj w.params,#[],DT,DU,a⟩ (topStub gu)=V s.abs:=by rw[<-NG];refine NE _ _ _ _ ?_;rw[NI,NJ];exact h
theorem ZR{s:et}{a:Nat}(h:a<s.n):s.abs.heap.get? a=tS s a:=by show(absHeap s.tree s.n s.life).get? a=_;unfold Heap.get?;rw[absHeap_at,if_pos h];unfold tS;cases e:s.tree.get a with|none=>rfl|some o=>obtain⟨c,d,b,f⟩:=o;cases b<;>rfl
theorem abG{a b:Type}(x:a×b):iH x=x.1:=rfl
theorem abH{a b:Type}(x:a×b):cX x=x.2:=rfl
theorem ZS{A B C D E f G H I:Type}{x:A×B×C×D×E×f×G×H×I}{a:A}{b:B}{c:C}{d:D}{e:E}{r:f×G×H×I}(h:(iH x,iH (cX x),iH (cX<|cX x),iH (cX<|cX<|cX x),iH (cX<|cX<|cX<|cX x))=(a,b,c,d,e))(k:cX (cX<|cX<|cX<|cX x)=r):x=(a,b,c,d,e,r):=by obtain⟨g,i,j,l,m,n⟩:=x;cases h;cases k;rfl
def CC(s:al):Bool:=oC<|oB s.heap.get?
theorem ZT(w:bX):(fencedOpening pc gu w 8050).map (λs=>(s.heap,s.gens,s.drawn,s.toks))=V (jj w.params,#[],DT,DU):=boot_open (p:=gu) (N:=8050) (by kernel_rfl) (by decide+kernel) (λs=>by kernel_rfl) w
theorem ZU{p q:dV}{m:List N}{n:al->Bool}{z:Type}{u:al->z}{o:bX->z}{c f y:Nat}{v:Option ab}{b:Params->bS}{g:Array GenState}{j:va}{l:Nat}(G:∀w:bX,(fencedOpening pc p w c).map (λs=>(s.heap,s.gens,s.drawn,s.toks))=V (b w.params,g,j,l))(I:∀w:bX,((b w.params).isNs gl&&g.size==0,(b w.params).objs.size,(b w.params).nsMap gl "__annotations__")=(M,y,v))(H:∀(w:bX)(i:lR),∃a,topRun pc p w y v f ⟨b w.params,g,j,l,i⟩ (topStub p)=V a/\(staticsOk (rF p.main.body) (b w.params) a.heap&&LM p a.heap&&gensDone a&&laidKept (b w.params) a.heap)=M/\openSeen q m (rF p.main.body) n M a=openGood q m/\u a=o w)(E:f<=c):LeftO p q m n u o c:=λw=>by
 ext(_:jn.mp (G w))Q e A;obtain⟨h,x,d,k,i⟩:=Q;obtain⟨rfl,rfl,rfl,rfl⟩:h=b w.params/\x=g/\d=j/\k=l:=by simpa using A
 obtain⟨K,L,P⟩:_/\_/\_:=by simpa only[Prod.mk.injEq]using I w
 ext(fG:H w i)a r B C D;have r:=topRun_mono (c-f) _ _ _ _ r;rw[show f+(c-f)=c from Nat.add_sub_of_le E]at r;have t:topFrom pc p w c ⟨b w.params,x,d,k,i⟩=V a:=by unfold topFrom;dsimp only;rw[K,L,P,r];show(match staticsOk (rF p.main.body) (b w.params) a.heap&&LM p a.heap&&gensDone a&&laidKept (b w.params) a.heap with|M=>_|aq=>_)=_;rw[B]
 unfold openEnds;rw[e];show(topFrom pc p w c _).map _=_;rw[t];exact congrArg V<|Prod.ext C D
theorem ZV:LeftO gu gv mo sx CC (λz=>M) 8050:=ZU ZT NH (λw c=>by
 ext(_:jn.mp (NL w c))s d h;have e:_=_:=NN w c;have f:_=_:=NO w c;have b:_=_:=ZP w c;rw[d,aac]at e f b;have i:=ZS (bj e)<|bj f;ext(ac:Prod.mk.inj (bj b))b j;refine ej s.abs (ZQ d) h ?_ ?_;.rw[<-NM];exact i
 .show oC (oB s.abs.heap.get?)=M;rw[ZO (b:=tS s) λa g=>ZR<|by rw[b];exact g];exact j) (by decide)
noncomputable abbrev rh:OpenLaw:=aah
theorem ZW:rh.wellSaid=M:=by rw[adX];kernel_rfl
def tT(w:bX)(h:bS):Prop:=∃K:eu,oC K=M/\K.In h
theorem ZX:gu.bare:=vw rfl rfl rfl rfl rfl (by kernel_rfl)
theorem ZY:(chainsOk gv&&opensWell rh.row.prog&&(frees rh.row.toRowW&&rh.row.within.isEmpty))=M:=by kernel_rfl
theorem ZZ:rh.row.promised:=ad ([.list []]) (by decide+kernel) (by decide+kernel)
theorem A0(w:bX)(s:al)(h:CC s=M):tT w s.heap:=ad _ h ZM
theorem A1(w:bX)(h c:bS)(x:tT w h)(k:∀b o,h.get? b=V o->c.get? b=V o):tT w c:=let⟨K,a,b⟩:=x;(ad K a λx y e=>k _ _<|b x y e)
theorem A2{K:eu}(h:oC K=M):rg K jL:=by unfold oC at h;simp only[bA]at h;ext(@ac h)a q(@ac a)b p(@ac b)c o(@ac c)d n(@ac d)e m(@ac e)f l(@ac f)g k(@ac g)i j;exact⟨i,j,k,l,m,n,o,p,q⟩
theorem A3{c:N->Option ab}{x:N}{a b:ah}(h:c x=V (.ref a))(k:c x=V (.ref b)):b=a:=Value.ref.inj<|bj<|k.symm.trans h
theorem rg.za{K:eu}{D:il}(C:rg K D)(f:Nat)(a:lg.contains f=M)(h:f<56):mY (pC K gl<|pT f) (D.b f)=M:=by have:=eQ.mp C.b f<|fE.mpr h;rw[a]at this;exact this
theorem A4{X:List ah}{b:List ab}{a:List Int}(h:rM b a):aQ (ae X) (a.map .b) b:=by induction h with|nil=>exact .b|cons n t h c=>exact .a ⟨t,rfl⟩ c
def CD:Prop:=∀a:List Int,a.length<=63->(aai<|a.map Ma).layable0=M->∃d,d<=28/\aY d wi [.a 0] [.g<|a.map .b] (λv H=>v=.d M/\H[0]?=V (.g<|a.map .b))
theorem A5{p:dV}{w:bX}{s:al}{I m:N->Option ab}{l:ah}{n:List ab}{a:List Int}{R:mg->al->Prop}(Q:CD){K:eu}(C:rg K jL)(a3:K.In s.heap)(a1:s.heap.Ns gl I)(X:s.heap.Ns rI m)(a2:s.heap.NoLimit)(a0:∀x:N,x≠"__name__"->m x=MO x)(E:s.heap.IsList l n.toArray)(b1:rM n a)(b0:a.length<=63)(b6:(aai<|a.map Ma).layable0=M)(a9:2<l)(q:∀u,(∀b o,s.heap.get? b=V o->u.heap.get? b=V o)->u.gens=s.gens->u.os=s.os->R (.ok<|.ret<|.bool M) u):hT (ax p w) sh (.call (.ref 578) {pos:=[.ref l]}) R s:=by
 ext(@bd E)o j z c(@aD c)c1 A;let T:bf:=Kz K jL p w s I m l o;have L:T.zc:=ZJ C a3 a1 X a2 a0 j z A;have P:Kf T:=λa7 D=>ZC L D<|eQ.mp C.i a7<|fE.mpr D;ext(_:Q a b0 b6)d B b4;have b8:=Zp P d wi [.a 0] [.g<|a.map .b] _ b4;have b3:∀b q,T.c.get? b=V q->s.heap.get? b=V q:=λb q e=>Heap.of_hide e
 have b2:ai T [l] [.g<|a.map .b] s.heap:=by
  refine⟨L,b3,rfl,by simp,λa4 t=>?_,λi q f=>?_⟩;.simp only[hV]at t;subst t;exact⟨Heap.hide_self _ _,a9⟩
  .cases i with|zero=>have f:=bj f;subst f;exact jw l o rfl j rfl z<|bK n.toArray c1 A<|A4 b1|succ i=>cases f
 have b5:sh.depth+3*(2*d)+6<=1000:=by
  have:sh.depth<=820:=by decide+kernel
  exact aj (aaj (oY this<|rD 3<|rD 2 B) 6) (by decide)
 have b9:sh.units+60*(2*d)+80<=9900:=by have:sh.units=4:=rfl;exact aj (aaj (oY (kb this)<|rD 60<|rD 2 B) 80) (by decide)
 have:=b8 sh [l] s [.ref l] ⟨rfl,b5,b9⟩ b2 (.a (ad l rfl rfl) .b) (by decide);ext(rP:this)c2 u h
 have c0:∀v,fl T [] [l] s (λv H=>v=.d M/\H[0]?=V (.g<|a.map .b)) v u->R (.ok<|.ret v) u:=by
  ext v G(@bk G)c3 c4 g S c(@bd c)x k b7 a8;subst b7;have k:v=.bool M:=k;subst k;refine q u (λb q e=>?_) g.d.1 g.d.2;by_cases y:b=l;.subst y;ext(co:S.e 0 _ a8)a4 c5 r a5 a6 _;have:c3[0]?=V b:=ay g.a rfl;rw[this]at r;cases r;rw[a5,a6];rw[j]at e;exact e
  .exact g.b b q e (by simpa using y) (by simp)
 match c2,h with|.ok (.ret v),h=>exact c0 v h
theorem A6:∀m:Nat,m≠0->m≠1->m≠2->2<m:=λm a b c=>ho (ho (rH a) b.symm) c.symm
theorem A7{c:ClaimW}{e:N->Option ah}{m:ExcName->Option ab}{a:List WData}{d u:al}(l:∀f,c.raises a f=aq)(k:c.post a (.bool M) a=M)(n:c.unshared=M->True)(i:∀b o,d.heap.get? b=V o->u.heap.get? b=V o)(j:u.os=d.os)(g:u.gens=#[]):GoodW c e m a d (.ok<|.ret<|.bool M) u:=dC (.inl<|vx _ (.bool M) ([]) rfl l (.bool M) k λw=>⟨.nil,λw h=>nomatch h⟩) i j g
def KB:DefRec×List (N×ag):=Option.get (defOf gv "law") (by kernel_rfl)
theorem A8(q:CD):aah.Holds:=by
 w_on;ext(holds_law:ZW)a0;refine holds_open (q:=gv) (d:=KB.1) (kwd:=KB.2) (loose:=mo) (Xt:=sx) (XP:=XL gv []) (Yf:=CC) (Ya:=λ_=>M) (YP:=tT) (N:=8050) ZV A0 A1 (λs e=>xl_of s (dB.mp e).1) XL.keeps (by rfl) (by rfl) (by rfl) (λs e=>recFacts_of (dB.mp e).2) rfl a0 ZY ZX ZZ ?_;ext d7 d4 p c8 c6 G m u o d1 b3 b6 b5 c5 i h b9 b7 H z a8 d5 a9 K D L P n(m)a3 x k;have C:=A2 x;have a7:=(Ground.X G).1;have a6:=(Ground.X G).2;ext(Ground.open:G)T a1 a2 a4 a5;have E:=n;wrow_args K D L P n
 all_goals
  (
   first|refine callC_kw<|enter_call ?_|refine enter_call ?_|refine callC_kw<|enter_callW ?_|refine enter_callW ?_|w_how
   w_top on;try refine rP ?_ λ_ _ g=>GoodW.toG g)
 rename_i d0 c4 c1 y c3 c0 b0 b1 l d6 b2 f d2 d8 X w c2 v _;have e:u=578:=A3 (sg k T.g<|oA<|C.za 55 (by decide)<|by decide) H;rw[e];refine A5 q C k T.g T.b T.nolimit T.builtins f w (Gx v) y ?_ λd3 B A I=>?_
 .ext(@bd f)o i b8 d(@aD d)c9 h;have Q:l≠0:=λb=>by ext(la:T.b)j t r a c _;have a:p.heap.get? 0=V j:=a;rw[<-b,i]at a;rw[<-bj a,h]at c;cases c
  have S:l≠2:=λb=>by ext(_:T.nolimit)c7 d _(@la d)j t r a c _;have a:p.heap.get? 2=V j:=a;rw[<-b,i]at a;rw[<-bj a,h]at c;cases c
  have R:l≠1:=λb=>by cases X;exact absurd (E l<|gS _<|.head _) (by rw[b];decide)
  exact A6 l Q R S
 .refine A7 ?_ ?_ ?_ B I (by rw[A];exact z);.ext b4;rfl
  .wrow_post
  .exactλ_=>trivial
theorem A9{d f:Nat}{a:List O}{H:J}{Q:au}(b:aW)(r:am)(e:mW f=b)(c:a.length+(ft f).length=gH f)(g:f<fk)(i:iV f a=r)(h:cA (aY d) b r H<|mX Q):aY (d+1) f a H Q:=by subst e;subst i;exact aI c g h
theorem CE{d f:Nat}{a:List O}{H:J}{Q:au}(b:aW)(r:am)(e:mW f=b)(c:a.length+(ft f).length=gH f)(g:f<fk)(i:iV f a=r):aY (d+1) f a H Q=cA (aY d) b r H (mX Q):=by subst e;subst i;exact propext ⟨λh=>h.2.2,λh=>aI c g h⟩
theorem bR{d f:Nat}{a:List O}{H:J}{Q:au}(b:aW)(n:Nat)(e:mW f=b)(h:rc f=a.length+n)(i:gH f=a.length)(c:ft f=[])(g:f<fk):aY (d+1) f a H Q=cA (aY d) b (a.map V++ck n U) H (mX Q):=by refine CE b _ e (by rw[c,i];rfl) g ?_;unfold iV;rw[c,h];simp
noncomputable abbrev Z(n:Nat):O:=.b (n:Int)
theorem ri(l:List Nat):kx (l.map Z)=V (l.map λn:Nat=>(n:Int)):=by rw[<-Hy,uK];rfl
section
variable{r:am}{H:J}{Q:au}{v:O}
@[simp]theorem abI:mX Q .a r H=(Q .e H):=rfl
@[simp]theorem KC:mX Q (.b v) r H=(Q v H):=rfl
end
theorem CF(a:Nat):vl (vl (a:Int))=a:=by unfold vl;exact Or
theorem KD(a:Nat):¬0<=vl (a:Int):=by unfold vl;exact Os
@[simp]theorem B0(a b:Nat):ph (a:Int) (b:Int)=((a|||b:Nat):Int):=by unfold ph;rw[bitAnd_nn (KD a)<|KD b,CF,CF,CF];simp
@[simp]theorem B1(a b:Nat):rK (a:Int) (b:Int)=((a&&&b:Nat):Int):=by rw[bitAnd_pp (by exact nL)<|by exact nL];simp
noncomputable def tU(m k:Nat):Nat:=m>>>k
@[simp]theorem abJ(m k:Nat):MP (m:Int) (2^k)=((tU m k:Nat):Int):=by unfold tU;rw[MQ];rw[MR _<|by exact rL<|Int.pow_pos (by decide)];simp
@[simp]theorem abK(m:Nat):rK (m:Int) 1=((m&&&1:Nat):Int):=B1 m 1
@[simp]theorem abL(m:Nat):MP (m:Int) 2=((m/2:Nat):Int):=by rw[MR _<|by decide];rfl
@[simp]theorem abM(n:Nat):((n:Int)=-1)=False:=by simp
noncomputable def az{a:Type}(n:Nat)(g:Nat->a):List a:=(cv n).map g
@[simp]theorem gI{a:Type}(n:Nat)(g:Nat->a):(az n g).length=n:=by simp[az]
theorem cc{a:Type}{n s:Nat}{g:Nat->a}(h:s<n):(az n g)[s]?=V (g s):=by simp[az,h]
noncomputable def bb{a:Type}(g:Nat->a)(s:Nat)(v:a):Nat->a:=λt=>if t=s then v else g t
@[simp]theorem bx{a:Type}(g:Nat->a)(s:Nat)(v:a):bb g s v s=v:=by simp[bb]
theorem bc{a:Type}{g:Nat->a}{s t:Nat}{v:a}(h:t≠s):bb g s v t=g t:=by simp[bb,h]
theorem oD{b:Type}{n s:Nat}{g:Nat->b}{v:b}:(az n g).set s v=az n (bb g s v):=by
 apply ve;ext t;rw[List.getElem?_set];unfold az;simp only[bC,ki,dN,nw];by_cases h:s=t;.subst h;by_cases c:s<n<;>simp[c,bb,nw]
 .rw[if_neg h];by_cases a:t<n;.simp[a,nw,bb,cy h]
  .simp[a]
theorem kL{a b:Type}(n:Nat)(g:Nat->a)(f:a->b):(az n g).map f=az n (λt=>f<|g t):=by simp[az]
theorem iX{a:Type}(n:Nat)(g:Nat->a):az n g++[g n]=az (n+1) g:=by simp[az,nC]
theorem tV{a:Type}(n:Nat)(x:a):ck n x=az n (λw=>x):=by apply ve;ext t;simp[az,aak];by_cases h:t<n<;>simp[h]
theorem hg{c:Type}{n:Nat}{g a:Nat->c}(h:∀t,t<n->g t=a t):az n g=az n a:=by unfold az;exact jp λt b=>h t<|fE.mp b
theorem bH{H:J}{i:Nat}{o:aa}(h:H[i]?=V o):i<H.length:=(bi.mp h).1
theorem aH{H X:J}{i:Nat}{o:aa}(h:H[i]?=V o):(H++X)[i]?=V o:=iO h
theorem aB(H X:J):H<+:H++X:=kS _ _
theorem dq{H I:J}{i:Nat}{o:aa}(h:H<+:I)(a:H.length<=i):H<+:I.set i o:=by obtain⟨t,rfl⟩:=h;rw[List.set_append_right _ _ a];exact kS _ _
theorem eq{H I:J}(h:H<+:I):H.length<=I.length:=h.length_le
section
variable{a f b g v q:O}{o h p l:Option aa}{H I:J}{Q:au}{i j k n m:Nat}{c d:List O}{x:O}
@[simp]theorem CG{Q:O->Prop}:cz Q (V x)=Q x:=rfl
theorem kM{a:Type}{k:a->Prop}{o:Option a}{x:a}(e:o=V x):cz k o=k x:=by rw[e];rfl
@[simp]theorem CH{Q:Bool->Prop}{c:Bool}:mC Q c=Q (!c):=rfl
section
variable{x y:Int}
@[simp]theorem B2:gb .Add (.b x) (.b y) H Q=Q (.b<|x+y) H:=rfl
@[simp]theorem B3:gb .Sub (.b x) (.b y) H Q=Q (.b<|x-y) H:=rfl
@[simp]theorem B4:gb .Mult (.b x) (.b y) H Q=(DY x y/\Q (.b<|x*y) H):=rfl
@[simp]theorem abN:gb .Mod (.b x) (.b y) H Q=(y≠0/\Q (.b<|x.fmod y) H):=rfl
@[simp]theorem abO:gb .FloorDiv (.b x) (.b y) H Q=(y≠0/\uF x y=aq/\Q (.b<|x.fdiv y) H):=rfl
@[simp]theorem abP:gb .Pow (.b x) (.b y) H Q=(0<=y/\(uG x:Int)*y<=2^27/\Q (.b<|x^y.toNat) H):=rfl
@[simp]theorem abQ:gb .LShift (.b x) (.b y) H Q=(0<=y/\y<=1000000/\x.natAbs<2^64/\Q (.b<|x*2^y.toNat) H):=rfl
@[simp]theorem abR:gb .RShift (.b x) (.b y) H Q=(0<=y/\Q (.b<|x.fdiv<|2^y.toNat) H):=rfl
@[simp]theorem abS:gb .BitAnd (.b x) (.b y) H Q=Q (.b<|rK x y) H:=rfl
@[simp]theorem abT:gb .BitOr (.b x) (.b y) H Q=Q (.b<|ph x y) H:=rfl
end
@[simp]theorem abU:gb .Add (.a i) (.a j) H Q=ww H Q H[i]? H[j]?:=rfl
@[simp]theorem abV{k:Int}:gb .Mult (.a i) (.b k) H Q=wx k H Q H[i]?:=rfl
@[simp]theorem abW:ww H Q (V<|.a c) (V<|.a d)=(c.length+d.length<=16777216/\Q (.a H.length) (H++[.a<|c++d])):=rfl
@[simp]theorem abX{k:Int}:wx k H Q (V<|.a [x])=(0<=k/\k<=16777216/\Q (.a H.length) (H++[.a<|ck k.toNat x])):=rfl
section
variable{Q:Bool->Prop}{x y:Int}{z e:N}
@[simp]theorem B5:gc .Eq a b H Q=iR a b H Q:=rfl
@[simp]theorem CI:gc .NotEq a b H Q=iR a b H (mC Q):=rfl
@[simp]theorem abY:gc .In a b H Q=iQ a b H Q:=rfl
@[simp]theorem abZ:gc .NotIn a b H Q=iQ a b H (mC Q):=rfl
@[simp]theorem aca:gc .Lt (.b x) (.b y) H Q=Q (aP<|x<y):=rfl
@[simp]theorem acb:gc .Gt (.b x) (.b y) H Q=Q (aP<|y<x):=rfl
@[simp]theorem acc:gc .GtE (.b x) (.b y) H Q=Q (aP<|y<=x):=rfl
@[simp]theorem B6:iR (.b x) (.b y) H Q=Q (x==y):=rfl
@[simp]theorem acd:iR (.c z) (.c e) H Q=Q (z==e):=rfl
@[simp]theorem rj:iR (.a i) (.a j) H Q=qg H Q H[i]? H[j]?:=rfl
@[simp]theorem B7:qg H Q (V<|.a c) (V<|.a [])=Q c.isEmpty:=rfl
theorem B8{d:List O}(h:c.length<=16777216)(b:sU H c d)(q:Q M):qg H Q (V<|.a c)<|V<|.a d:=by
 delta H c Q d;ext h b q
 cases d with
 |nil=>
  ext(b)f a e;simp[fK]at e;subst e
  cases c with
  |nil=>exact q
  |cons x c=>
   unfold fK at a;split at a;.simp at a
   .exact cn a
 |cons y d=>exact aI h b q
@[simp]theorem B9{n m:Nat}{a b:List<|List Int×Nat×O}:qg H Q (V<|.d n a) (V<|.d m b)=(a.length<=16777216/\qf a b/\Q M):=rfl
@[simp]theorem ace{k:Int}:iQ (.b k) (.a i) H Q=nS k Q H[i]?:=rfl
@[simp]theorem acf:iQ (.c z) (.a i) H Q=sT z Q H[i]?:=rfl
theorem rk:fn H (.a j)=nR H[j]?:=rfl
@[simp]theorem acg:iQ (.a j) (.a i) H Q=wy Q (fn H<|.a j) H[i]?:=rfl
@[simp]theorem ach{l:List Nat}{k:Nat}:nS (k:Int) Q (V<|.a<|l.map Z)=Q (aP<|k∈l):=by refine(kM<|ri l).trans ?_;congr 2;simp only[bY,eq_iff_iff];exact⟨λb=>Y b λa h e=>by rw[<-lS e];exact h,λh=>ad k h rfl⟩
@[simp]theorem aci{l:List Nat}{k:Nat}:nS (k:Int) Q (V<|.b<|l.map Z)=Q (aP<|k∈l):=by refine(kM<|ri l).trans ?_;congr 2;simp only[bY,eq_iff_iff];exact⟨λb=>Y b λa h e=>by rw[<-lS e];exact h,λh=>ad k h rfl⟩
@[simp]theorem acj{k:Int}:nS k Q (V<|.a [])=Q aq:=by show Q (aP<|k∈([]:List Int))=Q aq;simp
@[simp]theorem ack{n:Nat}{a:List<|Int×O}{k:Int}:nS k Q (V<|.f n a)=Q (fJ a k).isSome:=rfl
@[simp]theorem acl{l:List N}:sT z Q (V<|.a<|l.map .c)=Q (aP<|z∈l):=kM<|sQ l
@[simp]theorem C0{l:List N}:sT z Q (V<|.b<|l.map .c)=Q (aP<|z∈l):=kM<|sQ l
@[simp]theorem acm{b:List Int}{n:Nat}{a:List<|List Int×Nat×O}:wy Q (V b) (V<|.d n a)=Q (dp a b).isSome:=rfl
end
@[simp]theorem acn{l:List Nat}:nR (V<|.b<|l.map Z)=V (l.map λn:Nat=>(n:Int)):=ri l
@[simp]theorem aco{x y:Int}:nR (V<|.b [.b x,.b y])=V [x,y]:=rfl
@[simp]theorem acp{x:Int}:nR (V<|.b [.b x])=V [x]:=rfl
@[simp]theorem tW{k:Int}:jD (.a i) (.b k) H Q=lp k H Q H[i]?:=rfl
@[simp]theorem tX:jD (.a i) (.a j) H Q=wz H Q (fn H<|.a j) H[i]?:=rfl
@[simp]theorem C1{k:Nat}:lp (k:Int) H Q (V<|.a c)=cz (eK H Q) c[k]?:=by show(if(k:Int)=-1 then cz (eK H Q) c[c.length-1]? else 0<=(k:Int)/\cz (eK H Q) c[(k:Int).toNat]?)=_;rw[if_neg<|by exact Pn];simp
@[simp]theorem CJ{k:Nat}:lp (no_index(pD k)) H Q (V<|.a c)=cz (eK H Q) c[(pD k:Nat)]?:=C1 (k:=k)
@[simp]theorem acq:lp (-1) H Q (V<|.a c)=cz (eK H Q) c[c.length-1]?:=rfl
@[simp]theorem C2{k:Nat}:lp (k:Int) H Q (V<|.b c)=cz (eK H Q) c[k]?:=by show(0<=(k:Int)/\cz _ _)=_;simp
@[simp]theorem acr{k:Nat}:lp (no_index(pD k)) H Q (V<|.b c)=cz (eK H Q) c[(pD k:Nat)]?:=C2 (k:=k)
@[simp]theorem acs{k:Int}{a:List<|Int×O}:lp k H Q (V<|.f n a)=cz (eK H Q) (fJ a k):=rfl
@[simp]theorem act{b:List Int}{a:List<|List Int×Nat×O}:wz H Q (V b) (V<|.d n a)=cz (eK H Q) (dp a b):=rfl
section
variable{Q:J->Prop}
@[simp]theorem KE{k:Int}:mD (.a i) (.b k) v H Q=qi i k v H Q H[i]?:=rfl
@[simp]theorem mZ:mD (.a i) (.a j) v H Q=wA i j v H Q (fn H<|.a j) H[i]?:=rfl
@[simp]theorem C3{k:Nat}:qi i (k:Int) v H Q (V<|.a c)=(k<c.length/\Q (H.set i<|.a<|c.set k v)):=by show(0<=(k:Int)/\(k:Int)<c.length/\Q (H.set i<|.a<|c.set (k:Int).toNat v))=_;simp
@[simp]theorem C4{k:Nat}:qi i (no_index(pD k)) v H Q (V<|.a c)=((pD k:Nat)<c.length/\Q (H.set i<|.a<|c.set (pD k:Nat) v)):=C3 (k:=k)
@[simp]theorem acu{k:Int}{a:List<|Int×O}:qi i k v H Q (V<|.f n a)=(a.length<=16777216/\∀b,Q (H.set i<|.f b<|lm a k v)):=rfl
@[simp]theorem acv{b:List Int}{a:List<|List Int×Nat×O}:wA i j v H Q (V b) (V<|.d n a)=(a.length<=16777216/\∀c,Q (H.set i<|.d c<|jB a b j v)):=rfl
end
theorem bE{C a:Nat}{b:List<|Nat×O}(d:H[i]?=V (.e C a))(c:H[a]?=V (.c b))(f:eT C n=U)(e:b.lookup n=V x):cS (.a i) n H Q=Q x H:=by show mz _ H[i]?=_;rw[d];show mA _ H[a]?=_;rw[c];show(_/\cz _ (b.lookup n))=_;rw[e];exact propext ⟨λh=>h.2,λh=>⟨f,h⟩⟩
theorem hh{C a f:Nat}{b:List<|Nat×O}{Q:Nat->Prop}(d:H[i]?=V (.e C a))(c:H[a]?=V (.c b))(g:eT C n=V f)(e:b.lookup n=U):dR (.a i) n H Q=Q f:=by show mz _ H[i]?=_;rw[d];show mA _ H[a]?=_;rw[c];show(_/\cz _ (eT C n))=_;rw[g];exact propext ⟨λh=>h.2,λh=>⟨e,h⟩⟩
theorem C5{C a:Nat}{b:List<|Nat×O}{Q:J->Prop}(d:H[i]?=V (.e C a))(c:H[a]?=V (.c b))(f:eT C n=U)(e:b.length<=50):mE (.a i) n x H Q=Q (H.set a<|.c<|fN b n x):=by show mz _ H[i]?=_;rw[d];show mA _ H[a]?=_;rw[c];exact propext ⟨λh=>h.2.2,λh=>aI e f h⟩
@[simp]theorem C6{b:Bool}{Q:Bool->Prop}:iS (.d b) H Q=Q b:=rfl
@[simp]theorem acw{Q:Bool->Prop}:iS (.a i) H Q=wB Q H[i]?:=rfl
@[simp]theorem acx{Q:Bool->Prop}:wB Q (V<|.a c)=Q (!c.isEmpty):=rfl
section
variable{Q:List O->(J->Prop)->Prop}
@[simp]theorem iY:hD (.a i) H Q=nT i Q H[i]?:=rfl
@[simp]theorem tY:nT i Q (V<|.a c)=Q c λI=>I[i]?=V (.a c):=rfl
@[simp]theorem acy:nT i Q (V<|.b c)=Q c λI=>I[i]?=V (.b c):=rfl
@[simp]theorem acz{n:Nat}{a:List<|Int×O}:nT i Q (V<|.f n a)=Q (a.map λe=>.b e.1) λI=>I[i]?=V (.f n a):=rfl
@[simp]theorem C7{n:Nat}{a:List<|List Int×Nat×O}:nT i Q (V<|.d n a)=Q (a.map λe=>.a e.2.1) λI=>I[i]?=V (.d n a):=rfl
@[simp]theorem acA:sX (.a i) H Q=wC i Q H[i]?:=rfl
@[simp]theorem acB:wC i Q (V<|.b c)=Q c.reverse λI=>I[i]?=V (.b c):=rfl
end
theorem jM{k:Nat}{Q:List O->Prop}:sW (.b (k:Int)) Q=(k<=16777216/\Q ((cv k).map Z)):=by exact propext ⟨λh=>⟨hn.mp h.2.1,h.2.2⟩,λh=>aI (uw _) (hn.mpr h.1) h.2⟩
@[simp]theorem CK:gA .a [.a i] H Q=qk H Q H[i]?:=rfl
@[simp]theorem C8:qk H Q (V<|.a c)=Q (.b c.length) H:=rfl
@[simp]theorem acC:qk H Q (V<|.b c)=Q (.b c.length) H:=rfl
@[simp]theorem acD{a:List<|List Int×Nat×O}:qk H Q (V<|.d n a)=(a.length<=16777216/\Q (.b a.length) H):=rfl
@[simp]theorem C9{x y:Int}:gA .g [.b x,.b y] H Q=Q (.b<|if y>x then y else x) H:=rfl
@[simp]theorem acE{x:Int}:gA .f [.b x] H Q=Q (.b<|if x<0 then-x else x) H:=rfl
@[simp]theorem acF{x:Int}:gA .c [.b x] H Q=Q (.b x) H:=rfl
@[simp]theorem acG{x:Bool}:gA .c [.d x] H Q=Q (.b<|if x then 1 else 0) H:=rfl
@[simp]theorem acH:gA .d [.a i] H Q=sY H Q H[i]?:=rfl
@[simp]theorem acI:sY H Q (V<|.a c)=(c.length<=16777216/\Q (.a H.length) (H++[.a c])):=rfl
@[simp]theorem acJ:sY H Q (V<|.b c)=(c.length<=16777216/\Q (.a H.length) (H++[.a c])):=rfl
@[simp]theorem acK:gA .h [.a i] H Q=wF H Q H[i]?:=rfl
@[simp]theorem acL:wF H Q (V<|.a c)=(c.length<=16777216/\Q (.a H.length) (H++[.b c])):=rfl
@[simp]theorem KF:gA .i [.a i] H Q=wG H Q H[i]?:=rfl
theorem D0{a:List Int}:wG H Q (V<|.a<|a.map .b)=Q (.b a.sum) H:=kM<|Hy a
@[simp]theorem KG:gA .b [.a i] H Q=nV H Q H[i]?:=rfl
@[simp]theorem acM{l:List Nat}:nV H Q (V<|.a<|l.map Z)=kz (l.map λn:Nat=>(n:Int)) H Q:=kM<|ri l
@[simp]theorem acN{l:List Nat}:nV H Q (V<|.b<|l.map Z)=kz (l.map λn:Nat=>(n:Int)) H Q:=kM<|ri l
@[simp]theorem acO{a:List<|Int×O}:nV H Q (V<|.f n a)=kz (a.map (·.1)) H Q:=rfl
@[simp]theorem KH{c:List<|List Int×Nat×O}:nV H Q (V<|.d n c)=(c.length<=16777216/\c.Pairwise (λe f=>qj e.1 f.1=M)/\(∀e∈c,∃a b,e.1=[a,b])/\Q (.a H.length) (H++[.a<|c.map λe=>.a e.2.1])):=rfl
@[simp]theorem KI:gA .e [.a i] H Q=wI H Q H[i]?:=rfl
@[simp]theorem CL{a:List N}:wI H Q (V<|.a<|a.map .c)=(a.length<60/\∀b:List N,(∀z,z∈b↔z∈a)->b.Nodup->Q (.a H.length) (H++[.a<|b.map .c])):=kM<|sQ a
@[simp]theorem acP{k:Int}:lr (.a i) (.b k) H Q=sZ k H Q H[i]?:=rfl
@[simp]theorem acQ{k:Int}:sZ k H Q (V<|.a c)=(c.length<=16777216/\0<=k/\Q (.a H.length) (H++[.a<|c.take k.toNat])):=rfl
@[simp]theorem acR{k:Int}:sZ k H Q (V<|.g c)=(c.length<=16777216/\0<=k/\Q (.a H.length) (H++[.a<|c.take k.toNat])):=rfl
@[simp]theorem acS{k:Int}{z:N}:lr (.c z) (.b k) H Q=(k=1/\z.cps.size=1/\Q (.c z) H):=rfl
@[simp]theorem acT{k:Int}:nW (.a i) (.b k) H Q=wJ k H Q H[i]?:=rfl
@[simp]theorem acU{k:Int}:wJ k H Q (V<|.a c)=(c.length<=16777216/\0<=k/\k<=c.length/\Q (.a H.length) (H++[.a<|c.drop k.toNat])):=rfl
@[simp]theorem CM:gZ (.a i) H=ta H[i]?:=rfl
@[simp]theorem acV:ql (.a i) H=wK H[i]?:=rfl
@[simp]theorem acW:ta (V<|.a c)=True:=rfl
@[simp]theorem acX{a:List<|Int×O}:wK (V<|.f n a)=True:=rfl
@[simp]theorem CN:qm (.a i) x H Q=wL i x H Q H[i]?:=rfl
@[simp]theorem acY:wL i x H Q (V<|.a c)=(c.length<=16777215/\Q .e (H.set i<|.a<|c++[x])):=rfl
@[simp]theorem acZ:qn (.a i) (.a j) H Q=tb i H Q H[i]? H[j]?:=rfl
@[simp]theorem D1:tb i H Q (V<|.a c) (V<|.a d)=(c.length+d.length<=16777215/\Q .e (H.set i<|.a<|c++d)):=rfl
@[simp]theorem ada:qo (.a i) H Q=wM i H Q H[i]?:=rfl
@[simp]theorem KJ:wM i H Q (V<|.a<|c++[x])=(c.length<=16777215/\Q x (H.set i<|.a c)):=by show(_/\cz (eK (H.set i<|.a (c++[x]).dropLast) Q) (c++[x])[(c++[x]).length-1]?)=_;simp[eK]
@[simp]theorem D2:qp (.a i) H Q=wN i H Q H[i]?:=rfl
@[simp]theorem D3:wN i H Q (V<|.a<|x::c)=(c.length<=16777215/\Q x (H.set i<|.a c)):=rfl
@[simp]theorem adb{z:N}:qq (.a i) (.c z) H Q=wO z H Q H[i]?:=rfl
@[simp]theorem adc{z:N}{a:List N}:wO z H Q (V<|.a<|a.map .c)=(z∈a/\Q (.b<|a.idxOf z) H):=kM<|sQ a
@[simp]theorem add{k:Int}{d:O}:qr (.a i) (.b k) d H Q=wP k d H Q H[i]?:=rfl
@[simp]theorem ade{k:Int}{d:O}{a:List<|Int×O}:wP k d H Q (V<|.f n a)=Q ((fJ a k).getD d) H:=rfl
section
variable{t u w:Nat}{r s:am}{Q:am->Prop}
@[simp]theorem adf:ky t x r H Q=Q (r.set t<|V x):=rfl
@[simp]theorem adg:gY t u (.a i) r H Q=wD t u r Q H[i]?:=rfl
@[simp]theorem adh:nU t u w (.a i) r H Q=wE t u w r Q H[i]?:=rfl
@[simp]theorem adi:wD t u r Q (V<|.b [a,b])=Q ((r.set t<|V a).set u<|V b):=rfl
@[simp]theorem adj{c:O}:wE t u w r Q (V<|.b [a,b,c])=Q (((r.set t<|V a).set u<|V b).set w<|V c):=rfl
end
end
theorem aX{H:J}{i j:Nat}{o x:aa}(h:H[j]?=V o)(a:i≠j):(H.set i x)[j]?=V o:=by rw[iw a];exact h
theorem cq{H:J}{i:Nat}{o x:aa}(h:H[i]?=V o):(H.set i x)[i]?=V x:=by rw[kd<|bH h]
theorem cF{H:J}{o:aa}:(H++[o])[H.length]?=V o:=by simp
theorem rl{H:J}{o:aa}{n:Nat}(h:n=H.length):(H++[o])[n]?=V o:=by subst h;simp
theorem D4{f:O->J->(am->Prop)->Prop}{l:am->J->(Bool->J->Prop)->Prop}{g:am->J->au->Prop}{e:J->Prop}{Q:List O->J->Prop}(I:Nat->List O->J->Prop):∀(b:List O)(n:Nat)(a:List O)(H:J),I n a H->(∀k x a H,n<=k->b[k-n]?=V x->I k a H->e H/\∀K:List O->J->Prop,(∀d c,I (k+1) d c->K d c)->f x H (Bl l g a H K))->(∀a H,I (n+b.length) a H->e H/\Q a H)->eL f l g e b a H Q|[],n,a,H,h,_,j=>j _ _ h|x::b,n,a,H,h,o,j=>by ext(ac:o n x a H (aO _) (by simp) h)p q;exact⟨p,q (λd c=>eL f l g e b d c Q) λd c h=>D4 I b (n+1) d c h (λk y a H m r i=>o k y a H (by exact an 1 0 0 0 m rfl) (by rw[show k-n=(k-(n+1))+1 by exact Gb m];simpa using r) i) λa H i=>j a H<|by rw[pi,show n+(b.length+1)=n+1+b.length by exact sy];exact i⟩
theorem bV{h:O->am->J->(am->Prop)->Prop}{i:am->J->aS->Prop}{g:J->Prop}{Q:aS}(I:Nat->am->J->Prop){f:List O}{r:am}{H:J}(m:I 0 r H)(j:∀k x r H(K:aS),(∀d c,I (k+1) d c->K .a d c/\K .c d c)->(∀v d c,Q (.b v) d c->K (.b v) d c)->f[k]?=V x->I k r H->g H/\h x r H (JN i H K))(n:∀r H,I f.length r H->g H/\Q .a r H):ig h i g f r H Q:=Kd I f 0 r H m (λk x r H w l e=>⟨(j k x r H (λw w w=>True) (λw w w=>⟨trivial,trivial⟩) (λw w w w=>trivial) l e).1,λK a b=>(j k x r H K a b l e).2⟩) λr H e=>n r H (by rw[oX]at e;exact e)
theorem hi{g:O->J->(am->Prop)->Prop}{l:am->J->(Bool->J->Prop)->Prop}{h:am->J->au->Prop}{e:J->Prop}{Q:List O->J->Prop}(I:Nat->List O->J->Prop){d b:List O}{H:J}(n:I 0 b H)(i:∀k x b H(K:List O->J->Prop),(∀m f,I (k+1) m f->K m f)->d[k]?=V x->I k b H->e H/\g x H (Bl l h b H K))(o:∀b H,I d.length b H->e H/\Q b H):eL g l h e d b H Q:=D4 I d 0 b H n (λk x b H w j c=>⟨(i k x b H (λw w=>True) (λw w w=>trivial) j c).1,λK a=>(i k x b H K a j c).2⟩) λb H c=>o b H (by rw[oX]at c;exact c)
theorem cB{b c:Type}{f:b->c}{l:List b}{k:Nat}{x:c}(h:(l.map f)[k]?=V x):∃a,l[k]?=V a/\x=f a:=by rw[dN]at h;ext(_:jn.mp h)a d e;exact ad a d e.symm
theorem gf{a:Type}{n k:Nat}{g:Nat->a}{x:a}(h:(az n g)[k]?=V x):k<n/\x=g k:=by
 have:k<n:=by have:=(bi.mp h).1;simpa using this
 rw[cc this]at h;have h:=bj h;subst h;exact⟨this,rfl⟩
theorem jN{n k:Nat}{x:O}(h:((cv n).map Z)[k]?=V x):k<n/\x=Z k:=gf (g:=Z) h
theorem iZ{d:am->J->(Bool->J->Prop)->Prop}{c:am->J->aS->Prop}{Q:aS}(I:Nat->am->J->Prop){n:Nat}{r:am}{H:J}(h:I n r H)(j:∀n r H,I n r H->∀K:aS,(∀m b a,m<n->I m b a->K .a b a/\K .c b a)->(∀v b a,Q (.b v) b a->K (.b v) b a)->d r H (tL (JO c r K)<|om r Q)):∃f,kA d c f r H Q:=Zf I (λn r H i K e g=>j n r H i K e g) h
theorem im{d:Type}[DecidableEq d]:∀{l r:List d},l.Nodup->(∀x∈l,x∈r)->l.length<=r.length|[],_,_,_=>fd _|a::l,r,i,h=>by ext(ac:gR.mp i)f g;have b:=h a<|.head _;have:=im g (r:=r.erase a) λx c=>(List.mem_erase_of_ne<|show x≠a fromλe=>f (by rw[<-e];exact c)).mpr<|h x<|.tail _ c;rw[List.length_erase_of_mem b]at this;have:=aal b;simp only[pi];exact Po (by assumption) this
theorem jO{b:Type}{l:List b}(d:l.Nodup){i j:Nat}{x:b}(a:l[i]?=V x)(c:l[j]?=V x):i=j:=(List.getElem?_inj (bi.mp a).1 d).mp<|a.trans c.symm
theorem fu{l:List Nat}{n:Nat}(a:l.Nodup)(h:∀s∈l,s<n):l.length<=n:=by have:=im a (r:=cv n) λs b=>fE.mpr<|h s b;simpa using this
local macro_rules
  | `(tactic| simp) => pure (smM (sn #[]))
  | `(tactic| simp [$ts,*]) => pure (smM (sn #[tk "[", sn ts.elemsAndSeps, tk "]"]))
noncomputable def hj(b:Nat->Bool)(a:Nat->Nat):Nat->List Nat->Nat×Bool|m,[]=>(m,M)|m,s::r=>if b s then hj b a (m|||a s) r else(m|||a s,aq)
theorem D5{d:Nat}{H:J}{i j k n:Nat}{a:List Nat}{c:Nat->Nat}{b:Nat->Bool}{Q:au}(l:H[i]?=V (.b<|a.map Z))(w:H[j]?=V (.a<|az n λt=>.d<|b t))(y:H[k]?=V (.a<|az n λt=>Z<|c t))(v:∀s∈a,s<n)(q:∀I r,H<+:I->I[r]?=V (.b [Z (hj b c 0 a).1,.d (hj b c 0 a).2])->Q (.a r) I):aY (d+1) GS [.a i,.a j,.a k] H Q:=by
 delta d H i j k n a c b Q;ext l w y v q;refine A9 Bv [V<|.a i,V<|.a j,V<|.a k,U,U] rfl rfl (by decide) rfl ?_;simp[Bv,l];refine Kd (λt u I=>I=H/\∃m o,u=[V<|.a i,V<|.a j,V<|.a k,V<|Z m,o]/\hj b c 0 a=hj b c m (a.drop t)) _ 0 _ _ ⟨rfl,bK 0 U rfl rfl⟩ ?_ ?_
 .ext@t@x@u@I L p g
  exact by
   ext(ec g)h(Fu h)@m@o f
   exact by
    simp at p;ext(FO p)@s A
    exact by
     refine⟨l,λK D E=>?_⟩;have G:=v s<|bs A;have e:a.drop t=s::a.drop (t+1):=by ext(aD:bi.mp A)B C;rw[mf B,C]
     rw[e]at f;simp[y,w,cc G];cases z:b s;.simp;refine E _ _ _ ?_;simp[hj,z]at f;simp;refine q _ _ (aB _ _) ?_;simp[f]
     .simp;refine(D _ _ ⟨rfl,bK _ _ rfl ?_⟩).1;rw[f];simp[hj,z]
 .ext u I g(ec g)h(Fu h)m o f;simp[l];refine q _ _ (aB _ _) ?_;simp[hj]at f;simp[f]
set_option genSizeOf false
set_option genInjectivity false
structure ap where
 f:List N
 a:Nat
 e:Nat
 c:Nat
 d:Nat->Nat
 b:Nat->List Nat
 g:Nat->Int
instance:Nonempty ap:=⟨by constructor<;>exact cU⟩
namespace ap
variable(G:ap)
noncomputable def za:Nat:=G.f.length
noncomputable def zb:Nat->Nat|0=>0|k+1=>zb k+((G.b k).length+1)
def zc:Nat:=G.zb G.c
noncomputable def zn:Nat->List Nat|0=>[]|k+1=>zn k++ck ((G.b k).length+1) k
def zG:List Nat:=G.zn G.c
def zg(a:Nat):Nat:=G.zG.getD a 0
def ze(a:Nat):Nat:=a-G.zb (G.zg a)
def zd(a:Nat):Option Nat:=(G.b<|G.zg a)[G.ze a]?
def zz(a:Nat):Int:=match G.zd a with|V s=>(s:Int)|U=>-1
noncomputable def zj(s:Nat):List Nat:=(cv G.c).filter λk=>G.d k=s
structure zf:Prop where
 c:∀k,k<G.c->G.d k<G.za
 f:∀k,k<G.c->G.a<=G.d k
 d:∀k,k<G.c->∀s∈G.b k,s<G.za
 e:∀k,k<G.c->(G.b k).length<=3
 a:G.c=6
 b:G.za<=10
 g:G.a<G.za
theorem zC(k:Nat):(G.zn k).length=G.zb k:=by induction k with|zero=>rfl|succ k a=>simp[zn,zb,a]
theorem zJ{j k:Nat}(h:j<=k):G.zb j<=G.zb k:=by
 induction k with
 |zero=>simp at h;subst h;exact aO _
 |succ k a=>
  rcases aam h with h|h;.have:=a (by exact an 1 1 0 0 h rfl);simp only[zb];exact aA 0 0 0 0 0 1 this (ds _ _) rfl
  .subst h;exact aO _
theorem zS{k r t:Nat}(a:r<k)(b:t<=(G.b r).length):(G.zn k)[G.zb r+t]?=V r:=by
 induction k with
 |zero=>exact absurd a<|dW _
 |succ k c=>
  unfold zn;by_cases h:r<k;.have:=c h;rw[gQ<|by rw[zC];have:=G.zJ (show r+1<=k by exact h);simp only[zb]at this;exact Gp b this];exact this
  .have:r=k:=by exact be (an 1 1 0 0 a rfl)<|dM h
   subst this;rw[ev<|by rw[zC];exact ds _ _,zC];simp[aak];exact an 0 0 1 1 b rfl
theorem zo{r t:Nat}(a:r<G.c)(b:t<=(G.b r).length):G.zg (G.zb r+t)=r:=by unfold zg zG;rw[rW,G.zS a b];rfl
theorem zq{r t:Nat}(a:r<G.c)(b:t<=(G.b r).length):G.ze (G.zb r+t)=t:=by unfold ze;rw[G.zo a b];exact PW
theorem zt{a:Nat}(h:a<G.zc):∃r t,r<G.c/\t<=(G.b r).length/\a=G.zb r+t:=by
 have:∀k,a<G.zb k->∃r t,r<k/\t<=(G.b r).length/\a=G.zb r+t:=by
  ext k
  induction k with
  |zero=>ext h;simp[zb]at h
  |succ k f=>
   ext h;by_cases b:a<G.zb k;.ext(bk:f b)r t c d e;exact bu r t (by exact an 1 0 1 1 c rfl) d e
   .simp only[zb]at h;exact bu k (a-G.zb k) (by exact aO _) (by exact PX h) (by exact PY b)
 exact this _ h
theorem zK{r t:Nat}(a:r<G.c)(b:t<=(G.b r).length):G.zb r+t<G.zc:=by have:=G.zJ (show r+1<=G.c by exact a);unfold zc;simp only[zb]at this;exact Gp b this
theorem zu{b:Nat}(h:b<G.zc):G.zg b<G.c:=by ext(bk:G.zt h)r t a c d-;rw[G.zo a c];exact a
theorem zL{a:Nat}(h:a<G.zc):G.zG[a]?=V (G.zg a):=by ext(bk:G.zt h)r t b c d-;rw[G.zo b c];exact G.zS b c
theorem zD{a:Nat}(h:a<G.zc):G.zb (G.zg a)<=a:=by ext(bk:G.zt h)r t b c d-;rw[G.zo b c];exact ds _ _
end ap
structure cC where
 a:Nat
 j:Nat
 b:Nat
 c:Nat
 k:Nat
 f:Nat
 g:Nat
 h:Nat
 d:Nat->Nat
 i:Nat->Nat
 e:Nat->Nat
 l:Nat->Nat
instance:Nonempty cC:=⟨by constructor<;>exact cU⟩
structure bm(H:J)(R:cC)(G:ap):Prop where
 c:H[R.a]?=V (.e lj R.j)
 d:H[R.j]?=V (.c [(eF,.a R.b),(eV,Z G.a),(dO,.a R.c),(ib,.a R.k),(iJ,.e),(jz,Z G.e),(ic,.a R.f),(hz,.a R.g),(gw,.a R.h),(sD,Z G.zc)])
 i:H[R.b]?=V (.a<|G.f.map .c)
 a:H[R.c]?=V (.a<|az G.c λl=>.a<|R.d l)
 e:∀l,l<G.c->H[R.d l]?=V (.e fZ<|R.i l)
 f:∀l,l<G.c->H[R.i l]?=V (.c [(cp,Z l),(dD,Z (G.d l)),(el,.a (R.e l)),(jy,.b (G.g l)),(kv,.e),(li,.b 0),(mr,.b 0)])
 b:∀l,l<G.c->H[R.e l]?=V (.b<|(G.b l).map Z)
 j:H[R.f]?=V (.a<|az G.za λs=>.a<|R.l s)
 k:∀s,s<G.za->H[R.l s]?=V (.a<|(G.zj s).map Z)
 g:H[R.g]?=V (.a<|az G.c λl=>Z<|G.zb l)
 h:H[R.h]?=V (.a<|G.zG.map Z)
theorem bm.za{H I:J}{R:cC}{G:ap}(h:bm H R G)(p:H<+:I):bm I R G where c:=ay p h.c;d:=ay p h.d;i:=ay p h.i;a:=ay p h.a;e:=λk a=>ay p<|h.e k a;f:=λk a=>ay p<|h.f k a;b:=λk a=>ay p<|h.b k a;j:=ay p h.j;k:=λs b=>ay p<|h.k s b;g:=ay p h.g;h:=ay p h.h
section
variable{H:J}{R:cC}{G:ap}{d:Nat}{Q:au}
theorem bm.zh(h:bm H R G):cS (.a R.a) eV H Q=Q (Z G.a) H:=by exact bE h.c h.d rfl rfl
theorem bm.zm(h:bm H R G):cS (.a R.a) eF H Q=Q (.a R.b) H:=by exact bE h.c h.d rfl rfl
theorem bm.zc(h:bm H R G):cS (.a R.a) dO H Q=Q (.a R.c) H:=by exact bE h.c h.d rfl rfl
theorem bm.zq(h:bm H R G):cS (.a R.a) ic H Q=Q (.a R.f) H:=by exact bE h.c h.d rfl rfl
theorem bm.zi(h:bm H R G):cS (.a R.a) hz H Q=Q (.a R.g) H:=by exact bE h.c h.d rfl rfl
theorem bm.zj(h:bm H R G):cS (.a R.a) gw H Q=Q (.a R.h) H:=by exact bE h.c h.d rfl rfl
theorem bm.zn(h:bm H R G){k:Nat}(a:k<G.c):cS (.a<|R.d k) cp H Q=Q (Z k) H:=by exact bE (h.e k a) (h.f k a) rfl rfl
theorem bm.zb(h:bm H R G){k:Nat}(a:k<G.c):cS (.a<|R.d k) dD H Q=Q (Z<|G.d k) H:=by exact bE (h.e k a) (h.f k a) rfl rfl
theorem bm.ze(h:bm H R G){k:Nat}(a:k<G.c):cS (.a<|R.d k) el H Q=Q (.a<|R.e k) H:=by exact bE (h.e k a) (h.f k a) rfl rfl
theorem bm.zd(h:bm H R G){m f:Nat}{Q:Nat->Prop}(a:eT lj m=V f)(b:([(Mine.Internal.eF,.a R.b),(Mine.Internal.eV,Z G.a),(Mine.Internal.dO,.a R.c),(Mine.Internal.ib,.a R.k),(Mine.Internal.iJ,.e),(Mine.Internal.jz,Z G.e),(Mine.Internal.ic,.a R.f),(Mine.Internal.hz,.a R.g),(Mine.Internal.gw,.a R.h),(Mine.Internal.sD,Z G.zc)]:List (Nat×O)).lookup m=U):dR (.a R.a) m H Q=Q f:=by exact hh h.c h.d a b
theorem bm.zg(h:bm H R G){Q:Nat->Prop}:dR (.a R.a) pU H Q=Q GX:=h.zd rfl rfl
theorem bm.zf(h:bm H R G){Q:Nat->Prop}:dR (.a R.a) mq H Q=Q GY:=h.zd rfl rfl
theorem bm.zr(h:bm H R G){Q:Nat->Prop}:dR (.a R.a) cp H Q=Q sL:=h.zd rfl rfl
theorem bm.zo(h:bm H R G){Q:Nat->Prop}:dR (.a R.a) sC H Q=Q GZ:=h.zd rfl rfl
theorem bm.zk(h:bm H R G){Q:Nat->Prop}:dR (.a R.a) sF H Q=Q sM:=h.zd rfl rfl
theorem bm.zp(h:bm H R G){Q:Nat->Prop}:dR (.a R.a) sG H Q=Q Ha:=h.zd rfl rfl
theorem bm.zs(h:bm H R G){Q:Nat->Prop}:dR (.a R.a) GN H Q=Q Hb:=h.zd rfl rfl
theorem bm.zl(h:bm H R G){Q:Nat->Prop}:dR (.a R.a) sE H Q=Q Hc:=h.zd rfl rfl
theorem tZ(h:bm H R G):aY (d+1) GX [.a R.a] H Q=Q (Z G.za) H:=by rw[bR BN 0 rfl rfl rfl rfl<|by decide];simp[BN,h.zm,h.i,ap.za]
theorem rm(h:bm H R G){s:Nat}:aY (d+1) GY [.a R.a,Z s] H Q=Q (.d<|aP<|s<G.a) H:=by rw[bR BO 0 rfl rfl rfl rfl<|by decide];simp[BO,h.zh]
theorem CO(h:bm H R G){r t:Nat}(a:r<G.c):aY (d+1) sM [.a R.a,Z r,Z t] H Q=Q (Z<|G.zb r+t) H:=by rw[bR BR 0 rfl rfl rfl rfl<|by decide];simp[BR,h.zi,h.g,cc a];exact Iff.rfl
theorem KK(h:bm H R G){a:Nat}(b:a<G.zc):aY (d+1) Ha [.a R.a,Z a] H Q=Q (Z<|G.zg a) H:=by rw[bR BS 0 rfl rfl rfl rfl<|by decide];simp[BS,h.zj,h.h,G.zL b]
theorem KL{a:Nat}(b:a<G.zc):(a:Int)-(G.zb<|G.zg a:Int)=((G.ze a:Nat):Int):=by have:=G.zD b;unfold ap.ze;exact PZ this
theorem D6(h:bm H R G){b:Nat}(a:b<G.zc):aY (d+1) Hb [.a R.a,Z b] H Q=Q (Z<|G.ze b) H:=by rw[bR BU 0 rfl rfl rfl rfl<|by decide];simp[BU,h.zj,h.h,G.zL a,h.zi,h.g,cc<|G.zu a,KL a]
theorem KM(h:bm H R G){s:Nat}(a:s<G.za)(b:G.c<=16777216):aY (d+1) GZ [.a R.a,Z s] H Q=Q (.a H.length) (H++[.a<|(G.zj s).map Z]):=by
 rw[bR BQ 0 rfl rfl rfl rfl<|by decide];have:(G.zj s).length<=16777216:=by have:=ht (λk=>aP<|G.d k=s)<|cv G.c;rw[ki]at this;exact aj this b
 simp[BQ,h.zq,h.j,cc a,h.k s a,this]
theorem CP(h:bm H R G){a:Nat}(c:a<G.zc):aY (d+1) Hc [.a R.a,Z a] H Q=Q (.b<|G.zz a) H:=by
 rw[bR BV 2 rfl rfl rfl rfl<|by decide];have b:=G.zu c;simp[BV,h.zj,h.h,G.zL c,h.zi,h.g,cc b,KL c,h.zc,h.a,h.ze b,h.b _ b];unfold ap.zz ap.zd;by_cases e:G.ze a<(G.b<|G.zg a).length;.simp[e,h.b _ b]
 .simp[e]
theorem KN(h:bm H R G){a:Nat}(b:a<G.zc):aY (d+2) Hh [.a R.a,Z a] H Q=Q (Z<|a+1) H:=by
 rw[bR Ce 0 rfl rfl rfl rfl<|by decide];have e:((G.ze a:Nat):Int)+1=((G.ze a+1:Nat):Int):=by exact Gj
 have c:G.zb (G.zg a)+(G.ze a+1)=a+1:=by have:=G.zD b;unfold ap.ze;exact Qa this
 simp[Ce,h.zk,h.zp,h.zs,KK h b,D6 h b];rw[e,CO h<|G.zu b,c];exact Iff.rfl
end
open Classical in def dh(p:Prop):Bool:=aP p
theorem ja{p:Prop}:dh p=M↔p:=by unfold dh;simp
theorem rn{p:Prop}{b:Bool}(h:b=M↔p):dh p=b:=by
 cases b;.unfold dh;simp at h;simp[h]
 .unfold dh;simp at h;simp[h]
inductive bN(G:ap):Nat->Prop|mk(k:Nat):k<G.c->(∀s∈G.b k,bN G s)->bN G (G.d k)
structure ex(R:cC)(G:ap)(i:J)(h:Nat)(H:J)(k:Nat->Bool)(l:List Nat)(j:Nat->List Nat)(q:List Nat):Prop where
 a:i<+:H
 d:i.length<=h
 b:H[h]?=V (.a<|az G.za λs=>.d<|k s)
 e:H[h+1]?=V (.a<|l.map Z)
 g:H[h+2+G.za]?=V (.a<|az G.za λs=>.a<|h+2+s)
 c:∀s,s<G.za->H[h+2+s]?=V (.a<|(j s).map Z)
 f:H[h+2+G.za+1]?=V (.a<|q.map Z)
section
variable{R:cC}{G:ap}{d H:J}{a:Nat}{c:Nat->Bool}{e:List Nat}{b:Nat->List Nat}{q:List Nat}
theorem ex.zb(h:ex R G d a H c e b q){s:Nat}{f:Bool}{o:aa}{g:Nat->Bool}(i:o=.a ((az G.za λs=>.d<|c s).set s<|.d f))(j:g=bb c s f):ex R G d a (H.set a o) g e b q:=by
 subst i;subst j
 exact{
  a:=dq h.a h.d
  d:=h.d
  b:=by rw[cq h.b,oD];congr 2;apply hg;ext t l;simp only[bb];split<;>rfl
  e:=aX h.e (by exact bh<|aO _)
  g:=aX h.g (by exact GA)
  c:=λs k=>aX (h.c s k) (by exact GA)
  f:=aX h.f (by exact QY)}
theorem ex.zc(h:ex R G d a H c e b q){f:List Nat}{o:aa}(g:o=.a (f.map Z)):ex R G d a (H.set (a+1) o) c f b q:=by subst g;exact{a:=dq h.a (by have:=h.d;exact an 0 0 0 1 this rfl),d:=h.d,b:=aX h.b (by exact aL<|aO _),e:=cq h.e,g:=aX h.g (by exact GB),c:=λs i=>aX (h.c s i) (by exact GB),f:=aX h.f (by exact QZ)}
theorem ex.zd(h:ex R G d a H c e b q){g:List Nat}{o:aa}(i:o=.a (g.map Z)):ex R G d a (H.set (a+2+G.za+1) o) c e b g:=by subst i;exact{a:=dq h.a (by have:=h.d;exact Ra this),d:=h.d,b:=aX h.b (by exact Rb),e:=aX h.e (by exact Rc),g:=aX h.g (by exact aL<|aO _),c:=λs f=>aX (h.c s f) (by exact Rd f),f:=cq h.f}
theorem ex.ze(h:ex R G d a H c e b q){s:Nat}{l:List Nat}{g:Nat->List Nat}{o:aa}(i:s<G.za)(f:o=.a (l.map Z))(k:∀t,g t=if t=s then l else b t):ex R G d a (H.set (a+2+s) o) c e g q:=by
 subst f
 exact{
  a:=dq h.a (by have:=h.d;exact Re this)
  d:=h.d
  b:=aX h.b (by exact Rf)
  e:=aX h.e (by exact Rg)
  g:=aX h.g (by exact Rh i)
  c:=λt j=>by
   rw[k];by_cases f:t=s;.have f:=f.symm;subst f;rw[if_pos rfl];exact cq<|h.c s j
   .rw[if_neg f];exact aX (h.c t j) (by exact Ri f)
  f:=aX h.f (by exact Rj i)}
theorem ex.za(h:ex R G d a H c e b q){g:Nat->Bool}{i:List Nat}{f:Nat->List Nat}{j:List Nat}(k:g=c)(l:i=e)(m:∀t,f t=b t)(n:j=q):ex R G d a H g i f j:=by subst k;subst l;subst n;rw[show f=b from funext m];exact h
end
namespace ap
variable(G:ap)
noncomputable def zk(k s:Nat):List Nat:=(cv k).flatMap λj=>ck ((G.b j).count s) j
theorem zM(k s:Nat):G.zk (k+1) s=G.zk k s++ck ((G.b k).count s) k:=by simp[zk,nC]
theorem zV(a:G.zf)(s:Nat):∀k,k<=G.c->(G.zk k s).length<=3*k|0,_=>by simp[zk]|k+1,h=>by rw[zM,hR,ML];have:=zV a s k (by exact an 1 0 0 0 h rfl);have:=a.e k (by exact h);have:=aan (a:=s) (l:=G.b k);exact Rk (by assumption) (by assumption) this
theorem zN(s j:Nat):∀k,(G.zk k s).count j=if j<k then(G.b j).count s else 0
 |0=>by simp[zk]
 |k+1=>by
  rw[zM,aao,zN s j k,List.count_replicate];by_cases h:j<k
  .have:¬k=j:=by exact aL h
   simp[h,show j<k+1 by exact an 1 0 1 1 h rfl,this]
  .by_cases a:j=k;.subst a;simp
   .have:¬k=j:=by exact Rl a
    simp[h,show¬j<k+1 by exact Rm h this,this]
theorem zW(s j k:Nat)(h:j∈G.zk k s):j<k:=by
 have a:=List.count_pos_iff.mpr h;rw[zN]at a;by_cases b:j<k;.exact b
 .simp[b]at a
end ap
theorem KO{p:Nat->Bool}{s:Nat}(a:p s=M):∀l:List Nat,l.count s<=l.countP p
 |[]=>by simp
 |t::l=>by
  have:=KO a l;rw[MS,pE];by_cases e:t=s;.subst e;simp[a];exact this
  .have:(t==s)=aq:=by simp[e]
   simp[this];split;exact S0 (by assumption);assumption
theorem D7{p:Nat->Bool}{s:Nat}(c:p s=M):∀{l:List Nat},l.countP p<=l.count s->∀t∈l,p t=M->t=s
 |[],_,t,d,_=>nomatch d
 |a::l,h,t,d,f=>by
  have i:=KO c l;rw[MS,pE]at h;by_cases e:a=s
  .subst e;simp[c]at h;rcases bM.mp d with b|b;.exact b
   .exact D7 c h t b f
  .have g:(a==s)=aq:=by simp[e]
   simp[g]at h;rcases bM.mp d with b|b;.subst b;simp[f]at h;exact(bB 1 0 (aA 0 0 1 0 1 0 i h rfl) rfl).elim
   .exact D7 c (by split at h;exact Y9 h;exact h) t b f
noncomputable def ap.zs(G:ap)(j:Nat)(P:List Nat):Nat:=(G.b j).countP λt=>aP<|t∉P
structure lJ(G:ap)(e:Nat->Bool)(q:List Nat):Prop where
 a:q.Nodup
 b:∀s,e s=M↔s∈q
 c:∀s∈q,s<G.za
 d:∀s∈q,bN G s
theorem lJ.za{G:ap}{d:Nat->Bool}{q:List Nat}(h:lJ G d q){s:Nat}(j:d s=aq)(l:s<G.za)(k:bN G s):lJ G (bb d s M)<|q++[s]where
 a:=by rw[ff];refine aI h.a (by simp) λa i b g=>?_;simp at g;subst g;ext e-;have:=(h.b a).mpr i;rw[j]at this;exact absurd this cG
 b:=λt=>by
  by_cases e:t=s;.subst e;simp
  .rw[bc e,h.b];simp[e]
 c:=λt f=>by
  rcases bU.mp f with c|c;.exact h.c t c
  .simp at c;subst c;exact l
 d:=λt f=>by
  rcases bU.mp f with c|c;.exact h.d t c
  .simp at c;subst c;exact k
theorem lJ.zb{G:ap}{a:Nat->Bool}{q:List Nat}(h:lJ G a q)(b:∀j,j<G.c->G.zs j q=0->G.d j∈q)(s:Nat):dh (bN G s)=a s:=by
 apply rn;rw[h.b];constructor;.exact h.d s
 .ext d;induction d with|mk k c _ f=>refine b k c ?_;unfold ap.zs;rw[List.countP_eq_zero];ext t e;simp;exact f t e
theorem D8{c4:Nat}{H:J}{R:cC}{G:ap}{T:Nat}{b6:au}(B:bm H R G)(a2:G.zf)(e2:H[T]?=V (.a<|az G.za λ_=>.d aq))(e6:∀I e7,H<+:I->I[e7]?=V (.a<|az G.za λs=>.d<|dh<|bN G s)->b6 (.a e7) I):aY (c4+1) GR [.a R.a,.a T] H b6:=by
 delta c4 H R G T b6;ext B a2 e2 e6;rw[bR Bt 10 rfl rfl rfl rfl<|by decide];have b9:=a2.b;have c8:=a2.a;have E:G.za<=16777216:=by exact an 0 10 0 16777216 b9 rfl
 simp[Bt,e2,E];refine hi (λk d6 I=>k<=G.za/\d6=az k (λs=>.a<|H.length+2+s)/\I=H++[.a<|az G.za λ_=>.d aq,.a []]++ck k (.a [])) (aI (by exact fH) rfl<|by simp) ?_ ?_
 .ext k x d6 I b1 p a7 b(lb b)f2 d7-(ac:gf a7)a7 b-;refine⟨?_,?_⟩;.rw[fY];simp
  .simp;refine⟨by exact aA 0 0 0 10 0 16777000 f2 b9 rfl,p _ _<|aI (by exact Rn (by assumption)) ?_ ?_⟩;.rw[<-iX];congr 3;exact GC
   .simp[MT]
 .ext d6 I b(lb b)_ c6;refine⟨by subst c6;rw[fY];simp,?_⟩;rw[gI]at c6⊢;simp;subst c6;generalize c9:H++[aa.a<|az G.za λx=>O.d aq,aa.a []]++ck G.za (aa.a [])++[aa.a<|az G.za λs=>O.a<|H.length+2+s,aa.a []]=d8;have Q:H<+:d8:=by subst c9;simp only[fY];exact kS _ _
  have f0:ex R G H H.length d8 (λ_=>aq) [] (λ_=>[]) []:=by
   subst c9;refine⟨Q,aO _,?_,?_,?_,λs o=>?_,?_⟩;.simp
   .simp
   .rw[ev<|by simp;exact Ro,show H.length+2+G.za-(H++[aa.a<|az G.za λx=>O.d aq,aa.a []]++ck G.za (aa.a [])).length=0 by simp;exact Rp];rfl
   .rw[gQ<|by simp;exact Rq o,ev<|by simp,show H.length+2+s-(H++[aa.a<|az G.za λx=>O.d aq,aa.a []]).length=s by simp];simp[o]
   .rw[ev<|by simp;exact Rr,show H.length+2+G.za+1-(H++[aa.a<|az G.za λx=>O.d aq,aa.a []]++ck G.za (aa.a [])).length=1 by simp;exact Rs];rfl
  have c5:(H++[aa.a<|az G.za λx=>O.d aq,aa.a []]++ck G.za (aa.a [])).length=H.length+2+G.za:=by simp;exact GC
  rw[c5];have e0:=B.za Q;clear c9 c5;simp[e0.zc,e0.a];generalize g0:H.length=d at*;refine bV (λk r I=>∃u v n,r=[V<|.a R.a,V<|.a T,V<|.a d,V<|.a<|d+1,V<|.a<|d+2+G.za,V<|.a<|d+2+G.za+1,u,U,v,n,U,U]/\k<=G.c/\ex R G H d I (λ_=>aq) ((cv k).map λj=>(G.b j).length) (G.zk k) []) (hw U U U rfl (by exact an 6 0 0 0 (ar c8) rfl)<|f0.za rfl rfl (λ_=>rfl) rfl) ?_ ?_
  .ext@k@x@r@I@b1 p c2 a7 b
   exact by
    ext(ld b)u v n z S(ac:gf a7)P b-;have f:=B.za S.a;refine⟨f.a,?_⟩;simp[f.ze P,f.b k P];refine bV (λb0 r I=>∃n,r=[V<|.a R.a,V<|.a T,V<|.a d,V<|.a<|d+1,V<|.a<|d+2+G.za,V<|.a<|d+2+G.za+1,V<|.a<|R.d k,U,V<|Z b0,n,U,U]/\ex R G H d I (λ_=>aq) ((cv k).map λj=>(G.b j).length) (λs=>G.zk k s++ck (((G.b k).take b0).count s) k) []) (ad _ rfl<|S.za rfl rfl (λ_=>by simp) rfl) ?_ ?_
    .ext@b0@x@r@I@b1 p c2 f5 b
     exact by
      ext(nK b)@n S
      exact by
       ext(_:cB f5)@s o b
       exact by
        subst b;have a1:=a2.d k P s<|bs o;have f:=B.za S.a;refine⟨f.b k P,?_⟩;have f3:(G.zk k s).length+((G.b k).take b0).count s<=16777215:=by have:=G.zV a2 s k z;have:=a2.e k P;have:=List.Sublist.count_le s<|fW b0<|G.b k;have:=aan (a:=s) (l:=G.b k);exact Rt c8 P (by assumption) (by assumption) (by assumption) this
        simp[S.b,cc a1,S.g,S.c s a1,f.zn P,f3];refine(p _ _<|ad _ rfl ?_).1;refine S.ze (l:=G.zk k s++ck (((G.b k).take b0).count s) k++[k]) a1 (by simp) λt=>?_;rw[fX,o];by_cases e:t=s;.have e:=e.symm;subst e;simp[MT]
        .simp[e,cy e]
    .ext r I b(nK b)n S;have f:=B.za S.a;refine⟨f.b k P,?_⟩;simp[S.e];refine⟨by exact aA 0 0 0 6 0 16777215 z (aw c8) rfl,(p _ _<|hw _ _ _ rfl (by exact P) ?_).1⟩;refine(S.zc (f:=(cv<|k+1).map λj=>(G.b j).length) ?_).za rfl rfl (λt=>?_) rfl;.simp[nC]
     .simp[ap.zM]
  .ext r I b(ld b)u v n z S;have f:=B.za S.a;refine⟨f.a,?_⟩;simp only[gI]at S;simp[f.zc,f.a];refine bV (λk r I=>∃u v n X q,r=[V<|.a R.a,V<|.a T,V<|.a d,V<|.a<|d+1,V<|.a<|d+2+G.za,V<|.a<|d+2+G.za+1,u,U,v,n,U,U]/\ex R G H d I X ((cv G.c).map λj=>(G.b j).length) (G.zk G.c) q/\lJ G X q/\∀j,j<k->(G.b j).length=0->G.d j∈q) (sq _ _ _ _ _ rfl S ⟨by simp,by simp,by simp,by simp⟩ λ_ h=>absurd h<|dW _) ?_ ?_
   .clear S f z u v n;ext@k@x@r@I@b1 p c2 a7 b
    exact by
     ext(FF b)@u@v@n@X@q S g K
     exact by
      ext(ac:gf a7)z b-;have f:=B.za S.a;refine⟨f.a,?_⟩;have a5:=a2.c k z;simp[f.zn z,f.zb z,S.e,z,S.b,cc a5]
      have c7:∀w:List Nat,(∀s∈q,s∈w)->((G.b k).length=0->G.d k∈w)->∀j,j<k+1->(G.b j).length=0->G.d j∈w:=λw E e8 j m c=>by
       by_cases e:j=k;.have e:=e.symm;subst e;exact e8 c
       .exact E _<|K j (by exact cO m e) c
      refine cE (λc=>?_) λc=>?_
      .simp at c;refine cE (λC=>?_) λC=>?_
       .simp at C;have A:=S.zb (s:=G.d k) (f:=M) rfl rfl;have b3:q.length<=16777215:=by have:=fu g.a g.c;exact aA 0 0 0 10 0 16777215 this b9 rfl
        simp[S.b,a5,f.zb z,(B.za A.a).zb z,A.f,b3];refine(p _ _<|sq _ _ _ _ _ rfl (A.zd (g:=q++[G.d k])<|by simp) (g.za C a5<|.mk k z λs o=>by simp[c]at o)<|c7 _ (by simp+contextual)<|by simp).1
       .simp at C;exact(p _ _<|sq _ _ _ _ _ rfl S g<|c7 _ (λ_ h=>h) λ_=>(g.b _).mp C).1
      .simp at c;refine(p _ _<|sq _ _ _ _ _ rfl S g<|c7 _ (λ_ h=>h) λh=>by simp at h;exact absurd h c).1
   .clear S f z u v n;ext r I b(FF b)u v n X q S g K;have f:=B.za S.a;refine⟨f.a,?_⟩;simp at K;simp;have a4:∀j,j<G.c->G.zs j []=0->G.d j∈q:=λj m c=>K j m (by simpa[ap.zs]using c);refine iZ (λe5 r I=>∃u v n a8 a9 a X q b5,r=[V<|.a R.a,V<|.a T,V<|.a d,V<|.a<|d+1,V<|.a<|d+2+G.za,V<|.a<|d+2+G.za+1,u,V<|Z a,v,n,a8,a9]/\ex R G H d I X (az G.c b5) (G.zk G.c) q/\lJ G X q/\a<=q.length/\(∀j,j<G.c->b5 j=G.zs j (q.take a))/\(∀j,j<G.c->b5 j=0->G.d j∈q)/\e5=G.za-a) (Fo _ _ _ _ _ 0 _ _ (λj=>(G.b j).length) rfl S g (by exact fH) (λj m=>by simp[ap.zs]) (λj m c=>K j m<|by simpa using c) rfl) ?_;clear S f g K a4 u v n;ext@e5@r@I b
    exact by
     ext(Nw b)@u@v@n@a8@a9@a@X@q@b5 S g f8 d0 K d7
     exact by
      subst d7;ext@b1 p c2
      exact by
       have b3:q.length<=G.za:=fu g.a g.c;simp[S.f];refine cE (λb2=>?_) λe1=>?_
       .simp at b2;obtain⟨s,o⟩:∃s,q[a]?=V s:=⟨_,cu b2⟩;delta s;intros _
        exact by
         have a1:=g.c s<|bs o;simp[S.g,S.f,o,cc a1,S.c s a1];refine bV (λa6 r I=>∃a9 a8 b7 w D,r=[V<|.a R.a,V<|.a T,V<|.a d,V<|.a<|d+1,V<|.a<|d+2+G.za,V<|.a<|d+2+G.za+1,u,V<|Z a,v,n,a8,a9]/\ex R G H d I b7 (az G.c D) (G.zk G.c) w/\lJ G b7 w/\q<+:w/\(∀j,j<G.c->D j+((G.zk G.c s).take a6).count j=G.zs j (q.take a))/\(∀j,j<G.c->D j=0->G.d j∈w)) (pK _ _ _ _ _ rfl S g (eg _) (λj m=>by simpa using d0 j m) K) ?_ ?_
         .ext@a6@x@r@I@b1 p c2 f6 b
          exact by
           ext(FG b)@a9@a8@b7@w@D a3 a0 Q c0 a4
           exact by
            ext(_:cB f6)@j m b
            exact by
             subst b;have L:=G.zW s j G.c<|bs m;have f:=B.za a3.a;refine⟨a3.c s a1,?_⟩;have a5:=a2.c j L;have d5:((G.zk G.c s).take<|a6+1).count j=((G.zk G.c s).take a6).count j+1:=by rw[fX,m];simp
             have e3:((G.zk G.c s).take<|a6+1).count j<=(G.b j).count s:=by have E:=List.Sublist.count_le j<|fW (a6+1)<|G.zk G.c s;rw[ap.zN,if_pos L]at E;exact E
             have c3:s∉q.take a:=by ext d4(aD:MU.mp d4)i b(@aD b)y d2;have:=jO g.a (i:=i) (j:=a) (x:=s) (by rw[cu<|by exact aj y<|hQ _ _,d2]) o;exact bB 1 0 (aj (aA 0 0 1 0 1 0 (ar this) y rfl)<|hP _ _) rfl
             have f1:(G.b j).count s<=G.zs j (q.take a):=KO (by simp[c3]) _;have d1:=c0 j L;obtain⟨l,d3⟩:∃l,D j=l+1:=⟨D j-1,by exact Ru d5 e3 f1 d1⟩;delta l;intros _
             exact by
              have c5:((l+1:Nat):Int)-1=(l:Nat):=by exact vP
              have A:=a3.zc (f:=az G.c<|bb D j l) (o:=.a<|((az G.c D).map Z).set j<|Z l) (by rw[kL,oD,kL];congr 1;apply hg;ext t e4;simp only[bb];split<;>rfl);have b4:=B.za A.a
              have c1:∀i,i<G.c->bb D j l i+((G.zk G.c s).take<|a6+1).count i=G.zs i (q.take a):=λi y=>by
               delta i;intros _
               exact by
                by_cases e:i=j;.have e:=e.symm;subst e;rw[bx,d5];exact Rv d1 d3
                .rw[bc e,fX,m,aao];have:=c0 i y;simp[cy e];exact this
              simp only[kL]at A b4;simp[a3.e,kL,cc L,d3];refine⟨L,?_⟩;simp[b4.zc,b4.a,cc L,b4.zb L,A.e,kL,A.b,cc a5];refine cE (λc=>?_) λc=>?_
              .simp at c;refine cE (λC=>?_) λC=>?_
               .simp at C;have d9:=A.zb (s:=G.d j) (f:=M) rfl rfl;have b3:w.length<=16777215:=by have:=fu a0.a a0.c;exact aA 0 0 0 10 0 16777215 this b9 rfl
                have f4:bN G<|G.d j:=by
                 refine .mk j L λt e4=>?_;by_cases e:t∈q.take a;.exact g.d t<|kW e
                 .have e9:=c1 j L;rw[bx]at e9;have:t=s:=D7 (s:=s) (p:=λt=>aP<|t∉q.take a) (by simp[c3]) (by show G.zs j (q.take a)<=_;exact Rw d5 e3 d1 d3 c) t e4 (by simp[e]);subst this;exact g.d t<|bs o
                refine⟨a5,?_⟩;simp[d9.f,b3];refine(p _ _<|pK _ _ _ _ _ rfl (d9.zd (g:=w++[G.d j])<|by simp) (a0.za C a5 f4) (Q.trans<|kS _ _) c1 λi y c=>?_).1;by_cases e:i=j;.have e:=e.symm;subst e;simp
                .rw[bc e]at c;exact gS _<|a4 i y c
               .simp at C;refine(p _ _<|pK _ _ _ _ _ rfl A a0 Q c1 λi y c=>?_).1;by_cases e:i=j;.have e:=e.symm;subst e;exact(a0.b _).mp C
                .rw[bc e]at c;exact a4 i y c
              .simp at c;refine(p _ _<|pK _ _ _ _ _ rfl A a0 Q c1 λi y b8=>?_).1;by_cases e:i=j;.have e:=e.symm;subst e;rw[bx]at b8;exact absurd b8 c
               .rw[bc e]at b8;exact a4 i y b8
         .ext r I b(FG b)a9 a8 b7 w D a3 a0 Q c0 a4;refine⟨a3.c s a1,?_⟩;simp;refine(p (G.za-(a+1)) _ _ (by exact Rx b3 b2)<|Fo _ _ _ _ _ (a+1) _ _ _ rfl a3 a0 (by have:=Q.length_le;exact aj b2 this) (λj m=>?_) a4 rfl).1;have e:w.take (a+1)=q.take a++[s]:=by obtain⟨t,rfl⟩:=Q;rw[aap<|by exact b2,fX,o];rfl
          rw[e];have E:=c0 j m;simp only[bC,fj,ap.zN,m,if_true]at E;have c3:s∉q.take a:=by ext d4(aD:MU.mp d4)i b(@aD b)y d2;have f9:=bi.mp o;have:=jO g.a (i:=i) (j:=a) (x:=s) (by rw[cu<|by exact aj y<|hQ _ _,d2]) o;exact bB 1 0 (aj (aA 0 0 1 0 1 0 (ar this) y rfl)<|hP _ _) rfl
          have:∀l:List Nat,l.countP (λt=>aP<|t∉q.take a++[s])+l.count s=l.countP (λt=>aP<|t∉q.take a):=by
           ext l
           induction l with
           |nil=>simp
           |cons t l f7=>
            delta t l;intros _
            exact by
             rw[pE,pE,MS,<-f7];by_cases e:t=s;.have e:=e.symm;subst e;simp[c3];exact be (aO _)<|aO _
             .simp[e];split<;>exact LI ..
          have:=this<|G.b j;unfold ap.zs at E⊢;exact Ry E this
       .simp at e1;refine e6 _ _ S.a ?_;rw[S.b];congr 2;apply hg;ext s o;have:q.take a=q:=EN e1;rw[this]at d0;rw[g.zb (λj m c=>K j m<|by rw[d0 j m];exact c) s]
theorem CQ{d:Nat}{H:J}{R:cC}{G:ap}{Q:au}(e:bm H R G)(b:G.zf)(q:∀I r,H<+:I->I[r]?=V (.a<|az G.za λs=>.d<|dh<|bN G s)->Q (.a r) I):aY (d+2) sK [.a R.a] H Q:=by
 rw[bR Bu 0 rfl rfl rfl rfl<|by decide];have c:=b.b;have a:=e.za<|aB H [aa.a [.d aq]];simp[Bu,a.zg,tZ a];refine⟨by exact vN c,?_⟩;refine D8 (a.za (aB _ [aa.a<|ck G.za<|.d aq])|>λh=>by simpa using h) b ?_ λI r f g=>?_;.simp[tV]
 .refine q _ _ ((aB H _).trans f) g
noncomputable def dz(n:Nat)(p:Nat->Prop):Nat:=match n with|0=>0|n+1=>dz n p|||(if dh (p n)then 2^n else 0)
theorem io{p:Nat->Prop}{t:Nat}:∀n,(dz n p).testBit t=M↔t<n/\p t
 |0=>by simp[dz]
 |n+1=>by
  rw[dz,gq,iC,io n];by_cases h:p n
  .have:dh (p n)=M:=ja.mpr h;simp only[this,if_true,EO,decide_eq_true_eq];constructor
   .rintro(⟨c,a⟩|rfl);.exact⟨by exact an 1 0 1 1 c rfl,a⟩
    .exact⟨by exact aO _,h⟩
   .ext b(@ac b)c a;by_cases e:n=t;.exact .inr e
    .exact .inl ⟨by exact RC c e,a⟩
  .have:dh (p n)=aq:=rn (by simp[h]);simp only[this,if_false,Nat.zero_testBit,fi,or_false];constructor;.ext b(@ac b)c a;exact⟨by exact an 1 0 1 1 c rfl,a⟩
   .ext b(@ac b)c a;by_cases e:t=n;.subst e;exact absurd a h
    .exact⟨by exact cO c e,a⟩
theorem CR(n:Nat)(p:Nat->Prop):dz n p<2^n:=by
 apply aaq;ext i a;cases h:(dz n p).testBit i;.rfl
 .have:=((io n).mp h).1;exact(bB 1 0 (aA 0 0 1 0 1 0 a this rfl) rfl).elim
theorem oE{n m:Nat}{p:Nat->Prop}(h:∀t,m.testBit t=M↔t<n/\p t):m=dz n p:=by apply EP;ext t;have:=(h t).trans (io n (p:=p)).symm;exact T8.mpr this
theorem KP{n:Nat}{p d:Nat->Prop}(h:∀t,t<n->(p t↔d t)):dz n p=dz n d:=by apply oE;ext t;rw[io];exact⟨λc=>ac c λa b=>⟨a,(h t a).mp b⟩,λc=>ac c λa b=>⟨a,(h t a).mpr b⟩⟩
theorem KQ{m n:Nat}(h:∀t,m.testBit t=M->t<n):m<2^n:=by
 apply aaq;ext i a;cases e:m.testBit i;.rfl
 .have:=h i e;exact(bB 1 0 (aA 0 0 1 0 1 0 a this rfl) rfl).elim
theorem CS{a b:Nat}:a|||b=a↔∀t,b.testBit t=M->a.testBit t=M:=by
 constructor;.ext h t c;rw[<-h,gq,c,Bool.or_true]
 .ext h;apply EP;ext t;rw[gq];cases c:b.testBit t;.simp
  .simp[h t c]
theorem KR(a b:Nat):a<=a|||b:=Nat.left_le_or
noncomputable def lK(b:Nat->Prop)(a:Nat->Nat->Prop):List Nat->Nat->Prop|[],_=>False|s::r,t=>a s t\/(b s/\lK b a r t)
theorem oF{k:Nat->Prop}{j:Nat->Nat->Prop}{t:Nat}:∀{l:List Nat},lK k j l t↔∃c s d,l=c++s::d/\(∀u∈c,k u)/\j s t
 |[]=>by simp[lK]
 |a::l=>by
  unfold lK;rw[oF];constructor
  .rintro(h|⟨m,c,s,d,rfl,f,g⟩);.exact hw ([]) a l rfl (by simp) h
   .exact hw (a::c) s d rfl (by simpa using⟨m,f⟩) g
  .ext i(@la i)c s d e f g;cases c with|nil=>simp at e;ext(ec e)i-;exact .inl g|cons b c=>simp at e;obtain⟨rfl,rfl⟩:=e;exact .inr ⟨f a<|by simp,c,s,d,rfl,λu n=>f u<|by simp[n],g⟩
inductive ee(G:ap):Nat->Nat->Prop|a(t:Nat):t<G.a->ee G t t|b(k t s:Nat)(c d:List Nat):k<G.c->G.b k=c++s::d->(∀u∈c,bN G u)->ee G s t->ee G (G.d k) t
theorem ee.za{G:ap}{s t:Nat}(h:ee G s t):t<G.a:=by induction h with|a t h=>exact h|b _ _ _ _ _ _ _ _ _ a=>exact a
abbrev gJ(G:ap):List Nat->Nat->Prop:=lK (bN G)<|ee G
theorem KS{a:Nat->Bool}{b:Nat->Nat}{t:Nat}:∀{l:List Nat}{m:Nat},(hj a b m l).1.testBit t=M↔m.testBit t=M\/lK (λs=>a s=M) (λs t=>(b s).testBit t=M) l t
 |[],m=>by simp[hj,lK]
 |s::r,m=>by
  unfold hj lK;cases h:a s;.simp
  .simp only[if_true];rw[KS,gq,iC];simp[or_assoc]
noncomputable def db(n:Nat)(g:Nat->Nat):Nat:=((cv n).map g).sum
theorem jP(n:Nat)(g:Nat->Nat):db (n+1) g=db n g+g n:=by simp[db,nC]
theorem CT{n:Nat}{g a:Nat->Nat}(h:∀s,s<n->g s=a s):db n g=db n a:=by unfold db;rw[jp λs b=>h s<|fE.mp b]
theorem D9{n:Nat}{g a:Nat->Nat}{s:Nat}(c:s<n)(d:a s<g s)(b:∀t,t≠s->a t=g t):db n a<db n g:=by
 induction n with
 |zero=>exact RD c
 |succ n h=>
  rw[jP,jP];by_cases e:s=n;.subst e;have:=CT (n:=s) λt f=>b t (by exact bh f);exact RE d this
  .have:=h (by exact cO c e);rw[b n<|cy e];exact RF this
def ip(n b:Nat)(a:Nat->Nat):Nat:=db n λs=>2^b-a s
theorem KT{n b:Nat}{a:Nat->Nat}{s v:Nat}(e:s<n)(c:a s<v)(d:v<2^b):ip n b (bb a s v)<ip n b a:=by
 refine D9 e ?_ λt f=>by rw[bc f]
 rw[bx];exact RG c d
structure fv(n:Nat)(d:J)(i:Nat)(H:J)(e:Nat->Nat):Prop where
 a:d<+:H
 c:d.length<=i
 b:H[i]?=V (.a<|az n λs=>Z<|e s)
theorem fv.zb{n:Nat}{b:J}{i:Nat}{H I:J}{a:Nat->Nat}(h:fv n b i H a)(p:H<+:I):fv n b i I a:=⟨h.a.trans p,h.c,ay p h.b⟩
theorem fv.za{n:Nat}{c:J}{i:Nat}{H:J}{a b:Nat->Nat}{s v:Nat}{o:aa}(h:fv n c i H a)(e:o=.a ((az n λs=>Z<|a s).set s<|Z v))(d:b=bb a s v):fv n c i (H.set i o) b:=by subst e;subst d;refine⟨dq h.a h.c,h.c,?_⟩;rw[cq h.b,oD];congr 2;apply hg;ext t f;simp only[bb];split<;>rfl
structure jQ(G:ap)(c:Nat->Nat):Prop where
 a:∀s t,(c s).testBit t=M->ee G s t
 b:∀t,t<G.a->(c t).testBit t=M
def CU(G:ap)(a:Nat->Nat)(k:Nat):Prop:=a (G.d k)|||(hj (λs=>dh<|bN G s) a 0<|G.b k).1=a (G.d k)
theorem jQ.za{G:ap}{a:Nat->Nat}(h:jQ G a)(s:Nat):a s<2^G.a:=KQ λt b=>(h.a s t b).za
theorem jQ.zb{G:ap}{b:Nat->Nat}(h:jQ G b)(c:∀k,k<G.c->CU G b k)(s:Nat):b s=dz G.a (ee G s):=by
 apply oE;ext t;constructor;.ext a;exact⟨(h.a s t a).za,h.a s t a⟩
 .rintro⟨_,d⟩;induction d with|a t a=>exact h.b t a|b k t s m l f e g n j=>refine CS.mp (c k f) t<|KS.mpr<|.inr ?_;exact oF.mpr ⟨m,s,l,e,λu i=>ja.mpr<|g u i,j<|by assumption⟩
theorem jQ.zc{G:ap}{b:Nat->Nat}(h:jQ G b){k:Nat}(f:k<G.c):jQ G<|bb b (G.d k)<|b (G.d k)|||(hj (λs=>dh<|bN G s) b 0<|G.b k).1 where
 a:=λs t a=>by
  by_cases e:s=G.d k
  .subst e;rw[bx,gq,iC]at a;rcases a with a|a;.exact h.a _ t a
   .rcases KS.mp a with c|d;.simp at c
    .ext(la:oF.mp d)m s l e g i;exact .b k t s m l f e (λu j=>ja.mp<|g u j)<|h.a s t i
  .rw[bc e]at a;exact h.a s t a
 b:=λt a=>by
  by_cases e:t=G.d k;.subst e;rw[bx,gq,h.b _ a];rfl
  .rw[bc e];exact h.b t a
def oG(G:ap)(s:Nat):Nat:=dz G.a<|ee G s
theorem E0{d:Nat}{H:J}{R:cC}{G:ap}{Q:au}(L:bm H R G)(A:G.zf)(b1:∀I b2,H<+:I->I[b2]?=V (.a<|az G.za λs=>Z<|oG G s)->Q (.a b2) I):aY (d+3) GT [.a R.a] H Q:=by
 delta d H R G Q;ext L A b1;rw[bR Bw 6 rfl rfl rfl rfl<|by decide];have C:=A.b;simp[Bw];refine CQ L A ?_;ext@x@a0 a8 b4
 exact by
  have t:=L.za a8;have a6:=t.za<|aB x [aa.a []];simp[a6.zg,tZ a6,jM];refine⟨by exact an 0 10 0 16777216 C rfl,?_⟩;generalize a7:x.length=i;refine bV (λk r I=>∃p,r=[V<|.a R.a,V<|.a a0,V<|.a i,p,U,U,U]/\k<=G.za/\fv k x i I (λs=>if s<G.a then 2^s else 0)) (aT _ rfl (by exact fH) ⟨aB _ _,by exact aw a7,by subst a7;simp[az]⟩) ?_ ?_
  .ext@k@b8@r@I@a2 q a9 X a
   exact by
    ext(lc a)p u S(ac:jN X)P a-;have f:=t.za S.a;refine⟨trivial,?_⟩;have c2:k<G.a\/¬k<G.a:=by exact RH
    simp[S.b,f.zf,rm f];refine cE (λh=>?_) λh=>?_
    .simp at h;have c1:(1:Int)*2^k=((2^k:Nat):Int):=by simp
     refine aI (by exact vO C P) (by exact aA 0 0 0 10 0 16777215 u C rfl)<|(q _ _<|aT _ rfl (by exact P) ⟨dq S.a S.c,S.c,?_⟩).1;rw[cq S.b,<-iX];simp[h]
    .simp at h;refine⟨by exact aA 0 0 0 10 0 16777215 u C rfl,(q _ _<|aT _ rfl (by exact P) ⟨dq S.a S.c,S.c,?_⟩).1⟩;rw[cq S.b,<-iX];simp[show¬k<G.a by exact pr h]
  .ext r I a(lc a)p u S;simp only[bC,ki]at S;refine⟨trivial,?_⟩;simp
   have a3:jQ G λs=>if s<G.a then 2^s else 0:=⟨λs b7 z=>by
    by_cases h:s<G.a;.simp[h,EO]at z;subst z;exact .a s h
    .simp[h]at z,λb7 z=>by simp[z,EO]⟩;refine iZ (λb0 r I=>∃b p v w m,r=[V<|.a R.a,V<|.a a0,V<|.a i,p,V<|.d b,v,w]/\fv G.za x i I m/\jQ G m/\(b=aq->∀k,k<G.c->CU G m k)/\b0=ip G.za G.a m+(if b then 1 else 0)) (nH M _ _ _ _ rfl S a3 (by simp) rfl) ?_;clear S a3 u p;ext@b0@r@I a
   exact by
    ext(su a)@b@p@v@w@m S a4 n b9
    exact by
     subst b9;ext@a2 q a9
     exact by
      simp;refine cE (λh=>?_) λh=>?_
      .subst h;have f:=t.za S.a;simp[f.zc,f.a];refine bV (λk r I=>∃g v w c,r=[V<|.a R.a,V<|.a a0,V<|.a i,p,V<|.d g,v,w]/\fv G.za x i I c/\jQ G c/\(g=aq->c=m/\∀j,j<k->CU G m j)/\(g=M->ip G.za G.a c<ip G.za G.a m)) (dY aq _ _ _ rfl S a4 (λ_=>⟨rfl,λ_ h=>absurd h<|dW _⟩)<|by simp) ?_ ?_
       .ext@k@b8@r@I@a2 q a9 X a
        exact by
         ext(FB a)@g@v@w@c S E l D
         exact by
          ext(ac:gf X)o a-;have f:=t.za S.a;have K:=A.c k o;refine⟨f.a,?_⟩;simp[f.zb o,f.ze o,S.b,cc K];refine D5 (f.b k o) (ay S.a b4) S.b (A.d k o) λc0 c4 b5 b6=>?_;have y:=S.zb b5;have a1:=t.za y.a;simp[b6,a1.zb o,y.b,cc K];refine cE (λh=>?_) λh=>?_
          .simp at h;have B:c (G.d k)|||(hj (λs=>dh<|bN G s) c 0<|G.b k).1≠c (G.d k):=by exact_mod_cast h
           simp[a1.zb o,y.b,K];have a5:=E.zc o;refine(q _ _<|dY M _ _ _ rfl (y.za rfl rfl) a5 (by simp) λ_=>?_).1;have T:=KT (a:=c) (b:=G.a) K (ho (KR _ _)<|cy B) (by have:=a5.za<|G.d k;rw[bx]at this;exact this);cases g;.rw[(l rfl).1]at T⊢;exact T
           .exact gm T<|D rfl
          .simp at h;have B:c (G.d k)|||(hj (λs=>dh<|bN G s) c 0<|G.b k).1=c (G.d k):=by exact_mod_cast h
           refine(q _ _<|dY g _ _ _ rfl y E (λn=>⟨(l n).1,λj b3=>?_⟩) D).1;by_cases e:j=k;.have e:=e.symm;subst e;rw[(l n).1]at B;exact B
           .exact(l n).2 j (by exact cO b3 e)
       .ext r I a(FB a)g v w c S E l D;have f:=t.za S.a;refine⟨f.a,?_⟩;simp only[gI]at l;refine(q _ _ _ ?_<|nH g _ _ _ _ rfl S E (λn k u=>?_) rfl).1
        .cases g;.rw[(l rfl).1];simp
         .have:=D rfl;simp;exact this
        .rw[(l n).1];exact(l n).2 k u
      .subst h;refine b1 _ _ (a8.trans S.a) ?_;rw[S.b];congr 2;apply hg;ext s c3;rw[a4.zb (n rfl) s];rfl
theorem bN.za{G:ap}(b:G.zf){s:Nat}(h:bN G s):G.a<=s:=by cases h with|mk k a _=>exact b.f k a
theorem CV{G:ap}{s t:Nat}:(oG G s).testBit t=M↔ee G s t:=by unfold oG;rw[io];exact⟨λh=>h.2,λh=>⟨h.za,h⟩⟩
inductive jb(G:ap):Nat->Nat->Prop|a(k:Nat)(d:List Nat)(B:Nat)(c:List Nat)(t:Nat):k<G.c->G.b k=d++B::c->G.a<=B->gJ G c t->jb G B t|b(k:Nat)(d:List Nat)(B:Nat)(c:List Nat)(t:Nat):k<G.c->G.b k=d++B::c->G.a<=B->(∀u∈c,bN G u)->jb G (G.d k) t->jb G B t
theorem gJ.za{G:ap}{l:List Nat}{t:Nat}(h:gJ G l t):t<G.a:=by ext(la:oF.mp h)b s a w w h;exact h.za
theorem jb.za{G:ap}{s t:Nat}(h:jb G s t):t<G.a:=by induction h with|a _ _ _ _ _ _ _ _ h=>exact gJ.za h|b _ _ _ _ _ _ _ _ _ _ a=>exact a
noncomputable def gg(G:ap)(a:Nat):List Nat->Nat|[]=>a|s::b=>if s<G.a then oG G s else if dh (bN G s)then gg G a b|||oG G s else oG G s
theorem CW{G:ap}(e:G.zf){d t:Nat}:∀{a:List Nat},(gg G d a).testBit t=M↔gJ G a t\/((∀u∈a,bN G u)/\d.testBit t=M)
 |[]=>by simp[gg,lK,gJ]
 |s::a=>by
  unfold gg;have f:gJ G (s::a) t↔ee G s t\/(bN G s/\gJ G a t):=Iff.rfl;rw[f];by_cases b:s<G.a
  .have g:¬bN G s:=λh=>by have:=h.za e;exact bB 1 0 (aj b this) rfl
   simp[b,CV,g]
  .by_cases c:bN G s
   .have:dh (bN G s)=M:=ja.mpr c;simp only[b,if_false,this,if_true,gq,iC];rw[CW e,CV];simp only[bM,forall_eq_or_imp,c,true_and];constructor
    .rintro((h|h)|h);.exact .inl<|.inr h
     .exact .inr h
     .exact .inl<|.inl h
    .rintro((h|h)|h);.exact .inr h
     .exact .inl<|.inl h
     .exact .inl<|.inr h
   .have:dh (bN G s)=aq:=rn (by simp[c]);simp only[b,if_false,this,fi,CV];simp[c]
def jR(G:ap)(a:Nat->Nat):Prop:=∀s t,(a s).testBit t=M->jb G s t
def kN(G:ap)(a:Nat->Nat)(k p:Nat):Prop:=∀c s b,G.b k=c++s::b->b.length<p->G.a<=s->a s|||gg G (a<|G.d k) b=a s
theorem jR.za{G:ap}{a:Nat->Nat}(h:jR G a)(s:Nat):a s<2^G.a:=KQ λt b=>(h s t b).za
theorem jR.zb{G:ap}(l:G.zf){a:Nat->Nat}(h:jR G a)(i:∀k,k<G.c->kN G a k (G.b k).length)(s:Nat):a s=dz G.a (jb G s):=by
 apply oE;ext t;constructor;.ext j;exact⟨(h s t j).za,h s t j⟩
 .rintro⟨_,m⟩;induction m with|a k g B f t c e b d=>exact CS.mp (i k c g B f e (by rw[e];simp;exact an 0 0 1 1 (DX _ _) rfl) b) t<|(CW l).mpr<|.inl d|b k g B f t c e b d o n=>exact CS.mp (i k c g B f e (by rw[e];simp;exact an 0 0 1 1 (DX _ _) rfl) b) t<|(CW l).mpr<|.inr ⟨d,n<|by assumption⟩
theorem jR.zc{G:ap}(o:G.zf){c:Nat->Nat}(h:jR G c){k i:Nat}(j:k<G.c)(n:∀t,i.testBit t=M->jb G (G.d k) t){f b:List Nat}{s:Nat}(e:G.b k=f++s::b)(l:G.a<=s):jR G<|bb c s<|c s|||gg G i b:=by
 ext u t a;by_cases g:u=s
 .subst g;rw[bx,gq,iC]at a;rcases a with a|a;.exact h _ t a
  .rcases(CW o).mp a with d|⟨d,m⟩;.exact .a k f u b t j e l d
   .exact .b k f u b t j e l d<|n t m
 .rw[bc g]at a;exact h u t a
def hk(G:ap)(s:Nat):Nat:=dz G.a<|jb G s
theorem E1{a9:Nat}{a1:J}{R:cC}{G:ap}{a3:au}(b1:bm a1 R G)(B:G.zf)(d7:∀I e0,a1<+:I->I[e0]?=V (.a<|az G.za λs=>Z<|hk G s)->a3 (.a e0) I):aY (a9+4) GU [.a R.a] a1 a3:=by
 delta a9 a1 R G a3;ext b1 B d7;rw[bR Bx 7 rfl rfl rfl rfl<|by decide];have e2:=B.b;simp[Bx];refine CQ b1 B ?_;ext@f3@b7 d3 a6
 exact by
  have c6:=b1.za d3;refine E0 c6 B ?_;ext@C@b8 x K
  exact by
   have P:=c6.za x;have a6:=ay x a6;have c7:=P.za<|aB C [aa.a [.b 0]];simp[c7.zg,tZ c7];refine⟨by exact vN e2,?_⟩;generalize d0:C.length+1=i;have e1:fv G.za C i (C++[aa.a [.b 0],aa.a<|ck G.za<|.b 0]) λ_=>0:=⟨aB _ _,by exact an 1 0 0 0 (aw d0) rfl,by subst d0;simp[tV];rfl⟩;refine iZ (λd6 v I=>∃a5 X a0 u g,v=[V<|.a R.a,V<|.a b7,V<|.a b8,V<|.a i,V<|.d a5,X,a0,u]/\fv G.za C i I g/\jR G g/\(a5=aq->∀k,k<G.c->kN G g k (G.b k).length)/\d6=ip G.za G.a g+(if a5 then 1 else 0)) (nH M _ _ _ _ rfl e1 (λs c3 h=>by simp at h) (by simp) rfl) ?_;ext@d6@v@I f
   exact by
    ext(su f)@a5@X@a0@u@g S c5 d a2
    exact by
     subst a2;ext@c4 w d4
     exact by
      simp;refine cE (λh=>?_) λh=>?_
      .subst h;have m:=P.za S.a;simp[m.zc,m.a];refine bV (λk v I=>∃b X a0 u a,v=[V<|.a R.a,V<|.a b7,V<|.a b8,V<|.a i,V<|.d b,X,a0,u]/\fv G.za C i I a/\jR G a/\(b=aq->a=g/\∀j,j<k->kN G g j (G.b j).length)/\(b=M->ip G.za G.a a<ip G.za G.a g)) (nH aq _ _ _ _ rfl S c5 (λ_=>⟨rfl,λ_ h=>absurd h<|dW _⟩)<|by simp) ?_ ?_
       .ext@k@f2@v@I@c4 w d4 f0 f
        exact by
         ext(su f)@b@X@a0@u@a S n c r
         exact by
          ext(ac:gf f0)A f-;have m:=P.za S.a;have e8:=B.c k A;refine⟨m.a,?_⟩;simp[m.zb A,m.ze A,S.b,cc e8,m.b k A];generalize b2:a (G.d k)=t;have e5:∀c3,t.testBit c3=M->jb G (G.d k) c3:=by subst b2;exact n _
          have c8:b=aq->t=g (G.d k):=λh=>by subst b2;rw[(c h).1]
          clear b2;refine bV (λp v I=>∃b u a q l,v=[V<|.a R.a,V<|.a b7,V<|.a b8,V<|.a i,V<|.d b,V<|.a<|R.d k,V<|Z<|gg G t l,u]/\fv G.za C i I a/\jR G a/\G.b k=q++l/\l.length=p/\(b=aq->t=g (G.d k)/\a=g/\(∀j,j<k->kN G g j (G.b j).length)/\kN G g k p)/\(b=M->ip G.za G.a a<ip G.za G.a g)) (nI b _ _ (G.b k) ([]) rfl S n (by simp) rfl (λh=>dC (c8 h) ((c h).1) ((c h).2) λ_ _ _ _ h=>by exact RI h) r) ?_ ?_
          .clear S n c r c8 m;ext@p@f2@v@I@c4 w d4 d2 f
           exact by
            ext(FH f)@b@u@a@q@l S n e o c r
            exact by
             rw[<-List.map_reverse]at d2;ext(_:cB d2)@s y f
             exact by
              subst f;have e9:s∈G.b k:=List.mem_reverse.mp<|bs y
              obtain⟨q,rfl⟩:∃b9,q=b9++[s]:=by
               rw[e,List.reverse_append,ev<|by simp;exact aw o]at y;simp only[Mp,o,Nat.sub_self]at y;rcases List.eq_nil_or_concat q with h|⟨b9,f4,h⟩;.subst h;simp at y
               .subst h;simp at y;have y:=y.symm;subst y;exact⟨b9,by simp⟩
              have z:G.b k=q++s::l:=by rw[e];simp
              have T:=B.d k A s e9;have m:=P.za S.a;have b6:=ay S.a a6;have a7:=ay S.a K;refine⟨by simpa using m.b k A,?_⟩;simp[m.zf,rm m]
              have e3:b=aq->G.a<=s->(a s|||gg G t l=a s)->kN G g k (p+1):=λd d1 Q c0 c2 L D b3 K=>by
               ext(ei:c d)d8 d9 f1 c1;by_cases x:L.length<p;.exact c1 c0 c2 L D x K
               .have b4:L.length=l.length:=by exact be (aA 1 1 0 0 0 0 b3 (ar o) rfl)<|aj (aw o)<|dM x
                rw[z]at D;ext(ac:aar D (by simp[b4]))_ E;simp at E;ext(@ac E)f a2;subst f;subst a2;rw[<-d8,<-d9];exact Q
              have e4:b=aq->s<G.a->kN G g k (p+1):=λd d1 c0 c2 L D b3 K=>by
               ext(ei:c d)d8 d9 f1 c1;by_cases x:L.length<p;.exact c1 c0 c2 L D x K
               .have b4:L.length=l.length:=by exact be (aA 1 1 0 0 0 0 b3 (ar o) rfl)<|aj (aw o)<|dM x
                rw[z]at D;ext(ac:aar D (by simp[b4]))_ E;simp at E;ext(@ac E)f a2;subst f;subst a2;exact(bB 1 0 (aj d1 K) rfl).elim
              refine cE (λh=>?_) λh=>?_;.simp at h;simp[a7,cc T];refine(w _ _<|nI b (V<|Z s) a q (s::l) ?_ S n z (by simp[o]) (λd=>dC ((c d).1) ((c d).2.1) ((c d).2.2.1)<|e4 d h) r).2;simp[gg,h]
              .simp at h;simp[S.b,cc T];refine cE (λa8=>?_) λQ=>?_
               .simp at a8;have a8:a s|||gg G t l≠a s:=by exact_mod_cast a8
                have b0:=n.zc B A e5 z h;have a4:=S.za (s:=s) (v:=a s|||gg G t l) rfl rfl;have b6:=ay a4.a a6;have a7:=ay a4.a K;have b5:=KT (a:=a) (b:=G.a) T (ho (KR _ _)<|cy a8) (by have:=b0.za s;rw[bx]at this;exact this);refine⟨T,?_⟩;simp[b6,a7,cc T]
                have d5:ip G.za G.a (bb a s<|a s|||gg G t l)<ip G.za G.a g:=by
                 cases b;.rw[(c rfl).2.1]at b5⊢;exact b5
                 .exact gm b5<|r rfl
                refine cE (λH=>?_) λH=>?_;.refine(w _ _<|nI M (V<|Z s) _ q (s::l) ?_ a4 b0 z (by simp[o]) (by simp) λ_=>d5).1;simp[gg,H,show¬s<G.a by exact pr h]
                .refine(w _ _<|nI M (V<|Z s) _ q (s::l) ?_ a4 b0 z (by simp[o]) (by simp) λ_=>d5).1;simp[gg,H,show¬s<G.a by exact pr h]
               .simp at Q;have Q:a s|||gg G t l=a s:=by exact_mod_cast Q
                simp[b6,a7,cc T];have c9:b=aq->t=g (G.d k)/\a=g/\(∀j,j<k->kN G g j (G.b j).length)/\kN G g k (p+1):=λd=>dC ((c d).1) ((c d).2.1) ((c d).2.2.1)<|e3 d h Q;refine cE (λH=>?_) λH=>?_;.refine(w _ _<|nI b (V<|Z s) _ q (s::l) ?_ S n z (by simp[o]) c9 r).1;simp[gg,H,show¬s<G.a by exact pr h]
                .refine(w _ _<|nI b (V<|Z s) _ q (s::l) ?_ S n z (by simp[o]) c9 r).1;simp[gg,H,show¬s<G.a by exact pr h]
          .ext v I f(FH f)b u a q l S n e o c r;have m:=P.za S.a;refine⟨m.b k A,(w _ _<|nH b _ _ _ _ rfl S n (λd=>⟨(c d).2.1,λj e6=>?_⟩) r).1⟩;by_cases e:j=k;.have e:=e.symm;subst e;have:=(c d).2.2.2;simpa using this
           .exact(c d).2.2.1 j (by exact cO e6 e)
       .ext v I f(su f)b X a0 u a S n c r;have m:=P.za S.a;refine⟨m.a,?_⟩;simp only[gI]at c;refine(w _ _ _ ?_<|nH b _ _ _ _ rfl S n (λd k e7=>?_) rfl).1
        .cases b;.rw[(c rfl).1];simp
         .have:=r rfl;simp;exact this
        .rw[(c d).1];exact(c d).2 k e7
      .subst h;refine d7 _ _ (d3.trans<|x.trans S.a) ?_;rw[S.b];congr 2;apply hg;ext s y;rw[c5.zb B (d rfl) s];rfl
def cr(n:Nat)(p:Nat->Prop):List Nat:=(cv n).filter λx=>dh<|p x
theorem ef{n:Nat}{p:Nat->Prop}{x:Nat}:x∈cr n p↔x<n/\p x:=by simp[cr,ja]
theorem oH{n:Nat}{p:Nat->Prop}:(cr n p).Pairwise (·<·):=vm _ aas
theorem KU:∀{l r:List Nat},l.Pairwise (·<·)->r.Pairwise (·<·)->(∀x,x∈l↔x∈r)->l=r
 |[],[],_,_,_=>rfl
 |[],b::r,_,_,h=>by have:=(h b).mpr<|.head _;cases this
 |a::l,[],_,_,h=>by have:=(h a).mp<|.head _;cases this
 |a::l,b::r,k,m,h=>by
  ext(ac:js.mp k)f i(ac:js.mp m)g j
  have e:a=b:=by
   rcases bM.mp ((h a).mp<|.head _)with e|e;.exact e
   .rcases bM.mp ((h b).mpr<|.head _)with d|d;.exact d.symm
    .have:=f b d;have:=g a e;exact RJ (by assumption) this
  subst e;congr 1;refine KU i j λx=>⟨λc=>?_,λc=>?_⟩
  .rcases bM.mp ((h x).mp<|.tail _ c)with e|e;.subst e;have:=f _ c;exact(bB 1 0 this rfl).elim
   .exact e
  .rcases bM.mp ((h x).mpr<|.tail _ c)with e|e;.subst e;have:=g _ c;exact(bB 1 0 this rfl).elim
   .exact e
theorem oI{n:Nat}{p:Nat->Prop}{l:List Nat}(a:l.Pairwise (·<·))(b:∀x,x∈l↔x<n/\p x):l=cr n p:=KU a oH λx=>by rw[b,ef]
theorem E2{n:Nat}{p d:Nat->Prop}(h:∀x,x<n->(p x↔d x)):cr n p=cr n d:=oI oH λx=>by rw[ef];exact⟨λc=>ac c λa b=>⟨a,(h x a).mp b⟩,λc=>ac c λa b=>⟨a,(h x a).mpr b⟩⟩
theorem ua{n:Nat}{p:Nat->Prop}:(cr n p).Nodup:=oH.imp λh=>bh h
theorem ro{n:Nat}{p:Nat->Prop}:(cr n p).length<=n:=by have:=ht (λx=>dh<|p x)<|cv n;simpa[cr]using this
theorem E3{l:List Nat}(c:l.Pairwise (·<=·))(d:l.Nodup):l.Pairwise (·<·):=by have:=c.and d;exact this.imp λ⟨a,b⟩=>ho a b
theorem E4{l:List Nat}{H:J}{Q:au}(h:l.length<64)(q:∀g:List Nat,g.Perm l->g.Pairwise (·<=·)->Q (.a H.length) (H++[.a<|g.map Z])):kz (l.map λn:Nat=>(n:Int)) H Q:=by
 refine⟨by simpa using h,λc i o=>?_⟩;have m:(c.map lT).Perm l:=by have:=i.map lT;rw[uK]at this;simpa[Function.comp_def]using this
 have d:∀x∈c,0<=x:=λx f=>by ext(_:bY.mp (i.mem_iff.mp f))a w p-;exact nL
 have e:(c.map lT).map Z=c.map .b:=by rw[uK];refine jp λx f=>?_;have:=d x f;show O.b ((x.toNat:Nat):Int)=O.b x;rw[Ew this]
 have:=q _ m (by rw[iE];exact o.imp_of_mem λ{a b}j k h=>by have:=d a j;have:=d b k;exact RK h);rw[e]at this;exact this
theorem na{l:List Nat}{H:J}{Q:au}{n:Nat}{p:Nat->Prop}(h:l.length<64)(c:l.Nodup)(b:∀x,x∈l↔x<n/\p x)(q:Q (.a H.length)<|H++[.a<|(cr n p).map Z]):kz (l.map λn:Nat=>(n:Int)) H Q:=by ext(E4:h)e a d;rw[oI (E3 d<|a.nodup_iff.mpr c) λx=>a.mem_iff.trans<|b x];exact q
inductive gh(E:Nat->Nat->Prop):Nat->Nat->Prop|a{d e:Nat}:E d e->gh E d e|b{d e c:Nat}:E d e->gh E e c->gh E d c
theorem gh.zb{E:Nat->Nat->Prop}{a b c:Nat}(h:gh E a b)(d:gh E b c):gh E a c:=by induction h with|a e=>exact .b e d|b e _ f=>exact .b e<|f d
noncomputable def di(E:Nat->Nat->Prop):Nat->Nat->Nat->Prop|0,s,t=>E s t|k+1,s,t=>di E k s t\/(di E k s k/\di E k k t)
theorem di.zc{E:Nat->Nat->Prop}:∀{k s t:Nat},di E k s t->gh E s t|0,_,_,h=>.a h|_+1,_,_,.inl h=>di.zc h|_+1,_,_,.inr ⟨a,b⟩=>(di.zc a).zb<|di.zc b
theorem di.zd{E:Nat->Nat->Prop}{k s:Nat}:di E (k+1) s k↔di E k s k:=⟨λh=>h.elim id (·.1),.inl⟩
theorem di.za{E:Nat->Nat->Prop}{k t:Nat}:di E (k+1) k t↔di E k k t:=⟨λh=>h.elim id (·.2),.inl⟩
theorem di.ze{E:Nat->Nat->Prop}:∀{k s u t:Nat},u<k->di E k s u->di E k u t->di E k s t
 |0,_,_,_,h,_,_=>absurd h<|dW _
 |k+1,s,u,t,h,a,b=>by
  by_cases e:u=k;.subst e;exact .inr ⟨di.zd.mp a,di.za.mp b⟩
  .have c:u<k:=by exact cO h e
   rcases a with a|⟨a,f⟩<;>rcases b with b|⟨b,d⟩;.exact .inl<|di.ze c a b
   .exact .inr ⟨di.ze c a b,d⟩
   .exact .inr ⟨a,di.ze c f b⟩
   .exact .inr ⟨a,d⟩
theorem di.zb{E:Nat->Nat->Prop}{s t:Nat}(h:E s t):∀k,di E k s t|0=>h|k+1=>.inl<|di.zb h k
theorem E5{E:Nat->Nat->Prop}{n s t:Nat}(c:∀a b,E a b->b<n):di E n s t↔gh E s t:=by refine⟨di.zc,λh=>?_⟩;induction h with|a e=>exact di.zb e n|b e _ d=>exact di.ze (c _ _ e) (di.zb e n) d
theorem gh.za{E:Nat->Nat->Prop}{n s t:Nat}(c:∀a b,E a b->b<n)(h:gh E s t):t<n:=by induction h with|a e=>exact c _ _ e|b _ _ d=>exact d
theorem KV(m k:Nat):tU m k%2=if m.testBit k then 1 else 0:=by unfold tU;rw[Nat.testBit,Nat.and_comm,Nat.and_one_is_mod];rcases Nat.mod_two_eq_zero_or_one (m>>>k)with h|h<;>simp[h]
theorem E6{d n i:Nat}{H:J}{p:Nat->Nat}{E:Nat->Nat->Prop}{Q:au}(R:H[i]?=V (.a<|az n λs=>Z<|p s))(D:n<=1000)(P:∀s t,s<n->((p s).testBit t=M↔E s t))(A:∀a0 b,E a0 b->b<n)(q:∀I r,H<+:I->H.length<=r->I[r]?=V (.a<|az n λs=>Z<|dz n<|gh E s)->Q (.a r) I):aY (d+1) GV [.a i] H Q:=by
 delta d n i H p E Q;ext R D P A q;rw[bR By 3 rfl rfl rfl rfl<|by decide];simp[By,R,jM,show n<=16777216 by exact an 0 1000 0 16777216 D rfl];generalize B:H.length=j;have X:fv n H j (H++[.a<|az n λs=>Z<|p s]) p:=⟨aB _ _,by exact aw B,by subst B;simp⟩;refine bV (λk o I=>∃L m a,o=[V<|.a i,V<|.a j,L,m]/\fv n H j I a/\k<=n/\∀s t,s<n->((a s).testBit t=M↔di E k s t)) (gt _ _ _ rfl X (by exact fH) P) ?_ ?_
 .ext@k@a5@o@I@K x a3 G c
  exact by
   ext(st c)L m a S _ f(ac:jN G)C c-;refine⟨trivial,?_⟩;simp[S.b,jM];refine⟨by exact an 0 1000 0 16777216 D rfl,?_⟩;refine bV (λu o I=>∃m a,o=[V<|.a i,V<|.a j,V<|Z k,m]/\fv n H j I a/\u<=n/\∀s t,s<n->((a s).testBit t=M↔if s<u then di E (k+1) s t else di E k s t)) (eD _ _ rfl S (by exact fH) λs t g=>by simpa using f s t g) ?_ ?_
   .clear S f a;ext@u@a5@o@I@K x a3 G c
    exact by
     ext(kt c)@m@a S _ f
     exact by
      ext(ac:jN G)w c-;refine⟨trivial,?_⟩;have z:=KV (a u) k;simp[S.b,cc w,cc C];have y:∀t,(a u).testBit t=M↔di E k u t:=λt=>by rw[f u t w];simp
      have a2:∀t,(a k).testBit t=M↔di E k k t:=λt=>by
       rw[f k t C];split;.exact di.za
       .rfl
      have T:∀v:Nat,(∀t,v.testBit t=M↔di E (k+1) u t)->∀s t,s<n->((bb a u v s).testBit t=M↔if s<u+1 then di E (k+1) s t else di E k s t):=λv a4 s t g=>by
       by_cases e:s=u;.have e:=e.symm;subst e;rw[bx,a4];simp
       .rw[bc e,f s t g];by_cases h:s<u;.simp[h,show s<u+1 by exact an 1 0 1 1 h rfl]
        .simp[h,show¬s<u+1 by exact RL e h]
      refine cE (λh=>?_) λh=>?_
      .have l:(a u).testBit k=M:=by
        cases l:(a u).testBit k;.simp[l]at h z;exact absurd h<|GF z
        .rfl
       simp[S.b,w];refine(x _ _<|eD _ _ rfl (S.za rfl rfl) (by exact w)<|T _ λt=>?_).1;rw[gq,iC,y,a2];have:=(y k).mp l;constructor
       .rintro(h|h);.exact .inl h
        .exact .inr ⟨this,h⟩
       .rintro(h|h);.exact .inl h
        .exact .inr h.2
      .have l:(a u).testBit k=aq:=by
        cases l:(a u).testBit k;.rfl
        .simp[l]at h z;exact absurd (congrArg uB z) h
       refine(x _ _<|eD _ _ rfl S (by exact w) ?_).1;have:=T (a u) λt=>by rw[y];refine⟨.inl,λh=>h.elim id λh=>?_⟩;have:=(y k).mpr h.1;rw[l]at this;exact absurd this cG
       have a1:bb a u (a u)=a:=by funext s;simp only[bb];split<;>simp_all
       rw[a1]at this;exact this
   .ext o I c(kt c)m a S _ f;simp only[bC,ki]at f;refine⟨trivial,(x _ _<|gt _ _ _ rfl S (by exact C) λs t g=>?_).1⟩;rw[f s t g];simp[g]
 .ext o I c(st c)L m a S _ f;simp only[bC,ki]at f;refine⟨trivial,?_⟩;simp;refine q _ _ S.a (by exact aw B) ?_;rw[S.b];congr 2;apply hg;ext s g;have:a s=dz n (gh E s):=oE λt=>by rw[f s t g,E5 A];exact⟨λh=>⟨h.za A,h⟩,λh=>h.2⟩
  rw[this]
theorem E7{d m:Nat}{H:J}{Q:au}{n:Nat}(A:m<2^n)(B:n<=1000)(q:∀I r,H<+:I->H.length<=r->I[r]?=V (.a<|(cr n λt=>m.testBit t=M).map Z)->Q (.a r) I):aY (d+1) GW [Z m] H Q:=by
 delta d m H Q n;ext A B q;rw[bR BK 3 rfl rfl rfl rfl<|by decide];simp[BK];generalize o:H.length=j;refine iZ (λu C I=>∃a L,C=[V<|Z m,V<|.a j,V<|Z a,V<|Z L]/\L=m>>>a/\H<+:I/\I[j]?=V (.a<|((cv a).filter λt=>m.testBit t).map Z)/\u=L/\a<=n) (so 0 m rfl (by simp) (aB _ _) (by subst o;simp) rfl<|by exact fH) ?_;ext@u@C@I b
 exact by
  ext(Nr b)@a@L f p i P y
  exact by
   subst P;ext@K v R
   exact by
    simp;refine cE (λh=>?_) λh=>?_
    .simp at h
     have z:a<n:=by
      rcases nt a n with c|c;.exact c
      .have:m>>>a=0:=by rw[MQ];exact Nat.div_eq_of_lt<|gP A<|aat (by decide) c
       exact(bB 1 0 (aA 0 0 1 0 1 0 (aj (aw f)<|aw this) h rfl) rfl).elim
     have G:((cv a).filter λt=>m.testBit t).length<=16777215:=by have:=ht (λt=>m.testBit t)<|cv a;simp at this⊢;exact aA 0 0 0 1000 0 16777215 (aj this y) B rfl
     have w:u/2=m>>>(a+1):=by rw[Nat.shiftRight_succ,f]
     have g:u%2=if m.testBit a then 1 else 0:=by rw[f];exact KV m a
     have E:H.length<=j:=by exact aw o
     cases k:m.testBit a
     .have:((u:Int)%2==1)=aq:=by simp[k]at g⊢;exact GF g
      rw[this];simp;refine(v (u/2) _ _ (by exact GG h)<|so (a+1) (u/2) rfl w p ?_ rfl<|by exact z).1;rw[i,nC,nD];simp[k]
     .have:((u:Int)%2==1)=M:=by simp[k]at g⊢;exact RM g
      rw[this];simp[i];skip;refine⟨G,(v (u/2) _ _ (by exact GG h)<|so (a+1) (u/2) rfl w (dq p E) ?_ rfl<|by exact z).1⟩;rw[cq i,nC,nD];simp[k]
    .simp at h;subst h;refine q _ _ p (by exact aw o) ?_;rw[i,oI (n:=n) (l:=(cv a).filter λt=>m.testBit t) (p:=λt=>m.testBit t=M)];.exact vm _ aas
     .ext@x
      exact by
       simp only[iF,fE];constructor;.ext b(@ac b)s e;exact⟨by exact aj s y,e⟩
       .ext b(@ac b)s e;refine⟨?_,e⟩;rcases nt x a with c|c;.exact c
        .have D:m<2^a:=by
          rcases nt m (2^a)with l|l;.exact l
          .have:0<m>>>a:=by rw[MQ];exact Nat.div_pos l<|Nat.pow_pos (by decide)
           exact(bB 1 0 (aj this<|ar f) rfl).elim
         have:=Nat.testBit_lt_two_pow<|gP D<|aat (by decide) c;rw[this]at e;exact absurd e cG
noncomputable def CX(m k:Nat):Nat:=m|||2^k
theorem CY{m k t:Nat}:(CX m k).testBit t=M↔m.testBit t=M\/t=k:=by unfold CX;rw[gq,iC,EO,decide_eq_true_eq];exact or_congr Iff.rfl eq_comm
@[simp]theorem adk(m k:Nat):ph (m:Int) (2^k)=((CX m k:Nat):Int):=by
 have:((2:Int)^k)=((2^k:Nat):Int):=by simp
 rw[this,B0];rfl
namespace ap
variable(G:ap)
def zp(s t:Nat):Prop:=∃k,k<G.c/\G.d k=s/\(G.b k)[0]?=V t
def zh(c:List Nat)(X:Nat):Prop:=∃b∈c,∃a,G.zd b=V a/\(X=a\/gh G.zp a X)
def zE(b:List Nat)(a:Nat):Prop:=∃k,k<G.c/\a=G.zb k/\G.zh b (G.d k)/\a∉b
def zm(a:List Nat):List Nat:=a++cr G.zc (G.zE a)
def zi(b:List Nat)(X:Nat):Prop:=∃a∈b,G.zd a=V X
def zr(b:List Nat)(X j:Nat):Prop:=∃a∈b,G.zd a=V X/\j=a+1
def zv(b:List Nat)(k:Nat):Prop:=k≠0/\∃a∈b,G.zd a=U/\G.zg a=k
theorem zp.za{G:ap}(d:G.zf){a b:Nat}(h:G.zp a b):b<G.za:=by ext(@bd h)k c w h;exact d.d k c b<|bs h
theorem zx{G:ap}(c:G.zf){a X:Nat}(b:a<G.zc)(h:G.zd a=V X):X<G.za:=c.d _ (G.zu b) X<|bs h
theorem zh.za{G:ap}(e:G.zf){d:List Nat}{X:Nat}(j:∀c∈d,c<G.zc)(h:G.zh d X):X<G.za:=by
 ext(h)c i f(f)k g h;rcases h with rfl|h;.exact zx e (j c i) g
 .exact h.za λa b=>zp.za e
theorem zA(a:G.zf):G.zc<=24:=by
 have:∀k,k<=G.c->G.zb k<=4*k:=by ext k;induction k with|zero=>ext w;simp[zb]|succ k b=>ext h;have:=b (by exact an 1 0 0 0 h rfl);have:=a.e k (by exact h);simp only[zb];exact Gc (by assumption) this
 have:=this G.c<|aO _;have:=a.a;unfold zc;exact NY (by assumption) this
theorem zO{a:Nat}(d:a<G.zc):G.zd a=U↔G.ze a=(G.b<|G.zg a).length:=by ext(bk:G.zt d)r t c b e-;unfold zd;rw[G.zo c b,G.zq c b,vn];exact NZ b
theorem zB{b X:Nat}(g:b<G.zc)(h:G.zd b=V X):b+1<G.zc/\G.zg (b+1)=G.zg b/\G.ze (b+1)=G.ze b+1:=by
 ext(bk:G.zt g)r t a c i-;unfold zd at h;rw[G.zo a c,G.zq a c]at h;have f:=(bi.mp h).1;have d:t+1<=(G.b r).length:=by exact f
 have e:G.zb r+t+1=G.zb r+(t+1):=by exact be (aO _)<|aO _
 rw[e,G.zo a c,G.zq a c,G.zo a d,G.zq a d];exact aI (G.zK a d) rfl rfl
theorem zX{a b:Nat}(j:a<G.zc)(k:b<G.zc)(d:G.zg a=G.zg b)(e:G.ze a=G.ze b):a=b:=by ext(bk:G.zt j)r t f h c-(bk:G.zt k)l m g i c-;rw[G.zo f h,G.zo g i]at d;rw[G.zq f h,G.zq g i]at e;subst d;subst e;rfl
end ap
def hI(G:ap)(a:List Nat):Prop:=a.Pairwise (·<·)/\∀b∈a,b<G.zc
theorem hI.za{G:ap}(b:G.zf){a:List Nat}(h:hI G a):a.length<=24:=by have:=fu (h.1.imp λh=>bh h) h.2;have:=G.zA b;exact Oa (by assumption) this
theorem lL{l:List Nat}(h:l.Pairwise (·<·)):l.Nodup:=h.imp λh=>bh h
theorem E8{G:ap}{c:List Nat}(h:hI G c):(G.zm c).Nodup:=by unfold ap.zm;rw[ff];refine aI (lL h.1) ua λa f b g e=>?_;subst e;ext(ac:ef.mp g)w d(@fG d)k w w w i;exact i f
theorem rp{G:ap}{c:List Nat}(h:hI G c):∀b∈G.zm c,b<G.zc:=λb a=>by
 rcases bU.mp a with a|a;.exact h.2 b a
 .exact(ef.mp a).1
structure ey(H:J)(R:cC)(G:ap)(e d c:Nat):Prop where
 a:H[e]?=V (.e sI d)
 b:H[d]?=V (.c [(cR,.a R.a),(pX,.a c)])
 c:H[c]?=V (.a<|az G.za λs=>Z<|dz G.za<|gh G.zp s)
theorem ey.za{H I:J}{R:cC}{G:ap}{c a b:Nat}(h:ey H R G c a b)(p:H<+:I):ey I R G c a b:=⟨ay p h.a,ay p h.b,ay p h.c⟩
section
variable{H:J}{R:cC}{G:ap}{d c b a:Nat}{Q:au}
theorem ey.zb(h:ey H R G c b a):cS (.a c) cR H Q=Q (.a R.a) H:=bE h.a h.b rfl rfl
theorem ey.zc(h:ey H R G c b a):cS (.a c) pX H Q=Q (.a a) H:=bE h.a h.b rfl rfl
theorem ey.zd(h:ey H R G c b a){Q:Nat->Prop}:dR (.a c) GL H Q=Q He:=hh h.a h.b rfl rfl
theorem ey.ze(h:ey H R G c b a){Q:Nat->Prop}:dR (.a c) GM H Q=Q Hf:=hh h.a h.b rfl rfl
theorem ey.zf(h:ey H R G c b a){Q:Nat->Prop}:dR (.a c) GO H Q=Q Hg:=hh h.a h.b rfl rfl
theorem CZ{a X:Nat}(h:G.zd a=V X):G.zz a=(X:Int):=by simp[ap.zz,h]
theorem Da{a:Nat}(h:G.zd a=U):G.zz a=-1:=by simp[ap.zz,h]
theorem E9(u:bm H R G)(l:G.zf)(n:ey H R G c b a){p:Nat}{f:List Nat}(v:hI G f)(o:H[p]?=V (.b<|f.map Z))(q:Q (Z<|dz G.za<|G.zh f) H):aY (d+2) He [.a c,.a p] H Q:=by
 delta H R G d c b a Q p f at u l n v o q;rw[bR Cb 3 rfl rfl rfl rfl<|by decide];simp[Cb,o];refine bV (λk A I=>∃m y z,A=[V<|.a c,V<|.a p,V<|Z m,y,z]/\I=H/\∀t,m.testBit t=M↔G.zh (f.take k) t) (hw 0 _ _ rfl rfl λt=>by simp[ap.zh]) ?_ ?_
 .ext@k@a0@A@I@K B T P g
  exact by
   ext(ld g)@m@y@z i w
   exact by
    have i:=i.symm;subst i;ext(_:cB P)@x E g
    exact by
     subst g;have D:=v.2 x<|bs E;refine⟨o,?_⟩;simp[n.zb,u.zl,CP u D]
     have L:∀t,G.zh (f.take<|k+1) t↔G.zh (f.take k) t\/∃r,G.zd x=V r/\(t=r\/gh G.zp r t):=λt=>by
      delta t;intros _
      exact by
       rw[fX,E];unfold ap.zh;simp only[EQ,bU,hV];constructor
       .rintro⟨s,e|rfl,h⟩;.exact .inl<|ad s e h
        .exact .inr h
       .rintro(⟨s,e,h⟩|h);.exact ad s (.inl e) h
        .exact ad x (.inr rfl) h
     cases e:G.zd x with
     |none=>rw[Da e];simp;refine(B _ _<|hw m _ _ rfl rfl λt=>?_).1;rw[L,e,w];simp
     |some X=>
      delta X;intros _
      exact by
       have C:=ap.zx l D e;rw[CZ e];simp[n.zc,n.c,cc C];refine⟨?_,(B _ _<|hw _ _ _ rfl rfl λt=>?_).1⟩;.have:=l.b;exact Gd C this
       .delta t;intros _
        exact by
         rw[L,e,gq,iC,CY,w,io];constructor
         .rintro((h|h)|h);.exact .inl h
          .exact .inr<|ad X rfl<|.inl h
          .exact .inr<|ad X rfl<|.inr h.2
         .rintro(h|⟨r,j,h|h⟩);.exact .inl<|.inl h
          .have j:=bj j;subst j;exact .inl<|.inr h
          .have j:=bj j;subst j;exact .inr ⟨h.za λs S=>ap.zp.za l,h⟩
 .ext A I g(ld g)m y z i w;have i:=i.symm;subst i;refine⟨o,?_⟩;simp;have:m=dz G.za (G.zh f):=oE λt=>by rw[w];simp;exactλh=>h.za l v.2
  rw[this];exact q
end
namespace ap
variable{G:ap}
theorem zT{j k:Nat}(h:j<k):G.zb j<G.zb k:=by have:=G.zJ (show j+1<=k by exact h);simp only[zb]at this;exact sz this
theorem zH{j k:Nat}(h:G.zb j=G.zb k):j=k:=by
 rcases aau j k with a|a|a;.have:=zT (G:=G) a;exact(bB 1 0 (aj this<|ar h) rfl).elim
 .exact a
 .have:=zT (G:=G) a;exact(bB 1 0 (aA 0 0 1 0 1 0 (aw h) this rfl) rfl).elim
theorem zw{s k:Nat}:k∈G.zj s↔k<G.c/\G.d k=s:=by simp[zj]
theorem zF{k:Nat}(h:k<G.c):G.zb k<G.zc:=G.zK (t:=0) h<|fd _
theorem zP{k:Nat}(h:k<G.c):G.zg (G.zb k)=k:=G.zo (t:=0) h<|fd _
theorem zI{k:Nat}(h:k<G.c):G.ze (G.zb k)=0:=G.zq (t:=0) h<|fd _
end ap
theorem dA{l:List Nat}{k x:Nat}(h:l[k]?=V x){y:Nat}:y∈l.take (k+1)↔y∈l.take k\/y=x:=by rw[fX,h];simp
theorem lM{l:List Nat}(e:l.Nodup){k x:Nat}(h:l[k]?=V x):x∉l.take k:=by ext d(aD:MU.mp d)i b(@aD b)a c;have:=jO e (i:=i) (j:=k) (x:=x) (by rw[cu<|by exact aj a<|hQ _ _,c]) h;exact bB 1 0 (aj (aj a<|hP _ _)<|ar this) rfl
section
variable{H:J}{R:cC}{G:ap}{d c a b:Nat}{Q:au}
theorem F0(D:bm H R G)(u:G.zf)(C:ey H R G c a b){A:Nat}{k:List Nat}(b1:hI G k)(a2:H[A]?=V (.b<|k.map Z))(b5:∀I c5,H<+:I->I[c5]?=V (.a<|(cr G.zc<|G.zE k).map Z)->Q (.a c5) I):aY (d+3) Hf [.a c,.a A] H Q:=by
 delta H R G d c a b Q A k at D u C b1 a2 b5;rw[bR Cc 4 rfl rfl rfl rfl<|by decide];have d7:=G.zA u;have d2:=u.b;have e5:=u.a;have a4:=aB H [aa.a []];have b7:=C.za a4;have d4:=D.za a4;simp[Cc,b7.zd];refine E9 d4 u b7 b1 (ay a4 a2) ?_;refine E7 (CR _ _) (by exact an 0 10 0 1000 d2 rfl) ?_;ext@c8@b6 c1 c3 b3
 exact by
  have d1:cr G.za (λe8=>(dz G.za<|G.zh k).testBit e8=M)=cr G.za (G.zh k):=E2 λx m=>by rw[io];simp[m]
  rw[d1]at b3;have e6:=a4.trans c1;have d9:c8[H.length]?=V (.a []):=ay c1 cF;generalize c0:H.length=w at*;simp[b3];have b9:∀L:List Nat,L.Nodup->(∀x,x∈L->x<G.zc)->L.length<=24:=λL e g=>by have:=fu e g;exact aj this d7
  refine bV (λc4 v I=>∃b4 s t L,v=[V<|.a c,V<|.a A,V<|.a w,b4,s,t]/\H<+:I/\I[b6]?=V (.a<|(cr G.za<|G.zh k).map Z)/\I[w]?=V (.a<|L.map Z)/\w<b6/\L.Nodup/\∀x,x∈L↔∃j,j<G.c/\x=G.zb j/\G.d j∈(cr G.za<|G.zh k).take c4/\x∉k) (Fe _ _ _ ⟨[],rfl,e6,b3,d9,by simp at c3;exact aA 0 0 1 0 1 0 (ar c0) c3 rfl,by simp,by simp⟩) ?_ ?_
  .ext@c4@x@v@I@c9 a0 e7 m f
   exact by
    ext(FC f)@b4@s@t@L S a5 a1 b0 a3 q
    exact by
     ext(_:cB m)@a7 E f
     exact by
      subst f;have d5:=(ef.mp<|bs E).1;have y:=D.za S;have X:=C.za S;refine⟨a5,?_⟩;simp[X.zb,y.zo,KM y d5<|by exact an 0 6 0 16777216 (aw e5) rfl];generalize c2:I.length=c6;refine bV (λc7 v o=>∃s t l,v=[V<|.a c,V<|.a A,V<|.a w,V<|Z a7,s,t]/\H<+:o/\o[b6]?=V (.a<|(cr G.za<|G.zh k).map Z)/\o[w]?=V (.a<|l.map Z)/\o[c6]?=V (.a<|(G.zj a7).map Z)/\l.Nodup/\∀x,x∈l↔x∈L\/∃j,j∈(G.zj a7).take c7/\x=G.zb j/\x∉k) (gs _ _ ⟨L,rfl,S.trans<|aB _ _,aH a5,aH a1,by subst c2;simp,a3,by simp⟩) ?_ ?_
      .have e0:w≠c6:=by have:=bH a1;exact bh<|aj this<|aw c2
       clear y X;ext@c7@x@v@o@c9 a0 e7 m f
       exact by
        ext(vB f)@s@t@l r a6 K T P z
        exact by
         ext(_:cB m)@j p f
         exact by
          subst f;ext(ac:ap.zw.mp (bs p))e2 e1;have y:=D.za r;have X:=C.za r;have e3:=ay r a2;refine⟨T,?_⟩;have f2:((0:Nat):Int)=0:=rfl;have d8:aY (d+2) sM [.a R.a,Z j,.b 0] o=λQ=>Q (Z<|G.zb j) o:=by funext Q;exact CO (t:=0) y e2
          simp[X.zb,y.zk,d8,e3]
          have b2:∀x,x∈l->x<G.zc:=λx m=>by
           rcases(z x).mp m with h|⟨j,h,rfl,_⟩;.ext(bd:(q x).mp h)j e f _;subst f;exact ap.zF e
           .exact ap.zF (ap.zw.mp<|kW h).1
          have e4:=b9 l P b2;refine cE (λh=>?_) λh=>?_
          .simp at h;simp[K];refine⟨by exact an 0 24 0 16777215 e4 rfl,(a0 _ _<|pI _ _ (l++[G.zb j]) rfl (dq r<|by exact aw c0) (aX a6<|by exact bh b0) ?_ (aX T e0) ?_ ?_).1⟩;.rw[cq K];simp
           .rw[ff];refine aI P (by simp) λf0 d6 f1 b8 d0=>?_;simp at b8;subst b8;subst d0;rcases(z _).mp d6 with a9|⟨n,a9,a8,_⟩;.ext(fG:(q _).mp a9)n _ a8 i _;have:=ap.zH a8;subst this;rw[e1]at i;exact lM ua E i
            .have:=ap.zH a8;subst this;exact lM (vm _ List.nodup_range) p a9
           .ext x;rw[bU,z,hV];constructor
            .rintro((e|⟨n,e,rfl,g⟩)|rfl);.exact .inl e
             .exact .inr<|aT n ((dA p).mpr<|.inl e) rfl g
             .exact .inr<|aT j ((dA p).mpr<|.inr rfl) rfl h
            .rintro(e|⟨n,e,rfl,g⟩);.exact .inl<|.inl e
             .rcases(dA p).mp e with e|rfl;.exact .inl<|.inr<|aT n e rfl g
              .exact .inr rfl
          .simp at h;refine(a0 _ _<|pI _ _ l rfl r a6 K T P λx=>?_).1;rw[z];constructor
           .rintro(e|⟨n,e,rfl,g⟩);.exact .inl e
            .exact .inr<|aT n ((dA p).mpr<|.inl e) rfl g
           .rintro(e|⟨n,e,rfl,g⟩);.exact .inl e
            .rcases(dA p).mp e with e|rfl;.exact .inr<|aT n e rfl g
             .exact absurd h g
      .ext v o f(vB f)s t l r a6 K T P z;refine⟨T,(a0 _ _<|Nk _ _ _ l rfl r a6 K b0 P λx=>?_).1⟩;rw[z,q];simp only[bC,fj];constructor
       .rintro(⟨j,e,rfl,g,i⟩|⟨j,e,rfl,g⟩);.exact ej j e rfl ((dA E).mpr<|.inl g) i
        .ext(ac:ap.zw.mp e)i d3;exact ej j i rfl ((dA E).mpr<|.inr d3) g
       .ext f(@fG f)j e B g i;subst B;rcases(dA E).mp g with g|g;.exact .inl<|ej j e rfl g i
        .exact .inr<|aT j (ap.zw.mpr ⟨e,g⟩) rfl i
  .ext v I f(FC f)b4 s t L S a5 a1 b0 a3 q;refine⟨a5,?_⟩;simp[a1];simp only[bC,fj]at q;have b2:∀x,x∈L->x<G.zc:=λx m=>by ext(bd:(q x).mp m)j e f _;subst f;exact ap.zF e
   refine na (n:=G.zc) (p:=G.zE k) (by have:=b9 L a3 b2;exact an 0 24 1 64 this rfl) a3 (λx=>?_) ?_
   .rw[q];constructor;.ext f(@fG f)j e B g i;subst B;exact⟨ap.zF e,ej j e rfl ((ef.mp g).2) i⟩
    .ext f(@ac f)_ B(@fG B)j e e9 g i;subst e9;exact ej j e rfl (ef.mpr ⟨u.c j e,g⟩) i
   .exact b5 _ _ (S.trans<|aB _ _) (by simp)
end
section
variable{H:J}{R:cC}{G:ap}{d c a b:Nat}{Q:au}
theorem F1(s:bm H R G)(j:G.zf)(p:ey H R G c a b){n:Nat}{e:List Nat}(f:hI G e)(l:H[n]?=V (.b<|e.map Z))(q:∀I r,H<+:I->H.length<=r->I[r]?=V (.a<|(G.zm e).map Z)->Q (.a r) I):aY (d+4) Hg [.a c,.a n] H Q:=by rw[bR Cd 0 rfl rfl rfl rfl<|by decide];have m:=f.za j;have t:=G.zA j;simp[Cd,l];refine na (n:=G.zc) (p:=(·∈e)) (by exact an 0 24 1 64 m rfl) (lL f.1) (λx=>⟨λh=>⟨f.2 x h,h⟩,λh=>h.2⟩) ?_;rw[<-oI f.1 λx=>⟨λh=>⟨f.2 x h,h⟩,λh=>h.2⟩];have g:=aB H [aa.a<|e.map Z];have k:=p.za g;simp[k.ze];refine F0 (s.za g) j k f (ay g l) λI r i u=>?_;have o:I[H.length]?=V (.a<|e.map Z):=ay i cF;have:=ro (n:=G.zc) (p:=G.zE e);simp[o,u];refine⟨by exact Ob m t this,q _ _ (g.trans<|i.trans<|aB _ _) (aj (eq g)<|eq i) ?_⟩;simp[ap.zm]
theorem F2(E:bm H R G)(C:G.zf){s:Nat}{f:List Nat}(S:f.Nodup)(r:∀l∈f,l<G.zc)(p:H[s]?=V (.a<|f.map Z))(q:∀I a0,H<+:I->H.length<=a0->I[a0]?=V (.a<|(cr G.c<|G.zv f).map Z)->Q (.a a0) I):aY (d+2) Hj [.a R.a,.a s] H Q:=by
 delta H R G d Q s f at E C S r p q;rw[bR Cg 2 rfl rfl rfl rfl<|by decide];have b1:=G.zA C;have a4:=C.a;have a5:=aB H [aa.a []];simp[Cg,ay a5 p];generalize z:H.length=D at*;have b2:s≠D:=by have:=bH p;exact bh<|aj this<|aw z
 refine bV (λk a1 I=>∃X L,a1=[V<|.a R.a,V<|.a s,V<|.a D,X]/\H<+:I/\I[D]?=V (.a<|L.map Z)/\L.Nodup/\∀x,x∈L↔G.zv (f.take k) x) ⟨_,[],rfl,a5,by subst z;simp,by simp,by simp[ap.zv]⟩ ?_ ?_
 .ext@k@x@a1@I@a9 K b3 w c
  exact by
   ext(ss c)@X@L i o m e
   exact by
    ext(_:cB w)@l v c
    exact by
     subst c;have A:=r l<|bs v;have y:=E.za i;refine⟨ay i p,?_⟩;simp[y.zl,CP y A];have B:∀x∈L,x<G.c:=λx w=>by ext(ac:(e x).mp w)_ c(@bd c)a b _ t-;exact G.zu<|r a<|kW b
     have P:=fu m B
     have T:∀x,G.zv (f.take<|k+1) x↔G.zv (f.take k) x\/(x≠0/\G.zd l=U/\G.zg l=x):=λx=>by
      delta x;intros _
      exact by
       unfold ap.zv;constructor
       .ext c(@ac c)n t(@bd t)a b j g;rcases(dA v).mp b with b|rfl;.exact .inl ⟨n,aT a b j g⟩
        .exact .inr<|aI n j g
       .rintro(⟨n,a,b,j,g⟩|⟨n,j,g⟩);.exact⟨n,aT a ((dA v).mpr<|.inl b) j g⟩
        .exact⟨n,aT l ((dA v).mpr<|.inr rfl) j g⟩
     cases u:G.zd l with
     |some a6=>
      rw[CZ u];have:aP ((a6:Int)<0)=aq:=by simp
      rw[this];simp;refine(K _ _<|jw _ L rfl i o m λx=>?_).1;rw[e,T,u];simp
     |none=>
      rw[Da u];simp[y.zp,KK y A];refine cE (λh=>?_) λh=>?_
      .simp at h;simp[o];refine⟨by exact aA 0 0 0 6 0 16777215 P (aw a4) rfl,(K _ _<|jw _ (L++[G.zg l]) rfl (dq i<|by exact aw z) ?_ ?_ λx=>?_).1⟩;.rw[cq o];simp
       .rw[ff];refine aI m (by simp) λa a8 b0 a3 a7=>?_;simp at a3;subst a3;subst a7;ext(ac:(e _).mp a8)_ c(@bd c)a b j g;have a2:=r a<|kW b;have:=ap.zX G a2 A g (by rw[(G.zO a2).mp j,(G.zO A).mp u,g]);subst this;exact lM S v b
       .rw[bU,hV,e,T];constructor
        .rintro(b|rfl);.exact .inl b
         .exact .inr<|aI h u rfl
        .rintro(b|⟨_,_,rfl⟩);.exact .inl b
         .exact .inr rfl
      .simp at h;refine(K _ _<|jw _ L rfl i o m λx=>?_).1;rw[e,T];constructor;.exact .inl
       .rintro(b|⟨b,_,rfl⟩);.exact b
        .exact absurd h b
 .ext a1 I c(ss c)X L i o m e;simp only[bC,fj]at e;have B:∀x∈L,x<G.c:=λx w=>by ext(ac:(e x).mp w)_ c(@bd c)a b _ t-;exact G.zu<|r a b
  have P:=fu m B;refine⟨ay i p,?_⟩;simp[o];refine na (n:=G.c) (p:=G.zv f) (by exact aA 0 0 0 6 1 64 P (aw a4) rfl) m (λx=>⟨λh=>⟨B x h,(e x).mp h⟩,λh=>(e x).mpr h.2⟩) ?_;exact q _ _ (i.trans<|aB _ _) (by have:=eq i;exact aj (ar z) this) (by simp)
end
noncomputable def dJ(a:List Nat)(f:Nat->O):List<|Int×O:=a.map λX:Nat=>((X:Int),f X)
theorem oJ{f:Nat->O}{X:Nat}:∀{b:List Nat},fJ (dJ b f) (X:Int)=if X∈b then V (f X)else U
 |[]=>rfl
 |a::b=>by
  have c:=oJ (f:=f) (X:=X) (b:=b);unfold fJ dJ at c⊢;rw[dm,kU];by_cases e:a=X;.subst e;simp
  .have:aP ((a:Int)=(X:Int))=aq:=by simp;exact Oc e
   rw[this];simp only[];rw[c];simp[cy e]
theorem Db{f:Nat->O}{X:Nat}{v:O}{b:List Nat}(h:X∉b):lm (dJ b f) (X:Int) v=dJ (b++[X]) (bb f X v):=by
 have:(dJ b f).any (λe=>aP<|e.1=(X:Int))=aq:=by
  rw[U7];ext e d(_:bY.mp d)a c g-;simp;ext e;have:a=X:=by exact vL e
  subst this;exact h c
 unfold lm;rw[this];simp only[fi,if_false];unfold dJ;rw[iD];congr 1;.refine jp λa c=>?_;rw[bc<|show a≠X fromλe=>h (by rw[<-e];exact c)]
 .simp
theorem Dc{a:List Nat}{f:Nat->O}:(dJ a f).map (·.1)=a.map λn:Nat=>(n:Int):=by simp[dJ]
theorem Dd{a:List Nat}{f:Nat->O}:(dJ a f).length=a.length:=by simp[dJ]
theorem De{a:List Nat}{f g:Nat->O}(h:∀X∈a,f X=g X):dJ a f=dJ a g:=jp λX b=>by rw[h X b]
section
variable{H:J}{R:cC}{G:ap}{d c a b:Nat}{Q:au}
def ap.zl(G:ap)(b:List Nat)(X:Nat):List Nat:=(b.filter λa=>aP<|G.zd a=V X).map (·+1)
theorem ap.zY{e:List Nat}{X j:Nat}:j∈G.zl e X↔G.zr e X j:=by
 unfold ap.zl ap.zr;simp only[bY,iF,decide_eq_true_eq];constructor;.ext b(FO b)a f(@ac f)c d;exact aT a c d rfl
 .ext b(mn b)a c d;exact ad a ⟨c,d⟩ rfl
theorem ap.zZ{a:List Nat}{X:Nat}(h:a.Nodup):(G.zl a X).Nodup:=by unfold ap.zl;rw[kX,iE];exact(vm _ h).imp λh e=>h (by exact be (an 1 1 0 0 (aw e) rfl)<|an 1 1 0 0 (ar e) rfl)
theorem ap.zU{b:List Nat}{k a X:Nat}(h:b[k]?=V a):G.zl (b.take<|k+1) X=G.zl (b.take k) X++if G.zd a=V X then[a+1]else[]:=by
 unfold ap.zl;rw[fX,h];by_cases e:G.zd a=V X;.simp[e]
 .simp[e]
structure oK(i H:J)(k:Nat)(g:List Nat)(h:Nat->Nat)(l:Nat->List Nat):Prop where
 a:i<+:H
 e:i.length<=k
 c:∃n,H[k]?=V (.f n<|dJ g λX=>.a<|h X)
 b:∀X∈g,H[h X]?=V (.a<|(l X).map Z)/\i.length<=h X
 f:∀X∈g,∀j∈g,h X=h j->X=j
 d:g.Nodup
theorem F3(a6:bm H R G)(z:G.zf){a1:Nat}{c:List Nat}(b2:c.Nodup)(B:∀v∈c,v<G.zc)(a4:H[a1]?=V (.a<|c.map Z))(c9:∀(I:J)(d0 n:Nat)(y:Nat->Nat),H<+:I->H.length<=d0->I[d0]?=V (.f n<|dJ (cr G.za<|G.zi c) λX=>.a<|y X)->(∀X,X<G.za->G.zi c X->I[y X]?=V (.b<|(cr G.zc<|G.zr c X).map Z))->Q (.a d0) I):aY (d+3) Hi [.a R.a,.a a1] H Q:=by
 delta H R G d Q a1 c at a6 z b2 B a4 c9;rw[bR Cf 4 rfl rfl rfl rfl<|by decide];have c2:=G.zA z;have b9:=z.b;have f8:=z.a;have d5:=fu b2 B;have d7:=aB H [aa.f 0 []];simp[Cf,ay d7 a4];generalize a8:H.length=p at*;have b6:oK H (H++[aa.f 0 []]) p [] (λ_=>0) λ_=>[]:=⟨d7,by exact aw a8,⟨0,by subst a8;simp[dJ]⟩,by simp,by simp,by simp⟩;refine bV (λk L I=>∃b5 K l s,L=[V<|.a R.a,V<|.a a1,V<|.a p,b5,U,K]/\oK H I p l s (G.zl<|c.take k)/\∀X,X∈l↔G.zi (c.take k) X) (pJ _ _ ([]) _ rfl ⟨b6.a,b6.e,b6.c,by simp,by simp,by simp⟩<|by simp[ap.zi]) ?_ ?_
 .ext@k@x@L@I@e0 a3 f3 c7 m
  exact by
   ext(Fy m)@b5@K@l@s f u
   exact by
    ext(_:cB c7)@v S m
    exact by
     subst m;have a9:=B v<|bs S;have c0:=a6.za f.a;refine⟨ay f.a a4,?_⟩;simp[c0.zl,CP c0 a9]
     have d8:∀X,G.zi (c.take<|k+1) X↔G.zi (c.take k) X\/G.zd v=V X:=λX=>by
      delta X;intros _
      exact by
       unfold ap.zi;constructor
       .ext m(m)a g j;rcases(dA S).mp g with g|rfl;.exact .inl<|ad a g j
        .exact .inr j
       .rintro(⟨a,g,j⟩|j);.exact ad a ((dA S).mpr<|.inl g) j
        .exact ad v ((dA S).mpr<|.inr rfl) j
     cases C:G.zd v with
     |none=>
      rw[Da C];simp;refine(a3 _ _<|pJ _ _ l s rfl ⟨f.a,f.e,f.c,λX q=>?_,f.f,f.d⟩ λX=>?_).1;.rw[ap.zU S,C];simpa using f.b X q
      .rw[u,d8,C];simp
     |some X=>
      delta X;intros _
      exact by
       rw[CZ C];have e4:=ap.zx z a9 C;ext(aD:f.c)@n r
       exact by
        have c3:(G.zl (c.take k) X).length<=24:=by unfold ap.zl;rw[bC];have:=ht (λv=>aP<|G.zd v=V X)<|c.take k;have:=(fW k c).length_le;exact Od c2 d5 (by assumption) this
        have d4:∀(a0:List Nat)(a2:Nat->Nat)(t:J),oK H t p a0 a2 (G.zl<|c.take k)->X∈a0->(∀b,b∈a0↔b∈l\/b=X)->t[a2 X]?=V (.a<|(G.zl (c.take k) X).map Z)->oK H (t.set (a2 X)<|.a<|(G.zl (c.take k) X).map Z++[Z<|v+1]) p a0 a2 (G.zl<|c.take<|k+1)/\∀b,b∈a0↔G.zi (c.take<|k+1) b:=by
         ext@a0@a2@t w d1 e8 T
         exact by
          have c5:a2 X≠p:=λe=>by ext(aD:w.c)n r;rw[e,r]at T;cases T
          refine⟨⟨dq w.a (w.b X d1).2,w.e,?_,λb i=>⟨?_,(w.b b i).2⟩,w.f,w.d⟩,λb=>?_⟩;.ext(aD:w.c)n r;exact⟨n,aX r c5⟩
          .rw[ap.zU S,C];by_cases e:b=X;.have e:=e.symm;subst e;rw[cq T];simp
           .have:=(w.b b i).1;rw[aX this λo=>e<|w.f b i X d1 o.symm];simp[cy e]
          .rw[e8,u,d8,C];simp[eq_comm]
        simp[r,oJ];by_cases q:X∈l;.have T:=(f.b X q).1;simp[q,T,r,oJ,KN c0 a9];refine⟨by exact an 0 24 0 16777215 c3 rfl,?_⟩;ext(ac:d4 l s I f q (λb=>⟨.inl,λh=>h.elim id λe=>e▸q⟩) T)g j;exact(a3 _ _<|pJ _ _ l s rfl g j).1
        .have e1:oK H (I++[aa.a []]) p l s<|G.zl<|c.take k:=⟨f.a.trans<|aB _ _,f.e,⟨n,aH r⟩,λb i=>⟨aH (f.b b i).1,(f.b b i).2⟩,f.f,f.d⟩;have e7:p<I.length:=bH r;simp[q,aH r,Dd]
         have c4:l.length<=10:=by
          have:=fu f.d (n:=G.za) λb i=>by ext(_:(u b).mp i)a g j;exact ap.zx z (B a<|kW g) j
          exact aj this b9
         refine⟨by exact an 0 10 0 16777216 c4 rfl,λE=>?_⟩;rw[Db q];have b8:G.zl (c.take k) X=[]:=by unfold ap.zl;rw[List.map_eq_nil_iff,MN];ext a g j;simp at j;exact q<|(u X).mpr<|ad a g j
         have c6:((I++[aa.a []]).set p<|.f E<|dJ (l++[X])<|bb (λX=>O.a<|s X) X<|.a I.length)[I.length]?=V (.a []):=aX cF (by exact bh e7)
         have b7:oK H ((I++[aa.a []]).set p<|.f E<|dJ (l++[X])<|bb (λX=>O.a<|s X) X<|.a I.length) p (l++[X]) (bb s X I.length)<|G.zl<|c.take k:=by
          refine⟨dq e1.a<|by exact aw a8,f.e,⟨E,?_⟩,λb i=>?_,λb i P d3 e=>?_,?_⟩;.rw[cq<|aH r];congr 2;apply De;ext b i;simp only[bb];split<;>rfl
          .by_cases e:b=X;.have e:=e.symm;subst e;rw[bx,c6,b8];exact⟨rfl,by have:=eq f.a;exact this⟩
           .rw[bc e]
            have c1:b∈l:=by
             rcases bU.mp i with h|h;.exact h
             .simp at h;exact absurd h e
            have g:=f.b b c1;refine⟨aX (aH g.1) λo=>?_,g.2⟩;rw[<-o,r]at g;cases g.1
          .have d6:∀b∈l,s b<I.length:=λb i=>bH (f.b b i).1
           have b0:∀b,b∈l++[X]->b≠X->b∈l:=λb i c5=>by
            rcases bU.mp i with h|h;.exact h
            .simp at h;exact absurd h c5
           by_cases A:b=X
           .by_cases o:P=X;.rw[A,o]
            .have A:=A.symm;subst A;rw[bx,bc o]at e;have:=d6 P<|b0 P d3 o;exact(bB 1 0 (aA 0 0 1 0 1 0 (aw e) this rfl) rfl).elim
           .by_cases o:P=X;.have o:=o.symm;subst o;rw[bx,bc A]at e;have:=d6 b<|b0 b i A;exact(bB 1 0 (aj this<|ar e) rfl).elim
            .rw[bc A,bc o]at e;exact f.f b (b0 b i A) P (b0 P d3 o) e
          .rw[ff];exact aI f.d (by simp) (λa e5 f7 a7 e=>by simp at a7;have a7:=a7.symm;subst a7;have e:=e.symm;subst e;exact q e5)
         ext(aD:b7.c)f9 e6;have e2:=a6.za b7.a;have f0:((I++[aa.a []]).set p<|.f E<|dJ (l++[X])<|bb (λX=>O.a<|s X) X<|.a I.length)[bb s X I.length X]?=V (.a<|(G.zl (c.take k) X).map Z):=by rw[bx,b8];exact c6
         ext(ac:d4 _ _ _ b7 (by simp) (λb=>by simp) f0)g j;generalize((I++[aa.a []]).set p<|.f E<|dJ (l++[X])<|bb (λX=>O.a<|s X) X<|.a I.length)=f6 at*;simp[e6,oJ,c6,KN e2 a9];rw[bx,b8]at g;simp only[ER,Ef]at g;refine(a3 _ _<|pJ _ _ _ _ rfl g j).1
 .ext@L@I m
  exact by
   ext(Fy m)@b5@K@l@s f u
   exact by
    simp only[bC,fj]at f u;ext(aD:f.c)n r;refine⟨ay f.a a4,?_⟩;simp[aH r,Dc]
    have c4:l.length<=10:=by
     have:=fu f.d (n:=G.za) λb i=>by ext(_:(u b).mp i)a g j;exact ap.zx z (B a g) j
     exact aj this b9
    have e9:∀x,x∈l↔x<G.za/\G.zi c x:=λx=>⟨λh=>⟨by ext(_:(u x).mp h)a g j;exact ap.zx z (B a g) j,(u x).mp h⟩,λh=>(u x).mpr h.2⟩;refine na (n:=G.za) (p:=G.zi c) (by exact an 0 10 1 64 c4 rfl) f.d e9 ?_;simp;generalize b3:I.length=c8;refine bV (λk L t=>∃K n y,L=[V<|.a R.a,V<|.a a1,V<|.a p,b5,V<|.a c8,K]/\I<+:t/\t[c8]?=V (.f n<|dJ ((cr G.za<|G.zi c).take k) λX=>.a<|y X)/\t[c8+1]?=V (.a<|(cr G.za<|G.zi c).map Z)/\∀X∈(cr G.za<|G.zi c).take k,t[y X]?=V (.b<|(cr G.zc<|G.zr c X).map Z)) (gs _ 0 ⟨λ_=>0,rfl,aB _ _,by subst b3;simp[dJ],by subst b3;simp,by simp⟩) ?_ ?_
    .ext@k@x@L@t@e0 a3 f3 c7 m
     exact by
      ext(Fx m)@K@n@y a5 D b1 b4
      exact by
       ext(_:cB c7)@X q m
       exact by
        subst m;ext(ac:ef.mp (bs q))e4 e3;have d2:X∈l:=(u X).mpr e3;refine⟨b1,?_⟩;simp[ay a5 r,oJ,d2,ay a5 (f.b X d2).1];have c3:(G.zl c X).length<=24:=by unfold ap.zl;rw[bC];have:=ht (λv=>aP<|G.zd v=V X) c;exact aj (aj this d5) c2
        refine na (n:=G.zc) (p:=G.zr c X) (by exact an 0 24 1 64 c3 rfl) (ap.zZ b2) (λx=>?_) ?_
        .rw[ap.zY];constructor;.ext h;refine⟨?_,h⟩;ext(mn h)a g j;exact(G.zB (B a g) j).1
         .exactλh=>h.2
        .have f4:=ro (n:=G.zc) (p:=G.zr c X);have f2:=bH D;simp;refine⟨by exact aA 0 0 0 24 0 16777216 f4 c2 rfl,?_⟩;simp[aH D,Dd];have f5:((cr G.za<|G.zi c).take k).length<=16777216:=by have:=(fW k<|cr G.za<|G.zi c).length_le;have:=ro (n:=G.za) (p:=G.zi c);exact Oe b9 (by assumption) this
         have f1:X∉(cr G.za<|G.zi c).take k:=lM ua q;have d9:(cr G.za<|G.zi c).take (k+1)=(cr G.za<|G.zi c).take k++[X]:=by rw[fX,q];rfl
         refine⟨by simpa using f5,λE=>?_⟩;rw[Db f1];refine(a3 _ _<|vx _ E (bb y X<|t.length+1) rfl (dq (a5.trans<|aB _ _)<|by exact aw b3) ?_ (aX (aH b1)<|by exact bh<|aO _) λb i=>?_).1;.rw[cq<|aH D,d9];congr 2;apply De;ext b i;simp only[bb];split<;>rfl
         .by_cases e:b=X;.have e:=e.symm;subst e;rw[bx];refine aX ?_ (by exact bh<|an 1 0 1 1 f2 rfl);simp
          .rw[bc e]
           have c1:b∈(cr G.za<|G.zi c).take k:=by
            rw[d9]at i;rcases bU.mp i with h|h;.exact h
            .simp at h;exact absurd h e
           have g:=b4 b c1;ext(aX:aH g)o;rw[<-o,D]at g;cases g
    .ext L t m(Fx m)K n y a5 D b1 b4;simp only[bC,fj]at D b4;refine⟨b1,?_⟩;simp;refine c9 _ _ n y (f.a.trans a5) (by have:=eq f.a;exact aj (aj (ar a8) this)<|aw b3) D λX g j=>b4 X<|ef.mpr ⟨g,j⟩
end
set_option genSizeOf false
set_option genInjectivity false
structure bn(S:Nat->Prop)(H I:J):Prop where
 a:∀j o,H[j]?=V o->¬S j->I[j]?=V o
 b:H.length<=I.length
theorem bn.zf{S:Nat->Prop}{H:J}:bn S H H:=⟨λw w h w=>h,aO _⟩
theorem bn.zc{S:Nat->Prop}{H I:J}(p:H<+:I):bn S H I:=⟨λw w h w=>ay p h,eq p⟩
theorem bn.za{S:Nat->Prop}{H I a:J}(h:bn S H I)(b:bn S I a):bn S H a:=⟨λj o e n=>b.a j o (h.a j o e n) n,aj h.b b.b⟩
theorem bn.ze{S a:Nat->Prop}{H I:J}(h:bn S H I)(k:∀j,S j->a j):bn a H I:=⟨λj o e n=>h.a j o e λs=>n<|k j s,h.b⟩
theorem bn.zd{S:Nat->Prop}{H:J}{i:Nat}{o:aa}(h:S i):bn S H<|H.set i o:=⟨λj q e n=>aX e λa=>n<|a▸h,by simp⟩
theorem bn.zb{S:Nat->Prop}{a H I:J}(h:bn S H I)(p:a<+:H)(c:∀j,S j->a.length<=j):a<+:I:=by
 rw[List.prefix_iff_getElem?];ext i b;have e:a[i]?=V a[i]:=cu b;have:=h.a i _ (ay p e) λs=>by have:=c i s;exact bB 1 0 (aj b this) rfl
 exact this
theorem dr{i a C n:Nat}{c f:List<|Nat×O}{x:O}{H:J}{Q:J->Prop}(b:H[i]?=V (.e C a))(d:H[a]?=V (.c c))(j:eT C n=U)(h:c.length<=50)(g:fN c n x=f)(k:∀I,I[i]?=V (.e C a)->I[a]?=V (.c f)->bn (·=a) H I->I.length=H.length->Q I):mE (.a i) n x H Q:=by
 rw[C5 b d j h,g];refine k _ ?_ ?_ (.zd rfl) (by simp);.ext(aX:b)e-;rw[d]at b;cases b
 .exact cq d
structure aJ where
 f:Nat
 g:Nat
 h:Nat
 k:Nat
 e:Nat
 i:Nat
 m:Nat
 l:Int
 b:List Nat
 j:List Nat
 a:List Nat
 c:Nat->Nat
 d:List Nat
instance:Nonempty aJ:=⟨by constructor<;>exact cU⟩
structure ez(H:J)(k:Nat)(s:aJ):Prop where
 d:H[s.f]?=V (.e sH s.g)
 a:H[s.g]?=V (.c [(cp,Z k),(iK,.a s.h),(kw,.b s.l),(iL,.a s.k),(ia,.a s.e),(gV,.a s.i)])
 e:H[s.h]?=V (.b<|s.b.map Z)
 f:H[s.k]?=V (.a<|s.j.map Z)
 b:H[s.e]?=V (.f s.m<|dJ s.a λX=>Z<|s.c X)
 c:H[s.i]?=V (.a<|s.d.map Z)
theorem ez.za{H I:J}{k:Nat}{s:aJ}(h:ez H k s)(p:H<+:I):ez I k s:=⟨ay p h.d,ay p h.a,ay p h.e,ay p h.f,ay p h.b,ay p h.c⟩
theorem F4{d c g:Nat}{H:J}{a b:O}{e:Int}{Q:au}(y:H[c]?=V (.e sH g))(p:H[g]?=V (.c []))(q:∀I,I[c]?=V (.e sH g)->I[g]?=V (.c [(cp,a),(iK,b),(kw,.b e),(iL,.a H.length),(ia,.a (H.length+1)),(gV,.a (H.length+2))])->I[H.length]?=V (.a [])->I[H.length+1]?=V (.f 0 [])->I[H.length+2]?=V (.a [])->bn (·=g) H I->Q .e I):aY (d+1) SL [.a c,a,b,.b e] H Q:=by
 delta d c g H a b e Q;ext y p q;rw[bR BY 0 rfl rfl rfl rfl<|by decide];have j:=bH p;simp[BY];refine dr (f:=[(cp,a)]) y p rfl (by simp) rfl λa6 X L E z=>?_;try simp
 refine dr (f:=[(cp,a),(iK,b)]) X L rfl (by simp) rfl λa7 a0 P G A=>?_;try simp
 refine dr (f:=[(cp,a),(iK,b),(kw,.b e)]) a0 P rfl (by simp) rfl λf a1 R K B=>?_;try simp
 refine dr (f:=[(cp,a),(iK,b),(kw,.b e),(iL,.a f.length)]) (aH a1) (aH R) rfl (by simp) rfl λk a2 S w r=>?_;try simp
 refine dr (f:=[(cp,a),(iK,b),(kw,.b e),(iL,.a f.length),(ia,.a k.length)]) (aH a2) (aH S) rfl (by simp) rfl λm a3 T n s=>?_;try simp
 refine dr (f:=[(cp,a),(iK,b),(kw,.b e),(iL,.a f.length),(ia,.a k.length),(gV,.a m.length)]) (aH a3) (aH T) rfl (by simp) rfl λa8 a4 x l a5=>?_;simp at r s a5;have h:f.length=H.length:=by exact be (aj (aj (aw B)<|aw A)<|aw z)<|aj (aj (ar z)<|ar A)<|ar B
 have i:k.length=H.length+1:=by exact be (aA 0 1 0 0 0 1 (aw r) (aw h) rfl)<|aA 0 0 1 0 1 0 (ar h) (ar r) rfl
 have o:m.length=H.length+2:=by exact be (aA 0 1 0 1 0 2 (aw s) (aw i) rfl)<|aA 1 0 1 0 2 0 (ar i) (ar s) rfl
 rw[h,i,o]at x;have C:=w.a f.length (.a []) cF (by exact aL<|aj j<|ar h);have D:=n.a k.length (.f 0 []) cF (by exact aL<|aA 1 0 1 0 1 0 j (ar i) rfl);have v:=l.a m.length (.a []) cF (by exact aL<|aA 1 0 2 0 1 0 j (ar o) rfl);have u:=l.a k.length _ (aH D) (by exact aL<|aA 1 0 1 0 1 0 j (ar i) rfl);have t:=l.a f.length _ (aH<|n.a f.length _ (aH C)<|by exact aL<|aj j<|ar h) (by exact aL<|aj j<|ar h);rw[h]at t;rw[i]at u;rw[o]at v;refine q _ a4 x t u v ?_;exact E.za<|G.za<|K.za<|(bn.zc<|aB _ _).za<|w.za<|(bn.zc<|aB _ _).za<|n.za<|(bn.zc<|aB _ _).za l
noncomputable def fT(a:List Nat):List Int:=a.map λn:Nat=>(n:Int)
theorem KW{a b:List Nat}(h:fT a=fT b):a=b:=by unfold fT at h;exact List.map_inj_right (λx y e=>by exact vL e)|>.mp h
noncomputable def eN:Nat->List aJ->List (List Int×Nat×O)|_,[]=>[]|k,s::r=>(fT s.b,s.h,Z k)::eN (k+1) r
theorem F5(k:Nat)(s:aJ):∀b:List aJ,eN k (b++[s])=eN k b++[(fT s.b,s.h,Z (k+b.length))]|[]=>rfl|a::r=>by have e:=F5 (k+1) s r;simp only[MV,eN,e,pi];rw[show k+1+r.length=k+(r.length+1)by exact Of]
theorem F6:∀{k:Nat}{a:List aJ},(eN k a).length=a.length|_,[]=>rfl|k,s::r=>by simp[eN,F6]
theorem F7{a:List Nat}:∀{k:Nat}{b:List aJ},(∀s∈b,s.b≠a)->dp (eN k b) (fT a)=U
 |_,[],_=>rfl
 |k,s::r,h=>by
  unfold dp eN;rw[kU];have:aP (fT s.b=fT a)=aq:=by simp;exactλe=>h s (.head _)<|KW e
  rw[this];exact F7 λs c=>h s<|.tail _ c
theorem KX{s:aJ}{b:List aJ}:∀{k i:Nat},(b.map (·.b)).Nodup->b[i]?=V s->dp (eN k b) (fT s.b)=V (Z<|k+i):=by
 induction b with
 |nil=>ext k i w h;cases h
 |cons a r d=>
  ext k i c h
  cases i with
  |zero=>simp at h;subst h;unfold dp eN;rw[kU];simp
  |succ i=>
   simp at h;simp only[dm,gR]at c;unfold dp eN;rw[kU];have:aP (fT a.b=fT s.b)=aq:=by simp;ext e;exact c.1 (by rw[KW e];exact jo<|bs h)
   rw[this];have:=d (k:=k+1) c.2 h;unfold dp at this;rw[show k+(i+1)=k+1+i by exact sy];exact this
theorem F8{a:List<|List Int×Nat×O}{k:List Int}:(dp a k).isSome=M↔∃e∈a,e.1=k:=by unfold dp;rw[Option.isSome_map,List.find?_isSome];simp
theorem KY{a:List<|List Int×Nat×O}{k:List Int}{j:Nat}{v:O}(h:dp a k=U):jB a k j v=a++[(k,j,v)]:=by
 have:a.any (λe=>aP<|e.1=k)=aq:=by
  cases b:a.any (λe=>aP<|e.1=k);.rfl
  .rw[En]at b;ext(b)e c d;have:=F8.mpr<|ad e c<|of_decide_eq_true d;rw[h]at this;cases this
 unfold jB;simp[this]
set_option genSizeOf false
set_option genInjectivity false
theorem bn.zg{S d:Nat->Prop}{H b c:J}(h:bn S H b)(f:bn d b c)(k:∀j,d j->S j\/H.length<=j):bn S H c:=⟨λj o e n=>f.a j o (h.a j o e n) λs=>by
 rcases k j s with a|a;.exact n a
 .have:=bH e;exact bB 1 0 (aA 0 0 1 0 1 0 a this rfl) rfl,aj h.b f.b⟩
structure nb where
 c:Nat
 d:Nat
 e:Nat
 f:Nat
 g:Nat
 a:Nat
 b:Nat
instance:Nonempty nb:=⟨by constructor<;>exact cU⟩
structure cT(o H:J)(R:cC)(G:ap)(B:nb)(m:List aJ):Prop where
 g:o<+:H
 c:H[B.c]?=V (.e vW B.d)
 d:H[B.d]?=V (.c [(cR,.a R.a),(ms,.a B.e),(dP,.a B.a),(mt,.a B.b)])
 b:ey H R G B.e B.f B.g
 a:H[B.a]?=V (.a<|m.map λs=>.a s.f)
 j:∃n,H[B.b]?=V (.d n<|eN 0 m)
 h:∀p s,m[p]?=V s->ez H p s
 e:o.length<=B.a/\o.length<=B.b/\∀s∈m,o.length<=s.g/\o.length<=s.e
 f:B.g≠B.a/\∀s∈m,s.k≠B.a/\s.i≠B.a/\s.g≠B.d/\s.g≠B.f
 k:(m.map (·.g)).Nodup
 l:(m.map (·.e)).Nodup
 i:(m.map (·.b)).Nodup
section
variable{b H I:J}{R:cC}{G:ap}{B:nb}{a:List aJ}{d:Nat}{Q:au}
theorem cT.za(h:cT b H R G B a)(p:H<+:I):cT b I R G B a where g:=h.g.trans p;c:=ay p h.c;d:=ay p h.d;b:=h.b.za p;a:=ay p h.a;j:=let⟨n,e⟩:=h.j;⟨n,ay p e⟩;h:=λk s e=>(h.h k s e).za p;e:=h.e;f:=h.f;k:=h.k;l:=h.l;i:=h.i
theorem cT.zb(h:cT b H R G B a):cS (.a B.c) cR H Q=Q (.a R.a) H:=bE h.c h.d rfl rfl
theorem cT.zg(h:cT b H R G B a):cS (.a B.c) ms H Q=Q (.a B.e) H:=bE h.c h.d rfl rfl
theorem cT.zc(h:cT b H R G B a):cS (.a B.c) dP H Q=Q (.a B.a) H:=bE h.c h.d rfl rfl
theorem cT.zd(h:cT b H R G B a):cS (.a B.c) mt H Q=Q (.a B.b) H:=bE h.c h.d rfl rfl
theorem cT.zf(h:cT b H R G B a){Q:Nat->Prop}:dR (.a B.c) vV H Q=Q Hl:=hh h.c h.d rfl rfl
theorem cT.zh(h:cT b H R G B a){Q:Nat->Prop}:dR (.a B.c) GP H Q=Q Hm:=hh h.c h.d rfl rfl
theorem cT.zi(h:cT b H R G B a){Q:Nat->Prop}:dR (.a B.c) GQ H Q=Q Hn:=hh h.c h.d rfl rfl
theorem aV{H:J}{i j:Nat}{o p:aa}(b:H[i]?=V o)(a:H[j]?=V p)(h:o≠p):i≠j:=λe=>by subst e;rw[b]at a;exact h<|bj a
theorem ez.ze{k:Nat}{s:aJ}{n:Nat}{d:List<|List Int×Nat×O}{i:List O}(h:ez H k s)(c:H[B.a]?=V (.a i))(b:H[B.b]?=V (.d n d))(a:bn (λj=>j=B.a\/j=B.b) H I)(f:s.k≠B.a)(g:s.i≠B.a):ez I k s where d:=a.a _ _ h.d λe=>e.elim (aV h.d c<|by simp)<|aV h.d b (by simp);a:=a.a _ _ h.a λe=>e.elim (aV h.a c<|by simp)<|aV h.a b (by simp);e:=a.a _ _ h.e λe=>e.elim (aV h.e c<|by simp)<|aV h.e b (by simp);f:=a.a _ _ h.f λe=>e.elim f<|aV h.f b (by simp);b:=a.a _ _ h.b λe=>e.elim (aV h.b c<|by simp)<|aV h.b b (by simp);c:=a.a _ _ h.c λe=>e.elim g<|aV h.c b (by simp)
theorem ub(l:List Nat):(l.map λn:Nat=>(n:Int))=fT l:=rfl
theorem KZ(c:cT b H R G B a)(S:a.length<=16000000){r:Nat}{m:List Nat}{a0:Int}(n:H[r]?=V (.b<|m.map Z))(q:∀I X i s,cT b I R G B X->((X=a)\/(∃s,X=a++[s]/\s.b=m/\s.j=[]/\s.a=[]/\s.d=[]/\i=a.length))->X[i]?=V s->s.b=m->bn (λj=>j=B.a\/j=B.b) H I->Q (Z i) I):aY (d+2) Hl [.a B.c,.a r,.b a0] H Q:=by
 revert c S n q;revert b H R G B a d Q r m a0;ext@b@H@R@G@B@a@d@Q@r@m@a0 c S n q;rw[bR Ck 0 rfl rfl rfl rfl<|by decide];ext(aD:c.j)c2 g;have d3:B.a≠B.b:=aV c.a g (by simp);have b7:B.a≠r:=aV c.a n (by simp);have b6:B.b≠r:=aV g n (by simp);simp[Ck,c.zd,rk,n,g,ub];by_cases L:∃s∈a,s.b=m
 .ext(L)s a5 d5-(aD:fe a5)i z;have P:dp (eN 0 a) (fT s.b)=V (Z i):=by have:=KX (k:=0) c.i z;simpa using this
  simp[P,c.zd,rk,n,g,ub];exact q _ _ _ _ c (.inl rfl) z rfl .zf
 .have P:dp (eN 0 a) (fT m)=U:=F7 λs a5 e=>L<|ad s a5 e;simp[P,c.zc,c.a,c.zd,rk,n,g,ub,F6];refine⟨by exact an 0 16000000 0 16777216 S rfl,λa6=>?_⟩;rw[KY P];generalize K:H.set B.b (.d a6<|eN 0 a++[(fT m,r,.b a.length)])=f;have c3:bn (λj=>j=B.a\/j=B.b) H f:=by subst K;exact .zd<|.inr rfl
  have b9:f[B.b]?=V (.d a6<|eN 0 a++[(fT m,r,Z a.length)]):=by subst K;exact cq g
  have w:f.length=H.length:=by subst K;simp
  have a7:∀j o,H[j]?=V o->(∀c2 c6,o≠aa.d c2 c6)->f[j]?=V o:=λj o e h=>by subst K;exact aX e<|aV g e λc5=>h _ _ c5.symm
  have b2:=a7 _ _ c.c (by simp);have b1:=a7 _ _ c.d (by simp);have T:=a7 _ _ c.a (by simp);rw[bE b2 b1 rfl rfl];simp[T];rw[bE b2 b1 rfl rfl];simp[T];refine F4 (g:=f.length) (by simp) (by simp) λA c8 b3 b4 b8 c0 a1=>?_;simp at b3 b4 b8 c0;have c4:bn (λj=>j=B.a\/j=B.b) H A:=(c3.za<|bn.zc<|aB _ _).zg a1 λj e=>.inr (by exact aj (ar w)<|ar e);have p:=bH T;have c1:A[B.a]?=V (.a<|a.map λs=>.a s.f):=a1.a _ _ (aH T) (by exact bh p);have d1:A[B.b]?=_:=a1.a _ _ (aH b9) (by have:=bH b9;exact bh this);simp[c1];refine⟨by exact an 0 16000000 0 16777215 S rfl,?_⟩;generalize b0:A.set B.a (.a<|a.map (λs=>O.a s.f)++[.a<|f.length+1])=y;have v:bn (·=B.a) A y:=by subst b0;exact .zd rfl
  have D:bn (λj=>j=B.a\/j=B.b) H y:=c4.za<|v.ze λj e=>.inl e;have d4:y[B.a]?=V (.a<|a.map (λs=>O.a s.f)++[.a<|f.length+1]):=by subst b0;exact cq c1
  have d2:y[B.b]?=_:=v.a _ _ d1 d3.symm;have x:∀j o,H[j]?=V o->j≠B.a->j≠B.b->y[j]?=V o:=λj o e a2 a3=>D.a j o e λh=>h.elim a2 a3;let s:aJ:={f:=f.length+1,g:=f.length,h:=r,k:=f.length+2,e:=f.length+3,i:=f.length+4,m:=0,l:=a0,b:=m,j:=[],a:=[],c:=λ_=>0,d:=[]};have d6:B.a<f.length:=p
  have E:cT b y R G B<|a++[s]:={
   g:=D.zb c.g λj e=>e.elim (λe=>by rw[e];exact c.e.1) (λe=>by rw[e];exact c.e.2.1)
   c:=x _ _ c.c (aV c.c c.a<|by simp) (aV c.c g<|by simp)
   d:=x _ _ c.d (aV c.d c.a<|by simp) (aV c.d g<|by simp)
   b:=⟨x _ _ c.b.a (aV c.b.a c.a<|by simp)<|aV c.b.a g<|by simp,x _ _ c.b.b (aV c.b.b c.a<|by simp)<|aV c.b.b g<|by simp,x _ _ c.b.c c.f.1<|aV c.b.c g<|by simp⟩
   a:=by rw[d4];simp[s]
   j:=⟨a6,by rw[d2,F5];simp[s]⟩
   h:=λk t e=>by
    by_cases a4:k<a.length;.rw[gQ a4]at e;have l:=bs e;exact(c.h k t e).ze c.a g D (c.f.2 t l).1 (c.f.2 t l).2.1
    .rw[ev<|by exact dM a4]at e;have b5:k-a.length=0:=by have:=(bi.mp e).1;simp at this;exact be (aw this)<|ar this
     rw[b5]at e;simp at e;subst e;have c9:k=a.length:=by exact Ge a4 b5
     subst c9;exact{d:=v.a _ _ c8 (show f.length+1≠B.a by exact aL<|an 1 0 1 1 p rfl),a:=v.a _ _ b3 (show f.length≠B.a by exact aL p),e:=x _ _ n b7.symm b6.symm,f:=v.a _ _ b4 (show f.length+2≠B.a by exact aL<|an 1 0 1 2 p rfl),b:=v.a _ _ b8 (show f.length+3≠B.a by exact aL<|an 1 0 1 3 p rfl),c:=v.a _ _ c0 (show f.length+4≠B.a by exact aL<|an 1 0 1 4 p rfl)}
   e:=(aI c.e.1 c.e.2.1 (λt l=>by
    rcases bU.mp l with h|h;.exact c.e.2.2 t h
    .simp at h;subst h;have:=eq c.g;exact⟨show b.length<=f.length by exact aj this<|ar w,show b.length<=f.length+3 by exact aA 0 0 0 0 0 3 this (ar w) rfl⟩))
   f:=⟨c.f.1,λt l=>by
    rcases bU.mp l with h|h;.exact c.f.2 t h
    .simp at h;subst h;have a2:=bH c.d;have a3:=bH c.b.b;exact dC (show f.length+2≠B.a by exact aL<|an 1 0 1 2 p rfl) (show f.length+4≠B.a by exact aL<|an 1 0 1 4 p rfl) (show f.length≠B.d by exact aL<|aj a2<|ar w) (show f.length≠B.f by exact aL<|aj a3<|ar w)⟩
   k:=by rw[iD,ff];refine aI c.k (by simp) λa8 C a9 u e=>?_;simp at u;subst u;subst e;ext(_:bY.mp C)t l e(aD:fe l)i z;have:=bH (c.h i t z).a;have e:t.g=f.length:=e;exact bB 1 0 (aj (aA 0 0 1 0 1 0 (ar e) this rfl)<|ar w) rfl
   l:=by rw[iD,ff];refine aI c.l (by simp) λa8 C a9 u e=>?_;simp at u;subst u;subst e;ext(_:bY.mp C)t l e(aD:fe l)i z;have:=bH (c.h i t z).b;have e:t.e=f.length+3:=e;exact bB 4 0 (aj (aA 3 0 1 0 4 0 (ar e) this rfl)<|ar w) rfl
   i:=by rw[iD,ff];refine aI c.i (by simp) λa8 C a9 u e=>?_;simp at u;subst u;have e:=e.symm;subst e;ext(_:bY.mp C)t l e;exact L<|ad t l e};have c7:dp (eN 0<|a++[s]) (fT m)=V (Z a.length):=by have:=KX (k:=0) (i:=a.length) (s:=s) E.i (by simp);simpa using this
  ext(aD:E.j)d7 d0;simp[E.zd,rk,x _ _ n b7.symm b6.symm,d0,ub,c7];exact q _ _ _ s E (.inr<|sm s rfl rfl rfl rfl rfl rfl) (by simp) rfl D
end
def ap.zy(G:ap)(a:Nat):Nat:=a-(G.zg a+1)
theorem ap.ya(G:ap)(k:Nat):k<=G.zb k:=by induction k with|zero=>simp|succ k a=>simp only[zb];exact aA 0 0 0 0 1 1 a (ds _ _) rfl
theorem ap.zQ{G:ap}{r t:Nat}(b:r<G.c)(c:t<=(G.b r).length)(a:0<t):G.zy (G.zb r+t)+(r+1)=G.zb r+t:=by unfold zy;rw[G.zo b c];have:=G.ya r;exact Og a this
theorem ap.zR(G:ap){j k:Nat}(h:j<=k):G.zb j+(k-j)<=G.zb k:=by
 induction k with
 |zero=>simp at h;subst h;simp
 |succ k a=>
  rcases aam h with h|h;.have:=a (by exact an 1 1 0 0 h rfl);simp only[zb];exact Oh this
  .subst h;simp
theorem ap.yb{G:ap}{a b:Nat}(o:a<G.zc)(p:b<G.zc)(d:0<G.ze a)(e:0<G.ze b)(h:G.zy a=G.zy b):a=b:=by
 delta G a b;ext o p d e h(bk:G.zt o)@r@t m i l
 exact by
  subst l;ext(bk:G.zt p)@k@q n j l
  exact by
   subst l;rw[G.zq m i]at d;rw[G.zq n j]at e;have f:=G.zQ m i d;have g:=G.zQ n j e;rcases aau r k with c|c|c;.have:=G.zR (show r+1<=k by exact c);simp only[zb]at this;exact Oi i e h f g this
   .subst c;exact Oj f h g
   .have:=G.zR (show k+1<=r by exact c);simp only[zb]at this;exact Ok d j h f g this
theorem ap.yc{G:ap}(f:G.zf){a:Nat}(h:a<G.zc)(e:0<G.ze a):G.zy a<18:=by ext(bk:G.zt h)r t b c j-;rw[G.zq b c]at e;have g:=G.zQ b c e;have d:=G.zR (show r+1<=G.c by exact b);have:G.zb G.c<=24:=G.zA f;have i:=f.a;simp only[zb]at d;exact Ol c g d this i
structure oL(G:ap)(c:List aJ):Prop where
 b:(c.map (·.b)).Nodup
 a:∀j s,c[j]?=V s->hI G s.b/\(0<j->∀d∈s.b,0<G.ze d)
def oM(G:ap)(c:List Nat):Nat:=dz 18 λb=>∃a∈c,G.zy a=b
theorem F9{G:ap}(n:G.zf){a b:List Nat}(d:hI G a)(g:hI G b)(f:∀c∈a,0<G.ze c)(j:∀c∈b,0<G.ze c)(h:oM G a=oM G b):a=b:=by
 have l:∀a b:List Nat,hI G a->hI G b->(∀c∈a,0<G.ze c)->(∀c∈b,0<G.ze c)->oM G a=oM G b->∀x,x∈a->x∈b:=by ext a b d g f j h x i;have e:(oM G a).testBit (G.zy x)=M:=(io 18).mpr ⟨ap.yc n (d.2 x i)<|f x i,ad x i rfl⟩;rw[h]at e;ext(ac:(io 18).mp e)w m(m)y k e;have:=ap.yb (g.2 y k) (d.2 x i) (j y k) (f x i) e;subst this;exact k
 exact KU d.1 g.1 λx=>⟨l a b d g f j h x,l b a g d j f h.symm x⟩
theorem oL.za{G:ap}(t:G.zf){d:List aJ}(h:oL G d):d.length<=262145:=by
 cases d with
 |nil=>simp
 |cons v r=>
  have o:(r.map λs=>oM G s.b).Nodup:=by have c:=h.b;simp only[dm,gR]at c;rw[kX,iE]at c⊢;refine c.2.imp_of_mem λ{a b}k l p e=>?_;ext(aD:fe k)i m(aD:fe l)j n;have f:=h.a (i+1) a (by simpa using m);have g:=h.a (j+1) b (by simpa using n);exact p<|F9 t f.1 g.1 (f.2<|by exact vM) (g.2<|by exact vM) e
  have:=fu (n:=2^18) o λx q=>by ext(_:bY.mp q)s w u-;exact CR _ _
  simp at this⊢;exact this
section
variable{b H I:J}{R:cC}{G:ap}{B:nb}{a:List aJ}{d:Nat}{Q:au}
theorem G0{s u:aJ}(b:u.b=s.b)(c:u.h=s.h):∀{a:List aJ}{j k:Nat},a[k]?=V s->eN j (a.set k u)=eN j a|[],_,_,h=>by simp at h|d::r,j,0,h=>by simp at h;subst h;simp[eN,b,c]|d::r,j,k+1,h=>by simp at h;simp[eN,G0 b c h]
theorem uc{c d:Type}{f:c->d}{s u:c}(h:f u=f s):∀{l:List c}{k:Nat},l[k]?=V s->(l.set k u).map f=l.map f|[],_,b=>by simp at b|a::r,0,b=>by simp at b;subst b;simp[h]|a::r,k+1,b=>by simp at b;simp[uc h b]
theorem cT.ze(c:cT b H R G B a){k:Nat}{s u:aJ}(i:a[k]?=V s)(z:u.f=s.f)(l:u.g=s.g)(A:u.h=s.h)(w:u.b=s.b)(x:u.e=s.e)(v:bn (λj=>j=s.g\/j=s.e) H I)(E:ez I k u)(p:u.k≠B.a)(q:u.i≠B.a):cT b I R G B<|a.set k u:=by
 delta b H I R G B a k s u at c i z l A w x v E p q;have d:=c.h k s i;have y:=bs i;ext(aD:c.j)n C;have D:=c.f.2 s y;have g:∀j o,H[j]?=V o->j≠s.g->j≠s.e->I[j]?=V o:=λj o e p q=>v.a j o e λh=>h.elim p q;have K:∀t,t∈a.set k u->t∈a\/t=u:=λt r=>List.mem_or_eq_of_mem_set r
 exact{
  g:=v.zb c.g λj e=>e.elim (λe=>by rw[e];exact(c.e.2.2 s y).1) (λe=>by rw[e];exact(c.e.2.2 s y).2)
  c:=g _ _ c.c (aV c.c d.a<|by simp) (aV c.c d.b<|by simp)
  d:=g _ _ c.d D.2.2.1.symm (aV c.d d.b<|by simp)
  b:=⟨g _ _ c.b.a (aV c.b.a d.a<|by simp)<|aV c.b.a d.b<|by simp,g _ _ c.b.b D.2.2.2.symm<|aV c.b.b d.b<|by simp,g _ _ c.b.c (aV c.b.c d.a<|by simp)<|aV c.b.c d.b<|by simp⟩
  a:=by rewrite[uc (f:=λs=>O.a s.f) (by simp[z]) i];exact g _ _ c.a (aV c.a d.a<|by simp)<|aV c.a d.b (by simp)
  j:=⟨n,by rw[G0 w A i];exact g _ _ C (aV C d.a<|by simp)<|aV C d.b (by simp)⟩
  h:=λj t e=>by
   delta j t;intros _
   exact by
    by_cases m:j=k;.have m:=m.symm;subst m;rw[kd (bi.mp i).1]at e;have e:=bj e;subst e;exact E
    .rw[iw<|cy m]at e;have f:=c.h j t e;have L:t.g≠s.g:=λl=>m<|jO c.k (i:=j) (j:=k) (x:=s.g) (by rw[dN,e];simp[l]) (by rw[dN,i];rfl);have P:t.e≠s.e:=λl=>m<|jO c.l (i:=j) (j:=k) (x:=s.e) (by rw[dN,e];simp[l]) (by rw[dN,i];rfl);exact{d:=g _ _ f.d (aV f.d d.a<|by simp) (aV f.d d.b<|by simp),a:=g _ _ f.a L (aV f.a d.b<|by simp),e:=g _ _ f.e (aV f.e d.a<|by simp) (aV f.e d.b<|by simp),f:=g _ _ f.f (aV f.f d.a<|by simp) (aV f.f d.b<|by simp),b:=g _ _ f.b (aV f.b d.a<|by simp) P,c:=g _ _ f.c (aV f.c d.a<|by simp) (aV f.c d.b<|by simp)}
  e:=(aI c.e.1 c.e.2.1 (λt r=>by
   rcases K t r with h|rfl;.exact c.e.2.2 t h
   .rw[l,x];exact c.e.2.2 s y))
  f:=⟨c.f.1,λt r=>by
   rcases K t r with h|rfl;.exact c.f.2 t h
   .rw[l];exact aI p q D.2.2⟩
  k:=by rewrite[uc (f:=λs=>s.g) l i];exact c.k
  l:=by rewrite[uc (f:=λs=>s.e) x i];exact c.l
  i:=by rewrite[uc (f:=λs=>s.b) w i];exact c.i}
end
structure ud(G:ap)(e:List aJ)(s:aJ):Prop where
 a:s.j=G.zm s.b
 b:s.d=cr G.c (G.zv<|G.zm s.b)
 c:s.a=cr G.za (G.zi<|G.zm s.b)
 d:∀X∈s.a,∃t,e[s.c X]?=V t/\t.b=cr G.zc (G.zr (G.zm s.b) X)
def ue(s:aJ):Prop:=s.j=[]/\s.a=[]/\s.d=[]
structure Df(G:ap)(h:List aJ)(k:Nat)(s:aJ)(g:List aJ)(u:aJ):Prop where
 a:g[k]?=V u
 b:u.b=s.b
 c:∀j,j≠k->j<h.length->g[j]?=h[j]?
 e:h.length<=g.length
 f:∀j t,h.length<=j->g[j]?=V t->ue t/\∃X∈u.a,u.c X=j
 d:oL G g
theorem G1{G:ap}{c:List Nat}(g:∀b∈c,b<G.zc)(X:Nat):hI G (cr G.zc<|G.zr c X)/\∀b∈cr G.zc (G.zr c X),0<G.ze b:=by refine⟨⟨oH,λb h=>(ef.mp h).1⟩,λb h=>?_⟩;ext(ac:ef.mp h)w d(@bd d)a e f i-;have:=G.zB (g a e) f;exact Om this
theorem G2{a:List Nat}{f:Nat->O}:((dJ a f).map λe=>O.b e.1)=a.map Z:=by simp[dJ]
section
variable{b H I:J}{R:cC}{G:ap}{B:nb}{a:List aJ}{d:Nat}{Q:au}
theorem G3(b0:bm b R G)(L:G.zf)(q:cT b H R G B a)(b3:oL G a){k:Nat}{s:aJ}(y:a[k]?=V s)(c1:ue s)(e4:∀I l u,cT b I R G B l->Df G a k s l u->ud G l u->Q .e I):aY (d+6) Hm [.a B.c,.a s.f] H Q:=by
 delta b H R G B a d Q k s at b0 L q b3 y c1 e4;rw[bR Cl 2 rfl rfl rfl rfl<|by decide];have D:=q.h k s y;have d8:=(b3.a k s y).1;have i6:=bs y;have c2:k<a.length:=(bi.mp y).1;simp[Cl,q.zg];rw[q.b.zf];try simp only[kJ,dI,fS,cg,dG,cb,ce,cf,dH]
 rw[bE D.d D.a rfl rfl];try simp only[dy,dg,en,kI]
 try simp
 refine F1 (b0.za q.g) L q.b d8 D.e ?_;ext@g8@a1 f8 d9 j1
 exact by
  have h0:=q.za f8;have w:=D.za f8;have g5:=bH q.a;refine dr (f:=[(cp,Z k),(iK,.a s.h),(kw,.b s.l),(iL,.a a1),(ia,.a s.e),(gV,.a s.i)]) w.d w.a rfl (by simp) rfl ?_;ext@z h7 h5 b5 _
  exact by
   have g3:s.e≠s.g:=aV D.b D.a (by simp);have j8:=q.f.2 s i6;have j2:a1≠s.g:=by have:=bH D.a;exact aL<|aj this d9
   let K:aJ:={s with k:=a1,j:=G.zm s.b};have c4:∀j o,g8[j]?=V o->j≠s.g->z[j]?=V o:=λj o e h=>b5.a j o e h;have T:ez z k K:=⟨h7,h5,c4 _ _ w.e<|aV w.e w.a<|by simp,c4 _ _ j1 j2,c4 _ _ w.b g3,c4 _ _ w.c<|aV w.c w.a<|by simp⟩;have x:cT b z R G B<|a.set k K:=h0.ze y rfl rfl rfl rfl rfl (b5.ze λj e=>.inl e) T (show a1≠B.a by exact aL<|aj g5 d9) j8.2.1;have j7:(a.set k K)[k]?=V K:=kd c2;try simp
   rw[x.zb];try simp only[dy,dI,fS,cg,dG,cb,ce,cf,dH]
   rw[bE T.d T.a rfl rfl];try simp only[dy,dg,en,qS]
   try simp
   have f5:=E8 d8;have d5:=rp d8;refine F2 (b0.za x.g) L f5 d5 T.f ?_;ext@A@c6 f9 f7 j3
   exact by
    have b7:=x.za f9;have m:=T.za f9;refine dr (f:=[(cp,Z k),(iK,.a s.h),(kw,.b s.l),(iL,.a a1),(ia,.a s.e),(gV,.a c6)]) m.d m.a rfl (by simp) rfl λc7 h8 h6 f0 _=>?_;have i1:=bH x.a;have j4:c6≠s.g:=by have:=bH T.a;simp[K]at this;exact aL<|aj this f7
    let a2:aJ:={K with i:=c6,d:=cr G.c (G.zv<|G.zm s.b)};have c5:∀j o,A[j]?=V o->j≠s.g->c7[j]?=V o:=λj o e h=>f0.a j o e h;have a0:ez c7 k a2:=⟨h8,h6,c5 _ _ m.e<|aV m.e m.a<|by simp,c5 _ _ m.f<|aV m.f m.a<|by simp,c5 _ _ m.b g3,c5 _ _ j3 j4⟩;have a8:cT b c7 R G B<|(a.set k K).set k a2:=b7.ze j7 rfl rfl rfl rfl rfl (f0.ze λj e=>.inl e) a0 (show a1≠B.a by exact aL<|aj g5 d9) (show c6≠B.a by exact aL<|aj i1 f7);rw[vi]at a8;try simp
    rw[a8.zb];try simp only[dy,dI,fS,cg,dG,cb,ce,cf,dH]
    rw[bE a0.d a0.a rfl rfl];try simp only[dy,dg,en,qS]
    try simp
    refine F3 (b0.za a8.g) L f5 d5 a0.f λe9 e5 k4 g6 g0 i2 E j6=>?_;have a9:=a8.za g0;have j0:=bH a0.b;have i9:a2.e=s.e:=rfl;simp[E,G2];generalize b8:cr G.za (G.zi<|G.zm s.b)=a3 at*;have h4:a3.Nodup:=by rw[<-b8];exact ua
    have h3:a3.length<=10:=by rw[<-b8];have:=ro (n:=G.za) (p:=G.zi<|G.zm s.b);have:=L.b;exact Gf (by assumption) this
    have b9:∀X∈a3,e9[g6 X]?=V (.b<|(cr G.zc<|G.zr (G.zm s.b) X).map Z):=λX r=>by rw[<-b8]at r;exact j6 X (ef.mp r).1 (ef.mp r).2
    have g2:e5≠s.e:=by exact aL<|aj j0 i2
    ext(aD:a9.j)k5 e0;refine bV (λe7 e8 I=>∃e3 l u,e8=[V<|.a B.c,V<|.a s.f,V<|.a e5,e3]/\cT b I R G B l/\Df G a k s l u/\bn (λj=>j=B.a\/j=B.b\/j=s.e) e9 I/\u.f=s.f/\u.e=s.e/\u.j=G.zm s.b/\u.d=cr G.c (G.zv<|G.zm s.b)/\u.a=a3.take e7/\∀X∈u.a,∃t,l[u.c X]?=V t/\t.b=cr G.zc (G.zr (G.zm s.b) X)) (Ff _ (a.set k a2) a2 rfl a9 ?_ .zf rfl rfl rfl rfl c1.2.1 λX r=>?_) ?_ ?_
    .refine⟨kd c2,rfl,λj c _=>iw<|cy c,by simp,λj t c e=>?_,⟨a8.i,λj t e=>?_⟩⟩;.have:=(bi.mp e).1;simp at this;exact(bB 1 0 (aA 0 0 1 0 1 0 c this rfl) rfl).elim
     .by_cases c:j=k;.have c:=c.symm;subst c;rw[kd c2]at e;have e:=bj e;subst e;exact b3.a k s y
      .rw[iw<|cy c]at e;exact b3.a j t e
    .have:a2.a=[]:=c1.2.1;rw[this]at r;cases r
    .ext e7 k7 e8 I k2 h1 k3 k1 v(Fw v)e3 l u b6 g a4 d2 d0 c9 d3 S d1(_:cB k1)X r v-;have b1:=bs r
     have g1:I[e5]?=_:=a4.a _ _ E λe=>by
      rcases e with e|e|e;.exact aV E a9.a (by simp) e
      .exact aV E e0 (by simp) e
      .exact g2 e
     have h2:=a0.za g0
     have j5:I[g6 X]?=_:=a4.a _ _ (b9 X b1) λe=>by
      rcases e with e|e|e;.exact aV (b9 X b1) a9.a (by simp) e
      .exact aV (b9 X b1) e0 (by simp) e
      .exact aV (b9 X b1) h2.b (by simp)<|e.trans i9.symm
     refine⟨g1,?_⟩;simp[g1,oJ,b1,b6.zf];have i3:=g.d.za L;refine KZ b6 (by exact an 0 262145 0 16000000 i3 rfl) j5 λz p i t x c3 j9 k0 b5=>?_;have i0:k<l.length:=(bi.mp g.a).1
     have b2:p[k]?=V u:=by
      rcases c3 with rfl|⟨e2,rfl,_⟩;.exact g.a
      .rw[gQ i0];exact g.a
     have f:=x.h k u b2;have i5:=bs b2;have g4:=x.f.2 u i5;have d4:X∉u.a:=by rw[S];exact lM h4 r
     have i7:u.a.length<=16777216:=by rw[S];have:=(fW e7 a3).length_le;exact aA 0 0 0 10 0 16777216 this h3 rfl
     try simp only[Bc,fS,cg,dG,cb,ce,cf,dH]
     rw[bE (by rw[<-d2];exact f.d) f.a rfl rfl];try simp only[tJ,cg,dG,cb,ce,cf,tI,KE]
     simp[f.b,Dd];refine⟨i7,λe1=>?_⟩;rw[Db d4];let n:aJ:={u with m:=e1,a:=u.a++[X],c:=bb u.c X i};generalize f4:z.set u.e (.f e1<|dJ (u.a++[X])<|bb (λX=>O.b (u.c X:Nat)) X<|.b (i:Nat))=A;have c8:bn (·=u.e) z A:=by subst f4;exact .zd rfl
     have i8:A[u.e]?=V (.f e1<|dJ (u.a++[X]) λX=>Z<|n.c X):=by subst f4;rw[cq f.b];congr 2;apply De;ext P _;simp only[n,bb];split<;>rfl
     have b4:∀j o,z[j]?=V o->j≠u.e->A[j]?=V o:=λj o e h=>c8.a j o e h;have m:ez A k n:=⟨b4 _ _ f.d<|aV f.d f.b<|by simp,b4 _ _ f.a<|aV f.a f.b<|by simp,b4 _ _ f.e<|aV f.e f.b<|by simp,b4 _ _ f.f<|aV f.f f.b<|by simp,i8,b4 _ _ f.c<|aV f.c f.b<|by simp⟩;have b7:cT b A R G B<|p.set k n:=x.ze b2 rfl rfl rfl rfl rfl (c8.ze λj e=>.inr e) m g4.1 g4.2.1;have d7:k<p.length:=(bi.mp b2).1
     have f3:∀(i:Nat)(t:aJ),p[i]?=V t->∃g7:aJ,(p.set k n)[i]?=V g7/\g7.b=t.b:=λi t e=>by
      by_cases h:i=k;.have h:=h.symm;subst h;rw[b2]at e;have e:=bj e;subst e;exact ad n (kd d7) rfl
      .exact ad t (by rw[iw<|cy h];exact e) rfl
     have f2:∀(j:Nat)(t:aJ),l[j]?=V t->p[j]?=V t:=λj t e=>by
      rcases c3 with rfl|⟨e2,rfl,_⟩;.exact e
      .rw[gQ (bi.mp e).1];exact e
     have f1:∀(j:Nat)(t:aJ),p[j]?=V t->l[j]?=V t\/(t.b=cr G.zc (G.zr (G.zm s.b) X)/\ue t/\j=i/\j=l.length):=λj t e=>by
      rcases c3 with rfl|⟨e2,rfl,a5,C,a6,a7,g9⟩;.exact .inl e
      .by_cases c:j<l.length;.rw[gQ c]at e;exact .inl e
       .rw[ev<|by exact dM c]at e;have d6:j-l.length=0:=by have:=(bi.mp e).1;simp at this;exact be (aw this)<|ar this
        rw[d6]at e;simp at e;subst e;exact .inr<|dC a5 (aI C a6 a7) (by exact On g9 c d6) (by exact Ge c d6)
     have i4:l.length<=p.length:=by
      rcases c3 with rfl|⟨e2,rfl,_⟩;.exact aO _
      .simp
     refine(h1 _ _<|Ff _ (p.set k n) n rfl b7 ⟨kd d7,g.b,λj c f6=>?_,?_,λj t c e=>?_,⟨b7.i,λj t e=>?_⟩⟩ ?_ d2 d0 c9 d3 ?_ λP c0=>?_).1
     .rw[iw<|cy c,<-g.c j c f6];have:j<l.length:=by have:=g.e;exact aj f6 this
      rw[f2 j _<|cu this,cu this]
     .rw[List.length_set];exact aj g.e i4
     .have h9:j≠k:=by exact aL<|aj c2 c
      rw[iw<|cy h9]at e;rcases f1 j t e with h|⟨_,h,C,_⟩;.ext(ac:g.f j t c h)a5 v(v)P c0 C;refine⟨a5,ad P (gS _ c0) ?_⟩;show bb u.c X i P=j;rw[bc λe=>d4<|by rw[<-e];exact c0];exact C
      .refine⟨h,ad X (by simp[n]) ?_⟩;show bb u.c X i X=j;rw[bx];exact C.symm
     .by_cases c:j=k;.have c:=c.symm;subst c;rw[kd d7]at e;have e:=bj e;subst e;exact g.d.a k u g.a
      .rw[iw<|cy c]at e;rcases f1 j t e with h|⟨h,_,_,_⟩;.exact g.d.a j t h
       .rw[h];have:=G1 d5 X;exact⟨this.1,λ_=>this.2⟩
     .refine a4.za<|(b5.ze λj e=>?_).za<|c8.ze λj e=>.inr<|.inr<|e.trans d0;rcases e with e|e;.exact .inl e
      .exact .inr<|.inl e
     .show u.a++[X]=_;rw[S,fX,r];rfl
     .rcases bU.mp c0 with h|h;.ext(_:d1 P h)k6 a5 C(_:f3 _ _ (f2 _ _ a5))e6 a6 a7;refine ad e6 ?_<|a7.trans C;show(p.set k n)[bb u.c X i P]?=_;rw[bc λe=>d4<|by rw[<-e];exact h];exact a6
      .simp at h;have h:=h.symm;subst h;ext(_:f3 _ _ j9)e6 a6 a7;refine ad e6 ?_<|a7.trans k0;show(p.set k n)[bb u.c X i X]?=_;rw[bx];exact a6
    .ext e8 I v(Fw v)e3 l u b6 g a4 d2 d0 c9 d3 S d1;simp only[bC,fj]at S;refine⟨a4.a _ _ E λe=>?_,?_⟩
     .rcases e with e|e|e;.exact aV E a9.a (by simp) e
      .exact aV E e0 (by simp) e
      .exact g2 e
     .refine e4 _ _ _ b6 g ⟨?_,?_,?_,?_⟩;.rw[g.b];exact c9
      .rw[g.b];exact d3
      .rw[g.b,S,b8]
      .rw[g.b];exact d1
end
section
variable{b H I:J}{R:cC}{G:ap}{B:nb}{e:List aJ}{d c a:Nat}{Q:au}
theorem G4(a3:bm H R G)(u:G.zf)(E:H[c]?=V (.e sI a))(D:H[a]?=V (.c [])){b:J}(r:bm b R G)(K:b<+:H)(C:b.length<=a)(q:∀I x,ey I R G c a x->bn (·=a) H I->H.length<=x->Q .e I):aY (d+2) SM [.a c,.a R.a] H Q:=by
 delta H R G d c a Q b at a3 u E D r K C q;rw[bR Ca 2 rfl rfl rfl rfl<|by decide];have B:=u.b;simp[Ca];refine dr (f:=[(cR,.a R.a)]) E D rfl (by simp) rfl ?_;ext@w b5 b2 a1 b8
 exact by
  have z:=a1.zb K λj e=>by exact aj C<|ar e
  have a4:=r.za<|z.trans<|aB w [aa.a [.b 0]];simp[a4.zg,tZ a4];refine⟨by exact vN B,?_⟩;generalize a9:w.length+1=i;have a0:fv G.za w i (w++[aa.a [.b 0],aa.a<|ck G.za<|.b 0]) λ_=>0:=⟨aB _ _,by exact an 1 0 0 0 (aw a9) rfl,by subst a9;simp[tV];rfl⟩;have a5:=r.za<|z.trans a0.a;simp[a5.zc,a5.a];refine bV (λk X I=>∃P v,X=[V<|.a c,V<|.a R.a,V<|.a i,P]/\fv G.za w i I v/\∀s t,(v s).testBit t=M↔∃j,j<k/\G.d j=s/\(G.b j)[0]?=V t) (bu _ _ rfl a0<|by simp) ?_ ?_
  .ext@k@c8@X@I@c3 a6 c7 c0 f
   exact by
    ext(hZ f)@P@v S p
    exact by
     ext(ac:gf c0)o f-;have m:=r.za<|z.trans S.a;have b0:=u.c k o;refine⟨m.a,?_⟩;simp[m.ze o,m.b k o]
     cases n:(G.b k)[0]? with
     |none=>
      have A:(G.b k).length=0:=by rw[vn]at n;exact Gg n
      simp[A];refine(a6 _ _<|bu _ v rfl S λs t=>?_).1;rw[p];constructor;.ext f(f)j h g;exact ad j (by exact an 1 0 1 1 h rfl) g
      .ext f(@bd f)j h g l;by_cases e:j=k;.have e:=e.symm;subst e;rw[n]at l;exact cn l
       .exact aT j (by exact cO h e) g l
     |some T=>
      delta T;intros _
      exact by
       have A:0<(G.b k).length:=(bi.mp n).1;have b1:aP (0<(G.b k).length)=M:=by simp[A]
       have b9:=u.d k o T<|bs n;rw[b1];simp[m.zb o,m.ze o,S.b,cc b0,m.b k o,n];refine aI (by exact vO B b9) b0<|(a6 _ _<|bu _ _ rfl (S.za rfl rfl) λs t=>?_).1;by_cases e:s=G.d k
       .subst e;rw[bx,CY,p];constructor
        .rintro(⟨j,h,g⟩|rfl);.exact ad j (by exact an 1 0 1 1 h rfl) g
         .exact aT k (by exact aO _) rfl n
        .ext f(@bd f)j h g l;by_cases e:j=k;.have e:=e.symm;subst e;rw[n]at l;have l:=bj l;subst l;exact .inr rfl
         .exact .inl<|aT j (by exact cO h e) g l
       .rw[bc e,p];constructor;.ext f(f)j h g;exact ad j (by exact an 1 0 1 1 h rfl) g
        .ext f(@bd f)j h g l;by_cases y:j=k;.have y:=y.symm;subst y;exact absurd g.symm e
         .exact aT j (by exact cO h y) g l
  .ext X I f(hZ f)P v S p;have m:=r.za<|z.trans S.a;refine⟨m.a,?_⟩;simp only[gI]at p;simp;refine E6 S.b (by exact an 0 10 0 1000 B rfl) (λs t _=>p s t) (λc4 c5=>ap.zp.za u) λc1 x L b4 a8=>?_;have b6:=ay (S.a.trans L) b5;have a7:=ay (S.a.trans L) b2;refine dr (f:=[(cR,.a R.a),(pX,.a x)]) b6 a7 rfl (by simp) rfl λc2 b7 b3 a2 c6=>?_;refine q _ x ⟨b7,b3,a2.a _ _ a8<|aV a8 a7<|by simp⟩ (a1.za<|(bn.zc<|S.a.trans L).za a2) ?_;have:=eq S.a;exact aj (aj (ar b8) this) b4
end
set_option genSizeOf false
set_option genInjectivity false
structure bJ(G:ap)(e:List aJ):Prop where
 a:oL G e
 b:∀(j:Nat)(s:aJ),e[j]?=V s->ud G e s
 c:∃s:aJ,e[0]?=V s/\s.b=[0]
 d:∀q,0<q->q<e.length->∃(p:Nat)(s:aJ)(X:Nat),p<q/\e[p]?=V s/\X∈s.a/\s.c X=q
structure gi where
 a:Nat
 c:Nat
 b:Nat
instance:Nonempty gi:=⟨by constructor<;>exact cU⟩
structure er(H:J)(R:cC)(A:gi)(e:List aJ):Prop where
 c:H[A.a]?=V (.e sJ A.c)
 d:H[A.c]?=V (.c [(cR,.a R.a),(dP,.a A.b)])
 b:H[A.b]?=V (.a<|e.map λs=>.a s.f)
 a:∀k s,e[k]?=V s->ez H k s
theorem er.za{H I:J}{R:cC}{A:gi}{a:List aJ}(h:er H R A a)(p:H<+:I):er I R A a:=⟨ay p h.c,ay p h.d,ay p h.b,λk s e=>(h.a k s e).za p⟩
section
variable{b H I:J}{R:cC}{G:ap}{B:nb}{a:List aJ}{d:Nat}{Q:au}
theorem G5{h c:Nat}(u:bm b R G)(a5:G.zf)(S:H[h]?=V (.e vW c))(K:H[c]?=V (.c []))(a0:b<+:H)(p:b.length<=c)(a4:∀I B,B.c=h->cT b I R G B []->Q .e I):aY (d+3) SO [.a h,.a R.a] H Q:=by
 delta b H R G d Q h c;ext u a5 S K a0 p a4;rw[bR Cj 0 rfl rfl rfl rfl<|by decide];simp[Cj];refine dr (f:=[(cR,.a R.a)]) S K rfl (by simp) rfl ?_;ext@a T L a6 c1
 exact by
  try simp
  have a1:=a6.zb a0 λj e=>by exact aj p<|ar e
  have A:=a1.trans<|aB a [.c [],.e sI a.length];have X:=eq a1;have v:=bH L;have a9:=bH T;refine G4 (a:=a.length) (u.za A) a5 (by simp) (by simp) u A (by exact X) ?_;ext@b9@k m t P
  exact by
   simp at P;have b2:=t.a _ _ (aH T) (by exact bh a9);have x:=t.a _ _ (aH L) (by exact bh v);refine⟨rfl,?_⟩;have b6:=t.zb A λj e=>by exact aj X<|ar e
   refine dr (f:=[(cR,.a R.a),(ms,.a (a.length+1))]) b2 x rfl (by simp) rfl ?_;ext@f b3 r q y
   exact by
    try simp
    have w:a.length≠c:=by exact aL v
    have c0:k≠c:=by exact aL<|aA 1 0 2 0 1 0 v P rfl
    have D:ey f R G (a.length+1) a.length k:=⟨q.a _ _ m.a<|aV m.a x<|by simp,q.a _ _ m.b w,q.a _ _ m.c<|aV m.c x<|by simp⟩;refine dr (f:=[(cR,.a R.a),(ms,.a (a.length+1)),(dP,.a f.length)]) (aH b3) (aH r) rfl (by simp) rfl ?_;ext@g b4 s l z
    exact by
     try simp
     simp at z;have E:=bH r;have a3:g[f.length]?=V (.a []):=l.a _ _ cF (by exact aL E);have n:=D.za<|aB f [.a []];have a7:ey g R G (a.length+1) a.length k:=⟨l.a _ _ n.a<|aV n.a (aH r)<|by simp,l.a _ _ n.b w,l.a _ _ n.c<|aV n.c (aH r)<|by simp⟩;refine dr (f:=[(cR,.a R.a),(ms,.a (a.length+1)),(dP,.a f.length),(mt,.a g.length)]) (aH b4) (aH s) rfl (by simp) rfl λC b5 b0 i c2=>?_;try simp
     have o:=a7.za<|aB g [.d 0 []];have a8:ey C R G (a.length+1) a.length k:=⟨i.a _ _ o.a<|aV o.a (aH s)<|by simp,i.a _ _ o.b w,i.a _ _ o.c<|aV o.c (aH s)<|by simp⟩;have b1:=bH D.c;have a2:=q.zb b6 λj e=>by exact aj p<|ar e
     have b7:=l.zb (a2.trans<|aB _ _) λj e=>by exact aj p<|ar e
     have b8:=i.zb (b7.trans<|aB _ _) λj e=>by exact aj p<|ar e
     have y:=eq a2
     refine a4 C ⟨h,c,a.length+1,a.length,k,f.length,g.length⟩ rfl {
      g:=b8
      c:=b5
      d:=b0
      b:=a8
      a:=i.a _ _ (aH a3) (aV a3 s<|by simp)
      j:=⟨0,i.a _ _ cF<|by show g.length≠c;exact aL<|aA 1 0 1 0 1 0 E (ar z) rfl⟩
      h:=λc3 c4 e=>by simp at e
      e:=(aI y (by show b.length<=g.length;exact aA 0 0 1 0 0 0 y (ar z) rfl)<|by simp)
      f:=⟨by show k≠f.length;exact bh b1,by simp⟩
      k:=by simp
      l:=by simp
      i:=by simp}
theorem G6{a b:Nat}{x y:O}(i:H[a]?=V (.e sJ b))(f:H[b]?=V (.c []))(q:∀I,I[a]?=V (.e sJ b)->I[b]?=V (.c [(cR,x),(dP,y)])->bn (·=b) H I->Q .e I):aY (d+1) SN [.a a,x,y] H Q:=by
 rw[bR Ch 0 rfl rfl rfl rfl<|by decide];simp[Ch];refine dr (f:=[(cR,x)]) i f rfl (by simp) rfl λl j g c n=>?_;try simp
 refine dr (f:=[(cR,x),(dP,y)]) j g rfl (by simp) rfl λm k h e o=>?_;exact q _ k h<|c.za e
structure nc(G:ap)(a:List aJ)(h:Nat):Prop where
 b:oL G a
 g:h<=a.length
 d:∀(j:Nat)(s:aJ),j<h->a[j]?=V s->ud G a s
 c:∀(j:Nat)(s:aJ),h<=j->a[j]?=V s->ue s
 e:∃s:aJ,a[0]?=V s/\s.b=[0]
 f:∀q,0<q->q<a.length->∃(p:Nat)(s:aJ)(X:Nat),p<q/\a[p]?=V s/\X∈s.a/\s.c X=q
theorem nc.za{a l:List aJ}{c:Nat}{s m:aJ}(h:nc G a c)(o:a[c]?=V s)(b:Df G a c s l m)(y:ud G l m):nc G l<|c+1:=by
 delta G a l c s m;ext h o b y;have v:=(bi.mp o).1
 have A:∀(j:Nat)(t:aJ),j<a.length->a[j]?=V t->∃r:aJ,l[j]?=V r/\r.b=t.b/\(j≠c->r=t):=λj t k e=>by
  delta j t;intros _
  exact by
   by_cases g:j=c;.subst g;rw[o]at e;have e:=bj e;subst e;exact aT m b.a b.b λh=>absurd rfl h
   .exact aT t (by rw[b.c j g k];exact e) rfl λL=>rfl
 refine⟨b.d,?_,λj t k e=>?_,λj t k e=>?_,?_,λq C H=>?_⟩;.have:=b.e;exact aj v this
 .delta j t;intros _
  exact by
   by_cases g:j=c;.have g:=g.symm;subst g;rw[b.a]at e;have e:=bj e;subst e;exact y
   .rw[b.c j g<|by exact aj k v]at e;have w:=h.d j t (by exact cO k g) e;refine⟨w.a,w.b,w.c,λX D=>?_⟩;ext(_:w.d X D)u f d(bd:A _ _ (bi.mp f).1 f)K i n L;exact ad K i<|n.trans d
 .by_cases z:j<a.length;.rw[b.c j (by exact aL k) z]at e;exact h.c j t (by exact an 1 0 0 0 k rfl) e
  .exact(b.f j t (by exact dM z) e).1
 .ext(_:h.e)t f d(bd:A 0 t (by exact Oo v) f)r i n L;exact ad r i<|n.trans d
 .by_cases x:q<a.length
  .ext(hY:h.f q C x)p t X f d i n;have E:p≠c:=λe=>by have e:=e.symm;subst e;rw[o]at d;have d:=bj d;subst d;have:=(h.c c s (aO _) o).2.1;rw[this]at i;cases i
   exact gt p t X f (by rw[b.c p E<|by exact aA 1 0 1 0 1 0 f x rfl];exact d) i n
  .obtain⟨t,I⟩:∃t,l[q]?=V t:=⟨_,cu H⟩;ext(ac:b.f q t (by exact dM x) I)L B(B)X f d;exact gt c m X (by exact aj v<|dM x) b.a f d
theorem nc.zb{a:List aJ}(h:nc G a a.length):bJ G a:=⟨h.b,λj s e=>h.d j s (bi.mp e).1 e,h.e,h.f⟩
theorem G7(u:bm b R G)(p:G.zf)(m:cT b H R G B [])(q:∀I A a,b<+:I->er I R A a->bJ G a->Q (.a A.a) I):aY (d+7) Hn [.a B.c] H Q:=by
 delta b H R G B d Q;ext u p m q;rw[bR Cm 1 rfl rfl rfl rfl<|by decide];have z:=p.a;have y:=u.za m.g;have a6:aY (d+6) sM [.a R.a,.b 0,.b 0] H=λQ=>Q (Z 0) H:=by funext Q;have:=CO (d:=d+5) (Q:=Q) (r:=0) (t:=0) y (by exact an 6 0 1 0 (ar z) rfl);exact this
 have X:=m.za<|aB H [.b [.b 0]];simp[Cm,m.zb,y.zk,a6,m.zf,tc];have a5:0<G.zc:=by have:=G.zK (r:=0) (t:=0) (by exact an 6 0 1 0 (ar z) rfl)<|fd _;exact Op this
 refine KZ X (by simp) (r:=H.length) (m:=[0]) (by simp) ?_;ext@b5@c3@c0@t x b0 g b9 b7
 exact by
  rcases b0 with rfl|⟨s,rfl,w,P,S,T,_⟩;.simp at g
  simp only[Ef]at x g;have K:nc G [s] 0:=⟨⟨by simp,λj t e=>by match j,e with|0,e=>simp at e;subst e;rw[w];refine⟨⟨by simp,λc1 h=>by simp at h;subst h;exact a5⟩,λh=>by exact(bB 1 0 h rfl).elim⟩⟩,by exact fH,λj s h=>absurd h<|dW _,λj t _ e=>by match j,e with|0,e=>simp at e;subst e;exact aI P S T,ad s rfl w,λq L C=>by simp at C;exact(bB 1 0 (aj L<|aw C) rfl).elim⟩;refine iZ (λn E I=>∃f a,E=[V<|.a B.c,V<|Z f]/\cT b I R G B a/\nc G a f/\n=262146-f) (eD 0 ([s]) rfl x K rfl) ?_;ext@n@E@I D
  exact by
   ext(kt D)@f@a c k b4
   exact by
    subst b4;ext b6 a3 b8;have a9:=k.b.za p;simp[c.zc,c.a];refine cE (λh=>?_) λh=>?_
    .simp at h;obtain⟨t,g⟩:∃t,a[f]?=V t:=⟨_,cu h⟩;simp[c.zh,c.zc,c.a,g];refine G3 u p c k.b g (k.c f t (aO _) g) λr b3 c2 a0 a2 a1=>?_;try simp
     exact(a3 _ _ _ (by exact Oq a9 h)<|eD (f+1) b3 rfl a0 (k.za g a2 a1) rfl).1
    .simp at h;have a4:f=a.length:=by have:=k.g;exact be this h
     subst a4;simp[c.zb,c.zc];refine G6 (b:=I.length) (by simp) (by simp) λr a8 a7 v=>⟨rfl,?_⟩;have b1:=v.zb (c.g.trans<|aB _ _) λj e=>by have:=eq c.g;exact aj this<|ar e
     have i:∀j o,I[j]?=V o->r[j]?=V o:=λj o e=>v.a j o (aH e) (by have:=bH e;exact bh this);refine q r ⟨I.length+1,I.length,B.a⟩ a b1 ⟨a8,a7,i _ _ c.a,λb2 s e=>?_⟩ k.zb;have l:=c.h b2 s e;exact⟨i _ _ l.d,i _ _ l.a,i _ _ l.e,i _ _ l.f,i _ _ l.b,i _ _ l.c⟩
theorem G8(c:bm H R G)(e:G.zf)(q:∀I A a,H<+:I->er I R A a->bJ G a->Q (.a A.a) I):aY (d+8) wc [.a R.a] H Q:=by
 rw[bR Cn 0 rfl rfl rfl rfl<|by decide];simp[Cn];refine G5 (c:=H.length) c e (by simp) (by simp) (aB _ _) (aO _) λg B f b=>⟨rfl,?_⟩;try simp only[ol]
 rw[<-f];rw[b.zi];try simp only[kJ,dg,kI]
 try simp
 exact G7 c e b q
end
noncomputable def jS{a:Type}(f:Nat×Nat->a)(p:Nat×Nat)(v:a):Nat×Nat->a:=λq=>if q=p then v else f q
@[simp]theorem kO{a:Type}(f:Nat×Nat->a)(p:Nat×Nat)(v:a):jS f p v p=v:=by simp[jS]
theorem fa{a:Type}{f:Nat×Nat->a}{p q:Nat×Nat}{v:a}(h:q≠p):jS f p v q=f q:=by simp[jS,h]
noncomputable def fb(p:Nat×Nat):List Int:=[(p.1:Int),(p.2:Int)]
theorem La{p q:Nat×Nat}(h:fb p=fb q):p=q:=by obtain⟨a,b⟩:=p;obtain⟨c,e⟩:=q;simp[fb]at h;ext(@ac h)d f;simp;exact Ot d f
def dK(b:List<|Nat×Nat)(a:Nat×Nat->Nat)(f:Nat×Nat->O):List<|List Int×Nat×O:=b.map λp=>(fb p,a p,f p)
theorem lN{a:List<|Nat×Nat}{b:Nat×Nat->Nat}{f:Nat×Nat->O}:(dK a b f).length=a.length:=by simp[dK]
theorem rq{c:Nat×Nat->Nat}{f:Nat×Nat->O}{p:Nat×Nat}:∀{b:List<|Nat×Nat},dp (dK b c f) (fb p)=if p∈b then V (f p)else U
 |[]=>rfl
 |a::b=>by
  have d:=rq (c:=c) (f:=f) (p:=p) (b:=b);unfold dp dK at d⊢;rw[dm,kU];by_cases e:a=p;.subst e;simp
  .have:aP (fb a=fb p)=aq:=by simp;exactλh=>e<|La h
   rw[this];simp only[];rw[d];simp[cy e]
theorem G9{c:Nat×Nat->Nat}{f:Nat×Nat->O}{p:Nat×Nat}{j:Nat}{v:O}{b:List<|Nat×Nat}(h:p∉b):jB (dK b c f) (fb p) j v=dK (b++[p]) (jS c p j) (jS f p v):=by
 rw[KY<|by rw[rq,if_neg h]];unfold dK;rw[iD];congr 1;.refine jp λa d=>?_;have:a≠p:=λe=>h (by rw[<-e];exact d);rw[fa this,fa this]
 .simp
def ch(H:J)(r:Nat)(b:List<|Nat×Nat)(f:Nat×Nat->O):Prop:=∃n a,H[r]?=V (.d n<|dK b a f)/\∀p∈b,H[a p]?=V (.b [Z p.1,Z p.2])
section
variable{H I:J}{r i j:Nat}{a:List<|Nat×Nat}{f:Nat×Nat->O}{S:Nat->Prop}{p:Nat×Nat}{v:O}
theorem ch.za(h:ch H r a f)(b:H<+:I):ch I r a f:=let⟨n,g,c,d⟩:=h;(bK n g (ay b c) λp e=>ay b<|d p e)
theorem ch.zb(h:ch H r a f)(b:bn S H I)(i:¬S r)(g:∀j l,S j->H[j]?≠V (.b l)):ch I r a f:=let⟨n,k,e,c⟩:=h;(bK n k (b.a _ _ e i) λp d=>b.a _ _ (c p d) λs=>g _ _ s<|c p d)
theorem ch.zc(h:ch H r a f){g:Nat×Nat->O}(e:∀p∈a,f p=g p):ch H r a g:=let⟨n,i,b,c⟩:=h;(bK n i (by rw[b];congr 2;exact jp λp d=>by rw[e p d]) c)
theorem uf{a b:Nat}(h:H[j]?=V (.b [Z a,Z b])):fn H (.a j)=V (fb (a,b)):=by rw[rk,h];rfl
theorem ch.zd{Q:J->Prop}(h:ch H i a f){c b:Nat}(g:H[j]?=V (.b [Z c,Z b]))(o:(c,b)∉a)(m:a.length<=16777216)(q:∀I,ch I i (a++[(c,b)]) (jS f (c,b) v)->bn (·=i) H I->I.length=H.length->Q I):mD (.a i) (.a j) v H Q:=by
 ext(@bp h)n t d k;rw[mZ,uf g,d];refine⟨by rw[lN];exact m,λs=>?_⟩;rw[G9 o];refine q _ (bK s _ (cq d) λp r=>?_) (.zd rfl) (by simp);by_cases e:p=(c,b);.subst e;rw[kO];exact aX g<|aV d g (by simp)
 .rw[fa e]
  have l:p∈a:=by
   rcases bU.mp r with h|h;.exact h
   .simp at h;exact absurd h e
  exact aX (k p l)<|aV d (k p l) (by simp)
theorem ch.ze{Q:au}(h:ch H i a f){c b:Nat}(e:H[j]?=V (.b [Z c,Z b]))(g:(c,b)∈a)(q:Q (f (c,b)) H):jD (.a i) (.a j) H Q:=by ext(@bp h)n l d k;rw[tX,uf e,d];simp[rq,g];exact q
end
section
variable{H I:J}{R:cC}{G:ap}{A:gi}{a:List aJ}{d:Nat}{Q:au}
theorem er.zb(h:er H R A a):cS (.a A.a) cR H Q=Q (.a R.a) H:=bE h.c h.d rfl rfl
theorem er.zc(h:er H R A a):cS (.a A.a) dP H Q=Q (.a A.b) H:=bE h.c h.d rfl rfl
theorem er.zd(h:er H R A a){Q:Nat->Prop}:dR (.a A.a) lh H Q=Q Hk:=hh h.c h.d rfl rfl
theorem ez.zb{k:Nat}{s:aJ}(h:ez H k s):cS (.a s.f) cp H Q=Q (Z k) H:=bE h.d h.a rfl rfl
theorem ez.zc{k:Nat}{s:aJ}(h:ez H k s):cS (.a s.f) gV H Q=Q (.a s.i) H:=bE h.d h.a rfl rfl
theorem ez.zd{k:Nat}{s:aJ}(h:ez H k s):cS (.a s.f) ia H Q=Q (.a s.e) H:=bE h.d h.a rfl rfl
theorem ez.zf{k:Nat}{s:aJ}(h:ez H k s){Q:Nat->Prop}:dR (.a s.f) lh H Q=Q Hd:=hh h.d h.a rfl rfl
noncomputable def bI(a:List aJ):Nat->List (Nat×Nat)|0=>[]|k+1=>bI a k++(match a[k]? with|V s=>s.d.map λr=>(k,r)|U=>[])
theorem rr{a:List aJ}{k:Nat}{s:aJ}(h:a[k]?=V s):bI a (k+1)=bI a k++s.d.map λr=>(k,r):=by rw[bI,h]
theorem lO{a:List aJ}{c b:Nat}:∀{k:Nat},(c,b)∈bI a k↔c<k/\∃s,a[c]?=V s/\b∈s.d
 |0=>by simp[bI]
 |k+1=>by
  rw[bI,bU,lO];constructor
  .rintro(⟨f,l⟩|h);.exact⟨by exact an 1 0 1 1 f rfl,l⟩
   .split at h;.rename_i s d;ext(_:bY.mp h)r m e;cases e;exact⟨by exact aO _,ad s d m⟩
    .cases h
  .ext i(@ac i)f j(j)s d g;by_cases e:c=k;.subst e;right;rw[d];exact bY.mpr<|ad b g rfl
   .exact .inl ⟨by exact cO f e,ad s d g⟩
theorem lP(c:bJ G a){k:Nat}{s:aJ}(h:a[k]?=V s):s.d.Pairwise (·<·)/\s.d.length<=G.c/\∀r∈s.d,r<G.c/\r≠0:=by rw[(c.b k s h).b];exact aI oH ro λr b=>⟨(ef.mp b).1,(ef.mp b).2.1⟩
theorem Dg(b:bJ G a):∀k,(bI a k).length<=G.c*k
 |0=>by simp[bI]
 |k+1=>by
  rw[bI,hR];have:=Dg b k
  have:(match a[k]? with|V s=>s.d.map λr=>(k,r)|U=>[]).length<=G.c:=by
   split;.rename_i s c;rw[bC];exact(lP b c).2.1
   .simp
  rw[Nat.mul_succ];exact oY (by assumption) this
theorem H0(y:bm H R G)(t:G.zf)(x:er H R A a)(w:bJ G a)(a0:∀I r,H<+:I->ch I r (bI a a.length) (λp=>Z<|hk G<|G.d p.2)->Q (.a r) I):aY (d+5) vZ [.a A.a] H Q:=by
 delta H R G A a d Q;ext y t x w a0;rw[bR BI 4 rfl rfl rfl rfl<|by decide];simp[BI,x.zb];refine E1 y t ?_;ext@v@X C a8
 exact by
  have o:=x.za C;have S:=o.za<|aB v [.d 0 []];have a7:=t.a;have b3:=w.a.za t;simp[S.zc,S.b];generalize T:v.length=i;refine bV (λk l I=>∃P j,l=[V<|.a A.a,V<|.a X,V<|.a i,P,j]/\v<+:I/\ch I i (bI a k) (λp=>Z<|hk G<|G.d p.2)) (bu _ _ rfl (aB _ _)<|bK 0 (λ_=>0) (by subst T;simp[bI,dK])<|by simp[bI]) ?_ ?_
  .ext@k@b4@l@I@a1 B a9 L c
   exact by
    ext(hZ c)@P@j b f
    exact by
     ext(_:cB L)@s n c
     exact by
      subst c;have g:=o.za b;have m:=g.a k s n;ext(bD:lP w n)b2 b0 b1;refine⟨g.b,?_⟩;simp[m.zc,m.c];refine bV (λu l I=>∃j,l=[V<|.a A.a,V<|.a X,V<|.a i,V<|.a s.f,j]/\v<+:I/\ch I i (bI a k++(s.d.take u).map λr=>(k,r)) (λp=>Z<|hk G<|G.d p.2)) (aT _ rfl b<|by simpa using f) ?_ ?_
      .clear f g m b;ext@u@b4@l@I@a1 B a9 L c
       exact by
        ext(lc c)@j b f
        exact by
         ext(_:cB L)@q E c
         exact by
          subst c;have K:=b1 q<|bs E;have g:=o.za b;have z:=y.za<|C.trans b;have m:=g.a k s n;have a6:=t.c q K.1;refine⟨m.c,?_⟩;have D:=aB I [aa.b [Z k,Z q]];have b6:=g.za D;simp[g.zb,z.zc,z.a,cc K.1,z.zb K.1,ay b a8,cc a6,m.zb];refine(f.za D).zd (c:=k) (b:=q) cF ?_ ?_ λb5 a4 a2 b7=>?_
          .ext h;rcases bU.mp h with h|h;.have:=(lO.mp h).1;exact bB 1 0 this rfl
           .ext(_:bY.mp h)b9 a3 e;cases e;exact lM (lL b2) E a3
          .have:=Dg w k;have a5:=(bi.mp n).1;have:=(fW u s.d).length_le;rw[hR,bC];rw[a7]at*;exact Ou b3 b0 (by assumption) a5 this
          .refine(B _ _<|aT _ rfl (a2.zb (b.trans D) λb8 e=>by exact aj (aw T)<|ar e) ?_).1;rw[fX,E];simp only[EQ,iD,dm,ER,<-fY];refine a4.zc λp b=>?_;by_cases e:p=(k,q);.subst e;simp
           .rw[fa e]
      .ext l I c(lc c)j b f;refine⟨((o.za b).a k s n).c,(B _ _<|bu _ _ rfl b ?_).1⟩;rw[rr n];simpa using f
  .ext l I c(hZ c)P j b f;refine⟨(o.za b).b,?_⟩;simp at f;simp;exact a0 _ _ (C.trans b) f
end
section
variable{H I:J}{R:cC}{G:ap}{A:gi}{a:List aJ}{d:Nat}{Q:au}
theorem ug(d:bJ G a){k u b:Nat}{s:aJ}(f:a[k]?=V s)(g:s.d[u]?=V b):(k,b)∉bI a k++(s.d.take u).map λr=>(k,r):=by
 ext h;rcases bU.mp h with h|h;.have:=(lO.mp h).1;exact bB 1 0 this rfl
 .ext(_:bY.mp h)i c e;cases e;exact lM (lL (lP d f).1) g c
theorem Dh(d:G.zf)(b:bJ G a){k u:Nat}{s:aJ}(c:a[k]?=V s):(bI a k++(s.d.take u).map λr=>(k,r)).length<=2000000:=by have f:=d.a;have g:=b.a.za d;have:=Dg b k;have e:=(bi.mp c).1;have:=(fW u s.d).length_le;have:=(lP b c).2.1;rw[hR,bC];rw[f]at*;exact Ov g (by assumption) e (by assumption) this
theorem uh{k u b:Nat}{s:aJ}(c:s.d[u]?=V b):(bI a k++(s.d.take u).map λr=>(k,r))++[(k,b)]=bI a k++(s.d.take<|u+1).map λr=>(k,r):=by rw[fX,c];simp only[EQ,iD,dm,ER,<-fY]
theorem H1(B:bm H R G)(o:G.zf)(g:er H R A a)(v:bJ G a)(q:∀I r,H<+:I->ch I r (bI a a.length) (λp=>.b<|2^G.a-1)->Q (.a r) I):aY (d+1) wa [.a A.a] H Q:=by
 delta H R G A a d Q;ext B o g v q;rw[bR BJ 4 rfl rfl rfl rfl<|by decide];have z:=g.za<|aB H [.d 0 []];have P:=o.b;have T:=o.g;simp[BJ,g.zb,B.zh,z.zc,z.b];refine⟨by exact vO P T,?_⟩;generalize C:H.length=i;refine bV (λk j I=>∃x h,j=[V<|.a A.a,V<|.b<|2^G.a-1,V<|.a i,x,h]/\H<+:I/\ch I i (bI a k) (λp=>.b<|2^G.a-1)) (bu _ _ rfl (aB _ _)<|bK 0 (λ_=>0) (by subst C;simp[bI,dK])<|by simp[bI]) ?_ ?_
 .ext@k@a0@j@I@K t X w b
  exact by
   ext(hZ b)@x@h c f
   exact by
    ext(_:cB w)@s m b
    exact by
     subst b;have n:=g.za c;have l:=n.a k s m;refine⟨n.b,?_⟩;simp[l.zc,l.c];refine bV (λu j I=>∃h,j=[V<|.a A.a,V<|.b<|2^G.a-1,V<|.a i,V<|.a s.f,h]/\H<+:I/\ch I i (bI a k++(s.d.take u).map λr=>(k,r)) (λp=>.b<|2^G.a-1)) (aT _ rfl c<|by simpa using f) ?_ ?_
     .clear f n l c;ext@u@a0@j@I@K t X w b
      exact by
       ext(lc b)@h c f
       exact by
        ext(_:cB w)@y E b
        exact by
         subst b;have n:=g.za c;have l:=n.a k s m;refine⟨l.c,?_⟩;have D:=aB I [aa.b [Z k,Z y]];simp[l.zb];refine(f.za D).zd (c:=k) (b:=y) cF (ug v m E) (by have:=Dh (u:=u) o v m;exact an 0 2000000 0 16777216 this rfl) λa1 S L a2=>?_;refine(t _ _<|aT _ rfl (L.zb (c.trans D) λa3 e=>by exact aj (aw C)<|ar e) ?_).1;rw[<-uh E];refine S.zc λp c=>?_;by_cases e:p=(k,y);.subst e;simp
         .rw[fa e]
     .ext j I b(lc b)h c f;refine⟨((g.za c).a k s m).c,(t _ _<|bu _ _ rfl c ?_).1⟩;rw[rr m];simpa using f
 .ext j I b(hZ b)x h c f;refine⟨(g.za c).b,?_⟩;simp at f;simp;exact q _ _ c f
end
def dL(a b:Nat):Prop:=∀t,a.testBit t=M->b.testBit t=M
theorem dL.zb(a:Nat):dL a a:=λw h=>h
theorem dL.za{a b c:Nat}(h:dL a b)(d:dL b c):dL a c:=λt e=>d t<|h t e
theorem dL.zc(a b:Nat):dL a<|a|||b:=λt e=>by rw[gq,e];rfl
theorem dL.zd(a b:Nat):dL b<|a|||b:=λt e=>by rw[gq,e];simp
inductive jT(c:Nat->List Nat):Nat->Nat->Prop|a(v:Nat):jT c v v|b{v y u:Nat}:y∈c v->jT c y u->jT c v u
theorem jT.za{d:Nat->List Nat}{a b c:Nat}(h:jT d a b)(f:jT d b c):jT d a c:=by induction h with|a=>exact f|b e _ g=>exact .b e<|g f
def oN(b:Nat->List Nat)(a:Nat->Nat)(v t:Nat):Prop:=∃u,jT b v u/\(a u).testBit t=M
abbrev hJ:=Nat×Nat×Nat
noncomputable def ui(a:Nat->List Nat):List hJ->Prop|[]=>True|[_]=>True|f::g::r=>(a g.1)[g.2.2]?=V f.1/\ui a (g::r)
def oO(a:Nat->List Nat)(b:List hJ)(v y:Nat):Prop:=y∈a v/\∀f∈b,f.1=v->y∈(a v).take f.2.2
def nd(a:List hJ)(k:Nat)(f:hJ):Prop:=f∈a/\f.2.1<=k+1/\∀g∈a,g.2.1<=k+1->g.2.1<=f.2.1
structure cP(w:Nat)(z:Nat->List Nat)(B s q:Nat->Nat)(r:List Nat)(x:List hJ):Prop where
 d:r.Nodup
 c:∀v∈r,v<w
 g:∀v,v<w->v∉r->q v=0\/q v=w+1
 a:∀(p v:Nat),r[p]?=V v->1<=q v/\q v<=p+1/\∃u,r[q v-1]?=V u/\jT z v u
 h:∀v,v<w->dL (B v) (s v)
 e:∀v t,v<w->(s v).testBit t=M->oN z B v t
 b:∀o∈x,r[o.2.1-1]?=V o.1/\1<=o.2.1/\o.2.2<=(z o.1).length
 f:x.Pairwise λo C=>C.2.1<o.2.1
 k:ui z x
 j:∀(p v:Nat),r[p]?=V v->∃o∈x,o.2.1<=p+1
 l:∀(p v:Nat),r[p]?=V v->(∀o∈x,o.2.1≠p+1)->q v<p+1
 m:∀(p v y:Nat),r[p]?=V v->oO z x v y->q y≠0/\(q y=w+1->dL (s y) (s v))/\∀A:Nat,r[A]?=V y->q v<=A+1/\∀o∈x,¬(p+1<o.2.1/\o.2.1<=A+1)
 i:∀(p v:Nat)(o:hJ),r[p]?=V v->nd x p o->o.2.1≠p+1->(dL (s v) (s o.1)/\q o.1<=q v)\/(x.head?=V o/\∃A y:Nat,(z o.1)[o.2.2]?=V y/\r[A]?=V y/\o.2.1<A+1/\dL (s v) (s y)/\q y<=q v)
 n:∀v,v<w->q v=w+1->∀y∈z v,q y=w+1/\dL (s y) (s v)
section
variable{c:Nat}{d:Nat->List Nat}{f g e:Nat->Nat}{a:List Nat}{b r:List hJ}{x p i y:Nat}
theorem cP.zf(h:cP c d f g e a b):a.length<=c:=fu h.d h.c
theorem ne{b:Type}{l:List b}{a:b}{k:Nat}{v:b}:(l++[a])[k]?=V v↔l[k]?=V v\/(k=l.length/\v=a):=by
 by_cases h:k<l.length
 .rw[gQ h];constructor;.exact .inl
  .rintro(c|⟨c,_⟩);.exact c
   .exact(bB 1 0 (aj h<|ar c) rfl).elim
 .rw[ev<|by exact dM h];by_cases e:k=l.length
  .subst e;simp;constructor;.exactλh=>h.symm
   .exactλh=>h.symm
  .have d:([a]:List b)[k-l.length]?=U:=by rw[vn];simp;exact Ow h e
   have f:l[k]?=U:=by rw[vn];exact dM h
   rw[d,f];simp[e]
theorem cP.zg(h:cP c d f g e a b)(Q:y<c)(B:e y=0)(b2:∀v,v<c->∀u∈d v,u<c)(K:∀j,b.head?=V j->(d j.1)[j.2.2]?=V y)(q:b=[]->a=[]):cP c d f g (bb e y<|a.length+1) (a++[y])<|(y,a.length+1,0)::b:=by
 delta c d f g e a b y;ext h Q B b2 K q;have R:y∉a:=λb1=>by ext(aD:fe b1)k a8;have:=(h.a k y a8).1;exact bB 1 0 (aA 0 0 1 0 1 0 (aw B) this rfl) rfl
 have b0:a.length<c:=by
  have A:(a++[y]).Nodup:=by rw[ff];exact aI h.d (by simp) (λa1 I a2 q i=>by simp at q;have q:=q.symm;subst q;have i:=i.symm;subst i;exact R I)
  have:=fu (n:=c) A λv m=>by
   rcases bU.mp m with m|m;.exact h.c v m
   .simp at m;have m:=m.symm;subst m;exact Q
  simp at this;exact this
 have a5:∀j∈b,j.2.1<=a.length:=λj p=>by have n:=h.b j p;have:=(bi.mp n.1).1;exact Gh this
 have x:∀k v,a[k]?=V v->v≠y:=λk v i s=>R (by rw[<-s];exact bs i);have X:∀(k v:Nat),a[k]?=V v->k<a.length:=λk v i=>(bi.mp i).1;refine⟨?_,?_,λv m A=>?_,λk v i=>?_,h.h,h.e,λj p=>?_,?_,?_,λk v i=>?_,λk v i p=>?_,λk v u i P=>?_,λk v j i z S=>?_,λv m C u b4=>?_⟩;.rw[ff];exact aI h.d (by simp) (λa1 I a2 q i=>by simp at q;have q:=q.symm;subst q;have i:=i.symm;subst i;exact R I)
 .ext v m;rcases bU.mp m with m|m;.exact h.c v m
  .simp at m;have m:=m.symm;subst m;exact Q
 .simp at A;rw[bc A.2];exact h.g v m A.1
 .rcases ne.mp i with i|⟨rfl,rfl⟩;.rw[bc<|x k v i];ext(bD:h.a k v i)n o a0(a0)u t H;exact aI n o<|ad u (iO t) H
  .rw[bx];exact aI (by exact Ox) (by exact aO _)<|ad v (by simp)<|.a v
 .rcases bM.mp p with rfl|p;.simp
  .ext(bD:h.b j p)n o t;exact aI (iO n) o t
 .rw[js];exact⟨λw L=>by have:=a5 w L;show w.2.1<a.length+1;exact an 0 0 1 1 this rfl,h.f⟩
 .cases b with|nil=>trivial|cons w r=>exact⟨K w rfl,h.k⟩
 .rcases ne.mp i with i|⟨rfl,rfl⟩;.ext(_:h.j k v i)j n o;exact ad j (.tail _ n) o
  .exact ad _ (.head _)<|aO _
 .rcases ne.mp i with i|⟨rfl,rfl⟩;.rw[bc<|x k v i];exact h.l k v i λj a4=>p j<|.tail _ a4
  .exact absurd rfl<|p _<|.head _
 .delta k v u;intros _
  exact by
   rcases ne.mp i with i|⟨rfl,rfl⟩
   .have b5:oO d b v u:=⟨P.1,λj p=>P.2 j<|.tail _ p⟩;ext(bD:h.m k v u i b5)n o t;have E:u≠y:=λs=>by subst s;exact n B
    rw[bc E,bc<|x k v i];refine aI n o λl D=>?_;rcases ne.mp D with D|⟨rfl,rfl⟩
    .ext(ac:t l D)H a3;refine⟨H,λj p=>?_⟩;rcases bM.mp p with rfl|p;.have:=X l u D;simp;exact Oy this
     .exact a3 j p
    .exact absurd rfl E
   .have:=P.2 (v,a.length+1,0) (.head _) rfl;simp at this
 .delta k v j;intros _
  exact by
   rcases ne.mp i with i|⟨rfl,rfl⟩
   .have a9:=X k v i
    have T:j∈b:=by
     rcases bM.mp z.1 with rfl|p;.have:=z.2.1;simp at this;exact(bB 1 0 (aA 0 0 1 0 1 0 this a9 rfl) rfl).elim
     .exact p
    have b3:nd b k j:=aI T z.2.1 λw L a7=>z.2.2 w (.tail _ L) a7;have a6:j.1≠y:=x _ _ (h.b j T).1;rw[bc<|x k v i,bc a6];rcases h.i k v j i b3 S with n|⟨n,l,u,o,t,_⟩;.exact .inl n
    .have:=K j n;rw[this]at o;have o:=bj o;subst o;exact absurd rfl<|x l y t
   .have:j.2.1=a.length+1:=by have n:=z.2.2 _ (.head _)<|aO _;have o:=z.2.1;simp at n o;exact be o n
    exact absurd this S
 .by_cases G:v=y;.have G:=G.symm;subst G;rw[bx]at C;exact(bB 1 0 (aA 1 0 1 1 1 0 b0 (ar C) rfl) rfl).elim
  .rw[bc G]at C;ext(ac:h.n v m C u b4)n o;have E:u≠y:=λs=>by have s:=s.symm;subst s;exact Oz n B
   rw[bc E];exact⟨n,o⟩
end
section
variable{e:Nat}{b:Nat->List Nat}{f d a:Nat->Nat}{c:List Nat}{g r:List hJ}{x p i y:Nat}
theorem ui.za{f:hJ}(h:ui b<|f::r):ui b r:=by cases r with|nil=>trivial|cons g r=>exact h.2
theorem cP.zb(h:cP e b f d a c<|(x,p,i)::r):c[p-1]?=V x/\1<=p/\i<=(b x).length:=h.b _<|.head _
theorem cP.zc(h:cP e b f d a c<|(x,p,i)::r){k:Nat}(g:c[k]?=V x):k+1=p:=by have:=jO h.d g h.zb.1;have:=h.zb.2.1;exact OA (by assumption) this
theorem cP.za(h:cP e b f d a c<|(x,p,i)::r){g:hJ}(j:g∈r):g.2.1<p:=(js.mp h.f).1 g j
theorem cP.ze(h:cP e b f d a c g){v:Nat}(l:v∈c):1<=a v/\a v<=e:=by ext(aD:fe l)k j;have i:=h.a k v j;have:=(bi.mp j).1;exact⟨i.1,aj i.2.1<|aj this h.zf⟩
theorem cP.zd(h:cP e b f d a c<|(x,p,i)::r){j:hJ}(g:j∈(x,p,i)::r):j.2.1<=p:=by
 rcases bM.mp g with rfl|g;.exact aO _
 .exact gn<|h.za g
theorem cP.zi(h:cP e b f d a c<|(x,p,i)::r)(P:(b x)[i]?=V y)(S:a y≠0)(b9:∀v,v<e->∀u∈b v,u<e):cP e b f (bb d x<|d x|||d y) (bb a x<|min (a x)<|a y) c<|(x,p,i+1)::r:=by
 revert e b f d a c r x p i y;ext@e@b@f@d@a@c@r@x@p@i@y h P S b9;have a8:=h.zb;have a7:x∈c:=bs a8.1;have c8:=h.c x a7;have a9:y∈b x:=bs P;have c1:=b9 x c8 y a9;have L:=h.ze a7
 have c9:y∈c\/a y=e+1:=by
  by_cases b4:y∈c;.exact .inl b4
  .rcases h.g y c1 b4 with o|o;.exact absurd o S
   .exact .inr o
 have b3:∀j∈(x,p,i+1)::r,∃g∈(x,p,i)::r,g.1=j.1/\g.2.1=j.2.1:=λj n=>by
  rcases bM.mp n with rfl|n;.exact aT _ (.head _) rfl rfl
  .exact aT j (.tail _ n) rfl rfl
 have a4:∀j∈(x,p,i)::r,∃g∈(x,p,i+1)::r,g.1=j.1/\g.2.1=j.2.1:=λj n=>by
  rcases bM.mp n with rfl|n;.exact aT _ (.head _) rfl rfl
  .exact aT j (.tail _ n) rfl rfl
 have b8:∀j∈r,j.1≠x:=λj n t=>by delta j;intros _;exact by have o:=h.b j<|.tail _ n;have q:=h.za n;rw[t]at o;have:=h.zc o.1;exact absurd q (by rw[<-this,pa o.2.1];exact np _)
 refine⟨h.d,h.c,λv B b7=>?_,λk v t=>?_,λv B=>?_,λv b0 B D=>?_,λj n=>?_,?_,?_,λk v t=>?_,λk v t n=>?_,λk v u t K=>?_,λk v j t I a3=>?_,λv B z u a6=>?_⟩;.rw[bc<|show v≠x fromλt=>b7 (by rw[t];exact a7)];exact h.g v B b7
 .delta k v;intros _
  exact by
   by_cases m:v=x
   .have m:=m.symm;subst m;rw[bx];ext(bD:h.a k x t)o q Q(Q)u C A;by_cases a0:a y<a x
    .rw[aav<|by exact an 1 0 0 0 a0 rfl]
     have d0:y∈c:=by
      rcases c9 with a1|a1;.exact a1
      .exact(bB 2 0 (aA 1 0 1 0 2 0 (aA 0 0 1 0 1 0 L.2 (ar a1) rfl) a0 rfl) rfl).elim
     ext(aD:fe d0)l H(bD:h.a l y H)E b2 Q(Q)d1 c3 c4;exact aI E (by exact aA 1 0 0 1 0 1 a0 q rfl)<|ad d1 c3<|.b a9 c4
    .rw[rG<|by exact dM a0];exact aI o q<|ad u C A
   .rw[bc m];exact h.a k v t
 .by_cases m:v=x;.have m:=m.symm;subst m;rw[bx];exact(h.h x B).za<|dL.zc _ _
  .rw[bc m];exact h.h v B
 .by_cases m:v=x
  .have m:=m.symm;subst m;rw[bx,gq,iC]at D;rcases D with D|D;.exact h.e x b0 B D
   .ext(_:h.e y b0 c1 D)u o q;exact ad u (.b a9 o) q
  .rw[bc m]at D;exact h.e v b0 B D
 .rcases bM.mp n with rfl|n;.exact aI a8.1 a8.2.1<|(bi.mp P).1
  .exact h.b j<|.tail _ n
 .have:=js.mp h.f;exact js.mpr ⟨this.1,this.2⟩
 .have:=h.k;cases r with|nil=>trivial|cons g r=>exact this
 .ext(_:h.j k v t)j o q(bd:a4 j o)g C _ A;exact ad g C (by exact aj (aw A) q)
 .have m:v≠x:=λw=>by have w:=w.symm;subst w;have:=h.zc t;exact n _ (.head _) this.symm
  rw[bc m];refine h.l k v t λj a2=>?_;ext(bd:a4 j a2)g C _ A;rw[<-A];exact n g C
 .delta k v u;intros _
  exact by
   have b5:min (a x) (a y)≠0:=by exact OB S L
   have b6:min (a x) (a y)≠e+1:=by exact bh<|aA 0 0 0 0 1 1 (hP _ _) L.2 rfl
   have b1:oO b ((x,p,i)::r) v u->bb a x (min (a x)<|a y) u≠0/\(bb a x (min (a x)<|a y) u=e+1->dL (bb d x (d x|||d y) u) (bb d x (d x|||d y) v))/\∀l:Nat,c[l]?=V u->bb a x (min (a x)<|a y) v<=l+1/\∀j∈(x,p,i+1)::r,¬(k+1<j.2.1/\j.2.1<=l+1):=λc7=>by
    ext(bD:h.m k v u t c7)o q C;refine aI ?_ (λz=>?_) λl H=>?_
    .by_cases s:u=x;.have s:=s.symm;subst s;rw[bx];exact b5
     .rw[bc s];exact o
    .by_cases s:u=x;.have s:=s.symm;subst s;rw[bx]at z;exact absurd z b6
     .rw[bc s]at z⊢;by_cases m:v=x;.have m:=m.symm;subst m;rw[bx];exact(q z).za<|dL.zc _ _
      .rw[bc m];exact q z
    .ext(ac:C l H)A E;refine⟨?_,λj n=>?_⟩
     .by_cases m:v=x;.have m:=m.symm;subst m;rw[bx];exact aj (hP _ _) A
      .rw[bc m];exact A
     .ext(bd:b3 j n)g G _ a5;rw[<-a5];exact E g G
   by_cases m:v=x
   .have m:=m.symm;subst m;have c6:=K.2 (x,p,i+1) (.head _) rfl;rcases(dA P).mp c6 with a6|rfl
    .refine b1 ⟨K.1,λj n T=>?_⟩;rcases bM.mp n with rfl|n;.exact a6
     .exact K.2 j (.tail _ n) T
    .refine aI ?_ (λz=>?_) λl H=>⟨?_,λj n=>?_⟩
     .by_cases s:u=x;.have s:=s.symm;subst s;rw[bx];exact b5
      .rw[bc s];exact S
     .by_cases s:u=x;.have s:=s.symm;subst s;rw[bx]at z;exact absurd z b6
      .rw[bc s,bx];exact dL.zd _ _
     .rw[bx];have:=(h.a l u H).2.1;exact aj (hQ _ _) this
     .have X:=h.zc t;ext(bd:b3 j n)g G _ a5;have:=h.zd G;exact OC X a5 this
   .refine b1 ⟨K.1,λj n T=>?_⟩;rcases bM.mp n with rfl|n;.exact absurd T.symm m
    .exact K.2 j (.tail _ n) T
 .have m:v≠x:=λw=>by have w:=w.symm;subst w;have X:=h.zc t;have o:=I.2.2 (x,p,i+1) (.head _) (by show p<=k+1;exact ar X);have q:=I.2.1;have o:p<=j.2.1:=o;exact a3 (by exact be q<|aj (aw X) o)
  rw[bc m,bc m];have c0:∀R,R∈(x,p,i)::r->R.2.1=j.2.1->nd ((x,p,i)::r) k R:=λR a2 w=>aI a2 (by rw[w];exact I.2.1) (λg G c5=>by ext(bd:a4 g G)c2 o _ q;have:=I.2.2 c2 o (by exact aj (aw q) c5);exact aj (aj (ar q) this)<|ar w);rcases bM.mp I.1 with rfl|n
  .have:=h.i k v (x,p,i) t (c0 _ (.head _) rfl) a3;left;rw[bx,bx];rcases this with⟨o,q⟩|⟨_,l,u,q,C,A,E,b2⟩;.exact⟨o.za<|dL.zc _ _,by have q:a x<=a v:=q;exact aj (hP _ _) q⟩
   .have q:(b x)[i]?=V u:=q;rw[P]at q;have q:=bj q;subst q;exact⟨E.za<|dL.zd _ _,by exact aj (hQ _ _) b2⟩
  .have:=h.i k v j t (c0 _ (.tail _ n) rfl) a3;rcases this with o|⟨o,_⟩;.left;rw[bc<|b8 j n,bc<|b8 j n];exact o
   .simp at o;subst o;have:=h.za n;simp at this
 .have m:v≠x:=λw=>by subst w;rw[bx]at z;exact bB 1 0 (aj (aA 0 0 1 0 1 0 L.2 (ar z) rfl)<|hP _ _) rfl
  rw[bc m]at z;ext(ac:h.n v B z u a6)o q;have s:u≠x:=λw=>by subst w;exact bB 1 0 (aj (ar o) L.2) rfl
  rw[bc s,bc s,bc m];exact⟨o,q⟩
theorem cP.zj(h:cP e b f d a c<|(x,p,i)::r)(q:a x≠p):∃g l,r=g::l:=by
 cases r with
 |cons g l=>exact gs g l rfl
 |nil=>
  have k:=h.zb;have o:c[0]?≠U:=λm=>by rw[vn]at m;have:=(bi.mp k.1).1;exact OD m this
  ext(aD:Option.ne_none_iff_exists'.mp o)v s(_:h.j 0 v s)t n j;simp at n;subst n;have j:p<=0+1:=j;have:=h.a _ _ k.1;exact absurd (be (aj this.2.1<|kb<|pa k.2.1)<|aj j this.1) q
theorem cP.zk(h:cP e b f d a c<|(x,p,i)::r)(C:(b x).length<=i)(D:a x≠p):cP e b f d a c r:=by
 delta e b f d a c r x p i;ext h C D(hu:h.zj D)@g@H a0
 exact by
  subst a0;have z:=h.zb;have X:=h.a _ _ z.1;have B:g.2.1<p:=h.za<|.head _;refine⟨h.d,h.c,h.g,h.a,h.h,h.e,λm q=>h.b m<|.tail _ q,(js.mp h.f).2,h.k.za,λk v j=>?_,λk v j q=>?_,λk v u j G=>?_,λk v m j t S=>?_,h.n⟩
  .ext(_:h.j k v j)m n o;rcases bM.mp n with rfl|n;.exact ad g (.head _) (by have o:p<=k+1:=o;exact aA 1 0 0 1 0 1 B o rfl)
   .exact ad m n o
  .delta k v;intros _
   exact by
    by_cases s:k+1=p
    .have:k=p-1:=by exact pQ s
     subst this;rw[z.1]at j;have j:=bj j;subst j;exact ho X.2.1 (by rw[s];exact D)
    .refine h.l k v j λm A=>?_;rcases bM.mp A with rfl|A;.exactλj=>s j.symm
     .exact q m A
  .delta k v u;intros _
   exact by
    have T:oO b ((x,p,i)::g::H) v u:=⟨G.1,λm q y=>by
     rcases bM.mp q with rfl|q;.have y:x=v:=y;subst y;show u∈(b x).take i;rw[EN C];exact G.1
     .exact G.2 m q y⟩;ext(bD:h.m k v u j T)n o I;exact aI n o λl P=>⟨(I l P).1,λm q=>(I l P).2 m<|.tail _ q⟩
  .delta k v m;intros _
   exact by
    by_cases s:p<=k+1
    .have R:m=g:=by
      have n:=t.2.2 g (.head _) (by exact aA 1 0 0 1 0 1 B s rfl);rcases bM.mp t.1 with o|o;.exact o
      .have:=(js.mp (js.mp h.f).2).1 m o;exact(bB 1 0 (aA 0 0 1 0 1 0 n this rfl) rfl).elim
     subst R;right;refine⟨rfl,eD (p-1) x h.k.1 z.1 (by exact OE B) ?_⟩;by_cases L:k+1=p
     .have:k=p-1:=by exact pQ L
      subst this;rw[z.1]at j;have j:=bj j;subst j;exact⟨dL.zb _,aO _⟩
     .have E:nd ((x,p,i)::m::H) k (x,p,i):=aI (.head _) s λg w _=>h.zd w;rcases h.i k v _ j E (λj=>L j.symm)with n|⟨_,l,u,o,_⟩;.exact n
      .have o:(b x)[i]?=V u:=o;have:=(bi.mp o).1;exact(bB 1 0 (aA 0 0 1 0 1 0 C this rfl) rfl).elim
    .have E:nd ((x,p,i)::g::H) k m:=(aI (.tail _ t.1) t.2.1 (λQ w K=>by
      rcases bM.mp w with rfl|w;.exact absurd K s
      .exact t.2.2 Q w K));rcases h.i k v m j E S with n|⟨n,_⟩;.exact .inl n
     .simp at n;subst n;exact absurd t.2.1 s
end
section
variable{b:Nat}{c:Nat->List Nat}{f e d h g:Nat->Nat}{a:List Nat}{j r:List hJ}{x p i y:Nat}
theorem nf{c:Type}{l:List c}{n k:Nat}{v:c}(h:(l.take n)[k]?=V v):k<n/\l[k]?=V v:=by
 have a:=(bi.mp h).1;rw[km]at a;have b:k<n:=by exact aj a<|hP _ _
 rw[aaw b]at h;exact⟨b,h⟩
theorem Di{a:Type}{l:List a}{n k:Nat}{v:a}(h:l[k]?=V v)(b:k<n):(l.take n)[k]?=V v:=by rw[aaw b];exact h
def fU(a:List Nat)(p v:Nat):Prop:=∃k:Nat,a[k]?=V v/\p<=k+1
theorem cP.zl(m:cP b c f e d a<|(x,p,i)::r)(a5:(c x).length<=i)(Q:d x=p)(b2:∀v,v<b->∀u∈c v,u<b)(I:∀v,fU a p v->g v=b+1/\h v=e x)(t:∀v,¬fU a p v->g v=d v/\h v=e v):cP b c f h g (a.take<|p-1) r:=by
 revert b c f e d h g a r x p i;ext@b@c@f@e@d@h@g@a@r@x@p@i m a5 Q b2 I t;have R:=m.zb;have b5:=m.a _ _ R.1;have S:∀(k v:Nat),a[k]?=V v->k+1<p->¬fU a p v:=λk v j n z=>Y z λl A a6=>by have:=jO m.d j A;exact bB 1 0 (aA 0 1 2 0 1 0 (aA 0 1 0 0 0 1 a6 (ar this) rfl) n rfl) rfl
 have X:∀(k v:Nat),a[k]?=V v->p<=k+1->dL (e v) (e x)/\p<=d v:=λk v j n=>by
  by_cases H:k+1=p
  .have:k=p-1:=by exact pQ H
   subst this;rw[R.1]at j;have j:=bj j;subst j;exact⟨dL.zb _,by exact ar Q⟩
  .have a7:nd ((x,p,i)::r) k (x,p,i):=aI (.head _) n λc6 L _=>m.zd L;rcases m.i k v _ j a7 (λj=>H j.symm)with⟨o,q⟩|⟨_,l,u,q,_⟩;.exact⟨o,by have q:d x<=d v:=q;exact aj (ar Q) q⟩
   .have q:(c x)[i]?=V u:=q;have:=(bi.mp q).1;exact(bB 1 0 (aA 0 0 1 0 1 0 a5 this rfl) rfl).elim
 have c3:∀a3(k v:Nat),k<=a3->a[k]?=V v->p<=k+1->jT c v x:=by
  ext a3
  induction a3 with
  |zero=>
   ext k v n j a1;have:k=p-1:=by exact OF n a1
   subst this;rw[R.1]at j;have j:=bj j;subst j;exact .a _
  |succ a3 c5=>
   ext k v n j a1;by_cases H:k+1=p
   .have:k=p-1:=by exact pQ H
    subst this;rw[R.1]at j;have j:=bj j;subst j;exact .a _
   .have o:=m.l k v j λw y=>by have:=m.zd y;exact OG a1 H this
    ext(bD:m.a k v j)_ _ z(z)u q B;have E:=(X k v j a1).2;exact B.za<|c5 (d v-1) u (by exact OH n o) q (by exact OI E)
 have c0:∀v,fU a p v->v<b:=λv z=>Y z λk j _=>m.c v<|bs j;have b4:fU a p x:=ad (p-1) R.1 (by exact aj (ar Q) b5.2.1);refine⟨m.d.sublist<|fW _ _,λv D=>m.c v<|kW D,λv D c2=>?_,λk v j=>?_,λv D=>?_,λv b6 D T=>?_,λw y=>?_,(js.mp m.f).2,m.k.za,λk v j=>?_,λk v j y=>?_,λk v u j b3=>?_,λk v w j K b1=>?_,λv D a9 u a2=>?_⟩
 .by_cases s:fU a p v;.exact .inr (I v s).1
  .rw[(t v s).1];refine m.g v D λP=>?_;ext(aD:fe P)k n;by_cases H:p<=k+1;.exact s<|ad k n H
   .exact c2<|bs<|Di n (by exact aA 2 0 0 1 1 0 (aj (aax H)<|ar Q) b5.2.1 rfl)
 .ext(ac:nf j)n j;have s:=S k v j (by exact pR n);rw[(t v s).1];ext(bD:m.a k v j)o q z(z)u B E;exact aI o q<|ad u (Di B<|by exact OJ n q) E
 .by_cases s:fU a p v;.rw[(I v s).2];ext(s)k j n;exact(m.h v D).za (X k v j n).1
  .rw[(t v s).2];exact m.h v D
 .by_cases s:fU a p v;.rw[(I v s).2]at T;ext(_:m.e x b6 (c0 x b4) T)u o q(s)k j n;exact ad u ((c3 k k v (aO _) j n).za o) q
  .rw[(t v s).2]at T;exact m.e v b6 D T
 .ext(bD:m.b w (.tail _ y))o q B;have:=m.za y;exact aI (Di o<|by exact OK q this) q B
 .ext(ac:nf j)n j(_:m.j k v j)w o q;rcases bM.mp o with rfl|o;.have q:p<=k+1:=q;exact absurd q<|Nat.not_le.mpr<|LR n
  .exact ad w o q
 .ext(ac:nf j)n j;rw[(t v<|S k v j<|by exact pR n).1];refine m.l k v j λw a4=>?_;rcases bM.mp a4 with rfl|a4;.show p≠k+1;exact OL n
  .exact y w a4
 .ext(ac:nf j)n j;have s:=S k v j (by exact pR n);have c4:v≠x:=λb7=>s (by rw[b7];exact b4)
  have a8:oO c ((x,p,i)::r) v u:=⟨b3.1,λw y G=>by
   rcases bM.mp y with rfl|y;.exact absurd G.symm c4
   .exact b3.2 w y G⟩;ext(bD:m.m k v u j a8)o q B;have C:¬fU a p u:=λz=>Y z λl A a6=>(B l A).2 (x,p,i) (.head _) ⟨by show k+1<p;exact pR n,a6⟩;rw[(t u C).1,(t u C).2,(t v s).1,(t v s).2];exact aI o q λl A=>⟨(B l (nf A).2).1,λw y=>(B l (nf A).2).2 w<|.tail _ y⟩
 .ext(ac:nf j)n j;have s:=S k v j (by exact pR n)
  have a7:nd ((x,p,i)::r) k w:=(aI (.tail _ K.1) K.2.1 (λb8 L a0=>by
   rcases bM.mp L with rfl|L;.have a0:p<=k+1:=a0;exact OM n a0
   .exact K.2.2 b8 L a0));have G:=m.b w<|.tail _ K.1;have b0:=S _ _ G.1 (by rw[pa G.2.1];exact m.za K.1);rw[(t v s).1,(t v s).2,(t _ b0).1,(t _ b0).2];rcases m.i k v w j a7 b1 with o|⟨o,_⟩;.exact .inl o
  .simp at o;subst o;have:=K.2.1;have this:p<=k+1:=this;exact(b1<|be this<|aj n<|rE _ _).elim
 .by_cases s:fU a p v
  .rw[(I v s).2];ext(s)k j n
   have a8:oO c ((x,p,i)::r) v u:=⟨a2,λw y G=>by
    have c1:w.2.1=k+1:=by have o:=m.b w y;rw[G]at o;rw[<-jO m.d o.1 j,pa o.2.1]
    rcases bM.mp y with rfl|y;.have G:x=v:=G;subst G;show u∈(c x).take i;rw[EN a5];exact a2
    .have:=m.za y;exact(bB 1 0 (aA 0 0 1 0 1 0 (aj n<|ar c1) this rfl) rfl).elim⟩;ext(bD:m.m k v u j a8)o q B;by_cases P:u∈a;.ext(aD:fe P)l A;have E:=(B l A).1;have b9:=(X k v j n).2;have C:fU a p u:=ad l A (by exact aj b9 E);rw[(I u C).1,(I u C).2];exact⟨rfl,dL.zb _⟩
   .have C:¬fU a p u:=λz=>Y z λl A _=>P<|bs A;rw[(t u C).1,(t u C).2];rcases m.g u (b2 v D u a2) P with E|E;.exact absurd E o
    .exact⟨E,(q E).za (X k v j n).1⟩
  .rw[(t v s).1]at a9;rw[(t v s).2];ext(ac:m.n v D a9 u a2)o q;have C:¬fU a p u:=λz=>Y z λl A _=>by have:=m.ze<|bs A;exact bB 1 0 (aj (ar o) this.2) rfl
   rw[(t u C).1,(t u C).2];exact⟨o,q⟩
theorem cP.zm(j:∀v,v<b->e v=f v)(g:∀v,v<b->d v=0):cP b c f e d [] []where
 d:=by simp
 c:=by simp
 g:=λv a w=>.inl<|g v a;a:=by simp
 h:=λv a=>by rw[j v a];exact dL.zb _
 e:=λv t a h=>ad v (.a v) (by rw[j v a]at h;exact h);b:=by simp
 f:=by simp
 k:=trivial;j:=by simp
 l:=by simp
 m:=by simp
 i:=by simp
 n:=λv a i=>by rw[g v a]at i;exact absurd i.symm<|DV _
theorem cP.zh(h:cP b c f e d a []):a=[]:=by cases a with|nil=>rfl|cons g r=>ext(_:h.j 0 g rfl)j i w;cases i
theorem cP.zn(h:cP b c f e d a [])(p:∀v,v<b->∀u∈c v,u<b)(q:∀v,v<b->d v≠0){v:Nat}(g:v<b)(t:Nat):(e v).testBit t=M↔oN c f v t:=by
 have o:=h.zh;subst o
 have n:∀v,v<b->d v=b+1:=λv l=>by
  rcases h.g v l (by simp)with j|j;.exact absurd j<|q v l
  .exact j
 refine⟨h.e v t g,?_⟩;have s:∀{v u:Nat},jT c v u->v<b->(f u).testBit t=M->(e v).testBit t=M:=by ext v u k;induction k with|a v=>exactλg i=>h.h v g t i|b m _ r=>ext g i;exact(h.n _ g (n _ g) _ m).2 t<|r (p _ g _ m) i
 exactλw=>Y w λu k i=>s k g i
end
theorem H2{n:Nat}{g a:Nat->Nat}{s:Nat}(c:s<n)(b:∀t,t≠s->a t=g t):db n a+g s=db n g+a s:=by
 induction n with
 |zero=>exact ON c
 |succ n f=>
  rw[jP,jP];by_cases e:s=n;.subst e;have:=CT (n:=s) (g:=a) (a:=g) λt d=>b t (by exact bh d);exact OO this
  .have:=f (by exact cO c e);rw[b n<|cy e];exact OP this
abbrev fw:=Nat×hJ
structure eA(o H:J)(l n p:Nat)(s q:Nat->Nat)(r:List Nat)(m:List fw):Prop where
 c:o<+:H
 h:o.length<=l
 b:H[l]?=V (.a<|az p λv=>Z<|s v)
 a:H[l+2]?=V (.a<|az p λv=>Z<|q v)
 d:H[l+3]?=V (.a<|r.map Z)
 e:H[n]?=V (.a<|(m.map λk=>O.a k.1).reverse)
 f:∀k∈m,H[k.1]?=V (.a [Z k.2.1,Z k.2.2.1,Z k.2.2.2])
 i:l+3<n
 g:∀k∈m,l+3<k.1/\k.1≠n
 j:(m.map (·.1)).Nodup
section
variable{g H:J}{b a d:Nat}{f c:Nat->Nat}{h:List Nat}{e:List fw}
theorem eA.za(i:eA g H b a d f c h e){s v:Nat}{l:Nat->Nat}{o:aa}(m:o=.a ((az d λv=>Z<|f v).set s<|Z v))(n:l=bb f s v):eA g (H.set b o) b a d l c h e:=by
 subst m;subst n;have:=i.i
 exact{i with
  c:=dq i.c i.h
  b:=by rw[cq i.b,oD];congr 2;apply hg;ext t c;simp only[bb];split<;>rfl
  a:=aX i.a (by exact bh<|du _ 1 2 rfl)
  d:=aX i.d (by exact bh<|du _ 1 3 rfl)
  e:=aX i.e (by exact bh<|an 4 0 1 0 this rfl)
  f:=λj k=>aX (i.f j k) (by have:=i.g j k;exact bh<|an 4 0 1 0 this.1 rfl)}
theorem eA.zb(i:eA g H b a d f c h e){s v:Nat}{l:Nat->Nat}{o:aa}(m:o=.a ((az d λv=>Z<|c v).set s<|Z v))(n:l=bb c s v):eA g (H.set (b+2) o) b a d f l h e:=by
 subst m;subst n;have:=i.i
 exact{i with
  c:=dq i.c (by have:=i.h;exact an 0 0 0 2 this rfl)
  b:=aX i.b (by exact aL<|du _ 1 2 rfl)
  a:=by rw[cq i.a,oD];congr 2;apply hg;ext t c;simp only[bb];split<;>rfl
  d:=aX i.d (by exact bh<|aO _)
  e:=aX i.e (by exact bh<|an 4 0 3 0 this rfl)
  f:=λj k=>aX (i.f j k) (by have:=i.g j k;exact bh<|an 4 0 3 0 this.1 rfl)}
theorem eA.zc(i:eA g H b a d f c h e){l:List Nat}{o:aa}(m:o=.a (l.map Z)):eA g (H.set (b+3) o) b a d f c l e:=by subst m;have:=i.i;exact{i with c:=dq i.c (by have:=i.h;exact an 0 0 0 3 this rfl),b:=aX i.b (by exact aL<|du _ 1 3 rfl),a:=aX i.a (by exact aL<|aO _),d:=cq i.d,e:=aX i.e (by exact bh this),f:=λj k=>aX (i.f j k) (by have:=i.g j k;exact bh this.1)}
theorem eA.zd{j:fw}(i:eA g H b a d f c h<|j::e){o:aa}(l:o=.a ((e.map λj=>O.a j.1).reverse)):eA g (H.set a o) b a d f c h e:=by subst l;have:=i.i;exact{c:=dq i.c (by have:=i.h;exact Gi (by assumption) this),h:=i.h,b:=aX i.b (by exact aL<|an 4 0 1 0 this rfl),a:=aX i.a (by exact aL<|an 4 0 3 0 this rfl),d:=aX i.d (by exact aL this),e:=cq i.e,f:=λj k=>aX (i.f j<|.tail _ k) (i.g j<|.tail _ k).2.symm,i:=i.i,g:=λj k=>i.g j<|.tail _ k,j:=by have:=i.j;simp only[dm,gR]at this;exact this.2}
theorem eA.ze(j:eA g H b a d f c h e){x p i:Nat}{o:aa}(m:o=.a ((e.map λl=>O.a l.1).reverse++[.a H.length])):eA g ((H++[aa.a [Z x,Z p,Z i]]).set a o) b a d f c h<|(H.length,x,p,i)::e:=by
 subst m;have:=j.i;have n:=bH j.e
 exact{
  c:=dq (j.c.trans<|aB _ _) (by have:=j.h;exact Gi (by assumption) this)
  h:=j.h
  b:=aX (aH j.b) (by exact aL<|an 4 0 1 0 this rfl)
  a:=aX (aH j.a) (by exact aL<|an 4 0 3 0 this rfl)
  d:=aX (aH j.d) (by exact aL this)
  e:=by rw[cq<|aH j.e];simp
  f:=λl k=>by
   rcases bM.mp k with rfl|k;.exact aX cF (by show a≠H.length;exact bh n)
   .exact aX (aH<|j.f l k) (j.g l k).2.symm
  i:=j.i
  g:=λl k=>by
   rcases bM.mp k with rfl|k;.exact⟨by show b+3<H.length;exact aA 4 0 1 0 4 0 this n rfl,by show H.length≠a;exact aL n⟩
   .exact j.g l k
  j:=by rw[dm,gR];refine⟨λq=>?_,j.j⟩;ext(_:bY.mp q)l k m;have:=bH<|j.f l k;have m:l.1=H.length:=m;exact bB 1 0 (aj this<|ar m) rfl}
theorem eA.zf{m x p i:Nat}(j:eA g H b a d f c h<|(m,x,p,i)::e){o:aa}(n:o=.a [Z x,Z p,Z<|i+1]):eA g (H.set m o) b a d f c h<|(m,x,p,i+1)::e:=by
 subst n;have k:=j.g _<|.head _;have k:b+3<m/\m≠a:=k;have r:=j.j;simp only[dm,gR]at r
 exact{
  c:=dq j.c (by have:=j.h;exact aA 0 0 4 0 0 0 this k.1 rfl)
  h:=j.h
  b:=aX j.b (by exact aL<|an 4 0 1 0 k.1 rfl)
  a:=aX j.a (by exact aL<|an 4 0 3 0 k.1 rfl)
  d:=aX j.d (by exact aL k.1)
  e:=aX j.e k.2
  f:=λq l=>by
   rcases bM.mp l with rfl|l;.exact cq<|j.f _<|.head _
   .refine aX (j.f q<|.tail _ l) λn=>r.1 ?_;rw[n];exact jo l
  i:=j.i
  g:=λq l=>by
   rcases bM.mp l with rfl|l;.exact k
   .exact j.g q<|.tail _ l
  j:=by simp only[dm,gR];exact r}
end
def jU(b:Nat)(a:Nat->List Nat)(d:Nat->Nat)(c:List fw):Nat:=db b (λv=>if d v=0 then(a v).length+2 else 0)+(c.map λg=>(a g.2.1).length-g.2.2.2+1).sum
theorem Lb{a:Nat}{e:Nat->List Nat}{c d:Nat->Nat}{b:List fw}(h:∀v,v<a->(d v=0↔c v=0)):jU a e d b=jU a e c b:=by unfold jU;congr 1;apply CT;ext s f;simp only[h s f]
theorem Lc{d7:Nat}{H:J}{c a7 a5:Nat}{d5:Nat->Nat}{B:Nat->List Nat}{a4:Nat->Nat}{c6:au}(f0:H[a7]?=V (.a<|az c λv=>.a<|d5 v))(f1:∀v,v<c->H[d5 v]?=V (.a<|(B v).map Z))(g2:H[a5]?=V (.a<|az c λv=>Z<|a4 v))(a3:∀v,v<c->∀a8∈B v,a8<c)(S:c<=16000000)(h3:∀(I:J)(f5:Nat)(h4:Nat->Nat),H<+:I->H.length<=f5->I[f5]?=V (.a<|az c λv=>Z<|h4 v)->(∀v,v<c->∀t,(h4 v).testBit t=M↔oN B a4 v t)->c6 (.a f5) I):aY (d7+1) vX [Z c,.a a7,.a a5] H c6:=by
 delta d7 H c a7 a5 d5 B a4 c6;ext f0 f1 g2 a3 S h3;rw[bR Bz 10 rfl rfl rfl rfl<|by decide];simp[Bz,g2,jM];refine dC (by exact an 0 16000000 0 16777216 S rfl) (by exact OQ S) (by exact an 0 16000000 0 16777216 S rfl) ?_;generalize L:H.length=d;have j5:((c:Int)+1)=((c+1:Nat):Int):=by exact Gj
 refine bV (λk Q I=>∃f3 f4 b2 b0 a6 b1 o b,Q=[V<|Z c,V<|.a a7,V<|.a a5,V<|.a d,V<|.a<|d+2,V<|Z<|c+1,V<|.a<|d+3,f3,f4,b2,b0,a6,b1]/\H<+:I/\I[d]?=V (.a<|az c λv=>Z<|o v)/\I[d+2]?=V (.a<|az c λv=>Z<|b v)/\I[d+3]?=V (.a<|[].map Z)/\cP c B a4 o b [] []/\∀v,v<k->v<c->b v≠0) (pL U U U U U U a4 (λ_=>0) ?_ (aB _ _) ?_ ?_ ?_ (.zm (λ_ _=>rfl) λ_ _=>rfl) λ_ h=>absurd h<|dW _) ?_ ?_;.subst L;simp
 .subst L;simp
 .subst L;simp[tV];rfl
 .subst L;simp
 .ext@k@x@Q@I@j2 f8 j6 i8 m
  exact by
   ext(vD m)@f3@f4@b2@b0@a6@b1@o@b a9 c0 b8 b9 l D
   exact by
    ext(ac:jN i8)e5 m-;refine⟨trivial,?_⟩;simp[b8,cc e5];refine cE (λh=>?_) λh=>?_
    .simp at h;refine(f8 _ _<|pL _ _ _ _ _ _ o b rfl a9 c0 b8 b9 l λv j q=>?_).2;by_cases e:v=k;.have e:=e.symm;subst e;exact h
     .exact D v (by exact cO j e) q
    .simp at h;simp[b9];have i1:d<=I.length:=by have:=eq a9;exact aj (ar L) this
     have e9:(I.set (d+3)<|aa.a [Z k])[d+3]?=V (.a [Z k]):=cq b9;have e4:(I.set (d+3)<|aa.a [Z k])[d+2]?=_:=aX b8 (by exact aL<|aO _);have a2:(I.set (d+3)<|aa.a [Z k])[d]?=_:=aX c0 (by exact aL<|du _ 1 3 rfl);have g4:H<+:I.set (d+3) (aa.a [Z k]):=dq a9 (by exact an 0 0 0 3 (aw L) rfl);generalize I.set (d+3) (aa.a [Z k])=s at*;simp[e9,e4];refine⟨e5,?_⟩;have c9:(s.set (d+2)<|aa.a<|(az c λv=>Z<|b v).set k<|O.b 1)[d+3]?=_:=aX e9 (by exact bh<|aO _);have g6:(s.set (d+2)<|aa.a<|(az c λv=>Z<|b v).set k<|O.b 1)[d]?=_:=aX a2 (by exact aL<|du _ 1 2 rfl);have g1:(s.set (d+2)<|aa.a<|(az c λv=>Z<|b v).set k<|O.b 1)[d+2]?=V (.a<|az c λv=>Z<|bb b k 1 v):=by rw[cq e4];have:O.b 1=Z 1:=rfl;rw[this,oD];congr 2;apply hg;ext t b;simp only[bb];split<;>rfl
     have g5:H<+:s.set (d+2) (aa.a<|(az c λv=>Z<|b v).set k<|O.b 1):=dq g4 (by exact an 0 0 0 2 (aw L) rfl);have c8:s.length=(s.set (d+2)<|aa.a<|(az c λv=>Z<|b v).set k<|O.b 1).length:=by simp
     generalize s.set (d+2) (aa.a<|(az c λv=>Z<|b v).set k<|O.b 1)=C at*;try simp[c9]
     rw[c8];have e6:=bH c9;have e0:=l.zg (y:=k) e5 h a3 (λh6 c7=>by simp at c7) λ_=>rfl;simp only[aay,Ef,oX]at e0
     have f7:eA H (C++[aa.a [Z k,.b 1,.b 0],aa.a [.a C.length]]) d (C.length+1) c o (bb b k 1) [k] [(C.length,k,1,0)]:={
      c:=g5.trans (aB _ _)
      h:=by exact aw L
      b:=aH g6
      a:=aH g1
      d:=aH c9
      e:=by simp
      f:=λg G=>by simp at G;subst G;simp
      i:=by exact an 4 0 4 1 e6 rfl
      g:=λg G=>by simp at G;subst G;exact⟨e6,by simp⟩
      j:=by simp}
     have h1:∀v,v<k+1->v<c->bb b k 1 v≠0:=λv j q=>by
      by_cases e:v=k;.have e:=e.symm;subst e;simp
      .rw[bc e];exact D v (by exact cO j e) q
     generalize i0:C.length+1=a0 at*;generalize bb b k 1=g7 at*;refine iZ (λc2 Q I=>∃(b2 b0 a6 b1:Option O)(o b:Nat->Nat)(f:List Nat)(n:List fw),Q=[V<|Z c,V<|.a a7,V<|.a a5,V<|.a d,V<|.a<|d+2,V<|Z<|c+1,V<|.a<|d+3,V<|Z k,V<|.a a0,b2,b0,a6,b1]/\eA H I d a0 c o b f n/\cP c B a4 o b f (n.map λg:fw=>g.2)/\(∀v,v<k+1->v<c->b v≠0)/\c2=jU c B b n) (nJ _ _ _ _ o g7 ([k]) _ rfl f7 e0 h1 rfl) ?_;clear c8;clear f7 e0 h1 l D c0 b8 b9 h e9 e4 a2 c9 g6 g1 g5 g4 a9 e6 i0 i1 g7 C s;clear o b;ext@c2@Q@I m
     exact by
      ext(Nv m)@b2@b0@a6@b1@o@b@f@n r l D c4
      exact by
       subst c4;ext@j3 b7 j7
       exact by
        simp[r.e]
        cases n with
        |nil=>simp;have i3:=l.zh;subst i3;exact(f8 _ _<|pL _ _ _ _ _ _ o b rfl r.c r.b r.a r.d l D).1
        |cons g n=>
         delta g n;intros _
         exact by
          obtain⟨a,x,p,i⟩:=g;delta a x p i;intros _
          exact by
           simp only[dm]at l;have T:=l.zb;have h2:x∈f:=bs T.1;have A:=l.c x h2;have a2:=r.f _<|.head _;simp only at a2;have d0:=l.zf;simp[a2,ay r.c f0,cc A,ay r.c<|f1 x A];refine cE (λe7=>?_) λe3=>?_
           .simp at e7;obtain⟨y,d4⟩:∃y,(B x)[i]?=V y:=⟨_,cu e7⟩;delta y;intros _
            exact by
             have j0:=bs d4;have X:=a3 x A y j0;simp[a2,ay r.c f0,cc A,ay r.c<|f1 x A,d4,r.a,cc X];refine cE (λR=>?_) λR=>?_
             .simp at R;have z:=r.zc (l:=f++[y]) (o:=.a<|f.map Z++[Z y]) (by simp);simp[r.d];refine⟨by exact aA 0 0 0 16000000 0 16777215 d0 S rfl,?_⟩;generalize I.set (d+3) (aa.a<|f.map Z++[Z y])=s at*;simp[z.d,z.a];refine⟨X,?_⟩;have E:=z.zb (s:=y) (v:=f.length+1) (o:=.a<|(az c λv=>Z<|b v).set y<|O.b<|↑f.length+1) rfl rfl;have c8:s.length=(s.set (d+2)<|aa.a<|(az c λv=>Z<|b v).set y<|O.b<|↑f.length+1).length:=by simp
              generalize s.set (d+2) (aa.a<|(az c λv=>Z<|b v).set y<|O.b<|↑f.length+1)=C at*;simp[E.e,E.d,aH E.e];rw[c8]
              have e2:n.length<=16000000:=by
               have i2:=l.f;have j:(n.map λg:fw=>g.2.2.1).Nodup:=by rw[kX,iE];have:=(js.mp i2).2;rw[iE]at this;exact this.imp λh=>by exact aL h
               have q:=fu (n:=f.length+1) j λv w=>by ext(_:bY.mp w)g G m-;have:=l.b g.2<|.tail _<|jo (f:=λg:fw=>g.2) G;have:=(bi.mp this.1).1;exact OR this
               have f6:=l.zd (j:=(x,p,i))<|.head _;have b6:(n.map λg:fw=>g.2.2.1).length<=f.length:=by refine fu (n:=f.length) j λv w=>?_;ext(_:bY.mp w)g G m-;have e1:=l.za (g:=g.2)<|jo (f:=λg:fw=>g.2) G;have:=(bi.mp T.1).1;exact Gk e1 this
               simp at b6;exact aj (aj b6 d0) S
              refine⟨by exact an 0 16000000 0 16777214 e2 rfl,?_⟩;have b3:=E.ze (x:=y) (p:=f.length+1) (i:=0) (o:=.a<|(md (λg:fw=>O.a g.1)<|(a,x,p,i)::n).reverse++[.a C.length]) rfl;have K:=l.zg (y:=y) X R a3 (λh6 c7=>by simp at c7;subst c7;exact d4) (λe=>by simp at e);simp at b3;refine(b7 _ _ _ ?_<|nJ _ _ _ _ _ _ _ _ rfl b3 K (λv j q=>?_) rfl).2
              .unfold jU;have:=H2 (n:=c) (s:=y) (g:=λv=>if b v=0 then(B v).length+2 else 0) (a:=λv=>if bb b y (f.length+1) v=0 then(B v).length+2 else 0) X λt P=>by simp only[bc P]
               simp[R]at this;simp;exact OS this
              .by_cases e:v=y;.have e:=e.symm;subst e;simp
               .rw[bc e];exact D v j q
             .simp at R;have z:=r.zf (o:=.a [Z x,Z p,O.b<|↑i+1]) rfl;generalize I.set a (aa.a [Z x,Z p,O.b<|↑i+1])=s at*;simp[z.a,cc X,cc A];have K:=l.zi d4 R a3;have i9:=l.ze h2
              have f2:∀v,v<k+1->v<c->bb b x (min (b x)<|b y) v≠0:=λv j q=>by
               by_cases e:v=x;.have e:=e.symm;subst e;rw[bx];exact OT R i9
               .rw[bc e];exact D v j q
              have e8:jU c B (bb b x<|min (b x)<|b y) ((a,x,p,i+1)::n)<jU c B b ((a,x,p,i)::n):=by
               rw[Lb (c:=b) λv d3=>by
                delta v;intros _
                exact by
                 by_cases e:v=x;.have e:=e.symm;subst e;rw[bx];exact OU R
                 .rw[bc e]];unfold jU;simp;exact vK e7
              refine cE (λu=>?_) λu=>?_
              .simp at u;try simp[z.a,cc X]
               refine⟨A,?_⟩;have E:=z.zb (s:=x) (v:=b y) (l:=bb b x<|min (b x)<|b y) (o:=.a<|(az c λv=>Z<|b v).set x<|Z<|b y) rfl (by rw[aav<|by exact an 1 0 0 0 u rfl]);generalize s.set (d+2) (aa.a<|(az c λv=>Z<|b v).set x<|Z<|b y)=C at*;simp[z.b,E.b,cc X,cc A];refine⟨A,(b7 _ _ _ e8<|nJ _ _ _ _ _ _ _ _ rfl (E.za rfl rfl) K f2 rfl).2⟩
              .simp at u
               have d8:bb b x (min (b x)<|b y)=b:=by
                funext v;simp only[bb];split;.rename_i e;have e:=e.symm;subst e;exact OV u
                .rfl
               rw[d8]at K f2 e8;simp[z.b,cc X,cc A];refine⟨A,(b7 _ _ _ e8<|nJ _ _ _ _ _ _ _ _ rfl (z.za rfl rfl) K f2 rfl).2⟩
           .simp at e3;have i6:=r.g _<|.head _;have h9:a≠a0:=i6.2;have g0:=r.e;simp at g0;rw[g0,KJ]
            have e2:n.length<=16000000:=by
             have j:(n.map λg:fw=>g.2.2.1).Nodup:=by rw[kX,iE];have:=(js.mp l.f).2;rw[iE]at this;exact this.imp λh=>by exact aL h
             have b6:(n.map λg:fw=>g.2.2.1).length<=f.length:=by refine fu (n:=f.length) j λv w=>?_;ext(_:bY.mp w)g G m-;have e1:=l.za (g:=g.2)<|jo (f:=λg:fw=>g.2) G;have:=(bi.mp T.1).1;exact Gk e1 this
             simp at b6;exact aj (aj b6 d0) S
            refine⟨by simp;exact an 0 16000000 0 16777215 e2 rfl,?_⟩;have z:=r.zd (o:=.a<|(n.map λg:fw=>O.a g.1).reverse) rfl;have i4:(I.set a0<|aa.a<|(n.map λg:fw=>O.a g.1).reverse)[a]?=_:=aX a2 h9.symm;generalize I.set a0 (aa.a<|(n.map λg:fw=>O.a g.1).reverse)=s at*;simp[z.a,cc A,i4];refine cE (λu=>?_) λu=>?_
            .simp at u;have u:b x=p:=by exact vL u
             refine iZ (λc2 Q I=>∃(c5:Int)(t:Nat)(c3 P:Nat->Nat),Q=[V<|Z c,V<|.a a7,V<|.a a5,V<|.a d,V<|.a<|d+2,V<|Z<|c+1,V<|.a<|d+3,V<|Z k,V<|.a a0,V<|.a a,V<|Z x,a6,V<|.b c5]/\eA H I d a0 c c3 P (f.take t) n/\((t+1=p/\c5=x)\/(p<=t/\t<=f.length/\c5≠x))/\(∀v,fU f (t+1) v->P v=c+1/\c3 v=o x)/\(∀v,¬fU f (t+1) v->P v=b v/\c3 v=o v)/\c2=t) (Fh (-1) f.length o b rfl (by rw[fj];exact z) (.inr<|aI (by have:=(bi.mp T.1).1;exact Gh this) (aO _)<|by exact Gl) (λv m=>Y m λk j q=>by have:=(bi.mp j).1;exact(bB 1 0 (aj q this) rfl).elim) (λv _=>⟨rfl,rfl⟩) rfl) ?_;ext@c2@Q@C m
             exact by
              ext(Nt m)@c5@t@c3@P d6 f9 b4 b5 c4
              exact by
               have c4:=c4.symm;subst c4;ext@j4 h8 j8
               exact by
                simp;refine cE (λh=>?_) λh=>?_
                .simp at h;rcases f9 with⟨_,j⟩|⟨d1,g8,_⟩;.exact absurd j h
                 obtain⟨v,w⟩:∃v,f[t-1]?=V v:=⟨_,cu<|gP (Nat.sub_lt (aj T.2.1 d1) Nat.one_pos) g8⟩;delta v;intros _
                 exact by
                  have d3:=l.c v<|bs w;have i7:f.take t=f.take (t-1)++[v]:=by rw[show t=t-1+1 from(pa<|aj T.2.1 d1).symm,fX,w];rfl
                  have d2:=d6.d;rw[i7,iD]at d2;have d2:C[d+3]?=V (.a<|(f.take<|t-1).map Z++[Z v]):=d2;rw[d2,KJ];refine⟨by have:=(fW (t-1) f).length_le;simp at this⊢;exact aA 0 0 0 16000000 0 16777215 (aj this d0) S rfl,?_⟩;have E:=d6.zc (l:=f.take<|t-1) (o:=.a<|(f.take<|t-1).map Z) rfl;generalize C.set (d+3) (aa.a<|(f.take<|t-1).map Z)=h5 at*;simp[E.a];refine⟨d3,?_⟩;have b3:=E.zb (s:=v) (v:=c+1) (o:=.a<|(az c λv=>Z<|P v).set v<|Z<|c+1) rfl rfl;generalize h5.set (d+2) (aa.a<|(az c λv=>Z<|P v).set v<|Z<|c+1)=j1 at*;simp[E.b,b3.b,cc A];refine⟨d3,(h8 (t-1) _ _ (Nat.sub_lt (aj T.2.1 d1) Nat.one_pos)<|Fh v (t-1) _ _ rfl (b3.za rfl rfl) ?_ ?_ ?_ rfl).1⟩
                  .by_cases e:v=x;.have e:=e.symm;subst e;have:=l.zc w;exact .inl ⟨by exact be (aw this)<|ar this,rfl⟩
                   .right;refine aI ?_ (by exact aj (rE _ _) g8) (by exact OW e);rcases nt (t-1) p with d9|d9
                    .exfalso;have h7:t-1=p-1:=by exact OX d1 d9
                     rw[h7,T.1]at w;exact e (bj w).symm
                    .exact d9
                  .intro a8⟨c1,j,q⟩
                   have i5:c3 x=o x:=by
                    by_cases a1:fU f (t+1) x;.exact(b4 x a1).2
                    .exact(b5 x a1).2
                   by_cases e:a8=v;.have e:=e.symm;subst e;rw[bx,bx];exact⟨rfl,i5⟩
                   .rw[bc e,bc e];refine b4 a8<|ad c1 j ?_;have:c1≠t-1:=λd8=>e (by rw[d8,w]at j;exact(bj j).symm);exact OY q this
                  .ext a8 h0;have e:a8≠v:=λe=>h0<|ad (t-1) (by rw[e];exact w) (by exact aO _);rw[bc e,bc e];exact b5 a8 λm=>Y m λc1 j q=>h0<|ad c1 j (by exact aA 0 0 1 1 1 1 (rE _ _) q rfl)
                .simp at h;rcases f9 with⟨g9,_⟩|⟨_,_,j⟩;rotate_left;.exact absurd h j
                 rw[g9]at b4 b5;have K:=l.zl e3 u a3 b4 b5;have:t=p-1:=by exact pQ g9
                 subst this
                 have g3:∀v,v<c->(P v=0↔b v=0):=λv d3=>by
                  by_cases a1:fU f p v;.rw[(b4 v a1).1];ext(a1)c1 j _;have:=l.ze<|bs j;exact OZ this
                  .rw[(b5 v a1).1]
                 refine(b7 _ _ _ ?_<|nJ _ _ _ _ _ _ _ _ rfl d6 K (λv j q f6=>D v j q<|(g3 v q).mp f6) rfl).1;rw[Lb g3];unfold jU;simp
            .simp at u;have u:b x≠p:=by exact Pa u
             have K:=l.zk e3 u;refine(b7 _ _ _ ?_<|nJ _ _ _ _ _ _ _ _ rfl z K D rfl).1;unfold jU;simp
 .ext Q I m(vD m)f3 f4 b2 b0 a6 b1 o b a9 c0 b8 b9 l D;simp at D;refine⟨trivial,?_⟩;simp;exact h3 _ _ o a9 (by exact aw L) c0 λv w t=>l.zn a3 (λv h=>D v h) w t
structure gj(G:ap):Prop where
 a:G.zf
 c:∃s,G.b 0=[s,0]/\G.a<=s
 d:G.d 0=G.a
 b:0<G.a
 e:∀k,k<G.c->G.a∉G.b k
 g:∀k,0<k->k<G.c->G.d k≠G.a
 f:∀k,k<G.c->∀X∈G.b k,G.a<=X->∃j,j<G.c/\G.d j=X/\(bN G X\/∃t h,G.b j=t::h/\t<G.a)
def hl(a:List aJ)(p X:Nat):Option Nat:=match a[p]? with|V s=>if X∈s.a then V (s.c X)else U|U=>U
noncomputable def dZ(a:List aJ):Nat->List Nat->Option Nat|p,[]=>V p|p,X::l=>match hl a p X with|V q=>dZ a q l|U=>U
theorem Ld{a:List aJ}{q:Nat}{d:List Nat}:∀{b:List Nat}{p:Nat},dZ a p b=V q->dZ a p (b++d)=dZ a q d|[],p,h=>by simp[dZ]at h;subst h;rfl|X::b,p,h=>by unfold dZ at h;rw[MV,dZ];cases c:hl a p X with|none=>rw[c]at h;cases h|some e=>rw[c]at h;exact Ld h
def bZ(b:List aJ)(p a:Nat):Prop:=∃s:aJ,b[p]?=V s/\a∈s.j
section
variable{G:ap}{a:List aJ}{p q b X:Nat}
theorem bZ.zb(e:bJ G a)(h:bZ a p b):b<G.zc/\p<a.length:=by ext(h)s c d;rw[(e.b p s c).a]at d;exact⟨rp (e.a.a p s c).1 b d,(bi.mp c).1⟩
theorem bZ.za(f:bJ G a){s:aJ}(d:a[p]?=V s):bZ a p b↔b∈s.b\/(b<G.zc/\G.zE s.b b):=by
 delta G a p b s at f d;constructor
 .ext g(g)u e c;rw[d]at e;have e:=bj e;subst e;rw[(f.b p s d).a]at c;rcases bU.mp c with c|c;.exact .inl c
  .exact .inr<|ef.mp c
 .ext h;refine ad s d ?_;rw[(f.b p s d).a];rcases h with h|h;.exact gS _ h
  .exact kq _<|ef.mpr h
theorem bZ.zc(e:bJ G a)(i:G.zf)(h:bZ a p b)(f:G.zd b=V X):∃s:aJ,a[p]?=V s/\X∈s.a:=by ext(h)s c d;refine ad s c ?_;have g:=e.b p s c;rw[g.a]at d;rw[g.c];exact ef.mpr ⟨ap.zx i (rp (e.a.a p s c).1 b d) f,ad b d f⟩
theorem uj(i:bJ G a){s:aJ}(e:a[p]?=V s)(c:X∈s.a):∃b,bZ a p b/\G.zd b=V X:=by have d:=i.b p s e;rw[d.c]at c;ext(ac:ef.mp c)w f(f)b g h;exact ad b (ad s e<|by rw[d.a];exact g) h
theorem rs{s:aJ}(c:a[p]?=V s)(b:X∈s.a):hl a p X=V (s.c X):=by simp[hl,c,b]
theorem Dj(i:bJ G a)(h:hl a p X=V q):∃s:aJ,a[q]?=V s/\∀j,j∈s.b↔∃b,bZ a p b/\G.zd b=V X/\j=b+1:=by
 delta G a p q X;ext i h;unfold hl at h;split at h
 .rename_i s f;split at h
  .rename_i u;have h:=bj h;subst h;have k:=i.b p s f;ext(_:k.d X u)t n o;refine ad t n λj=>?_;rw[o,ef];constructor;.ext c(@ac c)z m(mn m)b r d;exact aT b (ad s f<|by rw[k.a];exact r) d rfl
   .ext c(mn c)b l d(l)w e g;rw[f]at e;have e:=bj e;subst e;rw[k.a]at g;have v:=(i.a.a p s f).1;exact⟨(G.zB (rp v b g) d).1,aT b g d rfl⟩
  .exact cn h
 .exact cn h
theorem bZ.zd(c:bJ G a)(j:G.zf)(h:bZ a p b)(e:G.zd b=V X):∃q,hl a p X=V q/\bZ a q (b+1):=by ext(_:h.zc c j e)s f d;refine ad (s.c X) (rs f d) ?_;ext(_:Dj c (rs f d))t g i;exact(bZ.za c g).mpr<|.inl<|(i _).mpr<|aT b h e rfl
theorem rt{r t:Nat}(a:r<G.c)(b:t<=(G.b r).length):G.zd (G.zb r+t)=(G.b r)[t]?:=by unfold ap.zd;rw[G.zo a b,G.zq a b]
theorem bZ.zf(c:bJ G a)(e:G.zf){r:Nat}(d:r<G.c):∀(n t p:Nat),t+n<=(G.b r).length->bZ a p (G.zb r+t)->∃q,dZ a p (((G.b r).drop t).take n)=V q/\bZ a q (G.zb r+(t+n))|0,t,p,_,h=>ad p (by simp[dZ]) h|n+1,t,p,b,h=>by have k:(G.b r)[t]?=V ((G.b r)[t]'(by exact sz b)):=cu (by exact sz b);ext(_:h.zd c e ((rt d<|by exact Pb b).trans k))q f g(_:bZ.zf c e d n (t+1) q (by exact Pc b) (by rw[show G.zb r+(t+1)=G.zb r+t+1 by exact be (aO _)<|aO _];exact g))l i j;refine ad l ?_ (by rw[show t+(n+1)=t+1+n by exact sy];exact j);rw[mf<|by exact sz b,List.take_succ_cons,dZ,f];exact i
theorem Dk{f:List Nat}{c d:Nat}(h:G.zh f c)(e:G.zp c d):G.zh f d:=by
 ext(h)b j g(g)i k a;refine ad b j<|ad i k<|.inr ?_;rcases a with rfl|a;.exact .a e
 .exact a.zb<|.a e
theorem oP{k:Nat}(a:k<G.c):G.zd (G.zb k)=(G.b k)[0]?:=rt (t:=0) a<|fd _
theorem bZ.ze(e:bJ G a){s:aJ}(f:a[p]?=V s)(h:bZ a p b)(c:G.zd b=V X):G.zh s.b X:=by
 rcases(bZ.za e f).mp h with h|⟨_,k,d,rfl,g,_⟩;.exact ad b h<|ad X c<|.inl rfl
 .rw[oP d]at c;exact Dk g<|aT k d rfl c
theorem uk(b:bJ G a){s:aJ}(d:a[p]?=V s){k:Nat}(c:k<G.c)(e:G.zh s.b<|G.d k):bZ a p<|G.zb k:=by
 by_cases h:G.zb k∈s.b;.exact(bZ.za b d).mpr<|.inl h
 .exact(bZ.za b d).mpr<|.inr ⟨ap.zF c,ej k c rfl e h⟩
theorem Dl(c:bJ G a){s:aJ}(d:a[p]?=V s)(g:X∈s.a){k:Nat}(h:k<G.c)(i:G.d k=X):bZ a p<|G.zb k:=by ext(_:uj c d g)b e f;exact uk c d h<|i▸e.ze c d f
theorem Le(g:bJ G a){r:Nat}(b:r<G.c)(f:r≠0)(h:bZ a q<|G.zb r+(G.b r).length):∃s:aJ,a[q]?=V s/\r∈s.d:=by ext(h)s c d;have e:=g.b q s c;refine ad s c ?_;rw[e.b];rw[e.a]at d;refine ef.mpr<|aI b f<|aT _ d ?_<|G.zo b<|aO _;rw[rt b<|aO _];simp
theorem H3(d:bJ G a){s:aJ}(c:a[q]?=V s){r:Nat}(e:r∈s.d):r<G.c/\r≠0/\bZ a q (G.zb r+(G.b r).length):=by
 delta G a q s r at d c e;have g:=d.b q s c;rw[g.b]at e;ext(bD:ef.mp e)k l j(@bd j)b f m n-;refine aI k l<|ad s c ?_;rw[g.a];have i:=rp (d.a.a q s c).1 b f;have h:=(G.zO i).mp m;have:G.zb (G.zg b)+(G.b<|G.zg b).length=b:=by have:=G.zD i;unfold ap.ze at h;exact Pd h this
 rw[this];exact f
theorem Lf(d:bJ G a)(a0:G.zf):∀(n q r t:Nat),q<=n->r<G.c->t<=(G.b r).length->bZ a q (G.zb r+t)->∃p,p<=q/\(0<t->p<q)/\dZ a p ((G.b r).take t)=V q/\bZ a p (G.zb r):=by
 delta G a;ext d a0 n
 induction n with
 |zero=>
  ext q r t w g i h;have:q=0:=by exact Gg w
  subst this
  cases t with
  |zero=>exact ej 0 (by exact aO _) (by exact Pe) (by simp[dZ]) (by simpa using h)
  |succ t=>
   exfalso;ext(_:d.c)s f u;rcases(bZ.za d f).mp h with h|⟨_,k,o,e,_⟩;.rw[u]at h;simp at h
   .have c:=G.zq g i;rw[e,ap.zI o]at c;exact Pf c
 |succ n S=>
  ext q r t w g i h
  cases t with
  |zero=>exact ej q (by exact aO _) (by exact Pg) (by simp[dZ]) (by simpa using h)
  |succ t=>
   ext(_:id h)s f _;have R:=(bi.mp f).1
   have v:G.zb r+(t+1)∈s.b:=by
    rcases(bZ.za d f).mp h with h|⟨_,k,o,e,_⟩;.exact h
    .have c:=G.zq g i;rw[e,ap.zI o]at c;exact absurd c.symm<|DV _
   have Q:0<q:=by
    rcases MW q with m|m;.subst m;ext(_:d.c)T l u;rw[f]at l;have l:=bj l;subst l;rw[u]at v;simp at v
    .exact m
   ext(hY:d.d q Q R)B T X c E H I;have A:hl a B X=V q:=by rw[rs E H,I]
   ext(_:Dj d A)a2 j K;rw[f]at j;have j:=bj j;subst j;ext(bd:(K _).mp v)b L y z;have P:b=G.zb r+t:=by exact be (an 1 1 0 0 (ar z) rfl)<|an 1 1 0 0 (aw z) rfl
   subst P;ext(fG:S B r t (by exact aA 1 0 0 1 0 0 c w rfl) g (by exact an 1 0 0 0 i rfl) L)p x a1 C D;refine ej p (by exact aA 0 0 1 0 0 0 x c rfl) (λ_=>by exact aA 0 0 1 0 1 0 x c rfl) ?_ D;rw[rt g<|by exact an 1 0 0 0 i rfl]at y;rw[fX,y,Ld C];simp[dZ,A]
end
def ul(a:List aJ)(p X:Nat):Prop:=∃s:aJ,a[p]?=V s/\X∈s.a
def hK(G:ap)(a:List aJ)(x:Nat×Nat):Prop:=ul a x.1 x.2/\G.a<=x.2
def Lg(G:ap)(a:List aJ)(x:Nat×Nat)(t:Nat):Prop:=∃q,hl a x.1 x.2=V q/\ul a q t/\t<G.a
def um(G:ap)(a:List aJ)(x y:Nat×Nat):Prop:=hl a x.1 x.2=V y.1/\ul a y.1 y.2/\G.a<=y.2/\bN G y.2
def Dm(G:ap)(c:List aJ)(x y:Nat×Nat):Prop:=hK G c y/\∃k,k<G.c/\G.d k=y.2/\∃b a,G.b k=b++x.2::a/\(∀u∈a,bN G u)/\dZ c y.1 b=V x.1
def ng(G:ap)(a:List aJ)(q r:Nat)(x:Nat×Nat):Prop:=hK G a x/\G.d r=x.2/\dZ a x.1 (G.b r)=V q
inductive nh(G:ap)(c:List aJ):Nat×Nat->Nat->Prop|a{x:Nat×Nat}{t:Nat}:Lg G c x t->nh G c x t|b{x y:Nat×Nat}{t:Nat}:um G c x y->nh G c y t->nh G c x t
inductive eB(G:ap)(c:List aJ):Nat×Nat->Nat->Prop|a{x:Nat×Nat}{t:Nat}:nh G c x t->eB G c x t|b{x y:Nat×Nat}{t:Nat}:Dm G c x y->eB G c y t->eB G c x t
section
variable{G:ap}{b:List aJ}{p q a X A t:Nat}
theorem ee.zb{d c:Nat}(e:G.zp d c)(h:ee G c t):ee G d t:=by
 ext(Nx e)k g b;obtain⟨l,i⟩:∃l,G.b k=c::l:=by cases f:G.b k with|nil=>rw[f]at b;simp at b|cons a l=>rw[f]at b;simp at b;subst b;exact⟨l,rfl⟩
 exact .b k t c [] l g i (by simp) h
theorem ee.zc{a b:Nat}(e:gh G.zp a b)(h:ee G b t):ee G a t:=by induction e with|a e=>exact ee.zb e h|b e _ c=>exact ee.zb e<|c h
def fx(G:ap)(a:Nat):List Nat:=(G.b<|G.zg a).drop<|G.ze a
theorem un(h:G.zd a=V X):∃l,fx G a=X::l/\l=(G.b<|G.zg a).drop (G.ze a+1):=by unfold ap.zd at h;ext(aD:bi.mp h)b c;refine ad _ ?_ rfl;unfold fx;rw[mf b,c]
theorem H4(b:a<G.zc)(h:G.zd a=V X):fx G a=X::fx G (a+1):=by delta G a X;ext b h(_:un h)l c d(bD:G.zB b h)w e f;rw[c,d];unfold fx;rw[e,f]
theorem H5(f:bJ G b)(n:G.zf){s:aJ}(i:b[p]?=V s)(h:bZ b p a)(c:gJ G (fx G a) t):∃j∈s.b,gJ G (fx G j) t:=by
 delta G b p a t s at f n i h c;rcases(bZ.za f i).mp h with h|⟨_,k,g,rfl,⟨j,v,o,q,d⟩,_⟩;.exact ad a h c
 .refine ad j v ?_;have y:fx G (G.zb k)=G.b k:=by unfold fx;rw[ap.zP g,ap.zI g];rfl
  rw[y]at c;ext(la:oF.mp c)B u A e x z;have m:ee G (G.d k) t:=.b k t u B A g e x z
  have r:ee G o t:=by
   rcases d with d|d;.rw[<-d];exact m
   .exact ee.zc d m
  ext(_:un q)l w C;rw[w];exact .inl r
theorem nh.za(e:bJ G b)(o:G.zf){x:Nat×Nat}(h:nh G b x t):∃a,bZ b x.1 a/\G.zd a=V x.2/\gJ G ((G.b<|G.zg a).drop<|G.ze a+1) t:=by
 delta G b t x at e o h;have v:∀{x:Nat×Nat}{q j t:Nat},hl b x.1 x.2=V q->bZ b q j->gJ G (fx G j) t->∃a,bZ b x.1 a/\G.zd a=V x.2/\gJ G ((G.b<|G.zg a).drop<|G.ze a+1) t:=by ext x q j t f A z(_:Dj e f)s n C(_:H5 e o n A z)L B k(bd:(C _).mp B)a c d g-;refine aT a c d ?_;ext(bD:G.zB (c.zb e).1 d)P i w;unfold fx at k;rw[i,w]at k;exact k
 induction h with|a p=>ext(@bd p)q f g H(g)s n y(_:uj e n y)j c d(_:un d)l m P;exact v f c (by rw[m];exact .inl<|.a _ H)|b r _ u=>ext(@ei r)f I K E(@bd u)j c d i(_:un d)l m D;exact v f c (by rw[m,D];exact .inr ⟨E,i⟩)
theorem Lh{a A:Nat}(h:G.zd a=V A):G.b (G.zg a)=(G.b<|G.zg a).take (G.ze a)++A::(G.b<|G.zg a).drop (G.ze a+1):=by unfold ap.zd at h;ext(aD:bi.mp h)b c;conv=>lhs;rw[<-ES (G.ze a)<|G.b<|G.zg a,mf b,c]
theorem eB.za(c:bJ G b)(y:G.zf){x:Nat×Nat}(h:eB G b x t)(f:G.a<=x.2):jb G x.2 t:=by induction h with|a s=>ext(bd:s.za c y)a l m n;exact .a (G.zg a) _ _ _ _ (G.zu (l.zb c).1) (Lh m) f n|b d _ u=>ext(@ac d)g i(@ac g)z q(@bd i)k o p j(@bk j)w v e r z;exact .b k w _ v _ o e f r<|p▸u q
theorem H6(c:bJ G b)(f:gj G):∀(d:List Nat)(p a A:Nat),bZ b p a->G.zd a=V A->fx G (a+1)=d->(¬∀u∈d,bN G u)->∃t,nh G b (p,A) t:=by
 delta G b;ext c f d
 induction d with
 |nil=>ext p a A _ _ _ h;exact absurd (by simp) h
 |cons C d S=>
  ext p a A x H B P;have X:=(x.zb c).1;ext(_:x.zd c f.a H)q k i;have z:=(i.zb c).1
  have g:G.zd (a+1)=V C:=by
   have:(fx G<|a+1)[0]?=V C:=by rw[B];rfl
   unfold fx at this;rw[aaz]at this;unfold ap.zd;simpa using this
  ext(_:i.zc c f.a g)s n l;by_cases v:C<G.a;.exact⟨C,.a<|aT q k (ad s n l) v⟩
  .have w:G.a<=C:=by exact dM v
   have D:C∈G.b (G.zg<|a+1):=bs g;by_cases m:bN G C
   .have Q:fx G (a+1+1)=d:=by have:=H4 z g;rw[B]at this;exact(List.cons.inj this).2.symm
    ext(aD:S q (a+1) C i g Q λh=>P λu r=>by
     rcases bM.mp r with rfl|r;.exact m
     .exact h u r)t o;exact⟨t,.b (dC k (ad s n l) w m) o⟩
   .obtain⟨j,y,K,h|⟨t,a0,e,o⟩⟩:=f.f _ (G.zu z) C D w;.exact absurd h m
    .have E:=Dl c n l y K;have I:G.zd (G.zb j)=V t:=by rw[oP y,e];rfl
     ext(_:E.zc c f.a I)T R L;exact⟨t,.a<|aT q k (ad T R L) o⟩
theorem H7(d:gj G)(h:a<G.zc)(e:G.zg a=0)(b:G.zd a=V A)(g:G.a<=A):a=0:=by
 ext(_:d.c)s i w;have c:G.ze a=0:=by unfold ap.zd at b;rw[e,i]at b;match f:G.ze a,b with|0,_=>rfl|1,b=>simp[f]at b;have:=d.b;exact be (aj (aj this g)<|ar b)<|du _ 0 1 rfl|k+2,b=>simp[f]at b
 have:=G.zD h;unfold ap.ze at c;rw[e]at c this;simp only[ap.zb]at c this;exact Ph c
theorem Li(c:bJ G b)(w:G.zf){r:Nat}(u:r<G.c)(o:r≠0)(h:bZ b p<|G.zb r):ul b p<|G.d r:=by
 delta G b p r at c w u o h;ext(_:id h)@s i S
 exact by
  refine ad s i ?_;have K:G.zb r≠0:=λe=>o (by have:G.zb r=G.zb 0:=e;exact ap.zH this)
  have l:G.zh s.b<|G.d r:=by
   rcases(bZ.za c i).mp h with n|⟨_,k,m,e,l,_⟩
   .exfalso;rcases MW p with t|t;.subst t;ext(_:c.c)Q d H;rw[i]at d;have d:=bj d;subst d;rw[H]at n;simp at n;exact K n
    .have:=(c.a.a p s i).2 t _ n;rw[ap.zI u]at this;exact bB 1 0 this rfl
   .have:=ap.zH e;subst this;exact l
  ext(l)a x A(A)f y g;have B:bZ b p a:=(bZ.za c i).mpr<|.inl x;have z:G.zh s.b f:=ad a x<|ad f y<|.inl rfl
  have:∀{f:Nat},(∃j,bZ b p j/\G.zd j=V f)->G.zh s.b f->(G.d r=f\/gh G.zp f (G.d r))->∃j,bZ b p j/\G.zd j=V (G.d r):=by
   ext f C l g;rcases g with g|g;.rw[g];exact C
   .clear z;generalize L:G.d r=R at g;clear L;induction g with|a e=>ext(@bd e)k m q v;exact ad (G.zb k) (uk c i m<|q▸l) (by rw[oP m];exact v)|b e _ P=>ext(bd:id e)k m q v;exact P (ad (G.zb k) (uk c i m<|q▸l)<|by rw[oP m];exact v)<|Dk l e
  ext(_:this (ad a B y) z g)j D E(_:D.zc c w E)Q d I;rw[i]at d;have d:=bj d;subst d;exact I
end
section
variable{G:ap}{a:List aJ}{p q b X A t:Nat}
theorem H8(c:bJ G a)(d:G.zf){s:aJ}(j:a[q]?=V s){r:Nat}(i:r∈s.d):∃p,ng G a q r (p,G.d r):=by ext(bD:H3 c j i)b f g(fG:Lf c d q q r _ (aO _) b (aO _) g)p w w e h;rw[fj]at e;exact aT p ⟨Li c d b f h,d.f r b⟩ rfl e
theorem Lj(f:bJ G a)(c:gj G)(y:∀q,q<p->∀A,hK G a (q,A)->∃t,eB G a (q,A) t)(h:bZ a p b)(d:G.zd b=V A)(v:G.a<=A)(r:G.ze b=0->G.zg b≠0->∃t,eB G a (p,G.d (G.zg b)) t):∃t,eB G a (p,A) t:=by
 delta G a p b A;ext f c y h d v r;have j:=(h.zb f).1;by_cases k:∀u∈fx G (b+1),bN G u
 .have w:fx G (b+1)=(G.b<|G.zg b).drop (G.ze b+1):=by ext(bD:G.zB j d)L C D;unfold fx;rw[C,D]
  have l:=G.zu j
  have m:G.zg b≠0:=λe=>by
   have:=H7 c j e d v;subst this;ext(_:c.c)s m L;have g:G.ze 0=0:=by unfold ap.ze;simp
   rw[w,e,g,m]at k;have:=(k 0<|by simp).za c.a;have:=c.b;exact Gm (by assumption) this
  have I:b=G.zb (G.zg b)+G.ze b:=by have:=G.zD j;unfold ap.ze;exact Pi this
  have E:G.ze b<=(G.b<|G.zg b).length:=by unfold ap.zd at d;have:=(bi.mp d).1;exact an 1 0 0 0 this rfl
  ext(fG:Lf f c.a p p (G.zg b) (G.ze b) (aO _) l E (by rw[<-I];exact h))@n K z i B
  exact by
   have x:hK G a (n,G.d (G.zg b)):=⟨Li f c.a l m B,c.a.f _ l⟩;have H:Dm G a (p,A) (n,G.d (G.zg b)):=⟨x,aT (G.zg b) l rfl<|bu _ _ (Lh d) (by rw[<-w];exact k) i⟩
   have:∃t,eB G a (n,G.d (G.zg b)) t:=by
    by_cases g:G.ze b=0;.rw[g]at i;simp[dZ]at i;subst i;exact r g m
    .exact y n (z<|by exact Pj g) _ x
   ext(@aD this)t o;exact⟨t,.b H o⟩
 .ext(aD:H6 f c _ p b A h d rfl k)t o;exact⟨t,.a o⟩
theorem H9(f:bJ G a)(o:gj G):∀(n p:Nat),p<=n->∀A,hK G a (p,A)->∃t,eB G a (p,A) t:=by ext n;induction n with|zero=>ext p y;exact E p λm h=>absurd h<|kc.mpr<|aj y<|fd _|succ n B=>ext p y;exact E p λm h=>B m (by exact aA 1 0 0 1 0 0 h y rfl)where
 E(p:Nat)(Q:∀m,m<p->∀A,hK G a (m,A)->∃t,eB G a (m,A) t):∀A,hK G a (p,A)->∃t,eB G a (p,A) t:=by
  intro A⟨⟨s,g,P⟩,K⟩;ext(_:uj f g P)b H I;obtain⟨C,j,c,u,i⟩:=H.ze f g I;have L:bZ a p C:=(bZ.za f g).mpr<|.inl j;have X:G.zh s.b c:=⟨C,j,c,u,.inl rfl⟩
  have D:G.a<=c->∃t,eB G a (p,c) t:=λT=>by
   refine Lj f o Q L u T λa1 z=>?_;exfalso;rcases MW p with r|r;.subst r;obtain⟨a2,q,l⟩:=f.c;have g:a[0]?=V s:=g;rw[g]at q;have q:=bj q;subst q;rw[l]at j;simp at j;subst j;exact z (by have:=ap.zP (G:=G) (k:=0) (by have:=o.a.a;exact an 6 0 1 0 (ar this) rfl);exact this)
   .have:=(f.a.a p s g).2 r _ j;exact bB 1 0 (aA 0 0 1 0 1 0 (aw a1) this rfl) rfl
  rcases i with rfl|i;.exact D K
  .clear H I P L j u b C
   have:∀{c d:Nat},gh G.zp c d->G.zh s.b c->(G.a<=c->∃t,eB G a (p,c) t)->G.a<=d->∃t,eB G a (p,d) t:=by
    ext c d h;have R:∀{c d:Nat},G.zp c d->G.zh s.b c->(G.a<=c->∃t,eB G a (p,c) t)->G.a<=d->∃t,eB G a (p,d) t:=by intro c d⟨k,l,x,z⟩i w v;have S:bZ a p<|G.zb k:=uk f g l<|x▸i;refine Lj f o Q S (by rw[oP l];exact z) v λ_ _=>?_;rw[ap.zP l,x];exact w (by rw[<-x];exact o.a.f k l)
    induction h with|a e=>exact R e|b e _ B=>exactλi w v=>B (Dk i e) (λa0=>R e i w a0) v
   exact this i X D K
theorem I0(c:bJ G a)(b:gj G):∃(q r:Nat)(s:aJ),a[q]?=V s/\r∈s.d:=by
 delta G a;ext c b(_:c.c)z x u(_:b.c)S h o;have g:0<G.c:=by have:=b.a.a;exact an 6 0 1 0 (ar this) rfl
 have m:bZ a 0 0:=(bZ.za c x).mpr<|.inl (by rw[u];simp);have p:G.zd 0=V S:=by have:=oP (G:=G) (k:=0) g;rw[h]at this;exact this
 ext(_:m.zc c b.a p)y w v(bd:b.f 0 g S (by rw[h];simp) o)j d f A;have n:=Dl c w v d f;have t:j≠0:=λe=>by subst e;rw[b.d]at f;exact b.e 0 g (by rw[h,<-f];simp)
 ext(_:bZ.zf c b.a d (G.b j).length 0 0 (by exact Pk) (by simpa using n))q A i(_:Le c d t (by simpa using i))s k l;exact ks q j s k l
theorem hK.za(c:bJ G a)(f:gj G){x:Nat×Nat}(h:hK G a x):x.2≠G.a:=by ext(@ac h)d w(d)s k j(_:uj c k j)b g i e;exact f.e _ (G.zu (g.zb c).1)<|e▸bs i
end
def ru(s:aJ)(X:Nat):O:=if X∈s.a then Z (s.c X)else .b (-1)
section
variable{b H I:J}{R:cC}{G:ap}{A:gi}{a:List aJ}{d:Nat}{Q:au}
theorem I1{k:Nat}{s:aJ}(h:ez H k s){X:Nat}:aY (d+1) Hd [.a s.f,Z X] H Q=Q (ru s X) H:=by rw[bR BZ 0 rfl rfl rfl rfl<|by decide];simp[BZ,h.zd,h.b,tc,oJ];unfold ru;by_cases e:X∈s.a<;>simp[e]
theorem Lk(b:er H R A a){p X:Nat}{s:aJ}(e:a[p]?=V s):aY (d+2) Hk [.a A.a,Z p,Z X] H Q=Q (ru s X) H:=by rw[bR Ci 0 rfl rfl rfl rfl<|by decide];have c:=b.a p s e;simp[Ci,b.zc,b.b,e,c.zf,I1 c]
noncomputable def cJ(G:ap)(a:List aJ):Nat->List (Nat×Nat)|0=>[]|k+1=>cJ G a k++(match a[k]? with|V s=>(s.a.filter λX=>aP<|G.a<=X).map λX=>(k,X)|U=>[])
theorem Ll{k:Nat}{s:aJ}(h:a[k]?=V s):cJ G a (k+1)=cJ G a k++(s.a.filter λX=>aP<|G.a<=X).map λX=>(k,X):=by rw[cJ,h]
theorem iq{c b:Nat}:∀{k:Nat},(c,b)∈cJ G a k↔c<k/\hK G a (c,b)
 |0=>by simp[cJ]
 |k+1=>by
  rw[cJ,bU,iq];constructor
  .rintro(⟨i,d⟩|h);.exact⟨by exact an 1 0 1 1 i rfl,d⟩
   .split at h;.rename_i s f;ext(_:bY.mp h)X j e;cases e;rw[iF]at j;exact aI (by exact aO _) (ad s f j.1) (by simpa using j.2)
    .cases h
  .ext g(@ac g)i d;by_cases e:c=k;.subst e;right;ext(@ac d)g m(g)s f l;have f:a[c]?=V s:=f;rw[f];exact bY.mpr<|ad b (iF.mpr ⟨l,by simpa using m⟩) rfl
   .exact .inl ⟨by exact cO i e,d⟩
theorem rv(b:bJ G a){k:Nat}{s:aJ}(h:a[k]?=V s):s.a.Pairwise (·<·)/\∀X∈s.a,X<G.za:=by rw[(b.b k s h).c];exact⟨oH,λX c=>(ef.mp c).1⟩
theorem Dn(c:bJ G a)(d:G.zf){k:Nat}{s:aJ}(h:a[k]?=V s):s.a.length<=10:=by have b:=rv c h;have:=fu (lL b.1) b.2;have:=d.b;exact Gf (by assumption) this
theorem uo(b:bJ G a)(c:G.zf):∀k,(cJ G a k).length<=10*k
 |0=>by simp[cJ]
 |k+1=>by
  rw[cJ,hR];have:=uo b c k
  have:(match a[k]? with|V s=>(s.a.filter λX=>aP<|G.a<=X).map λX=>(k,X)|U=>[]).length<=10:=by
   split;.rename_i s d;rw[bC];exact aj (ht _ _)<|Dn b c d
   .simp
  exact Pl (by assumption) this
def gK(H:J)(c:Nat)(L:List<|Nat×Nat):Prop:=∃b:List Nat,H[c]?=V (.a<|b.map .a)/\b.length=L.length/\∀(i a:Nat)(x:Nat×Nat),b[i]?=V a->L[i]?=V x->H[a]?=V (.b [Z x.1,Z x.2])
theorem gK.za{b:Nat}{L:List<|Nat×Nat}(h:gK H b L)(p:H<+:I):gK I b L:=let⟨t,e,f,g⟩:=h;(aT t (ay p e) f λi a x c d=>ay p<|g i a x c d)
theorem gK.zb{b:Nat}{L:List<|Nat×Nat}{S:Nat->Prop}(h:gK H b L)(c:bn S H I)(m:¬S b)(l:∀j n,S j->H[j]?≠V (.b n)):gK I b L:=let⟨t,g,k,f⟩:=h;(aT t (c.a _ _ g m) k λi a x d e=>c.a _ _ (f i a x d e) λs=>l _ _ s<|f i a x d e)
theorem I2(d:bJ G a):∀k,(cJ G a k).Nodup
 |0=>by simp[cJ]
 |k+1=>by
  rw[cJ,ff];refine aI (I2 d k) ?_ λg j b c e=>?_
  .split;.rename_i s f;rw[kX,iE];exact(vm _ (rv d f).1).imp λh e=>by simp at e;exact bB 1 0 (aj h<|ar e) rfl
   .simp
  .subst e;obtain⟨x,y⟩:=g;have i:=(iq.mp j).1;split at c;.rename_i s f;ext(_:bY.mp c)X w e;cases e;exact bB 1 0 i rfl
   .cases c
def ir(L:List<|Nat×Nat)(x:Nat×Nat):O:=Z<|L.idxOf x
theorem I3(b1:bm b R G)(a6:G.zf)(w:er b R A a)(P:bJ G a){l S c f:Nat}{b5:O}(D:H[l]?=V (.e hA S))(C:H[S]?=V (.c [(dd,.a A.a),(eE,b5),(dE,.a c),(eU,.a f)]))(b4:b<+:H)(c2:b.length<=c)(b9:b.length<=f)(B:gK H c [])(y:ch H f []<|ir [])(c6:∀I,bn (λj=>j=c\/j=f) H I->b<+:I->gK I c (cJ G a a.length)->ch I f (cJ G a a.length) (ir<|cJ G a a.length)->Q .e I):aY (d+2) SF [.a l] H Q:=by
 revert b1 a6 w P D C b4 c2 b9 B y c6;revert b H R G A a d Q l S c f b5;ext@b@H@R@G@A@a@d@Q@l@S@c@f@b5 b1 a6 w P D C b4 c2 b9 B y c6;rw[bR BB 3 rfl rfl rfl rfl<|by decide];have b7:=w.za b4;have f7:=P.a.za a6;have e0:∀{I:J}{Q:au},bn (λj=>j=c\/j=f) H I->I[l]?=V (.e hA S)/\I[S]?=V (.c [(dd,.a A.a),(eE,b5),(dE,.a c),(eU,.a f)]):=λ{I}{Q}m=>by ext(B)e1 n _(@bp y)c4 g2 o _;exact⟨m.a _ _ D λe=>e.elim (aV D n<|by simp)<|aV D o<|by simp,m.a _ _ C λe=>e.elim (aV C n<|by simp)<|aV C o<|by simp⟩
 have d5:c≠f:=by ext(B)e1 n _(@bp y)c4 g2 o _;exact aV n o (by simp)
 simp[BB];rw[bE D C rfl rfl];try simp only[dH]
 rw[b7.zb];try simp only[qT,vo,vp,eZ,eY,ow,qX,fS,cg,cb,ce,cf,dH]
 rw[bE D C rfl rfl];try simp only[dH]
 rw[b7.zc];try simp only[oh,iY]
 simp[b7.b];refine bV (λk L I=>∃c5 K,L=[V<|.a l,V<|.a R.a,c5,K]/\bn (λj=>j=c\/j=f) H I/\b<+:I/\gK I c (cJ G a k)/\ch I f (cJ G a k) (ir<|cJ G a k)) (jw _ _ rfl .zf b4 B y) ?_ ?_
 .ext@k@x@L@I@e2 z f6 c3 i
  exact by
   ext(ss i)@c5@K m g q p
   exact by
    ext(_:cB c3)@s t i
    exact by
     subst i;have a1:=w.za g;have b2:=b1.za g;have a2:=a1.a k s t;have d4:=Dn P a6 t;have a4:=rv P t;have f3:=(bi.mp t).1;refine⟨a1.b,?_⟩;simp[a2.zd,a2.b,Dc];refine na (n:=G.za) (p:=(·∈s.a)) (by exact an 0 10 1 64 d4 rfl) (lL a4.1) (λx=>⟨λh=>⟨a4.2 x h,h⟩,λh=>h.2⟩) ?_;rw[<-oI a4.1 λx=>⟨λh=>⟨a4.2 x h,h⟩,λh=>h.2⟩];simp;generalize c0:I.length=g3;have f9:=(let⟨e1,n,_⟩:=q;bH n:c<I.length);have b8:=(let⟨c4,e4,n,_⟩:=p;bH n:f<I.length);refine bV (λu L T=>∃K,L=[V<|.a l,V<|.a R.a,V<|.a s.f,K]/\bn (λj=>j=c\/j=f) H T/\b<+:T/\T[g3]?=V (.a<|s.a.map Z)/\gK T c (cJ G a k++((s.a.take u).filter λX=>aP<|G.a<=X).map λX=>(k,X))/\ch T f (cJ G a k++((s.a.take u).filter λX=>aP<|G.a<=X).map λX=>(k,X)) (ir<|cJ G a k++((s.a.take u).filter λX=>aP<|G.a<=X).map λX=>(k,X))) (sm _ rfl (m.za<|.zc<|aB _ _) (g.trans<|aB _ _) (by subst c0;simp) (by simpa using q.za (aB _ _))<|by simpa using p.za (aB _ _)) ?_ ?_
     .clear q p m g a1 b2 a2;ext@u@x@L@c8@e2 z f6 c3 i
      exact by
       ext(Ft i)@K m g a3 q p
       exact by
        ext(_:cB c3)@X d0 i
        exact by
         subst i;have a1:=w.za g;have b2:=b1.za g;have a2:=a1.a k s t;refine⟨a3,?_⟩;have d3:(cJ G a k++((s.a.take u).filter λX=>aP<|G.a<=X).map λX=>(k,X)).length<=10000000:=by have n:=uo P a6 k;have o:=ht (λX=>aP<|G.a<=X)<|s.a.take u;have e5:=(fW u s.a).length_le;rw[hR,bC];exact Pm f7 d4 f3 n o e5
         have f8:(cJ G a k++((s.a.take<|u+1).filter λX=>aP<|G.a<=X).map λX=>(k,X))=(cJ G a k++((s.a.take u).filter λX=>aP<|G.a<=X).map λX=>(k,X))++(if G.a<=X then[(k,X)]else[]):=by rw[fX,d0,nD,iD,<-fY];congr 1;by_cases h:G.a<=X<;>simp[h]
         rw[f8]at z;simp[b2.zf,rm b2];by_cases b3:G.a<=X
         .have d6:(k,X)∉cJ G a k++((s.a.take u).filter λX=>aP<|G.a<=X).map λX=>(k,X):=by
           ext h;rcases bU.mp h with h|h;.have:=(iq.mp h).1;exact bB 1 0 this rfl
           .ext(_:bY.mp h)g4 f0 e;cases e;exact lM (lL a4.1) d0 (iF.mp f0).1
          rw[if_pos b3]at z;generalize(cJ G a k++((s.a.take u).filter λX=>aP<|G.a<=X).map λX=>(k,X))=b6 at*;have:aP (X<G.a)=aq:=by simp;exact b3
          rw[this];simp;ext(ac:e0 (Q:=Q) m)d2 d1(bd:id q)@c7 v E d8
          exact by
           rw[bE d2 d1 rfl rfl];try simp only[dy,dg,en,lH,CK]
           simp[v];rw[bE d2 d1 rfl rfl];try simp only[tJ,qW,dI,fS,cg,dG,cb,ce,cf,dH]
           rw[a2.zb];try simp only[dy,dI,cg,dG,cb,ce,cf,dg,en,tG,tI,mZ]
           simp;have a5:=aB c8 [aa.b [Z k,Z X]];rw[<-mZ];refine(p.za a5).zd (c:=k) (b:=X) cF d6 (by exact an 0 10000000 0 16777216 d3 rfl) ?_;ext@r e7 a8 g5
           exact by
            have e8:ch r f (b6++[(k,X)])<|ir<|b6++[(k,X)]:=e7.zc λd9 g=>by
             by_cases e:d9=(k,X);.subst e;rw[kO];unfold ir;rw[vq,if_neg d6];simp[E]
             .rw[fa e]
              have f5:d9∈b6:=by
               rcases bU.mp g with h|h;.exact h
               .simp at h;exact absurd h e
              unfold ir;rw[vq,if_pos f5]
            have c9:bn (λj=>j=c\/j=f) H r:=(m.za<|.zc a5).za<|a8.ze λj e=>.inr e;have d7:b<+:r:=a8.zb (g.trans a5) λj e=>by exact aj b9<|ar e
            have e9:=(q.za a5).zb a8 d5 (λj a7 e=>by delta j a7;intros _;exact by ext(bp:p.za a5)c4 e4 n _ o;rw[e,n]at o;cases o);have f4:=a8.a _ _ (aH a3) (by exact aL<|aj b8<|aw c0);ext(ac:e0 (Q:=Q) c9)f2 f1(bd:id e9)@c7 v E d8
            exact by
             have e6:=w.za d7;try simp
             rw[bE f2 f1 rfl rfl];try simp only[AU,CM,qW,dI,fS,cg,dG,cb,ce,cf,dH]
             simp[v];rw[(e6.a k s t).zb];try simp only[dy,dI,cg,dG,cb,ce,cf,dg,en,tG,AT,CN]
             simp[aH v];refine⟨by exact aA 0 0 0 10000000 0 16777215 (aw E) d3 rfl,?_⟩;have c1:=aB r [aa.b [Z k,Z X]];have a9:bn (·=c) (r++[aa.b [Z k,Z X]])<|(r++[aa.b [Z k,Z X]]).set c<|.a<|c7.map .a++[.a r.length]:=.zd rfl;have g0:=bH v;refine(z _ _<|sm _ rfl ((c9.za<|.zc c1).za<|a9.ze λj e=>.inl e) (a9.zb (d7.trans c1) λj e=>by exact aj c2<|ar e) (a9.a _ _ (aH f4)<|by exact aL<|aj f9<|aw c0) ?_ ?_).1
             .refine aT (c7++[r.length]) (by rw[cq<|aH v];simp) (by simp[E]) λg1 e3 x b0 a0=>?_;rcases ne.mp b0 with b0|⟨rfl,rfl⟩;.have b8:=(bi.mp b0).1;rw[gQ<|by exact aj b8<|aw E]at a0;have:=d8 g1 e3 x b0 a0;exact aX (aH this)<|aV v this (by simp)
              .rw[ev<|by exact ar E,E]at a0;simp at a0;subst a0;exact aX cF (by exact bh g0)
             .exact(e8.za c1).zb a9 d5.symm (λj a7 e o=>by delta j a7;intros _;rw[e,aH v]at o;cases o)
         .rw[if_neg b3,vk]at z;have:aP (X<G.a)=M:=by simp;exact aax b3
          rw[this];simp;exact(z _ _<|sm _ rfl m g a3 q p).1
     .ext L c8 i(Ft i)K m g a3 q p;refine⟨a3,(z _ _<|jw _ _ rfl m g ?_ ?_).1⟩;.rw[Ll t];simpa using q
      .rw[Ll t];simpa using p
 .ext L I i(ss i)c5 K m g q p;refine⟨(w.za g).b,?_⟩;simp at q p;try simp
  exact c6 _ m g q p
end
section
variable{b H I:J}{R:cC}{G:ap}{A:gi}{a:List aJ}{d:Nat}{Q:au}
def it(G:ap)(b:List<|Nat×Nat)(g:Nat)(c:List Nat):List Nat:=(c.filter λa=>aP (G.a<=a)&&dh (bN G a)).map λa=>b.idxOf (g,a)
def hL(G:ap)(a:List aJ)(b:List<|Nat×Nat)(x:Nat×Nat):List Nat:=match hl a x.1 x.2 with|V g=>(match a[g]? with|V c=>it G b g c.a|U=>[])|U=>[]
def iu(G:ap)(a:List aJ)(x:Nat×Nat):Nat:=dz G.a<|Lg G a x
noncomputable def ci(L:List<|Nat×Nat)(i:Nat):Nat×Nat:=L.getD i (0,0)
theorem I4(b:bJ G a){x:Nat×Nat}(h:hK G a x):∃(s e:aJ),a[x.1]?=V s/\x.2∈s.a/\hl a x.1 x.2=V (s.c x.2)/\a[s.c x.2]?=V e:=by delta G a x at b h;ext(@ac h)f w(f)s d c(_:(b.b _ s d).d _ c)e g w;exact eD s e d c (rs d c) g
theorem I5(c9:bm b R G)(b1:G.zf)(c7:er b R A a)(a0:bJ G a){a5 b0 S a9 P g k:Nat}{c:List<|Nat×Nat}(b4:c=cJ G a a.length)(a4:H[a5]?=V (.e hA b0))(a3:H[b0]?=V (.c [(dd,.a A.a),(eE,.a P),(dE,.a S),(eU,.a a9),(gU,.a g),(hx,.a k)]))(d5:b<+:H)(d8:b.length<=g)(e2:b.length<=k)(e1:H[P]?=V (.a<|az G.za λs=>.d<|dh<|bN G s))(y:P≠g/\P≠k/\S≠g/\S≠k/\g≠k)(d0:gK H S c)(b3:ch H a9 c<|ir c)(E:H[g]?=V (.a []))(K:H[k]?=V (.a []))(f3:∀(I:J)(v:Nat->Nat),bn (λj=>j=g\/j=k) H I->I[g]?=V (.a<|az c.length λi=>Z<|iu G a<|ci c i)->I[k]?=V (.a<|az c.length λi=>.a<|v i)->(∀i,i<c.length->I[v i]?=V (.a<|(hL G a c<|ci c i).map Z))->Q .e I):aY (d+3) SG [.a a5] H Q:=by
 revert c9 b1 c7 a0 b4 a4 a3 d5 d8 e2 e1 y d0 b3 E K f3;revert b H R G A a d Q a5 b0 S a9 P g k c;ext@b@H@R@G@A@a@d@Q@a5@b0@S@a9@P@g@k@c c9 b1 c7 a0 b4 a4 a3 d5 d8 e2 e1 y d0 b3 E K f3;rw[bR BC 8 rfl rfl rfl rfl<|by decide];have i4:=c7.za d5;have k5:=a0.a.za b1;have g0:c.length<=10000000:=by have:=uo a0 b1 a.length;rw[b4];exact Gn k5 this
 have d7:∀{I:J},bn (λj=>j=g\/j=k) H I->I[a5]?=V (.e hA b0)/\I[b0]?=V (.c [(dd,.a A.a),(eE,.a P),(dE,.a S),(eU,.a a9),(gU,.a g),(hx,.a k)])/\b<+:I/\I[P]?=V (.a<|az G.za λs=>.d<|dh<|bN G s)/\gK I S c/\ch I a9 c (ir c):=λ{I}r=>(vw (r.a _ _ a4 λe=>e.elim (aV a4 E<|by simp)<|aV a4 K<|by simp) (r.a _ _ a3 λe=>e.elim (aV a3 E<|by simp)<|aV a3 K<|by simp) (r.zb d5 λj e=>e.elim (λe=>by exact aj d8<|ar e) λe=>by exact aj e2<|ar e) (r.a _ _ e1 λe=>e.elim y.1 y.2.1) (d0.zb r (λe=>e.elim y.2.2.1 y.2.2.2.1) (λj c2 e h=>by
  delta j c2;intros _
  exact by
   rcases e with e|e;.rw[e,E]at h;cases h
   .rw[e,K]at h;cases h)) (b3.zb r (λe=>by
  ext(@bp b3)@m0@l1 n _
  exact by
   rcases e with e|e;.rw[e,E]at n;cases n
   .rw[e,K]at n;cases n) (λj c2 e h=>by
  delta j c2;intros _
  exact by
   rcases e with e|e;.rw[e,E]at h;cases h
   .rw[e,K]at h;cases h)));ext(bd:id d0)@l0 e4 h8 e5
 exact by
  simp[BC];rw[bE a4 a3 rfl rfl];try simp only[dH]
  rw[i4.zb];try simp only[qT,vo,vp,eZ,eY,JU,qX,cg,cb,ce,cf,dH]
  rw[bE a4 a3 rfl rfl];try simp only[oh,iY]
  simp[e4];refine bV (λi a7 I=>∃e7 e8 e9 f0 f1 f2 a6 v,a7=[V<|.a a5,V<|.a R.a,e7,e8,e9,f0,f1,f2,a6]/\i<=c.length/\bn (λj=>j=g\/j=k) H I/\I[g]?=V (.a<|az i λi=>Z<|iu G a<|ci c i)/\I[k]?=V (.a<|az i λi=>.a<|v i)/\(∀j,j<i->I[v j]?=V (.a<|(hL G a c<|ci c j).map Z)/\v j≠g/\v j≠k)) (Nn _ _ _ _ _ _ _ ⟨λ_=>0,rfl,by exact fH,.zf,by simpa[az]using E,by simpa[az]using K,λ_ h=>absurd h<|dW _⟩) ?_ ?_
  .ext@i@c1@a7@I@i2 D j7 e6 f
   exact by
    ext(FN f)@e7@e8@e9@f0@f1@f2@a6@v d9 r b5 b8 d6
    exact by
     ext(_:cB e6)@c3 d1 f
     exact by
      subst f;have g7:i<c.length:=by have:=(bi.mp d1).1;exact aj this<|aw h8
      obtain⟨f4,c0⟩:∃f4,c[i]?=V f4:=⟨_,cu g7⟩;obtain⟨p,X⟩:=f4;delta p X;intros _
      exact by
       have k8:hK G a (p,X):=by have:=bs c0;rw[b4]at this;exact(iq.mp this).2
       ext(co:I4 a0 k8)@s@o h7 g8 d3 C
       exact by
        simp only at h7 g8 d3 C;ext(vu:d7 r)g6 g3 h2 l4 i6 l3(bd:id i6)m2 l7 l8 l9;have c8:=c7.za h2;have l2:=c9.za h2;have i5:=c8.a _ o C;have k7:I[c3]?=V (.b [Z p,Z X]):=by have:=r.a _ _ (e5 i c3 (p,X) d1 c0) λe=>e.elim (aV (e5 i c3 (p,X) d1 c0) E<|by simp)<|aV (e5 i c3 (p,X) d1 c0) K (by simp);exact this
        refine⟨r.a _ _ e4 λe=>e.elim y.2.2.1 y.2.2.2.1,?_⟩;simp[k7];rw[bE g6 g3 rfl rfl];try simp only[ol]
        rw[c8.zd];try simp only[kJ,dI,cg,dG,cb,ce,cf,dy,dg,en,kI]
        simp[Lk c8 h7,ru,g8];generalize B:I.length=x at*;have h4:=aB I [aa.a []];have f6:=c8.za h4;have f9:=i5.za h4;rw[bE (aH g6) (aH g3) rfl rfl];try simp only[dH]
        rw[f6.zc];try simp only[qP,cg,dG,cb,ce,cf,qO,tW]
        have b7:=rv a0 C;have h0:=Dn a0 b1 C;simp[f6.b,C,f9.zd,f9.b,Dc];refine na (n:=G.za) (p:=(·∈o.a)) (by exact an 0 10 1 64 h0 rfl) (lL b7.1) (λc1=>⟨λh=>⟨b7.2 c1 h,h⟩,λh=>h.2⟩) ?_;rw[<-oI b7.1 λc1=>⟨λh=>⟨b7.2 c1 h,h⟩,λh=>h.2⟩];have j1:=bH b5;have k0:=bH b8;simp;refine bV (λu a7 w=>∃a6 m,a7=[V<|.a a5,V<|.a R.a,V<|Z p,V<|Z X,V<|Z<|s.c X,V<|Z m,V<|.a x,V<|.a o.e,a6]/\bn (λj=>j=x) (I++[aa.a [],aa.a<|o.a.map Z]) w/\w[x]?=V (.a<|(it G c (s.c X)<|o.a.take u).map Z)/\∀t,m.testBit t=M↔t<G.a/\t∈o.a.take u) (eD _ 0 rfl .zf (by subst B;simp[it])<|by simp) ?_ ?_
        .ext@u@c1@a7@w@i2 D j7 e6 f
         exact by
          ext(kt f)@a6@m z L b6
          exact by
           ext(_:cB e6)@q a1 f
           exact by
            subst f;have g1:=bs a1;have g2:=b7.2 q g1;have c6:bn (λj=>j=g\/j=k) H w:=(r.za<|.zc<|aB I [aa.a [],aa.a<|o.a.map Z]).zg z λj e=>.inr (by have:=r.b;exact aj (aj this<|aw B)<|ar e);ext(vu:d7 c6)d4 d2 h3 h1 i7 f8;have f7:=c9.za h3;have l6:x<w.length:=bH L;have e3:w[x+1]?=V (.a<|o.a.map Z):=z.a _ _ (by subst B;simp) (by exact aL<|aO _);refine⟨by subst B;exact e3,?_⟩;have k3:(it G c (s.c X)<|o.a.take u).length<=10:=by unfold it;rw[bC];have:=ht (λq=>aP (G.a<=q)&&dh (bN G q))<|o.a.take u;have:=(fW u o.a).length_le;exact Pp h0 (by assumption) this
            have k4:it G c (s.c X) (o.a.take<|u+1)=it G c (s.c X) (o.a.take u)++(if(aP (G.a<=q)&&dh (bN G q))=M then[c.idxOf (s.c X,q)]else[]):=by unfold it;rw[fX,a1,nD,iD];congr 1;cases i8:(aP (G.a<=q)&&dh (bN G q))<;>simp only[EQ,List.filter_cons,i8,List.filter_nil,if_true,fi,if_false,ER,dm]
            rw[k4]at D;simp[f7.zf,rm f7];by_cases a2:q<G.a
            .rw[if_neg<|by simp;exactλh=>absurd a2<|kc.mpr h,vk]at D;have:aP (q<G.a)=M:=by simp[a2]
             rw[this];simp;refine⟨by have:=b1.b;exact Gd g2 this,(D _ _<|eD _ _ rfl z L λt=>?_).1⟩;rw[CY,b6];constructor
             .rintro(⟨n,l⟩|rfl);.exact⟨n,(dA a1).mpr<|.inl l⟩
              .exact⟨a2,(dA a1).mpr<|.inr rfl⟩
             .ext f(@ac f)n l;rcases(dA a1).mp l with l|rfl;.exact .inl ⟨n,l⟩
              .exact .inr rfl
            .have g9:∀t,m.testBit t=M↔t<G.a/\t∈o.a.take (u+1):=λt=>by
              rw[b6];constructor;.ext f(@ac f)n l;exact⟨n,(dA a1).mpr<|.inl l⟩
              .ext f(@ac f)n l;rcases(dA a1).mp l with l|rfl;.exact⟨n,l⟩
               .exact absurd n a2
             have:aP (q<G.a)=aq:=by simp[a2]
             rw[this];simp;rw[bE d4 d2 rfl rfl];try simp only[qP,cg,dG,cb,ce,cf,qO,tW]
             simp[h1,cc g2];refine cE (λa8=>?_) λa8=>?_
             .have j6:=ja.mp a8;rw[if_pos<|by rw[a8];simp;exact dM a2]at D;simp[L];rw[bE d4 d2 rfl rfl];try simp only[qP,qW,dI,cg,dG,cb,ce,cf,dy,dg,en,tG,qO,tX]
              simp;have h5:=aB w [aa.b [Z<|s.c X,Z q]];have j4:(s.c X,q)∈c:=by rw[b4];exact iq.mpr<|aI ((bi.mp C).1) (ad o C g1) (by show G.a<=q;exact dM a2)
              rw[<-tX];refine(f8.za h5).ze (c:=s.c X) (b:=q) cF j4 ?_;simp[aH L,ir];refine⟨by exact an 0 10 0 16777215 k3 rfl,(D _ _<|eD _ m rfl ((z.za<|.zc h5).za<|.zd rfl) ?_ g9).1⟩;rw[cq<|aH L];simp
             .have j6:¬bN G q:=λh=>by rw[ja.mpr h]at a8;cases a8
              rw[if_neg<|by rw[a8];simp,vk]at D;exact(D _ _<|eD _ m rfl z L g9).1
        .ext@a7@w f
         exact by
          ext(kt f)@a6@m z L b6
          exact by
           simp only[bC,fj]at L b6;have c6:bn (λj=>j=g\/j=k) H w:=(r.za<|.zc<|aB I [aa.a [],aa.a<|o.a.map Z]).zg z λj e=>.inr (by have:=r.b;exact aj (aj this<|aw B)<|ar e);ext(vu:d7 c6)d4 d2 h3 h1 i7 f8;have e3:w[x+1]?=V (.a<|o.a.map Z):=z.a _ _ (by subst B;simp) (by exact aL<|aO _);refine⟨by subst B;exact e3,?_⟩;have b9:x≠g/\x≠k:=⟨by exact aL<|aj j1<|aw B,by exact aL<|aj k0<|aw B⟩;have g4:=z.a _ _ (iO b5) b9.1.symm;have k1:=z.a _ _ (iO b8) b9.2.symm;simp;rw[bE d4 d2 rfl rfl];try simp only[AU,CM,cg,dG,cb,ce,cf,AT,CN]
           simp[g4];refine⟨by exact aA 0 0 0 10000000 0 16777215 d9 g0 rfl,?_⟩;have c4:bn (·=g) w<|w.set g<|.a<|az i (λi=>Z<|iu G a<|ci c i)++[Z m]:=.zd rfl;have j0:(w.set g<|.a<|az i (λi=>Z<|iu G a<|ci c i)++[Z m])[g]?=V (.a<|az i (λi=>Z<|iu G a<|ci c i)++[Z m]):=cq g4;generalize w.set g (.a<|az i (λi=>Z<|iu G a<|ci c i)++[Z m])=b2 at*;have f5:bn (λj=>j=g\/j=k) H b2:=c6.za<|c4.ze λj e=>.inl e;ext(ei:d7 f5)j3 i9 l5 _;rw[bE j3 i9 rfl rfl];try simp only[AU,CM,cg,dG,cb,ce,cf,AT,CN]
           have h6:=c4.a _ _ k1 y.2.2.2.2.symm;simp[h6];refine⟨by exact aA 0 0 0 10000000 0 16777215 d9 g0 rfl,?_⟩;have c5:bn (·=k) b2<|b2.set k<|.a<|az i (λi=>O.a<|v i)++[.a x]:=.zd rfl;have j8:(b2.set k<|.a<|az i (λi=>O.a<|v i)++[.a x])[k]?=V (.a<|az i (λi=>O.a<|v i)++[.a x]):=cq h6;generalize b2.set k (.a<|az i (λi=>O.a<|v i)++[.a x])=i1 at*
           have j2:m=iu G a (p,X):=oE λt=>by
            delta t;intros _
            exact by
             rw[b6];constructor;.ext f(@ac f)n l;exact⟨n,aT (s.c X) d3 (ad o C l) n⟩
             .ext f(@ac f)n h9(@bd h9)@k9 l i0 _;exact by ext(i0)@m1 T i3;exact by have l:hl a p X=V k9:=l;rw[d3]at l;have l:=bj l;subst l;rw[C]at T;have T:=bj T;subst T;exact⟨n,i3⟩
           have g5:ci c i=(p,X):=by unfold ci;rw[rW,c0];rfl
           have k2:i1[x]?=V (.a<|(it G c (s.c X) o.a).map Z):=c5.a _ _ (c4.a _ _ L b9.1) b9.2;have j9:hL G a c (p,X)=it G c (s.c X) o.a:=by unfold hL;rw[d3];simp only[C]
           refine(D _ _<|Np _ _ _ _ _ _ _ (bb v i x) rfl (by exact g7) (f5.za<|c5.ze λj e=>.inr e) ?_ ?_ λj e0=>?_).1;.rw[c5.a _ _ j0 y.2.2.2.2,<-iX,g5,j2]
           .rw[j8,<-iX,bx];congr 3;apply hg;ext t k6;rw[bc<|by exact bh k6]
           .by_cases e:j=i;.have e:=e.symm;subst e;rw[bx,g5,j9];exact⟨k2,b9⟩
            .rw[bc e];ext(bD:d6 j (by exact cO e0 e))n l T;have j5:=bH n;exact aI (c5.a _ _ (c4.a _ _ (z.a _ _ (iO n)<|by exact bh<|aj j5<|aw B) l) T) l T
  .ext a7 I f(FN f)e7 e8 e9 f0 f1 f2 a6 v d9 r b5 b8 d6;refine⟨r.a _ _ e4 λe=>e.elim y.2.2.1 y.2.2.2.1,?_⟩;have e:(l0.map O.a).length=c.length:=by simp[h8]
   rw[e]at b5 b8 d6;try simp
   exact f3 _ v r b5 b8 λj e0=>(d6 j e0).1
end
noncomputable def jV(l:List Nat)(n:Nat):List Nat:=if n∈l then l else l++[n]
theorem Do{l:List Nat}{n x:Nat}:x∈jV l n↔x∈l\/x=n:=by
 unfold jV;split;.rename_i h;exact⟨.inl,λa=>a.elim id λe=>e▸h⟩
 .simp
theorem I6{l:List Nat}{n:Nat}(h:l.Nodup):(jV l n).Nodup:=by
 unfold jV;split;.exact h
 .rename_i f;rw[ff];exact aI h (by simp) (λa d b c e=>by simp at c;subst c;subst e;exact f d)
section
variable{H I:J}{G:ap}{d:Nat}{Q:au}
theorem Dp{r n:Nat}{l:List Nat}(h:H[r]?=V (.a<|l.map Z))(b:l.length<=16777215)(q:∀I,bn (·=r) H I->I[r]?=V (.a<|(jV l n).map Z)->Q .e I):aY (d+1) mu [.a r,Z n] H Q:=by
 rw[bR BG 0 rfl rfl rfl rfl<|by decide];simp[BG,h];by_cases a:n∈l;.simp[a];exact q _ .zf (by rw[h];simp[jV,a])
 .simp[a,h,b];exact q _ (.zd rfl) (by rw[cq h];simp[jV,a])
theorem I7{l j k f:Nat}{b:List Nat}{g:List<|Nat×O}(x:H[l]?=V (.e hA j))(v:H[j]?=V (.c g))(w:g.lookup eE=V (.a k))(A:H[k]?=V (.a<|az G.za λs=>.d<|dh<|bN G s))(p:H[f]?=V (.b<|b.map Z))(B:∀s∈b,s<G.za)(q:∀e:Nat,(∀a,e<=a↔∀u∈b.drop (a+1),bN G u)->Q (Z e) H):aY (d+1) SI [.a l,.a f] H Q:=by
 delta H G d Q l j k f b g;ext x v w A p B q;rw[bR BE 1 rfl rfl rfl rfl<|by decide];simp[BE,p];refine iZ (λn K I=>∃s,K=[V<|.a l,V<|.a f,V<|Z s]/\I=H/\s<=b.length/\(∀u∈b.drop s,bN G u)/\n=s) (hv b.length rfl rfl (aO _) (by simp) rfl) ?_;ext@n@K@I E
 exact by
  ext(pM E)s T C z X;subst T;subst X;ext@a0 L a2
  exact by
   have m:(∀a,n<=a+1↔∀u∈b.drop (a+1),bN G u)->Q (.b<|if(n:Int)-1<0 then 0 else(n:Int)-1) I:=λh=>by
    have:=q (n-1) λa=>by rw[<-h];exact Pq
    have e:(if(n:Int)-1<0 then 0 else(n:Int)-1)=((n-1:Nat):Int):=NC n;rw[e];exact this
   have D:∀a,n<=a+1->∀u∈b.drop (a+1),bN G u:=λa h u c=>z u (by
    have:b.drop (a+1)=(b.drop n).drop (a+1-n):=by rw[List.drop_drop];congr 1;exact Pr h
    rw[this]at c;exact aaA c)
   cases n with
   |zero=>simp;simp at m;exact m (λa=>by simpa using D a (by exact Ps))
   |succ n=>
    delta n;intros _
    exact by
     have y:n<b.length:=by exact C
     have a1:((n+1:Nat):Int)-1=(n:Nat):=by exact vP
     have r:b[n]?=V b[n]:=cu y;have S:=B _<|bs r;simp;rw[bE x v rfl w];simp[A,p,r,cc S];by_cases i:bN G b[n]
     .have R:dh (bN G b[n])=M:=ja.mpr i;rw[R];simp;refine(L n _ _ (by exact aO _)<|hv n rfl rfl (by exact an 1 0 0 0 C rfl) (λu c=>?_) rfl).1;rw[mf y]at c;rcases bM.mp c with rfl|c;.exact i
      .exact z u c
     .have P:dh (bN G b[n])=aq:=rn (by simp[i]);rw[P];simp
      have:=m λa=>⟨D a,λh=>by
       rcases nt a n with o|o;.exfalso;refine i<|h _ ?_;refine bs (i:=n-(a+1)) ?_;rw[aaz,show a+1+(n-(a+1))=n by exact Pt o];exact r
       .exact an 0 0 1 1 o rfl⟩;have t:¬((n:Int)<0):=by exact pP
      rw[if_neg t];simpa[t]using this
end
set_option genSizeOf false
set_option genInjectivity false
structure jc where
 c:Nat
 j:Nat
 f:Nat
 g:Nat
 k:Nat
 l:Nat
 m:Nat
 h:Nat
 i:Nat
 a:Nat
 d:Nat->Nat
 e:Nat->Nat
 b:Nat×Nat->Nat
instance:Nonempty jc:=⟨by constructor<;>exact cU⟩
def jc.za(L:jc)(A:gi):List<|Nat×O:=[(dd,.a A.a),(eE,.a L.f),(dE,.a L.g),(eU,.a L.k),(gU,.a L.l),(hx,.a L.m),(iI,.a L.h),(ku,.a L.i),(hy,.a L.a)]
def jc.zb(L:jc)(n:Nat)(a:List<|Nat×Nat)(j:Nat):Prop:=(∃i,i<n/\j=L.d i)\/(∃i,i<n/\j=L.e i)\/(∃p,p∈a/\j=L.b p)
structure kP(k:J)(L:jc)(n:Nat)(h:List<|Nat×Nat):Prop where
 a:∀j,L.zb n h j->k.length<=j/\j≠L.h/\j≠L.i/\j≠L.f/\j≠L.g
 c:∀i j,i<n->j<n->L.d i=L.d j->i=j
 d:∀i j,i<n->j<n->L.e i=L.e j->i=j
 g:∀p q,p∈h->q∈h->L.b p=L.b q->p=q
 b:∀i j,i<n->j<n->L.d i≠L.e j
 e:∀i p,i<n->p∈h->L.d i≠L.b p
 f:∀i p,i<n->p∈h->L.e i≠L.b p
structure dc(q H:J)(G:ap)(A:gi)(L:jc)(n o:List<|Nat×Nat)(r u:Nat->List Nat)(t:Nat×Nat->List Nat):Prop where
 a:q<+:H
 b:H[L.c]?=V (.e hA L.j)
 c:H[L.j]?=V (.c<|L.za A)
 j:H[L.f]?=V (.a<|az G.za λs=>.d<|dh<|bN G s)
 f:gK H L.g n
 l:ch H L.k n<|ir n
 g:H[L.h]?=V (.a<|az n.length λm=>.a<|L.d m)
 k:H[L.i]?=V (.a<|az n.length λm=>.a<|L.e m)
 h:ch H L.a o λp=>.a<|L.b p
 d:∀m,m<n.length->H[L.d m]?=V (.a<|(r m).map Z)
 e:∀m,m<n.length->H[L.e m]?=V (.a<|(u m).map Z)
 i:∀p,p∈o->H[L.b p]?=V (.a<|(t p).map Z)
section
variable{c H I:J}{G:ap}{A:gi}{L:jc}{a b:List<|Nat×Nat}{d f:Nat->List Nat}{e:Nat×Nat->List Nat}
theorem dc.za(h:dc c H G A L a b d f e){j:Nat}(k:L.zb a.length b j):∃m,H[j]?=V (.a m):=by
 rcases k with⟨i,g,rfl⟩|⟨i,g,rfl⟩|⟨p,l,rfl⟩;.exact⟨_,h.d i g⟩
 .exact⟨_,h.e i g⟩
 .exact⟨_,h.i p l⟩
theorem dc.zc(h:dc c H G A L a b d f e)(q:kP c L a.length b)(m:bn (L.zb a.length b) H I){r t:Nat->List Nat}{s:Nat×Nat->List Nat}(w:∀i,i<a.length->I[L.d i]?=V (.a<|(r i).map Z))(y:∀i,i<a.length->I[L.e i]?=V (.a<|(t i).map Z))(x:∀p,p∈b->I[L.b p]?=V (.a<|(s p).map Z)):dc c I G A L a b r t s where
 a:=m.zb h.a λj g=>(q.a j g).1;b:=m.a _ _ h.b λg=>by ext(aD:h.za g)o k;rw[h.b]at k;cases k
 c:=m.a _ _ h.c λg=>by ext(aD:h.za g)o k;rw[h.c]at k;cases k
 j:=m.a _ _ h.j λg=>(q.a _ g).2.2.2.1 rfl;f:=h.f.zb m (λg=>(q.a _ g).2.2.2.2 rfl) λj u g l=>by ext(aD:h.za g)o k;rw[k]at l;cases l
 l:=h.l.zb m (λg=>by ext(aD:h.za g)o k(bp:h.l)n v l z;rw[k]at l;cases l) λj u g l=>by ext(aD:h.za g)o k;rw[k]at l;cases l
 g:=m.a _ _ h.g λg=>(q.a _ g).2.1 rfl;k:=m.a _ _ h.k λg=>(q.a _ g).2.2.1 rfl;h:=h.h.zb m (λg=>by ext(aD:h.za g)o k(bp:h.h)n v l z;rw[k]at l;cases l) λj u g l=>by ext(aD:h.za g)o k;rw[k]at l;cases l
 d:=w;e:=y;i:=x
theorem dc.zd(h:dc c H G A L a b d f e)(p:H<+:I):dc c I G A L a b d f e where a:=h.a.trans p;b:=ay p h.b;c:=ay p h.c;j:=ay p h.j;f:=h.f.za p;l:=h.l.za p;g:=ay p h.g;k:=ay p h.k;h:=h.h.za p;d:=λi g=>ay p<|h.d i g;e:=λi g=>ay p<|h.e i g;i:=λq j=>ay p<|h.i q j
theorem dc.ze(h:dc c H G A L a b d f e)(q:kP c L a.length b){i:Nat}{l:List Nat}(o:i<a.length)(n:bn (·=L.d i) H I)(s:I[L.d i]?=V (.a<|l.map Z)):dc c I G A L a b (bb d i l) f e:=h.zc q (n.ze λj g=>.inl<|ad i o g) (λj m=>by
 by_cases g:j=i;.have g:=g.symm;subst g;rw[bx];exact s
 .rw[bc g];exact n.a _ _ (h.d j m) λk=>g<|q.c j i m o k) (λj m=>n.a _ _ (h.e j m) λk=>q.b i j o m k.symm) λp r=>n.a _ _ (h.i p r) λk=>q.e i p o r k.symm
theorem dc.zf(h:dc c H G A L a b d f e)(q:kP c L a.length b){i:Nat}{l:List Nat}(o:i<a.length)(n:bn (·=L.e i) H I)(s:I[L.e i]?=V (.a<|l.map Z)):dc c I G A L a b d (bb f i l) e:=h.zc q (n.ze λj g=>.inr<|.inl<|ad i o g) (λj m=>n.a _ _ (h.d j m) λk=>q.b j i m o k) (λj m=>by
 by_cases g:j=i;.have g:=g.symm;subst g;rw[bx];exact s
 .rw[bc g];exact n.a _ _ (h.e j m) λk=>g<|q.d j i m o k) λp r=>n.a _ _ (h.i p r) λk=>q.f i p o r k.symm
theorem dc.zg(h:dc c H G A L a b d f e)(o:kP c L a.length b){p:Nat×Nat}{l:List Nat}(n:p∈b)(m:bn (·=L.b p) H I)(s:I[L.b p]?=V (.a<|l.map Z)):dc c I G A L a b d f<|jS e p l:=h.zc o (m.ze λj g=>.inr<|.inr<|ad p n g) (λj k=>m.a _ _ (h.d j k) λi=>o.e j p k n i) (λj k=>m.a _ _ (h.e j k) λi=>o.f j p k n i) λq r=>by
 by_cases g:q=p;.have g:=g.symm;subst g;rw[kO];exact s
 .rw[fa g];exact m.a _ _ (h.i q r) λi=>g<|o.g q p r n i
end
def eO(n:Nat)(l:List Nat):Prop:=l.Nodup/\∀j∈l,j<n
theorem eO.za{n x:Nat}{l:List Nat}(h:eO n l)(b:x<n):eO n<|jV l x:=⟨I6 h.1,λj a=>(Do.mp a).elim (h.2 j) λe=>e▸b⟩
theorem eO.zb{n:Nat}{l:List Nat}(h:eO n l):l.length<=n:=fu h.1 h.2
def jd(G:ap)(d:List aJ)(c:List<|Nat×Nat)(j k b i:Nat):Prop:=∃q a,dZ d (ci c j).1 ((G.b k).take b)=V q/\(G.b k)[b]?=V a/\G.a<=a/\(∀u∈(G.b k).drop (b+1),bN G u)/\i=c.idxOf (q,a)
def rw(G:ap)(b:List aJ)(a:List<|Nat×Nat)(j k:Nat)(p:Nat×Nat):Prop:=p.2=k/\dZ b (ci a j).1 (G.b k)=V p.1
def Dq:aW:=.d 3 (.s<|.j .a<|.c (.e (.b 0) dE)<|.d)<|.b (.l 5 6<|.g (.e (.b 0) dE)<|.b 3)<|.d 4 (.m (.b 1) sC<|.c (.b 6)<|.d)<|.b (.c 7<|.e (.g (.e (.b 1) dO)<|.b 4) el)<|.b (.c 8<|.m (.b 0) GK<|.c (.b 7)<|.d)<|.b (.c 9<|.b 5)<|.b (.d 10 (.s<|.j .a<|.c (.b 7)<|.d)<|.b (.c 11<|.g (.b 7)<|.b 10)<|.b (.g (.u (.i .GtE (.b 10)<|.b 8)<|.z<|.m (.b 1) mq<|.c (.b 11)<|.d) (.b (.c 12<|.g (.e (.b 0) eU)<|.n<|.c (.b 9)<|.c (.b 11)<|.d)<|.b (.i<|.l mu<|.c (.g (.e (.b 0) iI)<|.b 12)<|.c (.b 3)<|.d)<|.g (.i .Eq (.b 10)<|.f 0) (.i<|.l mu<|.c (.g (.e (.b 0) ku)<|.b 12)<|.c (.b 3)<|.d)<|.f)<|.f)<|.c 9<|.m (.e (.b 0) dd) lh<|.c (.b 9)<|.c (.b 11)<|.d)<|.i<|.l mu<|.c (.g (.e (.b 0) hy)<|.n<|.c (.b 9)<|.c (.b 4)<|.d)<|.c (.b 3)<|.d
section
variable{g H I:J}{R:cC}{G:ap}{A:gi}{b:List aJ}{L:jc}{a c:List<|Nat×Nat}{e h:Nat->List Nat}{f:Nat×Nat->List Nat}{d:Nat}
theorem dc.zb(d:dc g H G A L a c e h f){b:Nat}{x:O}{Q:au}(i:(L.za A).lookup b=V x)(j:eT hA b=U):cS (.a L.c) b H Q=Q x H:=bE d.b d.c j i
theorem dc.zh(d:dc g H G A L a c e h f){m b:Nat}{Q:Nat->Prop}(i:(L.za A).lookup m=U)(j:eT hA m=V b):dR (.a L.c) m H Q=Q b:=hh d.b d.c j i
theorem I8(d5:bm g R G)(d3:gj G)(h0:er g R A b)(a3:bJ G b)(e0:a=cJ G b b.length)(h4:c=bI b b.length)(e3:kP g L a.length c)(d8:dc g H G A L a c (λ_=>[]) (λ_=>[]) λ_=>[]){b7 b8 S b9 c0 T X a0 y z u:Option O}{e9:aS}(c1:∀P I e h f,dc g I G A L a c e h f->(∀i,i<a.length->eO a.length (e i))->(∀p∈c,eO a.length<|f p)->(∀i j,i<a.length->(j∈e i↔j<a.length/\∃k∈G.zj (ci a j).2,∃w,jd G b a j k w i))->(∀p j,p∈c->(j∈f p↔j<a.length/\∃k∈G.zj (ci a j).2,rw G b a j k p))->e9 .a P I):cA (aY<|d+3) Dq [V<|.a L.c,V<|.a R.a,b7,b8,S,b9,c0,T,X,a0,y,z,u] H e9:=by
 revert d5 d3 h0 a3 e0 h4 e3 d8 c1;revert g H R G A b L a c d b7 b8 S b9 c0 T X a0 y z u e9;ext@g@H@R@G@A@b@L@a@c@d@b7@b8@S@b9@c0@T@X@a0@y@z@u@e9 d5 d3 h0 a3 e0 h4 e3 d8 c1;have c2:=d3.a;have n3:=a3.a.za c2;have m2:=c2.a;have f4:a.length<=10000000:=by have:=uo a3 c2 b.length;rw[e0];exact Gn n3 this
 ext(bd:id d8.f)p3 n4 n6 _;simp[Dq];rw[d8.zb rfl rfl];simp[n4,jM,n6];refine⟨by exact an 0 10000000 0 16777216 f4 rfl,?_⟩;refine bV (λx P I=>∃b8 S b9 c0 T X a0 y z u e h f,P=[V<|.a L.c,V<|.a R.a,b7,b8,S,b9,c0,T,X,a0,y,z,u]/\dc g I G A L a c e h f/\(∀i,i<a.length->eO a.length (e i))/\(∀i,i<a.length->eO a.length (h i))/\(∀p∈c,eO a.length<|f p)/\(∀i j,i<a.length->(j∈e i↔j<x/\∃k∈G.zj (ci a j).2,∃w,jd G b a j k w i))/\(∀p j,p∈c->(j∈f p↔j<x/\∃k∈G.zj (ci a j).2,rw G b a j k p))) (Fc _ _ _ _ _ _ _ _ _ _ _ _ _ rfl d8 (λ_ _=>⟨by simp,by simp⟩) (λ_ _=>⟨by simp,by simp⟩) (λ_ _=>⟨by simp,by simp⟩) (by simp)<|by simp) ?_ ?_
 .ext@x@v@P@I@o5 l5 o8 o2 n
  exact by
   ext(Fr n)@b8@S@b9@c0@T@X@a0@y@z@u@e@h@f b3 g6 i8 g8 f7 g0
   exact by
    ext(ac:jN o2)e4 n-;obtain⟨i0,h7⟩:∃i0,a[x]?=V i0:=⟨_,cu e4⟩;obtain⟨K,B⟩:=i0;delta K B;intros _
    exact by
     have b0:ci a x=(K,B):=by unfold ci;rw[rW,h7];rfl
     have j9:hK G b (K,B):=by have:=bs h7;rw[e0]at this;exact(iq.mp this).2
     ext(ac:id j9)n l0(n)p2 h6 h5;simp only at h6 h5 l0;have l1:=(rv a3 h6).2 B h5;ext(bd:id b3.f)o4 n5 n7 n8;obtain⟨g5,j2⟩:∃g5,o4[x]?=V g5:=⟨_,cu<|by exact aj e4<|ar n7⟩;have n9:=n8 x g5 (K,B) j2 h7;have j1:=d5.za b3.a;refine⟨trivial,?_⟩;simp;rw[b3.zb rfl rfl];simp[n5,j2,n9,j1.zo,KM j1 l1<|show G.c<=16777216 by exact an 0 6 0 16777216 (aw m2) rfl];have h2:∀j,L.zb a.length c j->j<I.length:=λj l8=>by ext(aD:b3.za l8)p4 m;exact bH m
     generalize n1:I.length=c9 at*;have m7:=aB I [aa.a<|(G.zj B).map Z];refine bV (λh9 P e7=>∃S T X a0 y z u g2 i4 g3,P=[V<|.a L.c,V<|.a R.a,b7,V<|Z x,S,V<|Z K,V<|Z B,T,X,a0,y,z,u]/\dc g e7 G A L a c g2 i4 g3/\e7[c9]?=V (.a<|(G.zj B).map Z)/\(∀i,i<a.length->eO a.length (g2 i))/\(∀i,i<a.length->eO a.length (i4 i))/\(∀p∈c,eO a.length<|g3 p)/\(∀i j,i<a.length->(j∈g2 i↔j∈e i\/(j=x/\∃k∈(G.zj B).take h9,∃w,jd G b a x k w i)))/\(∀p j,p∈c->(j∈g3 p↔j∈f p\/(j=x/\∃k∈(G.zj B).take h9,rw G b a x k p)))) (Fb _ _ _ _ _ _ _ e h f rfl (b3.zd m7) (by subst n1;simp) g6 i8 g8 (by simp)<|by simp) ?_ ?_
     .ext@h9@i1@P@e7@o6 l6 o9 h8 n
      exact by
       ext(Fq n)@S@T@X@a0@y@z@u@e8@g4@f0 a8 f6 g7 g9 f3 f8 e5
       exact by
        ext(_:cB h8)@k b1 n
        exact by
         subst n;ext(ac:ap.zw.mp (bs b1))a5 j7;have d6:=d5.za a8.a;refine⟨f6,?_⟩;simp[d6.zc,d6.a,cc a5,d6.ze a5];rw[a8.zh rfl rfl];try simp
         refine I7 a8.b a8.c rfl a8.j (d6.b k a5) (c2.d k a5) ?_;ext@D j4
         exact by
          simp[d6.b k a5,jM];have l3:=Dl a3 h6 h5 a5 j7;have m0:=c2.e k a5;refine⟨by exact an 0 3 0 16777216 m0 rfl,?_⟩;refine bV (λv P a7=>∃y z u C d1 c1,P=[V<|.a L.c,V<|.a R.a,b7,V<|Z x,V<|Z k,V<|Z K,V<|Z B,V<|.a<|R.e k,V<|Z D,V<|Z c1,y,z,u]/\dc g a7 G A L a c C d1 f0/\a7[c9]?=V (.a<|(G.zj B).map Z)/\v<=(G.b k).length/\(∀i,i<a.length->eO a.length (C i))/\(∀i,i<a.length->eO a.length (d1 i))/\dZ b K ((G.b k).take v)=V c1/\bZ b c1 (G.zb k+v)/\(∀i j,i<a.length->(j∈C i↔j∈e8 i\/(j=x/\∃w,w<v/\jd G b a x k w i)))) (Fk _ _ _ e8 g4 K rfl a8 f6 (by exact fH) g7 g9 (by simp[dZ]) (by simpa using l3)<|by simp) ?_ ?_
          .ext@v@i1@P@a7@k5 l7 p0 h8 n
           exact by
            ext(FJ n)@y@z@u@C@d1@t a9 e2 k1 c4 b2 b6 d7 f9
            exact by
             ext(ac:jN h8)k0 n-;obtain⟨q,c5⟩:∃q,(G.b k)[v]?=V q:=⟨_,cu k0⟩;delta q;intros _
             exact by
              refine⟨trivial,?_⟩;have h1:=d5.za a9.a;have j3:G.zd (G.zb k+v)=V q:=by rw[rt a5<|by exact k1];exact c5
              ext(_:d7.zc a3 c2 j3)@g1 b5 h3
              exact by
               have j5:=rs b5 h3;ext(_:d7.zd a3 c2 j3)p1 f5 l4;rw[j5]at f5;have f5:=bj f5;subst f5;have o1:dZ b K ((G.b k).take<|v+1)=V (g1.c q):=by rw[fX,c5,Ld b6];simp[dZ,j5]
               have f2:∀(c3:J)(d0 f1:Nat->List Nat)(u:Option O),dc g c3 G A L a c d0 f1 f0->c3[c9]?=V (.a<|(G.zj B).map Z)->(∀i,i<a.length->eO a.length (d0 i))->(∀i,i<a.length->eO a.length (f1 i))->(∀i j,i<a.length->(j∈d0 i↔j∈C i\/(j=x/\jd G b a x k v i)))->cS (.a L.c) dd c3 λk4 e6=>dR k4 lh e6 λk7=>aY (d+3) k7 [k4,Z t,Z q] e6 λi1 e6=>k5 .a [V<|.a L.c,V<|.a R.a,b7,V<|Z x,V<|Z k,V<|Z K,V<|Z B,V<|.a<|R.e k,V<|Z D,V i1,V<|Z v,V<|Z q,u] e6:=by
                ext@c3@d0@f1@u d9 n2 k8 k9 o3
                exact by
                 have j0:=h0.za d9.a;rw[d9.zb rfl rfl];rw[j0.zd];rw[Lk j0 b5];simp only[ru,h3,if_true];refine(l7 _ _<|Fk _ _ _ d0 f1 _ rfl d9 n2 (by exact k0) k8 k9 o1 (by rw[show G.zb k+(v+1)=G.zb k+v+1 by exact be (aO _)<|aO _];exact l4) λi j E=>?_).1;rw[o3 i j E,f9 i j E];constructor
                 .rintro((o|⟨m,w,l,s⟩)|⟨m,l⟩);.exact .inl o
                  .exact .inr ⟨m,ad w (by exact an 1 0 1 1 l rfl) s⟩
                  .exact .inr ⟨m,ad v (by exact aO _) l⟩
                 .rintro(o|⟨m,w,l,s⟩);.exact .inl<|.inl o
                  .by_cases r:w=v;.have r:=r.symm;subst r;exact .inr ⟨m,s⟩
                   .exact .inl<|.inr ⟨m,ad w (by exact cO l r) s⟩
               have k3:(¬(D<=v/\G.a<=q))->∀i j,i<a.length->(j∈C i↔j∈C i\/(j=x/\jd G b a x k v i)):=λm5 i j _=>by delta i j;intros _;exact by refine⟨.inl,λo=>o.elim id λn=>ac n λ_ i2=>kZ i2 λ_ o7 _ l s a1 _=>?_⟩;rw[c5]at l;have l:=bj l;subst l;exact absurd ⟨(j4 v).mpr a1,s⟩ m5
               simp[h1.b k a5,c5];refine cE (λe1=>?_) λe1=>?_
               .simp at e1;have m6:=(j4 v).mp e1;rw[h1.zf];try simp only[kJ,dI,cg,dG,cb,ce,cf,dy,dg,en,kI]
                rw[rm h1];try simp only[Xm,C6,qN,Xo,qV,gG,qY,os,fS,cg,cb,ce,cf,dH,ou,eZ,eY,ot]
                try simp
                refine cE (λc6=>?_) λc6=>?_
                .simp at c6;have j6:(t,q)∈a:=by rw[e0];exact iq.mpr<|aI ((bi.mp b5).1) (ad g1 b5 h3) c6
                 have a4:=hs j6;rw[a9.zb rfl rfl];simp;have m9:=aB a7 [aa.b [Z t,Z q]];have a6:=a9.zd m9;refine a6.l.ze (c:=t) (b:=q) cF j6 ?_;try simp only[qT,vo,vp,eZ,eY,gG,ov,tN,dI,os,fS,cg,cb,ce,cf,dH]
                 rw[a6.zb rfl rfl];simp[ir,a6.g,cc a4];have d4:=c4 _ a4;refine Dp (a6.d _ a4) (by have:=d4.zb;exact aA 0 0 0 10000000 0 16777215 this f4 rfl) λi3 d2 a1=>?_;have b4:=a6.ze e3 a4 d2 a1;have m3:L.d (a.idxOf (t,q))≠c9:=by have:=h2 _<|.inl<|ad _ a4 rfl;exact bh this
                 have m4:L.e (a.idxOf (t,q))≠c9:=by have:=h2 _<|.inr<|.inl<|ad _ a4 rfl;exact bh this
                 have j8:=d2.a _ _ (aH e2) m3.symm
                 have i7:∀i,i<a.length->eO a.length (bb C (a.idxOf (t,q)) (jV (C<|a.idxOf (t,q)) x) i):=λi E=>by
                  by_cases r:i=a.idxOf (t,q);.rw[r,bx];exact d4.za e4
                  .rw[bc r];exact c4 i E
                 have k2:∀i j,i<a.length->(j∈bb C (a.idxOf (t,q)) (jV (C<|a.idxOf (t,q)) x) i↔j∈C i\/(j=x/\jd G b a x k v i)):=λi j E=>by
                  delta i j;intros _
                  exact by
                   have l2:jd G b a x k v<|a.idxOf (t,q):=jw t q (by rw[b0];exact b6) c5 c6 m6 rfl;by_cases r:i=a.idxOf (t,q);.subst r;rw[bx,Do];exact⟨λo=>o.elim .inl λo=>.inr ⟨o,l2⟩,λo=>o.elim .inl λo=>.inr o.1⟩
                   .rw[bc r];refine⟨.inl,λo=>o.elim id λn=>ac n λ_ i2=>kZ i2 λi5 k6 m l _ _ a2=>?_⟩;rw[b0]at m;have m:dZ b K ((G.b k).take v)=V i5:=m;rw[b6]at m;have m:=bj m;subst m;rw[c5]at l;have l:=bj l;subst l;exact absurd a2 r
                 refine cE (λo0=>?_) λo0=>?_
                 .simp only[ov,tN,dI,os,fS,cg,cb,ce,cf,dH];rw[b4.zb rfl rfl];simp[b4.k,cc a4];have i9:=b2 _ a4;refine Dp (b4.e _ a4) (by have:=i9.zb;exact aA 0 0 0 10000000 0 16777215 this f4 rfl) λc3 i6 a2=>?_;have d9:=b4.zf e3 a4 i6 a2
                  exact f2 c3 _ _ _ d9 (i6.a _ _ j8 m4.symm) i7 (λi E=>by
                   by_cases r:i=a.idxOf (t,q);.rw[r,bx];exact i9.za e4
                   .rw[bc r];exact b2 i E) k2
                 .exact f2 i3 _ _ _ b4 j8 i7 b2 k2
                .simp at c6;exact f2 a7 _ _ _ a9 e2 c4 b2 (k3 λo=>by exact bB 1 0 (aA 0 0 1 0 1 0 o.2 c6 rfl) rfl)
               .simp at e1;exact f2 a7 _ _ _ a9 e2 c4 b2 (k3 λo=>by exact bB 1 0 (aj e1 o.1) rfl)
          .ext@P@a7 n
           exact by
            ext(FJ n)@y@z@u@C@d1@t a9 e2 k1 c4 b2 b6 d7 f9
            exact by
             simp only[bC,ki,fj]at b6 d7 f9;refine⟨trivial,?_⟩;have l9:k≠0:=λr=>by subst r;exact j9.za a3 d3 (by show B=G.a;rw[<-j7];exact d3.d)
             ext(_:Le a3 a5 l9 d7)g1 b5 n0;have c7:(t,k)∈c:=by rw[h4];exact lO.mpr ⟨(bi.mp b5).1,ad g1 b5 n0⟩
             simp;rw[a9.zb rfl rfl];simp;have m8:=aB a7 [aa.b [Z t,Z k]];have a6:=a9.zd m8;rw[<-tX];refine a6.h.ze (c:=t) (b:=k) cF c7 ?_;try simp
             have d4:=f3 _ c7;refine Dp (a6.i _ c7) (by have:=d4.zb;exact aA 0 0 0 10000000 0 16777215 this f4 rfl) λi3 d2 a1=>?_;have b4:=a6.zg e3 c7 d2 a1;have m1:L.b (t,k)≠c9:=by have:=h2 _<|.inr<|.inr<|ad _ c7 rfl;exact bh this
             refine(l6 _ _<|Fb _ _ _ _ _ _ _ C d1 _ rfl b4 (d2.a _ _ (aH e2) m1.symm) c4 b2 (λp c8=>?_) (λi j E=>?_) λp j c8=>?_).1
             .by_cases r:p=(t,k);.subst r;rw[kO];exact d4.za e4
              .rw[fa r];exact f3 p c8
             .delta i j;intros _
              exact by
               rw[f9 i j E,f8 i j E];constructor
               .rintro((o|⟨m,Q,l,s⟩)|⟨m,w,_,l⟩);.exact .inl o
                .exact .inr ⟨m,ad Q ((dA b1).mpr<|.inl l) s⟩
                .exact .inr ⟨m,ad k ((dA b1).mpr<|.inr rfl) ⟨w,l⟩⟩
               .rintro(o|⟨m,Q,l,w,s⟩);.exact .inl<|.inl o
                .rcases(dA b1).mp l with l|rfl;.exact .inl<|.inr ⟨m,ad Q l ⟨w,s⟩⟩
                 .refine .inr ⟨m,ad w ?_ s⟩;ext(@bk s)_ _ _ a1 _;exact(bi.mp a1).1
             .delta p j;intros _
              exact by
               by_cases r:p=(t,k)
               .subst r;rw[kO,Do,e5 _ j c7];constructor
                .rintro((o|⟨m,Q,l,s⟩)|o);.exact .inl o
                 .exact .inr ⟨m,ad Q ((dA b1).mpr<|.inl l) s⟩
                 .exact .inr ⟨o,aT k ((dA b1).mpr<|.inr rfl) rfl<|by rw[b0];exact b6⟩
                .rintro(o|⟨m,Q,l,s⟩);.exact .inl<|.inl o
                 .exact .inr m
               .rw[fa r,e5 _ j c8];constructor
                .rintro(o|⟨m,Q,l,s⟩);.exact .inl o
                 .exact .inr ⟨m,ad Q ((dA b1).mpr<|.inl l) s⟩
                .rintro(o|⟨m,Q,l,s⟩);.exact .inl o
                 .rcases(dA b1).mp l with l|rfl;.exact .inr ⟨m,ad Q l s⟩
                  .exfalso;ext(@ac s)a1 a2;rw[b0]at a2;have a2:dZ b K (G.b Q)=V p.1:=a2;rw[b6]at a2;refine r ?_;obtain⟨i5,k6⟩:=p;simp at a1 a2;rw[a1,a2]
     .ext P e7 n(Fq n)S T X a0 y z u e8 g4 f0 a8 f6 g7 g9 f3 f8 e5;simp only[bC,fj]at f8 e5;refine⟨f6,(l5 _ _<|Fc _ _ _ _ _ _ _ _ _ _ e8 g4 f0 rfl a8 g7 g9 f3 (λi j E=>?_) λp j c8=>?_).1⟩
      .rw[f8 i j E,f7 i j E];constructor
       .rintro(⟨m,l⟩|⟨rfl,l⟩);.exact⟨by exact an 1 0 1 1 m rfl,l⟩
        .exact⟨by exact aO _,by rw[b0];exact l⟩
       .ext n(@ac n)m l;by_cases D:j=x;.have D:=D.symm;subst D;rw[b0]at l;exact .inr ⟨rfl,l⟩
        .exact .inl ⟨by exact cO m D,l⟩
      .rw[e5 p j c8,g0 p j c8];constructor
       .rintro(⟨m,l⟩|⟨rfl,l⟩);.exact⟨by exact an 1 0 1 1 m rfl,l⟩
        .exact⟨by exact aO _,by rw[b0];exact l⟩
       .ext n(@ac n)m l;by_cases D:j=x;.have D:=D.symm;subst D;rw[b0]at l;exact .inr ⟨rfl,l⟩
        .exact .inl ⟨by exact cO m D,l⟩
 .ext P I n(Fr n)b8 S b9 c0 T X a0 y z u e h f b3 g6 i8 g8 f7 g0;simp only[bC,ki]at f7 g0;exact⟨trivial,c1 _ _ _ _ _ b3 g6 g8 f7 g0⟩
end
section
variable{c H I:J}{R:cC}{G:ap}{A:gi}{b:List aJ}{L:jc}{a e:List<|Nat×Nat}{d:Nat}{Q:au}
def oQ(H I:J)(b:List<|Nat×Nat)(a:Nat×Nat->Nat):Prop:=(∀p∈b,I[a p]?=V (.a [])/\H.length<=a p)/\∀p∈b,∀q∈b,a p=a q->p=q
theorem oQ.za{d:List<|Nat×Nat}{l:Nat×Nat->Nat}{i:J}(h:oQ H I d l)(n:H.length<=I.length){p:Nat×Nat}(r:p∉d)(s:∀j,j<I.length->I[j]?=V (.a [])->i[j]?=V (.a []))(o:i[I.length]?=V (.a [])):oQ H i (d++[p])<|jS l p I.length:=by
 have f:∀q∈d,q≠p:=λq a e=>r<|e▸a;have k:∀q∈d,l q<I.length:=λq a=>bH (h.1 q a).1;refine⟨λq a=>?_,λq a g m e=>?_⟩
 .rcases bU.mp a with a|a;.rw[fa<|f q a];exact⟨s _ (k q a) (h.1 q a).1,(h.1 q a).2⟩
  .simp at a;subst a;rw[kO];exact⟨o,n⟩
 .rcases bU.mp a with c|c
  .rw[fa<|f q c]at e;rcases bU.mp m with b|b;.rw[fa<|f g b]at e;exact h.2 q c g b e
   .simp at b;subst b;rw[kO]at e;have:=k q c;exact(bB 1 0 (aj this<|ar e) rfl).elim
  .simp at c;subst c;rw[kO]at e;rcases bU.mp m with b|b;.rw[fa<|f g b]at e;have:=k g b;exact(bB 1 0 (aA 0 0 1 0 1 0 (aw e) this rfl) rfl).elim
   .simp at b;exact b.symm
theorem I9(c5:bm c R G)(a6:gj G)(y:er c R A b)(C:bJ G b)(c9:a=cJ G b b.length)(b9:e=bI b b.length)(f:dc c H G A L a [] (λ_=>[]) (λ_=>[]) λ_=>[])(K:kP c L a.length [])(d3:c.length<=L.a)(c0:L.a≠L.f/\L.a≠L.g/\L.a≠L.h/\L.a≠L.i/\L.a≠L.k)(b0:∀I m P b3 S,dc c I G A {L with b:=m} a e P b3 S->kP c {L with b:=m} a.length e->(∀i,i<a.length->eO a.length (P i))->(∀p∈e,eO a.length<|S p)->(∀i j,i<a.length->(j∈P i↔j<a.length/\∃k∈G.zj (ci a j).2,∃e9,jd G b a j k e9 i))->(∀p j,p∈e->(j∈S p↔j<a.length/\∃k∈G.zj (ci a j).2,rw G b a j k p))->Q .e I):aY (d+4) SH [.a L.c] H Q:=by
 revert c H R G A b L a e d Q;ext@c@H@R@G@A@b@L@a@e@d@Q c5 a6 y C c9 b9 f K d3 c0 b0;rw[bR BD 12 rfl rfl rfl rfl<|by decide];have b7:=y.za f.a;have f3:=C.a.za a6.a;have e0:BD=.b (.c 1<|.e (.e (.b 0) dd) cR) (.b (.d 2 (.e (.e (.b 0) dd) dP)<|.d 4 (.e (.b 2) gV)<|.j (.e (.b 0) hy) (.n<|.c (.e (.b 2) cp)<|.c (.b 4)<|.d)<|.k<|.d) Dq):=rfl;rw[e0];try simp
 rw[f.zb rfl rfl];try simp only[dH]
 rw[b7.zb];try simp only[qT,vo,vp,eZ,eY,gG,ow,qX,fS,cg,cb,ce,cf,dH]
 try simp
 rw[f.zb rfl rfl];try simp only[dH]
 rw[b7.zc];try simp only[oh,iY]
 simp[b7.b];ext(bp:id f.h)@f5@f4 E _
 exact by
  have d1:L.c≠L.a:=aV f.b E (by simp);have d0:L.j≠L.a:=aV f.c E (by simp);have d6:∀{I:J}{b4:Nat}{b2:O}{Q:au},bn (·=L.a) H I->(L.za A).lookup b4=V b2->eT hA b4=U->cS (.a L.c) b4 I Q=Q b2 I:=λl t n=>bE (l.a _ _ f.b d1) (l.a _ _ f.c d0) n t;have a0:∀{I:J},bn (·=L.a) H I->c<+:I:=λl=>l.zb f.a λj g=>by exact aj d3<|ar g
  have e6:=bH E;refine bV (λk x I=>∃c2 B m,x=[V<|.a L.c,V<|.a R.a,c2,U,B,U,U,U,U,U,U,U,U]/\bn (·=L.a) H I/\ch I L.a (bI b k) (λp=>.a<|m p)/\oQ H I (bI b k) m) (gt _ _ (λ_=>0) rfl .zf (by simpa[bI,ch,dK]using f.h)<|by simp[oQ,bI]) ?_ ?_
  .ext@k@b2@x@I@d5 b8 e8 c1 o
   exact by
    ext(st o)@c2@B@m l r q
    exact by
     ext(_:cB c1)@s w o
     exact by
      subst o;have X:=y.za<|a0 l;have D:=X.a k s w;refine⟨X.b,?_⟩;simp[D.zc,D.c];refine bV (λb1 x I=>∃B m,x=[V<|.a L.c,V<|.a R.a,V<|.a s.f,U,B,U,U,U,U,U,U,U,U]/\bn (·=L.a) H I/\ch I L.a (bI b k++(s.d.take b1).map λc3=>(k,c3)) (λp=>.a<|m p)/\oQ H I (bI b k++(s.d.take b1).map λc3=>(k,c3)) m) (eD _ m rfl l (by simpa using r)<|by simpa using q) ?_ ?_
      .clear r X D l q;ext@b1@b2@x@I@d5 b8 e8 c1 o
       exact by
        ext(kt o)@B@m l r q
        exact by
         ext(_:cB c1)@a2 a8 o
         exact by
          subst o;have X:=y.za<|a0 l;have D:=X.a k s w;refine⟨D.c,?_⟩;have d2:=l.b;have d4:=aB I [aa.a []];have f2:=aB (I++[aa.a []]) [aa.b [Z k,Z a2]];have d8:bn (·=L.a) H<|I++[aa.a []]:=l.za<|.zc d4;have e4:=D.za d4;simp;rw[d6 d8 rfl rfl];simp[e4.zb];rw[<-mZ];have e5:(I++[aa.a [],aa.b [Z k,Z a2]])[I.length+1]?=V (aa.b [Z k,Z a2]):=by simp
          refine(r.za<|aB I _).zd (c:=k) (b:=a2) e5 (ug C w a8) (by have:=Dh (u:=b1) a6.a C w;exact an 0 2000000 0 16777216 this rfl) λa5 c4 b5 f1=>?_;have d9:bn (·=L.a) H a5:=(l.za<|.zc<|aB _ _).za b5;rw[uh a8]at c4;have c7:=q.za (i:=a5) d2 (ug C w a8) (λj a7 t=>b5.a _ _ (aH t) λg=>by subst g;ext(@bp r)@f6@f0 n _;exact by rw[t]at n;cases n)<|b5.a _ _ (by simp) (by exact aL<|aj e6 d2);rw[uh a8]at c7;refine(b8 _ _<|eD _ _ rfl d9 (c4.zc λp u=>?_) c7).1;by_cases g:p=(k,a2);.subst g;simp
          .rw[fa g,fa g]
      .ext x I o(kt o)B m l r q;refine⟨((y.za<|a0 l).a k s w).c,(b8 _ _<|gt _ _ m rfl l ?_ ?_).1⟩;.rw[rr w];simpa using r
       .rw[rr w];simpa using q
  .ext@x@I o
   exact by
    ext(st o)@c2@B@m l r q
    exact by
     refine⟨(y.za<|a0 l).b,?_⟩;simp only[bC]at r q;rw[<-b9]at r q;have z:∀j a9,H[j]?=V a9->j≠L.a->I[j]?=V a9:=λj a9 h g=>l.a j a9 h g;have c8:∀j,L.zb a.length [] j->j<H.length:=λj a7=>by ext(aD:f.za a7)a3 t;exact bH t
     have a1:∀j a3,H[j]?=V (.a a3)->j≠L.a:=λj a3 h g=>by delta j a3;intros _;rw[g,E]at h;cases h
     have e3:=eq f.a
     have c6:kP c {L with b:=m} a.length e:={
      a:=λj a7=>by
       delta j;intros _
       exact by
        have d7:H.length<=j->(j≠L.h/\j≠L.i/\j≠L.f/\j≠L.g):=λh=>by have t:=bH f.g;have n:=bH f.k;have b6:=bH f.j;ext(_:f.f)f7 T _;have T:=bH T;exact⟨aL<|aj t h,⟨aL<|aj n h,⟨aL<|aj b6 h,aL<|aj T h⟩⟩⟩
        rcases a7 with h|h|⟨p,u,rfl⟩;.exact K.a j<|.inl h
        .exact K.a j<|.inr<|.inl h
        .have:=(q.1 p u).2;exact⟨by show c.length<=m p;exact aj e3 this,d7 this⟩
      c:=K.c
      d:=K.d
      g:=λp b0 u e7 g=>q.2 p u b0 e7 g
      b:=K.b
      e:=λi p v u g=>by have:=c8 _<|.inl<|ad i v rfl;have n:=(q.1 p u).2;simp at g;exact bB 1 0 (aj (aj this n)<|ar g) rfl
      f:=λi p v u g=>by have:=c8 _<|.inr<|.inl<|ad i v rfl;have n:=(q.1 p u).2;simp at g;exact bB 1 0 (aj (aj this n)<|ar g) rfl}
     have e2:dc c I G A {L with b:=m} a e (λ_=>[]) (λ_=>[]) λ_=>[]:={
      a:=a0 l
      b:=z _ _ f.b d1
      c:=z _ _ f.c d0
      j:=z _ _ f.j (a1 _ _ f.j)
      f:=f.f.zb l c0.2.1.symm λj a4 g n=>by delta j a4;intros _;rw[g,E]at n;cases n
      l:=f.l.zb l c0.2.2.2.2.symm λj a4 g n=>by delta j a4;intros _;rw[g,E]at n;cases n
      g:=z _ _ f.g (a1 _ _ f.g)
      k:=z _ _ f.k (a1 _ _ f.k)
      h:=r
      d:=λi v=>z _ _ (f.d i v)<|a1 _ _<|f.d i v
      e:=λi v=>z _ _ (f.e i v)<|a1 _ _<|f.e i v
      i:=λp u=>(q.1 p u).1};refine I8 (d:=d) (L:={L with b:=m}) c5 a6 y C c9 b9 c6 e2 λx a5 P b3 S t n b6 T e1=>?_;exact b0 a5 m P b3 S t c6 n b6 T e1
end
theorem up{L:List<|Nat×Nat}{i:Nat}{x:Nat×Nat}(h:L[i]?=V x):ci L i=x:=by unfold ci;rw[rW,h];rfl
theorem jW{L:List<|Nat×Nat}{x:Nat×Nat}(h:x∈L):ci L (L.idxOf x)=x:=by apply up;have a:=hs h;rw[cu a,vf]
theorem Lm{L:List<|Nat×Nat}(e:L.Nodup){i:Nat}(h:i<L.length):ci L i∈L/\L.idxOf (ci L i)=i:=by
 have a:L[i]?=V L[i]:=cu h;rw[up a];have b:=bs a;refine⟨b,?_⟩;have c:=hs b;have d:L[L.idxOf L[i]]?=V L[i]:=by rw[cu c,vf]
 exact jO e d a
section
variable{G:ap}{b:List aJ}{a:List<|Nat×Nat}
theorem Dr(m:bJ G b)(n:a=cJ G b b.length){x:Nat×Nat}{j:Nat}:j∈hL G b a x↔∃y,um G b x y/\j=a.idxOf y:=by
 delta G b a x j at m n;constructor
 .ext h;unfold hL at h;split at h
  .rename_i g e;split at h;.rename_i o f;unfold it at h;ext(_:bY.mp h)i k s;rw[iF]at k;ext(@ac k)d c;simp at c;exact ad ((g,i)) (dC e (ad o f d) c.1<|ja.mp c.2) s.symm
   .cases h
  .cases h
 .ext p(bt p)t q;obtain⟨g,i⟩:=t;ext(@ei q)e r c l(r)o f d;simp only at e f d c l;unfold hL;rw[e];simp only[f];unfold it;exact bY.mpr<|ad i (iF.mpr ⟨d,by simp[c,ja.mpr l]⟩) rfl
theorem um.za(d:a=cJ G b b.length){x y:Nat×Nat}(h:um G b x y):y∈a:=by ext(@ei h)w c e w(_:id c)s f g;rw[d];exact iq.mpr<|aI ((bi.mp f).1) c e
theorem J0(g:bJ G b)(d:a=cJ G b b.length){x:Nat×Nat}(f:x∈a){t:Nat}:oN (λi=>hL G b a<|ci a i) (λi=>iu G b<|ci a i) (a.idxOf x) t↔nh G b x t:=by
 delta G b a x t at g d f;constructor
 .ext o(o)u j c;have s:∀{v u:Nat},jT (λi=>hL G b a<|ci a i) v u->(iu G b<|ci a u).testBit t=M->nh G b (ci a v) t:=by ext v u h;induction h with|a v=>ext c;exact .a ((io _).mp c).2|b e _ k=>ext c(_:(Dr g d).mp e)y l p;have:=k c;rw[p,jW<|l.za d]at this;exact .b l this
  have:=s j c;rwa[jW f]at this
 .ext h;induction h with|a m=>refine ad _ (.a _) ?_;show(iu G b<|ci a<|a.idxOf _).testBit _=M;rw[jW f];ext(bd:id m)q w w r;exact(io _).mpr ⟨r,m⟩|b n _ k=>ext(_:k (n.za d))u j c;refine ad u (.b ?_ j) c;show _∈hL G b a (ci a<|a.idxOf _);rw[jW f];exact(Dr g d).mpr<|ad _ n rfl
theorem Ln(v:bJ G b)(m:a=cJ G b b.length)(r:a.Nodup){l:Nat->List Nat}(n:∀i j,i<a.length->(j∈l i↔j<a.length/\∃k∈G.zj (ci a j).2,∃d,jd G b a j k d i)){x:Nat×Nat}(c:x∈a){j:Nat}:j∈l (a.idxOf x)↔∃y∈a,Dm G b x y/\j=a.idxOf y:=by
 delta G b a l x j at v m r n c;have w:=hs c;rw[n _ _ w];constructor
 .ext f(@ac f)I g(g)@k o h
  exact by
   ext(@Nf h)@d@q@t C D a1 E u
   exact by
    ext(ac:Lm r I)p H;have R:(q,t)∈a:=aaB.mp<|u▸w;have e:x=(q,t):=by rw[<-jW c,u,jW R]
    subst e;ext(ac:ap.zw.mp o)L K;refine aT (ci a j) p ⟨by rw[m]at p⊢;exact(iq.mp p).2,aT k L K<|bu ((G.b k).take d) ((G.b k).drop<|d+1) ?_ E C⟩ H.symm;ext(aD:bi.mp D)A B;conv=>lhs;rw[<-ES d<|G.b k,mf A,B]
 .ext f(mn f)@y s g
  exact by
   ext(@ac g)_ h(@bd h)k o P z(@bk z)a0 a2 e Q S;have X:=hs s;have T:G.a<=x.2:=by rw[m]at c;exact(iq.mp c).2.2
   refine⟨X,ad k (ap.zw.mpr ⟨o,by rw[jW s];exact P⟩)<|vx a0.length x.1 x.2 ?_ ?_ T ?_ rfl⟩;.rw[jW s,e,List.take_left];exact S
   .rw[e];simp
   .rw[e];simpa using Q
theorem Lo(q:bJ G b)(l:a=cJ G b b.length)(B:a.Nodup){o:Nat->List Nat}(A:∀i j,i<a.length->(j∈o i↔j<a.length/\∃k∈G.zj (ci a j).2,∃I,jd G b a j k I i)){n:Nat->Nat}(E:∀i,i<a.length->∀t,(n i).testBit t=M↔oN (λi=>hL G b a<|ci a i) (λi=>iu G b<|ci a i) i t){x:Nat×Nat}(c:x∈a){t:Nat}:oN o n (a.idxOf x) t↔eB G b x t:=by
 have w:∀{x:Nat×Nat},x∈a->((n<|a.idxOf x).testBit t=M↔nh G b x t):=λc=>(E _ (hs c) t).trans<|J0 q l c;constructor
 .ext g(g)u f d;have H:∀{v u:Nat},jT o v u->(n u).testBit t=M->∀x∈a,v=a.idxOf x->eB G b x t:=by ext v u h;induction h with|a v=>rintro d x c rfl;exact .a<|(w c).mp d|b e _ z=>rintro d x c rfl;ext(bd:(Ln q l B A c).mp e)y m D p;exact .b D<|z d y m p
  exact H f d x c rfl
 .ext h
  induction h with
  |a h=>exact ad _ (.a _)<|(w c).mpr h
  |@b x y t r _ z=>
   have m:y∈a:=by ext(@ac r)g K(@ac g)C p(C)s f d;rw[l];exact iq.mpr<|aI ((bi.mp f).1) (ad s f d) p
   ext(_:z m w)u f d;exact ad u (.b ((Ln q l B A c).mpr<|aT y m r rfl) f) d
theorem J1(h:a=cJ G b b.length)(m:a.Nodup){l:List Nat}{p:Nat×Nat}(n:p.2<G.c)(g:∀j,j∈l↔j<a.length/\∃k∈G.zj (ci a j).2,rw G b a j k p){j:Nat}:j∈l↔∃x∈a,ng G b p.1 p.2 x/\j=a.idxOf x:=by
 delta G b a l p j at h m n g;rw[g];constructor;.ext c(@ac c)r d(@bd d)k s e f(ac:Lm m r)i q(ac:ap.zw.mp s)u t;subst e;exact aT _ i (aI (by rw[h]at i⊢;exact(iq.mp i).2) t f) q.symm
 .ext c(mn c)x o d(@bD d)w e f;refine⟨hs o,aT p.2 (ap.zw.mpr ⟨n,?_⟩) rfl ?_⟩;.rw[jW o];exact e
  .rw[jW o];exact f
end
theorem gL{a:Type}{l:List a}{k:Nat}{x:a}(h:l[k]?=V x):l.take (k+1)=l.take k++[x]:=by rw[fX,h];rfl
theorem oR{b:List<|Nat×Nat}{a:Nat×Nat->Nat}{f:Nat×Nat->O}:(dK b a f).map (λe=>O.a e.2.1)=b.map λp=>O.a<|a p:=by simp[dK]
theorem Lp{c:Type}{l:List c}(e:l.Nodup){k:Nat}{x:c}(h:l[k]?=V x):x∉l.take k:=λd=>by
 ext(aD:fe d)j a;have b:j<k:=by have:=(bi.mp a).1;rw[km]at this;exact aj this<|hP _ _
 rw[pv,if_pos b]at a;have:=jO e h a;exact bB 1 0 (aj b<|aw this) rfl
section
variable{a H I:J}{R:cC}{G:ap}{A:gi}{b:List aJ}{d:Nat}{Q:au}
theorem J2{l K G y x:Nat}{w:List<|Nat×O}{c:List<|Nat×Nat}{L:Nat×Nat->Nat}{n:Nat×Nat->List Nat}{v:Nat->Nat}(a1:H[l]?=V (.e hA K))(X:H[K]?=V (.c w))(S:w.lookup hy=V (.a G))(a6:w.lookup pW=V (.a y))(T:ch H G c λp=>.a<|L p)(b5:c.Nodup)(b3:c.length<=10000000)(E:∀p∈c,H[L p]?=V (.a<|(n p).map Z))(b4:∀p∈c,∀j∈n p,j<x)(a8:H[y]?=V (.a<|az x λi=>Z<|v i))(b7:∀(I:J)(r:Nat)(g:Nat×Nat->Nat),H<+:I->ch I r c (λp=>Z<|g p)->(∀p∈c,∀t,(g p).testBit t=M↔∃j∈n p,(v j).testBit t=M)->Q (.a r) I):aY (d+1) SJ [.a l] H Q:=by
 revert H d Q l K G y x w c L n v;ext@H@d@Q@l@K@G@y@x@w@c@L@n@v a1 X S a6 T b5 b3 E b4 a8 b7;rw[bR BF 4 rfl rfl rfl rfl<|by decide];ext(bp:id T)@d0@c2 a0 b0
 exact by
  simp[BF];rw[bE (aH a1) (aH X) rfl S];simp[aH a0,oR];generalize b6:H.length=r;refine bV (λk u I=>∃(a4 a5 q:Option O)(g:Nat×Nat->Nat),u=[V<|.a l,V<|.a r,a4,a5,q]/\H<+:I/\ch I r (c.take k) (λp=>Z<|g p)/\∀p∈c.take k,∀t,(g p).testBit t=M↔∃j∈n p,(v j).testBit t=M) (mm _ _ _ (λ_=>0) rfl (aB _ _) (bK 0 (λ_=>0) (by subst b6;simp[dK])<|by simp)<|by simp) ?_ ?_
  .ext@k@c3@u@I@c5 c0 c8 a3 a
   exact by
    ext(Fz a)@a4@a5@q@g b A B
    exact by
     ext(_:cB a3)@p D a
     exact by
      subst a;have o:=bs D;refine⟨ay b a0,?_⟩;have b1:=ay b a1;have a9:=ay b X;simp;rw[bE b1 a9 rfl S];refine(T.za b).ze (c:=p.1) (b:=p.2) (ay b<|b0 p o) o ?_;simp[ay b<|E p o];refine bV (λb8 u R=>∃q m,u=[V<|.a l,V<|.a r,V<|.a<|c2 p,V<|Z m,q]/\R=I/\∀t,m.testBit t=M↔∃j∈(n p).take b8,(v j).testBit t=M) (bu _ 0 rfl rfl<|by simp) ?_ ?_
      .ext@b8@c3@u@R@c6 c1 c9 a3 a
       exact by
        ext(hZ a)@q@m s C
        exact by
         have s:=s.symm;subst s;ext(_:cB a3)@j b2 a
         exact by
          subst a;refine⟨ay b<|E p o,?_⟩;simp;rw[bE b1 a9 rfl a6];simp[ay b a8,cc<|b4 p o j<|bs b2];refine(c1 _ _<|bu _ _ rfl rfl λt=>?_).1;rw[gq,iC,C,gL b2];constructor
          .rintro(⟨i,f,z⟩|h);.exact ad i (gS _ f) z
           .exact ad j (by simp) h
          .ext a(a)i f z;rcases bU.mp f with f|f;.exact .inl<|ad i f z
           .simp at f;have f:=f.symm;subst f;exact .inr z
      .ext@u@R a
       exact by
        ext(hZ a)@q@m s C
        exact by
         have s:=s.symm;subst s;refine⟨ay b<|E p o,?_⟩;simp only[bC,fj]at C;simp;rw[<-mZ];refine A.zd (c:=p.1) (b:=p.2) (ay b<|b0 p o) (Lp b5 D) (by have:=(fW k c).length_le;exact aA 0 0 0 10000000 0 16777216 this b3 rfl) λc4 a7 b9 c7=>?_;rw[<-gL D]at a7;refine(c0 _ _<|mm _ _ _ (jS g p m) rfl (b9.zb b λj e=>by exact aj (aw b6)<|ar e) (a7.zc λP a2=>?_) λP a2 t=>?_).1
         .by_cases e:P=p;.have e:=e.symm;subst e;simp
          .rw[fa e,fa e]
         .by_cases e:P=p;.have e:=e.symm;subst e;rw[kO];exact C t
          .rw[fa e];rw[gL D]at a2;rcases bU.mp a2 with h|h;.exact B P h t
           .simp at h;exact absurd h e
  .ext u I a(Fz a)a4 a5 q g b A B;refine⟨ay b a0,?_⟩;simp only[bC,fj]at A B;simp;exact b7 _ _ _ b A B
end
theorem Ds{C:bl}{r:am}{t i:Nat}{a:List O}{H:J}{Q:List O->J->Prop}(h:H[i]?=V (.a a))(m:a.length<=16777000)(q:Q (az a.length λj=>.a<|H.length+j)<|H++ck a.length (.a [])):eL (λx I=>ky t x r I) (λe I=>de C .d e I) (λe I=>aK C (.k .d) e I) (λI=>I[i]?=V (.a a)) a [] H Q:=by
 refine hi (λk c I=>k<=a.length/\c=az k (λj=>.a<|H.length+j)/\I=H++ck k (.a [])) (aI (by exact fH) rfl<|by simp) ?_ ?_
 .ext k x c I K f n b(lb b)g d-;have l:=(bi.mp n).1;refine⟨aH h,?_⟩;simp;refine⟨by exact aj g m,f _ _<|aI (by exact l) ?_ ?_⟩;.rw[<-iX]
  .rw[MT]
 .ext c I b(lb b)w d-;exact⟨aH h,q⟩
theorem Dt{H X:J}{n j:Nat}{o:aa}(h:j<n):(H++(ck n o++X))[H.length+j]?=V o:=by rw[ev<|by exact ds _ _,gQ<|by simp;exact h];simp[h]
section
variable{b H I:J}{R:cC}{G:ap}{A:gi}{a:List aJ}{d:Nat}{Q:au}
theorem Lq(d:bJ G a):∀k,(bI a k).Nodup
 |0=>by simp[bI]
 |k+1=>by
  rw[bI,ff];refine aI (Lq d k) ?_ λg j b c e=>?_
  .split;.rename_i s f;rw[kX,iE];exact(lP d f).1.imp λh e=>by simp at e;exact bB 1 0 (aj h<|ar e) rfl
   .simp
  .subst e;obtain⟨x,y⟩:=g;have i:=(lO.mp j).1;split at c;.rename_i s f;ext(_:bY.mp c)X w e;cases e;exact bB 1 0 i rfl
   .cases c
theorem Du(b:gj G)(c:bJ G a):(bI a a.length).length<=10000000:=by have d:=b.a.a;have e:=c.a.za b.a;have:=Dg c a.length;rw[d]at this;exact Pu e this
def eC(H I:J):Prop:=∀(j:Nat)(o:aa),H[j]?=V o->(∀a,o≠aa.c a)->I[j]?=V o
theorem eC.zb(p:H<+:I):eC H I:=λj o h w=>ay p h
theorem eC.za{a:J}(h:eC H I)(b:eC I a):eC H a:=λj o e n=>b j o (h j o e n) n
theorem eC.zd{b:Nat}{L:List<|Nat×Nat}(k:eC H I)(h:gK H b L):gK I b L:=let⟨t,e,f,g⟩:=h;(aT t (k _ _ e<|by simp) f λi a x c d=>k _ _ (g i a x c d)<|by simp)
theorem eC.zc{r:Nat}{a:List<|Nat×Nat}{f:Nat×Nat->O}(k:eC H I)(h:ch H r a f):ch I r a f:=let⟨n,e,b,c⟩:=h;(bK n e (k _ _ b<|by simp) λp d=>k _ _ (c p d)<|by simp)
theorem fy{i a C n:Nat}{c:List<|Nat×O}(f:List<|Nat×O){x:O}{Q:J->Prop}(r:H[i]?=V (.e C a))(g:H[a]?=V (.c c))(v:b<+:H)(t:b.length<=a)(u:eT C n=U)(s:c.length<=50)(q:fN c n x=f)(k:∀I,I[i]?=V (.e C a)->I[a]?=V (.c f)->b<+:I->eC H I->H.length<=I.length->Q I):mE (.a i) n x H Q:=dr r g u s q λI l m d p=>k I l m (d.zb v λj e=>by exact aj t<|ar e) (λj o e n=>d.a j o e λh=>n c<|by rw[h,g]at e;exact(bj e).symm) (by exact ar p)
theorem J3{l v:Nat}(b6:bm b R G)(X:gj G)(b5:er b R A a)(t:bJ G a)(z:H[l]?=V (.e hA v))(k0:H[v]?=V (.c []))(n1:b<+:H)(u:b.length<=v)(o9:∀(I:J)(p0:Nat)(e8:Nat×Nat->Nat),b<+:I->I[l]?=V (.e hA v)->(∃d1,I[v]?=V (.c d1)/\d1.lookup sB=V (.a p0))->ch I p0 (bI a a.length) (λp=>Z<|e8 p)->(∀p∈bI a a.length,∀j0,(e8 p).testBit j0=M↔∃x,ng G a p.1 p.2 x/\eB G a x j0)->Q .e I):aY (d+5) SE [.a l,.a A.a] H Q:=by
 delta b H R G A a d Q l v;ext b6 X b5 t z k0 n1 u o9;rw[bR BA 2 rfl rfl rfl rfl<|by decide];simp[BA];try simp
 refine fy [(dd,.a A.a)] z k0 n1 u rfl (by simp) rfl ?_;ext@v9 k9 k1 i0 _ x3
 exact by
  have q6:=b5.za i0;have q8:=b6.za i0;try simp
  rw[q6.zb];try simp only[dy,dg,en,qS]
  refine CQ q8 X.a ?_;ext@w3@m i2 m5
  exact by
   have l1:=ay i2 k9;have k3:=ay i2 k1;have t9:=i0.trans i2;try simp
   refine fy [(dd,.a A.a),(eE,.a m)] l1 k3 t9 u rfl (by simp) rfl ?_;ext@c9 l2 k4 n2 o6 x8
   exact by
    have h8:=o6 _ _ m5 (by simp);try simp
    try simp
    refine fy [(dd,.a A.a),(eE,.a m),(dE,.a c9.length)] (aH l2) (aH k4) (n2.trans<|aB _ _) u rfl (by simp) rfl ?_;ext@f3 l3 k5 n3 i5 x9
    exact by
     have m6:=i5 _ _ (aH h8) (by simp);have i3:=i5 _ _ (cF (H:=c9) (o:=.a [])) (by simp);try simp
     try simp
     refine fy [(dd,.a A.a),(eE,.a m),(dE,.a c9.length),(eU,.a f3.length)] (aH l3) (aH k5) (n3.trans<|aB _ _) u rfl (by simp) rfl ?_;ext@w4 a5 a4 u0 f1 y0
     exact by
      have m7:=f1 _ _ (aH m6) (by simp);have e7:=f1 _ _ (aH i3) (by simp);have c0:=f1 _ _ (cF (H:=f3) (o:=.d 0 [])) (by simp);have r0:=eq n2;have r1:=eq n3;generalize v3:c9.length=r at*;generalize s8:f3.length=q at*;have a8:m<r:=by have:=bH h8;exact aj this<|aw v3
      have T:r<q:=by have:=bH i3;exact aj this<|aw s8
      have P:=bH c0;clear i3 m6 h8 m5 o6 i5 f1 k5 k4 k3 k1 k9 l1 l2 l3;try simp only[oo,eZ,eY,gG,ov,ot,cg,cb,ce,cf,ol]
      rw[hh a5 a4 rfl rfl];try simp only[kJ,dg,kI]
      try simp
      obtain⟨c,y⟩:∃c,c=cJ G a a.length:=⟨_,rfl⟩;delta c;intros _
      exact by
       refine I3 b6 X.a b5 t a5 a4 u0 (by exact r0) (by exact r1) (aT ([]) e7 rfl<|by simp) (bK 0 (λ_=>0) c0<|by simp) ?_;ext@d0 b4 n4 g0 f6
       exact by
        rw[<-y]at g0 f6;have l4:=b4.a _ _ a5 λe=>e.elim (aV a5 e7<|by simp)<|aV a5 c0 (by simp);have k6:=b4.a _ _ a4 λe=>e.elim (aV a4 e7<|by simp)<|aV a4 c0 (by simp);have m8:=b4.a _ _ m7 λe=>by exact Pv a8 T e
        have S:=b4.b;have g2:c.Nodup:=by rw[y];exact I2 t _
        have d4:c.length<=10000000:=by have:=uo t X.a a.length;have:=t.a.za X.a;rw[y];exact Pw (by assumption) this
        clear b4 a4 a5 e7 c0 m7;try simp
        refine fy [(dd,.a A.a),(eE,.a m),(dE,.a r),(eU,.a q),(gU,.a d0.length)] (aH l4) (aH k6) (n4.trans<|aB _ _) u rfl (by simp) rfl ?_;ext@f4 l5 k7 u1 c3 y1
        exact by
         have m9:=c3 _ _ (aH m8) (by simp);have j7:=c3.zd<|g0.za<|aB _ _;have j4:=c3.zc<|f6.za<|aB _ _;have h1:=c3 _ _ (cF (H:=d0) (o:=.a [])) (by simp);try simp
         try simp
         refine fy [(dd,.a A.a),(eE,.a m),(dE,.a r),(eU,.a q),(gU,.a d0.length),(hx,.a f4.length)] (aH l5) (aH k7) (u1.trans<|aB _ _) u rfl (by simp) rfl ?_;ext@p8 d7 d6 n5 b1 y2
         exact by
          have h9:=b1 _ _ (aH m9) (by simp);have g1:=b1.zd<|j7.za<|aB _ _;have f7:=b1.zc<|j4.za<|aB _ _;have b8:=b1 _ _ (aH h1) (by simp);have a9:=b1 _ _ (cF (H:=f4) (o:=.a [])) (by simp);have E:=bH h1;have f9:=eq n4;generalize x1:d0.length=D at*;generalize y5:f4.length=K at*;have n7:=bH a9;clear c3 b1 k7 k6 l4 l5 m8 m9 g0 j7 f6 j4 h1;try simp only[oo,eZ,eY,gG,ov,ot,cg,cb,ce,cf,ol]
          rw[hh d7 d6 rfl rfl];try simp only[kJ,dg,kI]
          try simp
          refine I5 b6 X.a b5 t y d7 d6 n5 (by exact f9) (by exact aA 0 0 1 0 0 0 f9 E rfl) h9 (sl (by exact bh<|aA 3 0 0 0 1 0 (aA 2 0 1 0 3 0 (aA 1 0 1 0 2 0 a8 T rfl) P rfl) S rfl) (by exact bh<|aA 3 0 1 0 1 0 (aj (aA 2 0 1 0 3 0 (aA 1 0 1 0 2 0 a8 T rfl) P rfl) S) E rfl) (by exact bh<|aA 2 0 0 0 1 0 (aA 1 0 1 0 2 0 T P rfl) S rfl) (by exact bh<|aA 2 0 1 0 1 0 (aj (aA 1 0 1 0 2 0 T P rfl) S) E rfl)<|by exact bh E) g1 f7 b8 a9 ?_;ext@s@y8 a0 s0 u6 u8
          exact by
           have i8:∀{j:Nat}{o:aa},p8[j]?=V o->(∀v8,o≠.a v8)->s[j]?=V o:=λ{j o}h c5=>a0.a _ _ h λe=>e.elim (λe=>by subst e;rw[b8]at h;exact c5 _ (bj h).symm) λe=>by subst e;rw[a9]at h;exact c5 _ (bj h).symm
           have h6:=i8 d7 (by simp);have h0:=i8 d6 (by simp);have n0:=a0.a _ _ h9 λe=>by exact Px a8 T P S E e
           have j8:=g1.zb a0 (λe=>by exact Py T P S E e) λj c7 e h=>by
            delta j c7;intros _
            exact by
             rcases e with e|e;.rw[e,b8]at h;cases h
             .rw[e,a9]at h;cases h
           have f8:=f7.zb a0 (λe=>by exact Pz P S E e) λj c7 e h=>by
            delta j c7;intros _
            exact by
             rcases e with e|e;.rw[e,b8]at h;cases h
             .rw[e,a9]at h;cases h
           have n6:b<+:s:=a0.zb n5 λj e=>by exact PA f9 E e
           have m2:=a0.b;clear i8 a0 d7 d6 h9 g1 f7 b8 a9;ext(bd:id j8)@z0 e5 e6 y6
           exact by
            try simp only[JK,eZ,eY,gG,qZ,tM,qX,cg,cb,ce,cf,dH]
            rw[bE h6 h0 rfl rfl];try simp only[oh,iY]
            simp only[iY,e5,tY];refine Ds e5 (by simp;exact aA 0 0 0 10000000 0 16777000 (aw e6) d4 rfl) ?_;simp only[bC,e6];generalize b7:s.length=f at*;have j1:(s++ck c.length (aa.a [])).length=f+c.length:=by simp[b7]
            try simp only[oi,Bf,cg,cb,ce,cf,Be]
            rw[j1];have l7:(s++ck c.length (aa.a [])++[aa.a<|az c.length λj=>O.a<|f+j])[f+c.length]?=V (.a<|az c.length λj=>O.a<|f+j):=rl j1.symm;have m0:∀j,j<c.length->(s++ck c.length (aa.a [])++[aa.a<|az c.length λj=>O.a<|f+j])[f+j]?=V (.a []):=λj k=>by rw[fY,<-b7];exact Dt k
            have e0:s<+:s++ck c.length (aa.a [])++[aa.a<|az c.length λj=>O.a<|f+j]:=by rw[fY];exact aB _ _
            have a3:(s++ck c.length (aa.a [])++[aa.a<|az c.length λj=>O.a<|f+j]).length=f+c.length+1:=by simp[b7];exact be (aO _)<|aO _
            generalize s++ck c.length (aa.a [])++[aa.a<|az c.length λj=>O.a<|f+j]=w5 at*;try simp
            refine fy [(dd,.a A.a),(eE,.a m),(dE,.a r),(eU,.a q),(gU,.a D),(hx,.a K),(iI,.a (f+c.length))] (ay e0 h6) (ay e0 h0) (n6.trans e0) u rfl (by simp) rfl ?_;ext@C h2 g6 t3 e9 a7
            exact by
             have i6:eC s C:=(eC.zb e0).za e9;have s6:=e9 _ _ l7 (by simp);have s7:=λj k=>e9 _ _ (m0 j k) (by simp);clear l7 m0 e9;try simp only[oo,eZ,eY,gG,qZ,tM,qX,cg,cb,ce,cf,dH]
             rw[bE h2 g6 rfl rfl];try simp only[oh,iY]
             have n9:=i6 _ _ e5 (by simp);simp only[iY,n9,tY];refine Ds n9 (by simp;exact aA 0 0 0 10000000 0 16777000 (aw e6) d4 rfl) ?_;simp only[bC,e6];generalize g3:C.length=g at*;have j2:(C++ck c.length (aa.a [])).length=g+c.length:=by simp[g3]
             try simp only[oi,Bf,cg,cb,ce,cf,Be]
             rw[j2];have o3:(C++ck c.length (aa.a [])++[aa.a<|az c.length λj=>O.a<|g+j])[g+c.length]?=V (.a<|az c.length λj=>O.a<|g+j):=rl j2.symm;have o2:∀j,j<c.length->(C++ck c.length (aa.a [])++[aa.a<|az c.length λj=>O.a<|g+j])[g+j]?=V (.a []):=λj k=>by rw[fY,<-g3];exact Dt k
             have e1:C<+:C++ck c.length (aa.a [])++[aa.a<|az c.length λj=>O.a<|g+j]:=by rw[fY];exact aB _ _
             have f5:(C++ck c.length (aa.a [])++[aa.a<|az c.length λj=>O.a<|g+j]).length=g+c.length+1:=by simp[g3];exact be (aO _)<|aO _
             generalize C++ck c.length (aa.a [])++[aa.a<|az c.length λj=>O.a<|g+j]=w6 at*;try simp
             refine fy [(dd,.a A.a),(eE,.a m),(dE,.a r),(eU,.a q),(gU,.a D),(hx,.a K),(iI,.a (f+c.length)),(ku,.a (g+c.length))] (ay e1 h2) (ay e1 g6) (t3.trans e1) u rfl (by simp) rfl ?_;ext@b3 l0 k2 t4 f0 d8
             exact by
              have f2:eC C b3:=(eC.zb e1).za f0;have v2:=f0 _ _ o3 (by simp);have v1:=λj k=>f0 _ _ (o2 j k) (by simp);clear o3 o2 f0;try simp
              try simp
              refine fy (jc.za ⟨l,v,m,r,q,D,K,f+c.length,g+c.length,b3.length,λj=>f+j,λj=>g+j,λ_=>0⟩ A) (aH l0) (aH k2) (t4.trans<|aB _ _) u rfl (by simp) rfl ?_;ext@w h3 g7 t5 i4 x4
              exact by
               have b2:eC b3 w:=(eC.zb<|aB _ _).za i4;have h7:=i4 _ _ (cF (H:=b3) (o:=.d 0 [])) (by simp);have t0:=bH h7;have y3:=d8;have c4:=(i6.za f2).za b2;generalize y4:b3.length=a2 at*;clear i4;try simp only[oo,eZ,eY,gG,ov,ot,cg,cb,ce,cf,ol]
               rw[hh h3 g7 rfl rfl];try simp only[kJ,dg,kI]
               try simp
               have c1:∀{j:Nat}{o:aa},s[j]?=V o->j<f:=λh=>by have:=bH h;exact aj this<|aw b7
               have g5:(w.take f).length=f:=by rw[km];exact PB a3 a7 f5 d8 t0
               have j9:w.take f<+:w:=List.take_prefix _ _;have q9:b.length<=f:=by have:=eq n6;exact aj this<|aw b7
               have g4:b<+:w.take f:=List.prefix_of_prefix_length_le t5 j9 (by exact aj q9<|ar g5);have d5:∀{j:Nat}{o:aa},s[j]?=V o->(∀d1,o≠aa.c d1)->(w.take f)[j]?=V o:=λh c5=>by rw[pv,if_pos<|c1 h];exact c4 _ _ h c5
               have l8:∀j,j<c.length->w[f+j]?=V (.a []):=λj k=>b2 _ _ (f2 _ _ (s7 j k)<|by simp) (by simp);have o1:∀j,j<c.length->w[g+j]?=V (.a []):=λj k=>b2 _ _ (v1 j k) (by simp);have t2:=c1 n0;have v4:=c1 e5;have x2:q<f:=by ext(@bp f8)c5 w9 h _;exact c1 h
               have j5:dc (w.take f) w G A ⟨l,v,m,r,q,D,K,f+c.length,g+c.length,a2,λj=>f+j,λj=>g+j,λ_=>0⟩ c [] (λ_=>[]) (λ_=>[]) λ_=>[]:={a:=j9,b:=h3,c:=g7,j:=c4 _ _ n0 (by simp),f:=c4.zd j8,l:=c4.zc f8,g:=b2 _ _ (f2 _ _ s6<|by simp) (by simp),k:=b2 _ _ v2 (by simp),h:=(bK 0 (λ_=>0) h7<|by simp),d:=l8,e:=o1,i:=by simp}
               have j6:kP (w.take f) ⟨l,v,m,r,q,D,K,f+c.length,g+c.length,a2,λj=>f+j,λj=>g+j,λ_=>0⟩ c.length []:={
                a:=λj k=>by
                 delta j;intros _
                 exact by
                  rw[g5];simp only;rcases k with⟨i,z,rfl⟩|⟨i,z,rfl⟩|⟨p,B,rfl⟩;.simp only;exact PC a3 a7 t2 v4 z
                  .simp only;exact PD a8 T P S E n7 m2 a3 a7 z
                  .cases B
                c:=λi j _ _ e=>by simp only at e;exact Go e
                d:=λi j _ _ e=>by simp only at e;exact Go e
                g:=by simp
                b:=λi j z k=>by simp only;exact PE a3 a7 z
                e:=by simp
                f:=by simp};obtain⟨o8,a6⟩:∃o8,o8=bI a a.length:=⟨_,rfl⟩;have r3:∀i,i<c.length->∀j∈hL G a c (ci c i),j<c.length:=λi z j k=>by ext(_:(Dr t y).mp k)z3 v5 n-;exact hs<|v5.za y
               have u7:=d5 u6 (by simp);have s1:=d5 s0 (by simp);have u9:=λi z=>d5 (u8 i z) (by simp);refine I9 (L:=⟨l,v,m,r,q,D,K,f+c.length,g+c.length,a2,λj=>f+j,λj=>g+j,λ_=>0⟩) (b6.za g4) X (b5.za g4) t y a6 j5 j6 (by rw[g5];simp only;exact PF a3 a7 f5 d8) (by simp only;exact PG a8 T P S E n7 m2 a3 a7 f5 d8) λc8 y7 p9 w7 q0 L r4 q2 q3 j3 r2=>?_;have d9:=L.a;have b9:=L.b;have a1:=L.c;have l6:=L.g;have l9:=L.d;have m1:=L.h;have m4:=L.i;ext(bd:L.f)y9 o0 v0 _;simp only at b9 a1 l6 l9 m1 m4 o0;have a1:c8[v]?=V (.c [(dd,.a A.a),(eE,.a m),(dE,.a r),(eU,.a q),(gU,.a D),(hx,.a K),(iI,.a (f+c.length)),(ku,.a (g+c.length)),(hy,.a a2)]):=a1;have u3:b<+:c8:=g4.trans d9;clear L j5 j6 r4 g7 h3 k2 l0 g6 h2 h0 h6 l8 o1 h7 b2 f2 i6 c4 d5 c1;try simp only[JK,eZ,eY,gG,qY,mV,dI,fS,cg,cb,ce,cf,dH]
               rw[bE b9 a1 rfl rfl];try simp only[dy,dg,en,lH,CK]
               simp[o0,v0];rw[bE b9 a1 rfl rfl];try simp only[dy,dI,fS,cg,cb,ce,cf,dH]
               rw[bE b9 a1 rfl rfl];try simp only[dy,dg,en,qS]
               refine Lc (a4:=λi=>iu G a<|ci c i) (B:=λi=>hL G a c<|ci c i) (ay d9 u7) (λc6 c2=>ay d9<|u9 c6 c2) (ay d9 s1) r3 (by exact an 0 10000000 0 16000000 d4 rfl) λw0 i9 v7 e2 _ u4 n8=>?_;have s2:=ay e2 b9;have r6:=ay e2 a1;try simp
               refine fy [(dd,.a A.a),(eE,.a m),(dE,.a r),(eU,.a q),(gU,.a D),(hx,.a K),(iI,.a (f+c.length)),(ku,.a (g+c.length)),(hy,.a a2),(pV,.a i9)] s2 r6 (u3.trans e2) u rfl (by simp) rfl λp5 h4 g8 t6 o4 x5=>?_;have i7:eC c8 p5:=(eC.zb e2).za o4;try simp only[oo,eZ,eY,gG,qZ,tN,dI,cg,dG,cb,ce,cf,dy,fS,dH]
               rw[bE h4 g8 rfl rfl];try simp only[dy,dI,fS,cg,cb,ce,cf,dH]
               rw[bE h4 g8 rfl rfl];try simp only[dy,dg,en,qS]
               refine Lc (a4:=v7) (B:=p9) (i7 _ _ l6<|by simp) (λc6 c2=>i7 _ _ (l9 c6 c2)<|by simp) (o4 _ _ u4<|by simp) (λc6 c2=>(q2 c6 c2).2) (by exact an 0 10000000 0 16000000 d4 rfl) λw1 p1 x0 e3 _ u5 k8=>?_;have s3:=ay e3 h4;have r7:=ay e3 g8;try simp
               refine fy [(dd,.a A.a),(eE,.a m),(dE,.a r),(eU,.a q),(gU,.a D),(hx,.a K),(iI,.a (f+c.length)),(ku,.a (g+c.length)),(hy,.a a2),(pV,.a i9),(pW,.a p1)] s3 r7 (t6.trans e3) u rfl (by simp) rfl λp6 h5 g9 t7 o5 x6=>?_;have o7:eC c8 p6:=(i7.za<|eC.zb e3).za o5;try simp only[oo,eZ,eY,qZ,ot,cg,cb,ce,cf,ol]
               rw[hh h5 g9 rfl rfl];try simp only[kJ,dg,kI]
               try simp
               refine J2 h5 g9 rfl rfl (o7.zc m1) (a6▸Lq t _) (a6▸Du X t) (λp B=>o7 _ _ (m4 p B)<|by simp) (λp B=>(q3 p B).2) (o5 _ _ u5<|by simp) λw2 p2 e8 i1 q7 s9=>?_;have s4:=ay i1 h5;have r8:=ay i1 g9;try simp
               refine fy [(dd,.a A.a),(eE,.a m),(dE,.a r),(eU,.a q),(gU,.a D),(hx,.a K),(iI,.a (f+c.length)),(ku,.a (g+c.length)),(hy,.a a2),(pV,.a i9),(pW,.a p1),(sB,.a p2)] s4 r8 (t7.trans i1) u rfl (by simp) rfl λp7 s5 r9 t8 v6 x7=>?_;refine o9 p7 p2 e8 t8 s5 (ad _ r9 rfl) (a6▸v6.zc q7) λp B j0=>?_;rw[<-a6]at B;rw[s9 p B];have u2:p.2<G.c:=by obtain⟨w8,q1⟩:=p;rw[a6]at B;ext(ac:lO.mp B)_ n(n)p3 e4 r5;exact((lP t e4).2.2 q1 r5).1
               have m3:=λj=>J1 (l:=q0 p) (p:=p) y g2 u2 (λj=>r2 p j B) (j:=j);constructor;.ext n(n)j q4 d2(bd:(m3 j).mp q4)x b0 d3 n-;rw[k8 _<|hs b0]at d2;exact ad x d3<|(Lo t y g2 j3 n8 b0).mp d2
               .ext n(n)x d3 q5;have b0:x∈c:=by ext(ac:id d3)n _(@ac n)p4 d2(p4)p3 e4 t1;obtain⟨z1,z2⟩:=x;rw[y];exact iq.mpr<|aI ((bi.mp e4).1) (ad p3 e4 t1) d2
                refine ad (c.idxOf x) ((m3 _).mpr<|aT x b0 d3 rfl) ?_;rw[k8 _<|hs b0];exact(Lo t y g2 j3 n8 b0).mpr q5
theorem J4(g:bm H R G)(c:gj G)(e:er H R A a)(h:bJ G a)(q:∀(I:J)(r:Nat)(b:Nat×Nat->Nat),H<+:I->ch I r (bI a a.length) (λp=>Z<|b p)->(∀p∈bI a a.length,∀t,(b p).testBit t=M↔∃x,ng G a p.1 p.2 x/\eB G a x t)->Q (.a r) I):aY (d+6) vY [.a A.a] H Q:=by
 rw[bR BH 0 rfl rfl rfl rfl<|by decide];simp[BH];refine J3 (v:=H.length) g c e h (by simp) (by simp) (aB _ _) (aO _) λo r b m j n f k=>Y n λs i l=>⟨rfl,?_⟩;try simp only[dH]
 rw[bE j i rfl l];try simp only[Bh,KC]
 exact q _ _ _ m f k
end
section
variable{G:ap}{a:List aJ}{b:Nat×Nat->Nat}
theorem J5(l:bJ G a)(g:gj G){p:Nat×Nat}(h:∀t,(b p).testBit t=M↔∃x,ng G a p.1 p.2 x/\eB G a x t):b p|||hk G (G.d p.2)=hk G (G.d p.2):=by apply EP;ext t;rw[gq];cases e:(b p).testBit t with|false=>simp|true=>ext(_:(h t).mp e)x d k(@bD d)f j w(@ac f)w i;have c:=k.za l g.a i;rw[<-j]at c;simp only[Bool.true_or];exact((io _).mpr ⟨c.za,c⟩).symm
theorem J6(d:bJ G a)(c:gj G){p:Nat×Nat}(j:p∈bI a a.length)(h:∀t,(b p).testBit t=M↔∃x,ng G a p.1 p.2 x/\eB G a x t):b p≠0:=by obtain⟨q,r⟩:=p;ext(ac:lO.mp j)w i(i)s l k(aD:H8 d c.a l k)g f(aD:H9 d c g g (aO _) _ f.1)t m e;have:=(h t).mpr<|ad _ f m;rw[e]at this;simp at this
end
section
variable{a H I:J}{d:Nat}{Q:au}
theorem Lr{c g:Nat}{a b e f:O}(i:H[c]?=V (.e fZ g))(h:H[g]?=V (.c []))(q:∀I,I[c]?=V (.e fZ g)->I[g]?=V (.c [(cp,a),(dD,b),(el,e),(jy,f),(kv,.e),(li,.b 0),(mr,.b 0)])->bn (·=g) H I->I.length=H.length->Q .e I):aY (d+1) iM [.a c,a,b,e,f] H Q:=by
 delta H d Q c g a b e f;ext i h q;have r:5+(ft iM).length=gH iM:=by decide
 rw[CE (a:=[.a c,a,b,e,f]) BL [V<|.a c,V a,V b,V e,V f,V .e,V<|.b 0,V<|.b 0] rfl r (by decide) rfl];simp[BL];refine dr (f:=[(cp,a)]) i h rfl (by simp) rfl λa0 z s j K=>?_;try simp
 refine dr (f:=[(cp,a),(dD,b)]) z s rfl (by simp) rfl λa1 A t k L=>?_;try simp
 refine dr (f:=[(cp,a),(dD,b),(el,e)]) A t rfl (by simp) rfl λa2 B u l P=>?_;try simp
 refine dr (f:=[(cp,a),(dD,b),(el,e),(jy,f)]) B u rfl (by simp) rfl λa3 C v m R=>?_;try simp
 refine dr (f:=[(cp,a),(dD,b),(el,e),(jy,f),(kv,.e)]) C v rfl (by simp) rfl λa4 D w n S=>?_;try simp
 refine dr (f:=[(cp,a),(dD,b),(el,e),(jy,f),(kv,.e),(li,.b 0)]) D w rfl (by simp) rfl λa5 E x o T=>?_;try simp
 refine dr (f:=[(cp,a),(dD,b),(el,e),(jy,f),(kv,.e),(li,.b 0),(mr,.b 0)]) E x rfl (by simp) rfl λa6 G y p X=>?_;try simp
 exact q _ G y (((((j.za k).za l).za m).za n).za o|>.za p) (by exact PH K L P R S T X)
noncomputable def oS(a:Nat)(l:List Nat):Int:=l.foldl (λf s=>if s<a then(s:Int)else f)<|-1
theorem J7{i a:Nat}{b:List Nat}(h:H[i]?=V (.b<|b.map Z))(q:Q (.b<|oS a b) H):aY (d+1) wb [.a i,Z a] H Q:=by
 delta H d Q i a b;ext h q;rw[bR BW 2 rfl rfl rfl rfl<|by decide];simp[BW,h];refine bV (λk r I=>∃j,r=[V<|.a i,V<|Z a,V<|.b<|oS a<|b.take k,j]/\I=H) (ad _ rfl rfl) ?_ ?_
 .ext@k@x@r@I@K l o n c
  exact by
   ext(nK c)@j f
   exact by
    have f:=f.symm;subst f;ext(_:cB n)@s m c
    exact by
     subst c;refine⟨h,?_⟩;simp;have e:oS a (b.take<|k+1)=if s<a then(s:Int)else oS a (b.take k):=by rw[gL m];simp[oS]
     refine cE (λg=>?_) λg=>?_;.simp at g;exact(l _ _<|ad _ (by rw[e,if_pos g]) rfl).1
     .simp at g;exact(l _ _<|ad _ (by rw[e,if_neg<|by exact pr g]) rfl).1
 .ext r I c(nK c)j f;have f:=f.symm;subst f;refine⟨h,?_⟩;simp;simpa using q
end
structure jX(H:J)(R:cC)(G:ap):Prop where
 d:H[R.b]?=V (.a<|G.f.map .c)
 a:H[R.c]?=V (.a<|az G.c λk=>.a<|R.d k)
 b:∀k,k<G.c->H[R.d k]?=V (.e fZ<|R.i k)
 c:∀k,k<G.c->H[R.i k]?=V (.c [(cp,Z k),(dD,Z (G.d k)),(el,.a (R.e k)),(jy,.b (G.g k)),(kv,.e),(li,.b 0),(mr,.b 0)])
 e:∀k,k<G.c->H[R.e k]?=V (.b<|(G.b k).map Z)
theorem jX.za{H I:J}{R:cC}{G:ap}(h:jX H R G)(p:H<+:I):jX I R G:=⟨ay p h.d,ay p h.a,λk a=>ay p<|h.b k a,λk a=>ay p<|h.c k a,λk a=>ay p<|h.e k a⟩
noncomputable def je(G:ap)(k s:Nat):List Nat:=(cv k).filter λj=>G.d j=s
theorem J8(G:ap)(k s:Nat):je G (k+1) s=je G k s++(if G.d k=s then[k]else[]):=by unfold je;rw[nC,nD];congr 1;by_cases h:G.d k=s<;>simp[h]
structure fz(l H:J)(m k q r p j:Nat)(G:ap)(n:Nat->List Nat)(o w:List Nat):Prop where
 a:l<+:H
 i:l.length<=j
 h:m<j/\k<j
 e:H[m]?=V (.e lj k)
 f:H[k]?=V (.c [(eF,.a q),(eV,Z G.a),(dO,.a r),(ib,.a p),(iJ,.e),(jz,Z G.e),(ic,.a (j+G.za)),(hz,.a (j+G.za+1)),(gw,.a (j+G.za+2))])
 g:H[j+G.za]?=V (.a<|az G.za λs=>.a<|j+s)
 c:∀s,s<G.za->H[j+s]?=V (.a<|(n s).map Z)
 d:H[j+G.za+1]?=V (.a<|o.map Z)
 b:H[j+G.za+2]?=V (.a<|w.map Z)
section
variable{e H I:J}{R:cC}{G:ap}{d g c f h b a:Nat}{Q:au}
theorem jX.zb(h:jX H R G){k:Nat}(a:k<G.c):cS (.a<|R.d k) cp H Q=Q (Z k) H:=bE (h.b k a) (h.c k a) rfl rfl
theorem jX.zc(h:jX H R G){k:Nat}(a:k<G.c):cS (.a<|R.d k) dD H Q=Q (Z<|G.d k) H:=bE (h.b k a) (h.c k a) rfl rfl
theorem jX.zd(h:jX H R G){k:Nat}(a:k<G.c):cS (.a<|R.d k) el H Q=Q (.a<|R.e k) H:=bE (h.b k a) (h.c k a) rfl rfl
theorem fz.za{j:Nat->List Nat}{o w:List Nat}{d:Nat}{x:O}(i:fz e H g c f h b a G j o w)(k:([(eF,.a f),(eV,Z G.a),(dO,.a h),(ib,.a b),(iJ,.e),(jz,Z G.e),(ic,.a (a+G.za)),(hz,.a (a+G.za+1)),(gw,.a (a+G.za+2))]:List (Nat×O)).lookup d=V x)(l:eT lj d=U):cS (.a g) d H Q=Q x H:=bE i.e i.f l k
theorem fz.zb{i:Nat->List Nat}{o w:List Nat}(d:fz e H g c f h b a G i o w)(p:H<+:I):fz e I g c f h b a G i o w:={d with a:=d.a.trans p,e:=ay p d.e,f:=ay p d.f,g:=ay p d.g,c:=λs j=>ay p<|d.c s j,d:=ay p d.d,b:=ay p d.b}
theorem fz.zc{k m:Nat->List Nat}{o w l:List Nat}{s:Nat}{x:aa}(d:fz e H g c f h b a G k o w)(j:s<G.za)(i:x=.a (l.map Z))(p:m=bb k s l):fz e (H.set (a+s) x) g c f h b a G m o w:=by
 subst i;subst p;have:=d.h;have:=d.i
 exact{d with
  a:=dq d.a (by exact aj this<|ds _ _)
  e:=aX d.e (by exact PI (by assumption))
  f:=aX d.f (by exact PJ (by assumption))
  g:=aX d.g (by exact PK j)
  c:=λt n=>by
   by_cases i:t=s;.subst i;rw[bx];exact cq<|d.c t n
   .rw[bc i];exact aX (d.c t n) (by exact PL i)
  d:=aX d.d (by exact PM j)
  b:=aX d.b (by exact PN j)}
theorem fz.zd{i:Nat->List Nat}{o w l:List Nat}{x:aa}(d:fz e H g c f h b a G i o w)(k:x=.a (l.map Z)):fz e (H.set (a+G.za+1) x) g c f h b a G i l w:=by subst k;have:=d.h;have:=d.i;exact{d with a:=dq d.a (by exact aA 0 0 0 0 0 1 this (ds _ _) rfl),e:=aX d.e (by exact PO (by assumption)),f:=aX d.f (by exact PP (by assumption)),g:=aX d.g (by exact aL<|aO _),c:=λt j=>aX (d.c t j) (by exact PQ j),d:=cq d.d,b:=aX d.b (by exact bh<|aO _)}
theorem fz.ze{i:Nat->List Nat}{o w l:List Nat}{x:aa}(d:fz e H g c f h b a G i o w)(k:x=.a (l.map Z)):fz e (H.set (a+G.za+2) x) g c f h b a G i o l:=by subst k;have:=d.h;have:=d.i;exact{d with a:=dq d.a (by exact aA 0 0 0 0 0 2 this (ds _ _) rfl),e:=aX d.e (by exact PR (by assumption)),f:=aX d.f (by exact PS (by assumption)),g:=aX d.g (by exact aL<|du _ 1 2 rfl),c:=λt j=>aX (d.c t j) (by exact PT j),d:=aX d.d (by exact aL<|aO _),b:=cq d.b}
theorem J9(a:G.zf):∀k,k<=G.c->(G.zn k).length<=4*k|0,_=>by simp[ap.zn]|k+1,h=>by have:=J9 a k (by exact an 1 0 0 0 h rfl);have:=a.e k (by exact h);rw[ap.zn,hR,ML];exact Gc (by assumption) this
theorem K0(p:jX e R G)(t:G.zf)(c4:H[g]?=V (.e lj c))(c1:H[c]?=V (.c []))(d0:e<+:H)(i:e.length<=c)(e4:g≠c)(d2:∀I b1,b1.a=g->bm I b1 G->e<+:I->Q .e I):aY (d+1) SK [.a g,.a R.b,Z G.a,.a R.c,.a b,.e,Z G.e] H Q:=by
 delta e H R G d g c b Q;ext p t c4 c1 d0 i e4 d2;rw[bR BM 2 rfl rfl rfl rfl<|by decide];have d5:=t.b;have D:=t.a;simp[BM];refine fy [(eF,.a R.b)] c4 c1 d0 i rfl (by simp) rfl ?_;ext@P e5 d9 f3 _ g7
 exact by
  try simp
  refine fy [(eF,.a R.b),(eV,Z G.a)] e5 d9 f3 i rfl (by simp) rfl ?_;ext@u a2 a0 L _ f0
  exact by
   try simp
   refine fy [(eF,.a R.b),(eV,Z G.a),(dO,.a R.c)] a2 a0 L i rfl (by simp) rfl ?_;ext@g1 e6 e0 f4 _ g8
   exact by
    try simp
    refine fy [(eF,.a R.b),(eV,Z G.a),(dO,.a R.c),(ib,.a b)] e6 e0 f4 i rfl (by simp) rfl ?_;ext@g2 e7 e1 f5 _ g9
    exact by
     try simp
     refine fy [(eF,.a R.b),(eV,Z G.a),(dO,.a R.c),(ib,.a b),(iJ,.e)] e7 e1 f5 i rfl (by simp) rfl ?_;ext@g3 e8 e2 f6 _ h0
     exact by
      try simp
      refine fy [(eF,.a R.b),(eV,Z G.a),(dO,.a R.c),(ib,.a b),(iJ,.e),(jz,Z G.e)] e8 e2 f6 i rfl (by simp) rfl ?_;ext@n a3 a1 a6 _ h1
      exact by
       try simp
       rw[bE a3 a1 rfl rfl];try simp only[oh,iY]
       have c8:=ay a6 p.d;simp only[iY,c8,tY];have c7:(G.f.map O.c).length=G.za:=by simp[ap.za]
       refine Ds c8 (by exact aA 0 0 0 10 0 16777000 (aw c7) d5 rfl) ?_;rw[c7];generalize f:n.length=a at*;have b3:(n++ck G.za (aa.a [])).length=a+G.za:=by simp[f]
       try simp only[oi,Bf,cg,cb,ce,cf,Be]
       rw[b3];have b7:(n++ck G.za (aa.a [])++[aa.a<|az G.za λj=>O.a<|a+j])[a+G.za]?=V (.a<|az G.za λj=>O.a<|a+j):=rl b3.symm;have c0:∀j,j<G.za->(n++ck G.za (aa.a [])++[aa.a<|az G.za λj=>O.a<|a+j])[a+j]?=V (.a []):=λj z=>by rw[fY,<-f];exact Dt z
       have a7:n<+:n++ck G.za (aa.a [])++[aa.a<|az G.za λj=>O.a<|a+j]:=by rw[fY];exact aB _ _
       have x:(n++ck G.za (aa.a [])++[aa.a<|az G.za λj=>O.a<|a+j]).length=a+G.za+1:=by simp[f];exact be (aO _)<|aO _
       generalize n++ck G.za (aa.a [])++[aa.a<|az G.za λj=>O.a<|a+j]=g5 at*;refine dr (f:=[(eF,.a R.b),(eV,Z G.a),(dO,.a R.c),(ib,.a b),(iJ,.e),(jz,Z G.e),(ic,.a (a+G.za))]) (ay a7 a3) (ay a7 a1) rfl (by simp) rfl λg4 c5 c2 X A=>?_;have l:=bH a1;have f7:=X.zb (a6.trans a7) λj h=>by exact aj i<|ar h
       have b5:=X.a _ _ b7 (by exact aL<|aj (aj l<|aw f)<|ds _ _);have b8:=λj z=>X.a _ _ (c0 j z) (by exact aL<|aj (aj l<|aw f)<|ds _ _);try simp
       rw[A,x];refine dr (f:=[(eF,.a R.b),(eV,Z G.a),(dO,.a R.c),(ib,.a b),(iJ,.e),(jz,Z G.e),(ic,.a (a+G.za)),(hz,.a (a+G.za+1))]) (aH c5) (aH c2) rfl (by simp) rfl λd3 c6 c3 C f1=>?_;have f8:=C.zb (f7.trans<|aB _ _) λj h=>by exact aj i<|ar h
       have b6:=C.a _ _ (aH b5) (by exact aL<|aj (aj l<|aw f)<|ds _ _);have b9:=λj z=>C.a _ _ (aH<|b8 j z) (by exact aL<|aj (aj l<|aw f)<|ds _ _);have c9:=C.a (a+G.za+1) (.a []) (rl<|by exact be (aj (ar x)<|ar A)<|aj (aw A)<|aw x) (by exact aL<|aA 1 0 0 0 1 1 (aj l<|aw f) (ds _ _) rfl);try simp
       have a5:d3.length=a+G.za+2:=by rw[f1];simp;exact be (aj (aw A)<|aw x)<|aj (ar x)<|ar A
       rw[a5];refine dr (f:=[(eF,.a R.b),(eV,Z G.a),(dO,.a R.c),(ib,.a b),(iJ,.e),(jz,Z G.e),(ic,.a (a+G.za)),(hz,.a (a+G.za+1)),(gw,.a (a+G.za+2))]) (aH c6) (aH c3) rfl (by simp) rfl λd4 e9 e3 w h2=>?_;have d6:e.length<=a:=by have:=eq a6;exact aj this<|aw f
       have T:fz e d4 g c R.b R.c b a G (λ_=>[]) [] []:={
        i:=d6
        h:=⟨by have:=bH a3;exact aj this<|aw f,by exact aj l<|aw f⟩
        a:=w.zb (f8.trans<|aB _ _) λj h=>by exact aj i<|ar h
        e:=e9
        f:=e3
        g:=w.a _ _ (aH b6) (by exact aL<|aj (aj l<|aw f)<|ds _ _)
        c:=λs a8=>w.a _ _ (aH<|b9 s a8) (by exact aL<|aj (aj l<|aw f)<|ds _ _)
        d:=w.a _ _ (aH c9) (by exact aL<|aA 1 0 0 0 1 1 (aj l<|aw f) (ds _ _) rfl)
        b:=w.a (a+G.za+2) (.a []) (rl<|by exact be (ar a5)<|aw a5) (by exact aL<|aA 1 0 0 0 1 2 (aj l<|aw f) (ds _ _) rfl)};clear c9 b9 b6 b8 b5 c0 b7 c3 c2 c6 c5;have d8:=p.za T.a;try simp
       rw[T.za rfl rfl];simp[d8.a];refine bV (λk b0 I=>∃a9,b0=[V<|.a g,V<|.a R.b,V<|Z G.a,V<|.a R.c,V<|.a b,V .e,V<|Z G.e,a9,U]/\k<=G.c/\fz e I g c R.b R.c b a G (je G k) ((cv k).map G.zb) (G.zn k)) (aT _ rfl (by exact an 6 0 0 0 (ar D) rfl) T) ?_ ?_
       .ext@k@h4@b0@I@g6 d7 h3 g0 q
        exact by
         ext(lc q)a9 K S(ac:gf g0)m q-;have y:=p.za S.a;refine⟨y.a,?_⟩;have a4:=t.c k m;try simp
         rw[S.za rfl rfl];have f9:(je G k<|G.d k).length<=6:=by unfold je;have:=ht (λj=>aP<|G.d j=G.d k)<|cv k;simp at this;exact aj (aj this K)<|aw D
         simp[S.g,y.zc m,cc a4,S.c _ a4,y.zb m];refine⟨by exact an 0 6 0 16777215 f9 rfl,?_⟩
         have r:fz e (I.set (a+G.d k)<|.a<|(je G k<|G.d k).map Z++[Z k]) g c R.b R.c b a G (je G<|k+1) ((cv k).map G.zb)<|G.zn k:=S.zc a4 (l:=je G k (G.d k)++[k]) (by simp) (by
          funext s;rw[J8];by_cases h:s=G.d k;.subst h;rw[bx];simp
          .rw[bc h,if_neg<|cy h];simp);generalize I.set (a+G.d k) (.a<|(je G k<|G.d k).map Z++[Z k])=P at*;rw[r.za rfl rfl];simp[r.d];rw[r.za rfl rfl];simp[r.b,r.d];refine⟨by exact aA 0 0 0 6 0 16777215 K (aw D) rfl,?_⟩;have B:fz e (P.set (a+G.za+1)<|.a<|(cv k).map (Z∘G.zb)++[.b (G.zn k).length]) g c R.b R.c b a G (je G<|k+1) ((cv<|k+1).map G.zb)<|G.zn k:=r.zd (by rw[nC,G.zC];simp);generalize P.set (a+G.za+1) (.a<|(cv k).map (Z∘G.zb)++[.b (G.zn k).length])=u at*;have o:=p.za B.a;have b4:=o.za<|aB u [aa.a [Z k]];have b2:=B.zb<|aB u [aa.a [Z k],aa.a<|ck ((G.b k).length+1)<|Z k];have d1:=t.e k m;have f2:=J9 t k (by exact K);rw[B.za rfl rfl];simp[B.b,o.zb m,b4.zd m,b4.e k m];refine aI (by exact vQ) (by exact PU d1) ?_;simp only[b2.b,D1];simp;refine⟨by exact PV D m d1 f2,(d7 _ _<|aT _ rfl (by exact m)<|b2.ze ?_).1⟩;rw[ap.zn,iD];simp
       .ext@b0@I q
        exact by
         ext(lc q)a9 K S;have y:=p.za S.a;refine⟨y.a,?_⟩;simp only[gI]at S;try simp
         rw[S.za rfl rfl];simp[S.b];refine dr (f:=[(eF,.a R.b),(eV,Z G.a),(dO,.a R.c),(ib,.a b),(iJ,.e),(jz,Z G.e),(ic,.a (a+G.za)),(hz,.a (a+G.za+1)),(gw,.a (a+G.za+2)),(sD,Z G.zc)]) S.e S.f rfl (by simp) (by rw[G.zC];rfl) λu a2 a0 v f0=>?_;have L:=v.zb S.a λj h=>by exact aj i<|ar h
         have o:=p.za L;have E:=S.h;refine d2 u {R with a:=g,j:=c,k:=b,f:=a+G.za,g:=a+G.za+1,h:=a+G.za+2,l:=λs=>a+s} rfl {c:=a2,d:=a0,i:=o.d,a:=o.a,e:=o.b,f:=o.c,b:=o.e,j:=v.a _ _ S.g (by show a+G.za≠c;exact aL<|aj E.2<|ds _ _),k:=λs a8=>v.a _ _ (S.c s a8) (by show a+s≠c;exact aL<|aj E.2<|ds _ _),g:=(v.a _ _ S.d<|by exact aL<|aA 1 0 0 0 1 1 E.2 (ds _ _) rfl).trans (by simp[az]),h:=v.a _ _ S.b (by show a+G.za+2≠c;exact aL<|aA 1 0 0 0 1 2 E.2 (ds _ _) rfl)} L
end
set_option genSizeOf false
set_option genInjectivity false
structure bW where
 b:Nat
 c:Nat->N
 a:Nat->List N
instance:Nonempty bW:=⟨by constructor<;>exact cU⟩
noncomputable abbrev oT:N:=aF "S"
noncomputable abbrev uq:N:=aF "$accept"
noncomputable abbrev jY:N:=aF "$end"
noncomputable def cw:List N:=[aF "S",aF "T",aF "U"]
noncomputable def dT:List N:=[aF "a",aF "b",aF "c"]
structure cM(P:bW):Prop where
 a:P.b=5
 d:∀k,k<P.b->P.c k∈cw
 e:P.c 0=oT
 c:∀k,k<P.b->∀x∈P.a k,x∈dT\/∃j,j<P.b/\P.c j=x
 b:∀k,k<P.b->(P.a k).length<=3
 f:∀k,k<P.b->∃j,j<P.b/\P.c j=P.c k/\∀x∈P.a j,x∈dT
theorem K1:∀x∈dT,x∉cw/\x∉fo/\x≠uq:=by decide
theorem Ls:∀x∈cw,x∉fo/\x≠uq/\x∉dT:=by decide
noncomputable def jZ(l:List N)(x:N):List N:=if x∈l then l else l++[x]
theorem K2{l:List N}{x y:N}:y∈jZ l x↔y∈l\/y=x:=by
 unfold jZ;split;.rename_i h;exact⟨.inl,λa=>a.elim id λe=>e▸h⟩
 .simp
theorem K3{l:List N}{x:N}(h:l.Nodup):(jZ l x).Nodup:=by
 unfold jZ;split;.exact h
 .rename_i f;rw[ff];exact aI h (by simp) (λa d b c e=>by simp at c;subst c;subst e;exact f d)
noncomputable def fA(P:bW):Nat->List N|0=>[]|k+1=>jZ (fA P k)<|P.c k
theorem K4{P:bW}{x:N}:∀{k:Nat},x∈fA P k↔∃j,j<k/\P.c j=x
 |0=>by simp[fA]
 |k+1=>by
  rw[fA,K2,K4];constructor
  .rintro(⟨j,b,a⟩|rfl);.exact ad j (by exact an 1 0 1 1 b rfl) a
   .exact ad k (by exact aO _) rfl
  .ext c(c)j b a;by_cases e:j=k;.subst e;exact .inr a.symm
   .exact .inl<|ad j (by exact cO b e) a
theorem K5{P:bW}:∀k,(fA P k).Nodup|0=>by simp[fA]|k+1=>K3<|K5 k
noncomputable def gM(L t:List N)(x:N):List N:=if x∉L/\x∉t then t++[x]else t
theorem K6{L t:List N}{x y:N}:y∈gM L t x↔y∈t\/(y=x/\x∉L):=by
 unfold gM;split;.rename_i h;rw[bU];simp[h.1]
 .rename_i h;refine⟨.inl,λa=>a.elim id λd=>ac d λe b=>?_⟩;subst e;exact DO λc=>h ⟨b,c⟩
theorem K7{L t:List N}{x:N}(h:t.Nodup):(gM L t x).Nodup:=by
 unfold gM;split;.rename_i f;rw[ff];exact aI h (by simp) (λa d b c e=>by simp at c;subst c;subst e;exact f.2 d)
 .exact h
theorem ur{L:List N}{y:N}:∀{l t:List N},y∈l.foldl (gM L) t↔y∈t\/(y∈l/\y∉L)
 |[],t=>by simp
 |x::l,t=>by
  rw[nr,ur,K6];constructor
  .rintro((h|⟨rfl,h⟩)|⟨h,a⟩);.exact .inl h
   .exact .inr ⟨.head _,h⟩
   .exact .inr ⟨.tail _ h,a⟩
  .rintro(h|⟨h,a⟩);.exact .inl<|.inl h
   .rcases bM.mp h with rfl|h;.exact .inl<|.inr ⟨rfl,a⟩
    .exact .inr ⟨h,a⟩
theorem Lu{L:List N}:∀{l t:List N},t.Nodup->(l.foldl (gM L) t).Nodup|[],t,h=>h|x::l,t,h=>Lu (l:=l)<|K7 h
noncomputable def hm(P:bW)(L:List N):Nat->List N|0=>fo|k+1=>(P.a k).foldl (gM L)<|hm P L k
theorem Lv{P:bW}{L:List N}{x:N}:∀{k:Nat},x∈hm P L k↔x∈fo\/((∃j,j<k/\x∈P.a j)/\x∉L)
 |0=>by simp[hm]
 |k+1=>by
  rw[hm,ur,Lv];constructor
  .rintro((h|⟨⟨j,c,a⟩,b⟩)|⟨h,a⟩);.exact .inl h
   .exact .inr ⟨ad j (by exact an 1 0 1 1 c rfl) a,b⟩
   .exact .inr ⟨ad k (by exact aO _) h,a⟩
  .rintro(h|⟨⟨j,c,a⟩,b⟩);.exact .inl<|.inl h
   .by_cases e:j=k;.subst e;exact .inr ⟨a,b⟩
    .exact .inl<|.inr ⟨ad j (by exact cO c e) a,b⟩
theorem Dv{P:bW}{L:List N}:∀k,(hm P L k).Nodup|0=>by show fo.Nodup;decide|k+1=>Lu<|Dv k
namespace bW
variable(P:bW)
def zc:List N:=fA P P.b
def zd:List N:=hm P P.zc P.b
def ze:List N:=P.zd++[uq]++P.zc
def za(x:N):Nat:=P.ze.idxOf x
def zf(k:Nat):List Nat:=if k=0 then[P.za<|P.c 0,0]else(P.a<|k-1).map P.za
def zb:ap where f:=P.ze;a:=P.zd.length;e:=P.za (P.c 0);c:=P.b+1;d:=λk=>if k=0 then P.zd.length else P.za (P.c<|k-1);b:=P.zf;g:=λk=>if k=0 then 0 else oS P.zd.length (P.zf k)
end bW
section
variable{P:bW}{x y:N}
theorem ni:x∈P.zc↔∃j,j<P.b/\P.c j=x:=K4
theorem rx:x∈P.zd↔x∈fo\/((∃j,j<P.b/\x∈P.a j)/\x∉P.zc):=Lv
theorem iv:x∈P.ze↔x∈P.zd\/x=uq\/x∈P.zc:=by simp[bW.ze,or_assoc]
theorem us:3<=P.zd.length:=by have:=im (l:=fo) (r:=P.zd) (by decide) λx a=>rx.mpr<|.inl a;exact this
theorem nj(d:x∈P.ze)(e:P.za x=P.za y):x=y:=by unfold bW.za at e;have a:=hs d;have f:y∈P.ze:=aaB.mp<|e▸a;have b:=vf a;have c:=vf<|hs f;rw[<-b,<-c];congr 1
theorem Dw(a:x∈P.ze):P.za x<P.ze.length:=hs a
theorem nk(a:x∈P.zd):P.za x<P.zd.length:=by unfold bW.za bW.ze;rw[fY,vq,if_pos a];exact hs a
theorem ry(h:cM P)(b:x∈P.zc):x∈cw:=by ext(_:ni.mp b)j a c-;exact h.d j a
theorem K8(h:cM P)(b:x∈P.zc):x∉P.zd:=λc=>by
 rcases rx.mp c with a|⟨_,a⟩;.exact(Ls x<|ry h b).1 a
 .exact a b
theorem nl(h:cM P)(a:x∈P.zc):P.zd.length<P.za x:=by unfold bW.za bW.ze;rw[fY,vq,if_neg<|K8 h a,vq,if_neg<|by simp;exact(Ls x<|ry h a).2.1];simp
theorem jf(h:cM P){k:Nat}(b:k<P.b)(c:x∈P.a k):x∈P.zd\/x∈P.zc:=by
 by_cases a:x∈P.zc;.exact .inr a
 .exact .inl<|rx.mpr<|.inr ⟨ad k b c,a⟩
theorem K9(h:cM P){k:Nat}(a:k<P.b)(d:x∈P.a k)(c:x∈dT):x∈P.zd:=(jf h a d).elim id λb=>absurd (ry h b) (K1 x c).1
theorem gN{k:Nat}(a:k<P.b):P.c k∈P.zc:=ni.mpr<|ad k a rfl
theorem rz(h:cM P):P.zd.length<=6:=by
 delta P;ext h;refine im (r:=fo++dT) (Dv _) λx e=>?_;rcases rx.mp e with a|⟨⟨j,a,c⟩,d⟩;.exact gS _ a
 .rcases h.c j a _ c with b|b;.exact kq _ b
  .exact absurd (ni.mpr b) d
theorem ut(h:cM P):P.zc.length<=3:=im (r:=cw) (K5 _) λx a=>ry h a
theorem L0(h:cM P):P.ze.length<=10:=by have:=rz h;have:=ut h;simp[bW.ze];exact Qb (by assumption) this
theorem Lw(h:cM P){k:Nat}(b:k<P.b)(c:x∈P.a k):(x∈P.zd/\P.za x<P.zd.length)\/(x∈P.zc/\P.zd.length<P.za x):=(jf h b c).elim (λh=>.inl ⟨h,nk h⟩) λa=>.inr ⟨a,nl h a⟩
theorem nm:P.zf 0=[P.za<|P.c 0,0]:=by simp[bW.zf]
theorem hM{k:Nat}:P.zf (k+1)=(P.a k).map P.za:=by simp[bW.zf]
theorem jg{k:Nat}:P.zb.d (k+1)=P.za (P.c k):=by simp[bW.zb]
theorem ka(h:cM P):gj P.zb:=by
 delta P;ext h;have o:=h.a;have d:=us (P:=P);have u:P.zd.length<P.ze.length:=by simp[bW.ze]
 have y:∃s,P.zf 0=[s,0]/\P.zd.length<s:=ad _ nm<|nl h<|gN (by exact an 5 0 1 0 (ar o) rfl);have w:∀k,k<P.b->P.zd.length<P.zb.d (k+1)/\P.zb.d (k+1)<P.ze.length:=λk b=>by rw[jg];exact⟨nl h<|gN b,Dw<|iv.mpr<|.inr<|.inr<|gN b⟩
 have z:∀k,k<P.b->∀X∈P.zf (k+1),∃x∈P.a k,X=P.za x:=λk b X m=>by rw[hM]at m;ext(_:bY.mp m)x f c;exact ad x f c.symm
 refine{
  a:={
   c:=λk b=>?_
   f:=λk b=>?_
   d:=λk b s g=>?_
   e:=λk b=>?_
   a:=by show P.b+1=6;exact be (an 0 5 1 6 (aw o) rfl)<|an 5 0 6 1 (ar o) rfl
   b:=L0 h
   g:=u}
  c:=let⟨s,f,c⟩:=y;(ad s f<|gn c)
  d:=rfl
  b:=by show 0<P.zd.length;exact an 3 0 1 0 d rfl
  e:=λk b n=>?_
  g:=λk D b=>?_
  f:=λk b X m q=>?_};.cases k with|zero=>exact u|succ k=>exact(w k<|by have:k+1<P.b+1:=b;exact an 2 1 1 0 this rfl).2
 .cases k with|zero=>exact aO _|succ k=>exact gn (w k<|by have:k+1<P.b+1:=b;exact an 2 1 1 0 this rfl).1
 .cases k with
  |zero=>
   have g:s∈P.zf 0:=g;rw[nm]at g;simp at g;rcases g with rfl|rfl;.exact Dw<|iv.mpr<|.inr<|.inr<|gN (by exact an 5 0 1 0 (ar o) rfl)
   .show 0<P.ze.length;exact aA 3 0 1 0 1 0 d u rfl
  |succ k=>
   have b:k<P.b:=by have:k+1<P.b+1:=b;exact an 2 1 1 0 this rfl
   ext(_:z k b s g)x f p-;refine Dw<|iv.mpr ?_;rcases jf h b f with c|c;.exact .inl c
   .exact .inr<|.inr c
 .cases k with|zero=>show(P.zf 0).length<=3;rw[nm];simp|succ k=>show(P.zf<|k+1).length<=3;rw[hM,bC];exact h.b k (by have:k+1<P.b+1:=b;exact an 2 1 1 0 this rfl)
 .have n:P.zd.length∈P.zf k:=n
  cases k with
  |zero=>
   ext(y)s f c;rw[f]at n;rcases bM.mp n with e|n;.exact bB 1 0 (aj c<|ar e) rfl
   .have:=hV.mp n;exact bB 3 0 (aj d<|aw this) rfl
  |succ k=>
   have b:k<P.b:=by have:k+1<P.b+1:=b;exact an 2 1 1 0 this rfl
   ext(_:z k b _ n)x f c;rcases Lw h b f with d|d;.exact(bh d.2 c.symm).elim
   .exact(aL d.2 c.symm).elim
 .cases k with|zero=>exact(bB 1 0 D rfl).elim|succ k=>have:=(w k<|by have:k+1<P.b+1:=b;exact an 2 1 1 0 this rfl).1;show P.zb.d (k+1)≠P.zd.length;exact aL this
 .have A:∀x,x∈P.zc->∃j,j<P.zb.c/\P.zb.d j=P.za x/\(bN P.zb (P.za x)\/∃t I,P.zb.b j=t::I/\t<P.zb.a):=λx H=>by
   delta x;intros _
   exact by
    ext(_:ni.mp H)@i E p
    exact by
     subst p;ext(bd:h.f i E)@j r C G
     exact by
      refine aT (j+1) (by show j+1<P.b+1;exact an 1 0 2 1 r rfl) (by rw[jg,C]) ?_
      cases v:P.a j with
      |nil=>left;have:=bN.mk (G:=P.zb) (j+1) (by show j+1<P.b+1;exact an 1 0 2 1 r rfl) (λs g=>by have g:s∈P.zf (j+1):=g;rw[hM,v]at g;simp at g);rwa[jg,C]at this
      |cons a l=>
       right;refine bK (P.za a) (l.map P.za) (by show P.zf (j+1)=_;rw[hM,v];rfl) ?_;have B:a∈P.a j:=by rw[v];simp
       exact nk<|K9 h r B<|G a B
  have m:X∈P.zf k:=m;have q:P.zd.length<=X:=q
  cases k with
  |zero=>
   rw[nm]at m;simp at m;rcases m with rfl|rfl;.exact A _<|gN (by exact an 5 0 1 0 (ar o) rfl)
   .exact(bB 3 0 (aj d q) rfl).elim
  |succ k=>
   have b:k<P.b:=by have:k+1<P.b+1:=b;exact an 2 1 1 0 this rfl
   ext(_:z k b X m)x f p-;rcases Lw h b f with d|d;.exact(bB 1 0 (aA 0 0 1 0 1 0 q d.2 rfl) rfl).elim
   .exact A x d.1
end
structure gO(H:J)(r:Nat)(P:bW)(e d:Nat->Nat):Prop where
 a:H[r]?=V (.a<|az P.b λk=>.a<|e k)
 c:∀k,k<P.b->H[e k]?=V (.b [.c<|P.c k,.a<|d k])
 b:∀k,k<P.b->H[d k]?=V (.a<|(P.a k).map .c)
theorem gO.za{H I:J}{r:Nat}{P:bW}{c b:Nat->Nat}(h:gO H r P c b)(p:H<+:I):gO I r P c b:=⟨ay p h.a,λk a=>ay p<|h.c k a,λk a=>ay p<|h.b k a⟩
theorem L1:∀x∈cw,x≠aF "error"/\x.cps.size=1/\x∉[aF "",aF "$",aF "'"]:=by decide
theorem L2{P:bW}:∀k,(fA P k).length<=k
 |0=>by simp[fA]
 |k+1=>by
  have:=L2 (P:=P) k;rw[fA];unfold jZ;split;.exact an 0 0 0 1 this rfl
  .simp;exact this
theorem L3{P:bW}:∀{k:Nat},0<k->(fA P k)[0]?=V (P.c 0)
 |1,_=>by simp[fA,jZ]
 |k+2,_=>by
  have a:=L3 (P:=P) (k:=k+1) (by exact vM);rw[fA];unfold jZ;split;.exact a
  .rw[gQ (bi.mp a).1];exact a
noncomputable def Lx:aW:=.m 7 8 (.b 0)<|.b (.g (.t (.i .Eq (.b 7)<|.p<|aF "error")<|.i .In (.A (.b 7)<|.f 1)<|.n<|.c (.p<|aF "")<|.c (.p<|aF "$")<|.c (.p<|aF "'")<|.d) (.q)<|.f)<|.g (.i .NotIn (.b 7)<|.b 2) (.i<|.o (.b 2)<|.b 7)<|.f
noncomputable def Dx:aW:=.m 7 8 (.b 0)<|.d 9 (.b 8)<|.g (.u (.i .NotIn (.b 9)<|.b 2)<|.i .NotIn (.b 9)<|.b 4) (.i<|.o (.b 4)<|.b 9)<|.f
def Dy:aW:=.m 7 8 (.b 0)<|.b (.c 10<|.j .h<|.c (.q 9 (.b 8) (.d)<|.w (.b 4)<|.b 9)<|.d)<|.i<|.o (.b 6)<|.v fZ<|.c (.j .a<|.c (.b 6)<|.d)<|.c (.w (.b 4)<|.b 7)<|.c (.b 10)<|.c (.l wb<|.c (.b 10)<|.c (.b 5)<|.d)<|.d
def Dz:aW:=.e<|.v lj<|.c (.b 4)<|.c (.b 5)<|.c (.b 6)<|.c (.E)<|.c (.G)<|.c (.w (.b 4)<|.b 3)<|.d
def DA:aW:=.b (.c 5<|.j .a<|.c (.b 4)<|.d)<|.b (.c 4<|.h .Add (.h .Add (.b 4)<|.k<|.c (.p<|aF "$accept")<|.d)<|.b 2)<|.b (.c 6<|.k<|.c (.v fZ<|.c (.f 0)<|.c (.b 5)<|.c (.n<|.c (.w (.b 4)<|.b 3)<|.c (.x 0)<|.d)<|.c (.x 0)<|.d)<|.d)<|.b Dy Dz
def Ly:aW:=.b (.c 3<|.D (.t (.I<|.b 1)<|.i .Eq (.b 2)<|.k<|.d) (.b 1)<|.g (.b 2)<|.f 0)<|.b (.g (.i .NotIn (.b 3)<|.b 2) (.q)<|.f)<|.b (.c 4<|.H)<|.b Dx DA
theorem L4:BX=.b (.c 2<|.k<|.d) (.b Lx Ly):=rfl
structure jh(H:J)(h:Nat)(P:bW)(k:Nat)(f e g:Nat->Nat):Prop where
 a:H[h]?=V (.a<|az (k+1) λj=>.a<|f j)
 b:∀j,j<k+1->H[f j]?=V (.e fZ<|e j)
 c:∀j,j<k+1->H[e j]?=V (.c [(cp,Z j),(dD,Z (P.zb.d j)),(el,.a (g j)),(jy,.b (P.zb.g j)),(kv,.e),(li,.b 0),(mr,.b 0)])
 d:∀j,j<k+1->H[g j]?=V (.b<|(P.zb.b j).map Z)
section
variable{c H I i:J}{P:bW}{d r a k:Nat}{h g b e f:Nat->Nat}{Q:au}{K:aS}
theorem jh.za(h:jh H a P k b e f)(p:H<+:I):jh I a P k b e f:=⟨ay p h.a,λj c=>ay p<|h.b j c,λj c=>ay p<|h.c j c,λj c=>ay p<|h.d j c⟩
theorem jh.zb(h:jh H a P k b e f)(p:H<+:i){c q t:Nat}{o:aa}(d:o=.a ((az (k+1) λj=>O.a<|b j)++[.a c]))(s:i[c]?=V (.e fZ q))(u:i[q]?=V (.c [(cp,Z (k+1)),(dD,Z (P.zb.d<|k+1)),(el,.a t),(jy,.b (P.zb.g<|k+1)),(kv,.e),(li,.b 0),(mr,.b 0)]))(v:i[t]?=V (.b<|(P.zb.b<|k+1).map Z)):jh (i.set a o) a P (k+1) (bb b (k+1) c) (bb e (k+1) q)<|bb f (k+1) t:=by
 subst d;have l:=h.za p;have g:∀{j:Nat}{o:aa}(x:aa),i[j]?=V o->(∀y,o≠.a y)->(i.set a x)[j]?=V o:=λx d n=>aX d<|aV l.a d λr=>n _ r.symm;refine⟨?_,λj m=>?_,λj m=>?_,λj m=>?_⟩;.rw[cq l.a,<-iX (k+1) λj=>O.a<|bb b (k+1) c j,bx];congr 3;apply hg;ext t w;rw[bc<|by exact bh w]
 .by_cases d:j=k+1;.subst d;rw[bx,bx];exact g _ s (by simp)
  .rw[bc d,bc d];exact g _ (l.b j<|by exact vR m d) (by simp)
 .by_cases d:j=k+1;.subst d;rw[bx,bx];exact g _ u (by simp)
  .rw[bc d,bc d];exact g _ (l.c j<|by exact vR m d) (by simp)
 .by_cases d:j=k+1;.subst d;rw[bx];exact g _ v (by simp)
  .rw[bc d];exact g _ (l.d j<|by exact vR m d) (by simp)
theorem L5{g:Nat}{p t u v w s:Option O}(h:cM P)(c:jh H a P P.b b e f)(i:H[g]?=V (.a<|P.ze.map .c))(q:∀I R x,bm I R P.zb->H<+:I->K (.b<|.a R.a) x I):cA (aY<|d+1) Dz [V<|.a r,p,t,V<|.c<|P.c 0,V<|.a g,V<|Z P.zd.length,V<|.a a,u,v,w,s] H K:=by have o:=h.a;have m:P.c 0∈P.ze:=iv.mpr<|.inr<|.inr<|gN (by exact an 5 0 1 0 (ar o) rfl);have B:=aB H [aa.f 0 []];simp[Dz,aH i,m];have j:=aB H [aa.f 0 [],aa.c [],aa.e lj<|H.length+1];have A:=c.za j;refine K0 (g:=H.length+1+1) (c:=H.length+1) (R:=⟨0,0,g,a,0,0,0,0,b,e,f,λC=>0⟩) (G:=P.zb) (e:=H) ⟨i,c.a,c.b,c.c,c.d⟩ (ka h).a (by rw[ev<|by exact du _ 0 2 rfl,show H.length+1+1-H.length=2 by exact Gq];rfl) (by simp) j (by exact du _ 0 1 rfl) (by exact aL<|aO _) λy z k l n=>⟨rfl,?_⟩;rw[<-k];exact q _ _ _ l n
theorem L6{t:Nat}{z A l m n j:Option O}(q:cM P)(C:gO c r P h g)(G:c<+:H)(a4:c.length<=a)(X:jh H a P 0 b e f)(a3:c[t]?=V (.a<|P.ze.map .c))(a5:∀I b e f l m n j,c<+:I->jh I a P P.b b e f->K .a [V<|.a r,z,A,V<|.c<|P.c 0,V<|.a t,V<|Z P.zd.length,V<|.a a,l,m,n,j] I):cA (aY<|d+1) Dy [V<|.a r,z,A,V<|.c<|P.c 0,V<|.a t,V<|Z P.zd.length,V<|.a a,l,m,n,j] H K:=by
 revert c H P d r a h g b e f K t z A l m n j;ext@c@H@P@d@r@a@h@g@b@e@f@K@t@z@A@l@m@n@j q C G a4 X a3 a5;have c0:=q.a;have b2:=C.za G;simp[Dy,b2.a];refine bV (λk T I=>∃l m n j b e f,T=[V<|.a r,z,A,V<|.c<|P.c 0,V<|.a t,V<|Z P.zd.length,V<|.a a,l,m,n,j]/\c<+:I/\jh I a P k b e f) (Fm _ _ _ _ _ _ _ rfl G X) ?_ ?_
 .ext@k@x@T@I@c3 b0 c6 y i
  exact by
   ext(FL i)@l@m@n@j@b@e@f s w
   exact by
    ext(ac:gf y)o i-;have v:=C.za s;have a2:=ay s a3;refine⟨v.a,?_⟩;have a1:=q.b k o;have b6:∀x∈P.a k,x∈P.ze:=λx y=>iv.mpr<|(jf q o y).elim .inl λq=>.inr<|.inr q;simp[v.c k o,v.b k o];refine hi (λu S E=>u<=(P.a k).length/\S=((P.a k).take u).map (λx=>Z<|P.za x)/\E=I) (aI (by exact fH) rfl rfl) ?_ ?_
    .ext@u@x@S@E@c4 b1 y i
     exact by
      ext(lb i)c8 p;have p:=p.symm;subst p;ext(_:cB y)c2 R i-;refine⟨v.b k o,?_⟩;simp[a2,b6 c2<|bs R];refine⟨by exact aA 0 0 0 3 0 16777000 (hQ _ _) a1 rfl,b1 _ _<|aI ?_ ?_ rfl⟩;.have:=(bi.mp R).1;exact this
      .rw[gL R];simp[bW.za]
    .ext@S@E i
     exact by
      ext(lb i)_ p;have p:=p.symm;subst p;refine⟨v.b k o,?_⟩;have a9:((P.a k).take ((P.a k).map O.c).length).map (λx=>Z<|P.za x)=(P.zf<|k+1).map Z:=by rw[hM];simp
      rw[a9];simp;have Q:=aB I [aa.a<|(P.zf<|k+1).map Z,aa.b<|(P.zf<|k+1).map Z];have a0:(I++[aa.a<|(P.zf<|k+1).map Z,aa.b<|(P.zf<|k+1).map Z])[I.length+1]?=V (aa.b<|(P.zf<|k+1).map Z):=by simp
      have b9:(P.zf<|k+1).length<=3:=by rw[hM,bC];exact a1
      generalize I.length+1=c1 at*;generalize I++[aa.a<|(P.zf<|k+1).map Z,aa.b<|(P.zf<|k+1).map Z]=B at*;have L:=w.za Q;have b7:P.c k∈P.ze:=iv.mpr<|.inr<|.inr<|gN o;simp[L.a,ay Q a2,b7];refine⟨by exact an 0 3 0 16777216 b9 rfl,?_⟩;ext(J7:a0);have b8:=aB B [aa.c [],aa.e fZ B.length];refine Lr (g:=B.length) (by simp) (by simp) λa6 b5 b4 a7 c5=>⟨rfl,?_⟩;have D:B<+:a6:=a7.zb b8 λc9 a8=>by exact ar a8
      have b3:=L.za D;simp[b3.a];refine⟨by exact aA 1 0 0 5 0 16777214 o (aw c0) rfl,?_⟩;have c7:=bH w.a;refine(b0 _ _<|Fm _ _ _ _ _ _ _ rfl (dq (s.trans<|Q.trans D)<|by exact a4)<|L.zb D (t:=c1) rfl b5 ?_ ?_).1;.rw[b4,jg];congr 2
      .exact ay D a0
 .ext T I i(FL i)l m n j b e f s w;simp only[gI]at w;exact⟨(C.za s).a,a5 _ _ _ _ _ _ _ _ s w⟩
theorem L7{l p:Nat}{u m n o:Option O}(c:cM P)(y:gO H r P h g)(w:H[l]?=V (.a<|P.zc.map .c))(t:H[p]?=V (.a<|P.zd.map .c))(q:∀I R C,bm I R P.zb->H<+:I->K (.b<|.a R.a) C I):cA (aY<|d+1) DA [V<|.a r,u,V<|.a l,V<|.c<|P.c 0,V<|.a p,U,U,m,n,o,U] H K:=by
 revert H P d r h g K l p u m n o;ext@H@P@d@r@h@g@K@l@p@u@m@n@o c y w t q;have a5:=c.a;have a2:P.c 0∈P.ze:=iv.mpr<|.inr<|.inr<|gN (by exact an 5 0 1 0 (ar a5) rfl);have:=rz c;have:=ut c;have D:(P.zd.map O.c++O.c (aF "$accept")::P.zc.map O.c)=P.ze.map O.c:=by simp[bW.ze]
 simp[DA,t,aH t];refine⟨by exact Qc (by assumption),?_⟩;simp[aH w];refine⟨by exact Qd (by assumption) this,?_⟩;rw[D];have B:=aB H [aa.a [O.c<|aF "$accept"],aa.a<|P.zd.map O.c++[O.c<|aF "$accept"],aa.a<|P.ze.map O.c];have x:(H++[aa.a [O.c<|aF "$accept"],aa.a<|P.zd.map O.c++[O.c<|aF "$accept"],aa.a<|P.ze.map O.c])[H.length+2]?=V (aa.a<|P.ze.map O.c):=by rw[ev<|by exact du _ 0 2 rfl,show H.length+2-H.length=2 by exact Gr];rfl
 generalize H.length+2=a6 at*;generalize H++[aa.a [O.c<|aF "$accept"],aa.a<|P.zd.map O.c++[O.c<|aF "$accept"],aa.a<|P.ze.map O.c]=a at*;simp[a2];have a4:=aB a [aa.b [Z<|P.za<|P.c 0,Z 0],aa.c [],aa.e fZ<|a.length+1];have T:(a++[aa.b [Z<|P.za<|P.c 0,Z 0],aa.c [],aa.e fZ<|a.length+1])[a.length]?=V (aa.b [Z<|P.za<|P.c 0,Z 0]):=by simp
 have L:(a++[aa.b [Z<|P.za<|P.c 0,Z 0],aa.c [],aa.e fZ<|a.length+1])[a.length+1+1]?=V (aa.e fZ<|a.length+1):=by rw[ev<|by exact du _ 0 2 rfl,show a.length+1+1-a.length=2 by exact Gq];rfl
 have E:(a++[aa.b [Z<|P.za<|P.c 0,Z 0],aa.c [],aa.e fZ<|a.length+1])[a.length+1]?=V (aa.c []):=by simp
 refine Lr (c:=a.length+1+1) (g:=a.length+1) L E λi a1 a0 v a9=>⟨rfl,?_⟩;have z:a<+:i:=v.zb a4 λj s=>by exact an 1 0 0 0 (ar s) rfl
 have X:=v.a _ _ T (by exact bh<|aO _)
 have Q:jh (i++[aa.a [O.a<|a.length+1+1]]) i.length P 0 (λ_=>a.length+1+1) (λ_=>a.length+1) λ_=>a.length:=by
  refine⟨by simp[az],λj k=>aH a1,λj k=>?_,λj k=>?_⟩
  .have:j=0:=by exact Gs k
   subst this;exact aH a0
  .have:j=0:=by exact Gs k
   subst this;have s:P.zb.b 0=[P.za<|P.c 0,0]:=nm;rw[s];exact aH X
 try simp only[dy,dg,en,Jn,qT,vo,vp,eZ,eY,gG]
 refine⟨by simp,?_⟩;refine L6 (t:=a6) (a:=i.length) c (y.za B) (z.trans<|aB _ _) (eq z) Q x λa7 b e f m n o b0 A S=>?_;simp;exact L5 c S (ay A x) λa8 R C G a3=>q _ _ _ G<|(B.trans A).trans a3
theorem L8{s j:Nat}{y A l m e:Option O}(C:cM P)(w:gO c r P h g)(D:c<+:H)(S:c.length<=j)(L:c[s]?=V (.a<|P.zc.map .c))(R:H[j]?=V (.a<|fo.map .c))(q:∀I l m e,c<+:I->I[j]?=V (.a<|P.zd.map .c)->K .a [V<|.a r,y,V<|.a s,A,V<|.a j,U,U,l,m,e,U] I):cA (aY<|d+1) Dx [V<|.a r,y,V<|.a s,A,V<|.a j,U,U,l,m,e,U] H K:=by
 revert c H P d r h g K s j y A l m e;ext@c@H@P@d@r@h@g@K@s@j@y@A@l@m@e C w D S L R q;have b4:=C.a;have a2:=w.za D
 have a4:∀k,k<=P.b->(hm P P.zc k).length<=6:=λk o=>by
  refine im (r:=fo++dT) (Dv _) λx p=>?_;rcases Lv.mp p with b|⟨⟨a8,b,n⟩,a0⟩;.exact gS _ b
  .rcases C.c a8 (by exact aj b o) _ n with E|E;.exact kq _ E
   .exact absurd (ni.mpr E) a0
 simp[Dx,a2.a];refine bV (λk t I=>∃l m e,t=[V<|.a r,y,V<|.a s,A,V<|.a j,U,U,l,m,e,U]/\c<+:I/\I[j]?=V (.a<|(hm P P.zc k).map .c)) (hw _ _ _ rfl D R) ?_ ?_
 .ext@k@x@t@I@b0 a1 b2 p a
  exact by
   ext(ld a)l m e f i(ac:gf p)o a-;have v:=w.za f;refine⟨v.a,?_⟩;simp[v.c k o,v.b k o];refine bV (λu t I=>∃e,t=[V<|.a r,y,V<|.a s,A,V<|.a j,U,U,V<|.c<|P.c k,V<|.a<|g k,e,U]/\u<=(P.a k).length/\c<+:I/\I[j]?=V (.a<|(((P.a k).take u).foldl (gM P.zc)<|hm P P.zc k).map .c)) (ej _ rfl (by exact fH) f i) ?_ ?_
   .clear i v f;ext@u@x@t@I@b1 B b3 p a
    exact by
     ext(sr a)@e a7 f i
     exact by
      ext(_:cB p)@z X a
      exact by
       subst a;have G:=(bi.mp X).1;have v:=w.za f;refine⟨v.b k o,?_⟩;have a3:=ay f L
       have a5:(((P.a k).take u).foldl (gM P.zc)<|hm P P.zc k).length<=6:=by
        refine aj ?_<|a4 (k+1) (by exact o);ext(im:Lu (Dv k))@x p
        exact by
         rw[hm];rcases ur.mp p with b|⟨b,n⟩;.exact ur.mpr<|.inl b
         .exact ur.mpr<|.inr ⟨kW b,n⟩
       rw[gL X,Y0]at B;simp[a3];generalize((P.a k).take u).foldl (gM P.zc) (hm P P.zc k)=T at*;by_cases b:z∈P.zc;.simp[b];exact(B _ _<|ej _ rfl (by exact G) f<|by simpa[gM,b]using i).1
       .simp[b,i];by_cases n:z∈T;.simp[n];exact(B _ _<|ej _ rfl (by exact G) f<|by simpa[gM,b,n]using i).1
        .simp[n,i];refine⟨by exact an 0 6 0 16777215 a5 rfl,(B _ _<|ej _ rfl (by exact G) (dq f S) ?_).1⟩;rw[cq i];simp[gM,b,n]
   .ext t a9 a(sr a)e a7 Q a6;refine⟨(w.za Q).b k o,(a1 _ _<|hw _ _ _ rfl Q ?_).1⟩;simpa[hm]using a6
 .ext t I a(ld a)l m e f i;simp only[gI]at i;exact⟨(w.za f).a,q _ _ _ _ f i⟩
theorem L9(f:gO H r P h g)(i:cM P)(q:∀I R,bm I R P.zb->H<+:I->Q (.a R.a) I):aY (d+2) iN [.a r] H Q:=by
 delta H P d r h g Q;ext f i q;have L:1+(ft iN).length=gH iN:=by decide
 rw[CE (a:=[.a r]) BX [V<|.a r,V .e,U,U,U,U,U,U,U,U,U] rfl L (by decide) rfl];have v:=i.a;rw[L4];simp;generalize y:H.length=z;have X:=f.za<|aB H [aa.a []];simp[Lx,X.a];refine bV (λk o I=>∃m n,o=[V<|.a r,V .e,V<|.a z,U,U,U,U,m,n,U,U]/\H<+:I/\I[z]?=V (.a<|(fA P k).map .c)) (bu _ _ rfl (aB _ _)<|by subst y;simp[fA]) ?_ ?_
 .ext@k@b5@o@I@K w b2 a7 c
  exact by
   ext(hZ c)m n b a(ac:gf a7)s c-;have x:=f.za b;refine⟨x.a,?_⟩;ext(bD:L1 _ (i.d k s))B D E;have C:(P.c k==aF "error")=aq:=by simpa using B
   simp[x.c k s];rw[C];simp[D];have G:aP (P.c k∈[aF "",aF "$",aF "'"])=aq:=decide_eq_false E;ext(Eq.mpr:C0 (l:=[aF "",aF "$",aF "'"]));rw[G];have j:=aB I [aa.b [O.c<|aF "",O.c<|aF "$",O.c<|aF "'"]];have t:=ay j a;have b1:=eq<|b.trans j;generalize I++[aa.b [O.c<|aF "",O.c<|aF "$",O.c<|aF "'"]]=a9 at*;simp[t];have a0:=L2 (P:=P) k;by_cases l:P.c k∈fA P k;.simp[l];exact(w _ _<|bu _ _ rfl (b.trans j)<|by rw[t];simp[fA,jZ,l]).1
   .simp[l];refine⟨by exact aA 1 0 0 5 0 16777215 (aA 0 0 1 0 1 0 a0 s rfl) (aw v) rfl,(w _ _<|bu _ _ rfl (dq (b.trans j)<|by exact aw y) ?_).1⟩;rw[cq t];simp[fA,jZ,l]
 .ext@o@I c
  exact by
   ext(hZ c)m n b a;simp only[gI]at a;refine⟨(f.za b).a,?_⟩;have T:fA P P.b=P.zc:=rfl;rw[T]at a;have p:P.zc[0]?=V (P.c 0):=L3 (by exact an 5 0 1 0 (ar v) rfl);have a2:P.zc.isEmpty=aq:=by cases e:P.zc with|nil=>rw[e]at p;simp at p|cons b0 b3=>rfl
   have a1:P.c 0∈P.zc:=gN (by exact an 5 0 1 0 (ar v) rfl);have j:=aB I [aa.a [],aa.a<|fo.map .c];simp[Ly,qh,a,aH a];rw[a2];simp[p,aH a,a1];have a5:(I++[aa.a [],aa.a<|fo.map .c])[I.length+1]?=V (aa.a<|fo.map .c):=by simp
   refine L8 (c:=I++[aa.a []]) (j:=I.length+1) i (f.za<|b.trans<|aB _ _) (by rw[show I++[aa.a [],aa.a<|fo.map O.c]=(I++[aa.a []])++[aa.a<|fo.map O.c]by simp];exact aB _ _) (by simp) (aH a) a5 λA m n b4 a3 a6=>?_;have u:I<+:A:=(aB _ _).trans a3;simp;exact L7 i (f.za<|b.trans u) (ay u a) a6 λa8 R o S a4=>q _ _ S<|(b.trans u).trans a4
end
structure eP(H:J)(p c:Nat):Prop where
 a:∃d e:Nat,H[p]?=V (.a [.a c,Z d,Z e])
 b:∃l:List Nat,l.length<=63/\H[c]?=V (.a<|l.map Z)
section
variable{H I:J}{d:Nat}{Q:au}
theorem M0{R:cC}{G:ap}{z:N}(h:bm H R G)(a:z∈G.f):aY (d+1) sL [.a R.a,.c z] H Q=Q (Z<|G.f.idxOf z) H:=by rw[bR BP 0 rfl rfl rfl rfl<|by decide];simp[BP,h.zm,h.i,a]
theorem M1(x:Int):∃n:Nat,(2*(if x<0 then-x else x)+(if x<0 then 1 else 0):Int)=(n:Int):=by
 refine⟨(2*(if x<0 then-x else x)+(if x<0 then 1 else 0):Int).toNat,?_⟩;split<;>rename_i h;.exact(Ew<|aaC (aaD (by decide)<|Int.neg_nonneg_of_nonpos<|rL h)<|by decide).symm
 .exact(Ew<|aaC (aaD (by decide)<|DR.mp h)<|by decide).symm
theorem M2{c:Int}{u:Option O}{K:au}:aK (aY d) (ao.j eG.f<|(ao.j eG.c<|(ao.b 1).c ao.d).c ao.d) [u,V<|.b c] H K=K (.b<|if c<0 then-c else c) H:=by simp
theorem M3{c:Int}{u:Option O}{K:au}:aK (aY d) (ao.h aaE (ao.f 2)<|ao.j eG.f<|(ao.j eG.c<|(ao.b 1).c ao.d).c ao.d) [u,V<|.b c] H K=(DY 2 (if c<0 then-c else c)/\K (.b<|2*(if c<0 then-c else c)) H):=by rw[oq,op,AA,M2,Az,B4]
theorem M4{c:Int}{u:Option O}{K:au}:aK (aY d) (ao.j eG.c<|(ao.i CmpOp.Lt (ao.b 1)<|ao.f 0).c ao.d) [u,V<|.b c] H K=K (.b<|if c<0 then 1 else 0) H:=by simp
theorem M5{c:Int}{u:Option O}{K:au}(h:∀n:Nat,K (Z n) H):aK (aY d) (ao.h si (ao.h aaE (ao.f 2)<|ao.j eG.f<|(ao.j eG.c<|(ao.b 1).c ao.d).c ao.d)<|ao.j eG.c<|(ao.i CmpOp.Lt (ao.b 1)<|ao.f 0).c ao.d) [u,V<|.b c] H K:=by rw[oq,M3];refine⟨IntMulOk.of_left<|by decide,?_⟩;rw[AA,M4,Az,B2];ext(aD:M1 c)n a;rw[a];exact h n
theorem M6{a:List Int}{r:Nat}(h:H[r]?=V (.g<|a.map .b))(o:a.length<=63)(q:∀I p g,H<+:I->H.length<=p->H.length<=g->p≠g->eP I p g->Q (.a p) I):aY (d+1) wd [.a r] H Q:=by
 delta H d Q a r;ext h o q;rw[bR Co 1 rfl rfl rfl rfl<|by decide];simp[Co,h];refine⟨by exact an 0 63 0 16777216 o rfl,?_⟩;refine hi (λk i I=>∃l:List Nat,l.length=k/\k<=63/\i=l.map Z/\I=H++[.a<|(a.map O.b).take 63]) (ej ([]) rfl (by exact du _ 0 63 rfl) rfl rfl) ?_ ?_
 .ext@k@x@i@I@K t e b
  exact by
   ext(Fs b)@l v f w
   exact by
    subst v;subst w;have m:=(bi.mp e).1;rw[km]at m;rw[pv]at e;split at e;.ext(_:cB e)c y b-;refine⟨by simp,?_⟩;refine M5 λn=>?_;refine⟨by simp;exact an 0 63 0 16777000 f rfl,?_⟩;exact t _ _<|ej (l++[n]) (by simp) (by exact aj m<|hP _ _) (by simp) rfl
    .exact cn e
 .ext i I b(Fs b)l u f j;refine⟨by subst j;simp,?_⟩;simp;subst j;have s:(H++[aa.a<|(a.map O.b).take 63]).length=H.length+1:=by simp
  rw[s];refine q _ (H.length+1+1) (H.length+1) ?_ (by exact du _ 0 2 rfl) (by exact du _ 0 1 rfl) (by exact aL<|aO _) ⟨gs 0 0 ?_,l,by exact aj (aw u) f,?_⟩;.rw[fY];exact aB _ _
  .rw[ev<|by simp,show H.length+1+1-(H++[aa.a<|(a.map O.b).take 63]).length=1 by simp];rfl
  .rw[ev<|by simp,show H.length+1-(H++[aa.a<|(a.map O.b).take 63]).length=0 by simp];rfl
theorem eP.zc{p c:Nat}{S:Nat->Prop}(h:eP H p c)(d:bn S H I)(e:¬S p)(f:¬S c):eP I p c:=let⟨⟨a,b,g⟩,l,i,j⟩:=h;⟨gs a b<|d.a _ _ g e,l,i,d.a _ _ j f⟩
theorem eP.zb{p a:Nat}(h:eP H p a)(b:H<+:I):eP I p a:=h.zc (.zc b (S:=λw=>False)) (λh=>h) λh=>h
theorem M7(a m:Nat):Int.fmod (a:Int) (m:Int)=((a%m:Nat):Int):=by rw[Int.fmod_eq_emod_of_nonneg _<|by exact nL];rfl
theorem M8(a m:Nat):MP (a:Int) (m:Int)=((a/m:Nat):Int):=by rw[MR _<|by exact nL];rfl
def Lz:aW:=match rb with|.b _ (.b _ r)=>r|_=>.f
theorem M9{p f m:Nat}(h:eP H p f)(t:p≠f)(v:0<m)(w:m<=64)(q:∀I k,k<m->eP I p f->bn (λj=>j=p\/j=f) H I->Q (Z k) I):aY (d+1) Ho [.a p,Z m] H Q:=by
 delta H d Q p f m;ext h t v w q;rw[bR rb 1 rfl rfl rfl rfl<|by decide];obtain⟨⟨a,b,x⟩,l,o,S⟩:=h;have a5:=bH x;have C:¬m=0:=by exact aL v
 have a6:uF (b:Int) (m:Int)=aq:=PyProof.noPylong_small (by exact Gu w);have a2:∀b:Nat,uF (b:Int) (m:Int)=aq:=λb=>PyProof.noPylong_small (by exact Gu w);simp[rb,x];have r:(H.set p<|aa.a [O.a f,O.b<|(a:Int)+1,Z b])[p]?=V (.a [.a f,Z<|a+1,Z b]):=by rw[cq x];rfl
 have s:(H.set p<|aa.a [O.a f,O.b<|(a:Int)+1,Z b])[f]?=V (.a<|l.map Z):=aX S t;have z:bn (λj=>j=p\/j=f) H<|H.set p<|aa.a [O.a f,O.b<|(a:Int)+1,Z b]:=.zd<|.inl rfl;generalize H.set p (aa.a [O.a f,O.b<|(a:Int)+1,Z b])=n at*
 have y:∀(g:J)(i:Nat)(u:List Nat),bn (λj=>j=p\/j=f) H g->g[p]?=V (.a [.a f,Z<|a+1,Z i])->g[f]?=V (.a<|u.map Z)->u.length<=63->cA (aY d) Lz [V<|.a p,V<|Z m,U] g (mX Q):=by
  ext g i u G B P T;simp[Lz,rb,B,C,a2];have D:(g.set p<|aa.a [O.a f,Z<|a+1,O.b<|(i:Int).fdiv (m:Int)])[p]?=V (.a [.a f,Z<|a+1,Z<|i/m]):=by rw[cq B,M8]
  have X:(g.set p<|aa.a [O.a f,Z<|a+1,O.b<|(i:Int).fdiv (m:Int)])[f]?=V (.a<|u.map Z):=aX P t;have K:bn (λj=>j=p\/j=f) g<|g.set p<|aa.a [O.a f,Z<|a+1,O.b<|(i:Int).fdiv (m:Int)]:=.zd<|.inl rfl;generalize g.set p (aa.a [O.a f,Z<|a+1,O.b<|(i:Int).fdiv (m:Int)])=a4 at*;simp[D,C];have e:Int.fmod ((i:Int)+((a:Int)+1)) (m:Int)=(((i+(a+1))%m:Nat):Int):=M7 (i+(a+1)) m;rw[e];exact q _ _ (uC _ v) ⟨gs _ _ D,u,T,X⟩<|G.za K
 simp only[r,CJ,List.getElem?_cons_succ,MX,CG];simp only[cf,AD,op,tE,B5,B6,qN,Xp,Bo,os,cg,cb,ce,qP,qO,tW,qV,Bq,Bn,ou,eZ,eY,gG,qY,oq,mV,dI,tB];refine cE (λR=>?_) λR=>y n b l z r s o;have a1:=aB n [aa.a []];have A:bn (λj=>j=p\/j=f) H<|n++[aa.a []]:=z.za<|.zc a1;simp only[r,CJ,MX,CG];simp only[cf,AD,JQ,dg,Jn,tE,CI,rj];refine⟨by decide,?_⟩;simp only[aH s,cF,B7];simp only[CH,qN,qV,Bq,Bn,os,cg,cb,ce,cf,qP,op,qO,tW,ou,eZ,eY,gG,qY,oq,mV,dI]
 cases l with
 |nil=>exact y (n++[aa.a []]) b [] A (aH r) (aH s) o
 |cons c l=>
  simp only[dm,List.isEmpty_cons,Mr,Jb];simp only[aH r,CJ,MX,CG];try simp only[cf,Xn,D2]
  simp only[aH s,D3];refine⟨by simp at o⊢<;>exact an 0 62 0 16777215 o rfl,?_⟩;have E:((n++[aa.a []]).set f<|.a<|l.map Z)[p]?=V (.a [.a f,Z<|a+1,Z b]):=aX (aH r) t.symm;have a0:((n++[aa.a []]).set f<|.a<|l.map Z)[f]?=V (.a<|l.map Z):=cq<|aH s;have L:bn (λj=>j=p\/j=f) H<|(n++[aa.a []]).set f<|.a<|l.map Z:=A.za<|.zd<|.inr rfl;generalize(n++[aa.a []]).set f (.a<|l.map Z)=a3 at*;try simp only[Bc,cg,cb,ce,cf,tJ,op,tI,KE]
  simp only[E,C4,pi,aay];refine⟨by decide,y _ c l (L.za<|.zd<|.inl rfl) ?_ (aX a0 t)<|by simp at o;exact an 0 62 0 63 o rfl⟩;rw[cq E];rfl
theorem LA{p b r:Nat}{a:List O}(h:eP H p b)(s:p≠b)(f:H[r]?=V (.a a))(g:r≠p/\r≠b)(l:0<a.length)(m:a.length<=64)(q:∀(I:J)(k:Nat)(x:O),a[k]?=V x->eP I p b->bn (λj=>j=p\/j=b) H I->Q x I):aY (d+2) gx [.a p,.a r] H Q:=by rw[bR Cp 0 rfl rfl rfl rfl<|by decide];simp[Cp,f];refine M9 h s l m λI k o n c=>?_;have i:a[k]?=V a[k]:=cu o;simp[c.a _ _ f λe=>e.elim g.1 g.2,i];exact q _ _ _ i n c
end
section
variable{g H I i:J}{d p a r h m k:Nat}{Q:au}
theorem DB{b:List Nat}(h:eP H p a)(m:p≠a)(n:H[r]?=V (.a<|b.map Z))(o:r≠p/\r≠a)(f:0<b.length)(g:b.length<=64)(q:∀(I:J)(c:Nat),c∈b->eP I p a->bn (λj=>j=p\/j=a) H I->Q (Z c) I):aY (d+2) gx [.a p,.a r] H Q:=LA h m n o (by simpa using f) (by simpa using g) λI k x s i e=>by ext(_:cB s)c l t-;exact q _ _ (bs l) i e
theorem DC{b:List N}(h:eP H p a)(m:p≠a)(n:H[r]?=V (.a<|b.map .c))(o:r≠p/\r≠a)(f:0<b.length)(g:b.length<=64)(q:∀(I:J)(z:N),z∈b->eP I p a->bn (λj=>j=p\/j=a) H I->Q (.c z) I):aY (d+2) gx [.a p,.a r] H Q:=LA h m n o (by simpa using f) (by simpa using g) λI k x s i e=>by ext(_:cB s)c l t-;exact q _ _ (bs l) i e
theorem eP.za(h:eP H p a):p<H.length/\a<H.length:=⟨let⟨⟨_,_,h⟩,_⟩:=h;bH h,let⟨_,_,_,h⟩:=h;bH h⟩
structure es(g H:J)(p a r h m k:Nat)(b:Nat->N)(e:Nat->List N)(f c:Nat->Nat):Prop where
 o:g<+:H
 t:g.length<=p/\g.length<=a/\g.length<=r
 j:p≠a/\r≠p/\r≠a/\h≠p/\h≠a/\h≠r
 i:eP H p a
 l:H[h]?=V (.a<|(cw.take m).map .c)
 d:gO H r ⟨k,b,e⟩ f c
 s:∀u,u<k->c u≠p/\c u≠a/\c u≠r
 q:∀u,u<k->u<m->cw[u]?=V (b u)/\∀x∈e u,x∈dT
 n:∀u,u<k->b u∈cw.take m/\(e u).length<=3/\∀x∈e u,x∈dT\/x∈cw.take m
variable{b:Nat->N}{e:Nat->List N}{f c:Nat->Nat}
theorem es.zd(i:es g H p a r h m k b e f c):(∃d,H[p]?=V (.a d))/\∃d,H[a]?=V (.a d):=by obtain⟨⟨o,q,j⟩,l,_,n⟩:=i.i;exact⟨⟨_,j⟩,_,n⟩
theorem es.zb(d:es g H p a r h m k b e f c)(n:bn (λj=>j=p\/j=a) H I)(v:eP I p a):es g I p a r h m k b e f c:=by
 have o:=d.j;have w:=d.t;ext(ac:d.zd)q s(@aD q)x t(@aD s)y u
 exact{d with
  o:=n.zb d.o λj i=>by exact Qe w i
  i:=v
  l:=n.a _ _ d.l λi=>by exact Qf o i
  d:=⟨n.a _ _ d.d.a λi=>by exact Qg o i,λk l=>n.a _ _ (d.d.c k l) λi=>i.elim (aV (d.d.c k l) t<|by simp)<|aV (d.d.c k l) u<|by simp,λk l=>n.a _ _ (d.d.b k l) λi=>by have:=d.s k l;exact Qh i this⟩}
theorem es.za(d:es g H p a r h m k b e f c)(i:H<+:I):es g I p a r h m k b e f c:=d.zb (.zc i)<|d.i.zb i
theorem es.zc(i:es g H p a r h m k b e f c){t q:Nat}{z:N}{l:List N}{o:aa}(d:o=.a ((az k λj=>O.a<|f j)++[.a t]))(u:H[t]?=V (.b [.c z,.a q]))(A:H[q]?=V (.a<|l.map .c))(w:q≠p/\q≠a/\q≠r)(G:z∈cw.take m)(C:l.length<=3)(E:∀x∈l,x∈dT\/x∈cw.take m)(B:k<m->cw[k]?=V z/\∀x∈l,x∈dT):es g (H.set r o) p a r h m (k+1) (bb b k z) (bb e k l) (bb f k t)<|bb c k q:=by
 subst d;have s:=i.j;have y:=i.t
 exact{
  o:=dq i.o y.2.2
  t:=y
  j:=s
  i:=i.i.zc (.zd (S:=(·=r)) rfl) (by exact Qi s) (by exact Qj s)
  l:=aX i.l (by exact Qk s)
  d:=by
   refine⟨?_,λj n=>?_,λj n=>?_⟩;.rw[cq i.d.a];show _=V (aa.a<|az (k+1) λj=>O.a<|bb f k t j);rw[<-iX k λj=>O.a<|bb f k t j,bx];congr 3;apply hg;ext t D;rw[bc<|by exact bh D]
   .show(H.set r _)[bb f k t j]?=V (.b [.c<|bb b k z j,.a<|bb c k q j]);by_cases d:j=k;.have d:=d.symm;subst d;rw[bx,bx,bx];exact aX u<|aV i.d.a u (by simp)
    .have n:j<k:=by have:j<k+1:=n;exact Gv d this
     rw[bc d,bc d,bc d];exact aX (i.d.c j n)<|aV i.d.a (i.d.c j n) (by simp)
   .show(H.set r _)[bb c k q j]?=V (.a<|(bb e k l j).map .c);by_cases d:j=k;.have d:=d.symm;subst d;rw[bx,bx];exact aX A (by exact Gw w)
    .have n:j<k:=by have:j<k+1:=n;exact Gv d this
     rw[bc d,bc d];exact aX (i.d.b j n) (by have:=i.s j n;exact Gw this)
  s:=λj n=>by
   by_cases d:j=k;.have d:=d.symm;subst d;rw[bx];exact w
   .rw[bc d];exact i.s j (by exact cO n d)
  q:=λj n v=>by
   by_cases d:j=k;.have d:=d.symm;subst d;rw[bx,bx];exact B v
   .rw[bc d,bc d];exact i.q j (by exact cO n d) v
  n:=λj n=>by
   by_cases d:j=k;.have d:=d.symm;subst d;rw[bx,bx];exact aI G C E
   .rw[bc d,bc d];exact i.n j (by exact cO n d)}
theorem es.ze(d:es g H p a r h m 5 b e f c)(v:0<m)(o:m<=3):cM ⟨5,b,e⟩:=by
 have y:∀x∈cw.take m,x∈cw:=λx n=>kW n
 have u:∀x∈cw.take m,∃j,j<m/\b j=x:=λx n=>by
  ext(aD:fe n)j t;have q:j<m:=by have:=(bi.mp t).1;rw[km]at this;exact aj this<|hP _ _
  rw[pv,if_pos q]at t;have:=(d.q j (by exact aA 1 0 0 3 1 5 q o rfl) q).1;rw[t]at this;exact ad j q<|(bj this).symm
 exact{
  a:=rfl
  d:=λk i=>y _ (d.n k i).1
  e:=by have:=(d.q 0 (by exact du _ 1 5 rfl) v).1;exact(bj this).symm
  c:=λk i x n=>((d.n k i).2.2 x n).elim .inl λw=>by ext(_:u x w)j l s;exact .inr<|ad j (by show j<5;exact aA 1 0 0 3 1 5 l o rfl) s
  b:=λk i=>(d.n k i).2.1
  f:=λk i=>by ext(_:u _ (d.n k i).1)j l s;exact aT j (by show j<5;exact aA 1 0 0 3 1 5 l o rfl) s<|(d.q j (by exact aA 1 0 0 3 1 5 l o rfl) l).2}
end
def DD:aW:=.d 3 (.b 1)<|.i<|.o (.b 2)<|.n<|.c (.b 3)<|.c (.q 6 (.s<|.l gx<|.c (.b 0)<|.c (.k<|.c (.f 1)<|.c (.f 0)<|.c (.f 2)<|.c (.f 1)<|.d)<|.d) (.d)<|.l gx<|.c (.b 0)<|.c (.k<|.c (.p<|aF "a")<|.c (.p<|aF "b")<|.c (.p<|aF "c")<|.d)<|.d)<|.d
def DE:aW:=.d 4 (.s<|.j .g<|.c (.f 1)<|.c (.h .Sub (.f 5)<|.j .a<|.c (.b 1)<|.d)<|.d)<|.b (.l 3 5<|.n<|.c (.l gx<|.c (.b 0)<|.c (.b 1)<|.d)<|.c (.l gx<|.c (.b 0)<|.c (.k<|.c (.f 2)<|.c (.f 3)<|.c (.f 1)<|.c (.f 2)<|.d)<|.d)<|.d)<|.i<|.o (.b 2)<|.n<|.c (.b 3)<|.c (.q 6 (.s<|.b 5) (.d)<|.l gx<|.c (.b 0)<|.c (.h .Add (.h .Add (.k<|.c (.p<|aF "a")<|.c (.p<|aF "b")<|.d)<|.b 1)<|.b 1)<|.d)<|.d
theorem N0:Cq=.b (.c 1<|.A (.k<|.c (.p<|aF "S")<|.c (.p<|aF "T")<|.c (.p<|aF "U")<|.d)<|.l gx<|.c (.b 0)<|.c (.k<|.c (.f 2)<|.c (.f 1)<|.c (.f 2)<|.c (.f 3)<|.d)<|.d) (.b (.c 2<|.k<|.d)<|.b DD<|.b DE<|.e<|.b 2):=rfl
section
variable{f H I i:J}{d p h r g m k:Nat}{Q:au}{K:aS}{c:Nat->N}{e:Nat->List N}{b a:Nat->Nat}
theorem N1{j t v w:Option O}(o:es f H p h r g m 0 c e b a)(B:m<=3)(a2:∀I c e b a j t v w,es f I p h r g m m c e b a->K .a [V<|.a p,V<|.a g,V<|.a r,j,t,v,w] I):cA (aY<|d+2) DD [V<|.a p,V<|.a g,V<|.a r,j,t,v,w] H K:=by
 revert f H d p h r g m K c e b a j t v w;ext@f@H@d@p@h@r@g@m@K@c@e@b@a@j@t@v@w o B a2;have T:(cw.take m).length=m:=by rw[km];show min m 3=m;exact vS B
 simp only[ce,Jf,Jd,tK,DD,ow,JT,cb,dG,iY,o.l,tY];refine bV (λk G I=>∃j c e b a,G=[V<|.a p,V<|.a g,V<|.a r,j,t,v,w]/\es f I p h r g m k c e b a) (Fi _ _ _ _ _ rfl o) ?_ ?_
 .ext@k@x@G@I@c2 a9 c4 q i
  exact by
   ext(FE i)@j@c@e@b@a S
   exact by
    ext(_:cB q)@a3 A i
    exact by
     subst i;have Q:k<m:=by have:=(bi.mp A).1;exact aj this<|aw T
     refine⟨S.l,?_⟩;simp[S.d.a];have L:=S.za<|aB I [aa.a [O.b 1,O.b 0,O.b 2,O.b 1]];have a0:=S.i.za;refine DB (b:=[1,0,2,1]) L.i S.j.1 (by simp) ⟨by exact aL a0.1,by exact aL a0.2⟩ (by simp) (by simp) ?_;ext@c0@a5 P b1 a6
     exact by
      have C:a5<=2:=by simp at P;exact Ql P
      try simp only[JC]
      rw[jM];try simp only[tD,Jo]
      refine⟨by exact an 0 2 0 16777216 C rfl,?_⟩;have a4:=L.zb a6 b1;refine hi (λu E n=>∃l:List N,E=l.map .c/\l.length=u/\u<=2/\(∀x∈l,x∈dT)/\es f n p h r g m k c e b a) (hv ([]) rfl rfl (by exact du _ 0 2 rfl) (by simp) a4) ?_ ?_
      .ext u x E n c3 b0 q i(pM i)l b9 D z s;subst b9;ext(ac:jN q)b6 i-;refine⟨trivial,?_⟩;simp;have y:=s.za<|aB n [aa.a [O.c<|aF "a",O.c<|aF "b",O.c<|aF "c"]];have a1:=s.i.za;refine DC (b:=dT) y.i S.j.1 (by simp[dT]) ⟨by exact aL a1.1,by exact aL a1.2⟩ (by decide) (by decide) λc1 b8 b7 b2 a7=>?_;simp only[JP,bC];refine⟨by exact an 0 2 0 16777000 D rfl,b0 _ _<|hv (l++[b8]) (by simp) (by simp) (by exact aj b6 C) (λx q=>?_)<|y.zb a7 b2⟩;rcases bU.mp q with o|o;.exact z x o
       .simp at o;subst o;exact b7
      .ext@E@n i
       exact by
        ext(pM i)@l R D z s
        exact by
         refine⟨trivial,?_⟩;have b4:=aB n [aa.a<|l.map O.c,aa.b [O.c a3,O.a n.length]];have y:=s.za b4;have b5:=bH s.d.a;have X:=s.i.za;simp[y.d.a];have b3:k<=3:=by exact aA 1 0 0 3 0 3 Q B rfl
         refine⟨by exact an 0 3 0 16777215 b3 rfl,?_⟩;have a8:=y.zc (t:=n.length+1) (q:=n.length) (z:=a3) (l:=l) rfl (by simp) (by simp) (aI (by exact aL X.1) (by exact aL X.2)<|by exact aL b5) (bs A) (by simp at R D;exact aA 0 0 0 2 0 3 (aw R) C rfl) (λx q=>.inl<|z x q) λ_=>⟨by rw[pv,if_pos Q]at A;exact A,z⟩;exact(a9 _ _<|Fi _ _ _ _ _ rfl a8).1
 .ext G I i(FE i)j c e b a S;rw[bC,T]at S;exact⟨S.l,a2 _ _ _ _ _ _ _ _ _ S⟩
theorem N2{s t v A:Option O}(o:es f H p h r g m m c e b a)(a2:0<m)(q:m<=3)(a8:∀I c e b a s t v A,es f I p h r g m 5 c e b a->K .a [V<|.a p,V<|.a g,V<|.a r,s,t,v,A] I):cA (aY<|d+2) DE [V<|.a p,V<|.a g,V<|.a r,s,t,v,A] H K:=by
 revert f H d p h r g m K c e b a s t v A;ext@f@H@d@p@h@r@g@m@K@c@e@b@a@s@t@v@A o a2 q a8;have G:(cw.take m).length=m:=by rw[km];show min m 3=m;exact vS q
 have a1:(if(5:Int)-((cw.take m).map O.c).length>1 then(5:Int)-((cw.take m).map O.c).length else 1)=((5-m:Nat):Int):=by rw[bC,G];exact ND q
 simp only[ce,JC,lH,dy,en,AA,Az,cf,tD,tK,DE,ow,JS,mV,dI,dg,op,oq,cg,cb,dG,CK,o.l,C8,B3,C9];try simp only[bC]at a1
 try simp only[bC]
 rw[a1];rw[jM];try simp only[tD,tK]
 refine⟨by exact an 0 5 0 16777216 (rE _ _) rfl,?_⟩;refine bV (λk Q I=>∃s t v c e b a,Q=[V<|.a p,V<|.a g,V<|.a r,s,t,v,A]/\es f I p h r g m (m+k) c e b a) (Fl _ _ _ _ _ _ _ rfl o) ?_ ?_
 .ext@k@x@Q@I@d1 b5 d4 C j
  exact by
   ext(FK j)@s@t@v@c@e@b@a S
   exact by
    ext(ac:jN C)c0 j-;refine⟨trivial,?_⟩;have d3:=S.i.za;simp;refine DC (b:=cw.take m) S.i S.j.1 S.l ⟨by have:=S.j;exact Qm this,by have:=S.j;exact Qn this⟩ (by exact aj a2<|ar G) (by exact aA 0 0 0 3 0 64 (aw G) q rfl) ?_;ext@i@z c5 b7 b1
    exact by
     have R:=S.zb b1 b7;have a5:=R.i.za;have T:=R.za<|aB i [aa.a [O.b 2,O.b 3,O.b 1,O.b 2]];simp;refine DB (b:=[2,3,1,2]) T.i S.j.1 (by simp) ⟨by exact aL a5.1,by exact aL a5.2⟩ (by simp) (by simp) ?_;ext@a9@a0 a3 b8 b2
     exact by
      have D:a0<=3:=by simp at a3;exact Qo a3
      have b0:=T.zb b2 b8;have X:=b0.za<|aB a9 [aa.b [O.c z,Z a0]];simp[X.d.a];rw[jM];try simp only[tD,Jo]
      refine⟨by exact an 0 3 0 16777216 D rfl,?_⟩;refine hi (λu P n=>∃l:List N,P=l.map .c/\l.length=u/\u<=3/\(∀x∈l,x∈dT\/x∈cw.take m)/\es f n p h r g m (m+k) c e b a) (hv ([]) rfl rfl (by exact du _ 0 3 rfl) (by simp) X) ?_ ?_
      .ext u x P n d2 b6 C j(pM j)l c9 L E w;subst c9;ext(ac:jN C)c4 j-;refine⟨trivial,?_⟩;have a7:=w.i.za;have c1:min m cw.length=m:=by show min m 3=m;exact vS q
       simp[aH w.l,c1];refine aI (by exact Qp q) (by exact Qq q) ?_;have B:=w.za<|aB n [aa.a [O.c<|aF "a",O.c<|aF "b"],aa.a<|O.c (aF "a")::O.c (aF "b")::pF m (md O.c cw),aa.a<|O.c (aF "a")::O.c (aF "b")::(pF m (md O.c cw)++pF m (md O.c cw))];refine DC (b:=[aF "a",aF "b"]++cw.take m++cw.take m) B.i S.j.1 ?_ ⟨by exact aL<|an 1 0 1 2 a7.1 rfl,by exact aL<|an 1 0 1 2 a7.2 rfl⟩ (by simp) (by simp;exact Qr q) λd0 c8 c6 b9 b3=>?_;.rw[ev<|by exact du _ 0 2 rfl,show n.length+2-n.length=2 by exact Gr];simp[MY]
       simp only[JP,bC];refine⟨by exact an 0 3 0 16777000 L rfl,b6 _ _<|hv (l++[c8]) (by simp) (by simp) (by exact aj c4 D) (λx C=>?_)<|B.zb b3 b9⟩;rcases bU.mp C with o|o;.exact E x o
       .simp only[hV]at o;subst o;rcases bU.mp c6 with y|y
        .rcases bU.mp y with y|y
         .left;have:∀c7∈[aF "a",aF "b"],c7∈dT:=by decide
          exact this _ y
         .exact .inr y
        .exact .inr y
      .ext@P@n j;exact by ext(pM j)@l a4 L E w;exact by refine⟨trivial,?_⟩;have c2:=aB n [aa.a<|l.map O.c,aa.b [O.c z,O.a n.length]];have B:=w.za c2;have c3:=bH w.d.a;have a6:=w.i.za;simp[B.d.a];refine⟨by exact Qs c0,?_⟩;have b4:=B.zc (t:=n.length+1) (q:=n.length) (z:=z) (l:=l) rfl (by simp) (by simp) (aI (by exact aL a6.1) (by exact aL a6.2)<|by exact aL c3) c5 (by simp at a4 L;exact aj (aw a4) D) E λo=>absurd o<|kc.mpr<|ds _ _;exact(b5 _ _<|Fl _ _ _ _ _ _ _ rfl b4).1
 .ext Q I j(FK j)s t v c e b a S;rw[bC,ki,show m+(5-m)=5 by exact Qt q]at S;exact⟨trivial,a8 _ _ _ _ _ _ _ _ _ S⟩
theorem N3(w:eP H p h)(u:p≠h)(z:f<+:H)(v:f.length<=p)(x:f.length<=h)(q:∀I r P b a,f<+:I->gO I r P b a->cM P->Q (.a r) I):aY (d+3) we [.a p] H Q:=by
 delta f H d p h Q;ext w u z v x q;rw[bR Cq 6 rfl rfl rfl rfl<|by decide,N0];simp;have t:=w.za;have D:=aB H [aa.a [O.c<|aF "S",O.c<|aF "T",O.c<|aF "U"],aa.a [O.b 2,O.b 1,O.b 2,O.b 3]];have R:(H++[aa.a [O.c<|aF "S",O.c<|aF "T",O.c<|aF "U"],aa.a [O.b 2,O.b 1,O.b 2,O.b 3]])[H.length]?=V (.a<|cw.map .c):=by simp[cw]
 refine DB (b:=[2,1,2,3]) (w.zb D) u (by simp) ⟨by exact aL<|an 1 0 1 1 t.1 rfl,by exact aL<|an 1 0 1 1 t.2 rfl⟩ (by simp) (by simp) ?_;ext@i@m B A y
 exact by
  have l:0<m/\m<=3:=by simp at B;exact Qu B
  have S:=y.a _ _ R (by exact Qv t);have C:=y.zb (z.trans D) λj L=>by exact Qw v x L
  simp[S];have T:cw.length<=16777216:=by decide
  refine⟨T,?_⟩;have n:=A.za;have E:=aB i [aa.a<|pF m<|cw.map O.c,aa.a []];have X:=eq C
  have G:es f (i++[aa.a<|pF m<|cw.map O.c,aa.a []]) p h (i.length+1) i.length m 0 (λ_=>oT) (λ_=>[]) (λ_=>0) λ_=>0:={
   o:=C.trans E
   t:=(aI v x<|by exact an 0 0 0 1 X rfl)
   j:=(vw u (by exact aL<|an 1 0 1 1 n.1 rfl) (by exact aL<|an 1 0 1 1 n.2 rfl) (by exact aL n.1) (by exact aL n.2)<|by exact bh<|aO _)
   i:=A.zb E
   l:=by simp[MY]
   d:=⟨by simp[az],λk s=>absurd s<|dW k,λk s=>absurd s<|dW k⟩
   s:=λj g=>by exact Qx g
   q:=λj g=>absurd g<|dW _
   n:=λj g=>absurd g<|dW _};refine N1 G l.2 λa4 c e b a a0 a1 a2 a3 K=>?_;simp;refine N2 K l.1 l.2 λa5 c e b a a0 a1 a2 a3 o=>?_;simp;exact q _ _ _ _ _ o.o o.d<|o.ze l.1 l.2
end
noncomputable def cQ(E:List N):List N->List N|[]=>[]|x::l=>x::(if x∈E then cQ E l else[])
noncomputable def nn(E l:List N):Bool:=l.all λx=>aP<|x∈E
theorem rA{E:List N}{x:N}:∀{l:List N},x∈cQ E l↔∃c f,l=c++x::f/\∀u∈c,u∈E
 |[]=>by simp[cQ]
 |a::l=>by
  rw[cQ,bM];constructor
  .rintro(rfl|h);.exact bK ([]) l rfl (by simp)
   .split at h
    .rename_i j;ext(bp:rA.mp h)c f i g;subst i
     exact(bK (a::c) f rfl (λu d=>by
      rcases bM.mp d with rfl|d;.exact j
      .exact g u d))
    .cases h
  .ext i(@bp i)c f e g;cases c with|nil=>simp at e;exact .inl e.1.symm|cons b c=>simp at e;obtain⟨rfl,rfl⟩:=e;right;rw[if_pos<|g a<|.head _];exact rA.mpr<|bK c f rfl λu d=>g u<|.tail _ d
theorem DF{E:List N}:∀{l:List N},(cQ E l).length<=l.length
 |[]=>aO _
 |a::l=>by
  rw[cQ];have:=DF (E:=E) (l:=l);split;.simp;exact this
  .simp
theorem LB{E:List N}:∀{l r:List N},(∀u∈l,u∈E)->cQ E (l++r)=l++cQ E r|[],r,_=>rfl|a::l,r,h=>by rw[MV,cQ,if_pos<|h a<|.head _,LB λu b=>h u<|.tail _ b];rfl
section
variable{H I:J}{d e p:Nat}{Q:au}
theorem DG{E l:List N}(m:H[p]?=V (.a<|l.map .c))(D:H[e]?=V (.a<|E.map .c))(L:l.length<=1000)(q:∀(I:J)(t f:Nat),H<+:I->I[t]?=V (.b [.a f,.d<|nn E l])->I[f]?=V (.a<|(cQ E l).map .c)->Q (.a t) I):aY (d+1) pY [.a p,.a e] H Q:=by
 delta H d e p Q E l;ext m D L q;rw[bR Cs 2 rfl rfl rfl rfl<|by decide];simp[Cs,aH m];refine bV (λk y I=>∃w f,y=[V<|.a p,V<|.a e,V<|.a f,w]/\H<+:I/\(∀u∈l.take k,u∈E)/\I[f]?=V (.a<|(l.take k).map .c)) (eD _ H.length rfl (aB _ _) (by simp)<|by simp) ?_ ?_
 .ext@k@x@y@I@K S X v c
  exact by
   ext(kt c)@w@f b g j
   exact by
    ext(_:cB v)@z i c
    exact by
     subst c;have T:=(bi.mp i).1;refine⟨ay b m,?_⟩;have a2:=aB I [aa.a [O.c z]];have n:=aB I [aa.a [O.c z],aa.a<|(l.take k).map O.c++[O.c z]];have G:=ay (b.trans n) D;have s:(I++[aa.a [O.c z],aa.a<|(l.take k).map O.c++[O.c z]])[I.length+1]?=V (.a<|(l.take<|k+1).map .c):=by rw[ev<|by exact du _ 0 1 rfl,show I.length+1-I.length=1 by exact vT,gL i];simp
     simp[aH j];refine⟨by exact aA 0 0 0 1000 0 16777215 (hQ _ _) L rfl,?_⟩;rw[MY]at G s n;generalize B:I++[aa.a [O.c z],aa.a<|pF k (l.map O.c)++[O.c z]]=A at*;have a0:∀C:aa,I++[aa.a [O.c z],aa.a<|pF k (l.map O.c)++[O.c z],C]=A++[C]:=λC=>by rw[<-B];simp
     have a1:I.length+2=A.length:=by rw[<-B];simp
     simp[G];by_cases h:z∈E
     .simp[h];refine(S _ _<|eD _ _ rfl (b.trans n) (λu a=>?_) s).1;rw[gL i]at a;rcases bU.mp a with a|a;.exact g u a
      .simp at a;have a:=a.symm;subst a;exact h
     .simp[h];refine X _ _ _ ?_;have P:l.take k++z::l.drop (k+1)=l:=by ext(aD:bi.mp i)_ R;rw[<-R,<-mf T,ES]
      have o:cQ E l=l.take (k+1):=by
       conv=>lhs;rw[<-P]
       rw[LB g,cQ,if_neg h,gL i]
      have r:nn E l=aq:=by unfold nn;rw[List.all_eq_false];exact ad z (bs i) (by simpa using h)
      simp only[Bp,KC];refine q _ _ _ ((b.trans n).trans<|aB _ _) (by rw[r];exact cF) ?_;rw[o];exact aH s
 .ext y I c(kt c)w f b g j;simp only[bC,fj]at g j;refine⟨ay b m,?_⟩;simp;have o:cQ E l=l:=by have:=LB (r:=[]) g;simpa[cQ]using this
  have r:nn E l=M:=by unfold nn;rw[eQ];exactλx v=>by simpa using g x v
  refine q _ _ _ (b.trans<|aB _ _) (by rw[r];exact cF) ?_;rw[o];exact aH j
end
theorem N4{l r:List N}(f:r.Nodup)(h:∀x∈l,x∈r)(d:l.Nodup)(b:r.length<=l.length):∀x∈r,x∈l:=λx e=>by
 refine DO λc=>?_
 have:=im (l:=x::l) (r:=r) (gR.mpr ⟨c,d⟩) λy a=>by
  rcases bM.mp a with rfl|a;.exact e
  .exact h y a
 simp at this;exact bB 1 0 (aA 0 0 1 0 1 0 b this rfl) rfl
structure rB(P:bW)(E:List N):Prop where
 a:∀x,x∈E↔x∈P.zc/\bN P.zb (P.za x)
section
variable{P:bW}{E:List N}
theorem DH(h:cM P){k:Nat}(a:k<P.b){x:N}(b:x∈P.a k):x∈P.ze:=iv.mpr<|(jf h a b).elim .inl λh=>.inr<|.inr h
theorem N5{k:Nat}(a:k<P.b):P.c k∈P.ze:=iv.mpr<|.inr<|.inr<|gN a
theorem N6(h:cM P)(d:∀x∈E,x∈P.zc)(b:∀k,k<P.b->(∀y∈P.a k,y∈E)->P.c k∈E){s:Nat}(c:bN P.zb s):∃x∈E,s=P.za x:=by
 delta P E s at h d b c
 induction c with
 |mk k a j i=>
  cases k with
  |zero=>
   exfalso;have:(0:Nat)∈P.zb.b 0:=by show 0∈P.zf 0;rw[nm];simp
   ext(_:i 0 this)x f e;have:=nl h<|d x f;exact Qy e this
  |succ k=>
   have a:k<P.b:=by have:k+1<P.b+1:=a;exact an 2 1 1 0 this rfl
   refine ad (P.c k) (b k a λy g=>?_) jg;have:P.za y∈P.zb.b (k+1):=by show _∈P.zf (k+1);rw[hM];exact bY.mpr<|ad y g rfl
   ext(_:i _ this)x f e;have:=nj (DH h a g) e;rw[this];exact f
theorem N7{k:Nat}(b:k<P.b)(c:∀y∈P.a k,bN P.zb<|P.za y):bN P.zb<|P.za<|P.c k:=by
 delta P k;ext b c;have:=bN.mk (G:=P.zb) (k+1) (by show k+1<P.b+1;exact an 1 0 2 1 b rfl) λs a=>by have a:s∈P.zf (k+1):=a;rw[hM]at a;ext(_:bY.mp a)y d e-;exact c y d
 rwa[jg]at this
end
section
variable{H I:J}{P:bW}{d r:Nat}{b a:Nat->Nat}{Q:au}
theorem N8(b5:gO H r P b a)(h:cM P)(b9:∀(I:J)(f:Nat)(E:List N),H<+:I->I[f]?=V (.a<|E.map .c)->rB P E->Q (.a f) I):aY (d+1) wf [.a r] H Q:=by
 delta H P d r b a Q;ext b5 h b9;rw[bR Cr 5 rfl rfl rfl rfl<|by decide];have a6:=h.a;simp[Cr];refine iZ (λb8 c0 I=>∃(E:List N)(t:Int)(f:Nat),c0=[V<|.a r,V<|.a f,V<|.b t,U,U,U]/\H<+:I/\I[f]?=V (.a<|E.map .c)/\E.Nodup/\(∀x∈E,x∈P.zc/\bN P.zb (P.za x))/\((t=-1/\E=[])\/∃A:List N,t=A.length/\A.Nodup/\(∀x∈A,x∈E)/\∀k,k<P.b->(∀y∈P.a k,y∈A)->P.c k∈E)/\b8=(4-t).toNat) (pI ([]) (-1) H.length rfl (aB _ _) (by simp) (by simp) (by simp) (.inl ⟨rfl,rfl⟩) rfl) ?_;ext@b8@c0@a8 c
 exact by
  ext(vB c)@E@t@f a4 G T B c9 n
  exact by
   subst n;ext d3 c2 d6;have X:E.length<=3:=aj (im T λx l=>(B x l).1)<|ut h;simp[G];refine cE (λa2=>?_) λR=>?_
   .have a2:t<E.length:=of_decide_eq_true a2;have a0:=b5.za a4;simp[G,a0.a];refine hi (λk v w=>∃m:List N,v=m.map .c/\m.length<=k/\a8<+:w/\(∀x,x∈m↔∃j,j<k/\P.c j=x/\∀y∈P.a j,y∈E)) (ej ([]) rfl (by simp) (eg _)<|by simp) ?_ ?_
    .ext@k@x@v@w@d4 a9 l c
     exact by
      ext(sr c)@m q p z
      exact by
       ext(ac:gf l)i c-;have D:=a0.za p;refine⟨D.a,?_⟩;simp[D.c k i,D.b k i];have a1:=ay p G;refine hi (λu v S=>v=(((P.a k).take u).filter λy=>aP<|y∉E).map .c/\S=w) ⟨rfl,rfl⟩ ?_ ?_
       .ext@u@x@v@S@d5 C l c
        exact by
         ext(ec c)n;have n:=n.symm;subst n;ext(_:cB l)@d2 b7 c
         exact by
          subst c;have d8:=(bi.mp b7).1;have b3:=h.b k i;refine⟨D.b k i,?_⟩;simp[a1];rw[gL b7,nD]at C;have b1:=ht (λy=>aP<|y∉E)<|(P.a k).take u;have d7:=(fW u<|P.a k).length_le;by_cases b4:d2∈E;.simp[b4]at C⊢;exact C
          .simp[b4]at C⊢;refine⟨by simp at b1;exact aA 0 0 0 3 0 16777000 (aj b1<|hQ _ _) b3 rfl,C⟩
       .ext v S c(ec c)n;have n:=n.symm;subst n;refine⟨D.b k i,?_⟩;have b3:=h.b k i;simp;have b0:(((P.a k).filter λy=>!aP (y∈E)).isEmpty=M)↔∀y∈P.a k,y∈E:=by simp[se,MN]
        generalize((P.a k).filter λy=>!aP (y∈E))=c1 at*;have b6:=p.trans<|aB w [aa.a<|c1.map O.c,aa.a []];refine cE (λL=>?_) λL=>?_
        .refine⟨by exact aA 1 0 0 5 0 16777000 (aA 0 0 1 0 1 0 q i rfl) (aw a6) rfl,a9 _ _<|ej (m++[P.c k]) (by simp) (by simp;exact q) b6 λx=>?_⟩;rw[bU,z];constructor
         .rintro(⟨j,g,o⟩|g);.exact ad j (by exact an 1 0 1 1 g rfl) o
          .simp at g;subst g;exact aT k (by exact aO _) rfl<|b0.mp L
         .ext c(@bd c)j g o K;by_cases e:j=k;.have e:=e.symm;subst e;right;simp[o]
          .exact .inl<|aT j (by exact cO g e) o K
        .refine a9 _ _<|ej m rfl (by exact an 0 0 0 1 q rfl) b6 λx=>?_;rw[z];constructor;.ext c(c)j g o;exact ad j (by exact an 1 0 1 1 g rfl) o
         .ext c(@bd c)j g o K;by_cases e:j=k;.have e:=e.symm;subst e;rw[b0.mpr K]at L;cases L
          .exact aT j (by exact cO g e) o K
    .ext v w c(sr c)m q p z;have a1:=ay p G;rw[gI]at z q;refine⟨(a0.za p).a,?_⟩;simp[aH a1];refine⟨by exact Qz a6 X q,?_⟩;rw[<-iD];simp only[CL];refine⟨by simp;exact QA a6 X q,λa7 a3 c8=>?_⟩;have d0:H<+:w++[aa.a<|m.map O.c,aa.a<|(E++m).map O.c]++[aa.a<|a7.map O.c]:=((a4.trans p).trans<|aB _ _).trans<|aB _ _;refine(c2 _ _ _ ?_<|pI a7 _ _ rfl d0 cF c8 (λx l=>?_) (.inr<|ej E rfl T (λx l=>(a3 x).mpr<|gS _ l) λk i s=>(a3 _).mpr<|kq _<|(z _).mpr<|aT k i rfl s) rfl).1;.exact QB X a2
     .rcases bU.mp ((a3 x).mp l)with g|g;.exact B x g
      .ext(bd:(z x).mp g)j b2 c s;subst c;exact⟨gN b2,N7 b2 λy a5=>(B y<|s y a5).2⟩
   .have R:¬t<E.length:=of_decide_eq_false R;refine b9 a8 f E a4 G ⟨λx=>⟨B x,λc=>ac c λc5 c6=>?_⟩⟩;rcases c9 with⟨rfl,rfl⟩|⟨A,rfl,c7,d1,c4⟩;.simp at R
    .have c3:=N4 T d1 c7 (by exact Gx R);ext(_:N6 h (λx l=>(B x l).1) (λk i s=>c4 k i λy a5=>c3 y<|s y a5) c6)y s e;have:=nj (iv.mpr<|.inr<|.inr c5) e;rw[this];exact s
end
inductive fc(P:bW)(E c:List N):N->Prop|a(x:N):x∈cQ E c->fc P E c x|b(k:Nat)(x:N):k<P.b->fc P E c (P.c k)->x∈cQ E (P.a k)->fc P E c x
def kQ(L:List N):Nat:=((dT++cw).filter λx=>aP<|x∉L).length
theorem N9(L:List N):kQ L<=6:=ht _ _
theorem O0{L a:List N}(h:∀x∈L,x∈a){z:N}(e:z∈dT++cw)(c:z∉L)(d:z∈a):kQ a+1<=kQ L:=by
 delta L a z at h e c d;have g:(dT++cw).Nodup:=by decide
 have:=im (l:=z::((dT++cw).filter λx=>aP<|x∉a)) (r:=(dT++cw).filter λx=>aP<|x∉L) (gR.mpr ⟨by simp[d],g.filter _⟩) λy b=>by
  delta y;intros _
  exact by
   rcases bM.mp b with rfl|b;.exact iF.mpr ⟨e,by simpa using c⟩
   .rw[iF]at b⊢;refine⟨b.1,?_⟩;have:=b.2;simp at this⊢;exactλf=>this<|h y f
 simpa[kQ]using this
theorem rC{E l:List N}{x:N}(h:x∈cQ E l):x∈l:=by ext(bp:rA.mp h)c b a w;subst a;simp
def lQ(P:bW)(x:N):Prop:=x∈dT\/x∈P.zc
section
variable{P:bW}{E a:List N}
theorem DI(h:cM P){k:Nat}(a:k<P.b){x:N}(b:x∈P.a k):lQ P x:=(h.c k a x b).elim .inl λh=>.inr<|ni.mpr h
theorem lQ.za(h:cM P){x:N}(b:lQ P x):x∈dT++cw:=b.elim (gS _) λa=>kq _<|ry h a
theorem fc.zb(h:cM P)(e:∀x∈a,lQ P x){x:N}(c:fc P E a x):lQ P x:=by induction c with|a x b=>exact e x<|rC b|b k x d _ b _=>exact DI h d<|rC b
def gk(E L a:List N):List N:=L++(cQ E a).filter λx=>aP<|x∉L
theorem LC{L a:List N}:(∀x∈L,x∈gk E L a)/\∀x∈cQ E a,x∈gk E L a:=by
 refine⟨λx b=>gS _ b,λx b=>?_⟩;by_cases h:x∈L;.exact gS _ h
 .exact kq _<|iF.mpr ⟨b,by simpa using h⟩
theorem O1{L a:List N}(d:∀x∈a,x∈dT++cw)(e:a.length<=3)(c:L.length+3*kQ L<=21):(gk E L a).length+3*kQ (gk E L a)<=21:=by
 delta E L a;ext d e c
 cases f:(cQ E a).filter λx=>aP<|x∉L with
 |nil=>
  have:gk E L a=L:=by unfold gk;rw[f];simp
  rw[this];exact c
 |cons z k=>
  have b:z∈(cQ E a).filter λx=>aP<|x∉L:=by rw[f];simp
  rw[iF]at b;have j:z∉L:=by simpa using b.2
  have g:=LC (E:=E) (L:=L) (a:=a);have h:=O0 g.1 (d z<|rC b.1) j<|g.2 z b.1;have i:(gk E L a).length<=L.length+3:=by unfold gk;rw[hR];have:=ht (λx=>aP<|x∉L)<|cQ E a;have:=DF (E:=E) (l:=a);exact QC e (by assumption) this
  exact QD c h i
end
section
variable{H I:J}{P:bW}{d r e b:Nat}{f c:Nat->Nat}{Q:au}{E a:List N}
theorem O2(b1:gO H r P f c)(h:cM P)(c2:H[e]?=V (.a<|E.map .c))(e1:H[b]?=V (.a<|a.map .c))(c6:a.length<=3)(h1:∀x∈a,lQ P x)(e6:∀(I:J)(n:Nat)(a5:List N),H<+:I->I[n]?=V (.a<|a5.map .c)->(∀x,x∈a5↔fc P E a x/\x∉P.zc)->a5.Nodup->Q (.a n) I):aY (d+2) wg [.a r,.a b,.a e] H Q:=by
 revert H P d r e b f c Q E a;ext@H@P@d@r@e@b@f@c@Q@E@a b1 h c2 e1 c6 h1 e6;rw[bR Ct 7 rfl rfl rfl rfl<|by decide];have h7:=h.a;simp[Ct];refine DG e1 c2 (by exact an 0 3 0 1000 c6 rfl) ?_;ext@D@i2@n d9 h2 d5
 exact by
  have e0:=aB D [aa.b [O.a n,O.b 0]];have b6:=b1.za<|d9.trans e0;simp[h2,b6.a];have i0:=ay e0 d5;refine hi (λk t a6=>t=az k (λj=>.c<|P.c j)/\a6=D++[aa.b [O.a n,O.b 0]]) ⟨rfl,rfl⟩ ?_ ?_;.ext k x t a6 e9 b5 l g(ec g)m-(ac:gf l)p g-;refine⟨b6.a,?_⟩;simp[b6.c k p];exact⟨by exact aA 1 0 0 5 0 16777000 p (aw h7) rfl,b5 _ _ ⟨by rw[<-iX],rfl⟩⟩
  .ext t a6 g(ec g)m-;refine⟨b6.a,?_⟩;rw[gI];simp;have b3:=d9.trans<|aB D [aa.b [O.a n,O.b 0],aa.a<|az P.b λj=>O.c<|P.c j];have g4:(D++[aa.b [O.a n,O.b 0],aa.a<|az P.b λj=>O.c<|P.c j])[D.length+1]?=V (.a<|(az P.b P.c).map .c):=by rw[kL];simp
   have f9:=aH (X:=[aa.b [O.a n,O.b 0],aa.a<|az P.b λj=>O.c<|P.c j]) d5;generalize D.length+1=e4 at*;generalize D++[aa.b [O.a n,O.b 0],aa.a<|az P.b λj=>O.c<|P.c j]=d0 at*;have g5:∀x,x∈az P.b P.c↔x∈P.zc:=λx=>by rw[ni];unfold az;simp
   generalize az P.b P.c=b9 at*;refine iZ (λe5 a4 I=>∃(L:List N)(o n:Nat)(A B:Option O),a4=[V<|.a r,V<|.a b,V<|.a e,V<|.a e4,V<|.a n,V<|Z o,A,B,U,U]/\d0<+:I/\I[n]?=V (.a<|L.map .c)/\(∀x∈cQ E a,x∈L)/\(∀x∈L,fc P E a x)/\(∀(i:Nat)(y:N),i<o->L[i]?=V y->∀k,k<P.b->P.c k=y->∀x∈cQ E (P.a k),x∈L)/\L.length+3*kQ L<=21/\o<=L.length/\e5=22-o) (Fj (cQ E a) 0 n U U rfl (eg _) f9 (λx h=>h) (λx l=>.a x l) (λ_ _ h=>absurd h<|dW _) (by have:=DF (E:=E) (l:=a);have:=N9<|cQ E a;exact QE c6 (by assumption) this) (by exact fH) rfl) ?_;ext@e5@a4@a6 g
   exact by
    ext(Nu g)@L@o@n@A@B b2 a7 a1 K a2 w f5 m
    exact by
     subst m;ext@e9 b5 h0
     exact by
      simp[a7];refine cE (λa9=>?_) λc5=>?_
      .have a9:o<L.length:=of_decide_eq_true a9;obtain⟨y,C⟩:∃y,L[o]?=V y:=⟨_,cu a9⟩;delta y;intros _
       exact by
        have d2:=b1.za<|b3.trans b2;have g7:L.length+3*kQ L<=21:=w;simp[d2.a];refine bV (λk a4 I=>∃(L:List N)(n:Nat)(A B:Option O),a4=[V<|.a r,V<|.a b,V<|.a e,V<|.a e4,V<|.a n,V<|Z o,A,B,U,U]/\d0<+:I/\I[n]?=V (.a<|L.map .c)/\(∀x∈cQ E a,x∈L)/\(∀x∈L,fc P E a x)/\(∀(i:Nat)(y:N),i<o->L[i]?=V y->∀k,k<P.b->P.c k=y->∀x∈cQ E (P.a k),x∈L)/\L.length+3*kQ L<=21/\L[o]?=V y/\(∀j,j<k->P.c j=y->∀x∈cQ E (P.a j),x∈L)) (vy L n A B rfl b2 a7 a1 K a2 w C λ_ h=>absurd h<|dW _) ?_ ?_
        .clear d2 g7 w C a9 a2 K a1 a7 b2 f5 b5 h0 A B;ext@k@x@a4@e7@h8 d1 i1 l g
         exact by
          ext(FD g)@L@n@A@B T a3 a1 K a2 w C d3
          exact by
           ext(ac:gf l)p g-;have c0:=b1.za<|b3.trans T;refine⟨c0.a,?_⟩;simp[c0.c k p,a3,C];refine cE (λc3=>?_) λc8=>?_
           .have c3:P.c k=y:=by simpa using c3
            have c7:=h.b k p;refine DG (c0.b k p) (ay (b3.trans T) c2) (by exact an 0 3 0 1000 c7 rfl) ?_;ext@e8@i3@h9 c9 h3 c4
            exact by
             simp[h3,c4];refine hi (λu t G=>t=(((cQ E<|P.a k).take u).filter λz=>aP<|z∉L).map .c/\G=e8) ⟨rfl,rfl⟩ ?_ ?_
             .ext@u@x@t@G@f0 q l g
              exact by
               ext(ec g)m;have m:=m.symm;subst m;ext(_:cB l)@z s g
               exact by
                subst g;refine⟨c4,?_⟩;simp[ay c9 a3];rw[gL s,nD]at q;have R:=ht (λy=>aP<|y∉L)<|(cQ E<|P.a k).take u;have h4:=(fW u<|cQ E<|P.a k).length_le;have f4:=DF (E:=E) (l:=P.a k);by_cases b0:z∈L;.simp[b0]at q⊢;exact q
                .simp[b0]at q⊢;exact⟨by simp at R;exact aA 0 0 0 3 0 16777000 (aj (aj R<|hQ _ _) f4) c7 rfl,q⟩
             .ext@t@G g
              exact by
               ext(ec g)m;have m:=m.symm;subst m;refine⟨c4,?_⟩;simp[aH<|ay c9 a3];have d8:=O1 (E:=E) (L:=L) (a:=P.a k) (λx l=>(DI h p l).za h) c7 w;have f2:L.map O.c++md O.c ((cQ E<|P.a k).filter λx=>!aP (x∈L))=(gk E L<|P.a k).map O.c:=by simp[gk]
               rw[f2]
               have g1:L.length+((cQ E<|P.a k).filter λx=>!aP (x∈L)).length<=21:=by
                have:(gk E L<|P.a k).length=L.length+((cQ E<|P.a k).filter λx=>!aP (x∈L)).length:=by simp[gk]
                exact aj (aj (ar this)<|ds _ _) d8
               refine⟨by exact an 0 21 0 16777216 g1 rfl,?_⟩;have b7:=LC (E:=E) (L:=L) (a:=P.a k);have d6:∀{i:Nat}{z:N},L[i]?=V z->(gk E L<|P.a k)[i]?=V z:=λh=>by unfold gk;rw[gQ (bi.mp h).1];exact h
               have c1:=(bi.mp C).1;refine(d1 _ _<|vy (gk E L<|P.a k) _ _ _ rfl (T.trans<|c9.trans<|aB _ _) (by simp) (λx l=>b7.1 x<|a1 x l) (λx l=>?_) (λi z S s j a8 g3 x l=>?_) d8 (d6 C) λj a8 b8 x e2=>?_).1
               .unfold gk at l;rcases bU.mp l with l|l;.exact K x l
                .exact .b k x p (c3▸K y (bs C)) (iF.mp l).1
               .have h5:L[i]?=V z:=by
                 have g2:i<L.length:=by exact aA 1 0 1 0 1 0 S c1 rfl
                 have X:L[i]?=V L[i]:=cu g2;have a0:=d6 X;rw[s]at a0;rw[X];exact a0.symm
                exact b7.1 x<|a2 i z S h5 j a8 g3 x l
               .by_cases v:j=k;.have v:=v.symm;subst v;exact b7.2 x e2
                .exact b7.1 x<|d3 j (by exact cO a8 v) b8 x e2
           .have c8:¬P.c k=y:=by simpa using c8
            refine(d1 _ _<|vy L n _ _ rfl T a3 a1 K a2 w C λj a8 b8 x l=>?_).1;by_cases v:j=k;.have v:=v.symm;subst v;exact absurd b8 c8
            .exact d3 j (by exact cO a8 v) b8 x l
        .ext a4 e7 g(FD g)f1 f3 A B T a3 f6 f7 f8 g8 e3 d4;rw[gI]at d4;refine⟨(b1.za<|b3.trans T).a,?_⟩;have c1:=(bi.mp e3).1;simp;refine(b5 _ _ _ ?_<|Fj f1 (o+1) f3 A B rfl T a3 f6 f7 (λi z S s k p d7 x l=>?_) g8 (by exact c1) rfl).1;.exact QF w a9
         .by_cases b4:i=o;.have b4:=b4.symm;subst b4;rw[e3]at s;have s:=bj s;subst s;exact d4 k p d7 x l
          .exact f8 i z (by exact cO S b4) s k p d7 x l
      .have c5:¬o<L.length:=of_decide_eq_false c5;have g0:∀x,fc P E a x->x∈L:=λx l=>by induction l with|a x l=>exact a1 x l|b k x p _ l h6=>ext(aD:fe h6)i S;have:=(bi.mp S).1;exact a2 i _ (by exact aj this<|dM c5) S k p rfl x l
       refine hi (λu t G=>t=((L.take u).filter λz=>aP<|z∉b9).map .c/\G=a6) ⟨rfl,rfl⟩ ?_ ?_
       .ext@u@x@t@G@f0 q l g
        exact by
         ext(ec g)m;have m:=m.symm;subst m;ext(_:cB l)@z s g
         exact by
          subst g;refine⟨a7,?_⟩;simp[ay b2 g4];rw[gL s,nD]at q;have R:=ht (λy=>aP<|y∉b9)<|L.take u;have h4:=(fW u L).length_le;by_cases b0:z∈b9;.simp[b0]at q⊢;exact q
          .simp[b0]at q⊢;exact⟨by simp at R;exact QG w R,q⟩
       .ext t G g(ec g)m;have m:=m.symm;subst m;refine⟨a7,?_⟩;have R:=ht (λy=>aP<|y∉b9) L;simp only[bC,oi,dy,dg,en,lH,KI];simp only[cF,bC,fj,CL];refine⟨by exact QH w R,λa5 g6 g9=>?_⟩;refine e6 _ _ a5 ((b3.trans b2).trans<|(aB _ _).trans<|aB _ _) cF (λx=>?_) g9;rw[g6,iF];simp only[decide_eq_true_eq];rw[g5];exact⟨λg=>ac g λX a0=>⟨K x X,a0⟩,λg=>ac g λX a0=>⟨g0 x X,a0⟩⟩
end
theorem uu{f:N->Nat}:∀{l:List N}{d:List Nat}{s:Nat}{c:List Nat},l.map f=d++s::c->∃p y q,l=p++y::q/\p.map f=d/\f y=s/\q.map f=c|[],d,s,c,e=>by simp at e|a::l,[],s,c,e=>by simp at e;exact gt ([]) a l rfl rfl e.1 e.2|a::l,b::d,s,c,e=>by simp at e;ext(hY:uu e.2)p y q g h i j;exact gt (a::p) y q (by rw[g];rfl) (by simp[h,e.1]) i j
def hN(P:bW)(x:N):Prop:=x∈P.zd\/x∈P.zc
section
variable{P:bW}{E b:List N}{t:Nat}{a:N}
theorem hN.zb(h:cM P){x:N}(b:hN P x)(a:x∉P.zc):P.za x<P.zd.length:=nk<|b.elim id λh=>absurd h a
theorem hN.za(h:cM P)(d:rB P E){x:N}(g:hN P x):x∈E↔bN P.zb (P.za x):=by
 rw[d.a];refine⟨λh=>h.2,λb=>⟨?_,b⟩⟩;rcases g with f|e;.have c:=nk f;have a:=b.za (ka h).a;have a:P.zd.length<=P.za x:=a;exact(bB 1 0 (aj c a) rfl).elim
 .exact e
theorem hN.zc(h:cM P){x:N}(c:hN P x):P.za x≠P.zd.length:=c.elim (λb=>by have:=nk b;exact bh this) λa=>by have:=nl h a;exact aL this
theorem fc.za(h:cM P)(e:∀x∈b,hN P x){x:N}(c:fc P E b x):hN P x:=by induction c with|a x a=>exact e x<|rC a|b k x d _ a _=>exact jf h d<|rC a
theorem LD(h:cM P)(n:rB P E)(o:∀x∈b,hN P x):(∃x,fc P E b x/\x∉P.zc/\t=P.za x)↔gJ P.zb (b.map P.za) t:=by
 delta P E b t;ext h n o;constructor
 .ext c(mn c)x d S;have v:∀{y:N}{t:Nat},fc P E b y->ee P.zb (P.za y) t->gJ P.zb (b.map P.za) t:=by ext y t d;induction d with|a y f=>ext g(bp:rA.mp f)m l e j;refine oF.mpr<|hw (m.map P.za) (P.za y) (l.map P.za) (by rw[e];simp) (λu a=>?_) g;ext(_:bY.mp a)z A c-;exact((n.a z).mp<|j z A).2|b k y i _ f B=>ext g;refine B ?_;ext(bp:rA.mp f)m l e j;have:=ee.b (G:=P.zb) (k+1) t (P.za y) (m.map P.za) (l.map P.za) (by show k+1<P.b+1;exact an 1 0 2 1 i rfl) (by show P.zf (k+1)=_;rw[hM,e];simp) (λu a=>by ext(_:bY.mp a)z A c-;exact((n.a z).mp<|j z A).2) g;rwa[jg]at this
  exact v d<|.a _<|(d.za h o).zb h S
 .ext g(la:oF.mp g)@m@s@l e j R
  exact by
   ext(hY:uu e)@p@y@q c C D X
   exact by
    subst c;subst C;subst D;subst X;have f:fc P E (p++y::q) y:=.a _<|rA.mpr<|bK p q rfl λu a=>(hN.za h n<|o u<|gS _ a).mpr<|j _<|bY.mpr<|ad u a rfl;have v:∀{s t:Nat},ee P.zb s t->∀y,s=P.za y->fc P E (p++y::q) y->fc P E (p++y::q) y->True:=λ_ _ _ _ _=>trivial;generalize a0:p++y::q=I at*
    have v:∀{s t:Nat},ee P.zb s t->∀y,s=P.za y->fc P E I y->∃x,fc P E I x/\x∉P.zc/\t=P.za x:=by
     ext s t g
     induction g with
     |a t w=>rintro y rfl d;exact aT y d (λK=>by have:=nl h K;have w:P.za y<P.zd.length:=w;exact bB 2 0 (aA 1 0 1 0 2 0 this w rfl) rfl) rfl
     |b k t s m l i r j _ B=>
      ext y f d
      cases k with
      |zero=>exact absurd f.symm<|hN.zc h<|d.za h o
      |succ k=>
       have i:k<P.b:=by have:k+1<P.b+1:=i;exact an 2 1 1 0 this rfl
       rw[jg]at f;have L:=nj (N5 i) f;have r:P.zf (k+1)=m++s::l:=r;rw[hM]at r;ext(hY:uu r)H z T G c C D;subst c;subst C;subst D;have Q:∀u∈H,u∈P.a k:=λu a=>by rw[G];exact gS _ a
       exact B z rfl<|.b k z i (L▸d)<|rA.mpr<|bK H T G λu a=>(hN.za h n<|jf h i<|Q u a).mpr<|j _<|bY.mpr<|ad u a rfl
    exact v R y rfl f
inductive oU(P:bW)(E:List N)(a:N):N->Prop|b:oU P E a a|c(k:Nat)(e:List N)(y:N)(d:List N):k<P.b->P.a k=e++y::d->oU P E a y->(∀u∈d,u∈E)->oU P E a (P.c k)
def oV(P:bW)(E:List N)(a x:N):Prop:=∃y,oU P E a y/\((y=oT/\x=jY)\/∃k c b,k<P.b/\P.a k=c++y::b/\fc P E b x/\x∉P.zc)
theorem oU.za(c:a∈P.zc){y:N}(h:oU P E a y):y∈P.zc:=by induction h with|b=>exact c|c k _ _ _ b _ _ _ _=>exact gN b
theorem O3:jY∈P.zd:=rx.mpr<|.inl (by decide)
theorem LE:P.za jY=0:=by
 delta P;unfold bW.za bW.ze
 have:∀k,∃l,hm P P.zc k=jY::l:=by
  ext k
  induction k with
  |zero=>exact⟨_,rfl⟩
  |succ k c=>
   ext(@aD c)l b;rw[hm,b]
   have:∀(r l:List N),∃d,r.foldl (gM P.zc) (jY::l)=jY::d:=by
    ext r
    induction r with
    |nil=>exactλl=>⟨l,rfl⟩
    |cons a r c=>
     ext l;rw[nr];unfold gM;split;.exact c _
     .exact c _
   exact this _ _
 ext(aD:this P.b)l b;have b:P.zd=jY::l:=b;rw[b];simp
theorem oV.za(h:cM P){x:N}(b:oV P E a x):x∈P.zd:=by
 delta P E a x at h b;obtain⟨y,_,⟨_,rfl⟩|⟨k,l,j,d,e,c,i⟩⟩:=b;.exact O3
 .exact(c.za h λu g=>jf h d<|by rw[e];exact kq _<|ET _ g).elim id λf=>absurd f i
theorem O4(h:cM P)(q:rB P E)(v:a∈P.zc):(∃x,oV P E a x/\t=P.za x)↔jb P.zb (P.za a) t:=by
 delta P E t a;ext h q v;have S:=h.a;have T:∀{k:Nat}{c i:List N}{y:N},P.a k=c++y::i->P.zb.b (k+1)=c.map P.za++P.za y::i.map P.za:=λ{k c i y}e=>by show P.zf (k+1)=_;rw[hM,e];simp
 have D:∀{y:N},y∈P.zc->P.zb.a<=P.za y:=λg=>gn<|nl h g;have L:P.zb.b 0=[]++P.za (P.c 0)::[0]:=nm;constructor
 .ext j(bt j)@x m
  exact by
   ext(m)@y g p
   exact by
    have Q:jb P.zb (P.za y)<|P.za x:=by
     rcases p with⟨rfl,rfl⟩|⟨k,c,i,d,e,G,p⟩;.rw[<-h.e];refine .a 0 [] _ [0] _ (by show 0<P.b+1;exact an 5 0 1 1 (ar S) rfl) L (D<|gN<|by exact an 5 0 1 0 (ar S) rfl) ?_;rw[LE];exact .inl<|.a _ (by show 0<P.zd.length;have:=us (P:=P);exact an 3 0 1 0 this rfl)
     .refine .a (k+1) _ _ _ _ (by show k+1<P.b+1;exact an 1 0 2 1 d rfl) (T e) (D<|g.za v) ?_;exact(LD h q λu l=>jf h d<|by rw[e];exact kq _<|ET _ l).mp<|aT x G p rfl
    clear p;induction g with|b=>exact Q|c k c y i d e g a3 H=>refine H<|.b (k+1) _ _ _ _ (by show k+1<P.b+1;exact an 1 0 2 1 d rfl) (T e) (D<|g.za v) (λu l=>?_) (by rw[jg];exact Q);ext(_:bY.mp l)z f j-;exact((q.a z).mp<|a3 z f).2
 .ext r
  have a4:∀{B t:Nat},jb P.zb B t->∀y,B=P.za y->oU P E a y->∃x,oV P E a x/\t=P.za x:=by
   ext B t r
   induction r with
   |a k c B i t d b o s=>
    rintro y rfl g
    cases k with
    |zero=>
     have e:c=[]/\P.za y=P.za (P.c 0)/\i=[0]:=by rw[L]at b;cases c with|nil=>simp at b;exact aI rfl b.1.symm b.2.symm|cons X c=>exfalso;simp at b;have:=b.2;cases c with|nil=>simp at this;have A:=this;have o:P.zd.length<=P.za y:=o;have:=us (P:=P);exact absurd (aj this o) (by rw[<-A.1];decide)|cons a0 c=>simp at this
     ext(@bD e)j a1 m;subst j;subst m;have:=nj (iv.mpr<|.inr<|.inr<|g.za v) a1;rcases s with s|⟨w,_⟩
     .have R:t=0:=by generalize f:(0:Nat)=z at s;cases s with|a t R=>rfl|b k t a6 c i d b a5 r=>exfalso;have:=(ka h).a.f k d;have:=(ka h).b;exact QI f (by assumption) this
      exact ad jY (ad y g<|.inl ⟨this.trans h.e,rfl⟩) (by rw[LE];exact R)
     .have f:=w.za (ka h).a;have:=(ka h).b;exact absurd this<|kc.mpr f
    |succ k=>
     have d:k<P.b:=by have:k+1<P.b+1:=d;exact an 2 1 1 0 this rfl
     have b:P.zf (k+1)=c++P.za y::i:=b;rw[hM]at b;ext(hY:uu b)I z K n j C m;subst j;subst m;have f:z=y:=nj (DH h d<|by rw[n];simp) C;have f:=f.symm;subst f;ext(bd:(LD h q λu l=>jf h d<|by rw[n];exact kq _<|ET _ l).mpr s)x G p j-;exact ad x (ad y g<|.inr<|gt k I K d n G p) rfl
   |b k c B i t d b o w r H=>
    rintro y rfl g
    cases k with
    |zero=>
     exfalso;rw[L]at b;have a2:(0:Nat)∈i:=by cases c with|nil=>simp at b;rw[<-b.2];simp|cons X c=>exfalso;simp at b;have:=b.2;cases c with|nil=>simp at this;have A:=this;have o:P.zd.length<=P.za y:=o;have:=us (P:=P);exact absurd (aj this o) (by rw[<-A.1];decide)|cons a0 c=>simp at this
     have:=(w 0 a2).za (ka h).a;have:=(ka h).b;exact Gm (by assumption) this
    |succ k=>
     have d:k<P.b:=by have:k+1<P.b+1:=d;exact an 2 1 1 0 this rfl
     have b:P.zf (k+1)=c++P.za y::i:=b;rw[hM]at b;ext(hY:uu b)I z K n j C m;subst j;subst m;have f:z=y:=nj (DH h d<|by rw[n];simp) C;have f:=f.symm;subst f;exact H (P.c k) jg<|.c k I y K d n g λu l=>(hN.za h q<|jf h d<|by rw[n];exact kq _<|ET _ l).mpr<|w _<|bY.mpr<|ad u l rfl
  exact a4 r a rfl .b
end
structure ji(P:bW)(E:List N)(m:N)(L l:List N)(o:Nat)(D:N->Nat->Nat->Prop)(n:N->Prop):Prop where
 d:L.Nodup
 g:m∈L
 b:∀y∈L,oU P E m y
 h:∀x∈l,oV P E m x
 e:∀y k j i,D y k j.length->k<P.b->P.a k=j++y::i->(∀u∈i,u∈E)->P.c k∈L
 f:∀y k j i x,D y k j.length->k<P.b->P.a k=j++y::i->fc P E i x->x∉P.zc->x∈l
 c:∀y,n y->y=oT->jY∈l
 a:l.length<=o
section
variable{P:bW}{E:List N}{d:N}{L b:List N}{c:Nat}{D:N->Nat->Nat->Prop}{a:N->Prop}
theorem ji.za(h:ji P E d L b c D a){n:Nat}{l:N->Nat->Nat->Prop}{m:N->Prop}(o:∀y k s,l y k s->k<P.b->(P.a k)[s]?=V y->D y k s)(p:∀y,m y->a y)(q:c<=n):ji P E d L b n l m:={h with e:=λy k j i f g e=>h.e y k j i (o _ _ _ f g<|by rw[e];simp) g e,f:=λy k j i x f g e=>h.f y k j i x (o _ _ _ f g<|by rw[e];simp) g e,c:=λy f=>h.c y<|p y f,a:=aj h.a q}
theorem ji.zb(h:ji P E d L b c D a){f:Nat}{o n B t:List N}{j:N}(A:f<P.b)(e:P.a f=o++j::n)(r:j∈L)(z:∀x,x∈B↔fc P E n x/\x∉P.zc)(H:B.length<=3)(q:t=if(∀a3∈n,a3∈E)/\P.c f∉L then L++[P.c f]else L):ji P E d t (b++B) (c+3) (λy k s=>D y k s\/(y=j/\k=f/\s=o.length)) a:=by
 revert h A e r z H q;revert P E d L b c D a f o n B t j;ext@P@E@d@L@b@c@D@a@f@o@n@B@t@j h A e r z H q;have T:∀y∈L,y∈t:=λy r=>by rw[q];split<;>simp[r]
 have X:∀{i g:List N},P.a f=i++j::g->i.length=o.length->g=n:=λp a0=>by rw[e]at p;have:=List.append_inj p a0.symm;have w:=this.2;simp at w;exact w.symm
 exact{
  d:=by
   rw[q];split;.rename_i I;rw[ff];exact aI h.d (by simp) (λa4 a2 a5 v p=>by simp at v;subst v;subst p;exact I.2 a2)
   .exact h.d
  g:=T _ h.g
  b:=λy G=>by
   rw[q]at G;split at G
   .rename_i I;rcases bU.mp G with m|m;.exact h.b y m
    .simp at m;subst m;exact .c f o j n A e (h.b j r) I.1
   .exact h.b y G
  h:=λx C=>by
   rcases bU.mp C with m|m;.exact h.h x m
   .ext(ac:(z x).mp m)w a1;exact ad j (h.b j r)<|.inr<|gt f o n A e w a1
  e:=λy k i g l K u S=>by
   delta y k i g;intros _
   exact by
    rcases l with l|⟨rfl,rfl,R⟩;.exact T _<|h.e y k i g l K u S
    .have:=X u R;subst this;rw[q];by_cases Q:P.c k∈L;.rw[if_neg λh=>h.2 Q];exact Q
     .rw[if_pos ⟨S,Q⟩];simp
  f:=λy k i g x l K u v C=>by
   delta y k i g x;intros _
   exact by
    rcases l with l|⟨rfl,rfl,R⟩;.exact gS _<|h.f y k i g x l K u v C
    .have:=X u R;subst this;exact kq _<|(z x).mpr ⟨v,C⟩
  c:=λy l p=>gS _<|h.c y l p
  a:=by have:=h.a;rw[hR];exact QJ H this}
end
section
variable{H I:J}{P:bW}{d r e:Nat}{c b:Nat->Nat}{Q:au}{E:List N}{a:N}
theorem O5(h:cM P){a B:List N}(g:∀x∈a,lQ P x)(e:∀x,x∈B↔fc P E a x/\x∉P.zc)(f:B.Nodup):B.length<=3:=im (r:=dT) f λx i=>by ext(ac:(e x).mp i)b c;exact(b.zb h g).elim id λd=>absurd d c
theorem O6{T:List N}{y:N}(b:y∉T):∀{l:List N},(l.countP λx=>aP<|x∈T++[y])=(l.countP λx=>aP<|x∈T)+l.countP (·==y)
 |[]=>rfl
 |a::l=>by
  rw[pE,pE,pE,O6 b];by_cases h:a=y;.subst h;simp[b];exact be (aO _)<|aO _
  .simp[h];exact QK
noncomputable def hO(P:bW)(L:List N)(k:Nat):Nat:=(P.a k).countP λx=>aP<|x∈L
theorem O7(b8:gO H r P c b)(h:cM P)(e3:H[e]?=V (.a<|E.map .c))(g6:a∈P.zc)(h7:∀(I:J)(f5:Nat)(B:List N),H<+:I->I[f5]?=V (.a<|B.map .c)->(∀x,x∈B↔oV P E a x)->B.Nodup->Q (.a f5) I):aY (d+3) wh [.a r,.c a,.a e] H Q:=by
 delta H P d r e c b Q E a;ext b8 h e3 g6 h7;rw[bR Cu 6 rfl rfl rfl rfl<|by decide];have h6:=h.a;simp[Cu];have e5:∀{L f:List N}{i7:Nat}{h9:N->Nat->Nat->Prop}{i0:N->Prop},ji P E a L f i7 h9 i0->L.length<=3:=λS=>aj (im S.d λy j=>(S.b y j).za g6)<|ut h
 have g7:∀(L:List N),db P.b (hO P L)<=15:=λL=>by
  have:∀k,k<=P.b->db k (hO P L)<=3*k:=by ext k;induction k with|zero=>ext _;simp[db]|succ k a7=>ext q;have:=a7 (by exact an 1 0 0 0 q rfl);have w:hO P L k<=(P.a k).length:=MZ;have:=h.b k (by exact q);rw[jP];exact Gy (by assumption) w this
  have:=this P.b<|aO _;exact QL h6 this
 have l2:∀(y:N)(k:Nat),k<=P.b->db k (λa0=>(P.a a0).countP (·==y))<=3*k:=by ext y k;induction k with|zero=>ext _;simp[db]|succ k a7=>ext q;have:=a7 (by exact an 1 0 0 0 q rfl);have w:(P.a k).countP (·==y)<=(P.a k).length:=MZ;have:=h.b k (by exact q);rw[jP];exact Gy (by assumption) w this
 have l9:=aB H [aa.a [O.c a],aa.a [],aa.b [O.a H.length,O.b 0,O.a<|H.length+1]];refine iZ (λn K I=>∃(L f:List N)(g t p:Nat)(a1 a2 A:Option O),K=[V<|.a r,V<|.c a,V<|.a e,V<|.a t,V<|Z g,V<|.a p,a1,a2,A]/\H<+:I/\I[t]?=V (.a<|L.map .c)/\I[p]?=V (.a<|f.map .c)/\ji P E a L f (g+3*db P.b (hO P<|L.take g)) (λy _ _=>y∈L.take g) (λy=>y∈L.take g)/\g<=L.length/\n=4-g) (pL ([a]) ([]) 0 _ _ U U U rfl l9 (by simp) (by simp) ⟨by simp,by simp,λy j=>by simp at j;have j:=j.symm;subst j;exact .b,by simp,by simp,by simp,by simp,by simp⟩ (by exact fH) rfl) ?_;ext@n@K@d3 v
 exact by
  ext(vD v)@L@f@g@t@p@a1@a2@A e6 c6 d9 S k8 m6
  exact by
   subst m6;ext@i4 j6 n2
   exact by
    simp[c6];refine cE (λb0=>?_) λe4=>?_
    .have b0:g<L.length:=of_decide_eq_true b0;obtain⟨y,j⟩:∃y,L[g]?=V y:=⟨_,cu b0⟩;delta y;intros _
     exact by
      have h5:y∉L.take g:=Lp S.d j;have a8:=e5 S;have b7:=g7<|L.take g;obtain⟨T,R⟩:∃T,L.take g=T:=⟨_,rfl⟩;delta T;intros _
      exact by
       rw[R]at h5 S b7;simp[c6,j]
       have h8:∀(b4:J)(f:List N)(p:Nat),H<+:b4->b4[t]?=V (.a<|L.map .c)->b4[p]?=V (.a<|f.map .c)->ji P E a L f (g+1+3*db P.b (hO P T)) (λy _ _=>y∈T) (λl=>l∈T\/l=y)->cA (aY<|d+2) ((aW.m 6 7 (ao.b 0)<|aW.d 8 (ao.j eG.a<|(ao.b 7).c ao.d).s<|aW.g (ao.i CmpOp.Eq ((ao.b 7).g<|ao.b 8)<|(ao.b 3).g<|ao.b 4) ((aW.c 5<|ao.h si (ao.b 5)<|ao.l wg<|(ao.b 0).c<|((ao.b 7).F<|ao.h si (ao.b 8)<|ao.f 1).c<|(ao.b 2).c ao.d).b<|aW.g (((ao.l pY<|((ao.b 7).F<|ao.h si (ao.b 8)<|ao.f 1).c<|(ao.b 2).c ao.d).g<|ao.f 1).u<|ao.i CmpOp.NotIn (ao.b 6)<|ao.b 3) (aW.c 3<|ao.h si (ao.b 3) ((ao.b 6).c ao.d).k) aW.f) aW.f).b<|aW.c 4<|ao.h si (ao.b 4)<|ao.f 1) [V<|.a r,V<|.c a,V<|.a e,V<|.a t,V<|Z g,V<|.a p,a1,a2,A] b4 i4:=by
        ext b4 f p g8 j8 j1 S;have k4:=b8.za g8;simp[k4.a];refine bV (λk K I=>∃(L f:List N)(t p:Nat)(a1 a2 A:Option O),K=[V<|.a r,V<|.c a,V<|.a e,V<|.a t,V<|Z g,V<|.a p,a1,a2,A]/\H<+:I/\I[t]?=V (.a<|L.map .c)/\I[p]?=V (.a<|f.map .c)/\ji P E a L f (g+1+3*db P.b (hO P T)+3*db k (λa0=>(P.a a0).countP (·==y))) (λl C G=>l∈T\/(l=y/\C<k)) (λl=>l∈T\/l=y)/\L.take g=T/\L[g]?=V y) (Fn L f t p a1 a2 A rfl g8 j8 j1 (S.za (λl C G m _ _=>m.elim id λh=>absurd h.2<|dW _) (λ_ h=>h)<|by simp[db]) R j) ?_ ?_
        .ext@k@x@K@i2@m7 j7 n3 X v
         exact by
          ext(FM v)L f t p a1 a2 A b9 a8 e0 S R j(ac:gf X)q v-;have e1:=b8.za b9;have a9:=h.b k q;refine⟨e1.a,?_⟩;simp[e1.c k q,e1.b k q,jM];refine⟨by exact an 0 3 0 16777216 a9 rfl,?_⟩;refine bV (λs K I=>∃(L f:List N)(t p:Nat)(A:Option O),K=[V<|.a r,V<|.c a,V<|.a e,V<|.a t,V<|Z g,V<|.a p,V<|.c<|P.c k,V<|.a<|b k,A]/\H<+:I/\I[t]?=V (.a<|L.map .c)/\I[p]?=V (.a<|f.map .c)/\ji P E a L f (g+1+3*db P.b (hO P T)+3*db k (λa0=>(P.a a0).countP (·==y))+3*((P.a k).take s).countP (·==y)) (λl C G=>l∈T\/(l=y/\(C<k\/(C=k/\G<s)))) (λl=>l∈T\/l=y)/\s<=(P.a k).length/\L.take g=T/\L[g]?=V y) (vz L f t p A rfl b9 a8 e0 (S.za (λl C G m _ _=>m.elim .inl λh=>h.2.elim (λw=>.inr ⟨h.1,w⟩) λw=>absurd w.2<|dW _) (λ_ h=>h)<|by simp) (by exact fH) R j) ?_ ?_
          .ext@s@x@K@f2@i5 f8 n4 X v
           exact by
            ext(FI v)@L@f@t@p@A b2 b6 c4 S m2 R j
            exact by
             ext(ac:jN X)a4 v-;obtain⟨a5,d2⟩:∃a5,(P.a k)[s]?=V a5:=⟨_,cu a4⟩;delta a5;intros _
             exact by
              have e2:=b8.za b2;refine⟨trivial,?_⟩;simp[e2.b k q,d2,b6,j];have c8:((P.a k).take<|s+1).countP (·==y)=((P.a k).take s).countP (·==y)+(if a5=y then 1 else 0):=by rw[gL d2,List.countP_append];congr 1;by_cases h:a5=y<;>simp[h]
              refine cE (λo=>?_) λo=>?_
              .have o:a5=y:=by simpa using o
               have o:=o.symm;subst o;have n1:(P.a k).length<=3:=a9;refine dC (by exact an 0 3 0 16777216 a9 rfl) (by exact vQ) (by exact Gz a4) ?_;rw[<-aaF];have i8:P.a k=(P.a k).take s++y::(P.a k).drop (s+1):=by ext(aD:bi.mp d2)_ w;rw[<-w,<-mf a4,ES]
               have h1:((P.a k).drop<|s+1).length<=3:=by rw[V6];exact aj (rE _ _) a9
               have m1:∀u∈(P.a k).drop (s+1),u∈P.a k:=λu f1=>aaA f1;have h3:∀u∈(P.a k).drop (s+1),lQ P u:=λu f1=>DI h q<|m1 u f1;have g5:((P.a k).take s).length=s:=by rw[km];exact QM a4
               have m5:=bs j;have j2:=S.a;have k0:=e5 S;have l3:((P.a k).map O.c).drop (s+1)=((P.a k).drop<|s+1).map O.c:=by rw[aaF]
               generalize h2:(P.a k).drop (s+1)=D at*;have e9:=aB f2 [aa.a<|D.map O.c];refine O2 (e2.za e9) h (ay (b2.trans e9) e3) cF h1 h3 ?_;ext@b5@m9@B l8 i9 f7 j0
               exact by
                have f6:=O5 h h3 f7 j0;have d0:=e9.trans l8;have j3:=ay d0 c4;have k1:=ay d0 b6;have k5:=e2.za d0;simp[j3,i9];have l0:=l2 y k (by exact an 1 0 0 0 q rfl);have l1:((P.a k).take s).countP (·==y)<=((P.a k).take s).length:=MZ;have g3:=(bi.mp j).1;refine⟨by exact QN h6 b0 (by assumption) b7 q a9 a4 g5 j2 f6 l0 l1,?_⟩;have j4:(b5++[aa.a<|f.map O.c++B.map O.c])[b5.length]?=V (.a<|(f++B).map .c):=by simp
                have e7:=aB b5 [aa.a<|f.map O.c++B.map O.c];have k2:=ay e7 k1;have k6:=k5.za e7;have h0:=b2.trans<|d0.trans e7;generalize b5++[aa.a<|f.map O.c++B.map O.c]=i3 at*;generalize b5.length=c2 at*;simp[k6.b k q];refine dC (by exact an 0 3 0 16777216 a9 rfl) (by exact vQ) (by exact Gz a4) ?_;rw[l3];have d1:=aB i3 [aa.a<|D.map O.c];refine DG (E:=E) cF (ay (h0.trans d1) e3) (by exact an 0 3 0 1000 h1 rfl) ?_;ext@d4@n5@m8 e8 m3 n0
                exact by
                 have j5:=ay (d1.trans e8) j4;have c7:=ay (d1.trans e8) k2;have l7:=h0.trans<|d1.trans e8;have g1:nn E D=M↔∀u∈D,u∈E:=by simp[nn]
                 have d6:∀(a3:List N)(b3:Nat)(c1:J),a3=(if(∀u∈D,u∈E)/\P.c k∉L then L++[P.c k]else L)->d4<+:c1->c1[b3]?=V (.a<|a3.map .c)->i5 .a [V<|.a r,V<|.c a,V<|.a e,V<|.a b3,V<|Z g,V<|.a c2,V<|.c<|P.c k,V<|.a<|b k,V<|Z s] c1:=by
                  ext a3 b3 c1 f9 g9 k3;have i6:=S.zb q i8 m5 f7 f6 f9
                  have g4:∃f4,a3=L++f4:=by
                   rw[f9];split;.exact⟨_,rfl⟩
                   .exact⟨[],by simp⟩
                  ext(@aD g4)f4 g0;refine(f8 _ _<|vz a3 (f++B) b3 c2 _ rfl (l7.trans g9) k3 (ay g9 j5) (i6.za (λl C G m c9 a6=>?_) (λ_ h=>h)<|by rw[if_pos rfl]at c8;exact QO c8) (by exact a4) ?_ ?_).1
                  .delta l C G;intros _
                   exact by
                    rcases m with m|⟨i,w|⟨rfl,d7⟩⟩;.exact .inl<|.inl m
                    .exact .inl<|.inr ⟨i,.inl w⟩
                    .by_cases z:G=s;.have z:=z.symm;subst z;exact .inr<|aI i rfl g5.symm
                     .exact .inl<|.inr ⟨i,.inr ⟨rfl,by exact cO d7 z⟩⟩
                  .rw[g0,aap<|by exact an 1 0 0 0 g3 rfl];exact R
                  .rw[g0,gQ g3];exact j
                 simp[m3];refine cE (λc3=>?_) λc3=>?_
                 .have d8:=g1.mp c3;simp[c7];by_cases b1:P.c k∈L;.simp[b1];exact d6 L t d4 (by rw[if_neg λh=>h.2 b1]) (eg _) c7
                  .simp[b1,aH c7];refine⟨by exact an 0 3 0 16777215 k0 rfl,d6 (L++[P.c k]) _ _ (by rw[if_pos ⟨d8,b1⟩]) (aB _ _)<|by simp⟩
                 .have d8:¬∀u∈D,u∈E:=λh=>by rw[g1.mpr h]at c3;cases c3
                  exact d6 L t d4 (by rw[if_neg λh=>d8 h.1]) (eg _) c7
              .have o:¬a5=y:=by simpa using o
               rw[if_neg o]at c8;refine(f8 _ _<|vz L f t p _ rfl b2 b6 c4 (S.za (λl C G m c9 a6=>?_) (λ_ h=>h)<|by exact QP c8) (by exact a4) R j).1;rcases m with m|⟨i,w|⟨rfl,d7⟩⟩;.exact .inl m
               .exact .inr ⟨i,.inl w⟩
               .by_cases z:G=s;.have z:=z.symm;subst z;rw[d2]at a6;have a6:=bj a6;subst a6;exact absurd i o
                .exact .inr ⟨i,.inr ⟨rfl,by exact cO d7 z⟩⟩
          .ext K f2 v(FI v)L f t p A b2 b6 c4 S m2 R j;rw[bC,ki]at S;refine⟨trivial,(j7 _ _<|Fn L f t p _ _ _ rfl b2 b6 c4 (S.za (λl C G m c9 a6=>?_) (λ_ h=>h) ?_) R j).1⟩
           .rcases m with m|⟨i,w⟩;.exact .inl m
            .by_cases z:C=k;.have z:=z.symm;subst z;exact .inr ⟨i,.inr ⟨rfl,(bi.mp a6).1⟩⟩
             .exact .inr ⟨i,.inl<|by exact cO w z⟩
           .rw[fj,jP];exact QQ
        .ext K i2 v(FM v)a3 i1 b3 c2 a1 a2 A b9 j9 e0 f3 k7 h4;rw[gI]at f3;refine⟨(b8.za b9).a,?_⟩;have k9:=(bi.mp h4).1;have f0:a3.take (g+1)=T++[y]:=by rw[gL h4,k7]
         refine(j6 _ _ _ ?_<|pL a3 i1 (g+1) b3 c2 a1 a2 A rfl b9 j9 e0 (f3.za (λl C G m c9 _=>?_) (λl m=>?_) ?_) (by exact k9) rfl).1;.exact QR b0 a8
         .rw[f0]at m;rcases bU.mp m with i|i;.exact .inl i
          .simp at i;exact .inr ⟨i,c9⟩
         .rw[f0]at m;rcases bU.mp m with i|i;.exact .inl i
          .simp at i;exact .inr i
         .rw[f0]
          have:db P.b (hO P<|T++[y])=db P.b (hO P T)+db P.b (λa0=>(P.a a0).countP (·==y)):=by
           have:∀n,db n (hO P<|T++[y])=db n (hO P T)+db n (λa0=>(P.a a0).countP (·==y)):=by ext n;induction n with|zero=>simp[db]|succ n a7=>rw[jP,jP,jP,a7];have:hO P (T++[y]) n=hO P T n+(P.a n).countP (·==y):=O6 h5;exact QS this
           exact this _
          exact QT this
       refine cE (λo=>?_) λo=>?_
       .have o:y=oT:=by simpa using o
        simp[aH d9];have c5:=S.a;refine⟨by exact QU b0 a8 b7 c5,?_⟩;have m0:=aB d3 [aa.a [O.c<|aF "$end"],aa.a<|f.map O.c++[O.c<|aF "$end"]];have m4:=bs j
        have:=h8 _ (f++[jY]) (d3.length+1) (e6.trans m0) (aH c6) (by simp) {
         d:=S.d
         g:=S.g
         b:=S.b
         h:=λx X=>by
          rcases bU.mp X with i|i;.exact S.h x i
          .simp at i;subst i;exact ad y (S.b y m4)<|.inl ⟨o,rfl⟩
         e:=S.e
         f:=λy k c0 D x m q e o X=>gS _<|S.f y k c0 D x m q e o X
         c:=λl _ _=>by simp
         a:=by simp;exact QV c5};simp-dsimp at this;try simp only[Ap_b,Ap2_b]at this
        exact this
       .have o:¬y=oT:=by simpa using o
        have:=h8 d3 f p e6 c6 d9 {S with c:=λl m e=>m.elim (λh=>S.c l h e) λh=>absurd (h▸e) o,a:=by have:=S.a;exact QW this};simp-dsimp at this;try simp only[Ap_b,Ap2_b]at this
        exact this
    .have e4:¬g<L.length:=of_decide_eq_false e4;have l5:L.take g=L:=EN (by exact dM e4);have a8:=e5 S;have b7:=g7<|L.take g;have c5:=S.a;rw[l5]at S;simp only[KI,d9,CL,dI,dg,cg,cb,dG];refine⟨by exact QX k8 a8 b7 c5,λB b1 l6=>h7 _ _ B (e6.trans<|aB _ _) cF (λx=>?_) l6⟩;rw[b1];refine⟨S.h x,λl4=>?_⟩;have g2:∀y,oU P E a y->y∈L:=λy j=>by induction j with|b=>exact S.g|c k c0 y D q d5 _ h2 a7=>exact S.e y k c0 D a7 q d5 h2
     obtain⟨y,j,⟨i,rfl⟩|⟨k,c0,D,q,d5,o,X⟩⟩:=l4;.exact S.c y (g2 y j) i
     .exact S.f y k c0 D x (g2 y j) q d5 o X
end
theorem O8{f:Nat->Nat}{n:Nat}:∀{l:List Nat},n∈l->(l.map f).sum=f n+((l.erase n).map f).sum
 |[],h=>nomatch h
 |a::l,h=>by
  by_cases e:a=n;.subst e;simp
  .have b:n∈l:=(bM.mp h).resolve_left<|cy e;rw[List.erase_cons_tail<|by simpa using e,dm,dm,aaG,aaG,O8 b];exact Rz
theorem O9:∀{n:Nat}{l:List Nat},l.Nodup->(∀x∈l,x<n)->(l.map λt=>2^t).sum=dz n (·∈l)
 |0,l,b,h=>by cases l with|nil=>rfl|cons a l=>exact absurd (h a<|.head _)<|dW _
 |n+1,l,b,h=>by
  rw[dz];by_cases c:n∈l
  .rw[O8 c];have g:(l.erase n).Nodup:=b.erase n;have i:∀x∈l.erase n,x<n:=λx d=>by have f:=b.mem_erase_iff.mp d;have:=h x f.2;have:=f.1;exact GD (by assumption) this
   rw[O9 g i];have e:dz n (·∈l.erase n)=dz n (·∈l):=KP λt j=>by rw[b.mem_erase_iff];exact⟨λh=>h.2,λh=>⟨by exact bh j,h⟩⟩
   rw[e,if_pos<|ja.mpr c];have:=Nat.two_pow_add_eq_or_of_lt (CR n (·∈l)) 1;rw[Nat.mul_one]at this;rw[this,Nat.or_comm]
  .rw[if_neg<|by rw[rn (b:=aq)<|by simp[c]];simp,Nat.or_zero];exact O9 b λx d=>by have:=h x d;have:x≠n:=λe=>c<|e▸d;exact GD (by assumption) this
theorem P0:∀(l:List Nat),(l.map λt=>(2:Int)^t).sum=(((l.map λt=>2^t).sum:Nat):Int)|[]=>rfl|a::l=>by simp[P0 l]
theorem P1{P:bW}{B:List N}{n:Nat}{p:Nat->Prop}(m:B.Nodup)(j:∀x∈B,x∈P.ze)(h:∀t,(∃x,x∈B/\t=P.za x)↔t<n/\p t):(B.map λx=>(2:Int)^P.za x).sum=((dz n p:Nat):Int):=by
 have i:(B.map λx=>(2:Int)^P.za x)=(B.map P.za).map λt=>(2:Int)^t:=by simp
 rw[i,P0];have o:(B.map P.za).Nodup:=by rw[kX,iE];have:=kX.mp m;refine adY (R:=(·≠·)) (λ{a b}k s l e=>l<|nj (j a k) e) this
 have g:∀t,t∈B.map P.za↔t<n/\p t:=λt=>by rw[<-h,bY];exact⟨λf=>Y f λx c d=>ad x c d.symm,λf=>Y f λx c d=>ad x c d.symm⟩
 rw[O9 o λx r=>((g x).mp r).1];congr 1;exact KP λt q=>by rw[g];exact⟨λh=>h.2,λh=>⟨q,h⟩⟩
section
variable{G:ap}{a:List aJ}{H:J}
def DJ(p q:Nat×Nat):Prop:=p.1<q.1\/(p.1=q.1/\p.2<q.2)
theorem P2{p q:Nat×Nat}(h:DJ p q):qj (fb p) (fb q)=M:=by refine pt.mpr<|h.imp (λh=>decide_eq_true<|pd.mpr h) λh=>dB.mpr ⟨beq_iff_eq.mpr<|congrArg uB h.1,decide_eq_true<|pd.mpr h.2⟩
theorem LF(d:bJ G a):∀k,(bI a k).Pairwise DJ
 |0=>by simp[bI]
 |k+1=>by
  rw[bI,List.pairwise_append];refine aI (LF d k) ?_ λf i b c=>?_
  .split;.rename_i s e;rw[iE];exact(lP d e).1.imp λh=>.inr ⟨rfl,h⟩
   .simp
  .obtain⟨x,y⟩:=f;have g:=(lO.mp i).1;split at c;.rename_i s e;ext(_:bY.mp c)X w j-;exact .inl g
   .cases c
theorem P3(g:bJ G a){c:Nat×Nat->Nat}{f:Nat×Nat->O}:(dK (bI a a.length) c f).Pairwise (λe f=>qj e.1 f.1=M)/\∀e∈dK (bI a a.length) c f,∃d b,e.1=[d,b]:=by
 unfold dK;refine⟨?_,λe i=>?_⟩;.rw[iE];exact(LF g _).imp λh=>P2 h
 .ext(_:bY.mp i)p w j-;exact gs _ _ rfl
theorem LG{a:List<|Nat×Nat}{k c:Nat×Nat->Nat}{f g:Nat×Nat->O}(h:∀p∈a,∃n:Int,f p=.b n/\g p=.b n):qf (dK a k f)<|dK a c g:=by refine⟨by rw[lN,lN],λe j=>?_⟩;ext(_:bY.mp j)p b l-(_:h p b)n d i;refine ad n d ?_;show dp (dK a c g) (fb p)=_;rw[rq,if_pos b,i]
theorem LH{b:Nat×Nat->Nat}:∀{a:List<|Nat×Nat},(∀p∈a,H[b p]?=V (.b [Z p.1,Z p.2]))->fK (fn H) (a.map λp=>.a<|b p)=V (a.map fb)|[],_=>rfl|p::a,h=>by have c:fn H (.a<|b p)=V (fb p):=uf (a:=p.1) (b:=p.2)<|h p<|.head _;rw[dm,fK,c];simp only[LH λq d=>h q<|.tail _ d];rfl
theorem P4{n:Nat}{p:Nat->Prop}:dz n p|||(2^n-1)=2^n-1:=by apply EP;ext t;rw[gq,Nat.testBit_two_pow_sub_one];cases e:(dz n p).testBit t with|false=>simp|true=>simp[((io _).mp e).1]
end
noncomputable def DK:aW:=.b (.d 5 (.b 8)<|.g (.t (.i .NotEq (.h .BitOr (.g (.b 13)<|.b 5)<|.g (.b 8)<|.b 5)<|.g (.b 8)<|.b 5)<|.t (.i .Eq (.g (.b 13)<|.b 5)<|.f 0)<|.i .NotEq (.h .BitOr (.g (.b 8)<|.b 5)<|.b 9)<|.b 9) (.e<|.r aq)<|.f)<|.e<|.i .Gt (.j .a<|.c (.b 8)<|.d)<|.f 0
def DL:aW:=.b (.p 11 12 13<|.n<|.c (.l vZ<|.c (.b 6)<|.d)<|.c (.l wa<|.c (.b 6)<|.d)<|.c (.l vY<|.c (.b 6)<|.d)<|.d)<|.b (.g (.t (.i .NotEq (.b 11)<|.b 8)<|.t (.i .NotEq (.b 12)<|.j .j<|.c (.q 5 (.b 8) (.d)<|.n<|.c (.b 5)<|.c (.b 9)<|.d)<|.d)<|.i .NotEq (.j .b<|.c (.b 13)<|.d)<|.j .b<|.c (.b 8)<|.d) (.e<|.r aq)<|.f) DK
def DM:aW:=.d 4 (.e (.b 6) dP)<|.d 10 (.e (.b 4) gV)<|.b (.c 14<|.l wh<|.c (.b 2)<|.c (.g (.g (.b 2)<|.h .Sub (.b 10)<|.f 1)<|.f 0)<|.c (.b 7)<|.d)<|.j (.b 8) (.n<|.c (.e (.b 4) cp)<|.c (.b 10)<|.d)<|.j .i<|.c (.q 17 (.b 14) (.d)<|.h .Pow (.f 2)<|.m (.b 3) cp<|.c (.b 17)<|.d)<|.d
def DN:aW:=.b (.l 6 7<|.n<|.c (.l wc<|.c (.b 3)<|.d)<|.c (.l wf<|.c (.b 2)<|.d)<|.d)<|.b (.l 8 9<|.n<|.c (.y)<|.c (.h .Sub (.h .Pow (.f 2)<|.e (.b 3) eV)<|.f 1)<|.d)<|.b DM DL
theorem P5:Cv=.b (.c 1<|.l wd<|.c (.b 0)<|.d) (.b (.c 2<|.l we<|.c (.b 1)<|.d)<|.b (.c 3<|.l iN<|.c (.B 15 16 (.b 2) (.d)<|.n<|.c (.b 15)<|.c (.j .d<|.c (.b 16)<|.d)<|.d)<|.d) DN):=rfl
section
variable{c H I:J}{R:cC}{G:ap}{A:gi}{a:List aJ}{d:Nat}{K:aS}{b:Nat×Nat->Nat}
theorem P6{i l:Nat}{m n A B C c D E o s u v w y z:Option O}(j:gj G)(k:bJ G a)(P:ch H i (bI a a.length) λp=>Z<|hk G<|G.d p.2)(Q:ch H l (bI a a.length) λp=>Z<|b p)(L:∀p∈bI a a.length,∀t,(b p).testBit t=M↔∃x,ng G a p.1 p.2 x/\eB G a x t)(q:∀r,K (.b<|.d M) r H):cA (aY d) DK [m,n,A,B,C,c,D,E,V<|.a i,V<|Z<|2^G.a-1,o,s,u,V<|.a l,v,w,y,z] H K:=by
 revert H G a d K b i l m n A B C c D E o s u v w y z;ext@H@G@a@d@K@b@i@l@m@n@A@B@C@c@D@E@o@s@u@v@w@y@z j k P Q L q(bp:id P)@b9@b0 g a2
 exact by
  have a4:=Du j k;simp only[ce,Jf,Jd,tK,eZ,eY,DK,gG,ow,JT,cb,dG,iY,g,C7,oR];refine bV (λb1 r I=>∃c,r=[m,n,A,B,C,c,D,E,V<|.a i,V<|Z<|2^G.a-1,o,s,u,V<|.a l,v,w,y,z]/\I=H) (ad _ rfl rfl) ?_ ?_
  .ext@b1@x@r@I@b3 a0 b7 a9 e
   exact by
    ext(nK e)@c f
    exact by
     have f:=f.symm;subst f;ext(_:cB a9)@p a6 e
     exact by
      subst e;have h:=bs a6;refine⟨g,?_⟩;have a8:=J5 k j<|L p h;have S:=J6 k j h<|L p h;have a3:hk G (G.d p.2)|||(2^G.a-1)=2^G.a-1:=P4;have X:fn H (.a<|b0 p)=V (fb p):=uf (a:=p.1) (b:=p.2)<|a2 p h;ext(bp:id Q)c0 b8 R b6;simp[X,g,R,rq,h];rw[a8,a3];simp[X,g,R,rq,h,S];have a5:((b p:Int)==0)=aq:=by simp[S]
      rw[a5,tB];exact(a0 _ _<|ad _ rfl rfl).1
  .ext r I e(nK e)c f;have f:=f.symm;subst f;refine⟨g,?_⟩;ext(hX:I0 k j)b4 b5 b2 T a1;have a7:0<(bI a a.length).length:=aal<|lO.mpr ⟨(bi.mp T).1,ad b2 T a1⟩;simp[g,lN];refine⟨by exact an 0 10000000 0 16777216 a4 rfl,?_⟩;rw[decide_eq_true a7];exact q _
theorem P7{x:Nat}{T X a5 a6 a7 a8 a9 a0 b4 b5 b6 a1 a2 a3 a4:Option O}(D:bm H R G)(u:gj G)(C:er H R A a)(n:bJ G a)(c3:ch H x (bI a a.length) λp=>Z<|hk G<|G.d p.2)(q:∀I d3,H<+:I->K (.b<|.d M) d3 I):cA (aY<|d+6) DL [T,X,a5,a6,a7,a8,V<|.a A.a,a9,V<|.a x,V<|Z<|2^G.a-1,a0,b4,b5,b6,a1,a2,a3,a4] H K:=by
 revert H R G A a d K x T X a5 a6 a7 a8 a9 a0 b4 b5 b6 a1 a2 a3 a4;ext@H@R@G@A@a@d@K@x@T@X@a5@a6@a7@a8@a9@a0@b4@b5@b6@a1@a2@a3@a4 D u C n c3 q;have s:=Du u n
 have d4:((2:Int)^G.a-1)=((2^G.a-1:Nat):Int):=by
  have d9:0<2^G.a:=aaH _;have d5:((2^G.a:Nat):Int)=(2:Int)^G.a:=by simp
  rw[<-d5];exact GE d9
 simp[DL];refine H0 D u.a C n ?_;ext@g1@b8 z e4
 exact by
  refine H1 (D.za z) u.a (C.za z) n ?_;ext@g2@b7 l e1
  exact by
   refine J4 (D.za<|z.trans l) u (C.za<|z.trans l) n ?_;ext@c0@d2@b b2 e3 e7
   exact by
    simp;have P:=aB c0 [aa.b [O.a b8,O.a b7,O.a d2]];have e5:=e4.za<|(l.trans b2).trans P;have e2:=e1.za<|b2.trans P;have c5:=e3.za P;have d0:=(z.trans<|l.trans b2).trans P;have c4:=c3.za d0;generalize c0++[aa.b [O.a b8,O.a b7,O.a d2]]=c1 at*;ext(bp:id c4)@h0@g E c6
    exact by
     ext(bp:id e5)h3 g9 f5 g7;simp[f5,E,lN];have g4:(bI a a.length).Pairwise λp q=>DJ p q:=LF n _;have f0:=Lq n a.length;have S:∀{g:Nat×Nat->Nat}{c2:Nat×Nat->O},_:=λ{g c2}=>P3 n (c:=g) (f:=c2);have f7:=λf8 H q=>P6 (d:=d+6) (K:=K) (H:=H) (i:=x) (l:=f8) (b:=b) (m:=T) (n:=X) (A:=a5) (B:=a6) (C:=a7) (c:=a8) (D:=V<|.a A.a) (E:=a9) (o:=a0) (s:=V<|.a b8) (u:=V<|.a b7) (v:=a1) (w:=a2) (y:=a3) (z:=a4) u n (q:=q);generalize g5:bI a a.length=c at*;refine aI (by exact an 0 10000000 0 16777216 s rfl) (LG λp j=>ad _ rfl rfl) ?_;rw[oR];obtain⟨f,c8⟩:∃f,c1.length=f:=⟨_,rfl⟩;delta f;intros _
     exact by
      refine hi (λk b9 I=>k<=c.length/\b9=az k (λi=>.a<|f+i)/\c1<+:I/\I.length=f+k/\∀i p,i<k->c[i]?=V p->I[f+i]?=V (.b [.a<|g p,Z<|2^G.a-1])) (sl (by exact fH) rfl (eg _) (by exact be (aw c8)<|ar c8) λ_ _ h=>absurd h<|dW _) ?_ ?_
      .ext@k@h4@b9@I@g3 e0 f6 o
       exact by
        ext(Fp o)e8 y w L(_:cB f6)@p d1 o
        exact by
         subst o;have e9:=(bi.mp d1).1;refine⟨ay y E,?_⟩;simp;refine⟨by exact aA 0 0 0 10000000 0 16777000 e8 s rfl,e0 _ _<|sl (by exact e9) (by rw[<-iX,w]) (y.trans<|aB _ _) (by simp;exact be (an 0 0 1 1 (aw w) rfl)<|an 0 0 1 1 (ar w) rfl) λi f9 r l=>?_⟩;by_cases e:i=k;.have e:=e.symm;subst e;rw[d1]at l;have l:=bj l;subst l;rw[<-w];exact cF
         .exact aH<|L i f9 (by exact cO r e) l
      .ext@b9@I o
       exact by
        ext(Fp o)_ y w L;rw[bC]at w L⊢;refine⟨ay y E,?_⟩
        have c7:∀{g0:Type}(b1:Nat×Nat->g0),c.map b1=az c.length λi=>b1<|ci c i:=λb1=>by
         apply ve;ext i;by_cases h:i<c.length;.have v:c[i]?=V c[i]:=cu h;rw[dN,v,cc h,up v];rfl
         .rw[pA<|by simp;exact dM h,pA<|by simp;exact dM h]
        simp only[oi,dy,dg,en,lH];have c9:=y.trans<|aB I [aa.a<|az c.length λi=>O.a<|f+i];have d6:(I++[aa.a<|az c.length λi=>O.a<|f+i])[I.length]?=V (aa.a<|az c.length λi=>O.a<|f+i):=cF;have e6:=λi p r j=>aH (X:=[aa.a<|az c.length λi=>O.a<|f+i])<|L i p r j;generalize I++[aa.a<|az c.length λi=>O.a<|f+i]=t at*;show wH t _ t[I.length]?;rw[d6];delta wH;dsimp only[eH,fL];refine hv (az c.length λi=>(fb (ci c i),g (ci c i),Z (2^G.a-1),f+i)) (by rw[kL]) (by rw[gI];exact an 0 10000000 0 16777216 s rfl) ?_ (λp j=>?_) λm=>?_;.rw[kL];have:=c7 fb;rw[<-this,kX,iE];exact(kX.mp f0).imp λh e=>h<|La e
        .unfold az at j;ext(_:bY.mp j)i r o-;have r:=fE.mp r;have v:c[i]?=V c[i]:=cu r;rw[up v];exact⟨e6 i _ r v,ay c9<|c6 _<|bs v⟩
        .delta m;intros _
         exact by
          have d7:(az c.length λi=>(fb (ci c i),g (ci c i),Z (2^G.a-1),f+i)).map (λp=>(p.1,p.2.1,p.2.2.1))=dK c g (λ_=>Z<|2^G.a-1):=by rw[kL];unfold dK;exact(c7 λp=>(fb p,g p,Z (2^G.a-1))).symm
          rw[d7];have Q:=c9.trans<|aB t [aa.d m<|dK c g λ_=>Z<|2^G.a-1];have d8:(t++[aa.d m<|dK c g λ_=>Z<|2^G.a-1])[t.length]?=V (aa.d m<|dK c g λ_=>Z<|2^G.a-1):=cF;generalize t++[aa.d m<|dK c g λ_=>Z<|2^G.a-1]=b0 at*;ext(bp:id e2)h1 g8 f1 g6(bp:id c5)@h2@b3 f2 f3
          exact by
           try simp only[tE,CI,rj]
           simp only[rj,ay Q f1,d8,B9,lN];refine aI (by exact an 0 10000000 0 16777216 s rfl) (LG λp j=>ad (((2^G.a-1:Nat):Int)) (by rw[d4]) rfl) ?_;try simp only[CH,qN,Xq,qV,Br,Bm,Bh,Bp,ou,eZ,eY,Jb,Bo,mV,dI,cg,dG,cb,ce,cf,dy,dg,en,lH,KG]
           simp only[pj,tB,ay Q f2,KH,lN,oR];refine dC (by exact an 0 10000000 0 16777216 s rfl) S.1 S.2 ?_;try simp only[AD,mV,dI,cg,dG,cb,ce,cf,dy,dg,en,lH,KG]
           simp only[aH<|ay Q E,KH,lN,oR];refine dC (by exact an 0 10000000 0 16777216 s rfl) S.1 S.2 ?_;try simp only[tE,CI,rj]
           try simp only[rj]
           have f4:=Q.trans<|aB b0 [aa.a<|c.map λp=>O.a<|b3 p];have B:=f4.trans<|aB (b0++[aa.a<|c.map λp=>O.a<|b3 p]) [aa.a<|c.map λp=>O.a<|g p];rw[aH<|cF (H:=b0) (o:=aa.a<|c.map λp=>O.a<|b3 p),cF];refine B8 (by simp;exact an 0 10000000 0 16777216 s rfl) (ad _ (LH λp j=>ay B<|f3 p j)<|LH λp j=>ay B<|c6 p j) ?_;try simp only[CH,qN,qV,Br,Bm,Bh,Bp,ou,eZ,eY]
           simp only[pj,tB,oR];exact f7 _ _ (λd3=>q _ _<|d0.trans B) (c4.za B) (c5.za B) e7
end
section
variable{a H I:J}{R:cC}{P:bW}{A:gi}{c:List aJ}{d r e b:Nat}{g f:Nat->Nat}{K:aS}{E:List N}
theorem P8{z C t a0 a1 n D G L o S T X:Option O}(b6:gO a r P g f)(h:cM P)(c9:bm a R P.zb)(w:er a R A c)(a8:bJ P.zb c)(d2:a[e]?=V (.a<|E.map .c))(c8:rB P E)(b2:a<+:H)(d1:a.length<=b)(c6:ch H b [] λp=>Z<|hk P.zb<|P.zb.d p.2)(d6:∀I t n o,a<+:I->ch I b (bI c c.length) (λp=>Z<|hk P.zb<|P.zb.d p.2)->K .a [z,C,V<|.a r,V<|.a R.a,t,a0,V<|.a A.a,V<|.a e,V<|.a b,a1,n,D,G,L,o,S,T,X] I):cA (aY<|d+3) DM [z,C,V<|.a r,V<|.a R.a,t,a0,V<|.a A.a,V<|.a e,V<|.a b,a1,n,D,G,L,o,S,T,X] H K:=by
 revert a H R P A c d r e b g f K E z C t a0 a1 n D G L o S T X;ext@a@H@R@P@A@c@d@r@e@b@g@f@K@E@z@C@t@a0@a1@n@D@G@L@o@S@T@X b6 h c9 w a8 d2 c8 b2 d1 c6 d6;have c3:=w.za b2;have e0:=ka h;have g9:=h.a;simp[DM,c3.zc,c3.b];refine bV (λk y I=>∃t n o,y=[z,C,V<|.a r,V<|.a R.a,t,a0,V<|.a A.a,V<|.a e,V<|.a b,a1,n,D,G,L,o,S,T,X]/\a<+:I/\ch I b (bI c k) (λp=>Z<|hk P.zb<|P.zb.d p.2)) (hw _ _ _ rfl b2<|by simpa[bI]using c6) ?_ ?_
 .ext@k@x@y@I@f5 e3 g4 m i
  exact by
   ext(ld i)@t@n@o l s
   exact by
    ext(_:cB m)@a2 v i
    exact by
     subst i;have a4:=w.za l;have a5:=a4.a k a2 v;ext(bD:lP a8 v)g7 g6 e9;refine⟨a4.b,?_⟩;simp[a5.zc,a5.c];refine bV (λc1 y I=>∃n o,y=[z,C,V<|.a r,V<|.a R.a,V<|.a a2.f,a0,V<|.a A.a,V<|.a e,V<|.a b,a1,n,D,G,L,o,S,T,X]/\a<+:I/\ch I b (bI c k++(a2.d.take c1).map λr=>(k,r)) (λp=>Z<|hk P.zb<|P.zb.d p.2)) (bu _ _ rfl l<|by simpa using s) ?_ ?_
     .clear s a4 a5 l;ext@c1@x@y@I@f6 e4 g5 m i
      exact by
       ext(hZ i)@n@o l s
       exact by
        ext(_:cB m)@c0 b9 i
        exact by
         subst i;have d5:=e9 c0<|bs b9;have a4:=w.za l;have a5:=a4.a k a2 v;have b4:=b6.za l;refine⟨a5.c,?_⟩;obtain⟨j,rfl⟩:∃j,c0=j+1:=⟨c0-1,by exact RA d5⟩;delta j;intros _
         exact by
          have a9:j<P.b:=by have:j+1<P.b+1:=d5.1;exact an 2 1 1 0 this rfl
          have f8:((j+1:Nat):Int)-1=(j:Nat):=by exact vP
          simp;simp[b4.a,cc a9,b4.c j a9];refine O7 b4 h (ay l d2) (gN a9) ?_;ext@u@f9@B b7 b5 b3 c5
          exact by
           have d0:=c9.za<|l.trans b7;simp[b5];have a7:∀x∈B,x∈P.zd:=λx m=>((b3 x).mp m).za h;have e1:B.length<=6:=aj (im c5 a7)<|rz h;have c4:∀x∈B,x∈P.ze:=λx m=>iv.mpr<|.inl<|a7 x m;refine hi (λk c2 b1=>k<=B.length/\c2=((B.take k).map λx=>O.b<|(2:Int)^P.za x)/\b1=u) (aI (by exact fH) rfl rfl) ?_ ?_
           .ext@f3@x@c2@b1@f7 e5 m i
            exact by
             ext(lb i)g0 q;have q:=q.symm;subst q;ext(_:cB m)a3 b0 i-;have f1:=(bi.mp b0).1;refine⟨b5,?_⟩;have f2:=a7 a3<|bs b0;have g1:=nk f2;have g8:=rz h;have e7:∀{Q:au},aY (d+3) sL [.a R.a,.c a3] u Q=Q (Z<|P.za a3) u:=λ{Q}=>M0 d0<|c4 a3<|bs b0;simp;rw[d0.zr];try simp only[kJ,dI,cg,dG,cb,ce,cf,dy,dg,en,kI]
             rw[show aY (d+3) sL [O.a R.a,O.c a3] u=λQ=>Q (Z<|P.za a3) u from funext λQ=>e7];simp;refine aI ?_ (by exact aA 0 0 0 6 0 16777000 (hQ _ _) e1 rfl) ?_
             .have e8:uG 2=2:=by decide
              rw[e8];omega
             .have:=e5 ((B.take<|f3+1).map λx=>O.b<|(2:Int)^P.za x) u<|aI (by exact f1) rfl rfl;rw[gL b0]at this;simpa using this
           .ext@c2@b1 i
            exact by
             ext(lb i)_ q;have q:=q.symm;subst q;refine⟨b5,?_⟩
             have f0:(B.map λx=>(2:Int)^P.za x).sum=((hk P.zb<|P.zb.d<|j+1:Nat):Int):=by
              refine P1 c5 c4 λh0=>?_;rw[jg,<-O4 h c8<|gN a9];constructor;.ext i(bt i)x m;exact⟨nk<|a7 x m,ad x ((b3 x).mp m) rfl⟩
              .ext i(@ac i)_ q(bt q)x m;exact ad x ((b3 x).mpr m) rfl
             have d9:(B.take B.length).map (λx=>O.b<|(2:Int)^P.za x)=(B.map λx=>(2:Int)^P.za x).map O.b:=by simp
             simp only[bC,oi,dy,dg,en,lH,KF];rw[d9];simp only[KF,cF,D0];rw[f0];have d3:=aB u [aa.a<|(B.map λx=>(2:Int)^P.za x).map O.b];generalize u++[aa.a<|(B.map λx=>(2:Int)^P.za x).map O.b]=d7 at*;have b8:=l.trans<|b7.trans d3;have e6:=(w.za b8).a k a2 v;have e2:=s.za<|b7.trans d3;have d4:=aB d7 [aa.b [Z k,Z<|j+1]];try simp only[Bc,cg,dG,cb,ce,cf,tJ,qW,dI,fS,dH]
             rw[e6.zb];try simp only[dy,dI,cg,dG,cb,ce,cf,dg,en,tG,tI,mZ]
             try simp
             rw[<-mZ];refine(e2.za d4).zd (c:=k) (b:=j+1) cF (ug a8 v b9) (by have:=Dh (u:=c1) e0.a a8 v;exact an 0 2000000 0 16777216 this rfl) λf4 c7 d8 g2=>?_;have g3:=eq b8;rw[uh b9]at c7;refine(e4 _ _<|bu _ _ rfl (d8.zb (b8.trans d4) λj a6=>by exact aj d1<|ar a6)<|c7.zc λp b6=>?_).1;by_cases a6:p=(k,j+1);.subst a6;simp
             .rw[fa a6]
     .ext y I i(hZ i)n o l s;refine⟨((w.za l).a k a2 v).c,(e3 _ _<|hw _ _ _ rfl l ?_).1⟩;rw[rr v];simpa using s
 .ext y I i(ld i)t n o l s;refine⟨(w.za l).b,?_⟩;simp at s;exact d6 _ _ _ _ l s
end
section
variable{a H I:J}{d r:Nat}{K:aS}
theorem P9{P:bW}{R:cC}{S Q:Nat->Nat}{G L:Option O}(l:gO H r P S Q)(h:cM P)(f:bm H R P.zb)(q:∀I m,H<+:I->K (.b<|.d M) m I):cA (aY<|d+8) DN [G,L,V<|.a r,V<|.a R.a,U,U,U,U,U,U,U,U,U,U,U,U,U,U] H K:=by
 have i:=ka h;simp[DN];refine G8 f i.a λT A a4 c j k=>?_;refine N8 (l.za c) h λa e E b w t=>?_;have g:=aB a [aa.b [O.a A.a,O.a e]];have B:=aB a [aa.b [O.a A.a,O.a e],aa.d 0 []];have u:=f.za<|(c.trans b).trans B;have x:uG 2=2:=by decide
 have C:=rz h;have D:P.zb.a<=6:=C;simp[u.zh,x]
 have n:((2:Int)^P.zb.a-1)=((2^P.zb.a-1:Nat):Int):=by
  have p:0<2^P.zb.a:=aaH _;have o:((2^P.zb.a:Nat):Int)=(2:Int)^P.zb.a:=by simp
  rw[<-o];exact GE p
 rw[n];refine⟨by exact RB D,?_⟩;have z:=aB a [aa.b [O.a A.a,O.a e],aa.d 0 [],aa.b [O.a<|a.length+1,Z<|2^P.zb.a-1]];have v:(a++[aa.b [O.a A.a,O.a e],aa.d 0 [],aa.b [O.a<|a.length+1,Z<|2^P.zb.a-1]])[a.length+1]?=V (aa.d 0 []):=by rw[ev<|by exact du _ 0 1 rfl,show a.length+1-a.length=1 by exact vT];rfl
 refine P8 (d:=d+5) (a:=a) (E:=E) (l.za<|c.trans b) h (f.za<|c.trans b) (j.za b) k w t z (by exact du _ 0 1 rfl) (bK 0 (λ_=>0) v<|by simp) λX a3 a1 a2 g s=>?_;simp;exact P7 (d:=d+2) (f.za<|(c.trans b).trans g) i (j.za<|b.trans g) k s λa0 m y=>q _ _<|((c.trans b).trans g).trans y
theorem Q0{b:List Int}(s:b.length<=63):aY (d+9) wi [.a 0] [.g<|b.map .b] λa1 H=>a1=.d M/\H[0]?=V (.g<|b.map .b):=by
 delta d b;ext s;rw[bR Cv 17 rfl rfl rfl rfl<|by decide,P5];simp;have q:([aa.g<|b.map O.b]:J)[0]?=V (.g<|b.map .b):=rfl;generalize a7:([aa.g<|b.map O.b]:J)=x at*;refine M6 q s ?_;ext@a2@a8@b0 R K L Q C
 exact by
  refine N3 (d:=d+5) (f:=x) C Q R K L ?_;ext@w@r@P@b2@a9 S m h
  exact by
   have v:=h.a;simp[m.a];refine hi (λk p I=>∃a g:Nat->Nat,k<=P.b/\p=az k (λj=>.a<|a j)/\w<+:I/\∀j,j<k->I[a j]?=V (.b [.c<|P.c j,.a<|g j])/\I[g j]?=V (.a<|(P.a j).map .c)) (eD (λ_=>0) (λ_=>0) (by exact an 5 0 0 0 (ar v) rfl) rfl (eg _) λ_ h=>absurd h<|dW _) ?_ ?_
   .ext@k@b3@p@I@a5 B a0 c
    exact by
     ext(Fv c)@a@g l f i
     exact by
      ext(ac:gf a0)n c-;have o:=m.za f;have G:=h.b k n;refine⟨o.a,?_⟩;simp[o.c k n,o.b k n];refine aI (by exact an 0 3 0 16777216 G rfl) (by exact aA 0 0 0 5 0 16777000 l (aw v) rfl)<|B _ _<|eD (bb a k<|I.length+1) (bb g k I.length) (by exact n) ?_ (f.trans<|aB _ _) λj E=>?_;.rw[<-iX k λj=>O.a<|bb a k (I.length+1) j,bx];congr 1;apply hg;ext b1 X;rw[bc<|by exact bh X]
      .delta j;intros _
       exact by
        by_cases e:j=k;.have e:=e.symm;subst e;rw[bx,bx];exact⟨by simp,by simp⟩
        .rw[bc e,bc e];ext(ac:i j (by exact cO E e))y z;exact⟨aH y,aH z⟩
   .ext@p@I c
    exact by
     ext(Fv c)@a@g _ f i
     exact by
      rw[gI]at i⊢;refine⟨(m.za f).a,?_⟩;have u:=aB I [aa.a<|az P.b λj=>O.a<|a j];have D:gO (I++[aa.a<|az P.b λj=>O.a<|a j]) I.length P a g:=⟨cF,λk l=>aH (i k l).1,λk l=>aH (i k l).2⟩;refine L9 (d:=d+6) D h λa3 a6 A t=>?_;try simp
      refine P9 (P:=P) (m.za<|f.trans<|u.trans t) h A λa4 b4 T=>?_;exact⟨rfl,ay (S.trans<|f.trans<|u.trans<|t.trans T) q⟩
end
end Mine.Internal
end
noncomputable section
namespace Mine.Internal
theorem Q1:CD:=λw h w=>ad 9 (by decide)<|Q0 (d:=0) h
end Mine.Internal
end
theorem PySem.Challenge.cw_pq0575_01_holds : PySem.Challenge.rw_pq0575_01.Holds :=
 Mine.Internal.A8 Mine.Internal.Q1
