import PyProof.Rows.All
import Wide.All
import OpenK.AllK
import Wide.FinOn
import PySem.Challenge.RW_pq1084_01
set_option Elab.async false
set_option maxRecDepth 100000
set_option linter.all false
set_option maxHeartbeats 8000000
set_option genSizeOf false
set_option genSizeOfSpec false
set_option genInjectivity false
open _root_ renaming rfl->aa,List->ae,Int->af,Nat->ah,False->aC,if_neg->aQ,if_pos->aR,of_decide_eq_true->aW,absurd->bv,congrArg->bA,Option->bB,Bool->bP,Inv->cj,True->fP,decide_eq_true->hW,Array->jg,String->jp,beq_iff_eq->jq,DecidableEq->ln,Unit->mc,or_false->mK,if_false->pJ,beq_eq_false_iff_ne->pQ,Decidable->qb,decide_eq_false->s8,if_true->vG,beq_self_eq_true->vI,decide_eq_true_iff->BE,true_and->EA,and_true->GL,or_assoc->HX,beq_false_of_ne->LR,decide_eq_true_eq->Nk,or_left_comm->Wt
open Option renaming some->ac,none->ak,none->lW,map_some->rt,isSome->yK,isSome_iff_exists->y2,bind_some->zo,none_or->A3,elim->A9,getD_some->I4,getD_none->Jc,map->LS,map_none->VA
open Bool renaming true->ao,false->ax,and_eq_true_iff->eV,and_eq_true->fD,false_ne_true->pH,not_eq_true'->sU,noConfusion->Cw,false_eq_true->CM,eq_false_iff->CN,or_eq_true->Ex,not_true->K8,and_self->LF,true_and->LH,and_false->PG
open PySem renaming PyData->aA,wpAny_bind->aG,Str->aN,Value->aV,model->aY,Addr->aZ,wpAny_pure->bc,wpAny->be,starEach->bM,eval->bN,Around->cq,Heap->cH,Shared->cI,Pos->cT,table->c6,Env->dK,backTo->dY,step->ee,standAt->eE,sizeLine_eq->eF,mainGlobals->eM,Stmt->fb,rawInt->fG,swapsWith->gf,foldedSetIterable->gh,holding->gq,wpAny_holding->gs,wpAny_field->gX,getItem->hY,NameKind->hZ,assign->ig,wpAny_mono->iO,sizeLine->js,subscripted->jt,operate->ju,codeAny->jO,Sem->jS,call->kx,wpAny_newObj_type->kA,callWith->lp,pyNext->ls,letOwnedTupleGo->lx,getMethod->ma,cellsFrom->mb,sliceBounds->mh,wpAny_standAt->nq,codeAny_mono->oh,bindArgs->oo,swappedStores->ot,wpAny_call_entry->pI,wpAny_call->pM,setItem->pN,call_meets->pP,compTurn->pU,again->pV,wpAny_loadPart_at->p6,bootBuiltins->rb,valueAt->rh,pyIter->rk,notedBy->rn,Scope->ro,foldedForSure->rq,constantsAlone->rr,wpAny_setField->rx,excClassObj->rC,code->sV,Reads->sY,sysModules->ta,atKey->tt,compEnvC->tC,stored->tG,ReadsAll->vu,wpAny_rule->vw,intKind->vy,CmpOp->vA,strKind_is->vK,wpAny_callSpecial?_slot->vL,bindL->vQ,bindC->vR,wpAny_bindName->v5
open PySem renaming IsEnum->v9,OsState->wc,ExcBaseFacts->we,wpAny_isSubtype_exc->wg,setFlight->wi,IsRange->yd,World->yj,cLine->yk,eqIsQuiet_byValue->yn,wpAny_seqItems->yo,getAttr->yt,behindInMarks->yw,newTuple->yC,slot_list_getitem->yG,wpAny_getItem_list->yH,slot_list_setitem->yV,wpAny_execs_cons->yY,fresh->y0,wpAny_assign_Name->y6,cellOf->y9,runOwn->zc,intKind_is->zp,merged->zq,sliceRange->zw,slicePick->zx,checkBuiltinCall->zJ,handedOut->zM,noteFrame->zN,reduceHash->CI,wpAny_specialOf->CL,callerA->CS,spliced->CU,letTemporaryGo->C5,newList->C9,wpAny_sequenceKey->Dp,wpAny_execs_nil->Ds,wpAny_Expr->Dw,interactive->Dx,wpAny_Return_some->Dy,wpAny_assign_Tuple->DI,wpAny_comprehension_free->DN,compPost->DO,plainObj_wpAny_Assign_Attribute->DV,wpAny_loadPart->DX,swapsWithSole->DY,pairTrees->D6,wpAny_typeOf->El,wpAny_newList->En,augStore->Er,release->Es,wpAny_pyIter_enum->Eu,compTurn_list->Ey,isInstance->EG,codeAny_call_builtin->EJ,opaqueClassAbove->EK,wpAny_pyHash_int->K3,wpAny_pyHash_str->K4,wpAny_forIn_list->K7,recursionLimit->Lg,wpAny_mkText->Li,wpAny_in_of->LU,slot_dict_getitem->LY,entry_list_setitem->Mg,args_list_setitem->Mh,wpAny_listSubscript_int->Mj,wpAny_setSeqItemAt->Ml,wpAny_Assign_Name->Mn,wpAny_pyIter_tuple->Mv,codeAny_forLoop_any->Mx,exec_Assign_Name_used->MI,codeAny_of_tree->MM,wpAny_of_eq->MO,wpAny_Assign_Subscript->M7,wpAny_setItem_pairs->Nf,KeyKind->Nm,wpAny_Dict_walk->No,wpAny_notIn_of->NK,wpAny_Slice->NO,firstArgMember->Ov,wpAny_madeBy_exc->OW
open PySem renaming wpAt_bind->OY,wpAt_of_wpAny->OZ,call_tuple_list->Rj,rangeSize_one->RF,concat_meets->RU,noFill_tuple_add->RW,seq_tuple_add->RX,Comprehension->UJ,refuseLoop_ref->aat
open PySem.Str renaming ofString->aD
open List renaming length_map->aI,mem_cons_self->aP,mem_cons_of_mem->ba,mem_cons->bj,mem_map->bV,mem_singleton->bZ,length_append->b7,map_append->ck,getElem?_eq_getElem->cr,append_assoc->cs,range->cC,length_cons->cG,getD_eq_getElem?_getD->cY,append_nil->c8,map_cons->c9,mem_of_getElem?->dw,getElem?_eq_some_iff->dF,replicate->dX,length_singleton->ea,mem_append->ed,lookup_cons->ez,map_map->eI,getElem?_map->fH,mem_append_left->gg,all_eq_true->gK,map_nil->gN,rec->gY,cons_ne_nil->iP,not_mem_nil->iV,mem_append_right->iY,map_congr_left->i7,getElem?_append_left->jv,foldl_cons->jw,nil_append->jG,length_nil->jH,nodup_append->jV,length_pos_iff->kO,mem_range->kS,getElem?_of_mem->lb,length_range->lR,cons_append->mq,nodup_cons->nk,mem_map_of_mem->nr,sum_cons->nL,getElem?_eq_none->nV,contains_iff_mem->oq,getElem?_append_right->oX,casesOn->qd,map_eq_nil_iff->qr,exists_cons_of_ne_nil->qE,reverse_cons->qX,length_eq_zero_iff->rv,length_reverse->sv,length_set->sF,size_toArray->tq,length->tI,nodup_nil->t7,getElem?_range->uV,drop_eq_getElem_cons->vU,replicate_succ->v7,length_take->v8,concat_eq_append->w4,ext_getElem?->xy,any_eq_true->yq,drop_eq_nil_of_le->y3,flatten_cons->zr,foldl->zt,append_of_mem->zU,range_succ_eq_map->Ad,map_id'->AZ,eq_nil_or_concat->A4,getElem?_singleton->Bc,flatMap_cons->Bj,getLast?_eq_none_iff->Bo,map_set->BY,any_eq_false->Dq,of_mem_zip->Dz,filterMap_cons->Ef,filterMap_map->Eh,length_drop->Ei
open List renaming take_length->EB,take_append_drop->Fz,find?_cons->GN,append_cons->GS,length_tail->Hj,length_pos_of_mem->Hy,foldl_nil->HR,reverse_append->HV,perm_middle->HY,singleton_append->I5,mem_of_mem_drop->JA,lookup->ME,eraseDups_cons->M0,any_map->Nc,range_succ->NC,drop_zero->OM,append->Qn,map_snd_zip->RI,map_fst_zip->RJ,map_replicate->RK,eq_of_mem_replicate->RL,all_cons->Sv,findIdx?_cons->Vc,find?_append->Vz,find?_nil->VB,mem_of_mem_tail->VY,mem_erase_of_ne->V0,length_erase_of_mem->V1,flatMap_append->Wn,map_reverse->Ws,getLast?_cons_cons->WL,getElem_mem->Xf,pairwise_map->XZ,getElem?_take_of_lt->X6,getElem?_drop->X7,take_of_length_le->X8,take_add_one->Yb,foldl_append->Yc,pairwise_mergeSort->YC,mergeSort_perm->YE,mem_of_mem_take->Y3,filter_cons_of_pos->Zc,filter_cons_of_neg->Zd,pairwise_cons->Zs,lookup_append->aad,mem_or_eq_of_mem_set->aae,map_singleton->aai
open Nat renaming le_add_left->aX,le_trans->bn,le_antisymm->bQ,le_refl->cO,sub_add_cancel->dt,zero_add->dZ,zero_le->eX,ble->fA,le_add_right->fR,le_of_eq->fT,lt_of_lt_of_le->gE,lt_irrefl->jM,lt_succ_self->jT,lt_trans->kB,ne_of_lt->kD,mul_le_mul_right->kQ,le_of_ble_eq_true->lV,strongRecOn->mF,beq->mY,sub_le->ow,mul_comm->pi,add_le_add_left->pn,min_eq_left->qj,lt_of_le_of_lt->qm,succ_le_succ->qF,add_le_add_right->qP,blt->rN,rec->rO,pos_of_ne_zero->sw,pow_succ->sx,pow_le_pow_right->tN,le_of_succ_le->uo,mul_le_mul_left->ur,succ_mul->uD,add_le_add->uE,mul_assoc->uW,add_assoc->vv,add_comm->wW,add_mul->xk,add_zero->xF,noConfusion->ye,min_le_left->yp,sub_self->yT,mul_le_mul->zu,not_lt_zero->Ba,lt_or_gt_of_ne->Bd,testBit_eq_decide_div_mod_eq->BC,lt_or_ge->BU,succ_ne_self->DU,not_le->Ed,min_le_right->Ej,not_succ_le_self->HE,zero_mul->Jq,one_mul->Jr,ne_of_gt->Js,le_mul_of_pos_right->Jt,mul_add->Jx,mul_div_cancel_left->JT,lt_succ_of_le->KQ,sub_eq_zero_of_le->KX,max_le->K0,add_sub_cancel->L6,not_lt->NF,lt_succ_of_lt->N7,lt_of_lt_of_eq->OJ,succ_pos->Uu,succ_lt_succ->Uv,le_of_lt->Vd,le_of_lt_succ->VI,lt_wfRel->Wh,mod_lt->YO,mul_one->ZD,div_div_eq_div_mul->ZE
open Pure renaming pure->bg
open Int renaming natCast_nonneg->bl,ofNat_le->bD,toNat_of_nonneg->dh,le_trans->eD,ofNat_lt->eL,le_refl->fB,le_antisymm->fC,ofNat->gB,ofNat_inj->gW,not_lt->hU,mul_comm->kq,fmod_lt_of_pos->kX,toNat_natCast->lA,fmod_nonneg_of_pos->lQ,min_eq_left->mZ,add_sub_cancel->pF,lt_of_le_of_lt->rP,not_le->sT,zero_add->vi,one_mul->vj,add_nonneg->vm,le_of_eq->vn,lt_add_one_of_le->vp,add_zero->xR,add_assoc->xS,ediv_one->xY,min_eq_right->ya,le_of_lt->yc,natAbs_natCast->zI,lt_of_lt_of_le->Bb,add_mul->Cm,zero_mul->Cp,mul_one->Cq,neg_mul->Cr,mul_nonneg->Cv,le_of_lt_add_one->Cz,toNat_sub->CC,lt_or_gt_of_ne->Hi,le_sub_one_of_lt->Hq,lt_trans->Jw,lt_or_eq_of_le->JR,mul_zero->Kx,neg_add_cancel_right->KJ,eq_ofNat_of_zero_le->KU,sub_add_cancel->KW,zero_sub->M9,lt_trichotomy->VK,le_add_of_nonneg_right->XA,mul_fdiv_add_fmod->XC,fdiv_eq_ediv_of_nonneg->XN,fmod_eq_emod_of_nonneg->XO,ofNat_sub->Yo,le_total->YD
open LawfulBEq renaming eq_of_beq->bC
open PyProof.Rows renaming seen->b8,seqObj->kG,tail_any->oj,IntsAre->td,Call_->tm,spliced_more->CW,MethodCall_->CZ,Subscript_->C6,slot_tuple_getitem->Ek,size_push'->Eo,Assign_Tuple->MX,Assign_Tuple_swapped->MZ,unpackItems_tuple->M3,slicePart_int->NS,listUpdate_at->NX,seqEpoch_at->NY,kind_sorted->Oa,plain_sorted->Ob,entry_sorted->Oc,args_sorted1->Od,slot_list_sort->Of,entry_list_sort->Og,args_list_sort->Oh,sub_int->abb,le_int->abc,gt_int->abd,ge_int->abe,neg_int->abf,add_str->abE,mul_int->abH,mod_int->abI,floordiv_int->abJ,pow_int_small->abK,and_int->abL,bitAnd_pp->abO
open PySem.W renaming Frag->cg,findIn->ec,nsIn->eW,fnOf->iN,Looks->oe,typeIn->om,handedIn->rc,inst->rH,emptyDict->tF,looks_findIn->vY,instObj->yr,takerIn->zi,clsIn->zj,looks_clsIn->zl,makesIn->DT,set_plain->DW,findObj->ES,callWith_of->Lh,looks_mroIn->O3,ownOf->UZ
open PySem.PyData renaming int->cJ,strOk->gT,eqv->lZ,casesOn->nB,str->pk,depthAll->sZ,depth->yf,canLayAll0->yg,tuple->Be,canLay0->CG,eqvAll->K1
open Array renaming length_toList->d9,getElem?_toList->s9,toList_append->yU,getElem?_eq_some_iff->EP,forIn_toList->K6,getElem?_eq_getElem->Mk,toList_setIfInBounds->Mm
open PySem.Value renaming ref->eQ,none->mj,builtin->wj,int->NB
open PySem.Heap renaming get?_push_size->fc,lt_size->fZ,get?_push_of_some->gc,get?_update_self->tu,size_push->vZ,get?_update_ne->zK,size_update->Ep,get?_push_ne->NZ
open PySem.Builtin.Range renaming rangeSize->ie,small->kC,rangeFitsLong->I8
open Option.some renaming inj->jP,injEq->uz
open PySem.NameKind renaming free->jU,cell->zf
open Min renaming min->lm
open ToString renaming toString->mg
open PySem.Builtin.Str renaming occurrences->mi,partsBetween->pW,strKind->tL
open List.cons renaming inj->nh,injEq->pG
open PySem.Obj renaming mapFields->oy,mapSeq->pO,data_mapFields->pX,isFreed_of_fields->zC,cls_mapFields->zD
open Nat.succ renaming inj->pY
open PySem.Builtin.Tuple renaming tupleHashOf->qY,tupleExact->zz,tupleItemsOf->K5,tupleIsExact->NV
open True renaming intro->si
open Int.ofNat renaming inj->sj
open Classical renaming propDecidable->s7,byContradiction->vx,epsilon->aa9,epsilon_spec->aba
open PySem.F renaming slot_list_append->tw,type_list_append->wG,slot_tuple_hash->ym,slot_list_pop->yS,slot_tuple_iterator_next->zB,slot_tuple_getitem->LO,entry_list_pop->L5,slot_list_reverse->Ma,slot_list_extend->Md,slot_int_rmul->NE,entry_tuple_iterator_next->Op,args_tuple_iterator_next_1->Oq,excBase_Exception->Pc,slot_tuple_add->RY,entry_tuple_add->RZ,args_tuple_add_2->R0,type_list_pop->SH
open PySem.Env renaming blockKind->tD
open PySem.Code renaming builtin->tE,quiet_builtin->O1
open PySem.Expr renaming Name->v4
open WellFounded renaming fix_eq->xg,fix->Wg
open Function renaming comp->xt
open LawfulMonad renaming pure_bind->za
open ForInStep renaming yield->zd
open And renaming intro->zh
open PySem.Builtin.Slice renaming slicePlaces->zy,sliceAdjust->Eg,sliceApplied->NR,sliceFields->abp
open PySem.Builtin.SmallTypes renaming nextOf->zA
open Iff renaming rfl->CA
open PySem.PyData.tuple renaming injEq->CH
open Inhabited renaming default->CO
open Ne renaming symm->Di
open PySem.ScopeKind renaming function->DQ
open PySem.Heap.DictOf renaming new->D4
open PySem.Calls renaming call_len_list->D9,Name_function_global->Ll,call_function_entry->N9
open PySem.Builtin renaming bitAnd->Fd,sorted->Oe,«list.sort»->abq,«enumerate.__new__»->abs,«BaseException.__new__»->abu,«type.__call__»->abv,«BaseException.__init__»->abx,«object.__getattribute__»->abz
open PySem.PyData.str renaming inj->Iv
open PySem.Challenge renaming rw_pq1084_01->Kq,pw_pq1084_01->aa8
open PySem.W.Hook renaming obs->Ld,val->Le
open PySem.SeqAt renaming shaped->LG
open PySem.P renaming getItem_tuple->LP
open PySem.Builtin.List renaming listFitsIndex->L8,listTooLong->Me,listSubscript?->Mi
open PySem.Heap.Ns1 renaming of_empty->MR
open PySem.Builtin.ObjectAttr renaming storeInDict->MT,newKeyGuard->abk
open PyProof renaming noPylong_small->Ny
open PySem.Heap.IsSliceOf renaming new->NP
open PySem.Heap.SameBut renaming update->Ot
open PySem.AutoSeq1 renaming wpAny_loadPart'->Oz
open PySem.W.KIN renaming signs_num->OG,val_back->OH
open PySem.W.Looks renaming of_pure->O9
open PySem.EntryCells renaming newEntry->Pf
open PySem.CmpOp renaming casesOn->Sa
open Prod renaming ext->VL
open Prod.mk renaming injEq->XW
open List.Perm renaming refl->Yw,swap->abP,eq_of_pairwise->abQ,of_eq->abR,trans->abS,append_left->abT
open PySem.W.Ground renaming X->aa5
open Nat.Internal.Linear renaming Expr->aa6
open PySem.PyData.list renaming injEq->aa7,inj->abU
open PySem.Heap.DictOfH renaming typeIs->abg,new->abm
open PySem.DictEntry renaming refKey->abj
open PySem.swappedStores renaming match_5->abl
open PySem.AutoListH renaming list___mul___list_int_3->abn
open PySem.Heap.IsList renaming typeIs->abo
open PySem.AutoIntOps renaming iadd_0->abr
open PySem.NumText renaming digitsVal->abt
open PySem.Builtin.BaseException renaming bexcPut->aby
open List.Sublist renaming map->abA,append_left->abB
open PySem.PyData.int renaming injEq->abM,inj->abN
open Decidable renaming byContradiction->abV
open PySem.Value.ref renaming inj->abW
namespace Mine.Internal
open PySem PySem.W PyProof.Rows PySem.Calls PySem.SeqAt
noncomputable section
theorem aB{a b G:Prop}(e:a\/b)(f:a->G)(g:b->G):G:=e.elim f g
section
variable{a b c d k l m n p f G:Prop}
theorem aw(e:a/\b)(h:a->b->G):G:=h e.1 e.2
theorem aF(e:a)(g:b):a/\b:=⟨e,g⟩
theorem bu(e:a/\b/\c)(h:a->b->c->G):G:=h e.1 e.2.1 e.2.2
theorem ca(e:a)(g:b)(h:c):a/\b/\c:=⟨e,g,h⟩
theorem lh(e:a/\b/\c/\d)(h:a->b->c->d->G):G:=h e.1 e.2.1 e.2.2.1 e.2.2.2
theorem iJ(e:a/\b/\c/\d/\k)(h:a->b->c->d->k->G):G:=h e.1 e.2.1 e.2.2.1 e.2.2.2.1 e.2.2.2.2
theorem li(e:a)(g:b)(h:c)(i:d)(j:k):a/\b/\c/\d/\k:=⟨e,g,h,i,j⟩
theorem sM(e:a/\b/\c/\d/\k/\l)(h:a->b->c->d->k->l->G):G:=h e.1 e.2.1 e.2.2.1 e.2.2.2.1 e.2.2.2.2.1 e.2.2.2.2.2
theorem xK(e:a)(g:b)(h:c)(i:d)(j:k)(o:l):a/\b/\c/\d/\k/\l:=⟨e,g,h,i,j,o⟩
theorem xL(e:a/\b/\c/\d/\k/\l/\m)(h:a->b->c->d->k->l->m->G):G:=h e.1 e.2.1 e.2.2.1 e.2.2.2.1 e.2.2.2.2.1 e.2.2.2.2.2.1 e.2.2.2.2.2.2
theorem xM(e:a)(g:b)(h:c)(i:d)(j:k)(o:l)(q:m):a/\b/\c/\d/\k/\l/\m:=⟨e,g,h,i,j,o,q⟩
end
section
variable{A:Sort _}{a b c d k l m n p f:A->Prop}{G:Prop}
theorem aK(e:∃x,a x)(h:∀x,a x->G):G:=e.elim λx q=>h x q
theorem ew(x)(e:a x):∃x,a x:=⟨x,e⟩
theorem au(e:∃x,a x/\b x)(h:∀x,a x->b x->G):G:=e.elim λx q=>h x q.1 q.2
theorem bi(x)(e:a x)(g:b x):∃x,a x/\b x:=⟨x,e,g⟩
theorem aL(e:∃x,a x/\b x/\c x)(h:∀x,a x->b x->c x->G):G:=e.elim λx q=>h x q.1 q.2.1 q.2.2
theorem cf(x)(e:a x)(g:b x)(h:c x):∃x,a x/\b x/\c x:=⟨x,e,g,h⟩
theorem cP(e:∃x,a x/\b x/\c x/\d x)(h:∀x,a x->b x->c x->d x->G):G:=e.elim λx q=>h x q.1 q.2.1 q.2.2.1 q.2.2.2
theorem xN(x)(e:a x)(g:b x)(h:c x)(i:d x):∃x,a x/\b x/\c x/\d x:=⟨x,e,g,h,i⟩
theorem mU(e:∃x,a x/\b x/\c x/\d x/\k x)(h:∀x,a x->b x->c x->d x->k x->G):G:=e.elim λx q=>h x q.1 q.2.1 q.2.2.1 q.2.2.2.1 q.2.2.2.2
end
section
variable{A B:Sort _}{a b c d k l m n p f:A->B->Prop}{G:Prop}
theorem fz(e:∃x y,a x y)(h:∀x y,a x y->G):G:=e.elim λx g=>g.elim λy q=>h x y q
theorem lj(x)(y)(e:a x y):∃x y,a x y:=⟨x,y,e⟩
theorem cQ(e:∃x y,a x y/\b x y)(h:∀x y,a x y->b x y->G):G:=e.elim λx g=>g.elim λy q=>h x y q.1 q.2
theorem qS(x)(y)(e:a x y)(g:b x y):∃x y,a x y/\b x y:=⟨x,y,e,g⟩
theorem dD(e:∃x y,a x y/\b x y/\c x y)(h:∀x y,a x y->b x y->c x y->G):G:=e.elim λx g=>g.elim λy q=>h x y q.1 q.2.1 q.2.2
theorem qT(x)(y)(e:a x y)(g:b x y)(h:c x y):∃x y,a x y/\b x y/\c x y:=⟨x,y,e,g,h⟩
theorem jf(e:∃x y,a x y/\b x y/\c x y/\d x y)(h:∀x y,a x y->b x y->c x y->d x y->G):G:=e.elim λx g=>g.elim λy q=>h x y q.1 q.2.1 q.2.2.1 q.2.2.2
theorem sN(x)(y)(e:a x y)(g:b x y)(h:c x y)(i:d x y):∃x y,a x y/\b x y/\c x y/\d x y:=⟨x,y,e,g,h,i⟩
theorem Kr(e:∃x y,a x y/\b x y/\c x y/\d x y/\k x y)(h:∀x y,a x y->b x y->c x y->d x y->k x y->G):G:=e.elim λx g=>g.elim λy q=>h x y q.1 q.2.1 q.2.2.1 q.2.2.2.1 q.2.2.2.2
theorem Cg(x)(y)(e:a x y)(g:b x y)(h:c x y)(i:d x y)(j:k x y):∃x y,a x y/\b x y/\c x y/\d x y/\k x y:=⟨x,y,e,g,h,i,j⟩
theorem Ks(e:∃x y,a x y/\b x y/\c x y/\d x y/\k x y/\l x y)(h:∀x y,a x y->b x y->c x y->d x y->k x y->l x y->G):G:=e.elim λx g=>g.elim λy q=>h x y q.1 q.2.1 q.2.2.1 q.2.2.2.1 q.2.2.2.2.1 q.2.2.2.2.2
end
section
variable{A B C:Sort _}{a b c d k l m n p f:A->B->C->Prop}{G:Prop}
theorem Ku(e:∃x y z,a x y z)(h:∀x y z,a x y z->G):G:=e.elim λx g=>g.elim λy i=>i.elim λz q=>h x y z q
theorem Kv(x)(y)(z)(e:a x y z):∃x y z,a x y z:=⟨x,y,z,e⟩
theorem fa(e:∃x y z,a x y z/\b x y z)(h:∀x y z,a x y z->b x y z->G):G:=e.elim λx g=>g.elim λy i=>i.elim λz q=>h x y z q.1 q.2
theorem lS(x)(y)(z)(e:a x y z)(g:b x y z):∃x y z,a x y z/\b x y z:=⟨x,y,z,e,g⟩
theorem dz(e:∃x y z,a x y z/\b x y z/\c x y z)(h:∀x y z,a x y z->b x y z->c x y z->G):G:=e.elim λx g=>g.elim λy i=>i.elim λz q=>h x y z q.1 q.2.1 q.2.2
theorem pB(x)(y)(z)(e:a x y z)(g:b x y z)(h:c x y z):∃x y z,a x y z/\b x y z/\c x y z:=⟨x,y,z,e,g,h⟩
theorem mV(e:∃x y z,a x y z/\b x y z/\c x y z/\d x y z)(h:∀x y z,a x y z->b x y z->c x y z->d x y z->G):G:=e.elim λx g=>g.elim λy i=>i.elim λz q=>h x y z q.1 q.2.1 q.2.2.1 q.2.2.2
theorem mW(x)(y)(z)(e:a x y z)(g:b x y z)(h:c x y z)(i:d x y z):∃x y z,a x y z/\b x y z/\c x y z/\d x y z:=⟨x,y,z,e,g,h,i⟩
theorem jK(e:∃x y z,a x y z/\b x y z/\c x y z/\d x y z/\k x y z)(h:∀x y z,a x y z->b x y z->c x y z->d x y z->k x y z->G):G:=e.elim λx g=>g.elim λy i=>i.elim λz q=>h x y z q.1 q.2.1 q.2.2.1 q.2.2.2.1 q.2.2.2.2
theorem Ch(e:∃x y z,a x y z/\b x y z/\c x y z/\d x y z/\k x y z/\l x y z)(h:∀x y z,a x y z->b x y z->c x y z->d x y z->k x y z->l x y z->G):G:=e.elim λx g=>g.elim λy i=>i.elim λz q=>h x y z q.1 q.2.1 q.2.2.1 q.2.2.2.1 q.2.2.2.2.1 q.2.2.2.2.2
theorem Ci(e:∃x y z,a x y z/\b x y z/\c x y z/\d x y z/\k x y z/\l x y z/\m x y z)(h:∀x y z,a x y z->b x y z->c x y z->d x y z->k x y z->l x y z->m x y z->G):G:=e.elim λx g=>g.elim λy i=>i.elim λz q=>h x y z q.1 q.2.1 q.2.2.1 q.2.2.2.1 q.2.2.2.2.1 q.2.2.2.2.2.1 q.2.2.2.2.2.2
theorem Cj(x)(y)(z)(e:a x y z)(g:b x y z)(h:c x y z)(i:d x y z)(j:k x y z)(o:l x y z)(q:m x y z):∃x y z,a x y z/\b x y z/\c x y z/\d x y z/\k x y z/\l x y z/\m x y z:=⟨x,y,z,e,g,h,i,j,o,q⟩
end
section
variable{A B C D:Sort _}{a b c d k l m n p f:A->B->C->D->Prop}{G:Prop}
theorem vf(e:∃x y z u,a x y z u/\b x y z u)(h:∀x y z u,a x y z u->b x y z u->G):G:=e.elim λx g=>g.elim λy i=>i.elim λz j=>j.elim λu q=>h x y z u q.1 q.2
theorem sO(e:∃x y z u,a x y z u/\b x y z u/\c x y z u)(h:∀x y z u,a x y z u->b x y z u->c x y z u->G):G:=e.elim λx g=>g.elim λy i=>i.elim λz j=>j.elim λu q=>h x y z u q.1 q.2.1 q.2.2
theorem iK(e:∃x y z u,a x y z u/\b x y z u/\c x y z u/\d x y z u)(h:∀x y z u,a x y z u->b x y z u->c x y z u->d x y z u->G):G:=e.elim λx g=>g.elim λy i=>i.elim λz j=>j.elim λu q=>h x y z u q.1 q.2.1 q.2.2.1 q.2.2.2
theorem xO(x)(y)(z)(u)(e:a x y z u)(g:b x y z u)(h:c x y z u)(i:d x y z u):∃x y z u,a x y z u/\b x y z u/\c x y z u/\d x y z u:=⟨x,y,z,u,e,g,h,i⟩
theorem mX(e:∃x y z u,a x y z u/\b x y z u/\c x y z u/\d x y z u/\k x y z u)(h:∀x y z u,a x y z u->b x y z u->c x y z u->d x y z u->k x y z u->G):G:=e.elim λx g=>g.elim λy i=>i.elim λz j=>j.elim λu q=>h x y z u q.1 q.2.1 q.2.2.1 q.2.2.2.1 q.2.2.2.2
theorem sP(x)(y)(z)(u)(e:a x y z u)(g:b x y z u)(h:c x y z u)(i:d x y z u)(j:k x y z u):∃x y z u,a x y z u/\b x y z u/\c x y z u/\d x y z u/\k x y z u:=⟨x,y,z,u,e,g,h,i,j⟩
theorem vg(e:∃x y z u,a x y z u/\b x y z u/\c x y z u/\d x y z u/\k x y z u/\l x y z u)(h:∀x y z u,a x y z u->b x y z u->c x y z u->d x y z u->k x y z u->l x y z u->G):G:=e.elim λx g=>g.elim λy i=>i.elim λz j=>j.elim λu q=>h x y z u q.1 q.2.1 q.2.2.1 q.2.2.2.1 q.2.2.2.2.1 q.2.2.2.2.2
theorem pC(e:∃x y z u,a x y z u/\b x y z u/\c x y z u/\d x y z u/\k x y z u/\l x y z u/\m x y z u)(h:∀x y z u,a x y z u->b x y z u->c x y z u->d x y z u->k x y z u->l x y z u->m x y z u->G):G:=e.elim λx g=>g.elim λy i=>i.elim λz j=>j.elim λu q=>h x y z u q.1 q.2.1 q.2.2.1 q.2.2.2.1 q.2.2.2.2.1 q.2.2.2.2.2.1 q.2.2.2.2.2.2
theorem xP(x)(y)(z)(u)(e:a x y z u)(g:b x y z u)(h:c x y z u)(i:d x y z u)(j:k x y z u)(o:l x y z u)(q:m x y z u):∃x y z u,a x y z u/\b x y z u/\c x y z u/\d x y z u/\k x y z u/\l x y z u/\m x y z u:=⟨x,y,z,u,e,g,h,i,j,o,q⟩
end
section
variable{A B C D E:Sort _}{a b c d k l m n p f:A->B->C->D->E->Prop}{G:Prop}
theorem xQ(e:∃x y z u v,a x y z u v/\b x y z u v/\c x y z u v/\d x y z u v/\k x y z u v)(h:∀x y z u v,a x y z u v->b x y z u v->c x y z u v->d x y z u v->k x y z u v->G):G:=e.elim λx g=>g.elim λy i=>i.elim λz j=>j.elim λu o=>o.elim λv q=>h x y z u v q.1 q.2.1 q.2.2.1 q.2.2.2.1 q.2.2.2.2
theorem Ck(x)(y)(z)(u)(v)(e:a x y z u v)(g:b x y z u v)(h:c x y z u v)(i:d x y z u v)(j:k x y z u v):∃x y z u v,a x y z u v/\b x y z u v/\c x y z u v/\d x y z u v/\k x y z u v:=⟨x,y,z,u,v,e,g,h,i,j⟩
theorem sQ(e:∃x y z u v,a x y z u v/\b x y z u v/\c x y z u v/\d x y z u v/\k x y z u v/\l x y z u v)(h:∀x y z u v,a x y z u v->b x y z u v->c x y z u v->d x y z u v->k x y z u v->l x y z u v->G):G:=e.elim λx g=>g.elim λy i=>i.elim λz j=>j.elim λu o=>o.elim λv q=>h x y z u v q.1 q.2.1 q.2.2.1 q.2.2.2.1 q.2.2.2.2.1 q.2.2.2.2.2
end
section
variable{A B C D E F:Sort _}{a b c d k l m n p f:A->B->C->D->E->F->Prop}{G:Prop}
theorem Kw(e:∃x y z u v w,a x y z u v w/\b x y z u v w)(h:∀x y z u v w,a x y z u v w->b x y z u v w->G):G:=e.elim λx g=>g.elim λy i=>i.elim λz j=>j.elim λu o=>o.elim λv r=>r.elim λw q=>h x y z u v w q.1 q.2
theorem n7(e:∃x y z u v w,a x y z u v w/\b x y z u v w/\c x y z u v w/\d x y z u v w/\k x y z u v w)(h:∀x y z u v w,a x y z u v w->b x y z u v w->c x y z u v w->d x y z u v w->k x y z u v w->G):G:=e.elim λx g=>g.elim λy i=>i.elim λz j=>j.elim λu o=>o.elim λv r=>r.elim λw q=>h x y z u v w q.1 q.2.1 q.2.2.1 q.2.2.2.1 q.2.2.2.2
theorem pD(x)(y)(z)(u)(v)(w)(e:a x y z u v w)(g:b x y z u v w)(h:c x y z u v w)(i:d x y z u v w)(j:k x y z u v w):∃x y z u v w,a x y z u v w/\b x y z u v w/\c x y z u v w/\d x y z u v w/\k x y z u v w:=⟨x,y,z,u,v,w,e,g,h,i,j⟩
end
section
variable{A B C D E F H I J K:Sort _}{a b c d k l m n p f:A->B->C->D->E->F->H->I->J->K->Prop}{G:Prop}
theorem vh(e:∃x y z u v w s t r o,a x y z u v w s t r o)(h:∀x y z u v w s t r o,a x y z u v w s t r o->G):G:=e.elim λx g=>g.elim λy i=>i.elim λz j=>j.elim λu L=>L.elim λv M=>M.elim λw N=>N.elim λs Q=>Q.elim λt T=>T.elim λr U=>U.elim λo q=>h x y z u v w s t r o q
end
def qU(d:a)(l:ae a):ah->a:=l.rec (λY=>d) λx Y r i=>i.casesOn x r
def lT(p:ae af):ae af->ae af:=p.rec (λq=>q) λx p r q=>q.casesOn (x::p) λy q=>(x+y)::r q
def fk(p:ae af):ae af->af:=p.rec (λY=>0) λa Y r c=>c.casesOn 0 λb c=>a*b+r c
theorem qV:∀(p q c),fk (lT p q) c=fk p c+fk q c:=by
 intro p;induction p with
 |nil=>exact λq c=>(vi _).symm
 |cons x p a=>
  intro q c
  cases q with
  |nil=>exact(xR _).symm
  |cons y q=>
   cases c with
   |nil=>rfl
   |cons b c=>show(x+y)*b+fk (lT p q) c=(x*b+fk p c)+(y*b+fk q c);rw[a,Cm,xS,xS,Int.add_left_comm (y*b)]
theorem qW(k):∀(p c),fk (p.map (k*·)) c=k*fk p c:=by
 intro p;induction p with
 |nil=>exact λc=>(Kx k).symm
 |cons x p a=>
  intro c
  cases c with
  |nil=>exact(Kx k).symm
  |cons b c=>show k*x*b+fk (p.map (k*·)) c=k*(x*b+fk p c);rw[a,Int.mul_add,Int.mul_assoc]
theorem Co:∀(i)(c),fk (dX i 0++[1]) c=qU 0 c i:=by
 intro i;induction i with
 |zero=>intro c;cases c with
  |nil=>rfl
  |cons b c=>show 1*b+0=b;rw[vj,xR]
 |succ i a=>intro c;cases c with
  |nil=>rfl
  |cons b c=>show 0*b+fk (dX i 0++[1]) c=qU 0 c i;rw[a,Cp,vi]
theorem sR(k)(c):fk [k] (1::c)=k:=by show k*1+0=k;rw[Cq,xR]
theorem Ky(c):∀i,((qU 0 c i:ah):af)=qU 0 (c.map gB) i:=by
 induction c with
 |nil=>exact λi=>rfl
 |cons x c a=>exact λi=>i.casesOn aa a
abbrev ll:=aa6
abbrev iL:=ah×ah×ll×ll
def n8(p q:ae af):=lT q (p.map (-1*·))
theorem lU(a:x=fk p d)(b:y=fk q d):0<=fk (n8 p q) d↔x<=y:=by rw[n8,qV,qW,<-a,<-b,Cr,vj];exact Int.sub_nonneg
theorem vk(a:x=fk p (1::c)):x+1=fk (lT p [1]) (1::c):=by rw[qV,<-a,sR]
def sS(le lt:a->a->Prop)(x y:a)(o:ah):Prop:=o.casesOn (le x y) λo=>o.casesOn (lt x y) λo=>o.casesOn (x=y) λo=>o.casesOn (¬le x y) λo=>o.casesOn (¬lt x y) λo=>o.casesOn (x=y) λY=>aC
def xT(p q:ae af)(o:ah):ae af:=o.casesOn (n8 p q) λo=>o.casesOn (n8 (lT p [1]) q) λo=>o.casesOn (n8 p q) λo=>o.casesOn (n8 (lT q [1]) p) λo=>o.casesOn (n8 q p) λo=>o.casesOn (n8 q p) λY=>[-1]
def pE(z:bP)(e:ll):ae af:=e.rec (λk=>[gB k]) (λi=>dX (i+1) 0++[1]) (λY Y x y=>lT x y) (λk Y x=>x.map (gB k*·)) λY Y x=>bif z then x.map (-1*·) else[]
def Cs(c:ae ah)(e:ll):ah:=e.rec (λk=>k) (qU 0 c) (λY Y x y=>x+y) (λk Y x=>k*x) λY Y Y=>0
def Kz(c:ae af)(e:ll):af:=e.rec (λk=>gB k) (qU 0 c) (λY Y x y=>x+y) (λk Y x=>gB k*x) λY Y x=>-x
def Ct c z e:=fk (pE z e) (1::c)
theorem KA(c)(e):((Cs c e:ah):af)=Ct (c.map gB) ax e:=e.rec (λk=>(sR _ _).symm) (λi=>(Ky c i).trans (Co (i+1) (1::_)).symm) (λx y a b=>(congr (bA (·+·) a) b).trans (qV ..).symm) (λk x a=>(bA (gB k*·) a).trans (qW ..).symm) λY Y Y=>rfl
def vl z(h:iL):=xT (pE z h.2.2.1) (pE z h.2.2.2) h.2.1
def xU(z:bP)(b:ae iL):ae af->ae af:=b.rec (λa=>a) λh Y r a=>r (lT a ((vl z h).map (-gB h.1*·)))
def Cu(z:bP)(p:ae af):bP:=p.rec ao λa Y r=>decide (0<=a)&&(!z||decide (a<=0))&&r
def xV z(r:ae iL×iL):=!(mY r.2.2.1 2||mY r.2.2.1 5)&&(fA 1 r.2.1&&(xU z r.1 (lT ((vl z r.2).map (gB r.2.1*·)) [gB r.2.1+-1])).rec ao λa p Y=>decide (0<=a)&&Cu z p)
section
variable{α:Type}{f:α->af}{c:ae af}{z:bP}{le lt:α->α->Prop}{ev:ll->α}(hle:∀x y,le x y↔f x<=f y)(hlt:∀x y,lt x y↔f x<f y)(he:∀e,f (ev e)=Ct c z e)
theorem KC(d:z=ax->∀x∈c,0<=x):∀p,Cu z p=ao->0<=fk p c:=by
 induction c with
 |nil=>intro p Y;cases p<;>exact fB 0
 |cons b c k=>
  intro p h
  cases p with
  |nil=>exact fB 0
  |cons a p=>
   have g:=eV.1 h
   have i:=eV.1 g.1
   have j:=aW i.1
   refine vm ?_ (k (λe x l=>d e x (ba _ l)) p g.2)
   cases z with
   |false=>exact Cv j (d aa b aP)
   |true=>rw[show a=0 from fC (aW i.2) j,Cp];exact fB 0
include hle hlt he
theorem KD(x y):∀o,sS le lt (ev x) (ev y) o->0<=fk (xT (pE z x) (pE z y) o) (1::c)
 |0,h=>(lU (he x) (he y)).2 ((hle _ _).1 h)
 |1,h=>(lU (vk (he x)) (he y)).2 ((hlt _ _).1 h)
 |2,h=>(lU (he x) (he y)).2 (vn (bA f h))
 |3,h=>(lU (vk (he y)) (he x)).2 (sT.1 λe=>h ((hle _ _).2 e))
 |4,h=>(lU (he y) (he x)).2 (hU.1 λe=>h ((hlt _ _).2 e))
 |5,h=>(lU (he y) (he x)).2 (vn (bA f (Eq.symm h)))
 |_+6,h=>False.elim h
theorem KG(x y):∀o,(mY o 2||mY o 5)=ax->0<=fk (xT (pE z x) (pE z y) o) (1::c)->sS le lt (ev x) (ev y) o
 |0,_,h=>(hle _ _).2 ((lU (he x) (he y)).1 h)
 |1,_,h=>(hlt _ _).2 ((lU (vk (he x)) (he y)).1 h)
 |2,h,_=>Cw h
 |3,_,h=>λe=>hU.2 ((hle _ _).1 e) ((lU (vk (he y)) (he x)).1 h)
 |4,_,h=>λe=>sT.2 ((hlt _ _).1 e) ((lU (he y) (he x)).1 h)
 |5,h,_=>Cw h
 |_+6,_,h=>bv (eD h (vn (sR (-1) c))) (aW aa)
omit hle hlt he in
variable(le lt ev) in
def vo(r:ae iL×iL):Prop:=r.1.rec (sS le lt (ev r.2.2.2.1) (ev r.2.2.2.2) r.2.2.1) λh Y R=>sS le lt (ev h.2.2.1) (ev h.2.2.2) h.2.1->R
theorem KH:∀{acc:ae af},0<=fk (xU z a acc) (1::c)->(0<=fk acc (1::c)->sS le lt (ev g.2.2.1) (ev g.2.2.2) g.2.1)->vo le lt ev (a,g):=by
 induction a with
 |nil=>exact λh k=>k h
 |cons h a b=>refine λe k d=>b e λq=>k ?_;have n:0<=gB h.1:=bl h.1;rw[qV,qW,Cr] at q;have:=vm q (Cv n (KD hle hlt he _ _ _ d));rw[vl,KJ] at this;exact this
theorem Cy(j:z=ax->∀x∈c,0<=x){r:ae iL×iL}(h:xV z r=ao):vo le lt ev r:=by
 have d:=eV.1 h;have e:=eV.1 d.2;refine KH hle hlt he (acc:=lT ((vl z r.2).map (gB r.2.1*·)) [gB r.2.1+-1]) ?_ λq=>KG hle hlt he _ _ _ (Eq.mp (sU _) d.1) ?_
 ·have g:=e.2;generalize xU z r.1 _=p at g;cases p with
  |nil=>exact fB 0
  |cons a p=>have i:=eV.1 g;exact vm (Cv (aW i.1) Int.one_nonneg) (KC j p i.2)
 ·rw[qV,qW,sR] at q;have:=vp q;rw[xS,KJ,kq] at this;refine Cz (Int.pos_of_mul_pos_left (b:=gB r.2.1) ?_ (eL.2 (lV e.1)));rw[Cm,vj];exact this
end
noncomputable def vq(st:ae ll)(k:ll->ll->ae ll->ae iL×iL):ae iL×iL:=st.casesOn (k (.num 0) (.num 0) []) λy t=>t.casesOn (k y y []) λx t=>k x y t
def vr(n:ah):ah->ah->ae ll->ae iL->ae iL×iL:=
 n.rec (λY Y Y a=>(a,0,2,.num 0,.num 0)) λY r c d st a=>
  bif fA (c%16) 7 then r (c/16) 0 (.var (c%16)::st) a else
  bif mY (c%16) 8 then r (c/256) 0 (.num (d*16+c/16%16)::st) a else
  bif mY (c%16) 9 then vq st λx y t=>r (c/16) 0 (.add x y::t) a else
  bif mY (c%16) 14 then r (c/256) (d*16+c/16%16) st a else
  bif mY (c%16) 10 then vq st λx y t=>r (c/16) 0 (.add x (.mulR y 0)::t) a else
  bif mY (c%16) 11 then r (c/256) 0 (st.casesOn [] λy t=>.mulL (d*16+c/16%16) y::t) a else
  bif mY (c%16) 12 then vq st λy z t=>r (c/4096) 0 t ((d*16+c/256%16,c/16%16,y,z)::a) else vq st λy z Y=>(a,c/256%16,c/16%16,y,z)
theorem aj(c:ae ah)(sV:ah)(h:xV ax (vr 99 sV 0 [] [])=ao):vo (λx y=>x<=y) (λx y=>x<y) (Cs c) (vr 99 sV 0 [] []):=Cy (f:=gB) (c:=c.map gB) (z:=ax) (λY Y=>bD.symm) (λY Y=>eL.symm) (KA c) (λY x a=>by refine au (bV.mp a) ?_;rintro n Y rfl;exact bl n) h
theorem ay(c:ae af)(sV:ah)(h:xV ao (vr 99 sV 0 [] [])=ao):vo (λx y=>x<=y) (λx y=>x<y) (Kz c) (vr 99 sV 0 [] []):=
 Cy (f:=λi=>i) (z:=ao) (λY Y=>CA) (λY Y=>CA) ((λe=>e.rec (λk=>(sR _ _).symm) (λi=>(Co (i+1) (1::_)).symm) (λx y a b=>(congr (bA (·+·) a) b).trans (qV ..).symm) (λk x a=>(bA (gB k*·) a).trans (qW ..).symm)
  λx Y a=>(bA (-·) a).trans ((Int.neg_one_mul _).symm.trans (qW ..).symm))) (λe=>nomatch e) h
theorem CB{z:af}{k:ah}(a:0<=z)(b:z<k):z.natAbs<k:=eL.1 ((Int.natAbs_of_nonneg a).symm▸b)
theorem xW{a n:af}(b:0<=a)(h:a<=n):max 0 (lm a n)=a:=by rw[mZ h,Int.max_eq_right b]
theorem KO(h:n<=3):n=0\/n=1\/n=2\/n=3:=(by decide+kernel:∀n,n<4->n=0\/n=1\/n=2\/n=3) n (KQ h)
theorem xX{i:af}{k:ah}{P:af->Prop}(a:0<=i)(h:i<(k:af))(d:∀n,n<k->P (n:ah)):P i:=(KU a).elim λn e=>e▸d n (eL.mp (e▸h))
theorem KV(a b:ah):(if(a:af)<(b:af) then((b:af)-a-1)/1+1 else 0).toNat=b-a:=by
 rw[xY,KW];split
 ·exact CC b a
 ·rename_i h;exact(KX (bD.mp (hU.mp h))).symm
theorem KY(a b:ah):(if(a:af)<(b:af) then((b:af)-a+1-1)/1 else 0).toNat=b-a:=by
 rw[xY,pF];split
 ·exact CC b a
 ·rename_i h;exact(KX (bD.mp (hU.mp h))).symm
theorem xZ(a b:af):(if b<a then b else a)=lm a b:=by
 by_cases h:b<a
 ·rw[aR h,ya (yc h)]
 ·rw[aQ h,mZ (hU.1 h)]
inductive V where
 |d (x:aA)
 |raw (u:aV)
 |rng (a b c:af)
 |tup (xs:ae V)
noncomputable abbrev V.ref(a:aZ):V:=.raw (.ref a)
noncomputable abbrev V.int(i:af):V:=.d (.int i)
noncomputable abbrev V.str(x:aN):V:=.d (.str x)
noncomputable abbrev V.bool(b:bP):V:=.d (.bool b)
noncomputable abbrev V.none:V:=.d .none
inductive O where
 |list (xs:ae aA)
 |tab (xs:ae (aA×aA))
 |itab (xs:ae (af×aA))
 |stab (xs:ae (aN×aA))
 |inst (C dx:aZ)
 |attrs (fs:ae (aN×V))
 |fr (o:Obj)
 |exc (C:aZ) (d:bB aZ) (vs:jg aV)
 |tb (ts:jg aV)
abbrev AH:=aZ->bB O
noncomputable def aE(G:AH)a o:=λb=>if b=a then ac o else G b
noncomputable def cL(G:AH)a:=λb=>if b=a then ak else G b
theorem bG(G)(a)(o):aE G a o a=ac o:=aR aa
theorem aU(h:b≠a):aE G a o b=G b:=aQ h
theorem n9(G)(a):cL G a a=ak:=aR aa
theorem ku(h:b≠a):cL G a b=G b:=aQ h
def dJ(o:Obj):=match o.data with|.seq .. =>aC|.fields .. =>aC|_=>fP
mutual
inductive Rd (G:AH) (h:cH):aV->aA->Prop
 |none:Rd G h .none .none
 |bool (b):Rd G h (.bool b) (.bool b)
 |int (i t):Rd G h (.int i t) (.int i)
 |str (x t):Rd G h (.str x t) (.str x)
 |tup {a vs n xs}:h.get? a=ac ⟨.type "tuple",ak,.seq vs n,#[]⟩->bb G h vs.toList xs->Rd G h (.ref a) (.tuple xs)
 |lst {a vs n xs}:h.get? a=ac ⟨.type "list",ak,.seq vs n,#[]⟩->G a=ak->bb G h vs.toList xs->Rd G h (.ref a) (.list xs)
inductive bb (G:AH) (h:cH):ae aV->ae aA->Prop
 |nil:bb G h [] []
 |cons {v vs d ds}:Rd G h v d->bb G h vs ds->bb G h (v::vs) (d::ds)
end
theorem Rd.ind{P:aV->aA->Prop}(l:P .none .none)(m:∀b,P (.bool b) (.bool b))(o:∀i t,P (.int i t) (.int i))(p:∀x t,P (.str x t) (.str x))
 (q:∀{a vs n f},h.get? a=ac ⟨.type "tuple",lW,.seq vs n,#[]⟩->bb G h vs.toList f->(∀{Q:ae aV->ae aA->Prop},Q [] []->(∀{v vs d c},P v d->Q vs c->Q (v::vs) (d::c))->Q vs.toList f)->P (.ref a) (.tuple f))
 (s:∀{a vs n f},h.get? a=ac ⟨.type "list",lW,.seq vs n,#[]⟩->G a=lW->bb G h vs.toList f->(∀{Q:ae aV->ae aA->Prop},Q [] []->(∀{v vs d c},P v d->Q vs c->Q (v::vs) (d::c))->Q vs.toList f)->P (.ref a) (.list f))(r:Rd G h v d):P v d:=
 Rd.rec (motive_1:=λv d Y=>P v d) (motive_2:=λvs c Y=>∀{Q:ae aV->ae aA->Prop},Q [] []->(∀{v vs d c},P v d->Q vs c->Q (v::vs) (d::c))->Q vs c)
  l m o p (λe r j=>q e r j) (λe g r j=>s e g r j) (λ{Q}z _=>z) (λY Y a j=>λ{Q}z k=>k a (j z k)) r
@[elab_as_elim] theorem CD{P:aV->Prop}(i:Rd G h u .none)(k:P .none):P u:=by cases i;exact k
@[elab_as_elim] theorem KZ{P:aV->Prop}(i:Rd G h u (.bool b))(k:P (.bool b)):P u:=by cases i;exact k
@[elab_as_elim] theorem cB{P:aV->Prop}(i:Rd G h u (.int n))(k:∀t,P (.int n t)):P u:=by cases i;exact k _
@[elab_as_elim] theorem lX{P:aV->Prop}(i:Rd G h u (.str x))(k:∀t,P (.str x t)):P u:=by cases i;exact k _
@[elab_as_elim] theorem oa{P:aV->Prop}(i:Rd G h u (.tuple b))(k:∀a vs n,h.get? a=ac ⟨.type "tuple",lW,.seq vs n,#[]⟩->bb G h vs.toList b->P (.ref a)):P u:=by cases i;exact k _ _ _ ‹_› ‹_›
@[elab_as_elim] theorem jh{P:aV->Prop}(i:Rd G h u (.list b))(k:∀a vs n,h.get? a=ac ⟨.type "list",lW,.seq vs n,#[]⟩->G a=lW->bb G h vs.toList b->P (.ref a)):P u:=by cases i;exact k _ _ _ ‹_› ‹_› ‹_›
@[elab_as_elim] theorem bb.on0{P:ae aV->Prop}(r:bb G h us [])(k:P []):P us:=by cases r;exact k
@[elab_as_elim] theorem bb.onC{P:ae aV->Prop}(r:bb G h us (d::a))(k:∀u vs,Rd G h u d->bb G h vs a->P (u::vs)):P us:=by cases r;exact k _ _ ‹_› ‹_›
theorem bb.uncons(r:bb G h (u::a) (d::b)):Rd G h u d/\bb G h a b:=by cases r;exact aF (‹_›) (‹_›)
@[elab_as_elim] theorem bb.on0V{P:ae aA->Prop}(r:bb G h [] a)(k:P []):P a:=by cases r;exact k
@[elab_as_elim] theorem bb.onV{P:ae aA->Prop}(r:bb G h (v::vs) c)(k:∀d b,Rd G h v d->bb G h vs b->P (d::b)):P c:=by
 cases r with
 |cons a r=>exact k _ _ a r
@[elab_as_elim] theorem bb.ind{P:ae aV->ae aA->Prop}{vs:ae aV}(r:bb G h vs b)(n:P [] [])(c:∀{v vs d b},Rd G h v d->bb G h vs b->P vs b->P (v::vs) (d::b)):P vs b:=by
 induction vs generalizing b with
 |nil=>exact r.on0V n
 |cons v vs e=>exact r.onV λY Y a r=>c a r (e r)
theorem bb.map(f:∀{v d},Rd G h v d->Rd c e v d):∀{vs:ae aV}{b},bb G h vs b->bb c e vs b:=by exact λ{vs b}r=>r.ind .nil λa Y g=>.cons (f a) g
theorem Rd.mono
 (j:∀a o,h.get? a=ac o->o.cls=.type "tuple"->¬dJ o->b.get? a=ac o)
 (i:∀a o,h.get? a=ac o->o.cls=.type "list"->¬dJ o->G a=lW->b.get? a=ac o/\c a=lW){v:aV}{d:aA}(r:Rd G h v d):Rd c b v d:=
 r.ind .none .bool .int .str (λe Y f=>.tup (j _ _ e aa id) (f (Q:=bb c b) .nil .cons)) λe g Y f=>.lst (i _ _ e aa id g).1 (i _ _ e aa id g).2 (f (Q:=bb c b) .nil .cons)
theorem bb.mono
 (c:∀a o,h.get? a=ac o->o.cls=.type "tuple"->¬dJ o->b.get? a=ac o)
 (d:∀a o,h.get? a=ac o->o.cls=.type "list"->¬dJ o->G a=ak->b.get? a=ac o/\e a=ak)(r:bb G h vs f):bb e b vs f:=
 r.map λx=>Rd.mono c d x
theorem bb.length:∀{vs:ae aV}{a},bb G h vs a->vs.length=a.length:=by exact λ{vs a}r=>r.ind aa λY Y b=>bA (·+1) b
theorem bb.get:∀{vs}{b},bb G h vs b->∀{k:ah}{d},b[k]?=ac d->∃v,vs[k]?=ac v/\Rd G h v d:=by
 exact λ{vs b}r=>r.ind (P:=λvs b=>∀{k}{d},b[k]?=ac d->∃v,vs[k]?=ac v/\Rd G h v d) (λe=>by cases e) λ{v _ _ _}a _ c{k d}e=>by
  cases k with
  |zero=>cases e;exact bi v aa a
  |succ k=>exact c (k:=k) e
theorem bb.append:∀{vs ws:ae aV}{b c},bb G h vs b->bb G h ws c->bb G h (vs++ws) (b++c):=by exact λ{vs ws b c}r k=>r.ind (P:=λvs b=>bb G h (vs++ws) (b++c)) k λa Y d=>.cons a d
theorem bb.one(a:Rd G h v d):bb G h [v] [d]:=.cons a .nil
theorem bb.set:∀{vs}{c}{v}{d}(k),bb G h vs c->Rd G h v d->bb G h (vs.set k v) (c.set k d):=by
 exact λ{vs c v d}k r a=>r.ind (P:=λvs c=>∀k,bb G h (vs.set k v) (c.set k d)) (λY=>.nil) (λb r e k=>by
  cases k with
  |zero=>exact .cons a r
  |succ k=>exact .cons b (e k)) k
theorem bb.take:∀{vs:ae aV}{a}(k),bb G h vs a->bb G h (vs.take k) (a.take k):=by
 exact λ{vs a}k r=>r.ind (P:=λvs a=>∀k,bb G h (vs.take k) (a.take k)) (λk=>by cases k<;>exact .nil) (λb Y c k=>by
  cases k with
  |zero=>exact .nil
  |succ k=>exact .cons b (c k)) k
theorem bb.drop:∀{vs:ae aV}{a}(k),bb G h vs a->bb G h (vs.drop k) (a.drop k):=by
 exact λ{vs a}k r=>r.ind (P:=λvs a=>∀k,bb G h (vs.drop k) (a.drop k)) (λk=>by cases k<;>exact .nil) (λb r c k=>by
  cases k with
  |zero=>exact .cons b r
  |succ k=>exact c k) k
theorem bb.reverse:∀{vs:ae aV}{a},bb G h vs a->bb G h vs.reverse a.reverse:=by exact λ{vs a}r=>r.ind (P:=λvs a=>bb G h vs.reverse a.reverse) .nil λb Y c=>by rw[qX,qX];exact c.append (.one b)
theorem bb.eraseIdx:∀{vs:ae aV}{a}(k),bb G h vs a->bb G h (vs.eraseIdx k) (a.eraseIdx k):=by
 exact λ{vs a}k r=>r.ind (P:=λvs a=>∀k,bb G h (vs.eraseIdx k) (a.eraseIdx k)) (λY=>.nil) (λb r c k=>by
  cases k with
  |zero=>exact r
  |succ k=>exact .cons b (c k)) k
mutual
def Is (G:AH) (h:cH):aV->V->Prop
 |u,.d x=>Rd G h u x
 |u,.raw v=>u=v
 |u,.rng a b c=>∃r t1 t2 t3,u=.ref r/\yd h r a b c t1 t2 t3
 |u,.tup xs=>∃a vs n,u=.ref a/\h.get? a=ac ⟨.type "tuple",ak,.seq vs n,#[]⟩/\lY G h vs.toList xs
def lY (G:AH) (h:cH):ae aV->ae V->Prop
 |us,[]=>us=[]
 |us,x::xs=>∃u us',us=u::us'/\Is G h u x/\lY G h us' xs
end
theorem lY.q1:lY G h (a) ([])=(a=[]):=aa
theorem lY.q2:lY G h (b) (x::c)=(∃u a,b=u::a/\Is G h u x/\lY G h a c):=aa
theorem sX:Is G h (u) (.tup b)=(∃a vs n,u=.ref a/\h.get? a=ac ⟨.type "tuple",ak,.seq vs n,#[]⟩/\lY G h vs.toList b):=aa
inductive c7(G:AH)(h:cH):ae aV->ae V->Prop
 |nil:c7 G h [] []
 |cons {v vs d ds}:Is G h v d->c7 G h vs ds->c7 G h (v::vs) (d::ds)
@[elab_as_elim] theorem c7.on0{P:ae aV->Prop}(r:c7 G h us [])(k:P []):P us:=by cases r;exact k
@[elab_as_elim] theorem c7.onC{P:ae aV->Prop}(r:c7 G h us (d::a))(k:∀u vs,Is G h u d->c7 G h vs a->P (u::vs)):P us:=by cases r;exact k _ _ ‹_› ‹_›
@[elab_as_elim] theorem ji{P:ae aV->Prop}(r:c7 G h us [a])(k:∀u,Is G h u a->P [u]):P us:=c7.onC r λu Y i r=>c7.on0 r (k u i)
@[elab_as_elim] theorem m7{P:ae aV->Prop}(r:c7 G h us [a,b])(k:∀u v,Is G h u a->Is G h v b->P [u,v]):P us:=c7.onC r λu Y i r=>ji r λv j=>k u v i j
@[elab_as_elim] theorem CE{P:ae aV->Prop}(r:c7 G h us [a,b,c])(k:∀u v x,Is G h u a->Is G h v b->Is G h x c->P [u,v,x]):P us:=c7.onC r λu Y i r=>m7 r λv x j l=>k u v x i j l
theorem lY.all:∀{a},lY G h a b->c7 G h a b:=by
 induction b with
 |nil=>intro a e;rw[lY.q1] at e;subst e;exact .nil
 |cons x b c=>intro a e;rw[lY.q2] at e;refine dD e ?_;rintro u d rfl i r;exact .cons i (c r)
theorem c7.l(r:c7 G h a b):lY G h a b:=by
 induction r with
 |nil=>rfl
 |cons i _ c=>rw[lY.q2];exact qT _ _ aa i c
mutual
theorem Is.mono
 (ht:∀a o,h.get? a=ac o->o.cls=.type "tuple"->¬dJ o->h'.get? a=ac o)
 (hr:∀a o,h.get? a=ac o->o.cls=.type "range"->¬dJ o->h'.get? a=ac o)
 (hl:∀a o,h.get? a=ac o->o.cls=.type "list"->¬dJ o->G a=ak->h'.get? a=ac o/\G' a=ak):
 ∀{v}(d),Is G h v d->Is G' h' v d
 |v,.d x',x=>Rd.mono (v:=v) (d:=x') ht hl x
 |v,.raw u,x=>x
 |v,.rng a b c,x=>by refine vf x λr t1 t2 t3 e hr'=>⟨r,t1,t2,t3,e,hr _ _ hr' rfl id⟩
 |v,.tup xs,x=>by refine dz x λa vs n e ho r=>⟨a,vs,n,e,ht _ _ ho rfl id,lY.mono ht hr hl xs r⟩
theorem lY.mono
 (ht:∀a o,h.get? a=ac o->o.cls=.type "tuple"->¬dJ o->h'.get? a=ac o)
 (hr:∀a o,h.get? a=ac o->o.cls=.type "range"->¬dJ o->h'.get? a=ac o)
 (hl:∀a o,h.get? a=ac o->o.cls=.type "list"->¬dJ o->G a=ak->h'.get? a=ac o/\G' a=ak):
 ∀{v}(d),lY G h v d->lY G' h' v d
 |v,[],x=>x
 |v,y::ys,x=>by refine dD x ?_;rintro u us' rfl i r;exact⟨u,us',rfl,Is.mono ht hr hl y i,lY.mono ht hr hl ys r⟩
end
theorem c7.mono'(f:∀{v d},Is G h v d->Is b c v d)(r:c7 G h vs e):c7 b c vs e:=by
 induction r with
 |nil=>exact .nil
 |cons a _ g=>exact .cons (f a) g
theorem c7.append(r:c7 G h vs b)(k:c7 G h ws c):c7 G h (vs++ws) (b++c):=by
 induction r with
 |nil=>exact k
 |cons a _ d=>exact .cons a d
theorem c7.length(r:c7 G h vs b):vs.length=b.length:=by
 induction r with
 |nil=>rfl
 |cons a _ c=>exact bA (·+1) c
mutual
inductive KR (h:cH):ah->aV->aA->Prop
 |int (n i t):KR h n (.int i t) (.int i)
 |str (n x t):gT x=ao->KR h n (.str x t) (.str x)
 |tup {a vs m xs n}:h.get? a=ac ⟨.type "tuple",ak,.seq vs m,#[]⟩->jj h n vs.toList xs->KR h (n+1) (.ref a) (.tuple xs)
inductive jj (h:cH):ah->ae aV->ae aA->Prop
 |nil (n):jj h n [] []
 |cons {n v vs d ds}:KR h n v d->jj h n vs ds->jj h n (v::vs) (d::ds)
end
mutual
noncomputable def gU:aA->bP
 |.none=>ao
 |.int _=>ao
 |.str x=>gT x
 |.tuple xs=>hV xs
 |.list xs=>hV xs
 |.bool _=>ax
 |.dict _=>ax
noncomputable def hV:ae aA->bP
 |[]=>ao
 |x::xs=>gU x&&hV xs
end
theorem gU.q1:gU (.none)=(ao):=aa
theorem gU.q2:gU (.int a)=(ao):=aa
theorem gU.q3:gU (.str x)=(gT x):=aa
theorem iM:gU (.tuple a)=(hV a):=aa
theorem jk:gU (.list a)=(hV a):=aa
theorem jl:gU (.bool a)=(ax):=aa
theorem jm:gU (.dict a)=(ax):=aa
theorem hV.q1:hV ([])=(ao):=aa
theorem hV.q2:hV (x::a)=(gU x&&hV a):=aa
@[elab_as_elim] theorem KR.on{P:aV->aA->Prop}(k:KR h n v d)(i:∀i t,P (.int i t) (.int i))(s:∀x t,gT x=ao->P (.str x t) (.str x))
 (t:∀a vs m b c,n=c+1->h.get? a=ac ⟨.type "tuple",ak,.seq vs m,#[]⟩->jj h c vs.toList b->P (.ref a) (.tuple b)):P v d:=by
 cases k with
 |int _ j u=>exact i j u
 |str _ x u e=>exact s x u e
 |tup e r=>exact t _ _ _ _ _ aa e r
@[elab_as_elim] theorem jj.on0{P:ae aA->Prop}(r:jj h n [] a)(k:P []):P a:=by cases r;exact k
@[elab_as_elim] theorem jj.onC{P:ae aA->Prop}(r:jj h n (v::vs) c)(k:∀d b,KR h n v d->jj h n vs b->P (d::b)):P c:=by
 cases r with
 |cons a r=>exact k _ _ a r
theorem jj.mapH(f:∀{v d},KR h n v d->KR c n v d):∀{vs:ae aV}{b:ae aA},jj h n vs b->jj c n vs b:=by
 intro vs;induction vs with
 |nil=>exact λ{b}r=>r.on0 (.nil _)
 |cons v vs e=>exact λ{b}r=>r.onC λY Y a r=>.cons (f a) (e r)
theorem KR.mono(b:∀a vs m,h.get? a=ac ⟨.type "tuple",ak,.seq vs m,#[]⟩->c.get? a=ac ⟨.type "tuple",ak,.seq vs m,#[]⟩):∀{v:aV}{d},KR h n v d->KR c n v d:=by
 induction n with
 |zero=>exact λ{v d}k=>k.on (.int _) (.str _) λY Y Y Y Y e=>ye e
 |succ n f=>exact λ{v d}k=>k.on (.int _) (.str _) λY Y Y Y Y q e r=>by cases q;exact .tup (b _ _ _ e) (r.mapH f)
def vt h n v d:=gU d=ao/\∃a,sY h v d a/\d.canLay0=ao/\d.depth<=n
theorem vt.int{i t}:vt h n (.int i t) (.int i):=⟨by simp[gU.q2],_,.int i t,aW aa⟩
theorem vt.str{x t}(e:gT x=ao):vt h n (.str x t) (.str x):=⟨by trivial,_,.str x t,by simp[CG,yf,e]⟩
theorem jj.reads(f:∀{v d},KR h n v d->vt h n v d):∀{vs}{b},jj h n vs b->hV b=ao/\∃g,vu h vs b g/\yg b=ao/\sZ b<=n:=by
 intro vs;induction vs with
 |nil=>exact λ{b}r=>r.on0 ⟨by simp[hV.q1],_,.nil,aW aa⟩
 |cons v vs i=>intro b r;refine r.onC λY Y a r=>aw (f a) λp e=>aL e λg q c d=>aw (i r) λj e=>aL e λo k l m=>aF (by simp-zeta-zetaHave only[hV.q2,fD];exact aF p j) ⟨_,.cons q k,by simp[yg,c,l],by simp-zeta-zetaHave only[sZ];exact K0.2 ⟨aj [_,_] 72762854416 aa d,aj [_,_] 72762854416 aa m⟩⟩
theorem KR.reads':∀{v}{d},KR h n v d->vt h n v d:=by
 induction n with
 |zero=>exact λ{v d}k=>k.on (λY Y=>.int) (λY Y e=>.str e) λY Y Y Y Y e=>ye e
 |succ n b=>exact λ{v d}k=>k.on (λY Y=>.int) (λY Y e=>.str e) λY Y Y Y Y q e r=>by cases q;refine aw (jj.reads b r) λp a=>aL a λf q c d=>⟨by simp-zeta-zetaHave only[iM];exact p,_,.tuple e aa rfl q,c,by simpa[yf] using d⟩
theorem KR.reads(k:KR h n v d):∃a,sY h v d a/\d.canLay0=ao/\d.depth<=n:=k.reads'.2
theorem KR.plain(k:KR h n v d):gU d=ao:=k.reads'.1
theorem KR.inj(a:KR h n v d)(b:KR h m v e):d=e:=by refine au a.reads λf r Y=>au b.reads λg c Y=>(r.unique _ _ c).1
mutual
theorem yh:∀d e,gU d=ao->gU e=ao->(lZ d e=ao↔d=e)
 |.none,e,_,he=>by cases e<;>simp_all[gU.q1,gU.q2,gU.q3,iM,jk,jl,jm,lZ]
 |.bool _,_,h,_=>by simp[jl] at h
 |.int i,e,_,he=>by cases e<;>simp_all[gU.q1,gU.q2,gU.q3,iM,jk,jl,jm,lZ]
 |.str x,e,_,he=>by cases e<;>simp_all[gU.q1,gU.q2,gU.q3,iM,jk,jl,jm,lZ]
 |.dict _,_,h,_=>by simp[jm] at h
 |.tuple xs,e,h,he=>by
  cases e with
  |tuple ys=>simp-zeta-zetaHave only[lZ,CH];exact yi xs ys (by simpa[gU.q1,gU.q2,gU.q3,iM,jk,jl,jm] using h) (by simpa[gU.q1,gU.q2,gU.q3,iM,jk,jl,jm] using he)
  |_=>simp_all[gU.q1,gU.q2,gU.q3,iM,jk,jl,jm,lZ]
 |.list xs,e,h,he=>by
  cases e with
  |list ys=>simp-zeta-zetaHave only[lZ,aa7];exact yi xs ys (by simpa[gU.q1,gU.q2,gU.q3,iM,jk,jl,jm] using h) (by simpa[gU.q1,gU.q2,gU.q3,iM,jk,jl,jm] using he)
  |_=>simp_all[gU.q1,gU.q2,gU.q3,iM,jk,jl,jm,lZ]
theorem yi:∀d e,hV d=ao->hV e=ao->(K1 d e=ao↔d=e)
 |[],e,_,_=>by cases e<;>exact aW rfl
 |x::xs,[],_,_=>aW rfl
 |x::xs,y::ys,h,h'=>by simp-zeta-zetaHave only[hV.q2,fD] at h h';simp-zeta-zetaHave only[K1,fD,pG,yh x y h.1 h'.1,yi xs ys h.2 h'.2]
end
mutual
noncomputable def kh (w:yj):aA->af
 |.int i=>hashInt i
 |.str x=>hashStr w x
 |.tuple xs=>CI (qY (jo w xs))
 |.none=>0
 |.bool _=>0
 |.list _=>0
 |.dict _=>0
noncomputable def jo (w:yj):ae aA->ae af
 |[]=>[]
 |x::xs=>kh w x::jo w xs
end
theorem kh.q3:kh w (.tuple a)=(CI (qY (jo w a))):=aa
theorem jo.q1:jo w ([])=([]):=aa
theorem jo.q2:jo w (x::a)=(kh w x::jo w a):=aa
mutual
noncomputable def s0:aA->ah
 |.tuple xs=>l7 xs+1
 |.none=>1
 |.bool _=>1
 |.int _=>1
 |.str _=>1
 |.list _=>1
 |.dict _=>1
noncomputable def l7:ae aA->ah
 |[]=>0
 |x::xs=>s0 x+l7 xs
end
theorem s0.q1:s0 (.tuple a)=(l7 a+1):=aa
theorem l7.q1:l7 ([])=(0):=aa
theorem l7.q2:l7 (x::a)=(s0 x+l7 a):=aa
theorem CJ(w):∀a b,jo w (a++b)=jo w a++jo w b:=λd=>d.rec
 (λb=>by simp[jo.q1])
 (λx e c b=>by simp[jo.q2,c b])
theorem CK:∀a b,l7 (a++b)=l7 a+l7 b:=λd=>d.rec
 (λb=>by simp[l7.q1])
 (λx e c b=>by simp[l7.q2,c b];exact bQ (aj [_,_,_] 298597149676048 aa) (aj [_,_,_] 298625335372048 aa))
section
variable{prog:Program}{w:yj}
theorem K2:∀(n){A}{E}{s}{v}{d}{Q},A.units+2*n<yk->KR s.heap n v d->Q (kh w d) {s with toks:=s.toks+s0 d}->
 be (aY prog w) A (pyHash v) Q E s:=by
 intro n;induction n with
 |zero=>intro A E s v d Q r hk h;exact KR.on hk (λi t h=>K3 h) (λx t e h=>K4 h) (λY Y Y Y Y e=>ye e) h
 |succ n C=>
  intro A E s v d Q r hk h;revert h;refine KR.on hk (λi t h=>K3 h) (λx t e h=>K4 h) λa vs m y H q z D=>?_;cases q;intro h;have k:s.TypeIs (.ref a) "tuple":=⟨_,z,aa⟩
  unfold PySem.pyHash;first|unfold pyHashByItsType|skip
  first|refine aG (wpAny_cRoomFor_or (.inr (aj [_,_,_] 0x11f2011c292b91810 aa r)) ?_)|skip
  refine aG (CL k ym.lookup ?_);rw[aQ (by rw[beq_builtin_none];exact pH)];refine aG (CL k ym.lookup ?_);refine aG (wpAny_callSpecialIfBoundUnlessNone?_slot k ym (pI ym k F.entry_tuple_hash ?_ (F.args_tuple_hash_1 _)));show be _ _ (K5 (.ref a)>>=_) _ _ s;refine aG (wpAny_tupleItemsOf z aa ?_);refine aG ?_;rw[<-K6];refine K7 _
   (λc b l=>∃done left,y=done++left/\jj l.heap n c left/\b.toList=jo w done/\l={s with toks:=s.toks+l7 done})
   _ ?_ ?_ _ _ ⟨[],y,aa,D,by simp[jo.q1],by rfl⟩
  ·intro x c b l f;refine jf f ?_;rintro done left rfl u o rfl;refine jj.onC u λB g G j=>aG (C (by simp;exact aj [_,_,_] 0x11f292b1918011c292b91810 aa r) G ?_);first
    |exact bc ⟨done++[B],g,by simp,j,by simp[o,CJ,jo.q1,jo.q2],by simp[CK,l7.q1,l7.q2,vv]⟩
    |exact aG (bc (bc ⟨done++[B],g,by simp,j,by simp[o,CJ,jo.q1,jo.q2],by simp[CK,l7.q1,l7.q2,vv]⟩))
  ·intro b l f;refine jf f ?_;rintro done left rfl u o rfl;cases u;rw[c8] at h;show be _ _ (retInt (qY b.toList)) _ _ _;rw[o];refine wpAny_ret_mkInt ?_;show be _ _ (if(decide (-(2:af)^63<=qY (jo w done))&&decide (qY (jo w done)<2^63))=ao then _ else _) Q E _;simp-zeta-zetaHave only[kh.q3,s0.q1] at h;unfold CI at h;by_cases p:(decide (-(2:af)^63<=qY (jo w done))&&decide (qY (jo w done)<2^63))=ao
   ·rw[aR p];rw[aR p] at h;exact bc (h)
   ·rw[aQ p];rw[aQ p] at h;exact aG (vw (bc (h)))
theorem KR.quiet:∀(k n)(B:n<=k){A}{E}{s}{v}{d}{Q},KR s.heap n v d->Q ao s->be (aY prog w) A (eqIsQuiet k v) Q E s:=by
 intro k;induction k with
 |zero=>intro n g A E s v d Q hk h;obtain rfl:n=0:=bQ (aj [_] 18625126776960 rfl g) (aj [_] 1110024 rfl);exact KR.on hk (λi t=>by rw[yn 0 aa];exact bc h) (λx t e=>by rw[yn 0 aa];exact bc h) λY Y Y Y Y e=>ye e
 |succ k C=>
  intro n g A E s v d Q hk h;refine KR.on hk (λi t=>by rw[yn _ aa];exact bc h) (λx t e=>by rw[yn _ aa];exact bc h) λa vs m D u q y G=>?_;subst q;have z:s.TypeIs (.ref a) "tuple":=⟨_,y,aa⟩
  unfold eqIsQuiet;refine aG (CL z F.slot_tuple_eq.lookup ?_);refine aG (wpAny_isInstance z isSubtype_tuple_tuple ?_);simp-zeta-zetaHave only[K8,CM,pJ];refine aG (yo y aa ?_);refine aG ?_;rw[<-K6];refine K7 _ (λb r j=>r.1=ak/\j=s/\∃left,jj s.heap u b left) _ ?_ ?_ _ _ ⟨aa,aa,D,G⟩
  ·intro v b r j c;refine bu c ?_;rintro l rfl o;refine aK o λleft f=>?_;refine jj.onC f λJ p H I=>aG (C u (aj [_,_] 0x10f1010c91819180 aa g) H ?_);simp-zeta-zetaHave only[K8,CM,pJ];exact bc ⟨aa,aa,_,I⟩
  ·rintro⟨L,M⟩ j c;refine bu c ?_;rintro l rfl Y;simp-zeta-zetaHave only at l;subst l;exact bc h
@[reducible] def gC:ln aA:=λa b=>s7 (a=b)
def qZ(prog)(w):@HeapKind prog w aA gC:=
 letI:=gC
 {is:=λh k a=>KR h 4 (.ref a) k
  hash:=kh w
  draws:=s0
  room:=λA=>A.units+20<yk
  inj:=λd f=>d.inj f
  keeps:=λx i j l=>x.mono λb vs m e=>by refine(l.2 b ?_).trans e;rintro rfl;rw[i] at e;cases e;cases j
  pyHash:=λg hk h=>K2 4 (aj [_,_] 0x11f192b48011c19481e0 aa g) hk h
  eqBool:=λ{A E s x y a b Q}g d f h=>by
   refine aL d.reads λu n o p=>aL f.reads λv r t z=>eqAt_reads x y A s _ _ _ _ n r o t (aj [_,_,_,_] 0x11f391211c39481e210c0110c480 aa g (yp (x.depth) (y.depth)) p) prog w E Q ?_;have e:lZ x y=@decide (x=y) (gC x y):=by
    have:=yh x y d.plain f.plain;by_cases c:x=y
    ·rw[hW c];exact this.mpr c
    ·rw[s8 c];exact CN.mpr λq=>c (this.mp q)
   rw[e];exact h
  quiet:=λhk h=>KR.quiet 8 4 (aX _ _) hk h}
end
noncomputable abbrev pp:=aa8
structure jL where
 a:aZ
 i:ah
 j:bB ah
 q:jp
 m:jp
 t:ah
noncomputable def K9(st:fb):=by
 cases st;case FunctionDef n a b _ _ _ c _ _ _=>exact ac (n,a,b,c)
 all_goals exact ak
noncomputable def La(st:fb):=by
 cases st;case ClassDef _ _ _ b _ _ _ _ _ _ _=>exact b
 all_goals exact[]
def jL.fd(r:jL):=(r.j.elim pp.main.body[r.i]? λj=>pp.main.body[r.i]?.bind λs=>(La s)[j]?).bind K9
noncomputable def fo(r:jL):Obj:=r.fd.elim CO λx=>⟨.type "function",ak,.func (iN x.1 (.ofString r.q) x.2.1 x.2.2.1 x.2.2.2 .none .none .none (.str (.ofString r.m) r.t) ak (.ref (r.a-1)) .none),#[]⟩
noncomputable def ke(P:Params)(n:jp)(t:ah)(v:aV):DictEntry:=⟨PyData.keyHash P (.ofString n),.str (.ofString n) t,v⟩
noncomputable def fm(m:jp)(t:ah)(l:ae (aZ×ah×bB ah×jp)):ae jL:=l.map λx=>⟨x.1,x.2.1,x.2.2.1,x.2.2.2,m,t⟩
def m8:ae jL:=fm "siftwall.faults" 187 [(28,1,ac 0,"WallFault.__init__")]++
 fm "siftwall.stores" 251 [(65,5,ak,"tidy")]++
 fm "siftwall.diagram" 263 [(79,7,ac 0,"Diagrams.__init__"),(86,7,ac 1,"Diagrams.kept"),(93,7,ac 2,"Diagrams.leaf"),(100,7,ac 3,"Diagrams.make"),(107,7,ac 4,"Diagrams.node"),(114,7,ac 5,"Diagrams.level"),(128,8,ak,"parts_at"),(133,9,ak,"split"),(140,10,ak,"test"),(145,11,ak,"choose"),(152,12,ak,"first_unlike"),(159,13,ak,"parting"),(166,14,ak,"ways")]++
 fm "siftwall.fields" 424 [(173,16,ak,"needs_of")]++
 fm "siftwall.retext" 434 [(180,18,ak,"check_places"),(187,19,ak,"inner_nodes"),(194,20,ak,"verdict_of_leaf"),(201,21,ak,"verdict_to"),(206,22,ak,"spans_told"),(213,23,ak,"node_rule"),(220,24,ak,"chains_of_node"),(227,25,ak,"way_match"),(234,26,ak,"rules_of_ways")]++
 fm "siftwall.compile" 540 [(248,28,ac 0,"Space.__init__")]++
 fm "law_pq1084_01" 578 [(262,30,ak,"_law_firsts"),(269,31,ak,"_law_space"),(276,32,ak,"_law_span"),(283,33,ak,"_law_few"),(290,34,ak,"_law_lets"),(295,35,ak,"_law_table"),(302,36,ak,"_law_least"),(309,37,ak,"_law_diagram"),(314,38,ak,"_law_side"),(319,39,ak,"_law_due"),(326,40,ak,"_law_rule"),(333,41,ak,"_law_shuffled"),(340,42,ak,"_law_refused"),(345,43,ak,"_law_again"),(350,44,ak,"law")]
def KK(P:Params):cg:=(3,⟨.type "dict",ak,.dict #[ke P "__name__" 165 (.str (.ofString "law_pq1084_01") 578),ke P "__doc__" 166 (.none),ke P "__package__" 167 (.none),ke P "__loader__" 168 (.builtin "__main__.__loader__#opaque"),ke P "__spec__" 169 (.none),ke P "__annotations__" 170 (.ref 6),ke P "__builtins__" 171 (.ref 4),ke P "__file__" 173 (.str (.ofString "/claim/cut.py") 172),ke P "__cached__" 174 (.none),ke P "WallFault" 218 (.ref 31),ke P "Misused" 234 (.ref 44),ke P "LeftOut" 250 (.ref 56),ke P "tidy" 262 (.ref 65),ke P "Diagrams" 343 (.ref 117),ke P "parts_at" 354 (.ref 128),ke P "split" 360 (.ref 133),ke P "test" 376 (.ref 140),ke P "choose" 382 (.ref 145),ke P "first_unlike" 392 (.ref 152),ke P "parting" 404 (.ref 159),ke P "ways" 423 (.ref 166),ke P "needs_of" 433 (.ref 173),ke P "check_places" 446 (.ref 180),ke P "inner_nodes" 460 (.ref 187),ke P "verdict_of_leaf" 467 (.ref 194),ke P "verdict_to" 476 (.ref 201),ke P "spans_told" 482 (.ref 206),ke P "node_rule" 497 (.ref 213),ke P "chains_of_node" 510 (.ref 220),ke P "way_match" 523 (.ref 227),ke P "rules_of_ways" 539 (.ref 234),ke P "Space" 577 (.ref 251),ke P "_law_firsts" 585 (.ref 262),ke P "_law_space" 596 (.ref 269),ke P "_law_span" 605 (.ref 276),ke P "_law_few" 617 (.ref 283),ke P "_law_lets" 628 (.ref 290),ke P "_law_table" 634 (.ref 295),ke P "_law_least" 646 (.ref 302),ke P "_law_diagram" 659 (.ref 309),ke P "_law_side" 665 (.ref 314),ke P "_law_due" 671 (.ref 319),ke P "_law_rule" 686 (.ref 326),ke P "_law_shuffled" 697 (.ref 333),ke P "_law_refused" 708 (.ref 340),ke P "_law_again" 714 (.ref 345),ke P "law" 720 (.ref 350)] 47,#[]⟩)::(m8.map (λr=>(r.a,fo r))++[(31,⟨.type "type",ak,.cls {name:=.ofString "WallFault",bases:=[.type "Exception"],mro:=[.ref 31,.type "Exception",.type "BaseException",.type "object"],ns:=30,qualname:=.ofString "WallFault",subclasses:=[.ref 44,.ref 56]},#[ac (.ref 15),ak,ac (.str (.ofString "WallFault") 189),ac (.str (.ofString "WallFault") 197),ac (.builtin "Exception.__new__"),ac (.bool ao)]⟩),(44,⟨.type "type",ak,.cls {name:=.ofString "Misused",bases:=[.ref 31],mro:=[.ref 44,.ref 31,.type "Exception",.type "BaseException",.type "object"],ns:=43,qualname:=.ofString "Misused",subclasses:=[]},#[ac (.ref 35),ak,ac (.str (.ofString "Misused") 219),ac (.str (.ofString "Misused") 227),ac (.builtin "Exception.__new__"),ac (.bool ao)]⟩),(56,⟨.type "type",ak,.cls {name:=.ofString "LeftOut",bases:=[.ref 31],mro:=[.ref 56,.ref 31,.type "Exception",.type "BaseException",.type "object"],ns:=55,qualname:=.ofString "LeftOut",subclasses:=[]},#[ac (.ref 47),ak,ac (.str (.ofString "LeftOut") 235),ac (.str (.ofString "LeftOut") 243),ac (.builtin "Exception.__new__"),ac (.bool ao)]⟩),(117,⟨.type "type",ak,.cls {name:=.ofString "Diagrams",bases:=[.type "object"],mro:=[.ref 117,.type "object"],ns:=116,qualname:=.ofString "Diagrams",subclasses:=[]},#[ak,ak,ac (.str (.ofString "Diagrams") 265),ac (.str (.ofString "Diagrams") 273),ac (.builtin "object.__new__"),ac (.bool ao)]⟩),(251,⟨.type "type",ak,.cls {name:=.ofString "Space",bases:=[.type "object"],mro:=[.ref 251,.type "object"],ns:=250,qualname:=.ofString "Space",subclasses:=[]},#[ak,ak,ac (.str (.ofString "Space") 542),ac (.str (.ofString "Space") 550),ac (.builtin "object.__new__"),ac (.bool ao)]⟩),
 (30,⟨.type "dict",ak,.dict #[ke P "__module__" 196 (.str (.ofString "siftwall.faults") 187),ke P "__firstlineno__" 200 (.int 2 199),ke P "__init__" 208 (.ref 28),ke P "__static_attributes__" 211 (.ref 29),ke P "__weakref__" 213 (.ref 32),ke P "__doc__" 214 (.none)] 3,#[]⟩),(43,⟨.type "dict",ak,.dict #[ke P "__module__" 226 (.str (.ofString "siftwall.faults") 187),ke P "__firstlineno__" 230 (.int 8 229),ke P "__static_attributes__" 231 (.ref 42),ke P "__doc__" 232 (.none)] 2,#[]⟩),(55,⟨.type "dict",ak,.dict #[ke P "__module__" 242 (.str (.ofString "siftwall.faults") 187),ke P "__firstlineno__" 246 (.int 10 245),ke P "__static_attributes__" 247 (.ref 54),ke P "__doc__" 248 (.none)] 2,#[]⟩),(116,⟨.type "dict",ak,.dict #[ke P "__module__" 272 (.str (.ofString "siftwall.diagram") 263),ke P "__firstlineno__" 276 (.int 23 275),ke P "__init__" 284 (.ref 79),ke P "kept" 292 (.ref 86),ke P "leaf" 300 (.ref 93),ke P "make" 314 (.ref 100),ke P "node" 322 (.ref 107),ke P "level" 331 (.ref 114),ke P "__static_attributes__" 336 (.ref 115),ke P "__dict__" 338 (.ref 118),ke P "__weakref__" 340 (.ref 119),ke P "__doc__" 341 (.none)] 4,#[]⟩),(250,⟨.type "dict",ak,.dict #[ke P "__module__" 549 (.str (.ofString "siftwall.compile") 540),ke P "__firstlineno__" 553 (.int 222 552),ke P "__init__" 565 (.ref 248),ke P "__static_attributes__" 570 (.ref 249),ke P "__dict__" 572 (.ref 252),ke P "__weakref__" 574 (.ref 253),ke P "__doc__" 575 (.none)] 4,#[]⟩)])
def CP:=3::(m8.map (·.a)++[31,44,56,117,251,30,43,55,116,250])
noncomputable def loose:=(["WallFault","Misused","LeftOut","tidy","Diagrams","parts_at","split","test","choose","first_unlike","parting","ways","needs_of","check_places","inner_nodes","verdict_of_leaf","verdict_to","spans_told","node_rule","chains_of_node","way_match","rules_of_ways","Space","_law_firsts","_law_space","_law_span","_law_few","_law_lets","_law_table","_law_least","_law_diagram","_law_side","_law_due","_law_rule","_law_shuffled","_law_refused","_law_again"]:ae jp).map aD
noncomputable def CQ(h:cH)(r:jL):=match h.get? (r.a-1) with
 |some ⟨_,_,.fields vs,_⟩=>(match vs.toList with|_::.str n _::_=>n==aD r.q|_=>ax)
 |_=>ax
structure Lb(P:Params)(h:cH):Prop where
 kin:(KK P).In h
 codes:∀r∈m8,h.CodeRec (.ref (r.a-1)) (.ofString r.q)
def hk:Hook:=⟨ae (bB Obj)×bP,λs=>(CP.map s.heap.get?,m8.all (CQ s.heap)),λw=>((KK w.params).map λp=>ac p.2,ao),λw h=>Lb w.params h,
 λw s e=>⟨Frag.in_of (K:=KK w.params) (as:=CP) (by rfl) (bA Prod.fst e),λr b=>(by
  have e:=(gK.mp (bA Prod.snd e) r b)
  unfold CQ at e;split at e
  ·rename_i c;split at e
   ·rename_i a n t l d;exact⟨_,_,_,t,aa,c,aa,by rw[<-s9,d,<-jq.mp e];rfl⟩
   ·cases e
  ·cases e)⟩,
 λw h f x k=>⟨x.kin.keeps k,λr b=>(x.codes r b).keeps k⟩⟩
def qq:={pp with main:={pp.main with body:=(pp.main.body[44]?).toList}}
theorem CR:(defOf qq (.ofString "law")).isSome=ao:=by kernel_rfl
def dd:=(defOf qq (.ofString "law")).get CR
theorem Lc:LeftO pp qq loose (λs=>xlAt qq [] s&&recOk [] s) (Ld hk) (Le hk) 4910:=λw=>by kernel_rfl
def cn(K:cg)B:=
 K.In B/\
 (∃c,B.Ns eM c)/\
 (∃b,B.Ns builtinsNs b/\∀x:aN,x≠"__name__"->b x=rb x)/\
 B.NoLimit/\
 (∃a o,B.get? a=ac o/\ta<a)/\
 B.NoDigits/\
 ∀r∈m8,B.CodeRec (.ref (r.a-1)) (.ofString r.q)
def cn.kin{K:cg}(a:cn K B):=a.1
def cn.g{K:cg}(a:cn K B):=a.2.1
def cn.b{K:cg}(a:cn K B):=a.2.2.1
def cn.lim{K:cg}(a:cn K B):=a.2.2.2.1
def cn.big{K:cg}(a:cn K B):=a.2.2.2.2.1
def cn.dig{K:cg}(a:cn K B):=a.2.2.2.2.2.1
def cn.codes{K:cg}(a:cn K B):=a.2.2.2.2.2.2
theorem tc{K:cg}(a:cn K B)(h:(m8.any λr=>c==.ref (r.a-1)&&q==.ofString r.q)=ao):B.CodeRec c q:=by refine au (yq.mp h) λr b e=>?_;have e:=eV.mp e;rw[bC e.1,bC e.2];exact a.codes r b
def pK(B:cH)L a:=∃vs,B.IsList L vs/\td vs.toList a
noncomputable abbrev sW(s:cI)h t:={s with heap:=h,toks:=t}
def te(c:Program×yj×cH):=∀(s:cI)L d Q E,s.heap=c.2.2->cn (KK c.2.1.params) c.2.2->pK c.2.2 L d->d.length<=1000->
 (∀e a,(∀b o,s.heap.get? b=ac o->e.get? b=ac o)->Q (.bool ao) (sW s e a))->be (aY c.1 c.2.1) CS (kx (.ref 350) [.ref L]) Q E s
def tf:=@aa9 _ ⟨⟨CO,⟨λY Y=>0,{strHash:=λY=>0,shareClass:=λY=>0,mergeTok:=λt=>t,idOf:=λY=>0,idOfShared:=λY Y=>0,followText:=λY=>ao,idOfImm:=λY=>0}⟩,CO⟩⟩ λc=>¬te c
theorem Lf(h:te tf)(c):te c:=vx λn=>aba (p:=λc=>¬te c) ⟨c,n⟩ h
def pg:=tf.1
def wd:=tf.2.1
def Bh:=tf.2.2
abbrev df:=KK wd.params
def l8(G:AH)(h:cH)(a:aZ):O->Prop
 |.list c=>∃vs n,h.get? a=ac ⟨.type "list",ak,.seq vs n,#[]⟩/\bb G h vs.toList c
 |.tab c=>(a==ta)=ax/\∃b,@Heap.DictOfH pg wd aA gC (qZ pg wd) h a b/\b.map (·.1)=c.map (·.1)/\bb G h (b.map (·.2.2)) (c.map (·.2))
 |.itab c=>(a==ta)=ax/\∃b,h.DictOf (vy pg wd) a b/\b.map (·.1)=c.map (·.1)/\bb G h (b.map (·.2)) (c.map (·.2))
 |.stab c=>(a==ta)=ax/\∃b,h.DictOf (strKind pg wd) a b/\b.map (·.1)=c.map (·.1)/\bb G h (b.map (·.2)) (c.map (·.2))
 |.inst C g=>h.get? a=ac (yr C g)
 |.fr o=>dJ o/\∃i,h.get? a=ac {o with slots:=i}
 |.exc C d vs=>∃e,h.get? a=ac e/\e.cls=.ref C/\e.dict=d/\e.data=.fields vs
 |.tb j=>∃e,h.get? a=ac e/\e.cls=.type "traceback"/\e.data=.fields j
 |.attrs f=>∃m,h.Ns1 a m/\f.length<=50/\∀x,match f.lookup x with|some v=>∃u,m x=ac u/\Is G h u v/\rc u=ao|none=>m x=ak
def m9 o:=dJ o\/(o.cls≠.type "tuple"/\o.cls≠.type "list"/\o.cls≠.type "range")
def St(c:ae aZ)G h:=
 (∀b o,Bh.get? b=ac o->h.get? b=ac o/\G b=ak/\b∉c)/\
 (∀a o,G a=ac o->l8 G h a o)/\
 ∀a∈c,G a=ak/\∃o,h.get? a=ac o/\m9 o
def St.base(a:St b G h):=a.1
def St.objs(a:St b G h):=a.2.1
def St.own{a:ae aZ}(b:St a G h):=b.2.2
def bh(a:ae aZ)(G:AH)(h:cH)(c:AH)(d:cH):=∀b o,h.get? b=ac o->G b=ak->b∉a->d.get? b=ac o/\c b=ak
theorem fY:bh a G h G h:=λY Y e g Y=>⟨e,g⟩
theorem bh.trans(x:bh a G h f i)(y:bh a f i c d):bh a G h c d:=λb o e g n=>have q:=x b o e g n;y b o q.1 q.2 n
theorem bh.any(x:bh [] G h a c):bh d G h a c:=λb o e g Y=>x b o e g (by simp)
theorem l8.cls(x:l8 G h a o):∃g,h.get? a=ac g/\(dJ g\/(g.cls≠.type "tuple"/\g.cls≠.type "range")):=by
 cases o with
 |list i=>refine cQ x λvs n e Y=>bi _ e (.inr ⟨aW aa,aW aa⟩)
 |tab i=>refine aw x λY b=>au b λl f=>dz f λo j k e c Y=>λY=>bi o e (.inr ⟨by rw[c.1];exact aW aa,by rw[c.1];exact aW aa⟩)
 |itab i=>refine aw x λY b=>au b λl f=>dz f λo j k e c Y=>λY=>bi o e (.inr ⟨by rw[c.1];exact aW aa,by rw[c.1];exact aW aa⟩)
 |stab i=>refine aw x λY b=>au b λl f=>dz f λo j k e c Y=>λY=>bi o e (.inr ⟨by rw[c.1];exact aW aa,by rw[c.1];exact aW aa⟩)
 |inst C q=>exact bi _ x (.inr ⟨aW aa,aW aa⟩)
 |fr o=>refine aw x λn b=>aK b λr e=>bi _ e (.inl n)
 |exc C d vs=>refine aL x λg e c Y=>bi g e (.inr ⟨by rw[c];exact aW aa,by rw[c];exact aW aa⟩)
 |tb s=>refine aL x λg e c Y=>bi g e (.inr ⟨by rw[c];exact aW aa,by rw[c];exact aW aa⟩)
 |attrs t=>refine au x λm b=>dz b λo j k e p Y=>λY=>bi o e (.inl (by unfold dJ;rw[p];trivial))
theorem St.get{b:ae aZ}{G:AH}{h:cH}(S:St b G h)(e:G a=ac o):∃c,h.get? a=ac c:=let⟨c,q,_⟩:=(S.objs a o e).cls;⟨c,q⟩
theorem St.fresh{b:ae aZ}{G:AH}{h:cH}(S:St b G h)(e:h.get? a=ak):G a=ak:=by
 cases q:G a with
 |none=>rfl
 |some o=>refine aK (S.get q) λd c=>?_;rw[e] at c;cases c
theorem fE(h:cH):h.get? h.objs.size=ak:=by
 cases q:h.get? h.objs.size with
 |none=>rfl
 |some o=>exact bv (fZ q) (jM _)
theorem St.kept{d:ae aZ}(S:St d G h)(x:bh d G h s k):
 (∀a o,h.get? a=ac o->o.cls=.type "tuple"->¬dJ o->k.get? a=ac o)/\
 (∀a o,h.get? a=ac o->o.cls=.type "range"->¬dJ o->k.get? a=ac o)/\
 (∀a o,h.get? a=ac o->o.cls=.type "list"->¬dJ o->G a=ak->k.get? a=ac o/\s a=ak):=by
 have r:∀a o,h.get? a=ac o->¬dJ o->(o.cls=.type "tuple"\/o.cls=.type "range")->G a=ak:=λa o e t c=>by
  cases q:G a with
  |none=>rfl
  |some p=>
   refine au (S.objs a p q).cls λu j l=>?_;rw[e] at j;cases j;refine aB l ?_ ?_;rotate_left;intro b;refine aw b λf m=>?_;rotate_right;intro l
   ·exact bv l t
   ·refine aB c ?_ ?_<;>clear c<;>intro c
    ·exact bv c f
    ·exact bv c m
 have n:∀a o,h.get? a=ac o->¬dJ o->(o.cls=.type "tuple"\/o.cls=.type "range"\/o.cls=.type "list")->a∉d:=λa o e c hk v=>by
  refine aw (S.own a v) λY b=>au b λu j f=>?_;rw[e] at j;cases j;refine aB f ?_ ?_;rotate_left;intro b;refine bu b λf m w=>?_;rotate_right;intro f
  ·exact c f
  ·refine aB hk (λq=>?_) ?_<;>clear hk;rotate_left;intro b;refine aB b (λq=>?_) (λq=>?_)<;>clear b;rotate_right
   ·exact f q
   ·exact w q
   ·exact m q
 exact ca (λa o e c i=>(x a o e (r a o e i (.inl c)) (n a o e i (.inl c))).1) (λa o e c i=>(x a o e (r a o e i (.inr c)) (n a o e i (.inr (.inl c)))).1) λa o e c i g=>x a o e g (n a o e i (.inr (.inr c)))
theorem Is.ext(S:St d G h)(x:bh d G h e f)(i:Is G h u v):Is e f u v:=let⟨a,b,c⟩:=S.kept x;Is.mono a b c _ i
theorem Rd.ext(S:St b G h)(x:bh b G h d e)(i:Rd G h u v):Rd d e u v:=let⟨a,_,c⟩:=S.kept x;i.mono a c
theorem bb.ext(S:St b G h)(x:bh b G h d e)(i:bb G h u v):bb d e u v:=let⟨a,_,c⟩:=S.kept x;i.mono a c
theorem c7.ext(S:St a G h)(x:bh a G h b c)(i:c7 G h u v):c7 b c u v:=i.mono' λy=>Is.ext S x y
theorem l8.ext(S:St w G h)(x:bh w G h E D)(f:∀g,h.get? a=ac g->D.get? a=ac g)(i:l8 G h a o):l8 E D a o:=by
 refine bu (S.kept x) λj H l=>?_;cases o with
 |list z=>refine cQ i λvs n e r=>⟨vs,n,f _ e,r.mono j l⟩
 |tab z=>refine aw i λlo b=>aL b λp c=>Ch c λo s t e I J L M A=>?_;intro k r;exact⟨lo,p,⟨o,s,t,f _ e,I,J,L,λy N=>KR.mono (λa vs m q=>j _ _ q aa id) (M y N),A⟩,k,r.mono j l⟩
 |itab z=>refine aw i λlo b=>aL b λp c=>fa c λo s t e q=>λk r=>⟨lo,p,⟨o,s,t,f _ e,q⟩,k,r.mono j l⟩
 |stab z=>refine aw i λlo b=>aL b λp c=>fa c λo s t e q=>λk r=>⟨lo,p,⟨o,s,t,f _ e,q⟩,k,r.mono j l⟩
 |inst C dx=>exact f _ i
 |fr o=>refine aw i λn b=>aK b λQ e=>⟨n,Q,f _ e⟩
 |exc C d vs=>refine au i λg e r=>⟨g,f _ e,r⟩
 |tb ts=>refine au i λg e r=>⟨g,f _ e,r⟩
 |attrs T=>
  refine aL i λm A B q=>⟨m,A.at (λo e=>f _ e),B,λy=>?_⟩
  have:=q y
  revert this
  cases T.lookup y with
  |none=>exact id
  |some v=>intro b;refine aL b λu U W Y=>cf u U (Is.mono j H l _ W) Y
theorem St.change{d:ae aZ}(S:St d G h)(n:G a=ac o)(k:∀b,b≠a->h'.get? b=h.get? b)(r:bh [] G h (aE G a o') h'->l8 (aE G a o') h' a o'):
 St d (aE G a o') h'/\bh [] G h (aE G a o') h':=by
 have c:∀b,G b=ak->b≠a:=λb e q=>by rw[q,n] at e;cases e
 have X:bh [] G h (aE G a o') h':=λb f e g Y=>⟨(k b (c b g)).trans e,(aU (c b g)).trans g⟩
 refine aF ⟨λb f e=>?_,λb p e=>?_,λb s=>?_⟩ X
 ·refine bu (S.base b f e) λi j l=>ca ((k b (c b j)).trans i) ((aU (c b j)).trans j) l
 ·by_cases q:b=a
  ·subst q;rw[bG] at e;cases e;exact r X
  ·rw[aU q] at e;exact(S.objs b p e).ext S X.any λf t=>(k b q).trans t
 ·refine aw (S.own b s) λi m=>au m λf j l=>aF ((aU (c b i)).trans i) ⟨f,(k b (c b i)).trans j,l⟩
theorem St.push{a:ae aZ}(S:St a G h)(o):St a G (h.push o)/\bh [] G h G (h.push o):=by
 have X:bh [] G h G (h.push o):=λb c e g Y=>⟨gc _ e,g⟩
 refine aF ⟨λb c e=>?_,λb p e=>?_,λb k=>?_⟩ X
 ·refine bu (S.base b c e) λd f i=>ca (gc _ d) f i
 ·exact(S.objs b p e).ext S X.any λc l=>gc _ l
 ·refine aw (S.own b k) λd j=>au j λc f i=>aF d ⟨c,gc _ f,i⟩
theorem St.pushT{c:ae aZ}{G:AH}{h:cH}(S:St c G h)(a:Obj)(o:O)(m:a.isFreed=ax)(n:(h.push a).get? h.objs.size=ac a->bh [] G h (aE G h.objs.size o) (h.push a)->l8 (aE G h.objs.size o) (h.push a) h.objs.size o):
 St c (aE G h.objs.size o) (h.push a)/\bh [] G h (aE G h.objs.size o) (h.push a):=by
 have l:=fE h;have t:=S.fresh l;have i:∀b a,h.get? b=ac a->b≠h.objs.size:=λb a e q=>by rw[q,l] at e;cases e
 have X:bh [] G h (aE G h.objs.size o) (h.push a):=λb a e g Y=>⟨gc _ e,(aU (i b _ e)).trans g⟩
 refine aF ⟨λb a e=>?_,λb p e=>?_,λb r=>?_⟩ X
 ·refine bu (S.base b a e) λd f j=>ca (gc _ d) ((aU (i b _ d)).trans f) j
 ·by_cases q:b=h.objs.size
  ·subst q;rw[bG] at e;cases e;exact n (fc _ m) X
  ·rw[aU q] at e;exact(S.objs b p e).ext S X.any λa s=>gc _ s
 ·refine aw (S.own b r) λd k=>au k λa f j=>aF ((aU (i b _ f)).trans d) ⟨a,gc _ f,j⟩
theorem na(g:G b=ak):cL G a b=ak:=by unfold cL;split;rfl;exact g
theorem bb.del(r:bb G h v d):bb (cL G a) h v d:=r.mono (λY Y e Y Y=>e) λY Y e Y Y g=>⟨e,na g⟩
theorem Is.del(i:Is G h v d):Is (cL G a) h v d:=Is.mono (λY Y e Y Y=>e) (λY Y e Y Y=>e) (λY Y e Y Y g=>⟨e,na g⟩) _ i
theorem St.drop{f:ae aZ}(S:St f G h)(a):St f (cL G a) h/\bh [] G h (cL G a) h:=by
 refine aF ⟨λb l e=>?_,λb p e=>?_,λb A=>?_⟩ λb l e g Y=>⟨e,na g⟩
 ·refine bu (S.base b l e) λs t w=>ca s (na t) w
 ·by_cases q:b=a
  ·subst q;rw[n9] at e;cases e
  ·rw[ku q] at e;have i:=S.objs b p e;cases p with
   |list x=>refine cQ i λvs n e r=>⟨vs,n,e,r.del⟩
   |tab x=>refine aw i λlo c=>aL c λj z k r=>⟨lo,j,z,k,r.del⟩
   |itab x=>refine aw i λlo c=>aL c λj z k r=>⟨lo,j,z,k,r.del⟩
   |stab x=>refine aw i λlo c=>aL c λj z k r=>⟨lo,j,z,k,r.del⟩
   |inst C L=>exact i
   |fr o=>exact i
   |exc C d vs=>exact i
   |tb M=>exact i
   |attrs B=>
    refine aL i λm D E q=>⟨m,D,E,λy=>?_⟩
    have:=q y
    revert this
    cases B.lookup y with
    |none=>exact id
    |some v=>intro c;refine aL c λu H I J=>cf u H I.del J
 ·refine aw (S.own b A) λs c=>au c λl t w=>aF (na s) ⟨l,t,w⟩
theorem St.list_read{b:ae aZ}{G:AH}{h:cH}(S:St b G h)(e:G a=ac (.list c)):Rd (cL G a) h (.ref a) (.list c):=by refine cQ (S.objs a _ e) λvs n q r=>.lst q (n9 G a) r.del
theorem St.reown{a:ae aZ}(S:St a G h)(g:St [] i j)(x:bh [] G h i j):St a i j:=by
 refine⟨λb o e=>?_,g.objs,λb l=>?_⟩
 ·refine bu (g.base b o e) λc d Y=>ca c d (S.base b o e).2.2
 ·refine aw (S.own b l) λc f=>au f λk d m=>?_;have:=x b k d c (by simp);exact aF this.2 ⟨k,this.1,m⟩
theorem St.bare{a:ae aZ}{G:AH}{h:cH}(S:St a G h):St [] G h:=⟨λb o e=>let⟨c,d,_⟩:=S.base b o e;⟨c,d,by simp⟩,S.objs,λY f=>by simp at f⟩
abbrev F0:aV->cI->Prop:=λY Y=>aC
abbrev jN:=aN->bB V
def FR(a:dK)(b:ae aZ)(F:jN)G h:=
 (∃m,h.Ns a.locals m/\∀x v,F x=ac v->∃u,Is G h u v/\
  ((a.kindOf x=ac .local/\m x=ac u)\/((a.kindOf x=ac .cell\/a.kindOf x=ac .free)/\∃c,a.cells.lookup x=ac c/\h.IsCell c (ac u))))/\
 a.locals∈b/\
 ∀x c,a.cells.lookup x=ac c->(∃d,h.IsCell c d)/\G c=ak/\c≠a.locals
def FR.ns{a:dK}{b:ae aZ}{F:jN}{G:AH}(c:FR a b F G h):=c.1
def FR.mine{a:dK}{b:ae aZ}{F:jN}{G:AH}(c:FR a b F G h):=c.2.1
def FR.cells{a:dK}{b:ae aZ}{F:jN}{G:AH}(c:FR a b F G h):=c.2.2
def cS(a:dK):=
 a.scope.kind=.function/\
 a.globals=eM/\
 a.builtins=builtinsNs
def cS.kind{a:dK}(b:cS a):=b.1
def cS.glob{a:dK}(b:cS a):=b.2.1
def cS.blt{a:dK}(b:cS a):=b.2.2
noncomputable def hX(a:dK):=a.locals::a.cells.map λp=>(a.cells.lookup p.1).getD a.locals
def cA(A:cq)n:=
 A.handled=ak/\
 A.depth+2*n<Lg/\
 A.units+40*n+200<yk
def cA.hd{A:cq}(a:cA A n):=a.1
def cA.depth{A:cq}(a:cA A n):=a.2.1
def cA.units{A:cq}(a:cA A n):=a.2.2
theorem cA.deeper(R:cA A (n+1))(a:dK):cA (A.deeper a) n:=⟨R.hd,by have:=R.depth;exact aj [_,_,_] 0x11f292b1918011c292b91810 aa this,by have:=R.units;exact aj [_,_,_] 0x11f2988ce98b2e1938011c2988ce98b2e91810 aa this⟩
theorem cA.lim(R:cA A n):A.depth<Lg:=by have:=R.depth;exact aj [_,_,_] 5051161185430288 aa this
theorem cA.u(R:cA A n):A.units+200<yk:=by have:=R.units;exact aj [_,_,_] 0x11f2988ce011c2988ce910 aa this
noncomputable def em K(f:aV):=match f with|.ref a=>keepIn K (.ref a)|_=>ao
theorem CT{M:Model}{K:cg}{f:aV}(hk:em K f=ao)(h:cH)(X:K.In h):∃k,(k=Keeper.frame\/k=Keeper.machine\/k=Keeper.boundFrame)/\oe M h (keeperOf f) k:=by
 cases f with
 |ref a=>exact keeps_K (K:=K) (f:=.ref a) hk h X
 |_=>exact bi .machine (.inr (.inl aa)) .now
theorem th{M:Model}{A:cq}{E:aV->cI->Prop}{s:cI}{K:cg}{b:dK}{c:cT}{f:aV}{first:ae aV}{Q:aV->cI->Prop}{e:Expr}{a:ae Expr}(hk:em K f=ao)
 (h:be M A (CU (dY c (bM (e::a) b))) (λvs g=>K.In g.heap/\be M A (kx f (first++vs)) Q E g) E s)
 (i:bM (e::a) b=(ax,bN e b)::bM a b)(d:(dY c (bM a b)).any (·.1)=ax):
 be M A (lp c f first (dY c (bM (e::a) b)) []) Q E s:=by rw[i] at h⊢;exact Lh (by show((ax||(dY c (bM a b)).any (·.1))||ax)=ax;rw[d];rfl) (CT hk) (evalArgs_plain h)
def PV c s G(Q:V->AH->Prop)v e:=∀d:Prop,(∀(a:cH)(tk':ah)(b:AH)(x:V),e=(sW s a tk')->St c b a->bh [] G s.heap b a->Is b a v x->Q x b->d)->d
theorem PV.mk{a:ae aZ}{s:cI}{G:AH}{Q:V->AH->Prop}(b:cH)(c:ah)(d:AH)(x:V)(e:f=(sW s b c))(g:St a d b)(h:bh [] G s.heap d b)(i:Is d b v x)(j:Q x d):PV a s G Q v f:=λY k=>k b c d x e g h i j
def PL c s G(Q:ae V->AH->Prop)v f:=∀e:Prop,(∀(a:cH)(d:ah)(b:AH)(x:ae V),f=(sW s a d)->St c b a->bh [] G s.heap b a->c7 b a v x->Q x b->e)->e
theorem PL.mk{a:ae aZ}{s:cI}{G:AH}{Q:ae V->AH->Prop}(b:cH)(c:ah)(d:AH)(x:ae V)(e:f=(sW s b c))(g:St a d b)(h:bh [] G s.heap d b)(i:c7 d b v x)(j:Q x d):PL a s G Q v f:=λY k=>k b c d x e g h i j
def PB a s G(Q:bP->AH->Prop)b g:=∀f:Prop,(∀(c:cH)(d:ah)(e:AH),g=(sW s c d)->St a e c->bh [] G s.heap e c->Q b e->f)->f
theorem PB.mk(c)(a)(d)(f:g=(sW s c a))(h:St e d c)(i:bh [] G s.heap d c)(j:Q b d):PB e s G Q b g:=λY k=>k c a d f h i j
def EV A b a e F G Q:=∀s,St a G s.heap->FR b a F G s.heap->be (aY pg wd) A (bN e b) (PV a s G Q) F0 s
def TV A a b e F G Q:=∀s,St b G s.heap->FR a b F G s.heap->be (aY pg wd) A (isTrue e a (bN e a)) (PB b s G Q) F0 s
def re A d a b G Q:=∀c s u v,St c G s.heap->Is G s.heap u a->Is G s.heap v b->be (aY pg wd) A (binaryOp d u v) (PV c s G Q) F0 s
def fq A d a b G Q:=∀c s u v,St c G s.heap->Is G s.heap u a->Is G s.heap v b->be (aY pg wd) A (compareOp d u v) (PV c s G Q) F0 s
def rf A a G Q:=∀b s u,St b G s.heap->Is G s.heap u a->be (aY pg wd) A (truthy u) (PB b s G Q) F0 s
def fe A f a G Q:=∀b s c,St b G s.heap->c7 G s.heap c a->jO (aY pg wd) A (.call f ⟨c,[]⟩) (λr d=>match r with|.ok (.ret v)=>PV b s G Q v d|_=>aC) s
def cF A f a G Q:=∀b s c,St b G s.heap->c7 G s.heap c a->be (aY pg wd) A (kx f c) (PV b s G Q) F0 s
def nf K A o a G(k:aV->ae V->AH->Prop):=
 ∀b s u g,St b G s.heap->Is G s.heap u o->be (aY pg wd) A (ma u a g)
  (λe h=>∃c f d vs,h=(sW s c f)/\St b d c/\bh [] G s.heap d c/\em K e.1=ao/\c7 d c e.2 vs/\k e.1 vs d) F0 s
def ti A o a G Q:=∀b s u,St b G s.heap->Is G s.heap u o->be (aY pg wd) A (yt u a ao) (PV b s G Q) F0 s
def gp A b a d F G Q:=∀s c,St a G s.heap->FR b a F G s.heap->be (aY pg wd) A (CU (dY c (bM d b))) (PL a s G Q) F0 s
def jr A c d a b G Q:=∀e s u v,St e G s.heap->Is G s.heap u a->Is G s.heap v b->be (aY pg wd) A (subscriptTail c d u v) (PV e s G Q) F0 s
theorem ce{Q:V->AH->Prop}{f:aV->cI->Prop}(h:∀u a b c x,St d c a->bh [] G s.heap c a->Is c a u x->Q x c->f u (sW s a b))(u:aV)(g:cI)(p:PV d s G Q u g):f u g:=by exact p _ λa b c x e S X i q=>by subst e;exact h _ _ _ _ _ S X i q
theorem ng{Q:ae V->AH->Prop}{f:ae aV->cI->Prop}(h:∀u a b c x,St d c a->bh [] G s.heap c a->c7 c a u x->Q x c->f u (sW s a b))(u:ae aV)(g:cI)(p:PL d s G Q u g):f u g:=by exact p _ λa b c x e S X i q=>by subst e;exact h _ _ _ _ _ S X i q
theorem og{Q:bP->AH->Prop}{f:bP->cI->Prop}(h:∀u b a c,St d c b->bh [] G s.heap c b->Q u c->f u (sW s b a))(u:bP)(g:cI)(p:PB d s G Q u g):f u g:=by exact p _ λb a c e S X q=>by subst e;exact h _ _ _ _ S X q
theorem PV.up(x:bh [] G s.heap d f)(p:PV a (sW s f tk') d Q v b):PV a s G Q v b:=by refine p _ λg c h y e S j i q=>(.mk g c h y e S (x.trans j) i q)
theorem PB.up(x:bh [] G s.heap d f)(p:PB a (sW s f tk') d Q v b):PB a s G Q v b:=by refine p _ λg c h e S i q=>(.mk g c h e S (x.trans i) q)
theorem aM(h:be (aY pg wd) A t c F0 s)(k:∀a b,c a b->d a b):be (aY pg wd) A t d E s:=iO h k λY Y x=>x.elim
theorem Is.int(i t):Is G h (.int i t) (.int i):=Rd.int i t
theorem Is.str(i t):Is G h (.str i t) (.str i):=Rd.str i t
theorem Is.bool(b):Is G h (.bool b) (.bool b):=Rd.bool b
theorem Is.none:Is G h .none .none:=Rd.none
theorem Is.raw(u):Is G h u (.raw u):=aa
theorem PV.here(S:St a G s.heap)(i:Is G s.heap v x)(q:Q x G):PV a s G Q v {s with toks:=tk}:=(.mk s.heap tk G x aa S fY i q)
theorem PB.here(S:St a G s.heap)(q:Q b G):PB a s G Q b {s with toks:=tk}:=(.mk s.heap tk G aa S fY q)
theorem FR.ext{h:ae aZ}{j:dK}{F:jN}{G p:AH}{s:cI}{r:cH}(R:FR j h F G s.heap)(S:St h G s.heap)(x:bh [] G s.heap p r):FR j h F p r:=by
 obtain⟨⟨m,A,B⟩,f,a⟩:=R;refine aw (S.own _ f) λC b=>au b λH z Y=>?_;have t:∀{c v},s.heap.IsCell c v->G c=ak->r.IsCell c v/\p c=ak:=λ{c v}⟨o,e,d⟩ g=>⟨⟨o,(x c o e g (by simp)).1,d⟩,(x c o e g (by simp)).2⟩
 refine⟨⟨m,A.at' (λo e=>by rw[z] at e;cases e;exact(x _ _ z C (by simp)).1),λy v e=>?_⟩,f,λy c e=>?_⟩
 ·refine au (B y v e) λu i q=>bi u (Is.ext S x.any i)<|aB q ?_ ?_;rotate_left;intro b;refine aw b λk w=>au w λc l d=>?_;rotate_right;intro q
  ·exact .inl q
  ·refine bu (a y c l) λY D Y=>.inr ⟨k,c,l,(t d D).1⟩
 ·refine bu (a y c e) λb=>aK b λE d=>λg n=>ca ⟨E,(t d g).1⟩ (t d g).2 n
theorem pL{k a}(q:Q (.int i) G):EV A b c (.Constant (.int i) k a) F G Q:=λs S Y=>by exact wpAny_Constant_int (PV.here S (Is.int i _) q)
theorem vz{k a}(q:Q (.str x) G):EV A b c (.Constant (.str x) k a) F G Q:=λs S Y=>by exact Li (PV.here S (Is.str x _) q)
theorem Lj{k a}(q:Q (.bool b) G):EV A c d (.Constant (.bool b) k a) F G Q:=λs S Y=>by exact bc (PV.here (tk:=s.toks) S (Is.bool b) q)
theorem Lk{k a}(q:Q .none G):EV A b c (.Constant .none k a) F G Q:=λs S Y=>by exact bc (PV.here (tk:=s.toks) S Is.none q)
theorem fQ(O:cS f)(l:F x=ac v)(q:Q v G)(hd:(x==("__debug__":aN))=ax)
 (hn:(x==("__classdict__":aN))=ax):EV A f n (.Name x o) F G Q:=λs S R=>by
 obtain⟨⟨m,g,p⟩,_,j⟩:=R;refine au (p x v l) λu i h=>wpAny_Name ?_ hd;refine aB h ?_ ?_;rotate_left;intro a;refine aw a λd=>aB d (λhk=>?_) (λhk=>?_)<;>clear d;rotate_left;intro b;refine au b λc k e=>?_;rotate_right;intro b;refine au b λc k e=>?_;rotate_right;intro a;refine aw a λhk e=>?_
 ·exact wpAny_loadName_local O.kind hk g e (PV.here (tk:=s.toks) S i q)
 ·exact wpAny_loadName_cell O.kind hk k e (PV.here (tk:=s.toks) S i q)
 ·exact wpAny_loadName_free O.kind hk k e (PV.here (tk:=s.toks) S i q) hn
theorem St.keep{a:ae aZ}{G:AH}{s:cI}(S:St a G s.heap):∀b o,Bh.get? b=ac o->s.heap.get? b=ac o:=λb o e=>(S.base b o e).1
theorem tj{K:cg}(c:cn K Bh)(O:cS a){x:aN}{b:cT}{u:aV}{Q:V->AH->Prop}(hk:a.kindOf x=ac .globalImplicit)(e:eW K eM x=ac (ac u))(q:Q (.raw u) G)
 (f:(x==("__debug__":aN))=ax):EV A a g (.Name x b) F G Q:=λs S R=>by refine aK c.g λh d=>Ll O.kind hk (loadGlobal_global (O.glob▸d.keeps S.keep) (mg_of c.kin d e) (PV.here (tk:=s.toks) S (Is.raw _) q)) f
theorem yu{K:cg}(b:cn K Bh)(O:cS a){x:aN}{c:cT}{u:aV}{Q:V->AH->Prop}(hk:a.kindOf x=ac .globalImplicit)(e:eW K eM x=ac ak)(g:rb x=ac u)
 (q:Q (.raw u) G)(hn:x≠"__name__")(hd:(x==("__debug__":aN))=ax):EV A a h (.Name x c) F G Q:=λs S R=>by refine aK b.g λj f=>au b.b λk i d=>Ll O.kind hk (loadGlobal_builtin (O.glob▸f.keeps S.keep) (mg_none_of b.kin f e) (O.blt▸i.keeps S.keep) ((d x hn).trans g) (PV.here (tk:=s.toks) S (Is.raw _) q)) hd
theorem yv{l r:Expr}{m:Operator}{g:cT}{Q:V->AH->Prop}
 (h:let t:V->AH->Prop:=λa c=>EV A d e r F c λb f=>re A m a b f Q;EV A d e l F G t):EV A d e (.BinOp l m r g) F G Q:=λs S R=>by
 refine wpAny_BinOp (aM (h s S R) ?_);refine ce ?_;rintro u C w D x n o i k;refine aM (k _ n (R.ext S o))<|ce ?_
 rintro v E z H y B q j k;exact aM (k _ _ _ _ B (Is.ext n q.any i) j) λY Y p=>PV.up (o.trans q) p
theorem CV{l r:Expr}{g:vA}{m:cT}{Q:V->AH->Prop}
 (h:let t:V->AH->Prop:=λa c=>EV A d e r F c λb f=>fq A g a b f Q;EV A d e l F G t)(hm:yw g r=ax):
 EV A d e (.Compare l [g] [r] m) F G Q:=λs S R=>by
 refine wpAny_Compare1 (aM (h s S R) ?_) hm;refine ce ?_;rintro u C w D x n o i k;refine aM (k _ n (R.ext S o))<|ce ?_
 rintro v E z H y B q j k;exact aM (k _ _ _ _ B (Is.ext n q.any i) j) λY Y p=>PV.up (o.trans q) p
theorem Lm{l r:Expr}{n:vA}{o:cT}{Q:bP->AH->Prop}
 (h:let B:V->AH->Prop:=λa d=>EV A e f r F d λb g=>fq A n a b g λc m=>rf A c m Q;EV A e f l F G B)(C:yw n r=ax):
 TV A e f (.Compare l [n] [r] o) F G Q:=λs S R=>by
 refine wpAny_isTrue_Compare1 (aM (h s S R) ?_) C;refine ce ?_;rintro u M D N x q t i k;refine aM (k _ q (R.ext S t))<|ce ?_
 rintro v T E U y H w j k;refine aM (k _ _ _ _ H (Is.ext q w.any i) j)<|ce ?_
 rintro c W I G3 z J L l k;exact aM (k _ _ _ J l) λY Y p=>PB.up (t.trans (w.trans L)) p
theorem tl(q:Q b G):rf A (.bool b) G Q:=λa s u S i=>by exact KZ i (wpAny_truthy_bool (PB.here (tk:=s.toks) S q))
theorem Ln(q:Q (.int (a+b)) G):re A .Add (.int a) (.int b) G Q:=λc s u v S i j=>by exact cB i λY=>cB j λY=>wpAny_add_int (PV.here S (Is.int _ _) q)
theorem Lo(q:Q (.bool (decide (a<b))) G):fq A .Lt (.int a) (.int b) G Q:=λc s u v S i j=>by exact cB i λY=>cB j λY=>wpAny_lt_int (PV.here (tk:=s.toks) S (Is.bool _) q)
theorem PL.here(S:St a G s.heap)(i:c7 G s.heap v x)(q:Q x G):PL a s G Q v {s with toks:=tk}:=(.mk s.heap tk G x aa S fY i q)
theorem kz(q:Q [] G):gp A a b [] F G Q:=λs c S R=>spliced_none (PL.here (tk:=s.toks) S .nil q)
theorem fF
 (h:let p:V->AH->Prop:=λv c=>gp A a d b F c λvs f=>Q (v::vs) f;EV A a d e F G p)
 (he:bM (e::b) a=(ax,bN e a)::bM b a):gp A a d (e::b) F G Q:=λs g S R=>by
 refine CW (aM (h s S R) ?_) he;refine ce ?_;rintro u z q B x m n i k;refine aM (k _ g m (R.ext S n))<|ng ?_
 rintro C r l t y w o j k;exact(.mk r l t (x::y) aa w (n.trans o) (.cons (Is.ext m o.any i) j) k)
theorem yx(h:fe A f vs G Q):cF A f vs G Q:=λa s b S i=>by refine pM (oh (h a s b S i) λr c q=>?_);rcases r with e|(_|_|_|v)<;>first|exact q|exact q.elim
theorem yz{K:cg}(m:cn K Bh)(hk:em K u=ao)
 (h:let n:ae V->AH->Prop:=λvs g=>cF A u (first++vs) g Q;gp A b d (e::a) F G n)
 (S:St d G s.heap)(R:FR b d F G s.heap)(o:c7 G s.heap q first)
 (r:bM (e::a) b=(ax,bN e b)::bM a b)(c:(dY f (bM a b)).any (·.1)=ax):
 be (aY pg wd) A (lp f u q (dY f (bM (e::a) b)) []) (PV d s G Q) F0 s:=by refine th hk (aM (h s f S R) ?_) r c;refine ng ?_;rintro v w t y x j l i k;exact aF (m.kin.keeps j.keep) (aM (k _ _ _ j ((c7.ext S l.any o).append i)) λY Y p=>PV.up l p)
theorem CX{K:cg}(c:cn K Bh)(hk:em K u=ao)
 (h:cF A u first G Q)(S:St a G s.heap)(d:c7 G s.heap e first):
 be (aY pg wd) A (lp b u e (dY b (bM [] f)) []) (PV a s G Q) F0 s:=
 (Lh aa (CT hk) (evalArgs_nil3 ⟨(c.kin.keeps S.keep),(h _ _ _ S (by rw[c8];exact d))⟩))
theorem vC{K:cg}(m:cn K Bh)(O:cS a)(hk:a.kindOf x=ac .globalImplicit)(o:eW K eM x=ac (ac u))(g:em K u=ao)
 (h:let q:ae V->AH->Prop:=λvs d=>cF A u vs d Q;gp A a j (e::b) F G q)(r:(x==("__debug__":aN))=ax)
 (t:bM (e::b) a=(ax,bN e a)::bM b a)(c:(dY k (bM b a)).any (·.1)=ax):
 EV A a j (.Call (.Name x C) (e::b) [] k) F G Q:=λs S R=>by refine tm (aM (tj m O hk o (Q:=λv w=>v=.raw u/\w=G) ⟨aa,aa⟩ r s S R) ?_) aa;refine ce λf D z E y B n i l=>aw l ?_;rintro rfl rfl;obtain rfl:f=u:=i;exact aM (yz m g (first:=[]) (by simpa using h) B (R.ext S n) .nil t c) λY Y p=>PV.up n p
theorem Lp{K:cg}(d:cn K Bh)(O:cS a)(hk:a.kindOf x=ac .globalImplicit)(e:eW K eM x=ac (ac u))(b:em K u=ao)
 (h:cF A u [] G Q)(g:(x==("__debug__":aN))=ax):
 EV A a j (.Call (.Name x q) [] [] k) F G Q:=λs S R=>by refine tm (aM (tj d O hk e (Q:=λv l=>v=.raw u/\l=G) ⟨aa,aa⟩ g s S R) ?_) aa;refine ce λf r m t y n o i c=>aw c ?_;rintro rfl rfl;obtain rfl:f=u:=i;exact aM (CX d b (first:=[]) h n .nil) λY Y p=>PV.up o p
theorem CY{K:cg}(n:cn K Bh)(O:cS a)(hk:a.kindOf x=ac .globalImplicit)(q:eW K eM x=ac ak)(r:rb x=ac u)(g:em K u=ao)
 (h:let t:ae V->AH->Prop:=λvs d=>cF A u vs d Q;gp A a j (e::b) F G t)(k:x≠"__name__")(w:(x==("__debug__":aN))=ax)
 (z:bM (e::b) a=(ax,bN e a)::bM b a)(c:(dY l (bM b a)).any (·.1)=ax):
 EV A a j (.Call (.Name x E) (e::b) [] l) F G Q:=λs S R=>by refine tm (aM (yu n O hk q r (Q:=λv B=>v=.raw u/\B=G) ⟨aa,aa⟩ k w s S R) ?_) aa;refine ce λf H C I y D o i m=>aw m ?_;rintro rfl rfl;obtain rfl:f=u:=i;exact aM (yz n g (first:=[]) (by simpa using h) D (R.ext S o) .nil z c) λY Y p=>PV.up o p
theorem tn{K:cg}(B:cn K Bh)
 (h:let C:V->AH->Prop:=λq j=>nf K A q c j λf first l=>gp A b m (e::a) F l λvs n=>cF A f (first++vs) n Q;EV A b m o F G C)
 (hm:bN (.Call (.Attribute o c g) (e::a) [] d) b=(do
  let q<-bN o b
  eE g.atName
  let(f,first)<-gq [q] (ma q c w)
  lp d f first (dY d (bM (e::a) b)) []))
 (he:bM (e::a) b=(ax,bN e b)::bM a b)(hplain:(dY d (bM a b)).any (·.1)=ax):
 EV A b m (.Call (.Attribute o c g) (e::a) [] d) F G Q:=λs S R=>by refine CZ (pl:=w) (aM (h s S R) ?_) hm;refine ce ?_;rintro u J D L x E y i k;refine aM (k _ _ _ w E i) ?_;rintro⟨f,M⟩ N r;refine vg r ?_;rintro T H U vs rfl I z t v k;exact aM (yz B t k I (R.ext S (y.trans z)) v he hplain) λY Y p=>PV.up (y.trans z) p
theorem C1{K:cg}(t:cn K Bh)
 (h:let v:V->AH->Prop:=λj e=>nf K A j a e λf first g=>cF A f first g Q;EV A b l o F G v)
 (w:bN (.Call (.Attribute o a c) [] [] d) b=(do
  let j<-bN o b
  eE c.atName
  let(f,first)<-gq [j] (ma j a r)
  lp d f first (dY d (bM [] b)) [])):
 EV A b l (.Call (.Attribute o a c) [] [] d) F G Q:=λs S R=>by refine CZ (pl:=r) (aM (h s S R) ?_) w;refine ce ?_;rintro u H y I x z B i k;refine aM (k _ _ _ r z i) ?_;rintro⟨f,J⟩ L m;refine vg m ?_;rintro M C N vs rfl D E n q k;exact aM (CX t n k D q) λY Y p=>PV.up (B.trans E) p
theorem yA(h:let g:V->AH->Prop:=λo d=>ti A o b d Q;EV A c f a F G g)
 (he:bN (.Attribute a b e) c=(do
  let o<-bN a c
  eE e.atName
  let r<-gq [o] (yt o b ao)
  C5 a o r
  bg r)):EV A c f (.Attribute a b e) F G Q:=λs S R=>by
 refine Attribute_any_ (aM (h s S R) ?_) he
 refine ce ?_
 rintro u n j q x l m i k
 exact aM (k _ _ _ l i) λY Y p=>PV.up m p
theorem yB
 (h:let q:V->AH->Prop:=λa e=>EV A f g c F e λb l=>jr A d c a b l Q;EV A f g d F G q):
 EV A f g (.Subscript d c r) F G Q:=λs S R=>by
 refine C6 (aM (h s S R) ?_);refine ce ?_;rintro u B t C x m n i k;refine aM (k _ m (R.ext S n))<|ce ?_
 rintro v D w E y z o j k;exact aM (k _ _ _ _ z (Is.ext m o.any i) j) λY Y p=>PV.up (n.trans o) p
theorem Lq
 (h:let l:bP->AH->Prop:=λc b=>(c=ao->EV A d e f F b Q)/\(c=ax->EV A d e a F b Q);TV A d e g F G l):
 EV A d e (.IfExp g f a m) F G Q:=λs S R=>by
 refine IfExp_ (aM (h s S R) ?_);refine og ?_;rintro c o n q j i k;cases c with
 |true=>exact aM (k.1 aa _ j (R.ext S i)) λY Y p=>PV.up i p
 |false=>exact aM (k.2 aa _ j (R.ext S i)) λY Y p=>PV.up i p
theorem Lr(h:let f:bP->AH->Prop:=λc a=>Q (!c) a;TV A b d x F G f):TV A b d (.UnaryOp .Not x g) F G Q:=λs S R=>by refine isTrue_not (aM (h s S R) ?_);refine og ?_;rintro c i e j l m k;exact(.mk i e j aa l m k)
theorem C7
 (h:let l:bP->AH->Prop:=λc a=>(c=ao->TV A b d (.BoolOp .And e f) F a Q)/\(c=ax->Q ax a);TV A b d x F G l):TV A b d (.BoolOp .And (x::e) f) F G Q:=λs S R=>by
 refine isTrue_and (aM (h s S R) ?_);refine og ?_;rintro c m g n j i k;cases c with
 |true=>exact aM (k.1 aa _ j (R.ext S i)) λY Y p=>PB.up i p
 |false=>exact(.mk m g n aa j i (k.2 aa))
theorem C8
 (h:let l:bP->AH->Prop:=λc a=>(c=ao->Q ao a)/\(c=ax->TV A b d (.BoolOp .Or e f) F a Q);TV A b d x F G l):TV A b d (.BoolOp .Or (x::e) f) F G Q:=λs S R=>by
 refine isTrue_or (aM (h s S R) ?_);refine og ?_;rintro c m g n j i k;cases c with
 |true=>exact(.mk m g n aa j i (k.1 aa))
 |false=>exact aM (k.2 aa _ j (R.ext S i)) λY Y p=>PB.up i p
theorem Lu(h:let d:V->AH->Prop:=λv b=>rf A v b Q;EV A a c e F G d)
 (f:isTrue e a (bN e a)=(do let v<-bN e a;eE e.pos;gq [v] (truthy v))):TV A a c e F G Q:=λs S R=>by refine isTrue_plain (aM (h s S R) ?_) f;refine ce ?_;rintro u m g n x j l i k;exact aM (k _ _ _ j i) λY Y p=>PB.up l p
theorem Lv
 (h:let Q1:V->AH->Prop:=λa q=>EV A g o J F q λb r=>fq A w a b r λc B=>rf A c B λt f=>(t=ao->EV A g o L F f λd C=>fq A D b d C λe E=>rf A e E Q)/\(t=ax->Q ax f);EV A g o l F G Q1)
 (hm:lastMarks [w,D] [J,L]=ax):TV A g o (.Compare l [w,D] [J,L] h7) F G Q:=λs S R=>by
 refine isTrue_chain (aM (h s S R) ?_) hm;refine ce ?_;rintro u h1 h8 G1 x M N i k;refine test_link (aM (k _ M (R.ext S N)) ?_);refine ce ?_;rintro v h2 h9 G2 y T U j k;refine aM (k _ _ _ _ T (Is.ext M U.any i) j)<|ce ?_
 rintro c h3 x7 G3 z W x3 l k;refine aM (k _ _ _ W l)<|og ?_
 rintro t h4 H G4 I x4 k;have X:=N.trans (U.trans (x3.trans x4));cases t with
 |false=>exact(.mk h4 H G4 aa I X (k.2 aa))
 |true=>
  refine test_last (aM (k.1 aa _ I (R.ext S X)) ?_);refine ce ?_;rintro e h5 x8 G5 z5 S5 x5 m k;refine aM (k _ _ _ _ S5 (Is.ext I x5.any (Is.ext W x4.any (Is.ext T x3.any j))) m)<|ce ?_
  rintro e' h6 x9 G6 z6 S6 x6 n k;exact aM (k _ _ _ S6 n) λY Y p=>PB.up (X.trans (x5.trans x6)) p
theorem Lw(S:St b G s.heap)(i:bb G s.heap a d)(q:Q (.d (.tuple d)) G)(c:a.length<=js):
 be (aY pg wd) A (yC a) (PV b s G Q) F0 s:=by refine aw (S.push {cls:=.type "tuple",data:=.seq a.toArray}) λf e=>kA ?_ (by show a.toArray.size<=js;rw[tq];exact c);exact(.mk _ s.toks G (.d (.tuple d)) aa f e (Rd.tup (fc _ aa) (bb.ext S e.any i)) q)
theorem Lx(S:St b G s.heap)(i:bb G s.heap a d)(q:Q (.d (.list d)) G)(c:a.length<=js):
 be (aY pg wd) A (C9 a) (PV b s G Q) F0 s:=by refine aw (S.push {cls:=.type "list",data:=.seq a.toArray}) λf e=>kA ?_ (by show a.toArray.size<=js;rw[tq];exact c);exact(.mk _ s.toks G (.d (.list d)) aa f e (Rd.lst (fc _ aa) (S.fresh (fE _)) (bb.ext S e.any i)) q)
theorem Ly(S:St c G s.heap)(i:bb G s.heap b f)(q:∀a,G a=ak->Q (.ref a) (aE G a (.list f)))(d:b.length<=js):
 be (aY pg wd) A (C9 b) (PV c s G Q) F0 s:=by refine aw (S.pushT {cls:=.type "list",data:=.seq b.toArray} (.list f) aa λe x=>⟨_,_,e,bb.ext S x.any i⟩) λg h=>kA ?_ (by show b.toArray.size<=js;rw[tq];exact d);exact(.mk _ s.toks _ (.ref s.heap.objs.size) aa g h (Is.raw _) (q _ (S.fresh (fE _))))
inductive oi:ae V->ae aA->Prop
 |nil:oi [] []
 |cons {x:aA} {vs ds}:oi vs ds->oi (.d x::vs) (x::ds)
theorem oi.rd:∀{b}{vs}{c},oi vs c->c7 G h b vs->bb G h b c:=by
 intro b vs c a;induction a generalizing b with
 |nil=>exact λi=>i.on0 .nil
 |cons _ d=>exact λi=>i.onC λY Y a q=>.cons a (d q)
theorem Lz(h:let l:ae V->AH->Prop:=λvs b=>∃d,oi vs d/\d.length<=1000/\Q (.d (.tuple d)) b;gp A e f c F G l):
 EV A e f (.Tuple c k g) F G Q:=λs S R=>by refine Tuple_ (aM (h s g S R) ?_);refine ng λu v m w x n o i j=>aL j λd a t q=>?_;have r:=a.rd i;exact aM (Lw n r q (by have:=r.length;rw[eF];exact aj [_,_] 0x10f080e0e0e0e0e1e112c0110c88ee3e0 aa this t)) λY Y p=>PV.up o p
theorem yD(h:let k:ae V->AH->Prop:=λvs b=>∃d,oi vs d/\d.length<=1000/\Q (.d (.list d)) b;gp A e f c F G k):
 EV A e f (.List c g) F G Q:=λs S R=>by refine List_ (aM (h s g S R) ?_);refine ng λt u l v x m n i j=>aL j λd a o q=>?_;have r:=a.rd i;exact aM (Lx m r q (by have:=r.length;rw[eF];exact aj [_,_] 0x10f080e0e0e0e0e1e112c0110c88ee3e0 aa this o)) λY Y p=>PV.up n p
theorem Db(h:let k:ae V->AH->Prop:=λvs b=>∃d,oi vs d/\d.length<=1000/\∀a,b a=ak->Q (.ref a) (aE b a (.list d));gp A e f c F G k):
 EV A e f (.List c g) F G Q:=λs S R=>by refine List_ (aM (h s g S R) ?_);refine ng λt u l v x m n i j=>aL j λd a o q=>?_;have r:=a.rd i;exact aM (Ly m r q (by have:=r.length;rw[eF];exact aj [_,_] 0x10f080e0e0e0e0e1e112c0110c88ee3e0 aa this o)) λY Y p=>PV.up n p
section
variable{A:cq}{own:ae aZ}{env:dK}{F:jN}{G G':AH}{s:cI}{h h':cH}{tk':ah}{K:cg}
theorem LA(q:Q (.int (a-b)) G):re A .Sub (.int a) (.int b) G Q:=λown s u v S i j=>by exact cB i λY=>cB j λY=>abb (PV.here S (Is.int _ _) q)
theorem LB(q:Q (.bool (decide (a<=b))) G):fq A .LtE (.int a) (.int b) G Q:=λown s u v S i j=>by exact cB i λY=>cB j λY=>abc (PV.here (tk:=s.toks) S (Is.bool _) q)
theorem LC(q:Q (.bool (decide (b<a))) G):fq A .Gt (.int a) (.int b) G Q:=λown s u v S i j=>by exact cB i λY=>cB j λY=>abd (PV.here (tk:=s.toks) S (Is.bool _) q)
theorem LD(q:Q (.bool (decide (b<=a))) G):fq A .GtE (.int a) (.int b) G Q:=λown s u v S i j=>by exact cB i λY=>cB j λY=>abe (PV.here (tk:=s.toks) S (Is.bool _) q)
theorem yE(h:let d:V->AH->Prop:=λv a=>∃i,v=.int i/\Q (.int (-i)) a;EV A env own x F G d):EV A env own (.UnaryOp .USub x e) F G Q:=λs S R=>by refine UnaryOp_ (aM (h s S R) ?_);refine ce λu f b k x g j i c=>au c ?_;rintro n rfl q;exact cB i λY=>abf (PV.up (tk':=b) j (PV.here (s:=sW s f b) g (Is.int _ _) q))
theorem Rd.toReads(r:Rd G h v d):∃c,sY h v d c:=
 r.ind (P:=λv d=>∃c,sY h v d c) ⟨_,.none⟩ (λb=>⟨_,.bool b⟩) (λi t=>⟨_,.int i t⟩) (λx t=>⟨_,.str x t⟩)
  (λe Y f=>let⟨_,q⟩:=f (Q:=λvs g=>∃c,vu h vs g c) ⟨_,.nil⟩ λ⟨_,a⟩ ⟨_,b⟩=>⟨_,.cons a b⟩;⟨_,.tuple e aa rfl q⟩)
  (λe Y Y f=>let⟨_,q⟩:=f (Q:=λvs g=>∃c,vu h vs g c) ⟨_,.nil⟩ λ⟨_,a⟩ ⟨_,b⟩=>⟨_,.cons a b⟩;⟨_,.list e aa rfl q⟩)
theorem bb.reads:∀{v}{d},bb G h v d->hV d=ao->∃b,vu h v d b:=by exact λ{v d}r=>r.ind (P:=λv d=>hV d=ao->∃b,vu h v d b) (λY=>⟨_,.nil⟩) λa Y c p=>by simp-zeta-zetaHave only[hV.q2,fD] at p;refine aK a.toReads λb q=>aK (c p.2) λf e=>ew _ (.cons q e)
theorem Rd.inj(a:Rd G h v d)(b:Rd G h v e):d=e:=by refine aK a.toReads λY r=>aK b.toReads λY c=>(r.unique _ _ c).1
theorem Rd.reads(r:Rd G h v d)(_:gU d=ao):∃a,sY h v d a:=r.toReads
mutual
theorem vD:∀d,gU d=ao->d.canLay0=ao
 |.none,_=>rfl
 |.bool _,h=>by rfl
 |.int _,_=>rfl
 |.str x,h=>h
 |.tuple xs,h=>by simp-zeta-zetaHave only[CG];exact tr xs (by simpa[gU.q1,gU.q2,gU.q3,iM,jk,jl,jm] using h)
 |.list xs,h=>by simp-zeta-zetaHave only[CG];exact tr xs (by simpa[gU.q1,gU.q2,gU.q3,iM,jk,jl,jm] using h)
 |.dict _,h=>by assumption
theorem tr:∀d,hV d=ao->yg d=ao
 |[],_=>rfl
 |x::xs,h=>by simp-zeta-zetaHave only[hV.q2,fD] at h;simp-zeta-zetaHave only[yg,vD x h.1,tr xs h.2,LF]
end
def bE n d:=
 gU d=ao/\
 d.depth<=n
def bE.plain(a:bE n d):=a.1
def bE.depth(a:bE n d):=a.2
theorem vE:∀{xs},(∀x∈xs,x.depth<=n)->sZ xs<=n:=by
 intro b;induction b with
 |nil=>exact@λY=>eX _
 |cons x xs a=>exact@λh=>by simp-zeta-zetaHave only[sZ];exact K0.2 ⟨aj [_,_] 72762854416 aa (h x aP),aj [_,_] 72762854416 aa (a λy c=>h y (ba _ c))⟩
theorem vF(h:∀x∈a,gU x=ao):hV a=ao:=by
 induction a with
 |nil=>rfl
 |cons x a b=>simp-zeta-zetaHave only[hV.q2,h x aP,b λy c=>h y (ba _ c),LF]
theorem bE.int(i):bE n (.int i):=⟨aa,eX _⟩
theorem bE.none:bE n .none:=⟨aa,eX _⟩
theorem bE.str(h:gT x=ao):bE n (.str x):=⟨h,eX _⟩
theorem bE.tup(h:∀x∈a,bE n x):bE (n+1) (.tuple a):=⟨by simp-zeta-zetaHave only[iM];exact vF λx m=>(h x m).plain,by simp-zeta-zetaHave only[yf];have:=vE λx m=>(h x m).depth;exact aj [_,_] 0x10f9181918010c10 aa this⟩
theorem bE.lst(h:∀x∈a,bE n x):bE (n+1) (.list a):=⟨by simp-zeta-zetaHave only[jk];exact vF λx m=>(h x m).plain,by simp-zeta-zetaHave only[yf];have:=vE λx m=>(h x m).depth;exact aj [_,_] 0x10f9181918010c10 aa this⟩
theorem bE.le(h:bE n d)(q:n<=m):bE m d:=⟨h.plain,bn h.depth q⟩
theorem bE.shaped(h:bE 60 d):LG d=ao:=by unfold LG;rw[vD d h.plain,LH];exact hW (aj [_] 0x10f084e010cc83e0 aa h.depth)
open Classical in
theorem rg(d:bE 60 a)(e:bE 60 b):lZ a b=decide (a=b):=by
 have:=yh a b d.plain e.plain;by_cases c:a=b
 ·rw[hW c];exact this.mpr c
 ·rw[s8 c];exact CN.mpr λq=>c (this.mp q)
open Classical in
theorem Dc(e:cA A n)(c:bE 60 a)(d:bE 60 b)(q:Q (.bool (decide (a=b))) G):fq A .Eq (.d a) (.d b) G Q:=λown s u v S i j=>by refine aK (Rd.reads i c.plain) λk f=>aK (Rd.reads j d.plain) λl g=>eq_dataH f g c.shaped d.shaped (by have:=e.u;exact aj [_,_] 0x11f19084e011c1988ce0 aa this) (PV.here (tk:=s.toks) S (Is.bool _) (by rw[rg c d];exact q))
open Classical in
theorem Dd(e:cA A n)(c:bE 60 a)(d:bE 60 b)(q:Q (.bool (!decide (a=b))) G):fq A .NotEq (.d a) (.d b) G Q:=λown s u v S i j=>by refine aK (Rd.reads i c.plain) λk f=>aK (Rd.reads j d.plain) λl g=>ne_dataH f g c.shaped d.shaped (by have:=e.u;exact aj [_,_] 0x11f19084e011c1988ce0 aa this) (PV.here (tk:=s.toks) S (Is.bool _) (by rw[rg c d];exact q))
theorem St.list_reads(S:St own G h)(e:G a=ac (.list b))(p:hV b=ao):∃c,sY h (.ref a) (.list b) c:=by refine cQ (S.objs a _ e) λvs n q r=>aK (r.reads p) λc r=>ew _ (.list q aa rfl r)
open Classical in
theorem LI(g:cA A n)(e:G a=ac (.list f))(c:bE 60 (.list f))(d:bE 60 b)(q:Q (.bool (!decide (.list f=b))) G):
 fq A .NotEq (.ref a) (.d b) G Q:=λown s u v S i j=>by obtain rfl:u=.ref a:=i;refine aK (S.list_reads e (by simpa[gU.q1,gU.q2,gU.q3,iM,jk,jl,jm] using c.plain)) λm k=>aK (Rd.reads j d.plain) λo l=>ne_dataH k l c.shaped d.shaped (by have:=g.u;exact aj [_,_] 0x11f19084e011c1988ce0 aa this) (PV.here (tk:=s.toks) S (Is.bool _) (by rw[rg c d];exact q))
open Classical in
theorem LJ(g:cA A n)(e:G a=ac (.list f))(c:bE 60 (.list f))(d:bE 60 b)(q:Q (.bool (decide (.list f=b))) G):
 fq A .Eq (.ref a) (.d b) G Q:=λown s u v S i j=>by obtain rfl:u=.ref a:=i;refine aK (S.list_reads e (by simpa[gU.q1,gU.q2,gU.q3,iM,jk,jl,jm] using c.plain)) λm k=>aK (Rd.reads j d.plain) λo l=>eq_dataH k l c.shaped d.shaped (by have:=g.u;exact aj [_,_] 0x11f19084e011c1988ce0 aa this) (PV.here (tk:=s.toks) S (Is.bool _) (by rw[rg c d];exact q))
open Classical in
theorem De{a:ae aA}(b:∀x∈a,bE 60 x)(c:bE 60 d):(a.any λy=>lZ y d)=decide (d∈a):=by
 induction a with
 |nil=>rfl
 |cons x a f=>
  rw[List.any_cons,rg (b x aP) c,f λy g=>b y (ba _ g)];by_cases e:x=d
  ·subst e;simp
  ·have i:¬d=x:=λq=>e q.symm;simp[e,i]
open Classical in
theorem LK(g:cA A n)(b:∀x∈a,bE 60 x)(c:bE 60 d)(q:Q (.bool (decide (d∈a))) G):fq A .In (.d d) (.d (.tuple a)) G Q:=λown s u v S i j=>by refine aK (Rd.reads i c.plain) λm k=>?_;have f:=vF λx e=>(b x e).plain;refine aK (Rd.reads j (f)) λo l=>in_tuple_reads l k (tr _ f) (vD _ c.plain) ?_ (PV.here (tk:=s.toks) S (Is.bool _) (by rw[De b c];exact q));have:=g.u;exact aj [_,_,_,_] 0x11f391918211c3988ce210c0110cc83e0 aa this (yp (sZ a) (d.depth)) (vE (n:=60) (xs:=a) λx e=>(b x e).depth)
open Classical in
theorem LL(g:cA A n)(b:∀x∈a,bE 60 x)(c:bE 60 d)(q:Q (.bool (!decide (d∈a))) G):fq A .NotIn (.d d) (.d (.tuple a)) G Q:=λown s u v S i j=>by refine aK (Rd.reads i c.plain) λm k=>?_;have f:=vF λx e=>(b x e).plain;refine aK (Rd.reads j (f)) λo l=>notIn_tuple_reads l k (tr _ f) (vD _ c.plain) ?_ (PV.here (tk:=s.toks) S (Is.bool _) (by rw[De b c];exact q));have:=g.u;exact aj [_,_,_,_] 0x11f391918211c3988ce210c0110cc83e0 aa this (yp (sZ a) (d.depth)) (vE (n:=60) (xs:=a) λx e=>(b x e).depth)
theorem yF(b:0<=k)(h:k.toNat<n):seqIndex? k n=ac k.toNat:=by have a:¬k<0:=ay [_] 23023173287944 aa b;simp only[seqIndex?,a,pJ,(by simp;exact aF (ay [_] 18623113773184 aa a) (ay [_,_,_] 80803202974424080 aa (dh (ay [k] 18623113773184 aa a)) (eL.2 h)):(decide (0<=k)&&decide (k<(n:af)))=ao),vG]
theorem LM(f:0<=k)(hk:k<2^63)(l:m[k.toNat]?=ac x)(q:Q (.d x) G)
 (n:∀a u,jt b ax (.ref a) (.int k u)=ju [.ref a,.int k u] (hY (.ref a) (.int k u))):
 jr A c b (.d (.list m)) (.int k) G Q:=λown s u v S i j=>by
 refine cB j λY=>jh i λY vs Y e g r=>au (r.get l) λy o p=>?_;have d:s.heap.IsList _ _:=⟨_,e,aa,_,aa⟩
 exact oj d.typeIs yG.lookup (yH d f hk (by simpa using o) (PV.here (x:=.d x) (tk:=s.toks) S p q)) (n _ _)
theorem LN(f:0<=k)(hk:k<2^63)(l:m[k.toNat]?=ac x)(q:Q (.d x) G)
 (n:∀a u,jt b ax (.ref a) (.int k u)=ju [.ref a,.int k u] (hY (.ref a) (.int k u))):
 jr A d b (.d (.tuple m)) (.int k) G Q:=λown s u v S i j=>by refine cB j λY=>oa i λY vs Y e r=>au (r.get l) λy g o=>oj ⟨_,e,aa⟩ LO.lookup (LP e (ay [_] 0x10f0a080e0e0e0e0e0e0e0e0e0e0e0e0e0e8e0810c008 aa f) hk (k:=k.toNat) ?_ (by simpa using g) (PV.here (x:=.d x) (tk:=s.toks) S o q)) (n _ _);refine aK (dF.mp g) λc Y=>?_;simp-zeta-zetaHave only[d9] at c;exact yF f c
theorem Df(f:G a=ac (.list g))(l:0<=k)(hk:k<2^63)(m:g[k.toNat]?=ac x)(q:Q (.d x) G)
 (o:∀a u,jt b ax (.ref a) (.int k u)=ju [.ref a,.int k u] (hY (.ref a) (.int k u))):
 jr A c b (.ref a) (.int k) G Q:=λown s u v S i j=>by
 refine cB j λY=>?_;obtain rfl:u=.ref a:=i;refine cQ (S.objs a _ f) λvs n e r=>au (r.get m) λy p t=>?_;have d:s.heap.IsList _ _:=⟨_,e,aa,_,aa⟩
 exact oj d.typeIs yG.lookup (yH d l hk (by simpa using p) (PV.here (x:=.d x) (tk:=s.toks) S t q)) (o _ _)
theorem LQ(l:G a=ac (.list c))(m:k<0)(o:-(c.length:af)<=k)(hk:-(2^63)<=k)(p:c[(k+c.length).toNat]?=ac x)(q:Q (.d x) G)
 (t:∀a u,jt b ax (.ref a) (.int k u)=ju [.ref a,.int k u] (hY (.ref a) (.int k u))):
 jr A d b (.ref a) (.int k) G Q:=λown s u v S i j=>by
 refine cB j λY=>?_;obtain rfl:u=.ref a:=i;refine cQ (S.objs a _ l) λvs n e r=>au (r.get p) λy w z=>?_;have f:=r.length;rw[d9] at f;have g:s.heap.IsList _ _:=⟨_,e,aa,_,aa⟩
 exact oj g.typeIs yG.lookup (wpAny_getItem_list_neg g m (by rw[f];exact o) hk (by rw[f];simpa using w) (PV.here (x:=.d x) (tk:=s.toks) S z q)) (t _ _)
theorem vH{P:ae Y->ae (X×aA)->Prop}(z:P [] [])(c:∀y d b a,Rd G h (g y) d->P b a->P (y::b) ((f y,d)::a)):
 ∀{b:ae Y}{a:ae (X×aA)},b.map f=a.map (·.1)->bb G h (b.map g) (a.map (·.2))->P b a:=by
 intro b;induction b with
 |nil=>intro a hk W;cases a with
  |nil=>exact z
  |cons x a=>exact(iP _ _ hk.symm).elim
 |cons y b i=>intro a hk r;cases a with
  |nil=>exact(iP _ _ hk).elim
  |cons x a=>have e:=nh hk;have this:=c y x.2 b a r.uncons.1 (i e.2 r.uncons.2);rw[e.1] at this;exact this
theorem Dg[ln X]{l:ae (X×Y)}(q:a=k):((a,b)::l).lookup k=ac b:=by rw[q,ez,vI]
theorem Dh[ln X]{l:ae (X×Y)}(q:¬a=k):((a,b)::l).lookup k=l.lookup k:=by rw[ez,LR (Di q)]
theorem yI(q:p y=ao):((y::a).find? p).map f=ac (f y):=bA (LS f) (List.find?_cons_of_pos q)
theorem yJ(q:¬p y=ao):((y::a).find? p).map f=(a.find? p).map f:=bA (LS f) (List.find?_cons_of_neg q)
theorem Dj[ln X]{k:X}(q:y.1=k):rh (y::b) k=ac y.2:=yI (p:=λa:X×aV=>decide (a.1=k)) (hW q)
theorem Dk[ln X]{k:X}(q:¬y.1=k):rh (y::a) k=rh a k:=yJ (p:=λb:X×aV=>decide (b.1=k)) λz=>q (aW z)
theorem Dl[ln X]{a:ae (X×aA)}{k:X}(hk:b.map (·.1)=a.map (·.1))(r:bb G h (b.map (·.2)) (a.map (·.2)))(e:a.lookup k=ac x):∃u,rh b k=ac u/\Rd G h u x:=
 vH (P:=λb a=>a.lookup k=ac x->∃u,rh b k=ac u/\Rd G h u x) (λe=>nomatch e) (λy d b a c f e=>by
  by_cases q:y.1=k
  ·exact bi y.2 (Dj q) (jP ((Dg q).symm.trans e)▸c)
  ·exact(f ((Dh q).symm.trans e)).imp λu z=>⟨(Dk q).trans z.1,z.2⟩) hk r e
theorem vJ[ln X]{a:ae (X×aA)}{k:X}(hk:c.map (·.1)=a.map (·.1))(r:bb G h (c.map (·.2)) (a.map (·.2))):(rh c k).isSome=(a.lookup k).isSome:=
 vH (P:=λc a=>(rh c k).isSome=(a.lookup k).isSome) aa (λy d c a Y e=>by
  by_cases q:y.1=k
  ·exact(bA yK (Dj q)).trans (bA yK (Dg (b:=d) q)).symm
  ·exact(bA yK (Dk q)).trans (e.trans (bA yK (Dh q)).symm)) hk r
theorem Dm(c:G a=ac (.stab d))(q:Q (.bool (d.lookup k).isSome) G):fq A .In (.str k) (.ref a) G Q:=λown s u v S i j=>by refine lX i λY=>?_;obtain rfl:v=.ref a:=j;refine aw (S.objs a _ c) λlo b=>aL b λf e hk r=>LU (vK pg wd k _) lo e.mapOf (PV.here S (Is.bool _) (by rw[vJ hk r];exact q))
end
section
open PySem PySem.W PyProof.Rows PySem.Calls PySem.SeqAt PySem.MeetsSeq
section
variable{A:cq}{own:ae aZ}{env:dK}{F:jN}{G G':AH}{s:cI}{h h':cH}{tk':ah}{K:cg}
def er(a:ae (aA×aA))k:=(a.find? λp=>@decide (p.1=k) (gC _ _)).map (·.2)
mutual
noncomputable def gr:ah->aA->bP
 |_,.int _=>ao
 |_,.str x=>gT x
 |n+1,.tuple xs=>ol n xs
 |0,.tuple _=>ax
 |_,.none=>ax
 |_,.bool _=>ax
 |_,.list _=>ax
 |_,.dict _=>ax
noncomputable def ol:ah->ae aA->bP
 |_,[]=>ao
 |n,x::xs=>gr n x&&ol n xs
end
theorem gr.q1:gr (a) (.int b)=(ao):=aa
theorem gr.q2:gr (a) (.str x)=(gT x):=aa
theorem gr.q3:gr (n+1) (.tuple a)=(ol n a):=aa
theorem yL:gr (0) (.tuple a)=(ax):=aa
theorem yM:gr (a) (.none)=(ax):=aa
theorem yN:gr (a) (.bool b)=(ax):=aa
theorem yO:gr (a) (.list b)=(ax):=aa
theorem Dn:gr (a) (.dict b)=(ax):=aa
theorem ol.q1:ol (a) ([])=(ao):=aa
theorem ol.q2:ol (n) (x::a)=(gr n x&&ol n a):=aa
theorem yP(r:Rd G h v d):∀{n:ah},gr n d=ao->KR h n v d:=
 r.ind (P:=λv d=>∀{n},gr n d=ao->KR h n v d) (λ{n}e=>by cases n<;>simp[yM] at e) (λb=>λ{n}e=>by cases n<;>simp[yN] at e) (λi t=>λ{n}_=>.int n i t) (λx t=>λ{n}e=>.str n x t (by cases n<;>simpa[gr.q1,gr.q2,gr.q3,yL,yM,yN,yO,Dn] using e))
  (λe Y f=>λ{n}q=>by
   cases n with
   |zero=>simp[yL] at q
   |succ n=>exact .tup e (f (Q:=λvs c=>ol n c=ao->jj h n vs c) (λY=>.nil _) (λa b q=>by simp-zeta-zetaHave only[ol.q2,fD] at q;exact .cons (a q.1) (b q.2)) (by simpa[gr.q1,gr.q2,gr.q3,yL,yM,yN,yO,Dn] using q)))
  (λY Y Y Y=>λ{n}q=>by cases n<;>simp[yO] at q)
theorem yQ(r:Rd G h v (.tuple b)):∃a,v=.ref a:=by cases r;exact ew _ aa
theorem yR(hk:b.map (·.1)=c.map (·.1))(r:bb G h (b.map (·.2.2)) (c.map (·.2))):
 (er c k=ak/\@tt aA gC b k=ak)\/∃x a u,er c k=ac x/\@tt aA gC b k=ac (a,u)/\Rd G h u x:=
 vH (f:=(·.1)) (g:=(·.2.2)) (P:=λb c=>(er c k=ak/\@tt aA gC b k=ak)\/∃x a u,er c k=ac x/\@tt aA gC b k=ac (a,u)/\Rd G h u x) (.inl ⟨aa,aa⟩) (λy d b c e i=>by
  letI:=gC;by_cases q:y.1=k
  ·exact .inr ⟨d,y.2.1,y.2.2,yI (p:=λp:aA×aA=>decide (p.1=k)) (hW q),yI (p:=λp:aA×aZ×aV=>decide (p.1=k)) (hW q),e⟩
  ·have j:er ((y.1,d)::c) k=er c k:=yJ (p:=λp:aA×aA=>decide (p.1=k)) λz=>q (aW z);have l:@tt aA gC (y::b) k=@tt aA gC b k:=yJ (p:=λp:aA×aZ×aV=>decide (p.1=k)) λz=>q (aW z);rw[j,l];exact i) hk r
theorem LW(g:cA A n)(l:G a=ac (.tab m))(hk:gr 4 (.tuple k)=ao)(q:Q (.bool (!(er m (.tuple k)).isSome)) G):
 fq A .NotIn (.d (.tuple k)) (.ref a) G Q:=λown s u v S i j=>by
 obtain rfl:v=.ref a:=j;refine aK (yQ i) ?_;rintro b rfl;refine aw (S.objs a _ l) λlo c=>aL c λp o d r=>?_;letI:=gC;refine wpAny_notIn_heap (knd:=qZ pg wd) (by have:=g.u;exact aj [_,_] 0x11f19481e918011c1988ce0 aa this) (yP i hk) lo o (PV.here S (Is.bool _) ?_);refine aB (yR (k:=.tuple k) d r) ?_ ?_;rotate_left;intro c;refine dz c λx t w e f Y=>?_;rotate_right;intro c;refine aw c λe f=>?_
 ·rw[f];rw[e] at q;exact q
 ·rw[f];rw[e] at q;exact q
theorem LX(o:cA A n)(p:G a=ac (.tab t))(hk:gr 4 (.tuple k)=ao)(l:er t (.tuple k)=ac x)(q:Q (.d x) G)
 (w:∀a b,jt d ax (.ref a) (.ref b)=ju [.ref a,.ref b] (hY (.ref a) (.ref b))):
 jr A f d (.ref a) (.d (.tuple k)) G Q:=λown s u v S i j=>by
 obtain rfl:u=.ref a:=i;refine aK (yQ j) ?_;rintro b rfl;refine aw (S.objs a _ p) λlo c=>aL c λB m g r=>aB (yR (k:=.tuple k) g r) ?_ ?_;rotate_left;intro c;refine dz c λC D E e y z=>?_;rotate_right;intro c;refine aw c λe Y=>?_
 ·rw[l] at e;cases e
 ·rw[l] at e;cases e;letI:=gC;exact oj (@abg pg wd aA gC (qZ pg wd) _ _ _ m) LY.lookup
   (wpAny_getItem_heap (knd:=qZ pg wd) (by have:=o.u;exact aj [_,_] 0x11f19481e918011c1988ce0 aa this) (yP j hk) m y (PV.here (x:=.d x) S z q)) (w _ _)
theorem Do(z:jg aV)(k):(z.eraseIdxIfInBounds k).toList=z.toList.eraseIdx k:=by
 unfold Array.eraseIdxIfInBounds;split
 ·rw[Array.toList_eraseIdx]
 ·rename_i a;rw[List.eraseIdx_of_length_le (Nat.le_of_not_lt a)]
def jQ A a b v G(Q:AH->Prop):=
 ∀own s c d e,St own G s.heap->Is G s.heap c a->Is G s.heap d b->Is G s.heap e v->be (aY pg wd) A (pN c d e)
  (λY f=>∃h' tk' G',f=(sW s h' tk')/\St own G' h'/\bh [] G s.heap G' h'/\Q G') F0 s
theorem St.listChange(S:St own G s.heap)(c:G a=ac (.list i))
 (e:s.heap.get? a=ac ⟨.type "list",ak,.seq vs n,#[]⟩)(r:∀{G' h'},bb G' h' vs.toList i->(∀{u d},Rd G s.heap u d->Rd G' h' u d)->bb G' h' (f vs).toList ys):
 St own (aE G a (.list ys)) (s.heap.update a (pO f))/\bh [] G s.heap (aE G a (.list ys)) (s.heap.update a (pO f)):=by refine cQ (S.objs a _ c) λj m g k=>?_;rw[e] at g;cases g;exact S.change c (λb l=>Heap.get?_update_other _ _ (Di l)) λX=>⟨f vs,_,tu _ e aa,r (bb.ext S X.any k) λq=>Rd.ext S X.any q⟩
theorem tv(c:G a=ac (.list b))(j:b.length<=1000000)(q:Q .none (aE G a (.list (b++[x])))):
 cF A (.builtin "list.append") [.ref a,.d x] G Q:=λown s v S i=>by refine m7 i λl d m o=>?_;obtain rfl:l=.ref a:=m;refine cQ (S.objs a _ c) λvs n e r=>?_;have g:=r.length;rw[d9] at g;refine pP tw ⟨_,e,aa⟩ PySem.F.entry_list_append (PySem.F.args_list_append_2 _ _) (list_append a vs n d (by rw[eF];exact aj [_,_] 0x10f080e0e0e0e0e1e112c0110c084e2e4efe0 aa g j)) ⟨e,?_⟩;refine aw (S.listChange (f:=λz=>z.push d) (ys:=b++[x]) c e λp k=>by rw[Array.toList_push];exact p.append (.one (k o))) λt u=>(.mk _ _ _ .none aa t u Rd.none q)
theorem LZ(g:G a=ac (.list (b++[x])))(l:b.length<=1000000)(q:Q (.d x) (aE G a (.list b))):
 cF A (.builtin "list.pop") [.ref a] G Q:=λown s w S i=>by refine ji i λm o=>?_;obtain rfl:m=.ref a:=o;refine cQ (S.objs a _ g) λvs n e r=>?_;have c:=r.length;rw[d9,b7,ea] at c;refine au (r.get (k:=b.length) (d:=x) (by simp)) λy p t=>pP yS ⟨_,e,aa⟩ L5 (PySem.F.args_list_pop_1 _) (list_pop_last a vs n y (by rw[c,L6];simpa using p) (by rw[eF];exact aj [_,_] 0x10f080e0e0e0e0e1e112c9180110c084e2e4efe0 aa c l)) ⟨e,?_⟩;refine aw (S.listChange (f:=λz=>z.eraseIdxIfInBounds (vs.size-1)) (ys:=b) g e λu k=>by have:=u.eraseIdx b.length;rw[c,L6,Do];rwa [List.eraseIdx_append_of_length_le (cO _),yT,List.eraseIdx_cons_zero,c8] at this) λv j=>(.mk _ _ _ (.d x) aa v j (Rd.ext S j.any t) q)
theorem L7(j:G a=ac (.list c))(l:c.length<=1000000)(d:0<=k)(m:c[k.toNat]?=ac x)(q:Q (.d x) (aE G a (.list (c.eraseIdx k.toNat)))):
 cF A (.builtin "list.pop") [.ref a,.int k] G Q:=λown s D S i=>by refine m7 i λp E t u=>?_;obtain rfl:p=.ref a:=t;refine cB u λY=>cQ (S.objs a _ j) λvs n e r=>?_;have g:=r.length;rw[d9] at g;refine au (r.get m) λy v w=>?_;have b:=(dF.mp m).1;refine pP yS ⟨_,e,aa⟩ L5 (PySem.F.args_list_pop_2 _ _) (list_pop_at a vs n k _ k.toNat y (by simp[L8];exact aF (ay [_] 0x10f0a080e0e0e0e0e0e0e0e0e0e0e0e0e0e8e0810c008 aa d) (ay [_,_,_] 0x11f080e0e0e0e0e0e0e0e0e0e0e0e0e0e8e215c2111c0110c084e2e4efe0 aa (dh (ay [k] 18623113510920 aa d)) (eL.2 b) (bD.2 l))) (yF d (aj [_,_,_] 80785593593846800 aa b g)) (by simpa using v) (by rw[eF];exact aj [_,_] 0x10f080e0e0e0e0e1e112c0110c084e2e4efe0 aa g l)) ⟨e,?_⟩;refine aw (S.listChange (f:=λz=>z.eraseIdxIfInBounds k.toNat) (ys:=c.eraseIdx k.toNat) j e λB H=>by rw[Do];exact B.eraseIdx k.toNat) λC o=>(.mk _ _ _ (.d x) aa C o (Rd.ext S o.any w) q)
theorem L9(c:G a=ac (.list b))(g:b.length<=1000000)(q:Q .none (aE G a (.list b.reverse))):
 cF A (.builtin "list.reverse") [.ref a] G Q:=λown s t S i=>by refine ji i λj l=>?_;obtain rfl:j=.ref a:=l;refine cQ (S.objs a _ c) λvs n e r=>?_;have d:=r.length;rw[d9] at d;refine pP Ma ⟨_,e,aa⟩ PySem.F.entry_list_reverse (PySem.F.args_list_reverse_1 _) (AutoSeq1.list_reverse_list_0 a vs n (by rw[eF];exact aj [_,_] 0x10f080e0e0e0e0e1e112c0110c084e2e4efe0 aa d g)) ⟨e,?_⟩;refine aw (S.listChange (f:=λz=>z.reverse) (ys:=b.reverse) c e λm k=>by rw[Array.toList_reverse];exact m.reverse) λo p=>(.mk _ _ _ .none aa o p Rd.none q)
theorem Mc(o:G a=ac (.list d))(g:d.length+j.length<=1000000)(q:Q .none (aE G a (.list (d++j)))):
 cF A (.builtin "list.extend") [.ref a,.d (.list j)] G Q:=λown s C S i=>by
 refine m7 i λt D u v=>?_;obtain rfl:t=.ref a:=u;refine jh v λb ws m w E p=>cQ (S.objs a _ o) λvs n e r=>?_;have c:=r.length;have l:=p.length;rw[d9] at c l;refine pP Md ⟨_,e,aa⟩ PySem.F.entry_list_extend (PySem.F.args_list_extend_2 _ _)
  (AutoSeq1.list_extend_list_list_0 a vs n b ws m (by simp[Me,eF];exact λY=>aj [_,_,_,_] 0x10f080e0e0e0e0e1e92312c0312c1210c084e2e4efe910 aa c l g) (by rw[eF];exact aj [_,_,_] 0x10f080e0e0e0e0e1e212c0210c084e2e4efe910 aa c g) (by rw[eF];exact aj [_,_,_,_] 0x10f918080e0e0e0e0e1e92312c0312c1210c084e2e4efe910 aa c l g)) ⟨e,w,?_⟩
 refine aw (S.listChange (f:=λz=>z++ws) (ys:=d++j) o e λx k=>by rw[yU];refine x.append<|(p.map k)) λy B=>?_;exact(.mk _ _ _ .none aa y B Rd.none q)
theorem Mf(b:s.heap.get? l=ac ⟨.type "list",ak,.seq vs n,#[]⟩)
 (c:0<=k)(a:k<2^63)(f:k.toNat<vs.size)(e:Q () {s with heap:=s.heap.update l (pO (·.setIfInBounds k.toNat v))}):
 be (aY pg wd) A (pN (.ref l) (.int k t) v) Q E s:=by
 have d:s.heap.IsList l vs:=⟨_,b,aa,n,aa⟩
 unfold pN;try with_reducible refine gs ?_
 first|refine aG (bc ?_)|skip
 refine aG (Dp d.typeIs (by rfl) ?_);refine aG (vL (name:=aD "__setitem__") d.typeIs yV
  (pI yV d.typeIs Mg ?_ (Mh _ _ _)))
 show be _ _ (Mi (.int k t)>>=_) _ _ s;refine aG (Mj (fitsIndex_of c a) ?_);clear a;refine aK (KU c) ?_;rintro j rfl;refine aG (aG (wpAny_seqItemAt b aa (bc ?_)));rw[Mk (eL.1 (ay [_,_,_] 80803202974424080 aa (dh (ay [↑j] 18623113510920 aa c)) (eL.2 f)):j<vs.size)];refine aG (Ml b aa ?_);first
  |exact aG (bc (bc ⟨.none,aa,bc e⟩))
  |exact bc ⟨.none,aa,bc e⟩
theorem yW(c:G a=ac (.list b))(i:b.length<=1000000)(d:0<=k)(hk:k.toNat<b.length)(q:Q (aE G a (.list (b.set k.toNat x)))):
 jQ A (.ref a) (.int k) (.d x) G Q:=λown s j y l S m o p=>by obtain rfl:j=.ref a:=m;refine cB o λY=>cQ (S.objs a _ c) λvs n e r=>?_;have g:=r.length;rw[d9] at g;refine Mf e d (ay [_,_,_] 0x11f080e0e0e0e0e0e0e0e0e0e0e0e0e0e8e215c2111c0110c084e2e4efe0 aa (dh (ay [k] 18623113510920 aa d)) (eL.2 hk) (bD.2 i)) (aj [_,_,_] 80785593593846800 aa hk g)<|aw (S.listChange (f:=λz=>z.setIfInBounds k.toNat l) (ys:=b.set k.toNat x) c e λt u=>by rw[Mm];exact t.set _ (u p)) λv w=>mW _ s.toks _ aa v w q
theorem yX(e:h.get? a=ac o)(f:h.Ns a m):lookIn b o=ac (m b):=by
 refine mV f λl c p d g hk i=>?_;rw[e] at d;cases d;unfold lookIn;rw[g,<-i b];simp-zeta-zetaHave only[nsFind,findBy];rw[<-Array.find?_toList];cases q:c.toList.find? (·.key.isStr b) with
 |some x=>simp
 |none=>
  have:c.toList.any (·.refKey)=ax:=by rw[Dq];intro x j;refine fz (hk x (Array.mem_toList_iff.mp j)) λn t k=>?_;simp[abj,k]
  simp[this]
theorem Dr(S:St own G h)(e:G x=ac (.inst C a))(f:G a=ac (.attrs g)):∃b m,InstAt h x (yr C a) C (ac b)/\h.get? a=ac b/\h.Ns a m/\
 ∀y,match g.lookup y with|some v=>∃u,m y=ac u/\Is G h u v/\rc u=ao|none=>m y=ak:=by refine aL (S.objs a _ f) λm c Y q=>fa (id c) λb Y Y d Y=>sN b m ⟨(S.objs x _ e),aa,aa,d⟩ d c.ns q
theorem tx(e:cn K Bh)(g:G x=ac (.inst C j))(l:G j=ac (.attrs n))(o:n.lookup a=ak)
 (p:ec K (.ref C) "__getattribute__"=ac (ac (.builtin "object.__getattribute__")))(hk:ec K (.ref C) "__getattr__"=ac ak)(r:ec K (.ref C) a=ac (ac (.ref f)))
 (t:om K (.ref f)=ac (.type "function"))(b:em K (.ref f)=ao)(q:k (.ref f) [.ref x] G):nf K A (.ref x) a G k:=λown s u y S i=>by obtain rfl:u=.ref x:=i;refine jf (Dr S g l) λz m I v c w=>?_;have d:=w a;rw[o] at d;refine method_fn (e.kin.keeps S.keep) I p hk r t ?_ ⟨s.heap,s.toks,G,_,aa,S,fY,b,.cons (Is.raw _) .nil,q⟩;unfold shadowIn;dsimp-zeta-zetaHave only;rw[yX v c,d];rfl
theorem ri{id:jp}(b:Slot "list" c id)(d:typeOf (.builtin id)=bg (.type "method_descriptor"))(g:G a=ac (.list j))
 (f:em K (.builtin id)=ao)(q:k (.builtin id) [.ref a] G):nf K A (.ref a) c G k:=λown s u l S i=>by obtain rfl:u=.ref a:=i;refine cQ (S.objs a _ g) λvs n e r=>getMethod_list_of b d ⟨_,e,aa,_,aa⟩ ⟨_,e,aa⟩ ⟨s.heap,s.toks,G,_,aa,S,fY,f,.cons (Is.raw _) .nil,q⟩
end
end
abbrev Ls:=ae (aN×V)
noncomputable abbrev bo(l:Ls):=λx=>l.lookup x
noncomputable def ty(F:jN)x v:=λy=>if y=x then ac v else F y
theorem lq(l:Ls)(x:aN)(v:V):ty (bo l) x v=bo ((x,v)::l):=by
 funext y;delta ty bo;rw[ez];by_cases q:y=x
 ·rw[aR q,jq.mpr q]
 ·rw[aQ q,pQ.mpr q]
def d5(a l:Ls):=∀p∈a,l.lookup p.1=ac p.2
theorem d5.nil:d5 [] l:=λY h=>nomatch h
theorem d5.cons(h:l.lookup x=ac v)(r:d5 b l):d5 ((x,v)::b) l:=λp a=>by
 refine aB (bj.mp a) ?_ (λa=>?_);rintro rfl
 ·exact h
 ·exact r p a
theorem d5.lookup(h:d5 a l)(e:a.lookup x=ac v):l.lookup x=ac v:=h _ (mem_of_lookup e)
theorem ni{x:aN}{v:V}{l:Ls}:((x,v)::l).lookup x=ac v:=by rw[ez,vI]
def jR(a:dK)(b:ae aZ)x:=a.kindOf x=ac .local\/(a.kindOf x=ac .cell/\∃c,a.cells.lookup x=ac c/\c∈b/\∀y,a.cells.lookup y=ac c->y=x)
def pR(b:dK)(a:ae (aN×hZ)):=∀x k,a.lookup x=ac k->k≠.free->b.kindOf x=ac k
section
variable{A:cq}{own:ae aZ}{env:dK}{F:jN}{G G':AH}{s:cI}{h h':cH}{tk':ah}{K:cg}
theorem FR.sub(R:FR env own F G h)(k:∀x v,a x=ac v->F x=ac v):FR env own a G h:=⟨let⟨m,b,q⟩:=R.ns;⟨m,b,λx v e=>q x v (k x v e)⟩,R.mine,R.cells⟩
theorem St.atOwn(S:St own G h)(d:a∈own)(c:∀b,b≠a->h'.get? b=h.get? b)(k:∃o,h'.get? a=ac o/\m9 o):St own G h'/\bh own G h G h':=by
 have X:bh own G h G h':=λb o e g n=>⟨(c b (λq=>n (q▸d))).trans e,g⟩
 refine aF ⟨λb o e=>?_,λb p e=>?_,λb i=>?_⟩ X
 ·refine bu (S.base b o e) λl m j=>ca ((c b (λq=>j (q▸d))).trans l) m j
 ·have f:b≠a:=λq=>by rw[q,(S.own a d).1] at e;cases e
  exact(S.objs b p e).ext S X λt r=>(c b f).trans r
 ·refine aF (S.own b i).1 ?_;by_cases q:b=a
  ·rw[q];exact k
  ·rw[c b q];exact(S.own b i).2
theorem lr(O:cS env)(S:St own G s.heap)(R:FR env own F G s.heap)(hk:jR env own x)(i:Is G s.heap u v)
 (hQ:∀h' tk,St own G h'->bh own G s.heap G h'->FR env own (ty F x v) G h'->Q () (sW s h' tk)):be (aY pg wd) A (storeName env x u) Q E s:=by
 obtain⟨⟨m,hn,hm⟩,j,f⟩:=R;refine aB hk ?_ ?_<;>clear hk;rotate_left;intro a;refine aw a λhk k=>aL k λc J r B=>?_;rotate_right;intro hk
 ·refine wpAny_storeName_local hk hn (λh' C g=>?_) (by rw[O.kind];rfl);refine aw (S.atOwn j (h':=h') (λb r=>g.2 b r) (by refine dz C λo es ep e L Y=>bi o e (.inl (by unfold dJ;rw[L];trivial)))) λM X=>?_;refine hQ h' _ M X ⟨⟨_,C,λy N e=>?_⟩,j,λy H e=>?_⟩
  ·unfold ty at e;by_cases q:y=x
   ·rw[aR q] at e;cases e;exact bi u (Is.ext S X i) (.inl ⟨q▸hk,by rw[aR q]⟩)
   ·rw[aQ q] at e;refine au (hm y N e) λT U W=>bi T (Is.ext S X U)<|aB W ?_ ?_;rotate_left;intro a;refine aw a λt k=>au k λI l k3=>?_;rotate_right;intro a;refine aw a λt l=>?_
    ·exact .inl ⟨t,by rw[aQ q];exact l⟩
    ·exact .inr ⟨t,I,l,k3.sameBut g (f y I l).2.2⟩
  ·refine bu (f y H e) λa=>aK a λv0 d=>λr n=>ca ⟨v0,d.sameBut g n⟩ r n
 ·refine bu (f x c J) λa=>aK a λv0 d=>λhg n=>wpAny_storeName_cell O.kind hk J d λh' w g=>aw (S.atOwn r (h':=h') (λb r=>g.2 b r) (by refine au w λo e L=>bi o e (.inl (by unfold dJ;rw[L];trivial)))) λM X=>?_;refine hQ h' s.toks M X ⟨⟨m,hn.sameBut g (Di n),λy N e=>?_⟩,j,λy H e=>?_⟩
  ·unfold ty at e;by_cases q:y=x
   ·rw[aR q] at e;cases e;exact bi u (Is.ext S X i) (.inr ⟨.inl (q▸hk),c,q▸J,w⟩)
   ·rw[aQ q] at e;refine au (hm y N e) λT U W=>bi T (Is.ext S X U)<|aB W ?_ ?_;rotate_left;intro a;refine aw a λt k=>au k λI l k3=>?_;rotate_right;intro a;refine aw a λt l=>?_
    ·exact .inl ⟨t,l⟩
    ·refine .inr ⟨t,I,l,k3.sameBut g λz=>q ?_⟩;exact B y (z▸l)
  ·refine bu (f y H e) λa=>aK a λv1 d1=>?_;intro D p;by_cases q:H=c
   ·subst q;exact ca ⟨_,w⟩ D p
   ·exact ca ⟨v1,d1.sameBut g q⟩ D p
end
section
variable(A:cq)
def PF d a s G(N C:Ls->AH->Prop)(R:V->AH->Prop)(f:Flow)i:=∀h:Prop,(∀(c:cH)(g:ah)(b:AH),i=(sW s c g)->St a b c->bh a G s.heap b c->(match f with|.next=>∃e,FR d a (bo e) b c/\N e b|.cont=>∃e,FR d a (bo e) b c/\C e b|.ret v=>∃x,Is b c v x/\R x b|.brk=>aC)->h)->h
theorem PF.mk{c:dK}{a:ae aZ}{s:cI}{G:AH}{N C:Ls->AH->Prop}{R:V->AH->Prop}(d:cH)(e:ah)(b:AH)(h:i=(sW s d e))(j:St a b d)(k:bh a G s.heap b d)(l:(match f with|.next=>∃g,FR c a (bo g) b d/\N g b|.cont=>∃g,FR c a (bo g) b d/\C g b|.ret v=>∃x,Is b d v x/\R x b|.brk=>aC)):PF c a s G N C R f i:=λY m=>m d e b h j k l
def XV a b st l G N C R:=∀s,St b G s.heap->FR a b (bo l) G s.heap->be (aY pg wd) A (exec st a) (PF a b s G N C R) F0 s
def SV a b c l G N C R:=∀s,St b G s.heap->FR a b (bo l) G s.heap->be (aY pg wd) A (execs c a) (PF a b s G N C R) F0 s
end
section
variable{A:cq}{own:ae aZ}{env:dK}{l:Ls}{G G':AH}{s:cI}{h h':cH}{tk':ah}{K:cg}{N C:Ls->AH->Prop}{Rt:V->AH->Prop}
theorem tz{b:Flow->cI->Prop}(h:∀f h' tk' G',St own G' h'->bh own G s.heap G' h'->(match f with
 |.next=>∃a,FR env own (bo a) G' h'/\N a G'
 |.cont=>∃a,FR env own (bo a) G' h'/\C a G'
 |.ret v=>∃x,Is G' h' v x/\Rt x G'
 |.brk=>aC)->b f (sW s h' tk'))(f:Flow)(c:cI)(p:PF env own s G N C Rt f c):b f c:=by exact p _ λh' tk' G' e S X q=>by subst e;exact h _ _ _ _ S X q
theorem PF.up(x:bh own G s.heap G' h')(p:PF env own (sW s h' tk') G' N C Rt f a):PF env own s G N C Rt f a:=by refine p _ λc b d e S g q=>(.mk c b d e S (x.trans g) q)
theorem vM(q:N l G):SV A env own [] l G N C Rt:=λs S R=>Ds (.mk s.heap s.toks G aa S fY ⟨l,R,q⟩)
theorem nj{st:fb}{a:ae fb}(h:let j:Ls->AH->Prop:=λe G'=>SV A env own a e G' N C Rt;XV A env own st l G j C Rt):SV A env own (st::a) l G N C Rt:=λs S R=>by
 refine yY (aM (h s S R) ?_);refine tz ?_;rintro f g b i c d q;cases f with
 |next=>refine au q λe m k=>aM (k _ c m) λY Y p=>PF.up d p
 |cont=>exact(.mk g b i aa c d q)
 |brk=>exact q.elim
 |ret v=>exact(.mk g b i aa c d q)
theorem PF.mono(p:PF env own s G N C Rt f j)(n:∀l G,N l G->m l G)(c:∀l G,C l G->o l G)(r:∀v G,Rt v G->a v G):PF env own s G m o a f j:=by
 refine p _ λt b u e S w q=>(.mk t b u e S w ?_)
 cases f with
 |next=>refine au q λd g k=>bi d g (n _ _ k)
 |cont=>refine au q λd g k=>bi d g (c _ _ k)
 |brk=>exact q.elim
 |ret v=>refine au q λx i k=>bi x i (r _ _ k)
theorem XV.mono{st:fb}{b d:Ls->AH->Prop}{a:V->AH->Prop}(h:XV A env own st l G N C Rt)(n:∀l G,N l G->b l G)(c:∀l G,C l G->d l G)(r:∀v G,Rt v G->a v G):XV A env own st l G b d a:=λs S R=>aM (h s S R) λY Y p=>p.mono n c r
theorem SV.mono(h:SV A env own a l G N C Rt)(n:∀l G,N l G->d l G)(c:∀l G,C l G->e l G)(r:∀v G,Rt v G->b v G):SV A env own a l G d e b:=λs S R=>aM (h s S R) λY Y p=>p.mono n c r
theorem Dt{st:fb}{a:ae fb}(M:Ls->AH->Prop)(h:XV A env own st l G M C Rt)(k:∀b G',M b G'->SV A env own a b G' N C Rt):SV A env own (st::a) l G N C Rt:=nj (h.mono k (λY Y q=>q) λY Y q=>q)
theorem pS(k:d5 b l)(h:SV A env own a b G N C Rt):SV A env own a l G N C Rt:=λs S R=>h s S (R.sub λY Y e=>k.lookup e)
theorem FR.freeze(S:St own G h)(R:FR env own F G h)(n:G a=ac (.list o))(k:∀x v,p x=ac v->F x=ac v\/(v=.d (.list o)/\F x=ac (.ref a))):
 FR env own p (cL G a) h:=by
 obtain⟨⟨m,r,j⟩,d,b⟩:=R;refine⟨⟨m,r,λx v e=>?_⟩,d,λx c e=>⟨(b x c e).1,na (b x c e).2.1,(b x c e).2.2⟩⟩
 refine aB (k x v e) (λf=>?_) ?_;rotate_left;intro g;refine aw g ?_;rintro rfl f;rotate_right
 ·refine au (j x v f) λu i q=>bi u i.del q
 ·refine au (j x _ f) λu i q=>?_;obtain rfl:u=.ref a:=i;exact bi (.ref a) (S.list_read n) q
def yZ a b(c l:Ls):=∀p∈c,l.lookup p.1=ac p.2\/(p.2=.d (.list b)/\l.lookup p.1=ac (.ref a))
theorem Du(h:l.lookup x=ac (.ref a))(r:yZ a c d l):yZ a c ((x,.d (.list c))::d) l:=λp b=>by
 refine aB (bj.mp b) ?_ (λb=>?_);rintro rfl
 ·exact .inr ⟨rfl,h⟩
 ·exact r p b
theorem Dv{b:ae fb}{d:Ls}{a:aZ}{g:ae aA}(i:G a=ac (.list g))(k:yZ a g d l)(h:SV A env own b d (cL G a) N C Rt):SV A env own b l G N C Rt:=λs S R=>by
 refine aw (S.drop a) λj x=>aM (h s j (R.freeze S i λx v e=>k _ (mem_of_lookup e)))<|tz ?_
 rintro f m c n o p q;exact(.mk m c n aa o (x.any.trans p) q)
theorem vN(O:cS env)(hk:jR env own x)(h:let f:V->AH->Prop:=λv a=>N ((x,v)::l) a;EV A env own e (bo l) G f)(hs:gf e (ac (.Name x p)) b.line env=bg ax):
 XV A env own (.Assign [.Name x p] e b) l G N C Rt:=λs S R=>by refine Mn (aM (h s S R) ?_) hs;refine ce ?_;rintro u t g j v m d i k;refine lr O m (R.ext S d) hk i λn c o q r=>(.mk n c j aa o (d.any.trans q) ⟨_,by rw[<-lq];exact r,k⟩)
theorem vO(O:cS env)(h:let g:V->AH->Prop:=λv a=>v=.none/\N l a;EV A env own e (bo l) G g)(hs:gf e ak b.line env=bg ax):
 XV A env own (.Expr e b) l G N C Rt:=λs S R=>by refine Dw (aM (h s S R) ?_) (by unfold Dx;rw[O.kind];rfl) hs;refine ce λu j c m v n f i d=>aw d ?_;rintro rfl k;refine CD i<|(.mk j c m aa n f.any ⟨l,R.ext S f,k⟩)
theorem Mo{b:Expr}{d a:ae fb}{g:cT}(h:let j:bP->AH->Prop:=λc e=>(c=ao->SV A env own d l e N C Rt)/\(c=ax->SV A env own a l e N C Rt);TV A env own b (bo l) G j):
 XV A env own (.If b d a g) l G N C Rt:=λs S R=>by
 refine wpAny_If (aM (h s S R) ?_);refine og ?_;rintro c n m o i f k;cases c with
 |true=>exact aM (k.1 aa _ i (R.ext S f)) λY Y p=>PF.up f.any p
 |false=>exact aM (k.2 aa _ i (R.ext S f)) λY Y p=>PF.up f.any p
theorem vP(h:EV A env own e (bo l) G Rt):XV A env own (.Return (ac e) b) l G N C Rt:=λs S R=>by refine Dy (aM (h s S R) ?_);refine ce ?_;rintro u c a d v f g i k;exact(.mk c a d aa f g.any ⟨v,i,k⟩)
end
theorem Mp{kindOf:aN->bB hZ}:∀{b:ae (aN×aV)}{m:aN->bB aV},x∉b.map (·.1)->vQ kindOf b m x=m x:=by
 intro c;induction c with
 |nil=>exact@λm Y=>rfl
 |cons d r a=>
  exact@λm h=>by
   obtain⟨n,v⟩:=d;unfold vQ;rw[a (λq=>h (ba _ q):x∉r.map (·.1))];split
   ·exact aQ (λq=>h (by rw[q];exact aP):x≠n)
   ·rfl
theorem Mq{kindOf:aN->bB hZ}:∀{b:ae (aN×aV)}{m:aN->bB aV},x∉b.map (·.1)->vR kindOf b m x=m x:=by
 intro c;induction c with
 |nil=>exact@λm Y=>rfl
 |cons d r a=>
  exact@λm h=>by
   obtain⟨n,v⟩:=d;unfold vR;rw[a (λq=>h (ba _ q):x∉r.map (·.1))];split
   ·rfl
   ·exact aQ (λq=>h (by rw[q];exact aP):x≠n)
theorem Mr{kindOf:aN->bB hZ}:∀{c:ae aN}{f}{vs}{m cm},c.Nodup->c7 G h f vs->(c.zip vs).lookup x=ac v->
 ∃u,Is G h u v/\(kindOf x=ac .local->vQ kindOf (c.zip f) m x=ac u)/\(¬kindOf x=ac .local->vR kindOf (c.zip f) cm x=ac u)
 :=by
  intro c;induction c with
  |nil=>intro f vs m cm Y Y e;trivial
  |cons n g l=>
   intro f vs m cm o i e
   cases i with
   |nil=>trivial
   |@cons u f d D r s=>
    refine aw (nk.mp o) λt w=>?_
    rw[List.zip_cons_cons,ez] at e
    cases j:x==n with
    |true=>
     rw[j] at e;cases e;have z:=jq.mp j;subst z;have k:x∉(g.zip f).map (·.1):=λq=>by refine au (bV.mp q) ?_;rintro p A rfl;exact t (Dz A).1
     refine cf u r (λhk=>?_) λhk=>?_
     ·show vQ kindOf ((x,u)::g.zip f) m x=ac u;unfold vQ;rw[Mp k,aR hk,aR aa]
     ·show vR kindOf ((x,u)::g.zip f) cm x=ac u;unfold vR;rw[Mq k,aQ hk,aR aa]
    |false=>rw[j] at e;refine aL (l (m:=if kindOf n=ac .local then λy=>if y=n then ac u else m y else m) (cm:=if kindOf n=ac .local then cm else λy=>if y=n then ac u else cm y) w s e) λB C a b=>cf B C a b
noncomputable def gu(a:ae (aN×hZ))x:=match a.lookup x with|some .local=>ao|some .cell=>((mb 0 a []).lookup x).isSome|_=>ax
def gM b a:=
 pR b a/\
 (∀x,gu a x=ao->jR b (hX b) x)/\
 (∃L,b.cells=mb (L+1) a [])/\
 b.frame=ac b.locals
def gM.kind(b:gM c a):=b.1
def gM.bnd(b:gM c a):=b.2.1
def gM.cells(b:gM c a):=b.2.2.1
def gM.frame(b:gM c a):=b.2.2.2
section
variable{A:cq}{own:ae aZ}{env:dK}{l:Ls}{G G':AH}{s:cI}{h h':cH}{tk':ah}{K:cg}{N C:Ls->AH->Prop}{Rt:V->AH->Prop}
theorem St.reown'(S:St own G h)(b:St a G' h')(x:bh [] G h G' h'):St own G' h':=S.reown b.bare x
theorem St.more(S:St own G h)(k:∀b o,h.get? b=ac o->h'.get? b=ac o):St own G h'/\bh [] G h G h':=by
 have X:bh [] G h G h':=λb o e g Y=>⟨k b o e,g⟩
 refine aF ⟨λb o e=>?_,λb p e=>(S.objs b p e).ext S X.any λi j=>k _ _ j,λb m=>?_⟩ X
 ·refine bu (S.base b o e) λa c d=>ca (k _ _ a) c d
 ·refine aw (S.own b m) λa f=>au f λi c d=>aF a ⟨i,k _ _ c,d⟩
theorem rj:∀{b:ae (aN×hZ)}{n f:ah}{d c:ae (aN×aZ)},(∀y,(d.lookup y).isSome=(c.lookup y).isSome)->((mb n b d).lookup x).isSome=((mb f b c).lookup x).isSome:=by
 intro g;induction g with
 |nil=>exact@λY Y Y Y h=>h x
 |cons i r e=>
  exact@λn f d c h=>by
   obtain⟨a,k⟩:=i;unfold mb;split
   ·exact e λy=>by
     rw[ez,ez];cases y==a
     ·exact h y
     ·rfl
   ·exact e h
theorem DC(hB:cn K Bh)(RA:cA A (n+1))
 {j:ae aN}(ho:K.lookup f=ac ⟨oc,od,.func (iN E D r w d dV kV Y pm an L ct),x7⟩)(h9:Bh.CodeRec L D)
 (h3:∀T,T.length=H.length->oo (iN E D r w d dV kV Y pm an L ct) ⟨T,[]⟩=bg (j.zip T))(x2:j.Nodup)
 (I:∀x∈j,d.names.lookup x=ac .local\/(d.names.lookup x=ac .cell/\((mb 0 d.names []).lookup x).isSome=ao))
 (S:St own G s.heap)(i:c7 G s.heap T H)
 (h:∀env U h4,cS env->gM env d.names->cA (A.deeper env) n->St (hX env) G U->FR env (hX env) (bo (j.zip H)) G U->(∀G2 h2,bh (hX env) G U G2 h2->bh [] G s.heap G2 h2)->
  be (aY pg wd) (A.deeper env) (execs w env) (λf s'=>R (.ok (.ret (match f with|.ret v=>v|_=>.none))) s')
   (λe s'=>be (aY pg wd) (A.deeper env) (leaving env e) (λ_ h5=>R (.error e) h5) (λe' h5=>R (.error e') h5) s') (sW s U h4))
 (x4:d.isCoroutine=ax)(h7:d.isGenerator=ax)(hk:d.kind=.function):jO (aY pg wd) A (.call (.ref f) ⟨T,[]⟩) R s:=by
 refine codeAny_call_cells (fd:=iN E D r w d dV kV Y pm an L ct) (body:=w) (binds:=j.zip T) RA.lim ((hB.kin.keeps S.keep) _ _ ho) aa (hB.lim.keeps S.keep) (h9.keeps S.keep) aa
  (h3 T i.length) aa (λx M=>(I x.1 ((λx M=>(Dz M).1:∀x∈j.zip T,x.1∈j) x M)).imp id λq=>⟨q.1,(rj λ_=>rfl).trans q.2⟩) (λx6 X=>?_) x4 h7 hk
 generalize hE:callEnvC (iN E D r w d dV kV Y pm an L ct) s.heap.objs.size f=env at X⊢;have O:cS env:=by subst hE;exact⟨hk,aa,aa⟩
 have hL:env.locals=s.heap.objs.size:=by subst hE;rfl
 have B:∀x,env.kindOf x=d.names.lookup x:=λx=>by subst hE;rfl
 have t:env.cells=mb (s.heap.objs.size+1) d.names []:=by subst hE;rfl
 refine cQ X.done ?_;rintro U h4 rfl h8;have W:∀b∈hX env,b=env.locals\/∃x,env.cells.lookup x=ac b:=λb z=>by
  refine aB (bj.mp z) ?_ (λz=>?_);rintro rfl
  ·exact .inl rfl
  ·refine au (bV.mp z) ?_;rintro p hp rfl;cases q:env.cells.lookup p.1 with
   |none=>exact .inl aa
   |some c=>exact .inr ⟨p.1,by rw[q];rfl⟩
 have y0:∀b∈hX env,s.heap.get? b=ak:=λb z=>by
  cases q:s.heap.get? b with
  |none=>rfl
  |some o=>
   have h6:=fZ q;refine aB (W b z) ?_ ?_;rotate_left;intro J;refine aK J λx M=>?_;rotate_right;rintro rfl
   ·rw[hL] at h6;exact bv h6 (jM _)
   ·have:=X.above _ _ (mem_of_lookup M);rw[hL] at this;exact bv (kB this h6) (jM _)
 refine aw (S.more h8) λS1 x1=>?_;have S2:St (hX env) G U:=by
  refine⟨λb o e=>?_,S1.objs,λb z=>?_⟩
  ·refine bu (S.base b o e) λq1 q2 _=>ca (h8 _ _ q1) q2 λz=>by rw[y0 b z] at q1;cases q1
  ·refine aF (S.fresh (y0 b z))<|aB (W b z) ?_ ?_;rotate_left;intro J;refine aK J λx M=>?_;rotate_right;rintro rfl
   ·refine dz X.toInCall.ns λo es ep e hd _=>bi o e (.inl (by unfold dJ;rw[hd];trivial))
   ·refine au (X.cell _ _ M) λo e hd=>bi o e (.inl (by unfold dJ;rw[hd];trivial))
 have R2:FR env (hX env) (bo (j.zip H)) G U:=by
  refine⟨⟨_,X.toInCall.ns,λx v e=>?_⟩,aP,λx c e=>?_⟩
  ·refine aL (Mr (kindOf:=env.kindOf) (m:=λ_=>ak) (cm:=λ_=>ak) x2 (c7.ext S x1.any i) e) λu iu a b=>?_;have M:=(Dz (mem_of_lookup e)).1;refine bi u iu<|aB (I x M) (λq=>?_) ?_;rotate_left;intro J;refine aw J λq q2=>?_;rotate_right
   ·exact .inl ⟨(B x).trans q,a ((B x).trans q)⟩
   ·have x5:¬env.kindOf x=ac .local:=by rw[B x,q];exact aW aa
    refine aK (y2.mp ((rj (n:=s.heap.objs.size+1) λ_=>rfl).trans q2)) λc Q=>?_;rw[<-t] at Q;exact .inr ⟨.inl ((B x).trans q),c,Q,(b x5)▸X.cell _ _ Q⟩
  ·exact ca ⟨_,X.cell _ _ e⟩ (S2.own c (ba _ (bV.mpr ⟨_,mem_of_lookup e,by rw[e];rfl⟩))).1 λq=>by have:=X.above _ _ (mem_of_lookup e);rw[q] at this;exact jM _ this
 have ei:gM env d.names:=by
  refine⟨λx k e _=>(B x).trans e,λx z=>?_,⟨_,t⟩,by subst hE;rfl⟩
  ·unfold gu at z;split at z
   ·rename_i e;exact .inl ((B x).trans e)
   ·rename_i e;refine aK (y2.mp ((rj (n:=s.heap.objs.size+1) λ_=>rfl).trans z)) λc Q=>?_;rw[<-t] at Q;exact .inr ⟨(B x).trans e,c,Q,ba _ (bV.mpr ⟨_,mem_of_lookup Q,by rw[Q];rfl⟩),λy hy=>name_of_addr X.apart (mem_of_lookup hy) (mem_of_lookup Q)⟩
   ·cases z
 exact h env U h4 O ei (RA.deeper env) S2 R2 λG2 h2 x3 b o e g _=>by have:=x1 b o e g (by trivial);exact x3 b o this.1 this.2 λz=>by rw[y0 b z] at e;cases e
theorem Ms(J:cn K Bh)(L:cA A (n+1))
 {names:ae aN}(M:K.lookup f=ac ⟨oc,od,.func (iN k c b d a Q T u U W m ct),h3⟩)(w:Bh.CodeRec m c)
 (g:∀t,t.length=e.length->oo (iN k c b d a Q T u U W m ct) ⟨t,[]⟩=bg (names.zip t))(y:names.Nodup)
 (j:∀x∈names,a.names.lookup x=ac .local\/(a.names.lookup x=ac .cell/\((mb 0 a.names []).lookup x).isSome=ao))
 (h:∀env,cS env->gM env a.names->cA (A.deeper env) n->
  SV (A.deeper env) env (hX env) d (names.zip e) G (λY G'=>Rt .none G') (λY Y=>aC) Rt)
 (z:a.isCoroutine=ax)(o:a.isGenerator=ax)(hk:a.kind=.function):fe A (.ref f) e G Rt:=λown s t S i=>by
 refine DC J L M w g y j S i (λenv h1 B O ei R S2 R2 p=>?_) z o hk;refine aM (h env O ei R (sW s h1 B) S2 R2)<|tz ?_
 rintro fl E r H S3 x3 q;have D:=p _ _ x3;have I:=S.reown' S3 D;cases fl with
 |next=>refine au q λY Y q=>(.mk E r H .none aa I D Rd.none q)
 |cont=>refine au q λY Y q=>q.elim
 |brk=>exact q.elim
 |ret v=>refine au q λx i q=>(.mk E r H x aa I D i q)
end
def gV(o:Obj):=match o.data with|.cell _=>aC|_=>fP
def eH(c a:ae aZ)(G:AH)(h:cH):=
 (∀b∈a,Bh.get? b=ak)/\
 (∀b∈a,G b=ak)/\
 (∀b∈a,b∉c)/\
 ∀b∈a,∃o,h.get? b=ac o/\m9 o/\gV o
def eH.bnone(a:eH b c G h):=a.1
def eH.gnone(a:eH b c G h):=a.2.1
def eH.nown(a:eH b c G h):=a.2.2.1
def eH.obj(a:eH b c G h):=a.2.2.2
theorem eH.wide(X:eH c d G h)(S:St c G h):St (d++c) G h:=by
 refine⟨λb o e=>?_,S.objs,λb a=>?_⟩
 ·refine bu (S.base b o e) λg i j=>ca g i λa=>aB (ed.mp a) (λa=>?_) (λa=>?_)
  ·rw[X.bnone b a] at e;cases e
  ·exact j a
 ·refine aB (ed.mp a) (λa=>?_) (λa=>?_)
  ·exact aF (X.gnone b a) (let⟨o,e,f,_⟩:=X.obj b a;⟨o,e,f⟩)
  ·exact S.own b a
theorem eH.step(X:eH c d G h)(x:bh c G h g i):eH c d g i:=⟨X.bnone,λb a=>let⟨o,e,_⟩:=X.obj b a;(x b o e (X.gnone b a) (X.nown b a)).2,X.nown,λb a=>let⟨o,e,f⟩:=X.obj b a;⟨o,(x b o e (X.gnone b a) (X.nown b a)).1,f⟩⟩
theorem eH.turn(X:eH a d G h)(S:St a G h)(k:∀b o,b∉d->h.get? b=ac o->f.get? b=ac o):St a G f/\bh (d++a) G h G f:=by
 have Z:bh (d++a) G h G f:=λb o e g n=>⟨k b o (λq=>n (gg _ q)) e,g⟩
 refine aF ⟨λb o e=>?_,λb p e=>?_,λb r=>?_⟩ Z
 ·refine bu (S.base b o e) λi j l=>ca (k b o (λq=>by rw[X.bnone b q] at e;cases e) i) j l
 ·exact(S.objs b p e).ext (X.wide S) Z λc s=>k b c (λq=>by rw[X.gnone b q] at e;cases e) s
 ·refine aw (S.own b r) λi m=>au m λc j l=>aF i ⟨c,k b c (λq=>X.nown b q r) j,l⟩
theorem eH.is(X:eH a c G h)(S:St a G h)(k:∀b o,b∉c->h.get? b=ac o->d.get? b=ac o)(i:Is G h u v):Is G d u v:=Is.ext (X.wide S) (X.turn S k).2 i
theorem eH.fr(X:eH a C G h)(S:St a G h)(k:∀b o,b∉C->h.get? b=ac o->s.get? b=ac o)(R:FR t a F G h):FR t a F G s:=by
 obtain⟨⟨m,D,E⟩,j,p⟩:=R;have A:∀{c o v},h.get? c=ac o->o.data=.cell v->s.get? c=ac o:=λ{c o v}e d=>k c o (λq=>by refine aL (X.obj c q) λL B Y f=>?_;rw[e] at B;cases B;unfold gV at f;rw[d] at f;exact f) e;refine⟨⟨m,D.at' (λo e=>(λb o H e=>k b o (λq=>X.nown b q H) e:∀b o,b∈a->h.get? b=ac o->s.get? b=ac o) _ o j e),λy v e=>?_⟩,j,λy c e=>?_⟩
 ·refine au (E y v e) λu i q=>bi u (X.is S k i)<|aB q ?_ ?_;rotate_left;intro r;refine aw r λI w=>au w λc l x=>au x λo z d=>?_;rotate_right;intro q
  ·exact .inl q
  ·exact .inr ⟨I,c,l,o,A z d,d⟩
 ·refine bu (p y c e) λr=>cQ r λJ o z d=>λg n=>ca ⟨J,o,A z d,d⟩ g n
theorem eH.next(X:eH a c G h)(d:∀b∈c,∃o,e.get? b=ac o/\m9 o/\gV o):eH a c G e:=⟨X.bnone,X.gnone,X.nown,d⟩
theorem eH.fresh(i:St a m k)(j:∀b∈c,k.get? b=ak)(g:∀b∈c,G b=ak)(l:∀b∈c,∃o,h.get? b=ac o/\m9 o/\gV o):eH a c G h:=
 ⟨(λb d=>by
  cases q:Bh.get? b with
  |none=>rfl
  |some o=>have:=(i.base b o q).1;rw[j b d] at this;cases this),g,(λb d q=>by
  refine aw (i.own b q) λY f=>au f λo e Y=>?_;rw[j b d] at e;cases e),l⟩
theorem St.notOwn{b:ae aZ}(S:St b G h)(e:h.get? a=ac o)(n:¬m9 o):a∉b:=λq=>by refine aw (S.own a q) λY c=>au c λg d f=>?_;rw[e] at d;cases d;exact n f
theorem vS(d:c="list"\/c="tuple"\/c="range"):¬m9 ⟨.type c,ak,.seq vs n,#[]⟩:=by
 intro a;refine aB a (λf=>?_) ?_<;>clear a;rotate_left;intro b;refine bu b λe g h=>?_;rotate_right
 ·exact f
 ·refine aB d ?_ ?_<;>clear d;rotate_left;intro a;refine aB a ?_ ?_<;>clear a<;>rintro rfl;rotate_right;rintro rfl
  ·exact g rfl
  ·exact e rfl
  ·exact h rfl
section
variable(A:cq)(own wr:ae aZ)(tg:Expr)(I:aZ)
def pT:ae V->AH->cH->Prop
 |[],G,h=>∀a(s:cI)(E:aV->cI->Prop)(Q:bB aV->cI->Prop),bh own G h a s.heap->eH own wr a s.heap->St own a s.heap->
  (∀c f,(∀b o,b∉wr->s.heap.get? b=ac o->c.get? b=ac o)->Q ak (sW s c f))->be (aY pg wd) A (ls (.ref I)) Q E s
 |x::r,G,h=>∀a(s:cI)(E:aV->cI->Prop)(Q:aV->cI->Prop),bh own G h a s.heap->eH own wr a s.heap->St own a s.heap->
  (∀u c f,(∀b o,b∉wr->s.heap.get? b=ac o->c.get? b=ac o)->eH own wr a c->Is a c u x->pT r a c->Q u (sW s c f))->
  be (aY pg wd) A (ls (.ref I)) (λo d=>∃u,o=ac u/\be (aY pg wd) A (lx tg (.ref I) u) (λY e=>Q u e) E d) E s
end
theorem Mt(d:s.heap.get? I=ac o)(e:o.cls=.type T)
 (f:["enumerate","zip","dict_itemiterator","dict_reverseitemiterator","odict_iterator","itertools.zip_longest","itertools.pairwise"].contains T=ax)(q:Q () s):be M A (lx g (.ref I) u) Q E s:=by
 have b:∀a,be M A (do
  let o<-load I
  match o.cls,o.data with
  |.type n,.fields vs=>
   if["enumerate","zip","dict_itemiterator","dict_reverseitemiterator","odict_iterator","itertools.zip_longest","itertools.pairwise"].contains n&&vs[0]?==ac (fG a) then
    rule "for.unpacks-the-owned-tuple"
    updateField I 0 .none
  |_,_=>bg ():jS mc) Q E s:=λa=>by
  refine aG (wpAny_load d ?_);obtain⟨c,h,i,j⟩:=o;obtain rfl:c=.type T:=e;cases i with
  |fields vs=>dsimp-zeta-zetaHave only;rw[f];exact bc q
  |_=>exact bc q
 cases g<;>first
  |exact bc q
  |(cases u<;>first
   |exact bc q
   |exact b _)
theorem Mu(W:Walks pg wd A I H [I] n P d)
 (U:["enumerate","zip","dict_itemiterator","dict_reverseitemiterator","odict_iterator","itertools.zip_longest","itertools.pairwise"].contains T=ax)(t:T≠"tuple"/\T≠"list"/\T≠"range")
 (m:∀i h,d i h->∃o,h.get? I=ac o/\o.cls=.type T/\gV o)(j:∀i h,d i h->∀b∈H,∃o,h.get? b=ac o){J a:ae V}(f:a.length=n)
 (u:∀i v x G h,P i v->a[i]?=ac x->c7 G h Y J->Is G h v x):
 ∀(k i)(G)(h),i+k=n->d i h->St p G h->c7 G h Y J->(∀b∈H,G b=ak/\b∉p)->pT A p [I] tg I (a.drop i) G h:=by
 intro k;induction k with
 |zero=>intro i G h l st S L g;obtain rfl:i=n:=bQ (aj [_,_] 298036685279360 rfl l) (aj [_,_] 297972311101568 rfl l);rw[y3 (by exact aj [_,_] 72762862608 aa f)];intro w s E Q x X y z;exact W.done s Q E (W.frame _ _ _ st λb c o e=>(x b o e (g b c).1 (g b c).2).1:d i s.heap) z
 |succ k ih=>
  intro i G h l st S L g;have q:i<a.length:=aj [_,_,_,_] 0x11f0212c199183215c10 aa l f;rw[vU q];intro w s E Q x X y z;refine W.item i s _ E (aj [_,_,_] 80818583262271504 aa l) (W.frame _ _ _ st λb c o e=>(x b o e (g b c).1 (g b c).2).1:d i s.heap) λv B tk hP cV hk=>⟨v,aa,?_⟩
  refine aL (m _ _ cV) λo M N C=>Mt (T:=T) (o:=o) M N U ?_;have X':=X.next λb c=>by rw[bZ.mp c];refine cf o M (.inr ⟨?_,?_,?_⟩) C<;>rw[N]<;>simp[t]
  refine aw (X.turn y hk) λS2 x2=>?_;have r:=c7.ext (X.wide y) x2 (c7.ext S x L);refine z v B tk hk X' (u i v _ w B hP (cr q) r) ?_;exact ih (i+1) w B (bQ (aj [_,_,_] 0x10f291918012c2991810 aa l) (aj [_,_,_] 0x10f919180215c2991810 aa l)) cV S2 r λb c=>⟨by refine aK (j i h st b c) λob D=>(x b ob D (g b c).1 (g b c).2).2,(g b c).2⟩
inductive vV:V->ae V->Prop
 |list {xs:ae aA} {vs:ae V}:vs=xs.map V.d->vV (.d (.list xs)) vs
 |tuple {xs:ae aA} {vs:ae V}:vs=xs.map V.d->vV (.d (.tuple xs)) vs
 |range {a b c:af} {n:ah} {vs:ae V}:kC a b c=ao->ie a b c=(n:af)->vs=(cC n).map (λ(i:ah)=>V.int (a+(i:af)*c))->vV (.rng a b c) vs
variable(A) in
def tA(f:ae aZ)i I g c G h:=
 ∀a e d,St a e d->bh [] G h e d->(∀b∈a,b∈f\/h.get? b=ak)->eH a g e d/\pT A a g i I c e d/\
  (∀(s)(E)(Q),s.heap=d->Q (.ref I) s->be (aY pg wd) A (rk (.ref I)) Q E s)
theorem eH.later(X:eH d g G h)(x:bh [] G h i j)(k:∀b∈c,b∈d\/h.get? b=ak):eH c g i j:=
 ⟨X.bnone,λb a=>au (X.obj b a) λo e Y=>(x b o e (X.gnone b a) (by simp)).2,(λb a q=>by
  refine au (X.obj b a) λo e Y=>aB (k b q) (λq=>?_) (λq=>?_)
  ·exact X.nown b a q
  ·rw[e] at q;cases q),λb a=>au (X.obj b a) λo e f=>⟨o,(x b o e (X.gnone b a) (by simp)).1,f⟩⟩
theorem DD(W:Walks pg wd A I m [I] n P c)
 (t:["enumerate","zip","dict_itemiterator","dict_reverseitemiterator","odict_iterator","itertools.zip_longest","itertools.pairwise"].contains T=ax)(j:T≠"tuple"/\T≠"list"/\T≠"range")
 (d:∀i h,c i h->∃o,h.get? I=ac o/\o.cls=.type T/\gV o)(a:∀i h,c i h->∀b∈m,∃o,h.get? b=ac o)(f:items.length=n)
 (k:∀i v x G h,P i v->items[i]?=ac x->c7 G h us uv->Is G h v x)(st:c 0 h)(S:St own G h)(u:c7 G h us uv)(l:∀b∈m,G b=ak/\b∉own)(X:eH own [I] G h):
 tA A own tg I [I] items G h:=λp w y z x r=>by
 have cV:=W.frame _ _ _ st λb g o e=>(x b o e (l b g).1 (by simp)).1;refine ca (X.later x r) ?_ λs E Q e q=>W.self 0 s Q E (e▸cV) q;exact Mu W t j d a f k n 0 w y (bQ (aj [_] 284200968 aa) (aj [_] 284754048 aa)) cV z (c7.ext S x.any u) λb g=>by
  refine aK (a 0 h st b g) λo e=>aF (x b o e (l b g).1 (by simp)).2 λq=>aB (r b q) (λq=>?_) (λq=>?_)
  ·exact(l b g).2 q
  ·rw[e] at q;cases q
variable(A) in
def iQ d c l e F G(m:ae V->AH->Prop):=∀s,St c G s.heap->FR d c F G s.heap->
 be (aY pg wd) A (bN e d) (λn f=>be (aY pg wd) A (rk n) (λp g=>∃I k h j i a,p=.ref I/\g=(sW s h j)/\St c i h/\bh [] G s.heap i h/\
  (∀b∈k,∀o,s.heap.get? b=ac o->G b=ak->aC)/\tA A c l I k a i h/\m a i) F0 f) F0 s
theorem bb.isAll(r:bb G h c b):c7 G h c (b.map V.d):=by
 induction b generalizing c with
 |nil=>exact bb.on0 r .nil
 |cons x b d=>exact bb.onC r λY Y a r=>.cons a (d r)
theorem c7.at(r:c7 G h d vs){i:ah}(b:d[i]?=ac u)(c:vs[i]?=ac v):Is G h u v:=by
 induction r generalizing i with
 |nil=>trivial
 |cons a r e=>
  cases i with
  |zero=>simp at b c;subst b c;exact a
  |succ i=>exact e (by simpa using b) (by simpa using c)
theorem DE{vs:jg aV}{P:ah->cH->Prop}{Z:cH->Prop}(W:Walks pg wd A I [I,a] [I] vs.size (λi v=>vs[i]?=ac v) λi h=>P i h/\Z h)
 (j:["enumerate","zip","dict_itemiterator","dict_reverseitemiterator","odict_iterator","itertools.zip_longest","itertools.pairwise"].contains T=ax)(f:T≠"tuple"/\T≠"list"/\T≠"range")
 (e:∀i h,P i h->∃o,h.get? I=ac o/\o.cls=.type T/\gV o)(k:∀h,Z h->∃o,h.get? a=ac o)(r:bb G h vs.toList g)(st:P 0 h/\Z h)(S:St c G h)
 (l:G I=ak)(m:G a=ak)(n:a∉c)(X:eH c [I] G h):tA A c t I [I] (g.map V.d) G h:=
 DD W j f (λi h st=>e i h st.1)
  (λi h st b d=>by
   refine aB (bj.mp d) ?_ (λd=>?_);rintro rfl
   ·exact au (e i h st.1) λo p Y=>ew o p
   ·rw[bZ.mp d];exact k h st.2) (us:=vs.toList) (uv:=g.map V.d)
  (by have:=r.length;rw[aI,<-this,d9]) (λi v x G h e q s=>s.at (i:=i) (by rw[s9];exact e) q)
  st S r.isAll (λb d=>by
   refine aB (bj.mp d) ?_ (λd=>?_);rintro rfl
   ·exact aF l (X.nown _ (aP))
   ·rw[bZ.mp d];exact aF m n) X
theorem y4{A:cq}(hh:A.handled=ak){tg B:Expr}{Kt:ae V->AH->Prop}(h:let Q1:V->AH->Prop:=λv M=>∃d,vV v d/\Kt d M;EV A h2 D B F G Q1):iQ A h2 D tg B F G Kt:=λs S R=>by
 refine aM (h s S R)<|ce λu m E L v z Q i h3=>au h3 λd sr k=>?_
 have hI:=fE m;have U:=z.fresh hI;have fr:∀b∈[m.objs.size],∀o,s.heap.get? b=ac o->G b=ak->aC:=λb y o e g=>by have:=(Q b o e g (by simp)).1;rw[bZ.mp y,hI] at this;cases this
 have mk:∀(T:jp)(vs:jg aV),T≠"tuple"/\T≠"list"/\T≠"range"->eH D [m.objs.size] L (m.push {cls:=.type T,data:=.fields vs}):=λT vs hT=>eH.fresh z (λb y=>by rw[bZ.mp y];exact hI) (λb y=>by rw[bZ.mp y];exact U) λb y=>by rw[bZ.mp y];exact cf _ (fc _ aa) (.inr (by simp[hT])) trivial
 cases sr with
 |@list xs _ e=>
  subst e;refine jh i λa vs n e g r=>?_;have H:=kD (fZ e);refine wpAny_pyIter_list (l:=a) (items:=vs) ⟨_,e,aa,_,aa⟩<|aw (z.push {cls:=.type "list_iterator",data:=.fields #[.ref a,.int 0 0]}) λC I=>?_
  have X:=mk "list_iterator" #[.ref a,.int 0 0] (aW aa);have r2:=bb.ext z I.any r;refine pD _ [m.objs.size] _ E L _ aa rfl C (Q.trans I) ⟨fr,?_,k⟩;exact DE (T:="list_iterator") (Walks.list (prog:=pg) (w:=wd) hh m.objs.size a H vs) (by rfl) (aW aa) (λi h st=>aL st λo J hc hd=>⟨o,J,hc,by unfold gV;rw[hd];trivial⟩) (λh st=>au st λo J Y=>ew o J) r2
   ⟨⟨_,fc _ aa,aa,aa⟩,⟨_,gc _ e,aa,_,aa⟩⟩ C U g (z.notOwn e (vS (.inl aa))) X
 |@tuple xs _ e=>
  subst e;refine oa i λa vs n e r=>?_;have H:=kD (fZ e);have ga:L a=ak:=by
   cases q:L a with
   |none=>rfl
   |some p=>refine au (z.objs a p q).cls λob q' n1=>?_;rw[e] at q';cases q';exact n1.elim (λf=>f.elim) λf=>bv aa f.1
  refine Mv (t:=a) (items:=vs) ⟨_,e,aa,_,aa⟩<|aw (z.push {cls:=.type "tuple_iterator",data:=.fields #[.ref a,.int 0 0]}) λC I=>?_
  have X:=mk "tuple_iterator" #[.ref a,.int 0 0] (aW aa);have r2:=bb.ext z I.any r;refine pD _ [m.objs.size] _ E L _ aa rfl C (Q.trans I) ⟨fr,?_,k⟩;exact DE (T:="tuple_iterator") (Walks.tuple (prog:=pg) (w:=wd) hh m.objs.size a H vs) (by rfl) (aW aa) (λi h st=>aL st λo J hc hd=>⟨o,J,hc,by unfold gV;rw[hd];trivial⟩) (λh st=>au st λo J Y=>ew o J) r2
   ⟨⟨_,fc _ aa,aa,aa⟩,⟨_,gc _ e,aa,_,aa⟩⟩ C U ga (z.notOwn e (vS (.inr (.inl aa)))) X
 |@range a b c n _ hs hn e=>
  subst e;refine vf (show∃r t1 t2 t3,u=.ref r/\yd m r a b c t1 t2 t3 from i) ?_;rintro r t1 t2 t3 rfl hr;refine wpAny_pyIter_range hr hs<|aw (z.push {cls:=.type "range_iterator",data:=.fields #[fG a,fG (ie a b c),fG c]}) λC I=>?_
  have X:=mk "range_iterator" #[fG a,fG (ie a b c),fG c] (aW aa);refine pD _ [m.objs.size] _ E L _ aa rfl C (Q.trans I) ⟨fr,?_,k⟩;have W:=DD (tg:=tg) (own:=D) (T:="range_iterator") (Walks.range (prog:=pg) (w:=wd) hh m.objs.size a c n) (by rfl) (aW aa) (λi h st=>⟨_,st,aa,trivial⟩)
   (λi h st b y=>by rw[bZ.mp y];exact ew _ st) (us:=[]) (uv:=[]) (items:=(cC n).map (λ(i:ah)=>V.int (a+(i:af)*c)))
   (by simp) (λi v x G h hP N ia=>by
    refine aK hP ?_;rintro t rfl;rw[fH] at N;cases q:(cC n)[i]? with
    |none=>rw[q] at N;cases N
    |some j=>rw[q] at N;refine aK (dF.mp q) ?_;rintro hj rfl;cases N;simp-zeta-zetaHave only[List.getElem_range];exact Is.int _ _)
   (by rw[<-hn];simpa using fc _ aa) C .nil (λb y=>by rw[bZ.mp y];exact aF U (X.nown _ (aP))) X
  exact W
noncomputable def ly:V->bB (ae V)
 |.d (.tuple a)=>ac (a.map V.d)
 |.tup a=>ac a
 |_=>ak
inductive lz(env:dK)(own:ae aZ):Expr->V->Ls->Ls->Prop
 |name {x p v l}:jR env own x->lz env own (.Name x p) v l ((x,v)::l)
 |two {a b:aN} {pa pb k p v x y l}:ly v=ac [x,y]->jR env own a->jR env own b->lz env own (.Tuple [.Name a pa,.Name b pb] k p) v l ((b,y)::(a,x)::l)
 |three {a b c:aN} {pa pb pc k p v x y z l}:ly v=ac [x,y,z]->jR env own a->jR env own b->jR env own c->lz env own (.Tuple [.Name a pa,.Name b pb,.Name c pc] k p) v l ((c,z)::(b,y)::(a,x)::l)
theorem y5(e:ly v=ac b)(i:Is G h u v):∃a vs n,u=.ref a/\h.get? a=ac ⟨.type "tuple",ak,.seq vs n,#[]⟩/\c7 G h vs.toList b:=by
 cases v with
 |d d=>
  cases d with
  |tuple c=>cases e;exact oa i λY Y Y e r=>⟨_,_,_,aa,e,r.isAll⟩
  |_=>cases e
 |tup c=>cases e;rw[sX] at i;refine dz i λa vs n e f r=>pB a vs n e f r.all
 |_=>cases e
@[elab_as_elim] theorem DF{P:aV->Prop}{u:aV}{v x y:V}(i:Is G h u v)(e:ly v=ac [x,y])(k:∀t n a b,h.get? t=ac ⟨.type "tuple",ak,.seq #[a,b] n,#[]⟩->Is G h a x->Is G h b y->P (.ref t)):P u:=by obtain⟨t,⟨l⟩,n,rfl,c,r⟩:=y5 e i;exact m7 (P:=λl=>h.get? t=ac ⟨.type "tuple",ak,.seq ⟨l⟩ n,#[]⟩->P (.ref t)) r (λa b d f c=>k t n a b c d f) c
@[elab_as_elim] theorem DG{P:aV->Prop}{u:aV}{v x y z:V}(i:Is G h u v)(e:ly v=ac [x,y,z])(k:∀t n a b c,h.get? t=ac ⟨.type "tuple",ak,.seq #[a,b,c] n,#[]⟩->Is G h a x->Is G h b y->Is G h c z->P (.ref t)):P u:=by obtain⟨t,⟨l⟩,n,rfl,d,r⟩:=y5 e i;exact CE (P:=λl=>h.get? t=ac ⟨.type "tuple",ak,.seq ⟨l⟩ n,#[]⟩->P (.ref t)) r (λa b c f g j d=>k t n a b c d f g j) d
theorem tB(O:cS b)(S:St a G s.heap)(R:FR b a (bo l) G s.heap)(hk:jR b a x)(i:Is G s.heap u v)
 (q:∀c f,St a G c->bh a G s.heap G c->FR b a (bo ((x,v)::l)) G c->be (aY pg wd) A M Q E (sW s c f)):
 be (aY pg wd) A (do gq k (ig (.Name x p) b u);M) Q E s:=
 aG (gs (y6 (lr O S R hk i λg d h j e=>q g d h j (by rw[lq] at e;exact e))))
theorem DH(O:cS f)(hh:A.handled=ak){tg:Expr}{v:V}{g:Ls}{u:aV}{E:aV->cI->Prop}{Q:mc->cI->Prop}(a:lz f c tg v l g)(S:St c G s.heap)(R:FR f c (bo l) G s.heap)(i:Is G s.heap u v)
 (y:∀k z,St c G k->bh c G s.heap G k->FR f c (bo g) G k->Q () (sW s k z)):be (aY pg wd) A (ig tg f u) Q E s:=by
 cases a with
 |name hk=>refine y6 (lr O S R hk i λk z S' x R'=>?_);rw[lq] at R';exact y k z S' x R'
 |two e B C=>refine DF i e λt n D H I J L=>DI hh (items:=#[D,H]) ⟨_,I,aa,_,aa⟩ aa rfl λq M=>aw (S.more (h':=q) λb o e=>M b o (kD (fZ e)) e) λm d=>tB O (s:={s with heap:=q}) m (R.ext S d) B (Is.ext S d.any J) λN h r p T=>tB O (s:=sW s N h) r T C (Is.ext m p (Is.ext S d.any L)) λU j W w Y=>bc (y U j W (d.any.trans (p.trans w)) Y)
 |three e B C kc=>
  refine DG i e λt n D H u3 I J L i3=>DI hh (items:=#[D,H,u3]) ⟨_,I,aa,_,aa⟩ aa rfl λq M=>aw (S.more (h':=q) λb o e=>M b o (kD (fZ e)) e) λm d=>tB O (s:={s with heap:=q}) m (R.ext S d) B (Is.ext S d.any J) λN h r p T=>
   tB O (s:=sW s N h) r T C (Is.ext m p (Is.ext S d.any L)) λU j W w Y=>
   tB O (s:=sW s U j) W Y kc (Is.ext r w (Is.ext m p (Is.ext S d.any i3))) λh4 h5 S4 x4 R4=>bc (y h4 h5 S4 (d.any.trans (p.trans (w.trans x4))) R4)
def Wk(cj:Ls->AH->Prop)l G:=∃a,d5 a l/\cj a G
inductive rl(A:cq)(own wr:ae aZ)(env:dK)(tg:Expr)(I:aZ)(cj:ae V->Ls->AH->Prop)(K:AH->cH->Prop)(s:cI):ah->cI->Prop
 |mk (h':cH) (tk:ah) (G' Gw:AH) (hw:cH) (rest:ae V) (l':Ls):St own G' h'->K G' h'->eH own wr G' h'->pT A own wr tg I rest Gw hw->bh own Gw hw G' h'->FR env own (bo l') G' h'->cj rest l' G'->rl A own wr env tg I cj K s rest.length (sW s h' tk)
inductive DJ(A:cq)(own wr:ae aZ)(tg:Expr)(I:aZ)(G':AH)(h':cH)(s:cI)(x:V)(rest:ae V):aV->cI->Prop
 |mk (u:aV) (h3:cH) (tk3:ah):(∀b o,b∉wr->h'.get? b=ac o->h3.get? b=ac o)->eH own wr G' h3->Is G' h3 u x->pT A own wr tg I rest G' h3->DJ A own wr tg I G' h' s x rest u (sW s h3 tk3)
def DK(a c:ae aZ)(G:AH)(h:cH)(d:AH)(e:cH):=∀b o,h.get? b=ac o->G b=ak->b∉a->b∉c->e.get? b=ac o/\d b=ak
theorem y7{cj:ae V->Ls->AH->Prop}{K:AH->cH->Prop}{BD:V->ae V->Ls->AH->Prop}{N0 B0:cI->Prop}{U:aV->cI->Prop}(O:cS f)(hh:A.handled=ak)
 (W:∀d H h j p,K d H->(∀b o,b∉wr->H.get? b=ac o->h.get? b=ac o)->bh c d h j p->K j p)
 (ee:∀x a l G,cj (x::a) l G->∃w,lz f c J x l w/\BD x a w G)(i:rl A c wr f J I cj K s n s')
 (hN:∀h g d L,St c d h->K d h->FR f c (bo L) d h->cj [] L d->N0 (sW s h g))
 (hB:∀x a l2 y z d,St c d y->FR f c (bo l2) d y->BD x a l2 d->
  (∀p B j l5,St c j p->bh c d y j p->FR f c (bo l5) j p->Wk (cj a) l5 j->∃m,m<n/\rl A c wr f J I cj K s m (sW s p B))->
  (∀j p,bh c d y j p->K j p)->B0 (sW s y z)):
 be (aY pg wd) A (ls (.ref I)) (λr t=>match r with
  |none=>N0 t
  |some v=>be (aY pg wd) A (lx J (.ref I) v) (λY C=>be (aY pg wd) A (ig J f v) (λY M=>B0 M) U C) U t) U s':=by
 cases i with|mk H tk d Gw hw a L D x' E W' xw R' N=>?_
 cases a with
 |nil=>exact W' d _ _ _ xw E D λh g k=>hN h g d L (E.turn D k).1 (W _ _ _ _ _ x' k fY) (E.fr D k R') N
 |cons x a=>
  refine au (ee x a L d N) λl2 h1 bd=>iO (W' d (sW s H tk) _ (DJ A c wr J I d H s x a) xw E D λu h g k X3 i W3=>.mk u h g k X3 i W3) (λo t q=>?_) λY Y x=>x;refine au q ?_;rintro u rfl q;refine iO q (λY s2 q=>?_) λY Y x=>x;cases q with|mk h g k X3 i W3=>?_
  exact DH O hh h1 (s:=sW s h g) (E.turn D k).1 (E.fr D k R') i λy z S4 T R4=>
   hB x a l2 y z d S4 R4 bd (λp B j l5 S5 Q R5 q=>au q λl6 sb iv=>⟨a.length,jT _,.mk p B j d h a l6 S5 (W _ _ _ _ _ x' k (T.trans Q)) ((X3.step T).step Q) W3 (T.trans Q) (R5.sub λY Y e=>sb.lookup e) iv⟩)
    λj p Q=>W _ _ _ _ _ x' k (T.trans Q)
theorem Mw(O:cS d)(hh:A.handled=ak)
 (E:iQ A d h H j (bo l) G λa t=>∃cj:ae V->Ls->AH->Prop,Wk (cj a) l t/\
  (∀x c l G,cj (x::c) l G->∃m,lz d h H x l m/\SV A d h u m G (Wk (cj c)) (Wk (cj c)) Rt)/\(∀l G,cj [] l G->N l G))
 (hs:∀x,gh j d x=bg x):XV A d h (.For H j u [] x1) l G N C Rt:=λs S R=>by
 refine wpAny_For (aM (E s S R) λxv s1 q=>aM q λit s2 q=>?_) hs;refine n7 q ?_;rintro I wr J L M a rfl rfl S2 x2 Q;refine bu Q λfr T U=>aL U λcj h1=>au h1 λl0 w y=>?_;intro ee h6;refine bu (T h M J S2 fY λb hb=>.inl hb) λX W Y=>Mx (rl A h wr d H I cj (bh h G s.heap) s) ?_ a.length (.mk J L M M J a l0 S2 x2.any X W fY ((R.ext S x2).sub λY Y e=>w.lookup e) y);intro n s' i;refine y7 O hh (λY Y Y Y Y x' k z b o e g n=>z b o (k b o (λhb=>fr b hb o e g) (x' b o e g n).1) (x' b o e g n).2 n) ee i (λh3 h7 G' l' S3 x3 R3 B=>Ds (.mk h3 h7 G' aa S3 x3 ⟨l',R3,h6 _ _ B⟩)) λx c l2 h4 h8 G' S4 R4 p D xx=>aM (p (sW s h4 h8) S4 R4) λf s5 q=>q _ ?_;clear q;intro h5 r G5 h9 S5 z q;subst h9;cases f with
 |next=>exact au q λl5 R5 B=>D h5 r G5 l5 S5 z R5 B
 |cont=>exact au q λl5 R5 B=>D h5 r G5 l5 S5 z R5 B
 |brk=>exact q.elim
 |ret v=>exact(.mk h5 r G5 aa S5 (xx _ _ z) q)
inductive y8(own:ae aZ)(env:dK)(cj:ah->Ls->AH->Prop)(G:AH)(s:cI):ah->cI->Prop
 |mk {n:ah} (h':cH) (tk:ah) (G':AH) (l':Ls):St own G' h'->bh own G s.heap G' h'->FR env own (bo l') G' h'->cj n l' G'->y8 own env cj G s n (sW s h' tk)
theorem My(O:cS a)(cj:ah->Ls->AH->Prop)(h0:Wk (cj n) l G)
 (ee:∀n l G,cj n l G->TV A a b j (bo l) G λc d=>(c=ao->SV A a b k l d (λx y=>∃m,m<n/\Wk (cj m) x y) (λx y=>∃m,m<n/\Wk (cj m) x y) Rt)/\(c=ax->N l d)):
 XV A a b (.While j k [] h4) l G N C Rt:=λs S R=>by
 refine wpAny_While<|au h0 λl0 o p=>codeAny_whileLoop (y8 b a cj G s) ?_ n (.mk s.heap s.toks G l0 S fY (R.sub λY Y e=>o.lookup e) p)
 intro n s' i;cases i with|mk h1 z G1 H I J L B=>?_
 refine aM (ee n H G1 B (sW s h1 z) I L) λc s2 q=>q _ ?_;clear q;intro M r G2 g Q D q;subst g;have T:=L.ext I D;cases c with
 |false=>exact Ds (.mk M r G2 aa Q (J.trans D.any) ⟨H,T,q.2 aa⟩)
 |true=>
  refine aM (q.1 aa (sW s M r) Q T) λf s3 q=>q _ ?_;clear q;intro u h w g U x3 q;subst g
  have W:=J.trans (D.any.trans x3)
  have t:(∃E,FR a b (bo E) w u/\∃m,m<n/\Wk (cj m) E w)->∃m,m<n/\y8 b a cj G s m (sW s u h):=λq=>au q λE R5 q=>au q λm hm q=>au q λl6 sb iv=>⟨m,hm,.mk u h w l6 U W (R5.sub λY Y e=>sb.lookup e) iv⟩
  cases f with
  |next=>exact t q
  |cont=>exact t q
  |brk=>exact q.elim
  |ret v=>exact(.mk u h w aa U W q)
theorem Mz(f)
 (w:∀n k p,f (n,k) p=if(k==jU)=ao then(y9 env n>>=λa=>bg (.yield ((n,a)::p))) else bg (.yield p)):
 ∀(g:ae (aN×hZ))(d:ae (aN×aZ)),(∀x∈g,x.2=.free->(env.cells.lookup x.1).isSome=ao)->(∀x c,d.lookup x=ac c->env.cells.lookup x=ac c)->
 ∃i,forIn g d f=(bg i:jS _)/\(∀x c,i.lookup x=ac c->env.cells.lookup x=ac c)/\(∀x,(d.lookup x).isSome=ao\/(x,jU)∈g->(i.lookup x).isSome=ao):=by
 intro y;induction y with
 |nil=>exact@λd Y o=>⟨d,by rw[List.forIn_nil],o,λx h=>h.elim id λq=>nomatch q⟩
 |cons z r l=>
  exact@λd t o=>by
   obtain⟨n,k⟩:=z;rw[List.forIn_cons,w];have u:=λx j=>t x (ba _ j);by_cases hk:(k==jU)=ao
   ·have s:k=.free:=by simpa using hk
    subst s;refine aK (y2.mp (t (n,.free) aP aa)) λc v=>?_;rw[aR hk,(by unfold y9;rw[show env.cells.lookup n=ac c from v]:y9 env n=bg c),za,za];refine aL (l ((n,c)::d) u λx A j=>by
     rw[ez] at j;cases m:x==n with
     |true=>rw[m] at j;cases j;rw[jq.mp m];exact v
     |false=>rw[m] at j;exact o x A j) λi e a b=>cf i e a λx h=>b x ?_
    rw[ez];cases m:x==n with
    |true=>exact .inl aa
    |false=>
     refine aB h ?_ ?_<;>clear h<;>intro h
     ·exact .inl h
     ·refine aB (bj.mp h) (λh=>?_) (λh=>?_)
      ·cases h;simp at m
      ·exact .inr h
   ·rw[aQ hk,za];refine aL (l d u o) λi e a b=>cf i e a λx h=>b x<|aB h ?_ ?_<;>intro h
    ·exact .inl h
    ·refine aB (bj.mp h) (λh=>?_) (λh=>?_)
     ·cases h;exact bv aa hk
     ·exact .inr h
theorem zb(j:∀x∈d.names,x.2=.free->(f.cells.lookup x.1).isSome=ao):
 ∃g,closureFor d f=bg g/\(∀x c,g.lookup x=ac c->f.cells.lookup x=ac c)/\(∀x,(x,jU)∈d.names->(g.lookup x).isSome=ao):=by refine aL (Mz (env:=f) (λx i=>if(x.2==jU)=ao then(y9 f x.1>>=λa=>bg (.yield ((x.1,a)::i))) else bg (.yield i)) (λY Y Y=>rfl) d.names [] j (λY Y h=>by trivial)) λg e a b=>cf g ?_ a λx h=>b x (.inr h);unfold closureFor;simpa using e
theorem MA(d i j m h)(b)(f)(k g)(a):
 pU (.ListComp d [⟨i,j,[],0⟩,⟨m,h,[],0⟩] b f) 0 k g a=(do
  eE j.pos
  match<-ls k with
  |none=>bg (.done .next)
  |some v=>
   lx i k v
   ig i a v
   let mut l:=ao
   for c in([]:ae Expr) do
    if l then l<-isTrue c a (bN c a)
   if l then
    (do
     let x<-bN h a
     eE h.pos
     let x<-gh h a x
     let _<-zc (.compStart (.ListComp d [⟨i,j,[],0⟩,⟨m,h,[],0⟩] b f) 1 (<-gq [x] (rk x)) g a) a:jS mc)
   pV (.compLoop (.ListComp d [⟨i,j,[],0⟩,⟨m,h,[],0⟩] b f) 0 k g a)):=by
 have e:pU (.ListComp d [⟨i,j,[],0⟩,⟨m,h,[],0⟩] b f) 0 k g a=(do
  eE j.pos
  match<-ls k with
  |none=>bg (.done .next)
  |some v=>
   lx i k v
   ig i a v
   let mut l:=ao
   for c in([]:ae Expr) do
    if l then l<-isTrue c a (bN c a)
   if l then
    let x<-bN h a
    eE h.pos
    let x<-gh h a x
    let _<-zc (.compStart (.ListComp d [⟨i,j,[],0⟩,⟨m,h,[],0⟩] b f) 1 (<-gq [x] (rk x)) g a) a
   pV (.compLoop (.ListComp d [⟨i,j,[],0⟩,⟨m,h,[],0⟩] b f) 0 k g a)):=by rfl
 rw[e]
 simp-zeta-zetaHave only[bind_assoc,za]
theorem MB{z:ae Expr}
 (heq:pU (.ListComp B o b C) d y D a=(do
  eE M
  match<-ls y with
  |none=>bg (.done .next)
  |some v=>
   lx J y v
   ig J a v
   let mut j:=ao
   for c in z do
    if j then j<-isTrue c a (bN c a)
   if j then w
   pV (.compLoop (.ListComp B o b C) d y D a)))
 (I:ah->cI->Prop)
 (E:∀n s,I n s->be (aY pg wd) A (ls y) (λr f=>match r with
  |none=>R (.ok .next) f
  |some v=>be (aY pg wd) A (lx J y v) (λY g=>be (aY pg wd) A (ig J a v) (λY p=>
   be (aY pg wd) A (forIn z ao λc r=>if r=ao then do let j<-isTrue c a (bN c a);bg (zd j) else bg (zd r)) (λj i=>
    if j=ao then be (aY pg wd) A w (λY q=>∃m,m<n/\I m q) (rn (aY pg wd) A a λe k=>R (.error e) k) i
    else∃m,m<n/\I m i) (rn (aY pg wd) A a λe k=>R (.error e) k) p) (rn (aY pg wd) A a λe k=>R (.error e) k) g) (rn (aY pg wd) A a λe k=>R (.error e) k) f) (rn (aY pg wd) A a λe k=>R (.error e) k) s)
 (n)(h:I n s):jO (aY pg wd) A (.compLoop (.ListComp B o b C) d y D a) R s:=by
 refine codeAny_loop aa I (λn s L=>?_) n h;refine wpAny_noted ?_;rw[heq];refine aG (nq (aG (iO (E n s L) (λr f t=>?_) λY Y l=>l)));cases r with
 |none=>exact bc t
 |some v=>
  refine aG (iO t (λY g x=>?_) λY Y l=>l)
  refine aG (iO x (λY p G=>aG (iO G (λj i u=>?_) λY Y l=>l)) λY Y l=>l)
  cases j with
  |false=>exact bc ⟨aa,u⟩
  |true=>exact aG (iO u (λY q H=>bc ⟨aa,H⟩) λY Y l=>l)
variable(A) in
def IV c a(b:jS mc)l G(M:Ls->AH->Prop):=∀s,St a G s.heap->FR c a (bo l) G s.heap->
 be (aY pg wd) A b (λY h=>∃d f e g,h=(sW s d f)/\St a e d/\bh a G s.heap e d/\FR c a (bo g) e d/\M g e) F0 s
variable(A) in
def ze a b(d:ae Expr)F G Q:=∀s,St b G s.heap->FR a b F G s.heap->
 be (aY pg wd) A (forIn d ao λc r=>if r=ao then do let e<-isTrue c a (bN c a);bg (zd e) else bg (zd r)) (PB b s G Q) F0 s
theorem DL(q:Q ao G):ze A a b [] F G Q:=λs S R=>wpAny_tests_nil (PB.here (tk:=s.toks) S q)
variable(A) in
def vW d e i g(f:jS mc)(cj:ae V->Ls->AH->Prop):=∀x b l G,cj (x::b) l G->∃a,lz d e i x l a/\ze A d e g (bo a) G λh c=>(h=ao->IV A d e f a c (Wk (cj b)))/\(h=ax->Wk (cj b) a c)
theorem DM
 (heq:pU (.ListComp t p j u) d (.ref I) w a=(do
  eE ip
  match<-ls (.ref I) with
  |none=>bg (.done .next)
  |some v=>
   lx J (.ref I) v
   ig J a v
   let mut y:=ao
   for c in N do
    if y then y<-isTrue c a (bN c a)
   if y then r
   pV (.compLoop (.ListComp t p j u) d (.ref I) w a)))
 (O:cS a)(hh:A.handled=ak){cj:ae V->Ls->AH->Prop}(S:St f G s.heap)(Rf:FR a f (bo l) G s.heap)(X:eH f L G s.heap)(W:pT A f L J I h G s.heap)
 (i0:Wk (cj h) l G)(ee:vW A a f J N r cj)
 (Q:∀M tk z l',St f z M->DK f L G s.heap z M->FR a f (bo l') z M->cj [] l' z->R (.ok .next) (sW s M tk)):
 jO (aY pg wd) A (.compLoop (.ListComp t p j u) d (.ref I) w a) R s:=by
 refine au i0 λl0 B C=>MB heq (rl A f L a J I cj (DK f L G s.heap) s) ?_ h.length
  (.mk s.heap s.toks G G s.heap h l0 S (λY Y e g Y Y=>⟨e,g⟩) X W fY (Rf.sub λY Y e=>B.lookup e) C)
 intro n s' i;refine y7 O hh (λY Y Y Y Y x' k D b o e g n m=>D b o (k b o m (x' b o e g n m).1) (x' b o e g n m).2 n) ee i Q λx h2 l2 h4 T z S4 R4 ts E xx=>aM (ts (sW s h4 T) S4 R4) λy s5 q=>q _ ?_;clear q;intro h5 H G5 U S5 D q;subst U;refine aw q ?_;clear q;intro q1 q2;have R5:=R4.ext S4 D;cases y with
 |false=>rw[aQ (aW aa)];exact E h5 H G5 l2 S5 D.any R5 (q2 aa)
 |true=>rw[aR aa];refine aM (q1 aa (sW s h5 H) S5 R5) λY s6 q=>mX q ?_;rintro h6 h1 G6 l6 rfl S6 x6 R6 iv;exact E h6 h1 G6 l6 S6 (D.any.trans x6) R6 iv
theorem MC(h:EV A c e g (bo l) G λy a=>∃d f,y=.d d/\a D=ac (.list f)/\f.length<=1000000/\M l (aE a D (.list (f++[d])))):
 IV A c e (do let _<-kx (.builtin "list.append") [.ref D,<-bN g c]) l G M:=λs S R=>by refine aG (aM (h s S R) ?_);refine ce λu p j q y r n i b=>jf b ?_;rintro d f rfl t w m;refine aG (aM (tv (A:=A) (Q:=λv x=>v=.none/\x=aE q D (.list (f++[d]))) t w ⟨aa,aa⟩ e (sW s p j) [.ref D,u] r (.cons (Is.raw _) (.cons i .nil))) ?_);refine ce λC z k E y B o Y b=>aw b ?_;rintro rfl rfl;exact bc ⟨z,k,_,l,aa,B,(n.trans o).any,R.ext S (n.trans o),m⟩
theorem MD{b:dK}(hk:k≠.free):∀{a:ae (aN×hZ)},a.lookup x=ac k->
 (a.map λ(n,k)=>if(k==jU&&b.scope.kind==.function&&b.kindOf n==ac .cell) then(n,zf) else(n,k)).lookup x=ac k
 :=by
  intro a;induction a with
  |nil=>exact λh=>h
  |cons y r e=>
   intro h
   obtain⟨n,d⟩:=y
   show ME x ((if(d==jU&&b.scope.kind==.function&&b.kindOf n==ac .cell)=ao then(n,zf) else(n,d))::_)=_
   cases c:x==n with
   |true=>simp-zeta-zetaHave only[ez,c] at h;cases h;simp[ez,c,(by cases k<;>first|rfl|exact bv aa hk:(k==jU)=ax)]
   |false=>
    simp-zeta-zetaHave only[ez,c] at h;by_cases f:(d==jU&&b.scope.kind==.function&&b.kindOf n==ac .cell)=ao
    ·rw[aR f];simp-zeta-zetaHave only[ez,c];exact e h
    ·rw[aQ f];simp-zeta-zetaHave only[ez,c];exact e h
theorem MG{b:dK}(i:b.scope.kind=.function)(j:b.kindOf x=ac .cell):∀{a:ae (aN×hZ)},a.lookup x=ac .free->
 (a.map λ(n,k)=>if(k==jU&&b.scope.kind==.function&&b.kindOf n==ac .cell) then(n,zf) else(n,k)).lookup x=ac .cell
 :=by
  intro a;induction a with
  |nil=>intro h;cases h
  |cons y r f=>
   intro h
   obtain⟨n,d⟩:=y
   show ME x ((if(d==jU&&b.scope.kind==.function&&b.kindOf n==ac .cell)=ao then(n,zf) else(n,d))::_)=_
   cases c:x==n with
   |true=>simp-zeta-zetaHave only[ez,c] at h;cases h;have e:=jq.mp c;subst e;simp[i,j]
   |false=>
    simp-zeta-zetaHave only[ez,c] at h;by_cases g:(d==jU&&b.scope.kind==.function&&b.kindOf n==ac .cell)=ao
    ·rw[aR g];simp-zeta-zetaHave only[ez,c];exact f h
    ·rw[aQ g];simp-zeta-zetaHave only[ez,c];exact f h
noncomputable def vX(a b:ae (aN×hZ)):=a.all λx=>x.2 !=.free||((mb 0 b []).lookup x.1).isSome
noncomputable def md(c:ae aN)(a b:ae (aN×hZ)):=c.all λx=>a.lookup x==ac .free&&b.lookup x==ac .cell&&a.contains (x,.free)
def gi a b:=vX a b&&a.all (λx=>x.2 !=.cell)&&a.all (λx=>x.2 !=.local||a.lookup x.1==ac .local)
variable(A) in
def kE(h:dK)(b:ro)i f(c:aV->dK->jS mc)e d G(Fin:ae aA->AH->Prop):=
 ∀a D,cS a->pR a b.names->(∀p∈e,a.kindOf p.1=ac .cell)->G D=ak->
  ∃cj,Wk (cj d) e (aE G D (.list []))/\vW A a [a.locals] i f (c (.ref D) a) cj/\
   (∀l G,cj [] l G->∃g,G D=ac (.list g)/\Fin g (cL G D))
theorem zg{U tg B:Expr}{a:ro}{L:Ls}{RR:aV->aZ->Result->cI->Prop}
 (heq:∀it H d,pU (.ListComp U (⟨tg,B,M,0⟩::N) a h7) 0 it H d=(do
  eE ip
  match<-ls it with
  |none=>bg (.done .next)
  |some v=>
   lx tg it v
   ig tg d v
   let mut ok:=ao
   for c in M do
    if ok then ok<-isTrue c d (bN c d)
   if ok then h8 H d
   pV (.compLoop (.ListComp U (⟨tg,B,M,0⟩::N) a h7) 0 it H d)))
 (O:cS f)(KN:pR f t)(hh:A.handled=ak)(Q:a.kind=.function)(x9:gi a.names t=ao)(e1:md (L.map (·.1)) a.names t=ao)(e3:d5 L l)
 (h5:∀x c,cl.lookup x=ac c->f.cells.lookup x=ac c)(e4:∀x,(x,jU)∈a.names->(cl.lookup x).isSome=ao){Fin:ae aA->AH->Prop}(S:St J G s.heap)(R:FR f J (bo l) G s.heap)(S2:St J G2 T)(x2:bh [] G s.heap G2 T)
 (fr:∀b∈wr,∀o,s.heap.get? b=ac o->G b=ak->aC)(a1:tA A J tg I wr h9 G2 T)(hp:kE A f a tg M h8 L h9 G2 Fin)
 (a2:∀D C h' tk Gd ys m',St J Gd h'->bh [] G s.heap Gd h'->Gd D=ac (.list ys)->eH J [C] Gd h'->h'.Ns C m'->(∀o,s.heap.get? C=ac o->G C=ak->aC)->Fin ys (cL Gd D)->RR (.ref D) C (.ok .next) (sW s h' tk)):
 be (aY pg wd) A (C9 []) (λH j=>be (aY pg wd) A (newFunctionEnv a f.globals cl [] f.qual ak .none (ac f)) (λd e5=>jO (aY pg wd) A (.compStart (.ListComp U (⟨tg,B,M,0⟩::N) a h7) 0 (.ref I) H {d with scope:=relabel a f}) (RR H d.locals) e5) F0 j) F0 (sW s T e7):=by
 simp-zeta-zetaHave only[gi,fD,gK] at x9;refine aw x9 λw=>aw w λa3 x1=>?_;intro a8;refine kA (wpAny_newFunctionEnv (λy hy=>by have:=x1 y hy;simpa using this:∀y∈a.names,y.2≠.cell) (by intro y hy;simp at hy) (λh4 r E=>?_) Q);dsimp-zeta-zetaHave only at r E⊢;have gD:=S2.fresh (fE T);refine aw (S2.pushT {cls:=.type "list",data:=.seq ([]:ae aV).toArray} (.list []) aa λe x=>⟨_,_,e,bb.nil⟩) λS3 x3=>?_;generalize a4:T.push {cls:=.type "list",dict:=ak,data:=.seq ([]:ae aV).toArray}=h3 at r E S3 x3⊢;generalize hD:T.objs.size=D at gD S3 x3⊢;have C3:=fE h3;generalize hC:h3.objs.size=C at C3 r E⊢;have W:∀b o,T.get? b=ac o->h3.get? b=ac o:=λb o e=>a4▸gc _ e;have C2:T.get? C=ak:=by
  cases q:T.get? C with
  |none=>rfl
  |some o=>have:=W _ _ q;rw[C3] at this;cases this
 have h1:=λb o e=>E.extBut b o (λq=>by rw[q,C3] at e;cases e) (gc _ e);refine aw (S3.more h1) λS4 x4=>?_;have AC:eH J [C] (aE G2 D (.list [])) h4:=eH.fresh S3 (λb z=>by rw[bZ.mp z];exact C3) (λb z=>by rw[bZ.mp z];exact S3.fresh C3) λb z=>by rw[bZ.mp z];refine dz r λo es ep e hd Y=>cf o e (.inl (by unfold dJ;rw[hd];trivial)) (by unfold gV;rw[hd];trivial)
 have S5:St [C] (aE G2 D (.list [])) h4:=by
  have:=AC.wide S4;refine⟨λb o e=>?_,this.objs,λb z=>this.own b (gg _ z)⟩
  refine bu (this.base b o e) λq1 q2 q3=>ca q1 q2 λq=>q3 (gg _ q)
 have x5:=x3.trans x4;refine bu (a1 [C] _ h4 S5 x5 λb z=>.inr (by rw[bZ.mp z];exact C2)) λX5 W5 x7=>?_;have O5:cS (tC a cl C f):=⟨Q,O.glob,O.blt⟩
 have h:∀p∈L,a.names.lookup p.1=ac .free/\t.lookup p.1=ac .cell/\(p.1,jU)∈a.names:=λp hp=>by have:=gK.mp e1 p.1 (nr hp);simp-zeta-zetaHave only[fD,jq,oq] at this;exact ca this.1.1 this.1.2 this.2
 have kc:=λp hp=>MG O.kind (KN _ _ (h p hp).2.1 (aW aa)) (h p hp).1;have F5:FR (tC a cl C f) [C] (bo L) (aE G2 D (.list [])) h4:=by
  obtain⟨⟨m,hn,hv⟩,a9,x8⟩:=(R.ext S x2)
  refine⟨⟨_,r,λx v e=>?_⟩,bZ.mpr aa,λx c e=>?_⟩
  ·have hm:=mem_of_lookup e;refine au (hv x v (e3.lookup e)) λu i q=>bi u (Is.ext S2 x5.any i)<|aB q ?_ ?_;rotate_left;intro w;refine aw w λY a5=>au a5 λc hc hi=>?_;rotate_right;intro w;refine aw w λq Y=>?_
   ·rw[(KN x .cell (h _ hm).2.1 (aW aa))] at q;cases q
   ·refine aK (y2.mp (e4 x (h _ hm).2.2)) λc' e8=>?_;have:=h5 _ _ e8;rw[hc] at this;cases this;exact .inr ⟨.inl (kc _ hm),c,e8,hi.keeps λb o e=>h1 _ _ (W _ _ e)⟩
  ·refine bu (x8 x c (h5 _ _ e)) λw=>aK w λv0 hi=>λg n=>au (id hi) λo eo Y=>ca ⟨v0,hi.keeps λb o e=>h1 _ _ (W _ _ e)⟩ (x5 c o eo g (by simp)).2 λq=>?_;have q':c=C:=q;rw[q',C2] at eo;cases eo
 refine aL (hp (tC a cl C f) D O5 (λx k e hk=>MD hk e:pR (tC a cl C f) a.names) kc gD) λcj i0 ee dn=>?_;have h6:∀j:cI,j=(sW s h4 (e7+([]:ae (aN×aV)).length))->
  jO (aY pg wd) A (.compLoop (.ListComp U (⟨tg,B,M,0⟩::N) a h7) 0 (.ref I) (.ref D) (tC a cl C f)) (RR (.ref D) C) j:=by
  rintro j rfl;refine DM (heq (.ref I) (.ref D) (tC a cl C f)) O5 hh (s:=(sW s h4 (e7+([]:ae (aN×aV)).length))) S5 F5 X5 W5 i0 ee λh' tk G' l' S6 x6 F6 a6=>au (dn l' G' a6) λys a7 fy=>?_;have xf:=λb o e g Y=>by
   refine aw (x2 b o e g (by trivial)) λe2 g2=>?_;have nD:b≠D:=λq=>by rw[q,(hD▸fE T:T.get? D=ak)] at e2;cases e2
   have nC:b≠C:=λq=>by rw[q,C2] at e2;cases e2
   refine aw (x6 b o (h1 _ _ (W _ _ e2)) ((aU nD).trans g2) (by simpa using nC) λz=>fr b z o e g) λe6 g6=>aF e6 g6
  obtain⟨⟨m',e9,_⟩,_,_⟩:=F6;refine a2 D C h' tk _ ys m' (S.reown' S6 xf) xf a7 ?_ e9 (λo e g=>by have:=(x2 C o e g (by simp)).1;rw[C2] at this;cases this) fy;exact⟨AC.bnone,λb z=>(S6.own b z).1,AC.nown,λb z=>by rw[bZ.mp z];refine dz e9 λo es ep e hd Y=>cf o e (.inl (by unfold dJ;rw[hd];trivial)) (by unfold gV;rw[hd];trivial)⟩
 exact codeAny_compStart_list (h6 _ aa) (x7 _ _ _ aa (h6 _ aa))
theorem MH{B E f:Expr}{m:ae Expr}{H ip:cT}{i:ae (aN×hZ)}{Q:V->AH->Prop}
 (heq:∀U p d,pU (.ListComp B (⟨E,f,m,0⟩::z) a H) 0 U p d=(do
  eE ip
  match<-ls U with
  |none=>bg (.done .next)
  |some v=>
   lx E U v
   ig E d v
   let mut ok:=ao
   for c in m do
    if ok then ok<-isTrue c d (bN c d)
   if ok then J p d
   pV (.compLoop (.ListComp B (⟨E,f,m,0⟩::z) a H) 0 U p d)))
 (O:cS j)(EI:gM j i)(hh:A.handled=ak)(M:Ls)(h:let Q1:ae V->AH->Prop:=λr W=>kE A j a E m J M r W λys h1=>Q (.d (.list ys)) h1;iQ A j h3 E f (bo l) G Q1)
 (t:a.kind=.function)(u:gi a.names i=ao)(h4:md (M.map (·.1)) a.names i=ao)(h5:d5 M l)
 (hs:∀x,gh f j x=bg x):
 EV A j h3 (.ListComp B (⟨E,f,m,0⟩::z) a H) (bo l) G Q:=λs S R=>by
 have N:∀x∈a.names,x.2=.free->(j.cells.lookup x.1).isSome=ao:=λx hx hf=>by simp-zeta-zetaHave only[gi,vX,fD,gK] at u;have:=u.1.1 x hx;rw[hf] at this;refine aK EI.cells λL hc=>?_;rw[hc];exact(rj λY=>rfl).trans (this)
 have w:∀y∈a.names,y.2=.local->a.names.lookup y.1=ac .local:=λy hy hl=>by simp-zeta-zetaHave only[gi,fD,gK] at u;have:=u.2 y hy;rw[hl] at this;simpa using this
 refine aL (zb N) λcl T h6 h7=>?_;rw[eval_ListComp];refine DN (use:=ak) aa hs T t w (aM (h s S R) λxv s1 q=>aM q λU s2 q=>?_);refine n7 q ?_;rintro I wr h2 x7 G2 r rfl rfl S2 x2 x1;refine bu x1 λfr x3 hp=>?_;refine zg (RR:=λp C=>DO (aY pg wd) A F0 ak (PV h3 s G Q) p C) heq O EI.kind hh t u h4 h5 h6 h7 S R S2 x2 fr x3 hp λD C h' tk x8 ys m' S0 x0 x4 X0 x5 hC q=>aw (S0.drop D) λS' xd=>?_;have X':=X0.step xd.any;refine⟨m',x5,λh8 h9=>?_⟩
 have k:∀b o,b∉[C]->h'.get? b=ac o->h8.get? b=ac o:=λb o hb e=>h9.extBut b o (by simpa using hb) e;refine aw (X'.turn S' k) λx6 x9=>(.mk h8 tk _ (.d (.list ys)) aa x6 (λb o e g n=>?_) (X'.is S' k (v:=.d (.list ys)) (S0.list_read x4)) q)
 refine aw ((x0.trans xd) b o e g n) λe' g'=>aF (k b o (λhb=>?_) e') g';rw[bZ.mp hb] at e;rw[bZ.mp hb] at g;exact hC o e g
theorem DP{z E f:Expr}{m:ae Expr}{j:ae (aN×hZ)}
 (heq:∀U p i,pU (.ListComp z (⟨E,f,m,0⟩::more) a r) 0 U p i=(do
  eE ip
  match<-ls U with
  |none=>bg (.done .next)
  |some v=>
   lx E U v
   ig E i v
   let mut ok:=ao
   for c in m do
    if ok then ok<-isTrue c i (bN c i)
   if ok then inner p i
   pV (.compLoop (.ListComp z (⟨E,f,m,0⟩::more) a r) 0 U p i)))
 (O:cS d)(EI:gM d j)(hh:A.handled=ak)(H)(h:let Q1:ae V->AH->Prop:=λt W=>kE A d a E m inner H t W λys h3=>N ((y,.d (.list ys))::l) h3;iQ A d J E f (bo l) G Q1)
 (u:a.kind=.function)(w:gi a.names j=ao)(h4:md (H.map (·.1)) a.names j=ao)(h5:d5 H l)
 (hy:j.lookup y=ac .local)(x5:(a.names.any λ(n,k)=>n==y&&(k==.local||k==.cell))=ax)(h6:(py.line==r.line)=ao)
 (hs:∀x,gh f d x=bg x):
 XV A d J (.Assign [.Name y py] (.ListComp z (⟨E,f,m,0⟩::more) a r) h7) l G N C Rt:=λs S R=>by
 have M:∀x∈a.names,x.2=.free->(d.cells.lookup x.1).isSome=ao:=λx hx hf=>by simp-zeta-zetaHave only[gi,vX,fD,gK] at w;have:=w.1.1 x hx;rw[hf] at this;refine aK EI.cells λL hc=>?_;rw[hc];exact(rj λY=>rfl).trans (this)
 have B:∀y∈a.names,y.2=.local->a.names.lookup y.1=ac .local:=λy hy hl=>by simp-zeta-zetaHave only[gi,fD,gK] at w;have:=w.2 y hy;rw[hl] at this;simpa using this
 have ky:=EI.kind y .local hy (aW aa);have x6:gf (.ListComp z (⟨E,f,m,0⟩::more) a r) (ac (.Name y py)) h7.line d=bg ao:=by show(bg (d.blockKind==.function&&d.kindOf y==ac .local&&py.line==r.line&&!(a.names.any λ(n,k)=>n==y&&(k==.local||k==.cell))):jS bP)=bg ao;rw[(by unfold tD;rw[O.kind];rfl:(d.blockKind==DQ)=ao),ky,h6,x5];rfl
 refine aL (zb M) λcl T h8 h9=>?_;rw[MI _ _ _ _ x6];refine aG (nq (aG ?_));refine aG (iO (DN (use:=ac (ig (.Name y py) d)) (Q:=λY s'=>PF d J s G N C Rt .next s') aa hs T u B
  (aM (h s S R) λxv s1 q=>aM q λU s2 q=>?_)) (λY s' hq=>bc (bc hq)) λY Y e=>e)
 refine n7 q ?_;rintro I wr h2 e4 G2 t rfl rfl S2 x2 x7;refine bu x7 λfr x8 hp=>?_;refine zg (RR:=λp C'=>DO (aY pg wd) A F0 (ac (ig (.Name y py) d)) (λY s'=>PF d J s G N C Rt .next s') p C') heq O EI.kind hh u w h4 h5 h8 h9 S R S2 x2 fr x8 hp λD C' h' tk e5 ys m' S0 x0 x9 X0 e1 hC q=>aw (S0.drop D) λS' xd=>?_;have x':=x0.trans xd;have X':=X0.step xd.any;refine y6 (lr O (s:=sW s h' tk) (v:=.d (.list ys)) S' (R.ext S x') (.inl ky) (S0.list_read x9) λh1 e2 S1 x1 R1=>?_);have X1:=X'.step x1;refine bi m' (e1.at' λo e=>(x1 _ o e (X'.gnone _ (aP)) (X'.nown _ (aP))).1) λx3 x4=>?_;have k:∀b o,b∉[C']->h1.get? b=ac o->x3.get? b=ac o:=λb o hb e=>x4.extBut b o (by simpa using hb) e;refine aw (X1.turn S1 k) λe3 e6=>(.mk x3 e2 _ aa e3 (λb o e g n=>?_) ⟨(y,.d (.list ys))::l,?_,q⟩)
 ·refine aw ((x'.any.trans x1) b o e g n) λe' g'=>aF (k b o (λhb=>?_) e') g';rw[bZ.mp hb] at e;rw[bZ.mp hb] at g;exact hC o e g
 ·rw[lq] at R1;exact X1.fr S1 k R1
theorem MJ(h:G a=ac o):aE (cL G a) a o=G:=by
 funext b;by_cases e:b=a
 ·subst e;rw[bG,h]
 ·rw[aU e,ku e]
theorem MK{B H f:Expr}{m:ae Expr}{j:ae (aN×hZ)}
 (heq:∀it p i,pU (.ListComp B (⟨H,f,m,0⟩::r) a t) 0 it p i=(do
  eE ip
  match<-ls it with
  |none=>bg (.done .next)
  |some v=>
   lx H it v
   ig H i v
   let mut ok:=ao
   for c in m do
    if ok then ok<-isTrue c i (bN c i)
   if ok then M p i
   pV (.compLoop (.ListComp B (⟨H,f,m,0⟩::r) a t) 0 it p i)))
 (O:cS d)(EI:gM d j)(hh:A.handled=ak)(T)(h:let Q1:ae V->AH->Prop:=λu h4=>kE A d a H m M T u h4 λys J=>∀D,J D=ak->N ((y,.ref D)::l) (aE J D (.list ys));iQ A d U H f (bo l) G Q1)
 (w:a.kind=.function)(z:gi a.names j=ao)(h5:md (T.map (·.1)) a.names j=ao)(h6:d5 T l)
 (hy:j.lookup y=ac .local)(x6:(a.names.any λ(n,k)=>n==y&&(k==.local||k==.cell))=ax)(h7:(py.line==t.line)=ao)
 (hs:∀x,gh f d x=bg x):
 XV A d U (.Assign [.Name y py] (.ListComp B (⟨H,f,m,0⟩::r) a t) h8) l G N C Rt:=λs S R=>by
 have W:∀x∈a.names,x.2=.free->(d.cells.lookup x.1).isSome=ao:=λx hx hf=>by simp-zeta-zetaHave only[gi,vX,fD,gK] at z;have:=z.1.1 x hx;rw[hf] at this;refine aK EI.cells λL hc=>?_;rw[hc];exact(rj λY=>rfl).trans (this)
 have E:∀y∈a.names,y.2=.local->a.names.lookup y.1=ac .local:=λy hy hl=>by simp-zeta-zetaHave only[gi,fD,gK] at z;have:=z.2 y hy;rw[hl] at this;simpa using this
 have ky:=EI.kind y .local hy (aW aa);have x7:gf (.ListComp B (⟨H,f,m,0⟩::r) a t) (ac (.Name y py)) h8.line d=bg ao:=by show(bg (d.blockKind==.function&&d.kindOf y==ac .local&&py.line==t.line&&!(a.names.any λ(n,k)=>n==y&&(k==.local||k==.cell))):jS bP)=bg ao;rw[(by unfold tD;rw[O.kind];rfl:(d.blockKind==DQ)=ao),ky,h7,x6];rfl
 refine aL (zb W) λcl h3 h9 x3=>?_;rw[MI _ _ _ _ x7];refine aG (nq (aG ?_));refine aG (iO (DN (use:=ac (ig (.Name y py) d)) (Q:=λY s'=>PF d U s G N C Rt .next s') aa hs h3 w E
  (aM (h s S R) λxv s1 q=>aM q λit s2 q=>?_)) (λY s' hq=>bc (bc hq)) λY Y e=>e)
 refine n7 q ?_;rintro I wr h2 e5 G2 u rfl rfl S2 x2 x8;refine bu x8 λfr x9 hp=>?_;refine zg (RR:=λp C'=>DO (aY pg wd) A F0 (ac (ig (.Name y py) d)) (λY s'=>PF d U s G N C Rt .next s') p C') heq O EI.kind hh w z h5 h6 h9 x3 S R S2 x2 fr x9 hp ?_;intro D C' h' tk Gd ys m' S' x' e1 X' e2 hC q;have q:=q D (n9 ..);rw[MJ e1] at q;refine y6 (lr O (s:=sW s h' tk) (v:=.ref D) S' (R.ext S x') (.inl ky) (Is.raw _) λh1 e3 S1 x1 R1=>?_);have X1:=X'.step x1;refine bi m' (e2.at' λo e=>(x1 _ o e (X'.gnone _ (aP)) (X'.nown _ (aP))).1) λx4 x5=>?_;have k:∀b o,b∉[C']->h1.get? b=ac o->x4.get? b=ac o:=λb o hb e=>x5.extBut b o (by simpa using hb) e;refine aw (X1.turn S1 k) λe4 e6=>(.mk x4 e3 _ aa e4 (λb o e g n=>?_) ⟨(y,.ref D)::l,?_,q⟩)
 ·refine aw ((x'.any.trans x1) b o e g n) λe' g'=>aF (k b o (λhb=>?_) e') g';rw[bZ.mp hb] at e;rw[bZ.mp hb] at g;exact hC o e g
 ·rw[lq] at R1;exact X1.fr S1 k R1
theorem ML
 (j:jO (aY pg wd) A (.compLoop (.ListComp d [⟨k,l,[],0⟩,⟨m,n,[],0⟩] a e) 1 o f b) R s)
 (h:be (aY pg wd) A (rk o) (λc g=>jO (aY pg wd) A (.compLoop (.ListComp d [⟨k,l,[],0⟩,⟨m,n,[],0⟩] a e) 1 c f b) R g) (rn (aY pg wd) A b λx g=>R (.error x) g) s):
 jO (aY pg wd) A (.compStart (.ListComp d [⟨k,l,[],0⟩,⟨m,n,[],0⟩] a e) 1 o f b) R s:=by
 refine MM<|wpAny_notedAt ?_
 unfold compStart;refine aG (wpAny_askSetting (wpAny_ite ?_));split
 ·first
   |exact aG (bc (bc (zh aa j)))
   |exact bc (zh aa j)
 ·first
   |exact aG (vw (aG (nq (aG (iO h (λc g i=>bc (zh aa i)) λY Y x=>x)))))
   |(refine aG (vw ?_);exact aG (nq (aG (iO h (λc g i=>bc (zh aa i)) λY Y x=>x))))
theorem MN(O:cS a)(hh:A.handled=ak)
 (h:let Q1:ae V->AH->Prop:=λd p=>∃cj,Wk (cj d) l p/\vW A a c y [] (do let _<-kx (.builtin "list.append") [.ref D,<-bN t a]) cj/\(∀l G,cj [] l G->M l G);iQ A a c y j (bo l) G Q1)
 (hs:∀x,gh j a x=bg x):
 IV A a c (do
  let x<-bN j a
  eE j.pos
  let x<-gh j a x
  let _<-zc (.compStart (.ListComp t [⟨t1,i1,[],0⟩,⟨y,j,[],0⟩] i z) 1 (<-gq [x] (rk x)) (.ref D) a) a:jS mc) l G M:=λs S R=>by
 refine aG (aM (h s S R) λxv s1 q=>aG (nq (aG (MO (hs _) (aG (gs (aM q λit s2 q=>aG (wpAny_runOwn ?_))))))))
 refine n7 q ?_;rintro I wr B u G2 d rfl rfl Q T C;refine bu C λfr E H=>aL H λcj i0 ee dn=>?_
 refine bu (E c G2 B Q fY λb J=>.inl J) λX W v=>?_
 have U:jO (aY pg wd) A (.compLoop (.ListComp t [⟨t1,i1,[],0⟩,⟨y,j,[],0⟩] i z) 1 (.ref I) (.ref D) a) (λr Y=>match r with
  |.ok f=>∃k L m w,Y=(sW s k L)/\St c m k/\bh c G s.heap m k/\FR a c (bo w) m k/\M w m
  |.error e=>aC) (sW s B u):=by refine DM ((by rfl)) O hh (s:=sW s B u) Q (R.ext S T) X W i0 ee λk tk m w S' x' R' N=>sP k tk m w aa S' (λb o e g n=>?_) R' (dn _ _ N);refine aw (T b o e g (by simp)) λe2 g2=>x' b o e2 g2 n λJ=>fr b J o e g
 refine oh (ML U (v _ _ _ aa U)) λr Y q=>?_
 cases r with
 |ok f=>exact bc q
 |error e=>exact q.elim
theorem MP(C)(a):(tE "type.__call__" ⟨.ref C::a,[]⟩).cUnits<=10:=by have:(tE "type.__call__" ⟨.ref C::a,[]⟩).cUnits=(tE "type.__call__" ⟨[.ref 0],[]⟩).cUnits:=aa;rw[this];decide+kernel
theorem cA.under_tc(R:cA A (n+1))(C)(b):cA (A.under (.builtin "type.__call__" ⟨.ref C::b,[]⟩)) n:=⟨R.hd,by have:=R.depth;have:=(by have:(tE "type.__call__" ⟨.ref C::b,[]⟩).weight=(tE "type.__call__" ⟨[.ref 0],[]⟩).weight:=aa;rw[this];decide+kernel:(tE "type.__call__" ⟨.ref C::b,[]⟩).weight<=1);(rename_i a;exact aj [_,_,_,_] 0x11f392b290111c392b9182110c180 aa a this),by have:=R.units;have:=MP C b;(rename_i a;exact aj [_,_,_,_] 0x11f3988ce98b2e290111c3988ce98b2e9182110ca80 aa a this)⟩
noncomputable def rp:V->bP
 |.raw (.builtin _)=>ax
 |_=>ao
theorem MQ(i:Is G h u v)(e:rp v=ao):rc u=ao:=by
 cases v with
 |d x=>have f:=i;cases f<;>rfl
 |raw w=>obtain rfl:u=w:=i;cases u<;>first|rfl|cases e
 |rng a b c=>refine vf (show∃r g j k,u=.ref r/\yd h r a b c g j k from i) ?_;rintro r Y Y Y rfl Y;assumption
 |tup l=>rw[sX] at i;refine fa i ?_;rintro a Y Y rfl Y;assumption
theorem DR{K:cg}(H:cn K Bh)(I:cA A (n+1))(J:DT K C=ao)(L:ec K (.ref C) "__init__"=ac (ac (.ref w)))(M:om K (.ref w)=ac (.type "function"))
 (h:∀x k z,cA z n->G x=ak->G k=ak->x≠k->fe z (.ref w) (.ref x::b) (aE (aE G k (.attrs [])) x (.inst C k)) (λv N=>v=.none/\Q (.ref x) N)):cF A (.ref C) b G Q:=by
 refine yx λl s B S i=>?_;obtain⟨a,g,d,t,os⟩:=s;have X:=H.kin.keeps S.keep;refine make_core (makes_of X J) (vY X L) (λc=>bind_fn X c M) (.inl aa) ?_;have T:=S.fresh (fE a:a.get? a.objs.size=ak);refine aw (S.pushT tF (.attrs []) aa λe x=>⟨λY=>ak,MR ⟨_,#[],0,e,aa,λe U=>bv U (by simp),λY=>rfl⟩,eX _,λy=>by simp⟩) λW x1=>?_;have f:(a.push tF).objs.size=a.objs.size+1:=vZ ..;have hx:=f▸fE _;have gx:G (a.objs.size+1)=ak:=by
  cases q:G (a.objs.size+1) with
  |none=>rfl
  |some p=>refine aK (S.get q) λob e=>bv (fZ e) (aj [_] 351310208 aa)
 refine aw (W.pushT (yr C a.objs.size) (.inst C a.objs.size) aa λe Y=>e) λD E=>?_;rw[f] at D E;have j:=x1.trans E;refine oh (h (a.objs.size+1) a.objs.size (A.under (.builtin "type.__call__" ⟨.ref C::B,[]⟩)) (I.under_tc _ _) gx T (DU _) l ⟨_,g,d,t,os⟩ (.ref (a.objs.size+1)::B) D (.cons (Is.raw _) (c7.ext S j.any i))) λr s' q=>?_;rcases r with e|(v|_|_|v)<;>first|exact q.elim|skip
 refine q _ ?_;clear q;intro h3 m G3 y o S3 x3 iy qz;subst o;obtain⟨rfl,q⟩:=qz;have u:=iy;cases u;exact⟨aa,.mk h3 m G3 (.ref (a.objs.size+1)) aa S3 (j.trans x3) (Is.raw _) q⟩
theorem MS{m:aN->bB aV}(i:Is G h u v)(c:rc u=ao)
 (q:∀x,match d.lookup x with|some v=>∃u,m x=ac u/\Is G h u v/\rc u=ao|none=>m x=ak):
 ∀x,match((a,v)::d).lookup x with|some v=>∃b,(if x=a then ac u else m x)=ac b/\Is G h b v/\rc b=ao|none=>(if x=a then ac u else m x)=ak:=λx=>by
 rw[ez];by_cases e:x=a
 ·rw[jq.mpr e,aR e];exact cf u aa i c
 ·rw[pQ.mpr e,aQ e];exact q x
def iR K C a:=
 ec K (.ref C) "__setattr__"=ac (ac (.builtin "object.__setattr__"))/\
 plainOver K C=ao/\
 zi K C a=ac ak/\
 (zj K C).any (·.hasDict)=ao
def iR.set{K:cg}(b:iR K C a):=b.1
def iR.plain{K:cg}(b:iR K C a):=b.2.1
def iR.taker{K:cg}(b:iR K C a):=b.2.2.1
def iR.dict{K:cg}(b:iR K C a):=b.2.2.2
theorem zk(i:St k f s.heap)(g:f j=ac (.attrs fs))(x:Is f s.heap u v)(C:fs.length<50)(D:rp v=ao)
 (q:∀e l,St k (aE f j (.attrs ((d,v)::fs))) e->bh [] f s.heap (aE f j (.attrs ((d,v)::fs))) e->Q (.done (.ret .none)) (sW s e l)):
 be (aY pg wd) A (MT j (.str d U) d u) Q E s:=by
 refine aL (i.objs j _ g) λm G n z=>?_;delta MT abk;refine aG (bc (aG (wpAny_nsSet1 G λe h o=>?_)));have H:Within m (fs.map (·.1)):=λy I=>by
  have:=z y;cases q:fs.lookup y with
  |none=>rw[q] at this;exact bv this I
  |some v=>exact bV.mpr ⟨_,mem_of_lookup q,aa⟩
 refine dz (h.count (Within.cons d u H)) λoD J L p r t=>aG (wpAny_lookBehind p (by rw[r];exact pastItsLine_dict (bn t (by rw[cG,aI,eF];exact aj [_] 0x10f918080e0e0e0e0e1e918010c283e0 aa n))) ?_);refine aw (i.change (h':=e) (o':=.attrs ((d,v)::fs)) g (λb M=>o.2 b M) λB=>
  ⟨_,h,by rw[cG];exact aj [_] 0x10f283e918011c283e0 aa C,MS (Is.ext i B.any x) (MQ x D) λy=>by
   have:=z y;revert this;cases fs.lookup y with
   |none=>exact id
   |some v=>intro w;refine aL w λu a b c=>cf u a (Is.ext i B.any b) c⟩) λN T=>?_
 exact bc (q e _ N T)
theorem MU{K:cg}(hB:cn K Bh)
 (h:let Q1:V->AH->Prop:=λv t=>EV A g w o (bo l) t λT c=>∃x C n z,T=.ref x/\c x=ac (.inst C n)/\c n=ac (.attrs z)/\iR K C d/\z.length<50/\rp v=ao/\N l (aE c n (.attrs ((d,v)::z)));EV A g w e (bo l) G Q1)
 (hs:gf e (ac (.Attribute o d p)) E.line g=bg ax):XV A g w (.Assign [.Attribute o d p] e E) l G N C Rt:=λs S R=>by
 refine DV (aM (h s S R) ?_) hs;refine ce ?_;rintro u h1 h4 G1 v U H i k;refine aM (k _ U (R.ext S H))<|ce λou r f G2 T B J j L=>pC L ?_;rintro x C n z rfl hx y D hl hv q
 obtain rfl:ou=.ref x:=j;have X:K.In r:=hB.kin.keeps (St.keep (s:=sW s r f) B);refine aL (B.objs n _ y) λm hn Y Y=>jK (id hn) λod es ep e2 h5 h6 h7 h8=>?_;have I:InstAt r x (yr C n) C (ac od):=⟨(B.objs x _ hx),aa,aa,e2⟩
 have i2:=Is.ext U J.any i;refine DW (s:=sW s r f) X I D.set<|osa_open (s:=(sW s r (f+1))) X I D.plain D.taker λb=>au (any_some D.dict) λcd hc M=>?_
 obtain⟨Q,h9,x4,-⟩:=I;refine aG (bc (aG (aG (DX Q (aG ((zl X hc).here ?_))))));rw[M];refine bc (a:=ac n)<|zk (s:=(sW s r (f+1))) B y i2 hl hv λh3 x5 S3 W=>(.mk h3 _ _ aa S3 ((H.trans (J.trans W)).any) ⟨l,R.ext S (H.trans (J.trans W)),q⟩)
theorem MV(S:St b G s.heap)(i:c7 G s.heap a d)(q:Q (.tup d) G)(c:a.length<=js):
 be (aY pg wd) A (yC a) (PV b s G Q) F0 s:=by
 refine aw (S.push {cls:=.type "tuple",data:=.seq a.toArray}) λf e=>kA ?_ (by show a.toArray.size<=js;rw[tq];exact c);refine(.mk _ s.toks G (.tup d) aa f e ?_ q)
 rw[sX];exact pB _ a.toArray _ aa (fc _ aa) ((c7.ext S e.any i).l)
theorem zm(h:let g:ae V->AH->Prop:=λvs a=>vs.length<=1000/\Q (.tup vs) a;gp A c d b F G g):
 EV A c d (.Tuple b k e) F G Q:=λs S R=>by refine Tuple_ (aM (h s e S R) ?_);refine ng λo r j t x l m i f=>aw f λn q=>?_;exact aM (MV l i q (by have:=i.length;rw[eF];exact aj [_,_] 0x10f080e0e0e0e0e1e112c0110c88ee3e0 aa this n)) λY Y p=>PV.up m p
theorem MW(O:cS b)(r:A.handled=ak)(h:let t:V->AH->Prop:=λv f=>∃d,lz b g (.Tuple c k p) v l d/\N d f;EV A b g e (bo l) G t)
 (w:DY [.Tuple c k p] e j.line b=bg ax)(x:ot [.Tuple c k p] e b=bg ak):
 XV A b g (.Assign [.Tuple c k p] e j) l G N C J:=λs S R=>by refine MX (aM (h s S R) ?_) w x;refine ce λu L y z v B o i m=>au m λl2 a q=>?_;exact DH O r a B (R.ext S o) i λD n E H I=>(.mk D n z aa E (o.any.trans H) ⟨l2,I,q⟩)
noncomputable def nt e:=abl (λY=>bP) e (λY Y=>ao) λY=>ax
theorem MY(O:cS c)(hh:A.handled=ak)(T:c.kindOf a=ac .local)(U:c.kindOf b=ac .local)
 (h:let Q1:V->AH->Prop:=λv g=>∃x y,ly v=ac [x,y]/\N ((a,x)::(b,y)::l) g;EV A c E (.Tuple [m,r] k' p') (bo l) G Q1)
 (H:(b==a)=ax)(hl:(w.line==d.line)=ao)
 (I:([m,r].any nt)=ax)(z:[m,r].all (rq 8)=ax)(J:[m,r].all (rr 8)=ax):
 XV A c E (.Assign [.Tuple [.Name a d,.Name b w] k p] (.Tuple [m,r] k' p') h5) l G N C Rt:=λs S R=>by
 refine MZ (names:=[a,b]) (aM (h s S R) ?_) aa ((by
  unfold ot;dsimp only;rw[(by unfold tD;rw[O.kind];rfl:c.blockKind=.function),(λf e1 e2=>by simp[e1,e2]:∀f,f (.Name a d)=ac a->f (.Name b w)=ac b->[v4 a d,v4 b w].filterMap f=[a,b]),(by simp[M0,H]:[a,b].eraseDups=[a,b]),z,J,aQ (aW aa)]
  ·split
   ·rename_i q;exact bv (q.symm.trans I) (aW aa)
   ·rw[aQ (aW aa)];rfl
  ·exact aR (by rw[T];show(ao&&(d.line==d.line))=ao;simp)
  ·exact aR (by rw[U];show(ao&&(w.line==d.line))=ao;rw[hl];rfl)))
 refine ce λu I j G1 v B W i L=>cQ L λx y e q=>?_;refine DF i e λt n u1 u2 ho i1 i2=>M3 hh (items:=#[u1,u2]) ⟨_,ho,aa,_,aa⟩ λz hx=>aw (B.more (h':=z) λb o e=>hx b o (kD (fZ e)) e) λY D=>aG (gs (v5 (lr O (s:=sW s z j) Y (FR.ext (s:=sW s I j) (R.ext S W) B D) (.inl U) (Is.ext B D.any i2) λJ M S3 x3 R3=>?_)));refine aG (gs (v5 (lr O (s:=sW s J M) S3 R3 (.inl T) (Is.ext Y x3 (Is.ext B D.any i1)) λh4 Q S4 x4 R4=>bc ?_)));rw[lq,lq] at R4;exact(.mk h4 Q G1 aa S4 (W.any.trans (D.any.trans (x3.trans x4))) ⟨_,R4,q⟩)
theorem zn(O:cS d)(hh:A.handled=ak)(ka:d.kindOf a=ac .local)(kb:d.kindOf b=ac .local)(kc:d.kindOf c=ac .local)
 (h:let Q1:V->AH->Prop:=λv j=>∃x y z,ly v=ac [x,y,z]/\N ((a,x)::(b,y)::(c,z)::l) j;EV A d L (.Tuple [B,D,E] k' p') (bo l) G Q1)
 (M:(b==a)=ax)(Q:(c==a)=ax)(T:(c==b)=ax)(hl:(H.line==g.line)=ao)(U:(I.line==g.line)=ao)
 (W:([B,D,E].any nt)=ax)(J:[B,D,E].all (rq 8)=ax)(Y:[B,D,E].all (rr 8)=ax):
 XV A d L (.Assign [.Tuple [.Name a g,.Name b H,.Name c I] k p] (.Tuple [B,D,E] k' p') x6) l G N C Rt:=λs S R=>by
 refine MZ (names:=[a,b,c]) (aM (h s S R) ?_) aa ((by
  unfold ot;dsimp only;rw[(by unfold tD;rw[O.kind];rfl:d.blockKind=.function),(λf e1 e2 e3=>by simp[e1,e2,e3]:∀f,f (.Name a g)=ac a->f (.Name b H)=ac b->f (.Name c I)=ac c->[v4 a g,v4 b H,v4 c I].filterMap f=[a,b,c]),(by simp[M0,M,Q,T]:[a,b,c].eraseDups=[a,b,c]),J,Y,aQ (aW aa)]
  ·split
   ·rename_i q;exact bv (q.symm.trans W) (aW aa)
   ·rw[aQ (aW aa)];rfl
  ·exact aR (by rw[ka];show(ao&&(g.line==g.line))=ao;simp)
  ·exact aR (by rw[kb];show(ao&&(H.line==g.line))=ao;rw[hl];rfl)
  ·exact aR (by rw[kc];show(ao&&(I.line==g.line))=ao;rw[U];rfl)))
 refine ce λu W m G1 v r x1 i h6=>fa h6 λx y z e q=>?_;refine DG i e λt n u1 u2 u3 ho i1 i2 i3=>M3 hh (items:=#[u1,u2,u3]) ⟨_,ho,aa,_,aa⟩ λJ hx=>aw (r.more (h':=J) λb o e=>hx b o (kD (fZ e)) e) λS2 w=>aG (gs (v5 (lr O (s:=sW s J m) S2 (FR.ext (s:=sW s W m) (R.ext S x1) r w) (.inl kc) (Is.ext r w.any i3) λY h7 S3 x3 R3=>?_)));refine aG (gs (v5 (lr O (s:=sW s Y h7) S3 R3 (.inl kb) (Is.ext S2 x3 (Is.ext r w.any i2)) λh4 h8 S4 x4 R4=>?_)));refine aG (gs (v5 (lr O (s:=sW s h4 h8) S4 R4 (.inl ka) (Is.ext S3 x4 (Is.ext S2 x3 (Is.ext r w.any i1))) λh5 h9 S5 x5 R5=>bc ?_)));rw[lq,lq,lq] at R5;exact(.mk h5 h9 G1 aa S5 (x1.any.trans (w.any.trans (x3.trans (x4.trans x5)))) ⟨_,R5,q⟩)
theorem M4
 (h:let E:V->AH->Prop:=λv f=>EV A d e o (bo l) f λa g=>EV A d e i (bo l) g λb j=>jQ A a b v j λm=>N l m;EV A d e c (bo l) G E)
 (H:gf c (ac (.Subscript o i p)) n.line d=bg ax):XV A d e (.Assign [.Subscript o i p] c n) l G N C Rt:=λs S R=>by
 refine M7 (aM (h s S R) ?_) H;refine ce ?_;rintro u h1 I G1 v z r J k;refine aM (k _ z (R.ext S r))<|ce ?_
 rintro ua h2 L G2 a B t M k;refine aM (k _ B (R.ext S (r.trans t)))<|ce ?_
 rintro ub h3 Q G3 b T w U k;refine aM (k e _ _ _ _ T (Is.ext B w.any M) U (Is.ext z (t.trans w).any J)) λY s' x=>mV x ?_;rintro W y G4 rfl S4 x4 q;have D:=r.trans (t.trans (w.trans x4));exact(.mk W y G4 aa S4 D.any ⟨l,R.ext S D,q⟩)
theorem M8(c:s.heap.get? l=ac ⟨.type "list",ak,.seq vs n,#[]⟩)
 (b:k<0)(f:-(vs.size:af)<=k)(a:-(2^63)<=k)(g:Q () {s with heap:=s.heap.update l (pO (·.setIfInBounds (k+vs.size).toNat v))}):
 be (aY pg wd) A (pN (.ref l) (.int k t) v) Q E s:=by
 have d:s.heap.IsList l vs:=⟨_,c,aa,n,aa⟩
 unfold pN;try with_reducible refine gs ?_
 first|refine aG (bc ?_)|skip
 refine aG (Dp d.typeIs (by rfl) ?_);refine aG (vL (name:=aD "__setitem__") d.typeIs yV
  (pI yV d.typeIs Mg ?_ (Mh _ _ _)))
 show be _ _ (Mi (.int k t)>>=_) _ _ s;refine aG (Mj (fitsIndex_neg b a) ?_);clear a;have e:(k+vs.size).toNat<vs.size:=eL.1 (ay [_,_,_] 0x11f2112c920111c080 aa (dh (ay [(↑vs.size:af),-(↑vs.size:af),k] 0x10f9020810c2112c1a008 aa f (M9 ((↑vs.size:af))))) b);obtain⟨j,rfl⟩:∃j,k=Int.negSucc j:=by
  cases k with
  |ofNat n=>exact bv b (hU.mpr (Int.ofNat_nonneg n))
  |negSucc n=>exact ew n aa
 refine aG (aG ?_);refine aG (yo c aa (bc (bc ?_)));rw[(seqIndex_neg b f)];simp-zeta-zetaHave only[zo,Mk e,rt];refine aG (Ml c aa ?_);first
  |exact aG (bc (bc ⟨.none,aa,bc g⟩))
  |exact bc ⟨.none,aa,bc g⟩
theorem Na(d:G a=ac (.list (b++[y])))(u:b.length<=1000000)(q:Q (aE G a (.list (b++[x])))):jQ A (.ref a) (.int (-1)) (.d x) G Q:=λg s h v i S j k l=>by obtain rfl:h=.ref a:=j;refine cB k λY=>cQ (S.objs a _ d) λvs n e r=>?_;have c:=r.length;rw[d9,b7,ea] at c;refine M8 e (bl _) (ay [(↑b.length:af),(↑vs.size:af),-(↑vs.size:af)] 0x10fa1808215c2a10815c9180110c008 aa (M9 ((↑vs.size:af))) (gW.2 c) (bl _)) (bl _) ?_;have hk:((-1:af)+vs.size).toNat=b.length:=bQ (bD.1 (ay [_,_,_] 0x10f1212c90a1808212c91810 aa (dh (ay [↑b.length,↑vs.size] 0x10f91a18080815c9180110c008 aa (gW.2 c) (bl _))) (gW.2 c))) (bD.1 (ay [_,_,_] 0x10f0215c9182115c91a18080 aa (gW.2 c) (dh (ay [↑b.length,↑vs.size] 0x10f91a18080815c9180110c008 aa (gW.2 c) (bl _)))));rw[hk];refine aw (S.listChange (f:=λz=>z.setIfInBounds b.length i) (ys:=b++[x]) d e λm o=>by rw[Mm];have:=m.set b.length (o l);rwa [List.set_append_right _ _ (cO _),yT,List.set_cons_zero] at this) λp t=>mW _ s.toks _ aa p t q
noncomputable def gv{K}[ln K](a:ae (K×aA))k v:=if a.any (λp=>p.1=k) then a.map (λp=>if p.1=k then(p.1,v) else p) else a++[(k,v)]
theorem D0{K:Type}[ln K]{b:ae (K×aV)}{a:ae (K×aA)}{k:K}(hk:b.map (·.1)=a.map (·.1))(r:bb G h (b.map (·.2)) (a.map (·.2)))(i:Rd G h u v):
 (tG b k u).map (·.1)=(gv a k v).map (·.1)/\bb G h ((tG b k u).map (·.2)) ((gv a k v).map (·.2)):=by
 have e:b.any (λf=>decide (f.1=k))=a.any (λp=>decide (p.1=k)):=by rw[(by rw[Nc];rfl:b.any (λf=>decide (f.1=k))=(b.map (·.1)).any (λz=>decide (z=k))),(by rw[Nc];rfl:a.any (λf=>decide (f.1=k))=(a.map (·.1)).any (λz=>decide (z=k))),hk]
 delta tG gv;rw[e];by_cases c:a.any (λp=>decide (p.1=k))=ao
 ·rw[aR c,aR c];exact vH (P:=λb a=>(b.map λp=>if p.1=k then(p.1,u) else p).map (·.1)=(a.map λp=>if p.1=k then(p.1,v) else p).map (·.1)/\bb G h ((b.map λp=>if p.1=k then(p.1,u) else p).map (·.2)) ((a.map λp=>if p.1=k then(p.1,v) else p).map (·.2)))
   ⟨aa,.nil⟩ (λy d b a j g=>by
    show(if y.1=k then(y.1,u) else y).1::_=(if y.1=k then(y.1,v) else(y.1,d)).1::_/\bb G h ((if y.1=k then(y.1,u) else y).2::_) ((if y.1=k then(y.1,v) else(y.1,d)).2::_);by_cases q:y.1=k
    ·rw[aR q,aR q];exact aF (bA (y.1::·) g.1) (.cons i g.2)
    ·rw[aQ q,aQ q];exact aF (bA (y.1::·) g.1) (.cons j g.2)) hk r
 ·rw[aQ c,aQ c];exact aF (by rw[ck,ck,hk];rfl) (by rw[ck,ck];exact r.append (.one i))
theorem tH{K c d:Type}{a:ae (K×c)}{b:ae (K×d)}(hk:a.map (·.1)=b.map (·.1)):a.length=b.length:=by have:=bA tI hk;simpa using this
theorem D1{a:aZ}{d:ae (aN×aA)}{k:aN}{x:aA}{Q:AH->Prop}(h:G a=ac (.stab d))(j:d.length<=1000000)(q:Q (aE G a (.stab (gv d k x)))):jQ A (.ref a) (.str k) (.d x) G Q:=λl s m B C S n o p=>by obtain rfl:m=.ref a:=n;refine lX o λt=>aw (S.objs a _ h) λlo e=>aL e λD u c r=>Nf (knd:=strKind pg wd) (vK pg wd k t) u (λi f g=>?_) (by have:=tH c;rw[eF];exact aj [_,_] 0x10f080e0e0e0e0e1e112c0110c084e2e4efe0 aa this j);refine aw (S.change (h':=i) (o':=.stab (gv d k x)) h (λb v=>g.2 b v) λX=>let z:=D0 (k:=k) c (bb.ext S X.any r) (Rd.ext S X.any p);⟨lo,_,f,z.1,z.2⟩) λw y=>mW i _ _ aa w y q
theorem Ng{a:aZ}{d:ae (af×aA)}{k:af}{x:aA}{Q:AH->Prop}(h:G a=ac (.itab d))(j:d.length<=1000000)(q:Q (aE G a (.itab (gv d k x)))):jQ A (.ref a) (.int k) (.d x) G Q:=λl s m B C S n o p=>by obtain rfl:m=.ref a:=n;refine cB o λt=>aw (S.objs a _ h) λlo e=>aL e λD u c r=>Nf (knd:=vy pg wd) (zp pg wd k t) u (λi f g=>?_) (by have:=tH c;rw[eF];exact aj [_,_] 0x10f080e0e0e0e0e1e112c0110c084e2e4efe0 aa this j);refine aw (S.change (h':=i) (o':=.itab (gv d k x)) h (λb v=>g.2 b v) λX=>let z:=D0 (k:=k) c (bb.ext S X.any r) (Rd.ext S X.any p);⟨lo,_,f,z.1,z.2⟩) λw y=>mW i _ _ aa w y q
theorem Nh(m:cA A n)(h:G a=ac (.tab e))(hk:gr 4 (.tuple k)=ao)(o:er e (.tuple k)=ak)(p:e.length<=1000000)
 (q:Q (aE G a (.tab (e++[(.tuple k,x)])))):jQ A (.ref a) (.d (.tuple k)) (.d x) G Q:=λt s u H I S v i w=>by
 obtain rfl:u=.ref a:=v;refine aK (yQ i) ?_;rintro b rfl;refine aw (S.objs a _ h) λlo c=>aL c λy z d r=>?_;letI:=gC;refine aB (yR (k:=.tuple k) d r) ?_ ?_;rotate_left;intro c;refine dz c λJ L M j Y Y=>?_;rotate_right;intro c;refine aw c λY B=>?_
 ·refine wpAny_setItem_heap (knd:=qZ pg wd) (by have:=m.u;exact aj [_,_] 0x11f19481e918011c1988ce0 aa this) (yP i hk) z (λl f g=>?_) (by rw[eF];exact aj [_,_] 0x10f080e0e0e0e0e1e112c0110c084e2e4efe0 aa (by have:=bA tI d;simpa using this:y.length=e.length) p);rw[storedH_new B] at f;refine aw (S.change (h':=l) (o':=.tab (e++[(.tuple k,x)])) h (λb C=>g.2 b C) λX=>⟨lo,_,f,by simp[d],by simp-zeta-zetaHave only[ck,c9,gN];exact(bb.ext S X.any r).append (.one (Rd.ext S X.any w))⟩) λD E=>mW l _ _ aa D E q
 ·rw[o] at j;cases j
theorem D2{K:cg}(c:cn K Bh)(S:St d G h):(h.objs.size==ta)=ax:=by refine cQ c.big λa o e b=>?_;have:=fZ (S.base _ o e).1;exact pQ.mpr λq=>by rw[q] at this;exact bv (kB b this) (jM _)
theorem D3{G:AH}{K:cg}(f:cn K Bh)(d:o=.tab []\/o=.itab []\/o=.stab [])(q:∀a,G a=ak->Q (.ref a) (aE G a o)):EV A g h (.Dict [] [] i) F G Q:=λs S R=>by
 refine wpAny_Dict_empty ?_;have c:=D2 f S;refine aw (S.pushT {cls:=.type "dict",data:=.dict #[]} o aa λe x=>by
  refine aB d ?_ ?_<;>clear d;rotate_left;intro b;refine aB b ?_ ?_<;>clear b<;>rintro rfl;rotate_right;rintro rfl
  ·exact⟨c,[],@abm pg wd aA gC (qZ pg wd) s.heap,rfl,.nil⟩
  ·exact⟨c,[],D4 s.heap,rfl,.nil⟩
  ·exact⟨c,[],D4 s.heap,rfl,.nil⟩) λj k=>?_
 exact(.mk _ s.toks _ (.ref s.heap.objs.size) aa j k (Is.raw _) (q _ (S.fresh (fE _))))
theorem eH.track(X:eH a [D] G h)(S:St a G h)(k:∀b,b≠D->f.get? b=h.get? b)(s:bh ([D]++a) G h (aE G D o) f->l8 (aE G D o) f D o):St a (aE G D o) f:=by
 have Z:bh ([D]++a) G h (aE G D o) f:=λb d e g n=>by have c:b≠D:=λq=>n (by rw[q];exact gg _ (bZ.mpr aa));exact aF ((k b c).trans e) ((aU c).trans g)
 refine⟨λb d e=>?_,λb p e=>?_,λb r=>?_⟩
 ·refine bu (S.base b d e) λi j l=>?_;have c:b≠D:=λq=>by have:=X.bnone D (aP);rw[<-q,e] at this;cases this
  exact ca ((k b c).trans i) ((aU c).trans j) l
 ·by_cases q:b=D
  ·subst q;rw[bG] at e;cases e;exact s Z
  ·rw[aU q] at e;exact(S.objs b p e).ext (X.wide S) Z λd t=>(k b q).trans t
 ·have c:b≠D:=λq=>X.nown D (aP) (q▸r);refine aw (S.own b r) λi m=>au m λd j l=>aF ((aU c).trans i) ⟨d,(k b c).trans j,l⟩
def ru(A:cq)(a:dK)(b:ae aZ):ae (Expr×Expr)->jN->AH->(ae (V×V)->AH->Prop)->Prop
 |[],_,G,Q=>Q [] G
 |(k,v)::r,F,G,Q=>EV A a b k F G λf c=>EV A a b v F c λg d=>ru A a b r F d λvs e=>Q ((f,g)::vs) e
inductive tJ(G:AH)(h:cH):ae (aV×aV)->ae (V×V)->Prop
 |nil:tJ G h [] []
 |cons {a b x y r r'}:Is G h a x->Is G h b y->tJ G h r r'->tJ G h ((a,b)::r) ((x,y)::r')
theorem Ni:∀{c:ae (Expr×Expr)}{G:AH}{s:cI}{Q:ae (V×V)->AH->Prop},ru A a b c F G Q->St b G s.heap->FR a b F G s.heap->
 be (aY pg wd) A (evalPairs (c.map λp=>(bN p.1 a,do let x<-bN p.2 a;eE z;bg x)))
  (λo t=>∃d f e vs,t=(sW s d f)/\St b e d/\bh [] G s.heap e d/\tJ e d o vs/\Q vs e) F0 s:=by
 intro c
 induction c with
 |nil=>intro G s Q h S R;exact evalPairs_nil ⟨s.heap,s.toks,G,[],aa,S,fY,.nil,h⟩
 |cons p r B=>intro G s Q h S R;obtain⟨k,v⟩:=p;refine evalPairs_cons (aM (h s S R) ?_);refine ce ?_;rintro N T C U x u g D h;refine aG (aM (h _ u (R.ext S g)) ?_);refine ce ?_;rintro W E i Y y w j H h;refine aG (nq (bc ?_));refine aM (B (s:=sW s E i) h w (R.ext S (g.trans j))) λo t l=>mX l ?_;rintro I m J vs rfl L n M q;exact sP I m J _ aa L (g.trans (j.trans n)) (.cons (Is.ext u (j.trans n).any D) (Is.ext w n.any H) M) q
theorem Nj{K:Type}[ln K]:∀(b a:ae (K×aV)),((a++b).map (·.1)).Nodup->zq a b=a++b:=by
 intro b;induction b with
 |nil=>intro a Y;simp[zq]
 |cons p b e=>
  intro a c;obtain⟨k,v⟩:=p;have d:a.any (λf=>decide (f.1=k))=ax:=by rw[Dq];intro p g;simp-zeta-zetaHave only[Nk];rintro rfl;rw[ck,c9,jV] at c;exact c.2.2 p.1 (nr g) p.1 aP aa
  show zq (tG a k v) b=_;rw[(by unfold tG;rw[aQ (by rw[d];exact aW aa)]:tG a k v=a++[(k,v)]),(e (a++[(k,v)]) (by simpa using c))];simp
theorem Nl[ln X]{f:Nm pg wd X}{g:X->V}(hk:∀{x}{u},Is G h u (g x)->f.is x u=ao):∀{c:ae (X×aA)}{e:ae (aV×aV)},tJ G h e (c.map λp=>(g p.1,.d p.2))->∃d,Carries f e d/\d.map (·.1)=c.map (·.1)/\bb G h (d.map (·.2)) (c.map (·.2)):=by
 intro c;induction c with
 |nil=>intro e r;cases r;exact cf [] trivial rfl .nil
 |cons p c i=>
  intro e r
  cases r with
  |@cons n j _ _ _ _ a b r=>refine aL (i r) λd k l m=>cf ((p.1,j)::d) ⟨hk a,aa,k⟩ (bA (p.1::·) l) (.cons b m)
theorem D5{G:AH}{K:cg}(T:cn K Bh)[ln X]{kd:Nm pg wd X}{kv:X->V}{mk:ae (X×aA)->O}(w:∀{G h}{x}{u},Is G h u (kv x)->kd.is x u=ao)
 (U:∀{G h a}{j:ae (X×aV)}{y:ae (X×aA)},(a==ta)=ax->h.DictOf kd a j->j.map (·.1)=y.map (·.1)->bb G h (j.map (·.2)) (y.map (·.2))->l8 G h a (mk y))
 (h:let W:ae (V×V)->AH->Prop:=λvs k=>∃f,vs=f.map (λp=>(kv p.1,.d p.2))/\(f.map (·.1)).Nodup/\∀a,k a=ak->Q (.ref a) (aE k a (mk f));ru A i z ps F G W)
 (hp:D6 c d i n=ps.map λp=>(bN p.1 i,do let x<-bN p.2 i;eE n;bg x))(r:c.all (·.isSome)=ao)(hl:c.length=d.length)(h0:c≠[])
 (t:c.length<=15):EV A i z (.Dict c d n) F G Q:=λs S R=>by
 refine No (knd:=kd) r hl h0 t ?_;rw[hp];refine aw (S.push {cls:=.type "dict",data:=.dict #[]}) λS0 D=>?_;have l:s.heap.get? s.heap.objs.size=ak:=fE _;refine aM (Ni (s:={s with heap:=s.heap.push {cls:=.type "dict",data:=.dict #[]}}) h S0 (R.ext S D)) λus s' B=>mX B ?_;rintro h1 h2 G1 vs rfl E H i1 C;refine aL C ?_;rintro f rfl nd q;refine aL (Nl w i1) λj hc hk hr=>?_;have v:=H s.heap.objs.size _ (fc _ aa) (S.fresh l:G s.heap.objs.size=ak) (by simp);refine cf j hc ((D4 s.heap).at λo e=>by rw[fc _ aa] at e;cases e;exact v.1) λI J L=>?_;rw[(by simpa using Nj j [] (by simpa[hk] using nd):zq [] j=j)] at J;have X:bh [] G s.heap (aE G1 s.heap.objs.size (mk f)) I:=λb o e g Y=>by
  have M:b≠s.heap.objs.size:=λq=>by rw[q,l] at e;cases e
  refine aw ((D.trans H) b o e g (by trivial)) λe1 g1=>aF ((L.2 b M).trans e1) ((aU M).trans g1)
 have N:=eH.fresh S (λb m=>by rw[bZ.mp m];exact l) (λb m=>by rw[bZ.mp m];exact v.2) λb m=>by rw[bZ.mp m];exact cf _ v.1 (.inl trivial) trivial
 have S3:=N.track E (λb m=>L.2 b m) λZ=>U (D2 T S) J hk (bb.ext (N.wide E) Z hr);exact(.mk I _ _ (.ref s.heap.objs.size) aa S3 X (Is.raw _) (q _ v.2))
theorem D7{K:cg}(m:cn K Bh){f:cT}{ps:ae (Expr×Expr)}
 (h:let o:ae (V×V)->AH->Prop:=λvs e=>∃g:ae (aN×aA),vs=g.map (λp=>(.str p.1,.d p.2))/\(g.map (·.1)).Nodup/\∀a,e a=ak->Q (.ref a) (aE e a (.stab g));ru A d l ps F G o)
 (q:D6 b c d f=ps.map λp=>(bN p.1 d,do let x<-bN p.2 d;eE f;bg x))(j:b.all (·.isSome)=ao)(s:b.length=c.length)(u:b≠[])
 (k:b.length<=15):EV A d l (.Dict b c f) F G Q:=D5 m (kd:=strKind pg wd) (kv:=V.str) (mk:=O.stab) (λi=>lX i λt=>vK pg wd _ t) (λn v hk r=>⟨n,_,v,hk,r⟩) h q j s u k
theorem Np{K:cg}(m:cn K Bh){f:cT}{ps:ae (Expr×Expr)}
 (h:let o:ae (V×V)->AH->Prop:=λvs e=>∃g:ae (af×aA),vs=g.map (λp=>(.int p.1,.d p.2))/\(g.map (·.1)).Nodup/\∀a,e a=ak->Q (.ref a) (aE e a (.itab g));ru A d l ps F G o)
 (q:D6 b c d f=ps.map λp=>(bN p.1 d,do let x<-bN p.2 d;eE f;bg x))(j:b.all (·.isSome)=ao)(s:b.length=c.length)(u:b≠[])
 (k:b.length<=15):EV A d l (.Dict b c f) F G Q:=D5 m (kd:=vy pg wd) (kv:=V.int) (mk:=O.itab) (λi=>cB i λt=>zp pg wd _ t) (λn v hk r=>⟨n,_,v,hk,r⟩) h q j s u k
theorem c7.inv1(i:c7 G h b [a]):∃u,b=[u]/\Is G h u a:=by exact ji i λY c=>⟨_,aa,c⟩
theorem D8(d:G a=ac (.list c))(f:c.length<=1000000)(q:Q (.int c.length) G):cF A (.builtin "len") [.ref a] G Q:=λg s j S i=>by refine au i.inv1 ?_;rintro u rfl h;obtain rfl:u=.ref a:=h;refine cQ (S.objs a _ d) λvs n e r=>?_;have b:=r.length;rw[d9] at b;refine D9 ⟨_,e,aa,_,aa⟩ (ay [_,_] 0x11f080e0e0e0e0e0e0e0e0e0e0e0e0e0e8e112c0110c084e2e4efe0 aa (gW.2 b) (bD.2 f)) ?_;rw[b];exact PV.here S (Is.int _ _) q
theorem v6{vs:jg aV}{a:ae aA}(b:vs.size=a.length):vs.isEmpty=a.isEmpty:=by
 unfold Array.isEmpty;cases a with
 |nil=>simpa using b
 |cons x a=>rw[b];rfl
theorem Nq(c:A.handled=ak)(q:Q (.int (if b<a then b else a)) G):cF A (.builtin "min") [.int a,.int b] G Q:=λd s m S i=>by
 refine m7 i λn o e f=>cB e λY=>cB f λY=>min_two_ints c λg h k=>aw (S.more k) λj l=>(.mk g h G (.int (if b<a then b else a)) aa j l ?_ q)
 split<;>exact Is.int _ _
theorem Nr(r:bb G h c (b.map .int)):td c b:=by
 induction b generalizing c with
 |nil=>exact bb.on0 r .nil
 |cons n b d=>exact bb.onC r λu vs a r=>cB a λt=>.cons n t (d r)
theorem Nt(r:td a b):bb G h a (b.map .int):=by
 induction r with
 |nil=>exact .nil
 |cons n t _ c=>exact .cons (.int n t) c
theorem Nu(w:A.handled=ak){f:ae af}(h:0<f.length)(q:∀m,m∈f->(∀a∈f,m<=a)->Q (.int m) G):cF A (.builtin "min") [.d (.list (f.map .int))] G Q:=λx s L S i=>by
 refine ji i λM y=>jh y λa vs n e g r=>?_;have l:=Nr r;refine aK (l.allInts).items λc z=>?_;have o:vs=intItems c:=by simpa using z
 subst o;have b:=l.numsOf;have d:0<c.size:=by have:=l.length;simp[intItems] at this;exact aj [_,_] 0x11f00811c10815c10 aa h this
 refine min_intList w ⟨_,e,aa,_,aa⟩ d λv B C D k=>aK (intItems_at D) ?_;rintro t rfl;refine aw (argBest_lt (numAt c) (c.size-1)) λE H=>aw (S.more k) λI J=>?_;rw[nums_intItems] at b;refine(.mk B C G _ aa I J (Is.int _ _) (q _ ?_ ?_))
 ·rw[<-b,numAt_eq];exact getD_mem (by rw[aI,d9];exact aj [_,_,_] 0x11f1210c0212c19180 aa E (dt (aj [_] 18623382011912 aa d:1<=c.size)))
 ·intro a u;rw[<-b] at u;refine au (mem_getD u) ?_;rintro j p rfl;rw[aI,d9] at p;rw[<-numAt_eq];exact H j (aj [_,_,_] 0x10f0211c1215c19180 aa p (dt (aj [_,_] 1164229811216 aa p:1<=c.size)))
theorem Nv(q:Q (.rng 0 a 1) G):cF A (.type "range") [.int a] G Q:=λb s f S i=>by refine ji i λg c=>cB c λY=>call_range_1 ?_;obtain⟨d,e⟩:=S.push {cls:=.type "range",data:=.fields #[.int 0 s.toks,.int a _,.int 1 (s.toks+1)]};exact(.mk _ _ G (.rng 0 a 1) aa d e ⟨_,_,_,_,aa,fc _ aa⟩ q)
theorem Nw(q:Q (.rng a b 1) G):cF A (.type "range") [.int a,.int b] G Q:=λc s h S i=>by refine m7 i λj k d e=>cB d λY=>cB e λY=>call_range_2 ?_;obtain⟨f,g⟩:=S.push {cls:=.type "range",data:=.fields #[.int a _,.int b _,.int 1 s.toks]};exact(.mk _ _ G (.rng a b 1) aa f g ⟨_,_,_,_,aa,fc _ aa⟩ q)
theorem Nx(d:c≠0)(e:c.natAbs<1073741824)(q:Q (.rng a b c) G):cF A (.type "range") [.int a,.int b,.int c] G Q:=λf s m S i=>by refine CE i λn o p g h j=>cB g λY=>cB h λY=>cB j λY=>call_range_3 d ?_ (.inl (Ny e));obtain⟨k,l⟩:=S.push {cls:=.type "range",data:=.fields #[.int a _,.int b _,.int c _]};exact(.mk _ _ G (.rng a b c) aa k l ⟨_,_,_,_,aa,fc _ aa⟩ q)
theorem Ea(S:St i G h)(s:h.get? D=ak)(k:∀b o,h.get? b=ac o->a.get? b=ac o)
 (e:a.get? D=ac ⟨.type "list",ak,.seq vs n,#[]⟩)(r:∀{t},bh [] G h t a->bb t a vs.toList xs):St i (aE G D (.list xs)) a/\bh [] G h (aE G D (.list xs)) a:=by
 have w:=S.fresh s;have j:∀b o,h.get? b=ac o->b≠D:=λb o e q=>by rw[q,s] at e;cases e
 have X:bh [] G h (aE G D (.list xs)) a:=λb o e g Y=>⟨k b o e,(aU (j b o e)).trans g⟩
 refine aF ⟨λb o e=>?_,λb p e=>?_,λb u=>?_⟩ X
 ·refine bu (S.base b o e) λd f l=>ca (k _ _ d) ((aU (j b o d)).trans f) l
 ·by_cases q:b=D
  ·subst q;rw[bG] at e;cases e;exact⟨vs,n,‹_›,r X⟩
  ·rw[aU q] at e;exact(S.objs b p e).ext S X.any λc v=>k b c v
 ·refine aw (S.own b u) λd m=>au m λc f l=>aF ((aU (j b c f)).trans d) ⟨c,k b c f,l⟩
theorem Nz(d:b.length<=1000000)(q:∀a,G a=ak->Q (.ref a) (aE G a (.list b))):cF A (.type "list") [.d (.list b)] G Q:=λf s p S i=>by refine ji i λt h=>jh h λa vs n e g r=>?_;have c:=r.length;rw[d9] at c;refine call_list_seq a (.inl aa) e aa rfl (λj u k l=>?_) (by rw[eF];exact aj [_,_] 0x10f080e0e0e0e0e1e112c0110c084e2e4efe0 aa c d);refine aw (Ea (xs:=b) S (fE _) k l λX=>bb.ext S X.any r) λm o=>?_;exact(.mk j s.toks _ (.ref s.heap.objs.size) aa m o (Is.raw _) (q _ (S.fresh (fE _))))
theorem NA(H:A.handled=ak){n:ah}(l:kC a b c=ao)(I:ie a b c=(n:af))(J:n<=1000000)
 (q:∀D,G D=ak->Q (.ref D) (aE G D (.list ((cC n).map λ(i:ah)=>.int (a+(i:af)*c))))):cF A (.type "list") [.rng a b c] G Q:=λL s d S i=>by
 refine au i.inv1 ?_;rintro u rfl M;refine vf (show∃r x y z,_=eQ r/\yd s.heap r a b c x y z from M) ?_;rintro r x y z rfl N;refine call_list_range H N l I (aj [_] 0x10f080e0e0e0e0e1e010c084e2e4efe0 aa J) λB T h c' k U j=>?_;have o:=λ{W}=>by
  refine aw j λp w=>?_;have:∀(m)(d),d.length=m->(∀(i:ah)(v),d[i]?=ac v->∃t,v=NB (a+(i:af)*c) t)->bb W B d ((cC m).map λ(i:ah)=>cJ (a+(i:af)*c)):=by
   intro m;induction m with
   |zero=>intro d g Y;rw[rv.mp g];exact .nil
   |succ m ih=>
    intro d g C;obtain⟨f,v,rfl⟩:∃f v,d=f++[v]:=⟨d.dropLast,d.getLast (by intro q;rw[q] at g;cases g),(List.dropLast_concat_getLast _).symm⟩
    rw[b7,ea] at g;rw[NC,ck];have E:f.length=m:=bQ (aj [_,_] 0x10f1012c91819180 aa g) (aj [_,_] 0x10f0115c91819180 aa g);refine aK (C m v (by rw[<-E];simp)) λt hv=>(ih f E λi v' e=>C i v' ?_).append (.one (hv▸.int _ _));rw[jv (dF.mp e).1];exact e
  exact this n h.toList (by rw[d9];exact p) λi v e=>w i v (by rw[<-s9];exact e)
 refine aw (Ea S (fE _) k U λY=>o) λS1 x1=>?_;exact(.mk B T _ (.ref s.heap.objs.size) aa S1 x1 (Is.raw _) (q _ (S.fresh (fE _))))
theorem ND(vs):∀(k)(a:jg aV),((dX k vs).foldl (λc d=>c++d) a).toList=a.toList++(dX k vs.toList).flatten:=λe=>e.rec
 (λa=>by simp)
 (λk b a=>by rw[v7,jw,b,v7,zr,yU,cs])
theorem bb.rep(r:bb G h b c):∀k,bb G h (dX k b).flatten (dX k c).flatten:=λd=>d.rec
 (.nil)
 (λk a=>by rw[v7,v7,zr,zr];exact r.append (a))
theorem Eb{k:af}(c:vs.size=b.length)(r:bb G h vs.toList b):
 bb G h (zt (λd e=>d++e) #[] (dX (if vs.isEmpty=ao then 0 else k.toNat) vs)).toList (dX k.toNat b).flatten:=by
 rw[ND];by_cases a:vs.isEmpty=ao
 ·have f:b=[]:=by rw[v6 c] at a;simpa using a
  subst f;rw[aR a];simp;exact .nil
 ·rw[aQ a];exact r.rep k.toNat
theorem Ec(e:s.heap.get? a=ac ⟨.type "list",ak,.seq vs n,#[]⟩)(c:-(2^63:af)<=k)(d:k<2^63)(b:vs.size*k.toNat<=2^24)
 (q:Q (.ref s.heap.objs.size) {s with heap:=s.heap.push {cls:=.type "list",data:=.seq (zt (λf g=>f++g) #[] (dX (if vs.isEmpty=ao then 0 else k.toNat) vs))}}):
 be (aY pg wd) A (binaryOp .Mult (.ref a) (.int k t)) Q E s:=
 wpAny_binaryOp_repeat_ref (T:="list") (U:="int") (by rfl) ⟨_,e,aa⟩ (λh=>typeIs_int h k t) noFill_list_mul PySem.F.fills_int_mul NE repeat_list PySem.F.slot_int_index.lookup
  (pP NE (typeIs_int s k t) PySem.F.entry_int_rmul (PySem.F.args_int_rmul_2 _ _) (int___rmul___int_list k t a vs n)
   ⟨e,aa,⟨_,e,aa⟩,pP PySem.F.slot_list_mul ⟨_,e,aa⟩ PySem.F.entry_list_mul (PySem.F.args_list_mul_2 _ _)
    (abn a vs n k t (by simp[L8];trivial) (NF.mpr (bn b (by decide))) (by simp[Me,js];exact aj [_] 0x10f080e0e0e0e0e1e010c080e0e0e0e0e1e0 aa b))
    ⟨e,q⟩⟩)
theorem NG(h:d.length<=100)(b:0<=k)(hk:k<=10000)(q:Q (.d (.list (dX k.toNat d).flatten)) G):re A .Mult (.d (.list d)) (.int k) G Q:=λl s u v S i j=>by refine cB j λY=>jh i λa vs n e g r=>?_;have f:=r.length;rw[d9] at f;refine Ec e (eD (bl _) b) (ay [_] 0x11f080e0e0e0e0e0e0e0e0e0e0e0e0e0e8e010c081e7e2e0 aa hk) (by rw[f];exact bn (zu h (show k.toNat<=10000 by exact bD.1 (ay [_,_] 0x10f081e7e2e112c0110c081e7e2e0 aa (dh (ay [k] 18623113510920 aa b)) hk))) (aX _ _))<|aw (S.push {cls:=.type "list",data:=.seq (zt (λc m=>c++m) #[] (dX (if vs.isEmpty=ao then 0 else k.toNat) vs))}) λo c=>(.mk _ s.toks G (.d (.list (dX k.toNat d).flatten)) aa o c (Rd.lst (fc _ aa) (S.fresh (fE _)) (Eb f (bb.ext S c.any r))) q)
theorem NH(h:c.length<=100)(b:0<=k)(hk:k<=10000)(q:∀a,G a=ak->Q (.ref a) (aE G a (.list (dX k.toNat c).flatten))):re A .Mult (.d (.list c)) (.int k) G Q:=λl s u v S i j=>by refine cB j λY=>jh i λa vs n e g r=>?_;have d:=r.length;rw[d9] at d;refine Ec e (eD (bl _) b) (ay [_] 0x11f080e0e0e0e0e0e0e0e0e0e0e0e0e0e8e010c081e7e2e0 aa hk) (by rw[d];exact bn (zu h (show k.toNat<=10000 by exact bD.1 (ay [_,_] 0x10f081e7e2e112c0110c081e7e2e0 aa (dh (ay [k] 18623113510920 aa b)) hk))) (aX _ _))<|aw (S.pushT {cls:=.type "list",data:=.seq (zt (λf m=>f++m) #[] (dX (if vs.isEmpty=ao then 0 else k.toNat) vs))} (.list (dX k.toNat c).flatten) aa λo X=>⟨_,_,o,Eb d (bb.ext S X.any r)⟩) λp f=>(.mk _ s.toks _ (.ref s.heap.objs.size) aa p f (Is.raw _) (q _ (S.fresh (fE _))))
theorem NI{K:cg}(a:cn K Bh)(b:A.handled=ak)(c:n.natAbs<10^4300)(q:Q (.str (aD (mg n))) G):cF A (.type "str") [.int n] G Q:=λd s f S i=>by refine ji i λg e=>cB e λY=>str_of_int_or b (a.dig.keeps S.keep) (λY=>PV.here S (Is.str _ _) q) λh=>bv h (Ed.mpr c)
theorem NJ(z:cA A n)(E:G a=ac (.stab c))(H:G b=ac (.stab o))(B:c.length=o.length)
 (l:∀p∈c,o.lookup p.1=ac p.2)(m:∀p∈c,bE 60 p.2)(q:Q (.bool ax) G):fq A .NotEq (.ref a) (.ref b) G Q:=λI s u v S i j=>by
 obtain rfl:u=.ref a:=i;obtain rfl:v=.ref b:=j;refine aw (S.objs a _ E) λJ f=>aL f λd L C M=>aw (S.objs b _ H) λN f=>aL f λvs T D U=>?_;have h:=tH C;have k:=tH D;refine keq_ne (r:=ao) J N L T (by have:=z.u;exact aj [_,_] 80800986764446944 aa this) (λY=>?_) ?_
 ·have:∀(d:ae (aN×aV))(c:ae (aN×aA)),d.map (·.1)=c.map (·.1)->bb G s.heap (d.map (·.2)) (c.map (·.2))->(∀p∈c,o.lookup p.1=ac p.2)->(∀p∈c,bE 60 p.2)->KeqHits A.in1 s vs d ao:=by
   intro d;induction d with
   |nil=>intro Y Y Y Y Y;exact .nil
   |cons u d W=>
    intro c hk r l m
    cases c with
    |nil=>trivial
    |cons x c=>simp-zeta-zetaHave only[c9,pG] at hk;refine aw (bb.uncons r) λr1 r2=>au (Dl D U (l x aP)) λy hy ry=>?_;have g:=m x aP;refine aK (Rd.reads r1 g.plain) λas pa=>aK (Rd.reads ry g.plain) λbs pb=>?_;have t:=keq_at (A:=A) pa pb g.shaped g.shaped (by have:=z.u;exact aj [_,_] 0x11f19084e918011c1988ce0 aa this);rw[rg g g] at t;simp-zeta-zetaHave only[decide_true] at t;obtain⟨u1,u2⟩:=u;have:=KeqHits.hit (e:=ao) (b:=ao) ((hk.1:u1=x.1)▸hy) t (W c hk.2 r2 (λp w=>l p (ba _ w)) λp w=>m p (ba _ w));exact this
  exact this d c C M l m
 ·have:d.length=vs.length:=bQ (aj [_,_,_,_] 0x10f0312c2312c1215c10 aa h B k) (aj [_,_,_,_] 0x10f0312c2315c2115c10 aa k B h);rw[this];simp;exact PV.here (tk:=s.toks) S (Is.bool _) q
theorem Ee(c:G a=ac (.stab d))(q:Q (.bool (!(d.lookup k).isSome)) G):fq A .NotIn (.str k) (.ref a) G Q:=λe s u v S i j=>by refine lX i λY=>?_;obtain rfl:v=.ref a:=j;refine aw (S.objs a _ c) λlo b=>aL b λg f hk r=>NK (vK pg wd k _) lo f.mapOf (PV.here S (Is.bool _) (by rw[vJ hk r];exact q))
theorem NL(c:G a=ac (.itab d))(q:Q (.bool (!(d.lookup k).isSome)) G):fq A .NotIn (.int k) (.ref a) G Q:=λe s u v S i j=>by refine cB i λY=>?_;obtain rfl:v=.ref a:=j;refine aw (S.objs a _ c) λlo b=>aL b λg f hk r=>NK (zp pg wd k _) lo f.mapOf (PV.here S (Is.bool _) (by rw[vJ hk r];exact q))
variable(A) in
def tK(b:dK)(c:ae aZ)(e:bB Expr)(F:jN)(G:AH)(Q:bB af->AH->Prop):Prop:=match e with
 |none=>Q ak G
 |some e=>EV A b c e F G λv a=>∃i,v=.int i/\Q (ac i) a
theorem zv(h:tK A b a e F G Q)(S:St a G s.heap)(R:FR b a F G s.heap):
 be (aY pg wd) A (evalPart e b) (λu l=>∃c d f k,l=(sW s c d)/\St a f c/\bh [] G s.heap f c/\IsPart u k/\Q k f) F0 s:=by
 cases e with
 |none=>exact bc ⟨s.heap,s.toks,G,ak,aa,S,fY,.none,h⟩
 |some e=>
  refine aM (h s S R)<|ce λu m g n v o p i j=>au j ?_;rintro k rfl q
  exact cB i λY=>⟨m,g,n,ac k,aa,o,p,.int _ _,q⟩
theorem bb.pickAt(r:bb G h c f):∀b:ae ah,bb G h (b.filterMap (c[·]?)) (b.filterMap (f[·]?)):=λg=>g.rec
 (.nil)
 (λp b a=>by
 rw[Ef,Ef];have i:=r.length;cases e:f[p]? with
 |none=>rw[(by rw[List.getElem?_eq_none_iff] at e⊢;exact aj [_,_,_] 76299590430690320 aa i e:c[p]?=ak)];exact a
 |some d=>refine au (r.get e) λu j k=>?_;rw[j];exact .cons k (a))
noncomputable def kF(a:ae aA)lo b st:=(zw (mh lo b st a.length).1 (mh lo b st a.length).2.1 (mh lo b st a.length).2.2).filterMap (a[·]?)
theorem NM{vs:jg aV}{lo a st:bB af}(r:bb G h vs.toList b):bb G h (zx vs lo a st).toList (kF b lo a st):=by delta zx kF;rw[(by have:=r.length;rwa [d9] at this:vs.size=b.length)];simpa using(r.pickAt (zw (mh lo a st b.length).1 (mh lo a st b.length).2.1 (mh lo a st b.length).2.2))
theorem NN{c d ee:bB Expr}
 (h:let Q1:V->AH->Prop:=λv x=>tK A m f c F x λlo y=>tK A m f d F y λz B=>tK A m f ee F B λst C=>∃w,v=.d (.list w)/\w.length<=1000000/\st≠ac 0/\Q (.d (.list (kF w lo z st))) C;EV A m f j F G Q1)
 (N:∀a b,jt (.Slice c d ee p) ax (.ref a) (.ref b)=ju [.ref b,.ref a] (hY (.ref a) (.ref b))\/jt (.Slice c d ee p) ax (.ref a) (.ref b)=ju [.ref a,.ref b] (hY (.ref a) (.ref b)))
 (ht:∀a r,C5 j (.ref a) r=bg ()):
 EV A m f (.Subscript j (.Slice c d ee p) h6) F G Q:=λs S R=>by
 refine C6 (aM (h s S R) ?_);refine ce ?_;rintro u h1 T G1 v S1 L i k;refine NO (aM (zv (s:=sW s h1 T) k S1 (R.ext S L)) ?_);intro D s' l;refine mX l ?_;rintro h2 U G2 lo rfl S2 M pl k;refine aM (zv (s:=sW s h2 U) k S2 (R.ext S (L.trans M))) λE s' l=>mX l ?_;rintro h3 W G3 z rfl S3 Y pu k;refine aM (zv (s:=sW s h3 W) k S3 (R.ext S (L.trans (M.trans Y)))) λH s' l=>mX l ?_;rintro o t G4 st rfl S4 x4 ps h5;refine cP h5 ?_;rintro w rfl hl h0 q;refine jh (Is.ext S1 (M.trans (Y.trans x4)).any i:Rd G4 o u (.list w)) λa vs n e g r=>?_;have hn:=r.length;rw[d9] at hn;have hL:o.IsList a vs:=⟨_,e,aa,_,aa⟩
 refine aw (S4.push {cls:=.type "slice",data:=.fields #[D,E,H]}) λS5 x5=>aw (S5.push {cls:=.type "list",data:=.seq (zx vs lo z st)}) λS6 x6=>?_;have I:PV f s G Q (.ref (o.push {cls:=.type "slice",data:=.fields #[D,E,H]}).objs.size) (sW s ((o.push {cls:=.type "slice",data:=.fields #[D,E,H]}).push {cls:=.type "list",data:=.seq (zx vs lo z st)}) t):=(.mk _ t G4 (.d (.list (kF w lo z st))) aa S6 (L.trans (M.trans (Y.trans (x4.trans (x5.trans x6))))) (Rd.lst (fc _ aa) (S5.fresh (fE _)) (NM (bb.ext S4 (x5.trans x6).any r))) q)
 obtain⟨J,N⟩:∃J,jt (.Slice c d ee p) ax (.ref a) (.ref o.objs.size)=ju J (hY (.ref a) (.ref o.objs.size)):=(N a o.objs.size).elim (λe=>⟨_,e⟩) λe=>⟨_,e⟩
 exact subscriptTail_ops (abo (s:={s with heap:=o.push {cls:=.type "slice",data:=.fields #[D,E,H]}}) (hL.push _)) list_getitem_lookup
  (wpAny_getItem_list_slice (s:=(sW s (o.push {cls:=.type "slice",data:=.fields #[D,E,H]}) t)) (hL.push _) (NP ..) pl pu ps h0 I (by rw[eF];exact aj [_,_] 0x10f080e0e0e0e0e1e112c0110c084e2e4efe0 aa hn hl)) N (ht a)
theorem NQ{a b n:ah}(g:s.heap.IsSliceOf h (.int a u) (.int b i) .none)(e:a<=b)(f:b<=n)(q:Q ((a:af),1,b-a) s):
 be (aY pg wd) A (NR (.ref h) (bg (n:af))) Q E s:=by
 refine aL (id g) λos c j d=>?_;delta NR abp;refine aG (aG (gX c d (x:=.int a u) aa (aG (gX c d (x:=.int b i) aa (aG (gX c d (x:=.none) aa (bc ?_)))))));refine aG (slicePart_none ?_);rw[aQ (aW aa)];refine aG (NS (aG (NS (aG (bc ?_)))));show be _ _ (match Eg (ac (a:af)) (ac (b:af)) 1 (n:af) with|(lo,k)=>bg (lo,(1:af),zy lo k 1)) _ _ s;have l:Eg (ac (a:af)) (ac (b:af)) 1 (n:af)=((a:af),(b:af)):=by
  unfold Eg;simp only[(ay [] 21956632 aa:¬((1:af)<0)),(ay [_] 23023173287944 aa (bl _):¬((a:af)<0)),(ay [_] 23023173287944 aa (bl _):¬((b:af)<0)),pJ];congr 1
  ·exact fC (ay [_,_] 72762862608 aa (mZ (ay [(↑b:af),(↑n:af),(↑a:af)] 76299581840755728 aa (bD.2 e) (bD.2 f):(↑a:af)<=(↑n:af)))) (ay [_,_] 72747146256 aa (mZ (ay [(↑b:af),(↑n:af),(↑a:af)] 76299581840755728 aa (bD.2 e) (bD.2 f):(↑a:af)<=(↑n:af))))
  ·exact fC (ay [_,_] 72762862608 aa (mZ (ay [(↑b:af),(↑n:af)] 72762854416 aa (bD.2 f):(↑b:af)<=(↑n:af)))) (ay [_,_] 72747146256 aa (mZ (ay [(↑b:af),(↑n:af)] 72762854416 aa (bD.2 f):(↑b:af)<=(↑n:af))))
 have m:zy (a:af) (b:af) 1=b-a:=by unfold zy;exact KV a b
 rw[l];show be _ _ (bg ((a:af),(1:af),zy (a:af) (b:af) 1)) _ _ s;rw[m];exact bc q
theorem NT(b:jg aV)(a c:ah):((cC c).filterMap λ(k:ah)=>b[((a:af)+(k:af)*1).toNat]?).toArray=((b.toList.drop a).take c).toArray:=by
 have e:(λ(k:ah)=>b[((a:af)+(k:af)*1).toNat]?)=λk=>b[a+k]?:=by funext k;have:((a:af)+(k:af)*1).toNat=a+k:=bQ (bD.1 (ay [_,_,_,_] 0x10f913212c903212c1b10 aa (dh (ay [(↑k:af),(↑k:af)*1,(↑a:af)] 0x10f9120810c20815c1b0110c008 aa (bl _) (kq ((↑k:af)) (1)) (bl _))) (kq ((↑k:af)) (1)))) (bD.1 (ay [_,_,_,_] 0x10f291315c903215c1b10 aa (dh (ay [(↑k:af),(↑k:af)*1,(↑a:af)] 0x10f9120810c20815c1b0110c008 aa (bl _) (kq ((↑k:af)) (1)) (bl _))) (kq ((↑k:af)) (1))));rw[this]
 rw[e];have:=pick_run b a c;rw[Eh] at this;have d:((λx=>b[x]?)∘λx=>a+x)=λk=>b[a+k]?:=aa;rw[d] at this;rw[this]
theorem NU{t f:aZ}{c:jg aV}(e:IsTup s.heap t c)(l:s.heap.IsSliceOf f (.int a u) (.int b x) .none)(g:a<=b)(n:b<=c.size)
 (r:a=0->b=c.size->Q (.ref t) s)(q:Q (.ref s.heap.objs.size) {s with heap:=s.heap.push {cls:=.type "tuple",data:=.seq ((c.toList.drop a).take (b-a)).toArray}})
 (h:c.size<=js):be (aY pg wd) A (hY (.ref t) (.ref f)) Q E s:=by
 have d:sizeOk (.seq ((c.toList.drop a).take (b-a)).toArray):=by show((c.toList.drop a).take (b-a)).toArray.size<=js;rw[tq,v8,Ei,d9];exact bn (Ej _ _) (bn (ow _ _) h)
 refine aL (id l) λos i j v=>?_;unfold hY;try with_reducible refine gs ?_
 first|refine aG (bc ?_)|skip
 refine aG (Dp e.typeIs (by rfl) ?_);refine aG (vL (name:=aD "__getitem__") e.typeIs Ek
  (pI Ek e.typeIs entry_tuple_getitem ?_ (args_tuple_getitem _ _)))
 show be _ _ (K5 (.ref t)>>=_) _ _ s;refine aG (tupleItemsOf_ e ?_);refine aG (El (⟨os,i,j⟩:s.TypeIs (.ref f) "slice") ?_);rw[aR (by rfl)];refine aG (NQ l g n ?_);show be _ _ (if((a:af)==0&&(1:af)==1&&(b-a)==c.size)=ao then _ else _) _ _ s;by_cases o:a=0/\b=c.size
 ·refine aw o ?_;rintro rfl rfl;rw[aR (by simp)];refine aG (m:=NV _) ?_;unfold NV;refine aG (El e.typeIs (bc ?_));rw[aR (by rfl)];exact aG (vw (bc ⟨_,aa,bc (r aa rfl)⟩))
 ·have k:¬(((a:af)==0&&(1:af)==1&&(b-a)==c.size)=ao):=by simp;intro p w;exact o ⟨bQ (aj [_] 18625126908032 aa p) (aj [_] 1110024 aa),bQ (aj [_,_] 72762854416 aa n) (aj [_,_,_,_] 0x10f2315c3012c2910 aa w (dt (aj [_,_] 1164205801600 aa p:a<=b)))⟩
  rw[aQ k,NT c a (b-a)];first
   |exact aG (m:=zz _) (kA (bc ⟨_,aa,bc q⟩) d)
   |exact aG (m:=zz _) (kA (aG (bc (bc ⟨_,aa,bc q⟩))) d)
   |exact aG (aG (m:=zz _) (kA (bc (bc ⟨_,aa,bc q⟩)) d))
   |exact aG (aG (m:=zz _) (kA (bc ⟨_,aa,bc q⟩) d))
theorem NW(d:s.heap.get? a=ac (kG "list" [v].toArray n))(h:P (.done (.ret .none)) {s with heap:=sortedHeap s.heap a [v] #[v]}):
 be (aY pg wd) A (abq ⟨[.ref a],[]⟩) P E s:=by
 rw[list_sort_plain];have f:=fZ d;refine aG (listItems_at d aa ?_);refine aG (NX d aa ?_);obtain⟨e,b⟩:∃e,(s.heap.update a (pO λY=>#[])).get? a=ac (kG "list" #[] e):=⟨_,get?_update_seq d (λY=>#[])⟩
 refine aG (NY b aa ?_);refine aG (wpAny_newTuple ?_);refine aG (En ?_);refine gs ?_;have c:(((s.heap.update a (pO λY=>#[])).push (kG "tuple" [v].toArray 0)).push (kG "list" #[] 0)).get? a=ac (kG "list" #[] e):=by rw[NZ _ _ _ (by rw[Eo,Ep];exact kD (N7 f)),NZ _ _ _ (by rw[Ep];exact kD f)];exact b
 dsimp only;have g:[v].toArray.size<2:=cO _;rw[aR g,aR g];refine aG (bc ?_);rw[StateT.run_pure];refine aG (bc ?_);dsimp-zeta-zetaHave only;refine aG (NY c aa ?_);refine aG (NX c aa ?_ (hsz2:=by rw[Array.size_map];show(pairsOf [v]).size<=_;rw[pairsOf_size,eF];exact aX _ _));simp-zeta-zetaHave only[bne_self_eq_false,CM,pJ];have i:Array.map (λx=>x.2) (arrOf (SortSt.mk' general' ([v].toArray.zip [v].toArray) #[] 7 ak))=#[v]:=by apply Array.ext';simp
 rw[i];exact bc h
theorem N8(c:s.heap.IsList l [v].toArray)(q:Q (.ref (s.heap.objs.size+1)) {s with heap:=sortedAll s.heap [v] #[v]}):
 be (aY pg wd) A (kx (.builtin "sorted") [.ref l]) Q E s:=by
 refine N9 Oa Ob Oc (Od _) ?_;unfold Oe;refine aG (m:=checkCount "sorted" 1 1 _) (bc ?_);refine aG (collect_list c ?_);refine aG (En ?_);have a:((s.heap.push (kG "list" #[] 0)).update s.heap.objs.size (pO (·++[v].toArray))).objs.size=s.heap.objs.size+1:=by rw[Ep,Eo]
 have b:(((s.heap.push (kG "list" #[] 0)).update s.heap.objs.size (pO (·++[v].toArray))).push (kG "list" [v].toArray 0)).get? (s.heap.objs.size+1)=ac (kG "list" [v].toArray 0):=by rw[<-a];exact fc _ aa
 rw[a];refine aG (gs (pI Of ⟨_,b,aa⟩ Og (NW b ⟨_,aa,?_⟩) (Oh _)));exact bc ⟨_,aa,q⟩
theorem Oi(q:Q (.d (.list [x])) G):cF A (.builtin "sorted") [.d (.list [x])] G Q:=λf s z S i=>by
 refine ji i λB h=>jh h λa vs n e g r=>?_;obtain⟨l⟩:=vs;refine bb.onC (P:=λl=>s.heap.get? a=ac ⟨.type "list",ak,.seq ⟨l⟩ n,#[]⟩->_) r (λv c j k=>bb.on0 k λe=>?_) e;refine N8 ⟨_,e,aa,_,aa⟩<|aw (S.more (λb o e=>sortedAll_old e:∀b o,s.heap.get? b=ac o->(sortedAll s.heap [v] #[v]).get? b=ac o)) λt d=>aK (sortedAll_at s.heap [v] #[v]) λm u=>?_
 have w:G (s.heap.objs.size+1)=ak:=by
  cases q:G (s.heap.objs.size+1) with
  |none=>rfl
  |some p=>refine aK (S.get q) λC y=>?_;have:=fZ y;exact bv (kB (jT _) this) (jM _)
 exact(.mk _ s.toks G (.d (.list [x])) aa t d (Rd.lst u w (.one (Rd.ext S d.any j))) q)
theorem Oj(W:A.handled=ak)(ha:G a=ac (.itab H))(I:H.length<64)(q:∀w:ae af,w.Perm (H.map (·.1))->w.Pairwise (·<=·)->Q (.d (.list (w.map .int))) G):
 cF A (.builtin "sorted") [.ref a] G Q:=λh1 s f S i=>by
 refine ji i λu1 i1=>?_;obtain rfl:u1=.ref a:=i1;refine aw (S.objs a _ ha) λlo J=>aL J λN hd hk r=>aK hd.dictAt λep L=>?_;have d:=tH hk;refine N9 Oa Ob Oc (Od _) ?_;unfold Oe;refine aG (m:=checkCount "sorted" 1 1 _) (bc ?_);refine aG (kdu_collect (A:=A.in1) (kdl_dict lo) W L (by rw[eF];exact aj [_,_] 0x10f080e0e0e0e0e1e112c0111c084e0 aa d I) λh T c k g=>?_);have j:c.toList.length=N.length:=by rw[d9];exact g.1
 refine aG (En ?_ (by rw[j,eF];exact aj [_,_] 0x10f080e0e0e0e0e1e112c0111c084e0 aa d I));have hI:∀(y:ae (af×aV))(f:ae aV),f.length=y.length->(∀(i:ah)(v),f[i]?=ac v->∃k x,y[i]?=ac (k,x)/\(vy pg wd).is k v=ao)->td f (y.map (·.1)):=by
  intro y;induction y with
  |nil=>intro f M Y;rw[rv.mp M];exact .nil
  |cons z y ih=>
   intro f M U
   cases f with
   |nil=>trivial
   |cons u f=>
    refine cQ (U 0 u aa) λk x B C=>?_;simp at B;have hv:∃t,u=.int k t:=by simp-zeta-zetaHave only[vy] at C;cases u<;>simp[Value.isInt] at C;exact ew _ (by rw[C])
    refine aK hv ?_;rintro t rfl;rw[c9,(by rw[B]:z.1=k)];exact .cons _ _ (ih f (by simpa using M) λi v e=>U (i+1) v (e))
 have l:td c.toList (H.map (·.1)):=by rw[<-hk];exact hI N c.toList j λi v e=>g.2 i v (by rw[<-s9];exact e)
 have n:(h.push (kG "list" c.toList.toArray 0)).get? h.objs.size=ac (kG "list" c.toList.toArray 0):=fc _ aa;refine aG (gs (pI Of ⟨_,n,aa⟩ Og (list_sort_tree (s:=(sW s (h.push (kG "list" c.toList.toArray 0)) T)) n l (aj [_,_,_] 0x11f084e212c1212c0111c084e0 aa j d I) λD w a1 a2 a3=>⟨_,aa,?_⟩) (Oh _)));refine bc ⟨_,aa,?_⟩;have k2:∀b o,s.heap.get? b=ac o->(sortedHeap (h.push (kG "list" c.toList.toArray 0)) h.objs.size c.toList D).get? b=ac o:=λb o e=>by have B:=k b o e;have E:=fZ B;rw[sortedHeap_old (kD E) (by rw[Eo];exact N7 E)];exact gc _ B
 refine aw (S.more k2) λS1 x1=>aK (sortedHeap_at (vs:=c.toList) (out:=D) n) λm C=>?_;have gn:G h.objs.size=ak:=by
  cases q:G h.objs.size with
  |none=>rfl
  |some p=>refine aK (S.get q) λob e'=>?_;have:=fZ (k _ _ e');exact bv this (jM _)
 exact(.mk _ T G (.d (.list (w.map .int))) aa S1 x1 (Rd.lst C gn (Nt a1)) (q w a2 a3))
theorem Ok{K:cg}(q:k (.builtin "str.split") [.str x] G):nf K A (.str x) (aD "split") G k:=λa s u b S i=>by exact lX i λY=>GM.split ⟨s.heap,s.toks,G,_,aa,S,fY,aa,.cons (Is.str _ _) .nil,q⟩
theorem Ol(t)(a):bb G h (strsFrom t a) (a.map .str):=by
 induction a generalizing t with
 |nil=>exact .nil
 |cons x a b=>exact .cons (.str _ _) (b _)
theorem Om(a:(decide (x.length<y.length)||decide (tL x<tL y))=ax)(b:(y.length==0)=ax)
 (c:(mi x y 0 x.length (x.length+1)).isEmpty=ax)(d:x.length<=1000)
 (e:(pW x (mi x y 0 x.length (x.length+1)) y.length).length<=1000)
 (q:Q (.d (.list ((pW x (mi x y 0 x.length (x.length+1)) y.length).map .str))) G):cF A (.builtin "str.split") [.str x,.str y] G Q:=λf s l S i=>by refine m7 i λm n g h=>lX g λY=>lX h λY=>pP PySem.F.slot_str_split (typeIs_str _ _ _) PySem.F.entry_str_split (PySem.F.args_str_split_2 _ _) (meets_str_split_sep x y _ _ a b c (by rw[eF];exact aj [_] 0x10f080e0e0e0e0e1e010c88ee3e0 aa d) (by rw[eF];exact aj [_] 0x10f080e0e0e0e0e1e010c88ee3e0 aa e))<|aw (S.push {cls:=.type "list",data:=.seq (strsFrom s.toks (pW x (mi x y 0 x.length (x.length+1)) y.length)).toArray}) λj k=>(.mk _ _ G (.d (.list ((pW x (mi x y 0 x.length (x.length+1)) y.length).map .str))) aa j k (Rd.lst (fc _ aa) (S.fresh (fE _)) (Ol _ _)) q)
theorem On
 (h:let Q1:V->AH->Prop:=λw H=>EV A z f i (bo l) H λB b=>∃a E k m,w=.ref a/\B=.int k/\b a=ac (.list E)/\0<=k/\E[k.toNat]?=ac (.int m)/\E.length<=1000000/\EV A z f D (bo l) b λv I=>∃c,v=.int c/\I=b/\N l (aE b a (.list (E.set k.toNat (.int (m+c)))));EV A z f o (bo l) G Q1)
 (hi:∀w B g,Er i w B g=(do gq [g,w,B] (pN w B g);Es [g,w,B] [];bg .next)):
 XV A z f (.AugAssign (.Subscript o i p) .Add D h5) l G N C Rt:=λs S R=>by
 refine wpAny_AugAssign_SubscriptAny (aM (h s S R) ?_) hi;refine ce ?_;rintro u h1 h6 G1 w S1 T io k;refine aM (k _ S1 (R.ext S T))<|ce λiu h2 J G2 B S2 x2 ii d=>pC d ?_;rintro a E j m rfl rfl ha U hx hl k
 obtain rfl:u=.ref a:=io;refine cB ii λt=>cQ (S2.objs a _ ha) λvs n e r=>au (r.get hx) λy hy ry=>?_;have L:=(dF.mp hx).1;refine yH (s:=sW s h2 J) (items:=vs) ⟨_,e,aa,_,aa⟩ U (ay [_,_,_] 0x11f080e0e0e0e0e0e0e0e0e0e0e0e0e0e8e215c2111c0110c084e2e4efe0 aa (dh (ay [j] 18623113510920 aa U)) (eL.2 L) (bD.2 hl)) (by simpa using hy)<|aM (k (sW s h2 J) S2 (R.ext S (T.trans x2)))<|ce λcu h3 M G3 cv S3 x3 ic d=>aL d ?_;rintro c rfl rfl q
 refine cB ic λt3=>cB ry λt2=>abr<|aM (yW (A:=A) (x:=.int (m+c)) (Q:=λG'=>G'=aE G3 a (.list (E.set j.toNat (.int (m+c))))) ha hl U L aa f (sW s h3 (M+1)) (.ref a) (.int j t) (.int (m+c) M) S3 (Is.raw _) (Is.int _ _) (Is.int _ _)) λY s' d=>mV d ?_;rintro h4 W G4 rfl S4 x4 rfl
 have xx:=T.trans (x2.trans (x3.trans x4));exact(.mk h4 W _ aa S4 xx.any ⟨l,R.ext S xx,q⟩)
theorem Oo(a:s.heap.IsTupleIter d l i)(k:s.heap.IsTuple l b)(m:b[i]?=ac x)
 (n:∀f,f.IsTupleIter d l (i+1)->Heap.SameBut d s.heap f->Q x {s with heap:=f}):be (aY pg wd) A (zA (.ref d)) Q E s:=by
 refine aL (id a) λo e p c=>aL k λq g Y h=>aK h λr j=>?_;unfold zA;refine aG (vL (name:=aD "__next__") a.typeIs zB
  (pI zB a.typeIs Op ?_ (Oq _)))
 show be _ _ (field (.ref d) 0>>=_) _ _ s;refine aG (gX e c (x:=.ref l) aa ?_);rw[aQ (show¬((eQ l==mj)=ao) from pH)];refine aG (gX e c (x:=.int i 0) aa ?_);refine aG (yo g j ?_);simp-zeta-zetaHave only[lA,m];refine aG (rx e c (cO _) (bc ⟨x,aa,bc (n _ ?_ (Ot ..))⟩));exact⟨_,tu _ e (zC (pX c _)),(zD ..).trans p,by rw[pX c];rfl⟩
theorem Ou(p:A.handled=ak)(b:s.heap.IsTupleIter d l i)(q:s.heap.IsTuple l c)(r:c[i]?=ak)
 (t:∀f e,Heap.ExtBut d s.heap f->(∃o,f.get? e=ac o/\o.cls=.type "StopIteration")->E (.ref e) {s with heap:=f}):be (aY pg wd) A (zA (.ref d)) Q E s:=by
 refine aL (id b) λo g u h=>aL q λv j Y k=>aK k λw n=>?_;unfold zA;refine aG (vL (name:=aD "__next__") b.typeIs zB
  (pI zB b.typeIs Op ?_ (Oq _)))
 show be _ _ (field (.ref d) 0>>=_) _ _ s;refine aG (gX g h (x:=.ref l) aa ?_);rw[aQ (show¬((eQ l==mj)=ao) from pH)];refine aG (gX g h (x:=.int i 0) aa ?_);refine aG (yo j n ?_);simp-zeta-zetaHave only[lA,r];refine aG (vw (aG (rx g h (fR _ _) ?_)));refine aG ?_;simp-zeta-zetaHave only[newExc,yC];refine aG (kA ?_ (by size_fits));refine aG (m:=Ov _ _) (MO (a:=mj) (by first|rfl|(simp-zeta-zetaHave only[Ov];rfl)) ?_);refine kA ?_ (by size_fits);simp-zeta-zetaHave only[raiseNew];refine aG (wpAny_handled ?_);first|rw[show A.in1.handled=ak from p]|rw[p]
 refine aG (bc (wpAny_throw ?_));exact t _ _ (((Ot ..).extBut.push _).push _) ⟨_,fc _ aa,aa⟩
theorem Ow(j:A.handled=ak)(b l)(f:l≠b)(a):
 Draws pg wd A b [b,l] a.size (λi v=>a[i]?=ac v) (λi h=>h.IsTupleIter b l i/\h.IsTuple l a) where
 live:=λY Y st=>let⟨o,k,_⟩:=st.1;⟨o,k⟩
 frame:=λY Y Y st hk=>⟨st.1.at λo e=>hk b (aP) o e,st.2.at λo e=>hk l (.tail _ (.head _)) o e⟩
 item:=λi s Q E g st m=>by refine Oo st.1 st.2 (x:=a[i]) (by simp[g]) λn c d=>m _ n s.toks (by simp[g]) ⟨c,st.2.extBut d.extBut f⟩ d
 done:=λs Q E st p=>Ou j st.1 st.2 (by simp) p
theorem Ox{f:a->jS c}(h:∀b,be M A (f b) Q E s)(x):be M A (f x) Q E s:=h x
theorem Oy(c:s.heap.get? l=ac ⟨.type "tuple",ak,.seq a n,#[]⟩)
 (h:∀e,v9 e (s.heap.objs.size+1) s.heap.objs.size 0 .none->e.IsTupleIter s.heap.objs.size l 0->e.objs.size=s.heap.objs.size+2->
  (∀b o,s.heap.get? b=ac o->e.get? b=ac o)->Q (.ref (s.heap.objs.size+1)) {s with heap:=e}):
 be (aY pg wd) A (kx (.type "enumerate") [.ref l]) Q E s:=by
 refine callType_new PySem.F.called_enumerate (by rfl) (PySem.F.typeCall_enumerate_1 _) (PySem.F.newCall_enumerate_1 _) (λf=>PySem.F.args_object_init_2 f _) PySem.F.entry_enumerate_new
  ((.of_wp λpg wd A R s h=>by
   obtain⟨m,g,d,p,os⟩:=s;refine aw h ?_;intro c h;have j:=sub_enumerate;have q:Heap.IsTuple (Shared.heap ⟨m,g,d,p,os⟩) l a:=⟨_,c,aa,n,aa⟩
   wp_walk using Oz c;refine wpAny_stack_any λst=>bc<|Ox (λb=>?_) _
   cases b<;>(wp_walk using Oz c,Mv q;exact bi _ aa h):Meets (abs ⟨[.type "enumerate",.ref l],[]⟩) (λY R s=>s.heap.get? l=ac {cls:=.type "tuple",dict:=ak,data:=.seq a n,slots:=#[]}/\R (.ok (.ret (.ref (s.heap.push {cls:=.type "tuple_iterator",data:=.fields #[.ref l,.int 0 0]}).objs.size))) {s with heap:=(s.heap.push {cls:=.type "tuple_iterator",data:=.fields #[.ref l,.int 0 0]}).push {cls:=.type "enumerate",data:=.fields #[.none,.bool ax,.ref s.heap.objs.size,fG 0,.none,.none]}}))) ⟨c,?_⟩
 have i:(s.heap.push {cls:=.type "tuple_iterator",data:=.fields #[.ref l,.int 0 0]}).objs.size=s.heap.objs.size+1:=vZ ..;rw[i];have k:v9 ((s.heap.push {cls:=.type "tuple_iterator",data:=.fields #[.ref l,.int 0 0]}).push
  {cls:=.type "enumerate",data:=.fields #[.none,.bool ax,.ref s.heap.objs.size,fG 0,.none,.none]}) (s.heap.objs.size+1) s.heap.objs.size 0 .none:=by
  have:=fc (s.heap.push {cls:=.type "tuple_iterator",data:=.fields #[.ref l,.int 0 0]})
   (o:={cls:=.type "enumerate",data:=.fields #[.none,.bool ax,.ref s.heap.objs.size,fG 0,.none,.none]}) aa
  rw[i] at this;exact this
 refine aF ⟨_,k,aa⟩ (h _ k ⟨_,gc _ (fc _ aa),aa,aa⟩ (by rw[vZ,i]) λb o x=>gc _ (gc _ x))
def jW a b:=gY (motive:=λY=>ah->ae V) (λY=>[]) (λx r c i=>.tup [.int i,.d x]::(c (i+1))) b a
theorem jW.q2:jW (i) (x::r)=(.tup [.int i,.d x]::jW (i+1) r):=aa
theorem OA{pp:cT}(D:Draws pg wd A.in1 t N n P d)(T:e≠t)(w:e∉N)
 (y:∀i h,d i h->∃o,h.get? t=ac o/\m9 o/\gV o)(j:∀i h,d i h->∀b∈N,∃o,h.get? b=ac o)(g:u.length=n)
 (U:∀i v x G h,P i v->u[i]?=ac x->bb G h us u->Rd G h v x):
 ∀(k i)(G)(h),i+k=n->(∃f,v9 h e t i f)->d i h->St own G h->bb G h us u->(∀b∈e::N,G b=ak/\b∉own)->pT A own [e,t] (.Tuple elts kk pp) e (jW i (u.drop i)) G h:=by
 intro k;induction k with
 |zero=>intro i G h l m st S r c;obtain rfl:i=n:=bQ (aj [_,_] 298036685279360 rfl l) (aj [_,_] 297972311101568 rfl l);rw[y3 (by exact aj [_,_] 72762862608 aa g)];intro M s E Q x X W Y;refine aK m λf m=>wpAny_pyNext_enum_endD D ((x e _ m (c e aP).1 (c e aP).2).1:v9 s.heap e t i f) (D.frame _ _ _ st λb a o q=>(x b o q (c b (ba _ a)).1 (c b (ba _ a)).2).1:d i s.heap) λh' k=>Y h' s.toks λb o a q=>k b o (λz=>a (by rw[z];exact .tail _ (.head _))) q
 |succ k ih=>
  intro i G h l m st S r c;have B:i<u.length:=aj [_,_,_,_] 0x11f0212c199183215c10 aa l g;rw[vU B];intro M s E Q x X W Y;refine aK m ?_;intro f m;have C:=(x e _ m (c e aP).1 (c e aP).2).1;refine wpAny_pyNext_enum_itemD D C (D.frame _ _ _ st λb a o q=>(x b o q (c b (ba _ a)).1 (c b (ba _ a)).2).1:d i s.heap) (aj [_,_,_] 80818583262271504 aa l) T w λv h1 tk hP h3 bK h4 x1 h5=>⟨_,aa,?_⟩
  refine wpAny_letOwnedTupleGo_enum h3 λH I p=>?_;have h6:=(p.2 _ (λq=>by have:=fZ C;rw[<-q] at this;exact jM _ this:s.heap.objs.size≠e)).trans h4;have J:∀b o,b∉[e,t]->s.heap.get? b=ac o->H.get? b=ac o:=λb o a q=>by simp at a;exact(p.2 b a.1).trans (h5 b o a.1 a.2 q)
  have cV:=D.frame _ _ _ bK λb a o q=>(p.2 b (λz=>w (z▸a))).trans q;refine aL (y _ _ cV) λo ho L h7=>?_;have X2:=X.next λb a=>by
   simp at a;refine aB a ?_ ?_<;>clear a<;>rintro rfl
   ·exact cf _ I (.inr (aW rfl)) trivial
   ·exact cf o ho L h7
  refine aw (X.turn W J) λS2 x2=>?_;have r2:=bb.ext (X.wide W) x2 (bb.ext S x r);refine Y _ H _ J X2 ?_ ?_
  ·rw[sX];refine pB _ _ _ aa h6 ?_;have iv:Is M H v (.d u[i]):=U i v _ M H hP (cr B) r2;exact(c7.cons (Is.int _ _) (c7.cons iv .nil)).l
  ·exact ih (i+1) M H (bQ (aj [_,_,_] 0x10f291918012c2991810 aa l) (aj [_,_,_] 0x10f919180215c2991810 aa l)) ⟨_,by have:((i+1:ah):af)=(i:af)+1:=(by push_cast;rfl);rw[this];exact I⟩ cV S2 r2 λb a=>⟨by
    refine aB (bj.mp a) ?_ (λh8=>?_);rintro rfl
    ·exact X.gnone _ (aP)
    ·refine aK (j i h st b h8) λob h9=>(x b ob h9 (c b a).1 (c b a).2).2,(c b a).2⟩
theorem Et{pp:cT}(D:Draws pg wd A.in1 g y n P c)(B:e≠g)(C:e∉y)
 (j:∀i h,c i h->∃o,h.get? g=ac o/\m9 o/\gV o)(a:∀i h,c i h->∀b∈y,∃o,h.get? b=ac o)(k:u.length=n)
 (H:∀i v x G h,P i v->u[i]?=ac x->bb G h us u->Rd G h v x)(L:v9 h e g 0 I)(st:c 0 h)(S:St d G h)(r:bb G h us u)(w:∀b∈e::y,G b=ak/\b∉d)(X:eH d [e,g] G h):
 tA A d (.Tuple l T pp) e [e,g] (jW 0 u) G h:=λm U M Y x N=>by
 have t:=(x e _ L (w e aP).1 (by simp)).1;refine ca (X.later x N) ?_ λs E Q q p=>Eu (by rw[q];exact t) p;have W:=OA (own:=m) (A:=A) (elts:=l) (kk:=T) (pp:=pp) D B C j a k H n 0 U M (bQ (aj [_] 284200968 aa) (aj [_] 284754048 aa)) ⟨I,t⟩ (D.frame _ _ _ st λb f o q=>(x b o q (w b (ba _ f)).1 (by simp)).1:c 0 M) Y (bb.ext S x.any r) λb f=>by
  have J:∃o,h.get? b=ac o:=by
   refine aB (bj.mp f) ?_ (λf=>?_);rintro rfl
   ·exact ew _ L
   ·exact a 0 h st b f
  refine aK J λo q=>aF (x b o q (w b f).1 (by simp)).2 λz=>aB (N b z) (λz=>?_) (λz=>?_)
  ·exact(w b f).2 z
  ·rw[q] at z;cases z
 exact W
theorem OB{K:cg}(hB:cn K Bh)(O:cS j)(hh:A.handled=ak)(hk:j.kindOf (aD "enumerate")=ac .globalImplicit)(hn:eW K eM (aD "enumerate")=ac ak)
 (h:let Q1:V->AH->Prop:=λv B=>∃w,(v=.d (.list w)\/v=.d (.tuple w))/\Kt (jW 0 w) B;EV A j N e F G Q1)
 (he:bM [e] j=(ax,bN e j)::bM [] j)(H:(dY T (bM [] j)).any (·.1)=ax):iQ A j N (.Tuple h8 k p) (.Call (.Name (aD "enumerate") np) [e] [] T) F G Kt:=λs S R=>by
 refine tm (aM (yu hB O hk hn (by decide+kernel:rb (aD "enumerate")=ac (.type "enumerate")) (Q:=λv G'=>v=.raw (.type "enumerate")/\G'=G) ⟨aa,aa⟩ (by decide+kernel) (by decide+kernel) s S R) ?_) aa;refine ce λf h1 h4 G1 y S1 x1 i I=>aw I ?_;rintro rfl rfl;obtain rfl:f=.type "enumerate":=i;refine th (K:=K) aa ?_ he H;have h5:gp A j N [e] F G1 λvs B=>∃(v:V)(w:ae aA),vs=[v]/\(v=.d (.list w)\/v=.d (.tuple w))/\Kt (jW 0 w) B:=fF (λs S R=>aM (h s S R) λu s' p=>by refine p _ ?_;clear p;intro h' h6 G' v e1 t e3 e4 qz;obtain⟨w,q1,q⟩:=qz;exact(.mk h' h6 G' v e1 t e3 e4 (kz ⟨v,w,aa,q1,q⟩))) he;refine aM (h5 (sW s h1 h4) T S1 (R.ext S x1))<|ng λus d C G2 vs z x2 i2 I=>dD I ?_;rintro v w rfl hv kt
 refine aF (hB.kin.keeps (St.keep (s:=sW s d C) z))<|ji i2 λu1 i1=>?_
 have U:∀b∈[d.objs.size+1,d.objs.size],d.get? b=ak:=λb c=>by
  cases q:d.get? b with
  |none=>rfl
  |some o=>
   have:=fZ q;simp at c;refine aB c ?_ ?_<;>clear c<;>rintro rfl
   ·exact bv (kB (jT _) this) (jM _)
   ·exact bv this (jM _)
 have J:=x1.trans x2;have W:∀b∈[d.objs.size+1,d.objs.size],∀o,s.heap.get? b=ac o->G1 b=ak->aC:=λb c o e g=>by have:=(J b o e g (by simp)).1;rw[U b c] at this;cases this
 refine aB hv ?_ ?_<;>rintro rfl
 ·refine jh i1 λa vs n t g r=>call_enumerate_list (s:=sW s d C) (items:=vs) ⟨_,t,rfl,_,rfl⟩ λh3 l D h7 k3=>Eu l<|aw (z.more (h':=h3) k3) λS3 x3=>?_
  have E:=eH.fresh z U (λb c=>z.fresh (U b c)) λb c=>by
   simp at c;refine aB c ?_ ?_<;>clear c<;>rintro rfl
   ·exact cf _ l (.inr (aW rfl)) trivial
   ·refine aL D λo m L M=>cf o m (.inr (by rw[L];exact aW aa)) (by unfold gV;rw[M];trivial)
  refine pD _ [d.objs.size+1,d.objs.size] h3 C G2 (jW 0 w) aa rfl S3 (J.trans x3) ⟨W,?_,kt⟩;have hr:=r.length;rw[d9] at hr;exact Et (us:=vs.toList) (Draws.list (A:=A.in1) hh d.objs.size a (kD (fZ t):a≠d.objs.size) vs) (DU _) (by simp;exact(λq=>by have:=fZ t;rw[<-q] at this;exact bv (kB (jT _) this) (jM _):d.objs.size+1≠a)) (λi h st=>let⟨o,m,L,M⟩:=st.1;⟨o,m,.inr (by rw[L];exact aW aa),by unfold gV;rw[M];trivial⟩)
   (λi h st b c=>by
    refine aB (bj.mp c) ?_ (λc=>?_);rintro rfl
    ·refine au st.1 λo m Y=>ew o m
    ·rw[bZ.mp c];refine au st.2 λo m Y=>ew o m) hr.symm
   (λi v x G h hP hx ia=>ia.isAll.at (i:=i) (by rw[s9];exact hP) (v:=.d x) (by rw[fH,hx];rfl)) l ⟨D,_,k3 _ _ t,aa,_,aa⟩ S3 (bb.ext z x3.any r)
   (λb c=>by
    refine aB (bj.mp c) ?_ (λc=>?_);rintro rfl
    ·exact aF (E.gnone _ (.head _)) (E.nown _ (.head _))
    ·refine aB (bj.mp c) ?_ (λc=>?_);rintro rfl
     ·exact aF (E.gnone _ (.tail _ (.head _))) (E.nown _ (.tail _ (.head _)))
     ·rw[bZ.mp c];exact aF g (z.notOwn t (vS (.inl aa)))) E
 ·refine oa i1 λa vs n t r=>Oy (s:=sW s d C) t λh3 l D h7 k3=>Eu l<|aw (z.more (h':=h3) k3) λS3 x3=>?_
  have E:=eH.fresh z U (λb c=>z.fresh (U b c)) λb c=>by
   simp at c;refine aB c ?_ ?_<;>clear c<;>rintro rfl
   ·exact cf _ l (.inr (aW rfl)) trivial
   ·refine aL D λo m L M=>cf o m (.inr (by rw[L];exact aW aa)) (by unfold gV;rw[M];trivial)
  have ga:G2 a=ak:=by
   cases q:G2 a with
   |none=>rfl
   |some p=>refine au (z.objs a p q).cls λob q' n1=>?_;rw[t] at q';cases q';exact n1.elim (λf=>f.elim) λf=>bv aa f.1
  refine pD _ [d.objs.size+1,d.objs.size] h3 C G2 (jW 0 w) aa rfl S3 (J.trans x3) ⟨W,?_,kt⟩;have hr:=r.length;rw[d9] at hr;exact Et (us:=vs.toList) (Ow (A:=A.in1) hh d.objs.size a (kD (fZ t):a≠d.objs.size) vs) (DU _) (by simp;exact(λq=>by have:=fZ t;rw[<-q] at this;exact bv (kB (jT _) this) (jM _):d.objs.size+1≠a)) (λi h st=>let⟨o,m,L,M⟩:=st.1;⟨o,m,.inr (by rw[L];exact aW aa),by unfold gV;rw[M];trivial⟩)
   (λi h st b c=>by
    refine aB (bj.mp c) ?_ (λc=>?_);rintro rfl
    ·refine au st.1 λo m Y=>ew o m
    ·rw[bZ.mp c];refine au st.2 λo m Y=>ew o m) hr.symm
   (λi v x G h hP hx ia=>ia.isAll.at (i:=i) (by rw[s9];exact hP) (v:=.d x) (by rw[fH,hx];rfl)) l ⟨D,_,k3 _ _ t,aa,_,aa⟩ S3 (bb.ext z x3.any r)
   (λb c=>by
    refine aB (bj.mp c) ?_ (λc=>?_);rintro rfl
    ·exact aF (E.gnone _ (.head _)) (E.nown _ (.head _))
    ·refine aB (bj.mp c) ?_ (λc=>?_);rintro rfl
     ·exact aF (E.gnone _ (.tail _ (.head _))) (E.nown _ (.tail _ (.head _)))
     ·rw[bZ.mp c];exact aF ga (z.notOwn t (vS (.inr (.inl aa))))) E
theorem Ev{P:ae b->Prop}(p:P []):∀a,a.length=0->P a:=λa h=>by
 cases a with
 |nil=>exact p
 |cons=>cases h
theorem nu{P:ae c->Prop}(p:∀a,P [a]):∀b,b.length=1->P b:=λb h=>by
 cases b with
 |nil=>cases h
 |cons a b=>exact Ev (P:=λb=>P (a::b)) (p a) b (pY h)
theorem jx{P:ae d->Prop}(p:∀a b,P [a,b]):∀c,c.length=2->P c:=λc h=>by
 cases c with
 |nil=>cases h
 |cons a c=>exact nu (P:=λc=>P (a::c)) (p a) c (pY h)
theorem iS{P:ae e->Prop}(p:∀a b c,P [a,b,c]):∀d,d.length=3->P d:=λd h=>by
 cases d with
 |nil=>cases h
 |cons a d=>exact jx (P:=λd=>P (a::d)) (p a) d (pY h)
theorem ox{P:ae f->Prop}(p:∀a b c d,P [a,b,c,d]):∀e,e.length=4->P e:=λe h=>by
 cases e with
 |nil=>cases h
 |cons a e=>exact iS (P:=λe=>P (a::e)) (p a) e (pY h)
theorem rz{P:ae g->Prop}(p:∀a b c d e,P [a,b,c,d,e]):∀f,f.length=5->P f:=λf h=>by
 cases f with
 |nil=>cases h
 |cons a f=>exact ox (P:=λf=>P (a::f)) (p a) f (pY h)
theorem OC{P:ae i->Prop}(p:∀a b c d e f,P [a,b,c,d,e,f]):∀g,g.length=6->P g:=λg h=>by
 cases g with
 |nil=>cases h
 |cons a g=>exact rz (P:=λg=>P (a::g)) (p a) g (pY h)
noncomputable def rA a x:=a.lookup x==ac .local||(a.lookup x==ac .cell&&((mb 0 a []).lookup x).isSome)
theorem Ew(l:Ls):(l.map (·.1)).zip (l.map (·.2))=l:=by
 induction l with
 |nil=>rfl
 |cons p l a=>exact bA _ ‹_›
theorem zE{K:cg}(l)(b)(z:cn K Bh)(v:cA A (n+1))
 (B:K.lookup f=ac ⟨U,W,.func (iN k e d g a C D r E H m I),J⟩)(s:Bh.CodeRec m e)
 (L:o=l.map (·.2))(M:b=l.map (·.1))
 (i:∀p,p.length=b.length->oo (iN k e d g a C D r E H m I) ⟨p,[]⟩=bg (b.zip p))(t:b.Nodup)
 (j:b.all (rA a.names)=ao)
 (h:∀c,cS c->gM c a.names->cA (A.deeper c) n->A.handled=ak->(A.deeper c).handled=ak->
  SV (A.deeper c) c (hX c) g l G (λY N=>w .none N) (λY Y=>aC) w)
 (u:a.isCoroutine=ax)(q:a.isGenerator=ax)(hk:a.kind=.function):fe A (.ref f) o G w:=by
 subst L M;refine Ms z v B s (names:=l.map (·.1)) (λp y=>i p (by rw[aI] at y⊢;exact y)) t (λx Q=>?_) (λc O T R=>?_) u q hk
 ·have:=gK.mp j x Q;simp only[rA,Ex,fD,jq] at this;exact this
 ·rw[Ew];exact h c O T R v.hd R.hd
def lB(S:ae aZ)(G b:AH):=∀a o,a∉S->G a=ac o->b a=ac o
theorem lB.trans(x:lB S G c)(y:lB S c b):lB S G b:=λa o n e=>y a o n (x a o n e)
theorem lB.upd(h:a∈S\/G a=ak):lB S G (aE G a o):=λb p n e=>by
 rw[aU]
 ·exact e
 ·rintro rfl;refine aB h ?_ ?_<;>clear h<;>intro h
  ·exact n h
  ·rw[h] at e;cases e
noncomputable abbrev nv b:=λc a=>do let _<-kx (.builtin "list.append") [c,<-bN b a]
theorem OD(e)(O:cS b)(v:gM b c)(w:A.handled=ak)
 (h:let y:ae V->AH->Prop:=λf i=>kE A b a q j (nv k) e f i λz m=>Q (.d (.list z)) m;iQ A b r q d (bo l) G y)(n:d5 e l)
 (g:a.kind=.function)(s:gi a.names c=ao)(o:md (e.map (·.1)) a.names c=ao)
 (B:∀x,gh d b x=bg x):
 EV A b r (.ListComp k [⟨q,d,j,0⟩] a t) (bo l) G Q:=
 MH (λC u p=>Ey k q d j a t C u p) O v w e h g s o n B
theorem OE(e)(O:cS c)(E:gM c b)(H:A.handled=ak)
 (h:let I:ae V->AH->Prop:=λf i=>kE A c a u j (nv m) e f i λJ o=>N ((y,.d (.list J))::l) o;iQ A c v u d (bo l) G I)(p:d5 e l)
 (g:a.kind=.function)(w:gi a.names b=ao)(q:md (e.map (·.1)) a.names b=ao)
 (L:b.lookup y=ac .local)(z:(a.names.any λ(n,k)=>n==y&&(k==.local||k==.cell))=ax)(r:(M.line==s.line)=ao)
 (Q:∀x,gh d c x=bg x):
 XV A c v (.Assign [.Name y M] (.ListComp m [⟨u,d,j,0⟩] a s) D) l G N C U:=
 DP (λT B t=>Ey m u d j a s T B t) O E H e h g w q p L z r Q
theorem ij(G)(a)(o p):aE (aE G a o) a p=aE G a p:=by funext b;unfold aE;split<;>rfl
theorem Ez(h:G a=ak):cL (aE G a o) a=G:=by
 funext b;delta cL aE;by_cases e:b=a
 ·rw[aR e,e,h]
 ·rw[aQ e,aQ e]
theorem pR.bnd(h:pR b a)(e:a.lookup x=ac .local):jR b c x:=.inl (h x _ e (aW aa))
theorem pR.k(h:pR b a)(e:a.lookup x=ac .globalImplicit):b.kindOf x=ac .globalImplicit:=h x _ e (aW aa)
noncomputable def ff(i:ah):=aD "n"++aD (mg (i:af))
theorem OF(a b:aN):(a++b).cps.toList=a.cps.toList++b.cps.toList:=by show(a.cps++b.cps).toList=_;simp
theorem zF(i):(ff i).cps.toList=110::(Nat.toDigits 10 i).map Char.toNat:=by unfold ff;rw[OF,OG];rfl
theorem zG(h:ff i=ff j):i=j:=by have e:=bA (λx=>x.cps.toList) h;simp-zeta-zetaHave only[zF,pG,EA] at e;have:=bA abt e;rw[OH,OH] at this;exact this
theorem wa{i:ah}(h:i<100000):(aD (mg (i:af))).length<=5:=by show(aD (mg (i:af))).cps.size<=5;rw[<-d9,OG,aI];exact(Nat.length_toDigits_le_iff (aX _ _) (aX _ _)).mpr (aj [_] 0x11f08ae6e8e1e011c08ae6e8e1e0 aa h)
theorem OI(i):gT (ff i)=ao:=by
 unfold gT;rw[<-Array.all_toList,zF,gK];intro c b;refine aB (bj.mp b) ?_ (λb=>?_);rintro rfl
 ·rfl
 ·refine au (bV.mp b) ?_;rintro a d rfl;have:=Nat.isDigit_of_mem_toDigits (aX _ _) (cO _) d;have g:a.toNat<1114112:=by have:=a.valid;have e:a.toNat=a.val.toNat:=aa;(refine aB this (λh=>?_) ?_;rotate_left;intro f;refine aw f λY h=>?_;rotate_right)<;>first|exact h|exact kB h (by decide)
  exact hW g
theorem zH(i):ff i≠aD "tree":=λh=>by have e:=bA (λx=>x.cps.toList) h;simp-zeta-zetaHave only[zF] at e;rw[show(aD "tree").cps.toList=[116,114,101,101] by decide+kernel] at e;simp at e
theorem tM{i:ah}(h:i<100000):((i:af)).natAbs<10^4300:=by
 have:(10:ah)^5<=10^4300:=tN (aX _ _) (aX _ _);have e:(10:ah)^5=100000:=by decide
 rw[zI];exact gE (OJ h e.symm) this
theorem OK
 (h:let Q1:V->AH->Prop:=λv w=>EV A j l c F w λlo x=>EV A j l d F x λY y=>∃(g:ae aA)(a b:ah),v=.d (.tuple g)/\lo=.int a/\Y=.int b/\a<=b/\b<=g.length/\g.length<=1000000/\Q (.d (.tuple ((g.drop a).take (b-a)))) y;EV A j l m F G Q1)
 (hs:∀a b,jt (.Slice (ac c) (ac d) ak p) ax (.ref a) (.ref b)=ju [.ref b,.ref a] (hY (.ref a) (.ref b)))
 :
 EV A j l (.Subscript m (.Slice (ac c) (ac d) ak p) h4) F G Q:=λs S R=>by
 refine C6 (aM (h s S R) ?_);refine ce ?_;rintro u h1 H G1 v S1 I i k;refine NO (aM (k (sW s h1 H) S1 (R.ext S I)) ?_);refine ce ?_;rintro lu h2 J G2 lo S2 L il k;refine aM (k (sW s h2 J) S2 (R.ext S (I.trans L)))<|ce λhu o f z Y M N ih T=>Ci T ?_;rintro g a b rfl rfl rfl U hb hl q
 refine bc<|cB (Is.ext S2 N.any il:Rd z o lu (.int a)) λC=>cB (ih:Rd z o hu (.int b)) λD=>oa (Is.ext S1 (L.trans N).any i:Rd z o u (.tuple g)) λt vs n e r=>?_
 have E:=r.length;rw[d9] at E;refine aw (M.push {cls:=.type "slice",data:=.fields #[.int a C,.int b D,.none]}) λS5 W=>?_;have B:IsTup (o.push {cls:=.type "slice",data:=.fields #[.int a C,.int b D,.none]}) t vs:=⟨_,gc _ e,aa,_,aa⟩
 have X5:=I.trans (L.trans (N.trans W));refine oj (s:=(sW s (o.push {cls:=.type "slice",data:=.fields #[.int a C,.int b D,.none]}) f)) B.typeIs Ek.lookup
  (NU (s:=(sW s (o.push {cls:=.type "slice",data:=.fields #[.int a C,.int b D,.none]}) f)) B (NP ..) U (aj [_,_,_] 76281989671509008 aa hb E) (λe0 e1=>?_) ?_ (by rw[eF];exact aj [_,_] 0x10f080e0e0e0e0e1e112c0110c084e2e4efe0 aa E hl)) (hs t _)
 ·subst e0;rw[e1,E,Nat.sub_zero,OM,EB] at q;exact(.mk _ f z (.d (.tuple g)) aa S5 X5 (Rd.tup (gc _ e) (bb.ext M W.any r)) q)
 ·refine aw (S5.push {cls:=.type "tuple",data:=.seq ((vs.toList.drop a).take (b-a)).toArray}) λS6 x6=>(.mk _ f z (.d (.tuple ((g.drop a).take (b-a)))) aa S6 (X5.trans x6) (Rd.tup (fc _ aa) (((bb.ext M (W.trans x6).any r).drop a).take (b-a))) q)
theorem ON(e)(O:cS c)(H:gM c b)(I:A.handled=ak)
 (h:let J:ae V->AH->Prop:=λg j=>kE A c a u m (nv o) e g j λL f=>∀D,f D=ak->N ((y,.ref D)::l) (aE f D (.list L));iQ A c v u d (bo l) G J)(p:d5 e l)
 (i:a.kind=.function)(w:gi a.names b=ao)(q:md (e.map (·.1)) a.names b=ao)
 (M:b.lookup y=ac .local)(z:(a.names.any λ(n,k)=>n==y&&(k==.local||k==.cell))=ax)(r:(Q.line==s.line)=ao)
 (T:∀x,gh d c x=bg x):
 XV A c v (.Assign [.Name y Q] (.ListComp o [⟨u,d,m,0⟩] a s) E) l G N C W:=
 MK (λU B t=>Ey o u d m a s U B t) O H I e h i w q p M z r T
theorem bb.inj:∀{v}{d e},bb G h v d->bb G h v e->d=e:=by exact λ{v d e}r=>r.ind (P:=λv d=>∀{e},bb G h v e->d=e) (λb=>b.on0V aa) (λa Y c Y b=>b.onV λY Y b s=>by rw[Rd.inj a b,c s])
mutual
def fu (xs:ae aA):aA->Prop
 |.list ys=>ys≠xs/\fI xs ys
 |.tuple ys=>fI xs ys
 |.none=>fP
 |.bool _=>fP
 |.int _=>fP
 |.str _=>fP
 |.dict _=>fP
def fI (xs:ae aA):ae aA->Prop
 |[]=>fP
 |y::ys=>fu xs y/\fI xs ys
end
theorem fu.q1:fu a (.list b)=(b≠a/\fI a b):=aa
theorem fu.q2:fu a (.tuple b)=(fI a b):=aa
theorem EC:fu a (.int b)=(fP):=aa
theorem ED:fu a (.str b)=(fP):=aa
theorem fI.q1:fI a ([])=(fP):=aa
theorem fI.q2:fI a (y::b)=(fu a y/\fI a b):=aa
theorem fI.of:∀{a},(∀y∈a,fu c y)->fI c a:=by
 intro d;induction d with
 |nil=>exact@λY=>by rw[fI.q1];trivial
 |cons y a b=>exact@λh=>by rw[fI.q2];exact aF (h y aP) (b λz e=>h z (ba _ e))
theorem Rd.back(m:h.get? J=ac ⟨.type "list",lW,.seq ws n,#[]⟩)(o:bb G h ws.toList f)(p:∀b,b≠J->G b=lW->j b=lW)(r:Rd G h v d):fu f d->Rd j h v d:=
 r.ind (P:=λv d=>fu f d->Rd j h v d) (λY=>.none) (λb Y=>.bool b) (λi t Y=>.int i t) (λx t Y=>.str x t)
  (λe Y l k=>.tup e (l (Q:=λvs c=>fI f c->bb j h vs c) (λY=>.nil) (λa b k=>by rw[fI.q2] at k;exact .cons (a k.1) (b k.2)) (by rw[fu.q2] at k;exact k)))
  λ{a _ _ _}e g r l k=>by
   rw[fu.q1] at k;by_cases q:a=J
   ·subst q;rw[m] at e;cases e;exact bv (bb.inj r o) k.1
   ·exact .lst e (p a q g) (l (Q:=λvs c=>fI f c->bb j h vs c) (λY=>.nil) (λa b k=>by rw[fI.q2] at k;exact .cons (a k.1) (b k.2)) k.2)
theorem bb.back(f:h.get? J=ac ⟨.type "list",ak,.seq ws n,#[]⟩)(g:bb G h ws.toList c)(i:∀b,b≠J->G b=ak->e b=ak):∀{v}{d},bb G h v d->fI c d->bb e h v d:=by exact λ{v d}r k=>r.ind (P:=λv d=>fI c d->bb e h v d) (λY=>.nil) (λa Y j k=>by rw[fI.q2] at k;exact .cons (Rd.back f g i a k.1) (j k.2)) k
def OO(a:ae aA):V->Prop
 |.d x=>fu a x
 |.raw _=>fP
 |_=>aC
def rB(b:ae aA):O->Prop
 |.list a=>fI b a
 |.tab a=>fI b (a.map (·.2))
 |.itab a=>fI b (a.map (·.2))
 |.stab a=>fI b (a.map (·.2))
 |.inst _ _=>fP
 |.fr _=>fP
 |.exc .. =>fP
 |.tb .. =>fP
 |.attrs c=>∀p∈c,OO b p.2
inductive Pk(J:aZ)(xs:ae aA):ae V->ae V->Prop
 |nil:Pk J xs [] []
 |same {v as bs}:Pk J xs as bs->Pk J xs (v::as) (v::bs)
 |lent {as bs}:Pk J xs as bs->Pk J xs (.ref J::as) (.d (.list xs)::bs)
theorem Pk.all(r:Rd (cL G J) h (.ref J) (.list c))(k:Pk J c d e):c7 G h b d->c7 (cL G J) h b e:=by
 induction k generalizing b with
 |nil=>exact λt=>t.on0 .nil
 |same _ a=>exact λt=>t.onC λY Y i t=>.cons i.del (a t)
 |lent _ a=>exact λt=>t.onC λY Y i t=>by cases i;exact .cons r (a t)
theorem l8.back(g:h.get? J=ac ⟨.type "list",ak,.seq ws n,#[]⟩)(j:bb G h ws.toList A)(l:∀b,b≠J->G b=ak->D b=ak)
 (i:l8 G h a o)(k:rB A o):l8 D h a o:=by
 cases o with
 |list t=>refine cQ i λvs m e r=>⟨vs,m,e,bb.back g j l r k⟩
 |tab t=>refine aw i λlo f=>aL f λp z s r=>⟨lo,p,z,s,bb.back g j l r k⟩
 |itab t=>refine aw i λlo f=>aL f λp z s r=>⟨lo,p,z,s,bb.back g j l r k⟩
 |stab t=>refine aw i λlo f=>aL f λp z s r=>⟨lo,p,z,s,bb.back g j l r k⟩
 |inst C Q=>exact i
 |fr o=>exact i
 |exc C d vs=>exact i
 |tb T=>exact i
 |attrs E=>
  refine aL i λm H I q=>⟨m,H,I,λy=>?_⟩
  have:=q y
  revert this
  cases L:E.lookup y with
  |none=>exact id
  |some v=>
   have w:=k (y,v) (mem_of_lookup L)
   intro f;refine aL f λu M B N=>?_
   refine cf u M ?_ N
   cases v with
   |d x=>exact Rd.back g j l B w
   |raw U=>exact B
   |rng a b c=>exact w.elim
   |tup A=>exact w.elim
theorem pZ(h:iQ A e f n b F G o)(k:∀d m,o d m->g d m):iQ A e f n b F G g:=λs S R=>by refine aM (h s S R) λz B q=>aM q λC D q=>n7 q λI p r i t a u v w x j=>bu j λy l c=>pD I p r i t a u v w x ⟨y,l,k _ _ c⟩
noncomputable abbrev wb d g h i c b e:=λf a=>do
 let x<-bN c a
 eE c.pos
 let x<-gh c a x
 let _<-zc (.compStart (.ListComp d [⟨g,h,[],0⟩,⟨i,c,[],0⟩] b e) 1 (<-gq [x] (rk x)) f a) a
theorem OP(d)(O:cS c)(H:gM c b)(I:A.handled=ak)
 (h:let J:ae V->AH->Prop:=λf j=>kE A c a m [] (wb g m o u v a e) d f j λL p=>N ((y,.d (.list L))::l) p;iQ A c w m o (bo l) G J)(q:d5 d l)
 (i:a.kind=.function)(z:gi a.names b=ao)(r:md (d.map (·.1)) a.names b=ao)
 (M:b.lookup y=ac .local)(B:(a.names.any λ(n,k)=>n==y&&(k==.local||k==.cell))=ax)(s:(Q.line==e.line)=ao)
 (T:∀x,gh o c x=bg x):
 XV A c w (.Assign [.Name y Q] (.ListComp g [⟨m,o,[],0⟩,⟨u,v,[],0⟩] a e) E) l G N C W:=
 DP (more:=[⟨u,v,[],0⟩]) (inner:=wb g m o u v a e) (λU D t=>MA g m o u v a e U D t) O H I d h i z r q M B s T
theorem OQ(h:TV A b d e F G Q)(k:∀c a,Q c a->g c a):TV A b d e F G g:=λs S R=>by refine aM (h s S R) λc n i=>i _ λj f a e l m q=>?_;exact(.mk j f a e l m (k _ _ q))
theorem nw(h:EV A b d e F G Q)(k:∀c a,Q c a->g c a):EV A b d e F G g:=λs S R=>by refine aM (h s S R) λc o j=>j _ λl f a x e m n i q=>?_;exact(.mk l f a x e m n i (k _ _ q))
theorem FR.obj(R:FR a b F G h):∃o,h.get? a.locals=ac o/\dJ o:=by obtain⟨⟨m,⟨o,d,f,e,c,_⟩,_⟩,_⟩:=R;exact bi o e (by unfold dJ;rw[c];trivial)
theorem St.lend{c:ae aZ}(S:St c G h)(f:L∈c)(e:h.get? L=ac o)(n:dJ o):St [] (aE G L (.fr o)) h/\bh c G h (aE G L (.fr o)) h:=by
 have x:bh c G h (aE G L (.fr o)) h:=λb i e g j=>⟨e,(aU (λq:b=L=>j (by rw[q];exact f))).trans g⟩
 refine aF ⟨λb i d=>?_,λa p d=>?_,λb k=>by simp at k⟩ x
 ·refine bu (S.base b i d) λl m r=>ca l ((aU (λq:b=L=>r (by rw[q];exact f))).trans m) (by simp)
 ·by_cases q:a=L
  ·subst q;rw[bG] at d;cases d;exact⟨n,o.slots,e⟩
  ·rw[aU q] at d;exact(S.objs a p d).ext S x λY e=>e
theorem St.back{c:ae aZ}(S:St c G h)(t:L∈c)(e:h.get? L=ac o)(n:dJ o)(u:St [] f k)(v:bh [] (aE G L (.fr o)) h f k)(w:f L=ac (.fr o)):
 St c (cL f L) k/\bh c G h (cL f L) k:=by
 have m:∀b a,h.get? b=ac a->G b=ak->b≠L->k.get? b=ac a/\cL f L b=ak:=λb a e g p=>by refine aw (v b a e ((aU p).trans g) (by simp)) λi j=>aF i (na j)
 refine aw (u.drop L) λx Y=>aF ⟨λb a y=>?_,x.objs,λb z=>?_⟩ λb a e g p=>m b a e g λq=>p (by rw[q];exact t)
 ·refine bu (S.base b a y) λi j l=>aw (m b a i j λq=>l (by rw[q];exact t)) λr s=>ca r s l
 ·by_cases q:b=L
  ·subst q;refine aw (u.objs b _ w) λY d=>aK d λB A=>aF (n9 f b) ⟨_,A,.inl n⟩
  ·refine aw (S.own b z) λi d=>au d λa j l=>aw (m b a j i q) λr s=>aF s ⟨a,r,l⟩
theorem FR.back{p:ae aZ}(R:FR a p F G h)(S:St p G h)(e:h.get? a.locals=ac o)(C:St [] t w)(D:bh [] (aE G a.locals (.fr o)) h t w)(E:t a.locals=ac (.fr o)):FR a p F (cL t a.locals) w:=by
 refine au R.obj λob s H=>?_;rw[e] at s;cases s;have j:=R.mine;refine aw (S.back j e H C D E) λS3 I=>aw (C.objs _ _ E) λY b=>aK b λsl J=>?_;obtain⟨⟨m,x,L⟩,_,f⟩:=R;have z:∀{c v},h.IsCell c v->G c=ak->c≠a.locals->w.IsCell c v/\cL t a.locals c=ak:=λ{c v}⟨o,e,d⟩ g n=>by refine aw (D c o e ((aU n).trans g) (by simp)) λM N=>aF ⟨o,M,d⟩ (na N)
 refine⟨⟨m,?_,λy v A=>?_⟩,j,λy c A=>?_⟩
 ·refine dz x λo' Q T s U r=>?_;rw[e] at s;cases s;exact⟨_,Q,T,J,U,r⟩
 ·refine au (L y v A) λu i q=>bi u (Is.ext S I i)<|aB q ?_ ?_;rotate_left;intro b;refine aw b λk B=>au B λc l d=>?_;rotate_right;intro q
  ·exact .inl q
  ·refine bu (f y c l) λY W nc=>.inr ⟨k,c,l,(z d W nc).1⟩
 ·refine bu (f y c A) λb=>aK b λv0 d=>λg n=>ca ⟨v0,(z d g n).1⟩ (z d g n).2 n
variable(A) in
def tO b a e F G(Q:V->AH->Prop):=∀s,St a G s.heap->FR b a F G s.heap->be (aY pg wd) A (bN e b) (λv g=>∃c f d x,g=(sW s c f)/\St a d c/\bh a G s.heap d c/\Is d c v x/\Q x d) F0 s
theorem OR
 (h:let p:V->AH->Prop:=λv b=>rf A v b λc a=>(c=ao->Q v a)/\(c=ax->tO A d e y F a Q);EV A d e x F G p):
 tO A d e (.BoolOp .Or [x,y] r) F G Q:=λs S R=>by
 refine BoolOp_or (aM (h s S R) ?_);refine ce ?_;rintro u L t M z n g i k;refine aM (k _ _ _ n i)<|og ?_
 rintro c w j B o f k;cases c with
 |true=>exact⟨w,j,B,z,aa,o,(g.trans f).any,Is.ext n f.any i,k.1 aa⟩
 |false=>refine BoolOp_one (aM (k.2 aa _ o (R.ext S (g.trans f))) ?_);intro N T l;refine mX l ?_;rintro C m D E rfl H I J q;exact sP C m D E aa H ((g.trans f).any.trans I) J q
theorem OS{K:cg}(E:cn K Bh)(O:cS a)(hk:a.kindOf x=ac .globalImplicit)(N:eW K eM x=ac (ac u))(n:em K u=ao)
 (h:let T:ae V->AH->Prop:=λvs d=>∀o,dJ o->d a.locals=ak->fe A u vs (aE d a.locals (.fr o)) λv g=>g a.locals=ac (.fr o)/\Q v (cL g a.locals);gp A a p (e::b) F G T)(U:(x==("__debug__":aN))=ax)
 (W:bM (e::b) a=(ax,bN e a)::bM b a)(c:(dY j (bM b a)).any (·.1)=ax):
 tO A a p (.Call (.Name x np) (e::b) [] j) F G Q:=λs S R=>by
 refine tm (aM (tj E O hk N (Q:=λv Y=>v=.raw u/\Y=G) ⟨aa,aa⟩ U s S R) ?_) aa;refine ce λf h1 t G1 y H I i w=>aw w ?_;rintro rfl rfl;obtain rfl:f=u:=i;have J:=R.ext S I;refine th n (aM (h (sW s h1 t) j H J) ?_) W c;refine ng ?_;rintro us h2 z G2 vs l L ia k;refine aF (E.kin.keeps l.keep) ?_;have m:=J.ext H L;refine au m.obj λo M B=>aw (l.lend m.mine M B) λS3 x3=>pM (oh (k o B (l.own _ m.mine).1 [] (sW s h2 z) us S3 (c7.ext l x3 ia)) λr s' q=>?_);rcases r with e|(_|_|_|v)<;>first|exact q.elim|skip
 refine q _ ?_;clear q;intro h3 C G3 v3 D S4 x4 i4 qz;subst D;obtain⟨hG,q⟩:=qz;refine aw (l.back m.mine M B S4 x4 hG) λS5 x5=>sP h3 C _ v3 aa S5 ((I.trans L).any.trans x5) i4.del q
theorem EE(h:tO A a b e (bo l) G f):XV A a b (.Return (ac e) g) l G N C f:=λs S R=>by refine Dy (aM (h s S R) ?_);intro u p c;refine mX c ?_;rintro j d m v rfl n o i k;exact(.mk j d m aa n o ⟨v,i,k⟩)
theorem p0(h:cF A f vs G Q)(k:∀v a,Q v a->d v a):cF A f vs G d:=λb s g S i=>by refine aM (h b s g S i) λv p l=>l _ λm c a x e n o j q=>?_;exact(.mk m c a x e n o j (k _ _ q))
theorem EF(S:St c G s.heap)(R:FR e c F G s.heap)(y:Is G s.heap u v)
 (h:let z:V->AH->Prop:=λa f=>EV A e c i F f λb g=>jQ A a b v g λd=>∀j B,St c d j->bh [] G s.heap d j->Q () (sW s j B);EV A e c o F G z):
 be (aY pg wd) A (ig (.Subscript o i p) e u) Q E s:=by rw[assign_Subscript];refine aG (gs (aM (h s S R) ?_));refine ce ?_;rintro C D l W a x m H k;refine aG (gs (aM (k (sW s D l) x (R.ext S m)) ?_));refine ce ?_;rintro I J n G3 b L r M k;refine aG (nq (aG (gs (aM (k c (sW s J n) C I u L (Is.ext x r.any H) M (Is.ext S (m.trans r).any y)) ?_))));intro Y s' t;refine mV t ?_;rintro N w G4 rfl T U q;refine wpAny_release<|q N w T (m.trans (r.trans U))
theorem OT(O:cS a)(b:([c,d].any λ|.Starred .. =>ao|_=>ax)=ax):
 ot [.Tuple [.Subscript o1 e f,.Subscript o2 g h] k p] (.Tuple [c,d] i j) a=bg ak:=by
 unfold ot;dsimp-zeta-zetaHave only;rw[(by unfold tD;rw[O.kind];rfl:a.blockKind=.function),aQ (aW aa)];split
 ·rename_i q;exact bv (q.symm.trans b) (aW aa)
 ·rfl
theorem OU(O:cS c)(hh:A.handled=ak)
 (h:let Q1:V->AH->Prop:=λv m=>∃x y,ly v=ac [x,y]/\EV A c d o1 (bo l) m λa w=>EV A c d L (bo l) w λb z=>jQ A a b x z λB=>EV A c d o2 (bo l) B λa D=>EV A c d M (bo l) D λb E=>jQ A a b y E λH=>N l H;EV A c d e (bo l) G Q1)
 (hs:DY [.Tuple [.Subscript o1 L p1,.Subscript o2 M p2] k p] e Q.line c=bg ax)(hw:ot [.Tuple [.Subscript o1 L p1,.Subscript o2 M p2] k p] e c=bg ak):
 XV A c d (.Assign [.Tuple [.Subscript o1 L p1,.Subscript o2 M p2] k p] e Q) l G N C Rt:=λs S R=>by
 refine MX (aM (h s S R) ?_) hs hw;refine ce λu h1 j G1 v I x1 i f=>cQ f λx y e q=>?_;refine dz (y5 e i) ?_;rintro t vs n rfl T r;obtain⟨U,rfl⟩:∃l,vs=l.toArray:=⟨vs.toList,by rfl⟩
 simp-zeta-zetaHave only at r;revert T;refine m7 r λu1 u2 j1 j2 T=>DI hh (items:=#[u1,u2]) ⟨_,T,aa,_,aa⟩ aa rfl λW hx=>aw (I.more (h':=W) λb o e=>hx b o (kD (fZ e)) e) λS2 J=>?_;have R2:=FR.ext (s:=sW s h1 j) (R.ext S x1) I J;refine aG (gs (EF (s:=sW s W j) S2 R2 (Is.ext I J.any j1) ?_));refine nw q λa Ga q=>nw q λb Gb q=>λg s' ua ub uv S' ia ib iv=>aM (q g s' ua ub uv S' ia ib iv) λY s4 f=>mV f λh4 h3 G4 e4 S4 x4 q=>?_;refine mW h4 h3 G4 e4 S4 x4 λh5 h8 S5 x5=>aG (gs (EF (s:=sW s h5 h8) S5 (FR.ext (s:=sW s W j) R2 S2 x5) (Is.ext S2 x5.any (Is.ext I J.any j2)) ?_));refine nw q λa Gc q=>nw q λb Gd q=>λg s' ua ub uv S' ia ib iv=>aM (q g s' ua ub uv S' ia ib iv) λY s6 f=>mV f λh6 h9 G6 e6 S6 x6 q=>?_;refine mW h6 h9 G6 e6 S6 x6 λh7 x3 S7 x7=>bc ?_;have xx:=x1.trans (J.trans (x5.trans x7));exact(.mk h7 x3 G6 aa S7 xx.any ⟨l,R.ext S xx,q⟩)
theorem OV{os:wc}{m j sub f:ae aV}{dd:bB aZ}(c:we n a o f)(b:(eQ C::j).contains (.type n)=ao)(e:h.get? C=ac (rC s q C N m j k u sub ab p dd v w x y z a))
 (r:Q () ⟨h,g,d,t,os⟩):be M A (zJ a ⟨.ref C::l,[]⟩) Q E ⟨h,g,d,t,os⟩:=by
 have i:=c.noStar;unfold zJ;rw[c.newKind,c.newSplit,c.newRow];dsimp-zeta-zetaHave only;repeat(first|refine p6 e ?_|(refine wg e ?_;rw[b])|refine wpAny_staticBase_exc e ?_|refine OW e ?_|refine wpAny_ite_false (by decide) ?_|wp_step)
 exact r
theorem OX{os:wc}{s c sub f:ae aV}{dd:bB aZ}(e:we u a v f)(i:(eQ C::c).contains (.type u)=ao)(j:(eQ C::c).contains (.type "AttributeError")=ax)(k:(eQ C::c).contains (.type "NameError")=ax)
 (l:h.get? C=ac (rC y q C N s c r z sub ab w dd B D E G H a))
 (x:R (.ok (.ret (.ref (h.objs.size+1)))) ⟨(h.push {cls:=.type "tuple",data:=.seq b.toArray}).push
  {cls:=.ref C,data:=.fields #[.ref h.objs.size,.none,.none,.none,.bool ax,.none]},g,d,t,os⟩)(m:b.length<=js):
 jO (aY pg wd) A (.builtin a ⟨.ref C::b,[]⟩) R ⟨h,g,d,t,os⟩:=by
 have n:=e.ends;refine codeAny_builtinAt e.entry ?_;unfold abu;refine OY ?_;refine OY (PySem.wpAt_stack λp o=>OZ ?_);wp_walk;refine OZ ?_;rw[e.owner];repeat(first|with_reducible refine wpAny_madeHere_exc e.canon l ?_|with_reducible refine p6 l ?_|(with_reducible refine wg l ?_;first|rw[i]|rw[j]|rw[k])|wp_step)
 rw[vZ];exact x
theorem O0{os:wc}{G j sub n:ae aV}{dd:bB aZ}(p:we H c I n)(k:(eQ C::j).contains (.type H)=ao)(s:(eQ C::j).contains (.type "AttributeError")=ax)(u:(eQ C::j).contains (.type "NameError")=ax)
 (l:h.get? C=ac (rC nm q C N G j z sn sub ab J dd k0 k1 k2 k3 k5 c))(L:oe (aY pg wd) h (typeLookup (.ref C) "__init__") (ac (.ref B)))(v:h.get? B=ac M)(w:M.cls=.type "function")
 (U:be (aY pg wd) A (kx (.ref B) (.ref (h.objs.size+1)::a)) (λr D=>r=.none/\Q (.done (.ret (.ref (h.objs.size+1)))) D) E ⟨(h.push {cls:=.type "tuple",data:=.seq a.toArray}).push
  {cls:=.ref C,data:=.fields #[.ref h.objs.size,.none,.none,.none,.bool ax,.none]},g,d,t,os⟩)(f:a.length<=js):
 be (aY pg wd) A (abv ⟨.ref C::a,[]⟩) Q E ⟨h,g,d,t,os⟩:=by
 repeat(first|with_reducible refine p6 l ?_|with_reducible refine OW l ?_|wp_step)
 refine codeAny_call_builtin_code (O1 _ p.quiet) (OV p k l ?_);refine OX p k s u l ?_ f;have y:∀b o,h.get? b=ac o->((h.push {cls:=.type "tuple",data:=.seq a.toArray}).push {cls:=.ref C,data:=.fields #[.ref h.objs.size,.none,.none,.none,.bool ax,.none]}).get? b=ac o:=λb o e=>gc _ (gc _ e);have i:=y _ _ l;have m:((h.push {cls:=.type "tuple",data:=.seq a.toArray}).push
  {cls:=.ref C,data:=.fields #[.ref h.objs.size,.none,.none,.none,.bool ax,.none]}).get? (h.objs.size+1)=ac
  {cls:=.ref C,data:=.fields #[.ref h.objs.size,.none,.none,.none,.bool ax,.none]}:=by heap_get
 unfold EG;repeat(first|with_reducible refine p6 m ?_|(with_reducible refine wg i ?_;rw[(by simp:(eQ C::j).contains (.ref C)=ao)])|wp_step)
 refine(L.keeps y).at ?_;refine gs (aG ?_);unfold bindSpecial;refine aG (El (T:="function") ⟨_,(y _ _ v),w⟩ ?_);rw[aR (by rfl)];refine bc (aG (iO U (λr D W=>?_) λY Y x=>x));refine aw W ?_;rintro rfl hQ;wp_walk;exact hQ
theorem O2{os:wc}{s e sub i:ae aV}{dd:bB aZ}(u:we v b w i)(j:(eQ C::e).contains (.type v)=ao)(k:(eQ C::e).contains (.type "AttributeError")=ax)(l:(eQ C::e).contains (.type "NameError")=ax)
 (f:h.get? C=ac (rC G q C N s e o H sub ab x dd I J L M T b))(y:oe (aY pg wd) h (typeLookup (.ref C) "__init__") (ac (.ref p)))(m:h.get? p=ac z)(n:z.cls=.type "function")
 (B:be (aY pg wd) (A.under (.builtin "type.__call__" ⟨.ref C::a,[]⟩)) (kx (.ref p) (.ref (h.objs.size+1)::a)) (λr D=>r=.none/\Q (.ref (h.objs.size+1)) D) E ⟨(h.push {cls:=.type "tuple",data:=.seq a.toArray}).push
  {cls:=.ref C,data:=.fields #[.ref h.objs.size,.none,.none,.none,.bool ax,.none]},g,d,t,os⟩)(c:a.length<=js):
 be (aY pg wd) A (kx (.ref C) a) Q E ⟨h,g,d,t,os⟩:=by
 have U:=tc_lookup;have W:=tc_bind (.ref C);have Y:(⟨h,g,d,t,os⟩:cI).TypeIs (.ref C) "type":=⟨_,f,aa⟩
 refine pM (MM ?_);repeat(any_goals(first|assumption|with_reducible refine p6 f ?_|wp_step))
 refine aF aa ?_;refine codeAny_call_builtin_at (O1 _ (by decide+kernel)) entry_typeCall (wpAny_check_type_call_sub f (O0 u j k l f y m n B c))
section
open PySem PySem.W PyProof.Rows PySem.Calls PySem.SeqAt Builtin Builtin.ObjectAttr
def mn K C:=
 (∃e q N f a g sub ab d dd h i j k l,K.lookup C=ac (rC e q C N f a ao g sub ab d dd h i j k l "Exception.__new__")/\(eQ C::a).contains (.type "Exception")=ao/\(eQ C::a).contains (.type "BaseException")=ao/\(eQ C::a).contains (.type "AttributeError")=ax/\(eQ C::a).contains (.type "NameError")=ax/\a.contains (.type "BaseException")=ao)/\
 (∃b,zj K C=ac b/\(∀c,refuseLoop c "__setattr__" b.mro=bg ())/\b.mro.contains (.type "object")=ao/\b.mro.isEmpty=ax/\b.hasDict=ao)/\
 ec K (.ref C) "__setattr__"=ac (ac (.builtin "object.__setattr__"))
def mn.obj{K:cg}(a:mn K C):=a.1
def mn.cls{K:cg}(a:mn K C):=a.2.1
def mn.set{K:cg}(a:mn K C):=a.2.2
theorem EH{s:cI}{K:cg}(X:K.In s.heap)(I:InstAt s.heap x B C D)(o:zj K C=ac j)(t:∀g,refuseLoop g "__setattr__" j.mro=bg ())(l:j.mro.contains (.type "object")=ao)(u:j.mro.isEmpty=ax)(w:zi K C c=ac r)
 (h:∀b,be (aY pg wd) A.in1 (match r with|some a=>setByDescriptor a (.ref x) v|none=>storeInOwnDict (.ref x) (.ref C) (.str c m) c v b)
  (λn k=>match n with|.done f=>R (.ok f) k|.again p=>p.quiet=ao/\jO (aY pg wd) A p R k) (λe k=>R (.error e) k) s):
 jO (aY pg wd) A (.call (.builtin "object.__setattr__") ⟨[.ref x,.str c m,v],[]⟩) R s:=by
 have i:=PySem.F.store_object;refine EJ i.slot.plain i.entry (@check_slot (aY pg wd) _ _ s "object.__setattr__" "object" "__setattr__" (.ref x) [.str c m,v] [] _ i.kind i.split (I.type.andThen (O3 X (by unfold mroIn;rw[o,zo,aQ (by rw[u];exact aW aa),l])):oe (aY pg wd) s.heap (EG (.ref x) (.type "object")) ao) (i.args (.ref x) (.str c m) v) ?_);refine au (Option.bind_eq_some_iff.mp w) λd y q=>?_;have L3:oe (aY pg wd) s.heap (storeTaker? d) r:=by
  cases d with
  |none=>cases q;exact .now
  |some a=>refine au (Option.map_eq_some_iff.mp q) ?_;rintro b z rfl;refine(looks_takesIn X z).andThen ?_;cases b<;>exact .now
 rw[osa_eq,refuse_eq];refine aG (aG (I.type.here (aG (((zl X o).andThen .now:oe (aY pg wd) s.heap (mroOf (.ref C)) j.mro).here ?_))));rw[t];refine bc (aG (I.type.here (aG ((vY X y).here (aG (L3.here ?_))))));exact h _
theorem O4{K:cg}(hB:cn K Bh)
 (h:let Q1:V->AH->Prop:=λv w=>EV A n y o (bo l) w λov c=>∃x C r vs E,ov=.ref x/\c x=ac (.exc C (ac r) vs)/\c r=ac (.attrs E)/\mn K C/\zi K C d=ac ak/\E.length<50/\rp v=ao/\N l (aE c r (.attrs ((d,v)::E)));EV A n y f (bo l) G Q1)
 (hs:gf f (ac (.Attribute o d p)) J.line n=bg ax):XV A n y (.Assign [.Attribute o d p] f J) l G N C Rt:=λs S R=>by
 refine DV (aM (h s S R) ?_) hs;refine ce ?_;rintro u h1 h6 G1 v S1 L i k;refine aM (k _ S1 (R.ext S L))<|ce λou t g G2 ov H M j Q=>sQ Q ?_;rintro x C r vs E rfl hx z ok T U;refine bu U λhl hv q=>?_
 obtain rfl:ou=.ref x:=j;have X:K.In t:=hB.kin.keeps (St.keep (s:=sW s t g) H);refine cP (H.objs x _ hx) λob e B D W=>aL (H.objs r _ z) λm hn Y Y=>jK (id hn) λod es ep e2 h7 h8 h9 x4=>?_;have I:InstAt t x ob C (ac od):=⟨e,B,by unfold notCls;rw[W],by rw[D];exact e2⟩
 have i2:=Is.ext S1 M.any i;refine mU ok.cls λcd hc hp h4 ne h5=>DW (s:=sW s t g) X I ok.set<|EH (s:=(sW s t (g+1))) X I hc hp h4 ne T λb=>aG (bc (aG (aG (DX e ?_))))
 rw[B];refine aG ((zl X hc).here ?_);rw[h5,D];refine bc (a:=ac r)<|zk (s:=(sW s t (g+1))) H z i2 hl hv λh3 x5 S3 x3=>(.mk h3 _ _ aa S3 ((L.trans (M.trans x3)).any) ⟨l,R.ext S (L.trans (M.trans x3)),q⟩)
theorem O6{K:cg}(hB:cn K Bh)
 (h:let Q1:V->AH->Prop:=λv B=>EV A r D o (bo l) B λov d=>∃x C vs,ov=.ref x/\d x=ac (.exc C ak vs)/\mn K C/\zi K C c=ac ak/\rp v=ao/\∀H,d H=ak->H≠x->N l (aE (aE d H (.attrs [(c,v)])) x (.exc C (ac H) vs));EV A r D f (bo l) G Q1)
 (hs:gf f (ac (.Attribute o c p)) M.line r=bg ax):XV A r D (.Assign [.Attribute o c p] f M) l G N C Rt:=λs S R=>by
 refine DV (aM (h s S R) ?_) hs;refine ce ?_;rintro u h1 h6 G1 v S1 x1 i k;refine aM (k _ S1 (R.ext S x1))<|ce λou a t J ov E x2 j Q=>Ch Q ?_;rintro x C vs rfl hx ok T hv q
 obtain rfl:ou=.ref x:=j;have X:K.In a:=hB.kin.keeps (St.keep (s:=sW s a t) E);refine cP (E.objs x _ hx) λob e g m w=>?_;have I:InstAt a x ob C ak:=⟨e,g,by unfold notCls;rw[w],by rw[m];trivial⟩
 have i2:=Is.ext S1 x2.any i;refine mU ok.cls λcd hc hp U ne W=>DW (s:=sW s a t) X I ok.set<|EH (s:=(sW s a (t+1))) X I hc hp U ne T λb=>?_
 have z:=fE a;have n:a.objs.size≠x:=λq=>by rw[q,e] at z;cases z
 refine aG (bc (aG (aG (DX e ?_))));rw[g];refine aG ((zl X hc).here ?_);rw[W,m];rw[aQ (aW aa)];obtain⟨oc,h7,h8,h3⟩:=ob;dsimp-zeta-zetaHave only at g m w;subst g m w;refine aw (E.pushT tF (.attrs []) aa λe x=>⟨λY=>ak,MR ⟨_,#[],0,e,aa,λe he=>bv he (by simp),λY=>rfl⟩,eX _,λy=>by simp⟩) λS3 x3=>?_;have e3:=gc tF e;have e4:((a.push tF).update x λo=>{cls:=o.cls,dict:=ac a.objs.size,data:=o.data,slots:=o.slots}).get? x=ac ⟨.ref C,ac a.objs.size,.fields vs,h3⟩:=tu _ e3 aa;refine aw (S3.change (h':=(a.push tF).update x λo=>{cls:=o.cls,dict:=ac a.objs.size,data:=o.data,slots:=o.slots}) (o':=.exc C (ac a.objs.size) vs) ((aU (λq=>n q.symm)).trans hx:aE J a.objs.size (.attrs []) x=ac (.exc C ak vs))
  (λb hb=>zK _ _ _ _ hb) λY=>⟨_,e4,aa,aa,aa⟩) λS4 x4=>?_
 refine aG (wpAny_alloc' ?_);refine aG (wpAny_update' e3 ?_);refine bc ?_;have h4:aE (aE J a.objs.size (.attrs [])) x (.exc C (ac a.objs.size) vs) a.objs.size=ac (.attrs []):=(aU n).trans (bG ..);refine zk (fs:=[]) S4 h4 (Is.ext E (x3.trans x4).any i2) (aW aa) hv λh5 h9 S5 x5=>?_;have eG:aE (aE (aE J a.objs.size (.attrs [])) x (.exc C (ac a.objs.size) vs)) a.objs.size (.attrs [(c,v)])=aE (aE J a.objs.size (.attrs [(c,v)])) x (.exc C (ac a.objs.size) vs):=by
  funext y;by_cases L:y=a.objs.size
  ·subst L;rw[bG,aU n,bG]
  ·rw[aU L];by_cases q2:y=x
   ·subst q2;rw[bG,bG]
   ·rw[aU q2,aU q2,aU L,aU L]
 rw[eG] at S5 x5;have xx:=x1.trans (x2.trans (x3.trans (x4.trans x5)));exact(.mk h5 _ _ aa S5 xx.any ⟨l,R.ext S xx,q _ (E.fresh z) n⟩)
end
theorem O7{K:cg}:findCls K (.type "Exception") (.type "type") "__init__"=ac (.val (.builtin "Exception.__init__")):=by rfl
theorem O8{K:cg}(c:cn K Bh)(q:k (.builtin "Exception.__init__") [] G):nf K A (.raw (.type "Exception")) (aD "__init__") G k:=λd s u f S i=>by
 obtain rfl:u=.type "Exception":=i;have X:=c.kin.keeps S.keep;have L0:oe (aY pg wd) s.heap (typeOf (.type "Exception")) (.type "type"):=O9 (by first|rfl|kernel_rfl);have a:ec K (.type "type") "__getattribute__"=ac (ac (.builtin "type.__getattribute__")):=type_tga;delta ma specialOf;refine aG (aG (L0.here ((vY X a).here ?_)));dsimp-zeta-zetaHave only;rw[aR canon_tga];refine aG (iO (Q:=λv b=>v=.builtin "Exception.__init__"/\b={s with toks:=s.toks+1}) (E:=F0) ?_ (λv b z=>?_) λY Y z=>z)
 ·have e:oe (aY pg wd) s.heap (EK (.type "Exception")) ak:=O9 (by unfold EK;dsimp-zeta-zetaHave only;rw[show Manifest.isStub "Exception"=ax by decide+kernel];rfl:EK (.type "Exception")=bg ak);refine cls_open X e L0 a (looks_hook X (r:=ak) (by rfl)) (by rfl) O7 (bc ?_);show be _ _ (zM _) _ _ _;rw[show zM (.builtin "Exception.__init__")=bg (.builtin "Exception.__init__") from by unfold zM;dsimp-zeta-zetaHave only;rw[aQ (by decide+kernel)]];exact bc ⟨aa,aa⟩
 ·refine aw z ?_;rintro rfl rfl;exact bc ⟨s.heap,_,G,[],aa,S,fY,aa,.nil,q⟩
theorem Pa{M:Model}{E:aV->cI->Prop}{g:jg GenState}{d:Drawn}{t:ah}{os:wc}{v q:aN}{C N x:aZ}{o:Obj}{w u:ae aV}{i:bP}{y:ae aN}{sub:ae aV}{ab:bP}{m:bB bP}{dd:bB aZ}{z B D G H:bB aV}{p e j k:jp}
 {r:ae aV}(l:we p k j r)(f:(eQ C::u).contains (.type p)=ao){c:ae aV}{Q:mc->cI->Prop}(I:h.get? C=ac (rC v q C N w u i y sub ab m dd z B D G H e))(J:h.get? x=ac o)(L:o.cls=.ref C)
 (T:Q () ⟨h,g,d,t,os⟩):be M A (zJ j ⟨.ref x::c,[]⟩) Q E ⟨h,g,d,t,os⟩:=by
 have s:=l.noStar;simp-zeta-zetaHave only[zJ,l.initKind,l.initSplit,l.initRow];unfold EG;repeat(first|(with_reducible refine p6 J ?_;rw[L])|(with_reducible refine wg I ?_;rw[f])|wp_step)
 refine wpAny_onRaise ?_;rw[show∀(a b:jp)(n:ah),Bind.check ⟨.positional,"*",p,.self,[⟨"args",.varPos,ax⟩]⟩ a b n (List.map (λx=>x.fst) ({pos:=.ref x::c}:Args).kw)=bg () from
  λa b n=>check_star_args _ _ _ _ _ _]
 exact bc T
theorem Pb{A:cq}{G:AH}{K:cg}(H:cn K Bh){x C:aZ}{d:bB aZ}{vs:jg aV}{v:V}(I:mn K C)(B:G x=ac (.exc C d vs))(D:0<vs.size){Q:V->AH->Prop}(q:∀t,Q .none (aE G x (.exc C d (vs.setIfInBounds 0 (.ref t))))):
 cF A (.builtin "Exception.__init__") [.ref x,v] G Q:=λn s f S i=>by
 have X:=H.kin.keeps S.keep;obtain⟨o,f,rfl,rfl,p⟩:∃o k,f=o::k/\o=.ref x/\k.length=1:=i.onC λY Y a b=>⟨_,_,rfl,a,b.length⟩
 refine cP (S.objs x _ B) λob e l r c=>vh I.obj λnm q' N bs bm sn sub ab J dd u=>sQ u λk0 k1 k2 k3 k5 L M c2 c3 c4 c5=>?_;have w:=Pc;obtain⟨j,g,E,y,os⟩:=s;refine pM (EJ w.init.plain w.initEntry (Pa w M (X _ _ L) e l ?_));unfold abx;dsimp-zeta-zetaHave only;rw[aQ (aW aa)];delta yC aby;refine aw (S.push {cls:=.type "tuple",data:=.seq f.toArray}) λT U=>?_;have z:=gc (h:=j) {cls:=.type "tuple",data:=.seq f.toArray} e;refine aw (T.change (h':=(j.push {cls:=.type "tuple",data:=.seq f.toArray}).update x (oy (·.setIfInBounds 0 (.ref j.objs.size)))) (o':=.exc C d (vs.setIfInBounds 0 (.ref j.objs.size))) B
  (λb W=>zK _ _ _ _ W) λY=>⟨_,tu _ z (zC (pX c _)),(zD ..).trans l,by rw[<-r];unfold oy;split<;>rfl,pX c _⟩) λS2 x2=>?_
 refine aG (kA ?_ (by show f.toArray.size<=js;rw[tq,p,eF];exact aX _ _));refine aG (aG (gX z c (by simp[D]:vs[0]?=ac vs[0]) ?_));refine aG (rx z c D ?_);have m:PV n ⟨j,g,E,y,os⟩ G Q .none ⟨(j.push {cls:=.type "tuple",data:=.seq f.toArray}).update x (oy (·.setIfInBounds 0 (.ref j.objs.size))),g,E,y,os⟩:=(.mk _ y _ .none aa S2 (U.trans x2) Rd.none (q _))
 split
 ·exact wpAny_letGo (bc m)
 ·exact bc (bc m)
theorem Pd{K:cg}(E:cn K Bh)(H:cA A (n+1))(I:mn K C)(J:b.length<=10)(L:ec K (.ref C) "__init__"=ac (ac (.ref u)))(M:K.lookup u=ac T)(j:T.cls=.type "function")
 (h:∀x t w,cA w n->G x=ak->fe w (.ref u) (.ref x::b) (aE G x (.exc C ak #[.ref t,.none,.none,.none,.bool ax,.none])) (λv U=>v=.none/\Q (.ref x) U)):cF A (.ref C) b G Q:=λk s f S i=>by
 have X:=E.kin.keeps S.keep;refine vh I.obj λnm q' N bs bm sn sub ab W dd l=>sQ l λk0 k1 k2 k3 k5 hC c1 c2 c3 c4 c5=>?_;obtain⟨a,g,dr,tk,os⟩:=s;refine O2 Pc c1 c3 c4 (X _ _ hC) (vY X L) (X _ _ M) j ?_ (by rw[i.length,eF];exact aj [_] 0x10f080e0e0e0e0e1e010ca80 aa J);refine aw (S.push {cls:=.type "tuple",data:=.seq f.toArray}) λz x1=>?_;have c:(a.push {cls:=.type "tuple",data:=.seq f.toArray}).objs.size=a.objs.size+1:=vZ ..;refine aw (z.pushT {cls:=.ref C,data:=.fields #[.ref a.objs.size,.none,.none,.none,.bool ax,.none]} (.exc C ak #[.ref a.objs.size,.none,.none,.none,.bool ax,.none]) aa λe Y=>⟨_,e,aa,aa,aa⟩) λB D=>?_;rw[c] at B D;have d:=x1.trans D;have:=h (a.objs.size+1) a.objs.size (A.under (.builtin "type.__call__" ⟨.ref C::f,[]⟩)) (H.under_tc _ _) (z.fresh (c▸fE _):G (a.objs.size+1)=ak) k ⟨_,g,dr,tk,os⟩ (.ref (a.objs.size+1)::f) B (.cons (Is.raw _) (c7.ext S d.any i));refine pM (oh this λr s' q=>?_);rcases r with e|(v|_|_|v)<;>first|exact q.elim|skip
 refine q _ ?_;clear q;intro h3 m G3 y o S3 x3 iy qz;subst o;obtain⟨rfl,q⟩:=qz;have p:=iy;cases p;exact aF aa (.mk h3 m G3 (.ref (a.objs.size+1)) aa S3 (d.trans x3) (Is.raw _) q)
def iU(A:cq)(G:AH):=∃l,A.frames=ac l/\∀a∈l,a.scope.kind≠.module/\∃L o,a.frame=ac L/\G L=ac (.fr o)
def EL:O->Prop
 |.exc .. =>aC
 |.tb .. =>aC
 |_=>fP
def cZ(G b:AH):=∀a o,EL o->G a=ac o->b a=ac o
def lC C a(G:AH)x(P:jg aV->Prop):=∃b vs c,G x=ac (.exc C (ac b) vs)/\G b=ac (.attrs c)/\c.lookup (aD "why")=ac (.str a)/\1<vs.size/\P vs
def oz(G:AH)x b(vs:jg aV):=∃T a,vs[1]?=ac (.ref T)/\T≠x/\G T=ac (.tb a)/\a[3]?=ac b
def oA C a G x:=lC C a G x λvs=>vs[1]?=ac .none\/oz G x .none vs
def p7 C a G x b:=lC C a G x (oz G x b)
theorem wh:cZ G G:=λY Y Y e=>e
theorem cZ.trans(a:cZ G d)(b:cZ d c):cZ G c:=λy o p e=>b y o p (a y o p e)
theorem cZ.tb(h:G a=ak\/(G a=ac o/\¬EL o)):cZ G (aE G a d):=λy p pp e=>by
 refine(aU λq=>?_).trans e;subst q;refine aB h ?_ ?_<;>clear h;rotate_left;intro b;refine aw b λh c=>?_;rotate_right;intro h
 ·rw[h] at e;cases e
 ·rw[h] at e;cases e;exact c pp
theorem iU.off(f:iU A G)(x:cZ G b):iU A b:=by
 refine au f λl e h=>⟨l,e,λz c=>?_⟩
 refine aw (h z c) λd a=>cQ a λL o g i=>aF d ⟨L,o,g,x _ _ trivial i⟩
noncomputable def EM:cH:={objs:=#[]}
section
variable{A:cq}{own wr:ae aZ}{env:dK}{l:Ls}{G G':AH}{s:cI}{h h' h1:cH}{tk':ah}{K:cg}{N C:Ls->AH->Prop}{Rt:V->AH->Prop}{F:jN}
theorem St.slots(S:St [] G h)(c:∀b∈k,∃o,G b=ac (.fr o))(d:Heap.SlotsOnly k h h1):St [] G h1/\bh [] G h G h1:=by
 have X:bh [] G h G h1:=λb o e g Y=>⟨(d.2.1 b λf=>by refine aK (c b f) λo q=>?_;rw[g] at q;cases q).trans e,g⟩
 refine aF ⟨λb o e=>?_,λa o e=>?_,λb f=>by simp at f⟩ X
 ·refine bu (S.base b o e) λt m p=>ca (X b o t m p).1 m p
 ·by_cases r:a∈k
  ·refine aK (c a r) λx q=>?_;rw[q] at e;cases e;refine aw (S.objs a _ q) λn i=>aK i λy u=>aK (d.2.2 a _ u) λj v=>⟨n,j,v⟩
  ·exact(S.objs a o e).ext S X λz w=>(d.2.1 a r).trans w
theorem Pe(S:St [] G h):∀{l},(∀env∈l,env.scope.kind≠.module/\∃L o,env.frame=ac L/\G L=ac (.fr o))->h.FunFrames EM l:=by
 intro c;induction c with
 |nil=>exact@λY=>trivial
 |cons env l b=>
  exact@λk=>by
   refine aw (k env aP) λh1 a=>cQ a λL o d f=>aw (S.objs L _ f) λn a=>aK a λi e=>⟨h1,⟨L,_,d,(by
    cases q:EM.get? L with
    |none=>assumption
    |some o=>exact bv (fZ q) (by trivial)),e,λvs q=>?_⟩,b λz g=>k z (ba _ g)⟩
   unfold dJ at n;rw[(q:o.data=.fields vs)] at n;exact n
theorem St.tbset(S:St own G h)(a:G T=ac (.tb c))(i)(v):
 St own (aE G T (.tb (c.setIfInBounds i v))) (h.update T (oy (·.setIfInBounds i v)))/\bh [] G h (aE G T (.tb (c.setIfInBounds i v))) (h.update T (oy (·.setIfInBounds i v))):=by refine aL (S.objs T _ a) λj e f d=>S.change a (λb g=>zK _ _ _ _ g) λY=>⟨_,tu _ e (zC (pX d _)),(zD ..).trans f,pX d _⟩
theorem St.excset(S:St own G h){x C:aZ}(c:G x=ac (.exc C d vs))(i)(v):
 St own (aE G x (.exc C d (vs.setIfInBounds i v))) (h.update x (oy (·.setIfInBounds i v)))/\bh [] G h (aE G x (.exc C d (vs.setIfInBounds i v))) (h.update x (oy (·.setIfInBounds i v))):=by refine cP (S.objs x _ c) λk e g a f=>S.change c (λb j=>zK _ _ _ _ j) λY=>⟨_,tu _ e (zC (pX f _)),(zD ..).trans g,by rw[<-a];unfold oy;split<;>rfl,pX f _⟩
theorem EN{C x L n:aZ}(S:St [] G s.heap)(p:A.frames=ac (env::v))
 (fr:iU A G)(hf:env.frame=ac L)(w:G x=ac (.exc C (ac n) vs))(d:G n=ac (.attrs I))(hw:I.lookup (aD "why")=ac (.str y))(i:1<vs.size)
 (q:∀h' G',St [] G' h'->bh [] G s.heap G' h'->cZ G G'->p7 C y G' x (fG L)->Q () {s with heap:=h'}):
 be M A (do let a<-frameOf env;let f<-entryPlaceOf L r;let b<-Pf tP a .none (fG L) .none f;setField (.ref x) 1 b) Q E s:=by
 refine au fr λl J T=>?_;rw[p] at J;cases J;refine aG (wpAny_frameOf_fun p (Pe S T) hf λc j=>?_);refine aw (S.slots (λb hb=>by refine au (List.mem_filterMap.mp hb) λz hz e=>aw (T z hz) λY k=>cQ k λL' o U g=>?_;rw[e] at U;cases U;exact ew o g) j) λW x1=>?_;refine aG (wpAny_entryPlaceOf λf t=>?_);delta Pf newFields;refine aG (kA ?_ (t.sizeOk5 _ _ _ _ _));refine aw (W.pushT {cls:=.type "traceback",dict:=ak,data:=.fields ([tP,.ref L,.none,fG L,.none]++(if f.isEmpty then dX 6 mj else f)).toArray}
  (.tb ([tP,.ref L,.none,fG L,.none]++(if f.isEmpty then dX 6 mj else f)).toArray) aa λe Y=>⟨_,e,aa,aa⟩) λS2 x2=>?_
 have u:=W.fresh (fE _);have B:x≠c.objs.size:=λq=>by rw[<-q,w] at u;cases u
 have nd:n≠c.objs.size:=λq=>by rw[<-q,d] at u;cases u
 have D:n≠x:=λq=>by rw[q,w] at d;cases d
 have m:=(aU (o:=.tb ([tP,.ref L,.none,fG L,.none]++(if f.isEmpty then dX 6 mj else f)).toArray) B).trans w;refine cP (S2.objs x _ m) λob e2 Y Y H=>aw (S2.excset m 1 (.ref c.objs.size)) λS3 x3=>rx e2 H i<|q _ _ S3 (x1.trans (x2.trans x3)) ((cZ.tb (o:=.tb #[]) (.inl u)).trans (cZ.tb (.inr ⟨m,λz=>z⟩))) ⟨n,_,I,bG ..,?_,hw,by simpa using i,c.objs.size,_,by simp[i],B.symm,(aU B.symm).trans (bG ..),?_⟩
 ·exact(aU D).trans ((aU nd).trans d)
 ·(refine aB t ?_ ?_;rotate_left;intro k;refine Kw k ?_;rintro Y Y Y Y Y Y Y rfl;rotate_right;rintro rfl)<;>rfl
theorem EO{C x L:aZ}(S:St [] G s.heap)(a:A.frames=ac (env::f))
 (n:iU A G)(g:env.frame=ac L)(i:oA C j G x)
 (q:∀h' G',St [] G' h'->bh [] G s.heap G' h'->cZ G G'->p7 C j G' x (fG L)->Q () {s with heap:=h'}):be M A (zN (.ref x) env) Q E s:=by
 refine jK i λH vs I k b o c d=>cP (S.objs x _ k) λJ e Y Y p=>?_;unfold zN;simp-zeta-zetaHave only[g];refine aB d ?_ ?_;rotate_left;intro m;refine jf m λT u h1 v d r=>?_;rotate_right;intro h1
 ·refine aG (gX e p h1 ?_);rw[aQ (aW aa)];exact EN S a n g k b o c q
 ·refine aL (S.objs T _ d) λU t Y dT=>aG (gX e p h1 ?_);rw[aR (show(eQ T !=mj)=ao from by rfl)];refine aG (gX t dT r ?_);rw[aQ (show¬((mj==fG L)=ao) from aW aa)];refine aG (rx t dT (EP.mp r).1 ?_);refine aw (S.tbset d 3 .none) λw y=>?_;have o1:cZ G (aE G T (.tb (u.setIfInBounds 3 .none))):=cZ.tb (.inr ⟨d,λz=>z⟩);refine EN (s:={s with heap:=s.heap.update T (oy (·.setIfInBounds 3 .none))}) w a (n.off o1) g ((aU v.symm).trans k) (o1 _ _ trivial b) o c λh' G' B D o2 i=>q h' G' B (y.trans D) (o1.trans o2) i
theorem zO{C x:aZ}(S:St own G s.heap)(k:p7 C a G x y)
 (q:∀h' G',St own G' h'->bh [] G s.heap G' h'->cZ G G'->oA C a G' x->Q () {s with heap:=h'}):be M A (wi (.ref x) ak) Q E s:=by
 refine jK k λm vs n g b o c d=>jf d λT p h1 i f r=>?_;refine cP (S.objs x _ g) λB e Y Y t=>aL (S.objs T _ f) λD u Y dT=>?_;unfold wi;refine aG (gX e t h1 ?_);rw[aR (show(eQ T !=mj)=ao from by rfl)];have j:=(EP.mp r).1;refine rx u dT j<|aw (S.tbset f 3 .none) λv w=>?_
 have o1:cZ G (aE G T (.tb (p.setIfInBounds 3 .none))):=cZ.tb (.inr ⟨f,λz=>z⟩);exact q _ _ v w o1 ⟨m,vs,n,(aU i.symm).trans g,o1 _ _ trivial b,o,c,.inr ⟨T,_,h1,i,bG ..,by simp[j]⟩⟩
end
def rD(C:aZ)(a:aN)(G:AH)(x L:aZ):=lC C a G x λvs=>vs[1]?=ac .none\/oz G x .none vs\/oz G x (fG L) vs
def jX(A:cq)(env:dK)(G:AH):=∃a,A.frames=ac (env::a)/\∀z∈a,z.scope.kind≠.module/\∃L o,z.frame=ac L/\G L=ac (.fr o)
theorem jX.off(f:jX A a G)(x:cZ G c):jX A a c:=by
 refine au f λl e h=>⟨l,e,λz d=>?_⟩
 refine aw (h z d) λg b=>cQ b λL o i j=>aF g ⟨L,o,i,x _ _ trivial j⟩
theorem jX.of(f:iU A G):jX (A.deeper env) env G:=by refine au f λl e h=>⟨l,by show A.frames.map (env::·)=_;rw[e];rfl,h⟩
theorem jX.lend(f:jX A a G)(hk:a.scope.kind=.function)(g:a.frame=ac a.locals)(i:G a.locals=ak):iU A (aE G a.locals (.fr o)):=by
 refine au f λl e h=>⟨_,e,λz b=>?_⟩
 refine aB (bj.mp b) ?_ (λb=>?_);rintro rfl
 ·exact aF (by rw[hk];exact aW aa) ⟨_,o,g,bG ..⟩
 ·refine aw (h z b) λj c=>cQ c λL k m d=>aF j ⟨L,k,m,(aU λq=>by rw[q,i] at d;cases d).trans d⟩
theorem oz.del(b:G L=ac (.fr o))(t:oz G x c vs):oz (cL G L) x c vs:=by refine jf t λT d e n a f=>⟨T,d,e,n,(ku λq=>by rw[q,b] at a;cases a).trans a,f⟩
theorem lC.del(d:G L=ac (.fr o))(k:∀vs,P vs->f vs)(e:lC C b G x P):lC C b (cL G L) x f:=by refine jK e λg vs h c a i j p=>⟨g,vs,h,(ku λq=>by rw[q,d] at c;cases c).trans c,(ku λq=>by rw[q,d] at a;cases a).trans a,i,j,k _ p⟩
theorem tQ(b:G L=ak)(t:oz G x c vs):oz (aE G L o) x c vs:=jf t λT d e f a g=>⟨T,d,e,f,(aU λq=>by rw[q,b] at a;cases a).trans a,g⟩
theorem zP(d:G L=ak)(k:∀vs,P vs->f vs)(e:lC C b G x P):lC C b (aE G L o) x f:=jK e λg vs h c a i j p=>⟨g,vs,h,(aU λq=>by rw[q,d] at c;cases c).trans c,(aU λq=>by rw[q,d] at a;cases a).trans a,i,j,k _ p⟩
theorem lC.mono(e:lC C a G x P)(k:∀vs,P vs->c vs):lC C a G x c:=by refine jK e λd vs f g b h i p=>⟨d,vs,f,g,b,h,i,k _ p⟩
theorem p7.l{x L:aZ}(e:p7 C a G x (fG L)):rD C a G x L:=lC.mono e λY h=>.inr (.inr h)
theorem cZ.back(a:cZ G d)(g:d L=ak)(b:cZ (aE d L o) h):cZ G (cL h L):=λy p pp e=>by
 have c:=a y p pp e;have f:y≠L:=λq=>by rw[q,g] at c;cases c
 exact(ku f).trans (b y p pp ((aU f).trans c))
theorem zQ(S:St [] G s.heap)(d:A.frames=ac (f::k))
 (u:iU A G)(l:f.frame=ac L)(w:rD C m G x L)
 (q:∀n h,St [] h n->bh [] G s.heap h n->cZ G h->p7 C m h x (fG L)->Q () {s with heap:=n}):be M A (zN (.ref x) f) Q E s:=by
 refine jK w λo vs p i a r b j=>aB j ?_ ?_;rotate_left;intro g;refine aB g (λc=>?_) ?_<;>clear g;rotate_left;intro t;refine jf t λT y c z j v=>?_;rotate_right;rotate_right;intro c
 ·exact EO S d u l ⟨o,vs,p,i,a,r,b,.inl c⟩ q
 ·exact EO S d u l ⟨o,vs,p,i,a,r,b,.inr c⟩ q
 ·refine cP (S.objs x _ i) λH e Y Y B=>aL (S.objs T _ j) λI D Y dT=>?_;unfold zN;simp-zeta-zetaHave only[l];refine aG (gX e B c ?_);rw[aR (show(eQ T !=mj)=ao from by rfl)];refine aG (gX D dT v ?_);rw[aR (by simp[fG])];exact bc (q s.heap G S fY wh ⟨o,vs,p,i,a,r,b,T,y,c,z,j,v⟩)
theorem Pg{C x L:aZ}(S:St own G s.heap)(o:b.frame=ac L)(p:p7 C c G x H)
 (q:∀d a,St own a d->bh [] G s.heap a d->cZ G a->p7 C c a x (fG L)->E (.ref x) {s with heap:=d}):cameBackBy M A b E (.ref x) s:=by refine jK p λr vs t k f u g h=>jf h λT v i l j w=>?_;refine cP (S.objs x _ k) λI e Y Y m=>aL (S.objs T _ j) λJ y Y dT=>?_;unfold cameBackBy;refine aG (gX e m i ?_);rw[aQ (aW aa)];unfold wi;refine aG (gX e m i ?_);rw[aR (show(eQ T !=mj)=ao from by rfl),o];have n:=(EP.mp w).1;refine aw (S.tbset j 3 (fG L)) λB D=>?_;have o1:cZ G (aE G T (.tb (v.setIfInBounds 3 (fG L)))):=cZ.tb (.inr ⟨j,λz=>z⟩);exact rx y dT n (q _ _ B D o1 ⟨r,vs,t,(aU l.symm).trans k,o1 _ _ trivial f,u,g,T,_,i,l,bG ..,by simp[n]⟩)
variable(A) in
def PX C d(L:aZ)a s G(U:AH->Prop)(e:aV)g:=∃b f c x,g=(sW s b f)/\St a c b/\bh a G s.heap c b/\e=.ref x/\rD C d c x L/\U c/\∃o,b.get? L=ac o/\dJ o
variable(A) in
def EX C c a b e F G U:=∀s,St b G s.heap->FR a b F G s.heap->be (aY pg wd) A (bN e a) (λY Y=>aC) (PX C c a.locals b s G U) s
variable(A) in
def rE C c a b e F G U:=∀s d,St b G s.heap->FR a b F G s.heap->be (aY pg wd) A (CU (dY d (bM e a))) (λY Y=>aC) (PX C c a.locals b s G U) s
variable(A) in
def XX C c a b st l G U:=∀s,St b G s.heap->FR a b (bo l) G s.heap->be (aY pg wd) A (exec st a) (λY Y=>aC) (PX C c a.locals b s G U) s
variable(A) in
def SX C c a b d l G U:=∀s,St b G s.heap->FR a b (bo l) G s.heap->be (aY pg wd) A (execs d a) (λY Y=>aC) (PX C c a.locals b s G U) s
variable(A) in
def p8 C c f a G:=
 ∀s h,St [] G s.heap->c7 G s.heap h a->jO (aY pg wd) A (.call f ⟨h,[]⟩) (λr i=>match r with
  |.error e=>∃d g b x,i=(sW s d g)/\St [] b d/\bh [] G s.heap b d/\e=.ref x/\oA C c b x/\cZ G b
  |_=>aC) s
theorem gO(h:be (aY pg wd) A t (λY Y=>aC) b s)(k:∀e a,b e a->E e a):be (aY pg wd) A t c E s:=iO h (λY Y x=>x.elim) k
theorem PX.up(x:bh a G s.heap f g)(p:PX h b L a (sW s g tk') f U e c):PX h b L a s G U e c:=by refine iK p λi d j y e S k r=>⟨i,d,j,y,e,S,x.trans k,r⟩
theorem Ph(h:let l:V->AH->Prop:=λv c=>rE A m f a d b F c U;EV A a d e F G l)(n:bM (e::b) a=(ax,bN e a)::bM b a):
 rE A m f a d (e::b) F G U:=λs g S R=>by refine CW (aM (h s S R) ?_) n;refine ce ?_;rintro u r o t x q j i k;exact gO (k _ g q (R.ext S j)) λY Y p=>PX.up j.any p
theorem Pj(h:rE A f b c d a F G U):EX A f b c d (.Tuple a k e) F G U:=λs S R=>Tuple_ (gO (h s e S R) λY Y p=>p)
theorem Pl(h:rE A f b c d a F G U):EX A f b c d (.List a e) F G U:=λs S R=>List_ (gO (h s e S R) λY Y p=>p)
theorem EQ{K:cg}(N:cn K Bh)(O:cS a)(hk:a.kindOf x=ac .globalImplicit)(hn:eW K eM x=ac (ac u))(C:em K u=ao)
 (h:let Q1:ae V->AH->Prop:=λvs c=>cZ G0 c/\∀o,dJ o->c a.locals=ak->p8 A Cx D u vs (aE c a.locals (.fr o));gp A a d (e::b) F G Q1)(S:St d G s.heap)(R:FR a d F G s.heap)(hd:(x==("__debug__":aN))=ax)
 (he:bM (e::b) a=(ax,bN e a)::bM b a)(g:(dY n (bM b a)).any (·.1)=ax):
 be (aY pg wd) A (bN (.Call (.Name x np) (e::b) [] n) a) (λY Y=>aC) (λe T=>∃z E j x,T=(sW s z E)/\St d j z/\bh d G s.heap j z/\e=.ref x/\oA Cx D j x/\cZ G0 j/\FR a d F j z) s:=by
 refine tm (aM (tj N O hk hn (Q:=λv j=>v=.raw u/\j=G) ⟨aa,aa⟩ hd s S R) ?_) aa;refine ce λf h1 H G1 y U W i l=>aw l ?_;rintro rfl rfl;obtain rfl:f=u:=i;have R1:=R.ext S W;refine th C (aM (h (sW s h1 H) n U R1) ?_) he g;refine ng λus h2 I G2 vs m x2 ia l=>aw l λo0 k=>?_;refine aF (N.kin.keeps m.keep) ?_;have w:=R1.ext U x2;refine au w.obj λo J L=>aw (m.lend w.mine J L) λS3 x3=>?_;have gL:=(m.own _ w.mine).1;refine pM (oh (k o L gL (sW s h2 I) us S3 (c7.ext m x3 ia)) λr T q=>?_);rcases r with e|(_|_|_|v)<;>first|exact q.elim|skip
 refine vg q ?_;rintro h3 M G3 x rfl S4 x4 rfl ex o4;have B:=o4 a.locals (.fr o) trivial (bG ..);refine aw (m.back w.mine J L S4 x4 B) λS5 x5=>xP h3 M _ x aa S5 ((W.trans x2).any.trans x5) aa (lC.del B (λvs p=>p.imp id λt=>oz.del B t) ex) (o0.back gL o4) (w.back m J S4 x4 B)
theorem Pm{K:cg}(m:cn K Bh)(O:cS a)(hk:a.kindOf x=ac .globalImplicit)(n:eW K eM x=ac (ac u))(f:em K u=ao)
 (h:let r:ae V->AH->Prop:=λvs c=>cZ t c/\∀o,dJ o->c a.locals=ak->p8 A v g u vs (aE c a.locals (.fr o));gp A a i (e::b) F G r)(w:(x==("__debug__":aN))=ax)
 (y:bM (e::b) a=(ax,bN e a)::bM b a)(d:(dY j (bM b a)).any (·.1)=ax):
 EX A v g a i (.Call (.Name x I) (e::b) [] j) F G (cZ t):=λs S R=>gO (EQ m O hk n f h S R w y d) λe J q=>by refine pC q ?_;rintro z k B x rfl C D rfl E l H;exact⟨z,k,B,x,aa,C,D,aa,lC.mono E λvs p=>p.imp id .inl,l,H.obj⟩
theorem Pn{K:cg}(Q:cn K Bh)
 (h:let C:V->AH->Prop:=λq l=>nf K A q c l λf first m=>rE A D r b n (e::a) F m U;EV A b n o F G C)
 (E:bN (.Call (.Attribute o c j) (e::a) [] d) b=(do
  let q<-bN o b
  eE j.atName
  let(f,first)<-gq [q] (ma q c y)
  lp d f first (dY d (bM (e::a) b)) []))
 (H:bM (e::a) b=(ax,bN e b)::bM a b)(g:(dY d (bM a b)).any (·.1)=ax):
 EX A D r b n (.Call (.Attribute o c j) (e::a) [] d) F G U:=λs S R=>by refine CZ (pl:=y) (aM (h s S R) ?_) E;refine ce ?_;rintro u T I W x J z i k;refine aM (k _ _ _ y J i) ?_;rintro⟨f,fs⟩ s2 t;refine vg t ?_;rintro L v G2 vs rfl M B w N k;refine th w (gO (k (sW s L v) d M (R.ext S (z.trans B))) λY Y p=>PX.up (z.trans B).any p) H g
theorem Po(h:EX A d a b c e (bo l) G U):XX A d a b c (.Return (ac e) f) l G U:=λs S R=>Dy (gO (h s S R) λY Y p=>p)
theorem Pp(h:EX A f b a c e (bo l) G U)(g:gf e (ac (.Name x p)) d.line a=bg ax):
 XX A f b a c (.Assign [.Name x p] e d) l G U:=λs S R=>
 Mn (gO (h s S R) λY Y p=>p) g
theorem Pq(O:cS a)(h:EX A f b a c e (bo l) G U)(g:gf e ak d.line a=bg ax):XX A f b a c (.Expr e d) l G U:=λs S R=>Dw (gO (h s S R) λY Y p=>p) (by unfold Dx;rw[O.kind];rfl) g
theorem Pr(h:let o:bP->AH->Prop:=λc b=>(c=ao->SX A m f d e g l b U)/\(c=ax->SX A m f d e a l b U);TV A d e i (bo l) G o):
 XX A m f d e (.If i g a q) l G U:=λs S R=>by
 refine wpAny_If (aM (h s S R) ?_);refine og ?_;rintro c t r u n j k;cases c with
 |true=>exact gO (k.1 aa _ n (R.ext S j)) λY Y p=>PX.up j.any p
 |false=>exact gO (k.2 aa _ n (R.ext S j)) λY Y p=>PX.up j.any p
theorem Ps{st:fb}(h:XX A e a b c st l G U):SX A e a b c (st::d) l G U:=λs S R=>yY (gO (h s S R) λY Y p=>p)
theorem Pt{st:fb}(h:let g:Ls->AH->Prop:=λe i=>SX A j d a b c e i U;XV A a b st l G g (λY Y=>aC) (λY Y=>aC)):SX A j d a b (st::c) l G U:=λs S R=>by
 refine yY (aM (h s S R) ?_);refine tz ?_;rintro f t m u n o q;cases f with
 |next=>refine au q λe r k=>gO (k _ n r) λY Y p=>PX.up o p
 |cont=>refine au q λY Y q=>q.elim
 |brk=>exact q.elim
 |ret v=>refine au q λY Y q=>q.elim
theorem ER(k:d5 f l)(h:SX A g b c d a f G U):SX A g b c d a l G U:=λs S R=>h s S (R.sub λY Y e=>k.lookup e)
theorem Pu{sub:ae aV}{dd:bB aZ}(c:(eQ C::bm).contains (.type "BaseException")=ao)(j:A.handled=ak)
 (h:be M A x (λv a=>∃e o vs,v=.ref e/\a.heap.get? C=ac (rC nm q C N bs bm hdct sn sub ab col dd k0 k1 k2 k3 k5 newId)/\a.heap.get? e=ac o/\o.cls=.ref C/\o.data=.fields vs/\vs[1]?=ac .none/\E (.ref e) a) E s):
 be M A (raiseStmt k (ac x) ak) Q E s:=by
 unfold raiseStmt;refine aG (iO h (λv a b=>?_) λY Y x=>x);refine Ci b ?_;rintro e o vs rfl f i l m n p;obtain⟨r,g,d,t,os⟩:=a;repeat(first|(with_reducible refine p6 i ?_;rw[l])|with_reducible refine p6 f ?_|(with_reducible refine wg f ?_;rw[c])|with_reducible refine gX i m n ?_|wp_step)
 exact wpAny_raiseNew_none j p
theorem Pw{K:cg}(w:cn K Bh)(y:A.handled=ak)(z:mn K d)
 (h:let B:V->AH->Prop:=λv a=>∃x,v=.ref x/\lC d f a x (λvs=>vs[1]?=ac .none)/\U a;EV A g j e (bo l) G B):XX A d f g j (.Raise (ac e) ak D) l G U:=λs S R=>by refine vh z.obj λE H N I J L sub ab k dd b=>sQ b λM Q T W k5 hC c1 c2 c3 c4 c5=>?_;rw[arm_exec_Raise];refine aG (nq (Pu (C:=d) (nm:=E) (q:=H) (N:=N) (bs:=I) (bm:=J) (hdct:=ao) (sn:=L) (sub:=sub) (ab:=ab) (col:=k) (dd:=dd) (k0:=M) (k1:=Q) (k2:=T) (k3:=W) (k5:=k5) (newId:="Exception.__new__") c2 y (aG (aM (h s S R) ?_))));refine ce λu m c G1 v n r i b=>aL b ?_;rintro x rfl t u1;obtain rfl:u=.ref x:=i;refine aG (nq (bc ?_));refine jK (id t) λdx vs fs hx h2 hw h3 p=>cP (n.objs x _ hx) λob e hc Y hd=>au (R.ext S r).obj λo eo no=>Cj x ob vs aa ((w.kin.keeps (St.keep (s:=sW s m c) n):K.In m) _ _ hC) e hc hd p ⟨m,c,G1,x,aa,n,r.any,aa,t.mono λY=>.inl,u1,o,eo,no⟩
theorem Px{K:cg}(hB:cn K Bh)(O:cS a)(z:a.frame=ac a.locals)(hh:A.handled=ak)(fr:jX A a G0)
 (h1:iQ A a h tg w (bo l) G λc D=>∃cj:ae V->Ls->AH->Prop,Wk (cj c) l D/\
  (∀x j l G,cj (x::j) l G->∃r,lz a h tg x l r/\(SV A a h y r G (Wk (cj j)) (Wk (cj j)) (λY Y=>aC)\/SX A Cx E a h y r G (cZ G0)))/\(∀l G,¬cj [] l G))
 (hs:∀x,gh w a x=bg x):XX A Cx E a h (.For tg w y [] a1) l G (cZ G0):=λs S R=>by
 refine wpAny_For (aM (h1 s S R) λxv s1 q=>aM q λit s2 q=>?_) hs;refine n7 q ?_;rintro I wr h2 h6 G2 c rfl rfl S2 x2 u;refine bu u λh8 x1 x4=>aL x4 λcj e1=>au e1 λl0 H J=>?_;intro ee e2;refine bu (x1 h G2 h2 S2 fY λb hb=>.inl hb) λX W Y=>Mx (rl A h wr a tg I cj (bh h G s.heap) s) ?_ c.length (.mk h2 h6 G2 G2 h2 c l0 S2 x2.any X W fY ((R.ext S x2).sub λY Y e=>H.lookup e) J);intro n s' i;refine y7 O hh (λY Y Y Y Y x' k B b o e g n=>B b o (k b o (λhb=>h8 b hb o e g) (x' b o e g n).1) (x' b o e g n).2 n) ee i (λh3 a2 G' l' S3 x3 R3 L=>(e2 _ _ L).elim) λx j l2 h4 M G' S4 N d Q xx=>aB d ?_ ?_<;>intro d
 ·refine aM (d (sW s h4 M) S4 N) λf s5 q=>q _ ?_;clear q;intro U m G5 e3 C B q;subst e3;cases f with
  |next=>exact au q λl5 R5 L=>Q U m G5 l5 C B R5 L
  |cont=>exact au q λl5 R5 L=>Q U m G5 l5 C B R5 L
  |brk=>exact q.elim
  |ret v=>refine au q λY Y q=>q.elim
 ·refine gO (d (sW s h4 M) S4 N) λe s5 q=>pC q ?_;rintro U m G5 x rfl C B rfl ex o5 u;refine au u λo eo no=>?_;have T:=(C.own _ N.mine).1;refine aw (C.lend N.mine eo no) λS6 x6=>au (id fr) λe4 e5 Y=>?_;unfold rn;have e6:rD Cx E (aE G5 a.locals (.fr o)) x a.locals:=zP T (λvs p=>p.imp id λp=>p.imp (tQ T) (tQ T)) ex;refine zQ (s:=sW s U m) S6 e5 ((fr.off o5).lend (o:=o) (by rw[O.kind]) z T) z e6 λh7 G7 S7 x7 o7 e7=>?_;have hG:=o7 a.locals (.fr o) trivial (bG ..);refine aw (C.back N.mine eo no S7 x7 hG) λS8 x8=>aw (S7.objs _ _ hG) λY u=>aK u λsl e8=>Pg (s:=sW s h7 m) (own:=h) S8 z (lC.del hG (λvs t=>oz.del hG t) e7) λh9 G9 S9 x9 o9 e9=>⟨h9,m,G9,x,aa,S9,bh.trans (xx _ _ B) (x8.trans x9.any),aa,e9.l,(o5.back T o7).trans o9,_,((x9 _ _ e8 (n9 ..) (by simp)).1),no⟩
section
variable{A:cq}{own wr:ae aZ}{env:dK}{l:Ls}{G G':AH}{s:cI}{h h' h1:cH}{tk':ah}{K:cg}{N C:Ls->AH->Prop}{Rt:V->AH->Prop}{F:jN}
variable{why:aN}{Cx:aZ}{U:AH->Prop}{E:aV->cI->Prop}
theorem Py(hB:cn K Bh)(I:iU A G)(RA:cA A (n+1))
 {names:ae aN}(ho:K.lookup f=ac ⟨oc,od,.func (iN u d c g a dV kV J pm an v ct),x2⟩)(L:Bh.CodeRec v d)
 (k:∀H,H.length=j.length->oo (iN u d c g a dV kV J pm an v ct) ⟨H,[]⟩=bg (names.zip H))(M:names.Nodup)
 (m:∀x∈names,a.names.lookup x=ac .local\/(a.names.lookup x=ac .cell/\((mb 0 a.names []).lookup x).isSome=ao))
 (h:∀env,cS env->gM env a.names->cA (A.deeper env) n->jX (A.deeper env) env G->
  SX (A.deeper env) Cx why env (hX env) g (names.zip j) G (cZ G))
 (Q:a.isCoroutine=ax)(w:a.isGenerator=ax)(hk:a.kind=.function):p8 A Cx why (.ref f) j G:=λs H S i=>by refine DC hB RA ho L k M m S i (λenv h1 T O ei R S2 R2 y=>?_) Q w hk;refine gO (h env O ei R (jX.of I) (sW s h1 T) S2 R2) λe s' W=>pC W ?_;rintro h2 q G2 x rfl S3 x3 rfl ex o3 h3;refine au h3 λo eo no=>?_;have b:=R2.mine;have z:=(S3.own _ b).1;refine aw (S3.lend b eo no) λS6 x6=>?_;have B:=ei.frame;refine au (jX.of (env:=env) I) λh4 h5 Y=>?_;have h6:rD Cx why (aE G2 env.locals (.fr o)) x env.locals:=zP z (λvs p=>p.imp id λp=>p.imp (tQ z) (tQ z)) ex;unfold leaving;refine aG (zQ (s:=sW s h2 q) S6 h5 (((jX.of (env:=env) I).off o3).lend (o:=o) (by rw[O.kind]) B z) B h6 λh7 G7 S7 x7 o7 h8=>?_);refine zO (s:=sW s h7 q) S7 h8 λh9 G9 S9 x9 o9 x1=>?_;have r:=o9 env.locals (.fr o) trivial (o7 env.locals (.fr o) trivial (bG ..));refine aw (S3.back b eo no S9 (x7.trans x9) r) λS8 x8=>?_;have D:=y _ _ (x3.trans x8);exact(⟨h9,q,_,x,aa,(S.reown' S8 D),D,aa,(lC.del r (λvs p=>p.imp id λt=>oz.del r t) x1),(o3.back z (o7.trans o9))⟩)
theorem Pz(l)(b)(y:cn K Bh)(z:iU A G)(v:cA A (n+1))(B:K.lookup f=ac ⟨oc,od,.func (iN j d c e a D H q I J k L),M⟩)(r:Bh.CodeRec k d)
 (Q:m=l.map (·.2))(T:b=l.map (·.1))
 (g:∀o,o.length=b.length->oo (iN j d c e a D H q I J k L) ⟨o,[]⟩=bg (b.zip o))(t:b.Nodup)
 (i:b.all (rA a.names)=ao)
 (h:∀env,cS env->gM env a.names->cA (A.deeper env) n->A.handled=ak->(A.deeper env).handled=ak->jX (A.deeper env) env G->
  SX (A.deeper env) Cx why env (hX env) e l G (cZ G))
 (u:a.isCoroutine=ax)(p:a.isGenerator=ax)(hk:a.kind=.function):p8 A Cx why (.ref f) m G:=by
 subst Q T;refine Py y z v B r (names:=l.map (·.1)) (λo w=>g o (by rw[aI] at w⊢;exact w)) t (λx W=>?_) (λenv O Y R fo=>?_) u p hk
 ·have:=gK.mp i x W;simp-zeta-zetaHave only[rA,Ex,fD,jq] at this;exact this
 ·rw[Ew];exact h env O Y R v.hd R.hd fo
end
theorem PA(h:EX A f c b d a (bo l) G U)(g:gf a (ac (.Subscript o i p)) e.line b=bg ax):
 XX A f c b d (.Assign [.Subscript o i p] a e) l G U:=λs S R=>
 M7 (gO (h s S R) λY Y p=>p) g
theorem PC(h:let g:V->AH->Prop:=λY a=>EX A j d b c v F a U;EV A b c k F G g):EX A j d b c (.Dict [ac k] [v] l) F G U:=λs S R=>by
 refine No (knd:=strKind pg wd) aa rfl (iP _ _) (aX _ _)<|aw (S.push {cls:=.type "dict",data:=.dict #[]}) λm e=>pairTrees_cons_walk (aM (h {s with heap:=s.heap.push {cls:=.type "dict",data:=.dict #[]}} m (R.ext S e)) ?_)
 refine ce ?_;rintro u q n r x o f i k;exact gO (k _ o (R.ext S (e.trans f))) λY Y p=>PX.up (e.trans f).any p
theorem PD{K:cg}(X:K.In s.heap)(I:InstAt s.heap x k C f)(b:ec K (.ref C) "__getattribute__"=ac (ac (.builtin "BaseException.__getattribute__")))
 (hk:ec K (.ref C) "__getattr__"=ac r)(g:mroIn K C (.type "BaseException")=ac ao)(i:ES K C f a=ac (.value v))(j:rc v=ao)(h:Q v {s with toks:=s.toks+1}):be (aY pg wd) A (yt (.ref x) a expr) Q E s:=by
 have d:=PySem.F.attr_Exception.ga;have c:=I.type (M:=aY pg wd);refine aG (Li (gs (aG (c _ _ _ _ (λY Y e=>e) (aG (vY X b _ _ _ _ (λY Y e=>e) ?_))))));dsimp-zeta-zetaHave only;rw[show(onTheHeap (.ref C)&&wj "BaseException.__getattribute__"==wj "object.__getattribute__")=ax from by rw[show(wj "BaseException.__getattribute__"==wj "object.__getattribute__")=ax from by decide+kernel,PG],aQ (aW aa)];refine aG ((looks_hook X (by rw[aR (by rfl)];exact hk):oe (aY pg wd) s.heap (hookBefore (.ref C)) r) _ _ _ _ (λY Y e=>e) (aG (wpAny_attempt (gs ?_))));unfold callGetattribute;rw[show(expr&&onTheHeap (wj "BaseException.__getattribute__"))=ax from PG _,aQ (aW aa)];unfold boundAndCalled;rw[d.bind];refine aG (bc ?_);refine pM<|EJ d.plain PySem.F.entry_bexc_ga<|@check_slot (aY pg wd) _ _ {s with toks:=s.toks+1} "BaseException.__getattribute__" "BaseException" "__getattribute__" (.ref x) [.str a s.toks] [] _ (by decide+kernel) (by decide+kernel) (c.andThen (O3 X g)) (PySem.F.args_bexc_ga (.ref x) (.str a s.toks)) ?_
 unfold abz;refine aG (bc (aG (bc (aG (c _ _ _ _ (λY Y e=>e) (aG ((looks_find (M:=aY pg wd) X I i) _ _ _ _ (λY Y e=>e) ?_)))))));refine bc ?_;show be _ _ (zM v) _ _ _;rw[handedOut_of j];exact bc h
theorem PH(S:St c G s.heap)(j:oA C d G x)
 (q:∀f b,St c b f->bh [] G s.heap b f->cZ G b->oA C d b x->Q () {s with heap:=f}):be M A (wi (.ref x) ak) Q E s:=by
 refine jK (id j) λl vs m k g n h a=>aB a (λi=>?_) (λi=>?_)<;>clear a
 ·refine cP (S.objs x _ k) λp e Y Y o=>?_;unfold wi;refine aG (gX e o i ?_);rw[aQ (aW aa)];exact bc (q s.heap G S fY wh j)
 ·exact zO S ⟨l,vs,m,k,g,n,h,i⟩ q
theorem ET{K:cg}(hB:cn K Bh)(O:cS a)(W:a.frame=ac a.locals)(fo:jX A a G0)(ok:mn K U)
 (hk:a.kindOf x=ac .globalImplicit)(hn:eW K eM x=ac (ac u))(e3:em K u=ao)(e4:a.kindOf t=ac .globalImplicit)(e5:eW K eM t=ac (ac (.ref U)))(hl:a.kindOf i=ac .local)
 (h:let Q1:ae V->AH->Prop:=λvs k=>cZ G0 k/\∀o,dJ o->k a.locals=ak->p8 A U why u vs (aE k a.locals (.fr o));gp A a B (e::j) (bo l) G Q1)
 (D:∀x G',cZ G0 G'->oA U why G' x->SV (A.mark (ac (.ref x))) a B (h2::M) ((i,.ref x)::l) G' (λl' e6=>∃l0,d5 l0 l'/\(l0.lookup i=ak)/\N l0 e6) (λY Y=>aC) (λY Y=>aC))
 (hs:gf (.Call (.Name x np) (e::j) [] I) ak h4.line a=bg ax)(hd:(x==("__debug__":aN))=ax)(hd':(t==("__debug__":aN))=ax)
 (he:bM (e::j) a=(ax,bN e a)::bM j a)(hplain:(dY I (bM j a)).any (·.1)=ax):
 XV A a B (.Try [.Expr (.Call (.Name x np) (e::j) [] I) h4] [.ExceptHandler (ac (.Name t q1)) (ac i) (h2::M) k9] [] [] q2) l G N C Rt:=λs S R=>by
 refine wpAny_Try_except (yY (Dw (gO (EQ hB O hk hn e3 h S R hd he hplain) ?_) (by unfold Dx;rw[O.kind];rfl) hs));intro ev s' g;refine pC g ?_;rintro h1 n G1 x rfl S1 x1 rfl e7 o1 R1;refine au R1.obj λo eo no=>?_;have gL:=(S1.own _ R1.mine).1;refine aw (S1.lend R1.mine eo no) λS2 x2=>au (id fo) λe8 e9 Y=>?_;have a1:rD U why (aE G1 a.locals (.fr o)) x a.locals:=zP gL (λvs p=>p.imp id λt=>.inl (tQ gL t)) e7;refine zQ (s:=sW s h1 n) S2 e9 ((fo.off o1).lend (o:=o) (by rw[O.kind]) W gL) W a1 λh3 G3 S3 x3 o3 a2=>?_;have hG:=o3 a.locals (.fr o) trivial (bG ..);refine aw (S1.back R1.mine eo no S3 x3 hG) λS4 x4=>zO (s:=sW s h3 n) (own:=B) S4 (lC.del hG (λvs t=>oz.del hG t) a2) λh5 G5 S5 x5 o5 e1=>?_;have R5:=(R1.back S1 eo S3 x3 hG).ext (s:=sW s h3 n) S4 x5;have a3:=x1.trans (x4.trans x5.any);have a4:(eQ x)≠byPass:=by intro q;cases q
 refine wpAny_handleBy_cons (codeAny_handlers_test ?_) a4;refine aM (tj hB O e4 e5 (Q:=λv G'=>v=.raw (.ref U)/\G'=G5) ⟨aa,aa⟩ hd' (sW s h5 n) S5 R5)<|ce λc h6 E G6 y S6 x6 i6 g=>aw g ?_;rintro rfl rfl
 obtain rfl:c=.ref U:=i6;refine vh ok.obj λnm q' N' bs bm sn sub ab q3 dd g=>sQ g λk0 k1 k2 k3 k5 hC c1 c2 c3 c4 c5=>cP (S6.objs x _ e1.choose_spec.choose_spec.choose_spec.1) λob a5 a6 Y Y=>wpAny_excMatches_sub_self ((hB.kin.keeps (St.keep (s:=sW s h6 E) S6):K.In h6) _ _ hC) a5 a6 c5 (codeAny_handlers_suite_as ?_);refine PH (s:=sW s h6 E) S6 e1 λh7 G7 S7 x7 o7 a7=>?_;have R7:=(R5.ext (s:=sW s h5 n) S5 x6).ext (s:=sW s h6 E) S6 x7;refine lr O (s:=sW s h7 E) S7 R7 (.inl hl) (Is.raw (.ref x)) λh8 a8 S8 x8 R8=>?_;rw[lq] at R8;refine aM (D x G7 ((o1.back gL o3).trans (o5.trans o7)) a7 (sW s h8 a8) S8 R8)<|tz ?_
 rintro f h9 a9 G9 S9 x9 q;cases f with
 |brk=>exact q.elim
 |cont=>refine au q λY Y q=>q.elim
 |ret v=>refine au q λY Y q=>q.elim
 |next=>
 refine au q λl9 R9 g=>aL g λl0 sb k4 q=>?_;obtain⟨⟨m,k6,hv⟩,J,r⟩:=R9;refine wpAny_nameGoes_keeps (s:=sW s h9 a9) hl k6 (by rw[O.kind];rfl) λT v L w=>aw (S9.atOwn J (h':=T) (λb hb=>w.2 b hb) (by refine dz L λo es ep e hd Y=>bi o e (.inl (by unfold dJ;rw[hd];trivial)))) λk7 e2=>?_;refine(.mk T _ G9 aa k7 (a3.trans (x6.any.trans (x7.any.trans (x8.trans (x9.trans e2)))):bh B G s.heap G9 T) ⟨l0,⟨⟨_,L,λy v' ey=>?_⟩,J,λy c' e'=>?_⟩,q⟩)
 ·have H:y≠i:=λz=>by rw[z] at ey;unfold bo at ey;rw[k4] at ey;cases ey
  refine au (hv y v' (sb.lookup ey)) λu' i' r'=>bi u' (Is.ext S9 e2 i')<|aB r' ?_ ?_;rotate_left;intro g;refine aw g λk1 k8=>au k8 λc1 k2 k3=>?_;rotate_right;intro g;refine aw g λk1 k2=>?_
  ·exact .inl ⟨k1,by rw[aQ H];exact k2⟩
  ·exact .inr ⟨k1,c1,k2,k3.sameBut w (r y c1 k2).2.2⟩
 ·refine bu (r y c' e') λg=>aK g λv0 d=>λhb H=>ca ⟨v0,d.sameBut w H⟩ hb H
theorem wk:∀{vs}{a},td vs a->vs.length=a.length/\∀(k:ah)(i),a[k]?=ac i->∃t,vs[k]?=ac (NB i t)
 |_,_,.nil=>⟨aa,λk i h=>by trivial⟩
 |_,_,.cons _ _ r=>⟨by simp[(wk r).1],λk i h=>by
  cases k with
  |zero=>simp at h;subst h;exact ew _ aa
  |succ k=>exact(wk r).2 k i (by simpa using h)⟩
theorem PI(f:pK Bh L d)(g:d.length<=1000000)(q:Q (.int d.length) G):cF A (.builtin "len") [.raw (.ref L)] G Q:=λh s r S i=>by refine au i.inv1 ?_;rintro j rfl k;obtain rfl:j=.ref L:=k;refine au f λvs a=>aL a λo e l b=>aK b λn m=>?_;intro p;have c:=(wk p).1;rw[d9] at c;refine D9 ⟨o,((S.base L o e).1),l,n,m⟩ (ay [_,_] 0x11f080e0e0e0e0e0e0e0e0e0e0e0e0e0e8e112c0110c084e2e4efe0 aa (gW.2 c) (bD.2 g)) ?_;rw[c];exact PV.here S (Is.int _ _) q
theorem PJ(h:pK Bh L l)(m:0<=k)(hk:k<2^63)(p:l[k.toNat]?=ac x)(q:Q (.int x) G)
 (r:∀a u,jt b ax (.ref a) (.int k u)=ju [.ref a,.int k u] (hY (.ref a) (.int k u))):
 jr A c b (.raw (.ref L)) (.int k) G Q:=λw s u v S i j=>by
 cases j;obtain rfl:u=.ref L:=i;refine au h λvs d=>aL d λo e y f=>aK f λn z=>?_;intro B;refine aK ((wk B).2 _ _ p) λt C=>?_;have g:s.heap.IsList L vs:=⟨o,((S.base L o e).1),y,n,z⟩
 exact oj g.typeIs yG.lookup (yH g m hk (by simpa using C) (PV.here (x:=.int x) (tk:=s.toks) S (Is.int _ _) q)) (r _ _)
theorem EU:eW (KK P) eM (aD "Misused")=ac (ac (.ref 44)):=by rfl
theorem PK:eW (KK P) eM (aD "chains_of_node")=ac (ac (.ref 220)):=by rfl
theorem PM:em (KK P) (.ref 220)=ao:=by rfl
theorem PN:eW (KK P) eM (aD "rules_of_ways")=ac (ac (.ref 234)):=by rfl
theorem PO:em (KK P) (.ref 234)=ao:=by rfl
theorem PP:eW (KK P) eM (aD "Exception")=ac ak:=by rfl
theorem PQ:rb (aD "Exception")=ac (.type "Exception"):=by decide+kernel
theorem nz:ec (KK P) (.ref 117) "__getattribute__"=ac (ac (.builtin "object.__getattribute__")):=by rfl
theorem tR:ec (KK P) (.ref 117) "__getattr__"=ac ak:=by rfl
theorem PR:ec (KK P) (.ref 117) (aD "kept")=ac (ac (.ref 86)):=by rfl
theorem PS:om (KK P) (.ref 86)=ac (.type "function"):=by rfl
theorem PT:em (KK P) (.ref 86)=ao:=by rfl
theorem PU:ec (KK P) (.ref 117) (aD "leaf")=ac (ac (.ref 93)):=by rfl
theorem PW:om (KK P) (.ref 93)=ac (.type "function"):=by rfl
theorem PY:em (KK P) (.ref 93)=ao:=by rfl
theorem PZ:ec (KK P) (.ref 117) (aD "make")=ac (ac (.ref 100)):=by rfl
theorem P0:om (KK P) (.ref 100)=ac (.type "function"):=by rfl
theorem P1:em (KK P) (.ref 100)=ao:=by rfl
theorem P2:ec (KK P) (.ref 117) (aD "node")=ac (ac (.ref 107)):=by rfl
theorem P4:om (KK P) (.ref 107)=ac (.type "function"):=by rfl
theorem P5:em (KK P) (.ref 107)=ao:=by rfl
theorem P6:ec (KK P) (.ref 117) (aD "level")=ac (ac (.ref 114)):=by rfl
theorem P7:om (KK P) (.ref 114)=ac (.type "function"):=by rfl
theorem P8:em (KK P) (.ref 114)=ao:=by rfl
theorem P9:ec (KK P) (.ref 117) (aD "tops")=ac ak:=by rfl
theorem EW:iR (KK P) 117 (aD "tops"):=⟨by rfl,by rfl,by rfl,by rfl⟩
theorem Qa:ec (KK P) (.ref 117) (aD "nodes")=ac ak:=by rfl
theorem EY:iR (KK P) 117 (aD "nodes"):=⟨by rfl,by rfl,by rfl,by rfl⟩
theorem Qb:ec (KK P) (.ref 117) (aD "book")=ac ak:=by rfl
theorem EZ:iR (KK P) 117 (aD "book"):=⟨by rfl,by rfl,by rfl,by rfl⟩
theorem Qc:ec (KK P) (.ref 117) (aD "memo")=ac ak:=by rfl
theorem E0:iR (KK P) 117 (aD "memo"):=⟨by rfl,by rfl,by rfl,by rfl⟩
theorem Qd:DT (KK P) 117=ao:=by rfl
theorem tS:ec (KK P) (.ref 251) "__getattribute__"=ac (ac (.builtin "object.__getattribute__")):=by rfl
theorem Qe:ec (KK P) (.ref 251) (aD "names")=ac ak:=by rfl
theorem E1:iR (KK P) 251 (aD "names"):=⟨by rfl,by rfl,by rfl,by rfl⟩
theorem Qf:ec (KK P) (.ref 251) (aD "tops")=ac ak:=by rfl
theorem E2:iR (KK P) 251 (aD "tops"):=⟨by rfl,by rfl,by rfl,by rfl⟩
theorem Qg:ec (KK P) (.ref 251) (aD "legal")=ac ak:=by rfl
theorem E3:iR (KK P) 251 (aD "legal"):=⟨by rfl,by rfl,by rfl,by rfl⟩
theorem E4:ec (KK P) (.ref 251) (aD "place")=ac ak:=by rfl
theorem zR:iR (KK P) 251 (aD "place"):=⟨by rfl,by rfl,by rfl,by rfl⟩
theorem Qh:DT (KK P) 251=ao:=by rfl
theorem Qi:ec (KK P) (.ref 117) "__init__"=ac (ac (.ref 79)):=by rfl
theorem Qj:om (KK P) (.ref 79)=ac (.type "function"):=by rfl
theorem Qk:ec (KK P) (.ref 251) "__init__"=ac (ac (.ref 248)):=by rfl
theorem Ql:om (KK P) (.ref 248)=ac (.type "function"):=by rfl
abbrev OL:=ae (aZ×O)
def bH(G:AH)(l:OL):AH:=l.rec G λp Y r=>aE r p.1 p.2
theorem bH.q2:bH G (p::r)=(aE (bH G r) p.1 p.2):=aa
def dv(G:AH)(l:OL):Prop:=l.rec fP λp r R=>bH G r p.1=ak/\R
theorem jy(h:a≠b):aE (aE G a o) b p=aE (aE G b p) a o:=by
 funext c;show(if c=b then ac p else if c=a then ac o else G c)=if c=a then ac o else if c=b then ac p else G c;by_cases e:c=b
 ·rw[aR e,aQ (λq=>h (q.symm.trans e)),aR e]
 ·rw[aQ e];by_cases q:c=a
  ·rw[aR q,aR q]
  ·rw[aQ q,aQ q,aQ e]
theorem oE:bH G X a=ak->G a=ak/\a∉X.map (·.1):=by
 induction X with
 |nil=>exact λh=>⟨h,iV⟩
 |cons q X b=>
  intro h;have n:a≠q.1:=λe=>by rw[e] at h;rw[bH.q2] at h;rw[bG] at h;cases h
  rw[bH.q2] at h;rw[aU n] at h;exact aF (b h).1 λm=>(bj.mp m).elim n (b h).2
theorem Qm(h:a∉X.map (·.1)):bH G X a=G a:=by
 induction X with
 |nil=>rfl
 |cons q X b=>rw[bH.q2];rw[aU λe=>h (by rw[e];exact aP)];exact b λm=>h (ba _ m)
theorem dv.off(F:dv G X)(h:G a=ac o):a∉X.map (·.1):=by
 induction X with
 |nil=>exact iV
 |cons q X b=>
  intro m;refine aB (bj.mp m) (λe=>?_) (λm=>?_)
  ·rw[e,(oE F.1).1] at h;cases h
  ·exact b F.2 m
theorem dv.get(F:dv G X)(h:G a=ac o):bH G X a=ac o:=(Qm (F.off h)).trans h
theorem E5:dv G (X++Y)->dv G Y:=by
 induction X with
 |nil=>exact id
 |cons q X a=>exact λF=>a F.2
theorem wm(F:dv G (X++(j,o)::Y))(d):dv G (X++(j,d)::Y)/\bH G (X++(j,d)::Y)=aE (bH G (X++(j,o)::Y)) j d/\bH G (X++(j,o)::Y) j=ac o:=by
 induction X with
 |nil=>exact ca F (by show aE _ _ _=aE (aE _ _ _) _ _;rw[ij]) (bG ..)
 |cons q X f=>
  refine bu (f F.2) λa b c=>?_;have n:j≠q.1:=λe=>by have:=F.1;rw[<-e,show bH G (Qn X ((j,o)::Y)) j=ac o from c] at this;cases this
  refine ca ⟨?_,a⟩ ?_ ?_
  ·show bH G (X++(j,d)::Y) q.1=ak;rw[b,aU n.symm];exact F.1
  ·show aE (bH G (X++(j,d)::Y)) _ _=aE (aE (bH G (X++(j,o)::Y)) _ _) _ _;rw[b,jy n]
  ·exact(aU n).trans c
theorem tU(h:a≠b):cL (aE G b o) a=aE (cL G a) b o:=by
 funext c;show(if c=a then ak else if c=b then ac o else G c)=if c=b then ac o else if c=a then ak else G c;by_cases e:c=a
 ·rw[aR e,aQ (λq=>h (e.symm.trans q)),aR e]
 ·rw[aQ e];by_cases q:c=b
  ·rw[aR q,aR q]
  ·rw[aQ q,aQ q,aQ e]
theorem wn(F:dv G (X++(j,o)::Y)):dv G (X++Y)/\bH G (X++Y)=cL (bH G (X++(j,o)::Y)) j:=by
 induction X with
 |nil=>exact aF F.2 (Ez F.1).symm
 |cons q X c=>
  refine aw (c F.2) λa b=>?_;have n:j≠q.1:=λe=>by have:=F.1;rw[<-e,show bH G (Qn X ((j,o)::Y)) j=ac o from(wm F.2 o).2.2] at this;cases this
  refine aF ⟨?_,a⟩ ?_
  ·show bH G (X++Y) q.1=ak;rw[b,ku n.symm];exact F.1
  ·show aE (bH G (X++Y)) _ _=cL (aE (bH G (X++(j,o)::Y)) _ _) _;rw[b,tU n]
theorem zS(F:dv G (X++Y))(h:bH G (X++Y) j=ak)(o):dv G (X++(j,o)::Y)/\bH G (X++(j,o)::Y)=aE (bH G (X++Y)) j o:=by
 induction X with
 |nil=>exact aF ⟨h,F⟩ aa
 |cons q X c=>
  have n:j≠q.1:=λe=>by rw[e] at h;exact bv ((bG ..).symm.trans h) (Option.some_ne_none _)
  refine aw (c F.2 ((aU n).symm.trans h)) λa b=>aF ⟨?_,a⟩ ?_
  ·show bH G (X++(j,o)::Y) q.1=ak;rw[b,aU n.symm];exact F.1
  ·show aE (bH G (X++(j,o)::Y)) _ _=aE (aE (bH G (X++Y)) _ _) _ _;rw[b,jy n]
theorem kH(F:dv G X)(h:a∉X.map (·.1))(o):dv (aE G a o) X/\bH (aE G a o) X=aE (bH G X) a o:=by
 induction X with
 |nil=>exact aF trivial rfl
 |cons q X b=>
  have n:a≠q.1:=λe=>h (by rw[e];exact aP);refine aw (b F.2 λm=>h (ba _ m)) λf e=>aF ⟨?_,f⟩ ?_
  ·rw[e,aU n.symm];exact F.1
  ·show aE (bH (aE G a o) X) _ _=aE (aE (bH G X) _ _) _ _;rw[e,jy n]
theorem wo(X Y)(G)(F:dv G (X++Y))(a):bH G Y a=bH G (X++Y) a\/bH G Y a=ak:=by
 induction X with
 |nil=>exact .inl aa
 |cons q X b=>
  refine aB (b F.2) (λe=>?_) (λe=>?_)
  ·by_cases n:a=q.1
   ·refine .inr ?_;rw[e,n];exact F.1
   ·exact .inl (e.trans (aU n).symm)
  ·exact .inr e
def nA a(Q:V->AH->Prop):=λv b=>∃G,b=bH G a/\dv G a/\Q v G
inductive LV where
 |u
 |v (x:V)
 |o (x:O)
inductive RV where
 |u
 |v (x:V)
 |o (j:aZ) (x:O)
noncomputable def RV.ab:RV->LV
 |.u=>.u
 |.v x=>.v x
 |.o _ x=>.o x
def et(l:ae RV):OL:=l.rec [] λx Y R=>x.casesOn R (λY=>R) λj x=>(j,x)::R
def lo(a:ae (bB aN)):ae RV->Ls:=a.rec (λY=>[]) λn Y R r=>r.casesOn [] λx r=>n.casesOn (R r) λn=>x.casesOn (R r) (λx=>(n,x)::R r) λj Y=>(n,.ref j)::R r
abbrev Sg:=ae LV
abbrev ab(r:ae RV):=r.map RV.ab
def eA(l:Sg):ah->LV:=l.rec (λY=>.u) λx Y R n=>n.casesOn x R
def ef(l:Sg):ah->LV->Sg:=l.rec (λY Y=>[]) λx r R n y=>n.casesOn (y::r) λn=>x::R n y
theorem lD(X Y):et (X++Y)=et X++et Y:=by
 induction X with
 |nil=>rfl
 |cons x X a=>cases x<;>first|exact a|exact bA (_::·) a
theorem E6(h:eA (ab r) k=y)(n:y≠.u):∃X x Y,r=X++x::Y/\X.length=k/\x.ab=y:=by
 induction r generalizing k with
 |nil=>exact bv h.symm n
 |cons x r a=>cases k with
  |zero=>exact pB [] x r aa rfl h
  |succ k=>refine dz (a h) λX z Y e l q=>pB (x::X) z Y (by rw[e];rfl) (by rw[cG,l]) q
inductive Wv where
 |v (x:V)
 |s (k:ah)
def eR(l:ae (bB aN)):bP:=l.rec ao λn r R=>n.casesOn R λn=>!r.contains (ac n)&&R
def p9(l:ae (bB aN)):bP:=l.rec ao λn Y R=>n.casesOn R λn=>!(n=="__debug__"||n=="__classdict__")&&R
structure dM where
 nm:ae (bB aN)
 names:ae (aN×hZ)
 lv:bP
 ct:ae (aN×ah)
structure bR(S:dM) where
 c:cq
 env:dK
 own:ae aZ
 O:cS env
 k:pR env S.names
 hB:cn df Bh
 rm:∃n,cA c n
 nd:eR S.nm=ao
 db:p9 S.nm=ao
 bd:∀n,gu S.names n=ao->jR env own n
 ei:S.lv=ao->gM env S.names/\own=hX env
theorem bR.hh(X:bR S):X.c.handled=ak:=let⟨_,R⟩:=X.rm;R.hd
abbrev TE:=cq->Sg->AH->(Wv->Sg->AH->Prop)->Prop
abbrev TB:=cq->Sg->AH->(bP->Sg->AH->Prop)->Prop
abbrev TL:=cq->Sg->AH->(ae Wv->Sg->AH->Prop)->Prop
abbrev TS:=cq->Sg->AH->(Sg->AH->Prop)->(Sg->AH->Prop)->(V->AH->Prop)->Prop
def Re(r:ae RV)(Z a:OL)(G b:AH):Prop:=
 b=bH G (Z++a)/\
 dv G (Z++a)/\
 (∀p∈et r,p∈Z)/\
 ((et r).map (·.1)).Nodup
def Re.e(a:Re r Z b G c):=a.1
def Re.f(a:Re r Z b G c):=a.2.1
def Re.i(a:Re r Z b G c):=a.2.2.1
def Re.n(a:Re r Z b G c):=a.2.2.2
noncomputable def RV.sh:RV->RV
 |.o j _=>.o j (.list [])
 |x=>x
abbrev bF(r:ae RV):ae RV:=r.map RV.sh
def fS(r:ae RV):Wv->V->Prop
 |.v x,v=>v=x
 |.s k,v=>∃j o A B,r=A++.o j o::B/\A.length=k/\v=.ref j
def KE(r:ae RV)(d:OL)(Q:Wv->Sg->AH->Prop)(v:V)(e:AH):Prop:=∀b,(∀(a)(f)(c)(x),Re a f d c e->bF a=bF r->fS a x v->Q x (ab a) c->b)->b
theorem KE.mk(a)(c)(b)(x)(d:Re a c e b f)(g:bF a=bF r)(h:fS a x v)(i:Q x (ab a) b):KE r e Q v f:=λY j=>j a c b x d g h i
def KB(r:ae RV)(e:OL)(Q:bP->Sg->AH->Prop)(b:bP)(f:AH):Prop:=∀c,(∀(a)(g)(d),Re a g e d f->bF a=bF r->Q b (ab a) d->c)->c
theorem KB.mk(a)(d)(c)(e:Re a d f c g)(h:bF a=bF r)(i:Q b (ab a) c):KB r f Q b g:=λY j=>j a d c e h i
def iW(r:ae RV):ae Wv->ae V->Prop
 |[],vs=>vs=[]
 |w::ws,vs=>∃v a,vs=v::a/\fS r w v/\iW r ws a
def KL(r:ae RV)(d:OL)(Q:ae Wv->Sg->AH->Prop)(vs:ae V)(e:AH):Prop:=∀b,(∀(a)(f)(c)(ws),Re a f d c e->bF a=bF r->iW a ws vs->Q ws (ab a) c->b)->b
theorem KL.mk(a)(c)(b)(ws)(d:Re a c e b f)(g:bF a=bF r)(h:iW a ws vs)(i:Q ws (ab a) b):KL r e Q vs f:=λY j=>j a c b ws d g h i
def KS(b:ae (bB aN))(c:OL)(Q:Sg->AH->Prop)(l:Ls)(d:AH):Prop:=∀a,(∀(r)(Z)(G),Re r Z c G d->d5 (lo b r) l->Q (ab r) G->a)->a
theorem KS.mk(r)(Z)(G)(a:Re r Z b G c)(d:d5 (lo e r) l)(f:Q (ab r) G):KS e b Q l c:=λY g=>g r Z G a d f
def KT(a:OL)(Q:V->AH->Prop)(v:V)(c:AH):Prop:=∀b,(∀(Z)(G),c=bH G (Z++a)->dv G (Z++a)->Q v G->b)->b
theorem KT.mk(Z)(G)(b:c=bH G (Z++a))(d:dv G (Z++a))(e:Q v G):KT a Q v c:=λY f=>f Z G b d e
section
variable{S:dM}(X:bR S)
def dE(t:TE)e:=∀a r Z G b Q,Re r Z a G b->t X.c (ab r) G Q->EV X.c X.env X.own e (bo (lo S.nm r)) b (KE r a Q)
def rF(t:TB)e:=∀a r Z G b Q,Re r Z a G b->t X.c (ab r) G Q->TV X.c X.env X.own e (bo (lo S.nm r)) b (KB r a Q)
def kI(t:TL)c:=∀a r Z G b Q,Re r Z a G b->t X.c (ab r) G Q->gp X.c X.env X.own c (bo (lo S.nm r)) b (KL r a Q)
def qa a(t:TS)st:=∀r Z G b N C R,Re r Z a G b->t X.c (ab r) G N C R->XV X.c X.env X.own st (lo S.nm r) b (KS S.nm a N) (KS S.nm a C) (KT a R)
def jY a(t:TS)b:=∀r Z G c N C R,Re r Z a G c->t X.c (ab r) G N C R->SV X.c X.env X.own b (lo S.nm r) c (KS S.nm a N) (KS S.nm a C) (KT a R)
def ik t st:=∀a,qa X a t st
def zT t b:=∀a,jY X a t b
end
theorem b5(h:bF a=bF r):lo nm a=lo nm r:=by
 induction a generalizing r nm with
 |nil=>cases r with
  |nil=>rfl
  |cons _ _=>cases h
 |cons x a c=>cases r with
  |nil=>cases h
  |cons y r=>
   have b:=(nh h).1
   have d:=(nh h).2
   cases nm with
   |nil=>rfl
   |cons n nm=>have:=@c r nm d;cases n<;>cases x<;>cases y<;>first|exact this|(cases b;exact bA (List.cons _) this)|cases b
theorem E7(h:bF b=bF (A++.o j o::B)):∃d c f,b=d++.o j c::f/\d.length=A.length:=by
 induction A generalizing b with
 |nil=>cases b with
  |nil=>cases h
  |cons x b=>cases x with
   |o i c=>have:=(nh h).1;cases this;exact lS [] c b aa rfl
   |_=>cases(nh h).1
 |cons a A g=>cases b with
  |nil=>cases h
  |cons x b=>refine fa (g (nh h).2) λd c f e l=>lS (x::d) c f (by rw[e];rfl) (bA (·+1) l)
theorem fS.shp(i:fS r x v)(h:bF a=bF r):fS a x v:=by
 cases x with
 |v y=>exact i
 |s k=>refine sO i ?_;rintro j o A B rfl b e;refine fa (E7 h) λc d f g l=>⟨j,d,c,f,g,l.trans b,e⟩
theorem KE.up(h:bF e=bF r)(k:KE e f Q v g):KE r f Q v g:=by refine k _ λi j l x a b c d=>(.mk i j l x a (b.trans h) c d)
theorem KB.up(h:bF c=bF r)(k:KB c e Q v f):KB r e Q v f:=by refine k _ λg i j a b d=>(.mk g i j a (b.trans h) d)
theorem ci{X:bR S}(h:dE X t e)(R:Re r Z m G n)(o:t X.c (ab r) G Q)
 (k:∀v g j i f x,Re g j m i f->bF g=bF r->fS g x v->Q x (ab g) i->P v f)(p:lo S.nm r=l):EV X.c X.env X.own e (bo l) n P:=by subst p;refine nw (h m r Z G n Q R o) λv f q=>q _ λg j i x a b c d=>k v g j i f x a b c d
theorem mo{X:bR S}(h:rF X t e)(R:Re r Z j G m)(n:t X.c (ab r) G Q)
 (k:∀v f i g c,Re f i j g c->bF f=bF r->Q v (ab f) g->P v c)(o:lo S.nm r=l):TV X.c X.env X.own e (bo l) m P:=by subst o;refine OQ (h j r Z G m Q R n) λv c q=>q _ λf i g a b d=>k v f i g c a b d
theorem Qo(h:gp A b d j F G Q)(k:∀vs a,Q vs a->l vs a):gp A b d j F G l:=λs f S R=>by refine aM (h s f S R) λc r p=>p _ λm g a x e n o i q=>(.mk m g a x e n o i (k _ _ q))
theorem iX{X:bR S}(h:kI X t e)(R:Re r Z m G n)(o:t X.c (ab r) G Q)
 (k:∀v g j i f x,Re g j m i f->bF g=bF r->iW g x v->Q x (ab g) i->P v f)(p:lo S.nm r=l):gp X.c X.env X.own e (bo l) n P:=by subst p;refine Qo (h m r Z G n Q R o) λv f q=>q _ λg j i x a b c d=>k v g j i f x a b c d
theorem KE.now(R:Re r Z a G b)(q:Q (.v v) (ab r) G):KE r a Q v b:=(.mk r Z G (.v v) R aa rfl q)
theorem KB.now(R:Re r Z a G b)(q:Q v (ab r) G):KB r a Q v b:=(.mk r Z G R aa q)
theorem wp:∀{a:ae (bB aN)}{r:ae RV},(n,x)∈lo a r->ac n∈a:=by
 intro a;induction a with
 |nil=>intro r h;cases r<;>cases h
 |cons m a b=>
  intro r h
  cases r with
  |nil=>cases m<;>cases h
  |cons y r=>
   cases m with
   |none=>exact ba _ (b (r:=r) (by cases y<;>exact h))
   |some m=>
    cases y with
    |u=>exact ba _ (b h)
    |v z=>
     refine aB (bj.mp h) (λe=>?_) (λh=>?_)
     ·cases e;exact aP
     ·exact ba _ (b h)
    |o j z=>
     refine aB (bj.mp h) (λe=>?_) (λh=>?_)
     ·cases e;exact aP
     ·exact ba _ (b h)
noncomputable def RV.val:RV->bB V
 |.u=>ak
 |.v x=>ac x
 |.o j _=>ac (.ref j)
theorem jz{x y:aN}{v:V}{l:Ls}(h:x≠y):((y,v)::l).lookup x=l.lookup x:=by rw[ez,LR h]
theorem p9.at(h:p9 b=ao)(m:ac n∈b):(n==("__debug__":aN))=ax/\(n==("__classdict__":aN))=ax:=by
 induction b with
 |nil=>cases m
 |cons a b c=>cases a with
  |none=>exact c h ((bj.mp m).elim (λe=>by cases e) id)
  |some a=>
   have h:=eV.mp (show(!(a==("__debug__":aN)||a==("__classdict__":aN))&&p9 b)=ao from h);refine aB (bj.mp m) (λe=>?_) (λm=>?_)
   ·cases e;have:=h.1;rw[sU,Bool.or_eq_false_iff] at this;exact this
   ·exact c h.2 m
theorem oF{n:aN}{x:RV}{v:V}{A B:ae RV}:∀{b:ae (bB aN)},eR b=ao->b[A.length]?=ac (ac n)->x.val=ac v->(lo b (A++x::B)).lookup n=ac v:=by
 induction A with
 |nil=>
  intro b d h e
  cases b with
  |nil=>cases h
  |cons m b=>
   cases h
   cases x with
   |u=>cases e
   |v y=>cases e;exact ni
   |o j y=>cases e;exact ni
 |cons a A i=>
  intro b d h e
  cases b with
  |nil=>cases h
  |cons m b=>
   have g:b[A.length]?=ac (ac n):=by simpa using h
   clear h
   cases m with
   |none=>have:=i (b:=b) d g e;cases a<;>exact this
   |some m=>
    have d:=eV.mp (show(!b.contains (ac m)&&eR b)=ao from d)
    have f:n≠m:=λq=>by have:=dw g;rw[q] at this;have c:=d.1;rw[oq.mpr this] at c;cases c
    have:=i d.2 g e
    cases a with
    |u=>exact this
    |v y=>exact(jz f).trans this
    |o j y=>exact(jz f).trans this
theorem wq(A B)(j)(o):et (A++.o j o::B)=et A++(j,o)::et B:=lD _ _
theorem eY:p∈et (A++x::B)↔p∈et A\/p∈et [x]\/p∈et B:=by rw[show A++x::B=A++([x]++B) from rfl,lD,lD,ed,ed]
theorem Re.own(R:Re (A++.o j o::B) Z b G a):a j=ac o:=by refine fz (zU (R.i (j,o) (eY.mpr (.inr (.inl aP))))) ?_;rintro X Y rfl;rw[R.e,cs];exact(wm (by have:=R.f;rw[cs] at this;exact this) o).2.2
theorem Re.ne(R:Re (A++.o j o::B) Z a G b)(h:p∈et A\/p∈et B):p.1≠j:=by
 have n:=R.n;rw[wq,ck,c9] at n;have n:=jV.mp n;refine aB h ?_ ?_<;>clear h<;>intro h
 ·exact n.2.2 _ (bV.mpr ⟨p,h,aa⟩) _ aP
 ·exact λe=>(nk.mp n.2.1).1 (e▸bV.mpr ⟨p,h,aa⟩)
theorem Re.set(R:Re (A++.o j o::B) Z c G d)(b):∃g,Re (A++.o j b::B) g c G (aE d j b):=by
 refine fz (zU (R.i (j,o) (eY.mpr (.inr (.inl aP))))) ?_;rintro X Y rfl;refine bu (wm (X:=X) (Y:=Y++c) (by have:=R.f;rw[cs] at this;exact this) b) λf e W=>ew (X++(j,b)::Y) ⟨?_,?_,λp k=>?_,?_⟩
 ·rw[cs,mq,e,R.e,cs,mq]
 ·rw[cs];exact f
 ·refine aB (eY.mp k) (λh=>?_) ?_;rotate_left;intro a;refine aB a (λh=>?_) (λh=>?_)<;>clear a;rotate_right
  ·have:=R.i p (eY.mpr (.inl h));refine aB (ed.mp this) (λm=>?_) (λm=>?_)
   ·exact gg _ m
   ·exact iY _ ((bj.mp m).elim (λe=>bv (bA (·.1) e) (R.ne (.inl h))) (ba _))
  ·exact iY _ (bZ.mp h▸aP)
  ·have:=R.i p (eY.mpr (.inr (.inr h)));refine aB (ed.mp this) (λm=>?_) (λm=>?_)
   ·exact gg _ m
   ·exact iY _ ((bj.mp m).elim (λe=>bv (bA (·.1) e) (R.ne (.inr h))) (ba _))
 ·have:=R.n;rw[wq,ck] at this⊢;exact this
theorem zV(n:(((et (A++x::B)).map (·.1))).Nodup)(a:et [y]=[]):((et (A++y::B)).map (·.1)).Nodup:=by rw[show A++y::B=A++([y]++B) from rfl,lD,lD,a];rw[show A++x::B=A++([x]++B) from rfl,lD,lD] at n;refine n.sublist (abA _ (abB (List.sublist_append_right _ _) _))
theorem Re.val(R:Re (A++x::B) Z b G c)(a:et [y]=[]):Re (A++y::B) Z b G c:=⟨R.e,R.f,λp d=>(eY.mp d).elim (λh=>R.i p (eY.mpr (.inl h))) λh=>h.elim (λh=>by rw[a] at h;cases h) λh=>R.i p (eY.mpr (.inr (.inr h))),zV R.n a⟩
theorem Re.new(R:Re (A++x::B) Z l G m)(r:m j=ak)(o):Re (A++.o j o::B) ((j,o)::Z) l G (aE m j o):=by
 have s:=λh=>by refine au (bV.mp h) λp c e=>((oE (R.e▸r)).2:j∉(Z++l).map (·.1)) (bV.mpr ⟨p,gg _ (R.i p c),e⟩)
 refine aw (zS (X:=[]) R.f (R.e▸r) o) λf e=>⟨by rw[R.e];exact e.symm,f,λp c=>?_,?_⟩
 ·refine aB (eY.mp c) (λh=>?_) ?_;rotate_left;intro d;refine aB d (λh=>?_) (λh=>?_)<;>clear d;rotate_right
  ·exact ba _ (R.i p (eY.mpr (.inl h)))
  ·exact bZ.mp h▸aP
  ·exact ba _ (R.i p (eY.mpr (.inr (.inr h))))
 ·have n:=((R.val (y:=.u) aa)).n;have t:=λh=>s (by refine au (bV.mp h) λp c e=>bV.mpr ⟨p,eY.mpr (.inl c),e⟩);have u:=λh=>s (by refine au (bV.mp h) λp c e=>bV.mpr ⟨p,eY.mpr (.inr (.inr c)),e⟩);rw[show et (A++.u::B)=et A++et B from lD _ _,ck] at n;rw[wq,ck,c9];have n:=jV.mp n;refine jV.mpr ⟨n.1,nk.mpr ⟨u,n.2.1⟩,λa g b k=>?_⟩;refine aB (bj.mp k) (λe=>?_) (λk=>?_)
  ·exact λq=>t (by rw[q,e] at g;exact g)
  ·exact n.2.2 a g b k
theorem Re.frz(R:Re (A++.o j o::B) Z b G d)(c:et [y]=[]):∃g,Re (A++y::B) g b G (cL d j):=by
 refine fz (zU (R.i (j,o) (eY.mpr (.inr (.inl aP))))) ?_;rintro X Y rfl;refine aw (wn (X:=X) (j:=j) (o:=o) (Y:=Y++b) (by have:=R.f;rw[cs] at this;exact this)) λf e=>ew (X++Y) ⟨?_,?_,λp k=>?_,zV R.n c⟩
 ·rw[cs,e,R.e,cs,mq]
 ·rw[cs];exact f
 ·refine aB (eY.mp k) (λh=>?_) ?_;rotate_left;intro a;refine aB a (λh=>?_) (λh=>?_)<;>clear a;rotate_right
  ·refine aB (ed.mp (R.i p (eY.mpr (.inl h)))) (λm=>?_) (λm=>?_)
   ·exact gg _ m
   ·exact iY _ ((bj.mp m).elim (λe=>bv (bA (·.1) e) (R.ne (.inl h))) id)
  ·rw[c] at h;cases h
  ·refine aB (ed.mp (R.i p (eY.mpr (.inr (.inr h))))) (λm=>?_) (λm=>?_)
   ·exact gg _ m
   ·exact iY _ ((bj.mp m).elim (λe=>bv (bA (·.1) e) (R.ne (.inr h))) id)
theorem Re.lft(R:Re r Z c G d)(h:nA (Z++c) Q v b):∃a,Re r Z c a b/\Q v a:=by refine aL h λa e f q=>bi a ⟨e,f,R.i,R.n⟩ q
theorem E8(h:eA (ab r) k=.v y):∃A B,r=A++.v y::B/\A.length=k:=by
 refine dz (E6 h (by simp)) λA x B e l q=>?_;cases x with
 |v z=>cases q;exact qS A B e l
 |u=>cases q
 |o j z=>cases q
theorem rG(h:eA (ab r) k=.o y):∃A j B,r=A++.o j y::B/\A.length=k:=by
 refine dz (E6 h (by simp)) λA x B e l q=>?_;cases x with
 |v z=>cases q
 |u=>cases q
 |o j z=>cases q;exact lS A j B e l
def vB:bP->Prop->Prop->Prop
 |true,a,_=>a
 |false,_,b=>b
theorem vB.d{rH:qb p}(c:p->a)(e:¬p->b):vB (decide p) a b:=by
 by_cases h:p
 ·rw[hW h];exact c h
 ·rw[s8 h];exact e h
def dI d k:=nB (motive_1:=λY=>Prop) d aC (λY=>aC) k (λY=>aC) (λY=>aC) (λY=>aC) (λY=>aC)
def dS d k:=nB (motive_1:=λY=>Prop) d aC (λY=>aC) (λY=>aC) k (λY=>aC) (λY=>aC) (λY=>aC)
def dL d k:=nB (motive_1:=λY=>Prop) d aC (λY=>aC) (λY=>aC) (λY=>aC) k (λY=>aC) (λY=>aC)
def dT d k:=nB (motive_1:=λY=>Prop) d aC (λY=>aC) (λY=>aC) (λY=>aC) (λY=>aC) k (λY=>aC)
def oD w k:=Wv.casesOn (motive:=λY=>Prop) w (λx=>V.casesOn (motive_1:=λY=>Prop) x k (λY=>aC) (λY Y Y=>aC) (λY=>aC)) (λY=>aC)
def rI:ae Wv->(ae aA->Prop)->Prop
 |[],k=>k []
 |w::ws,k=>oD w λx=>rI ws λa=>k (x::a)
theorem dI.o(h:dI d k):∃i,d=.int i/\k i:=by cases d<;>first|exact bi _ aa h|exact h.elim
theorem dS.o(h:dS d k):∃i,d=.str i/\k i:=by cases d<;>first|exact bi _ aa h|exact h.elim
theorem dL.o(h:dL d k):∃i,d=.list i/\k i:=by cases d<;>first|exact bi _ aa h|exact h.elim
theorem dT.o(h:dT d k):∃i,d=.tuple i/\k i:=by cases d<;>first|exact bi _ aa h|exact h.elim
theorem oD.o(h:oD w k)(i:fS r w v):∃x,v=.d x/\k x:=by
 cases w with
 |s k=>exact h.elim
 |v x=>cases x with
  |d x=>exact bi x i h
  |_=>exact h.elim
theorem rI.o(h:rI ws k)(i:iW r ws vs):∃c,oi vs c/\vs=c.map V.d/\k c:=by
 induction ws generalizing vs k with
 |nil=>obtain rfl:vs=[]:=i;exact cf [] .nil aa h
 |cons w ws d=>refine dD i ?_;rintro v j rfl a b;refine au (oD.o h a) ?_;rintro x rfl e;refine aL (d e b) ?_;rintro c f rfl g;exact cf (x::c) (.cons f) aa g
def aO(i:af):TE:=λc a G Q=>Q (.v (.int i)) a G
def bf(i:aN):TE:=λc a G Q=>Q (.v (.str i)) a G
def lE(i:bP):TE:=λc a G Q=>Q (.v (.bool i)) a G
def tV:TE:=λc a G Q=>Q (.v .none) a G
def ag(k:ah):TE:=λc a G Q=>match eA a k with
 |.v x=>Q (.v x) a G
 |.o _=>Q (.s k) a G
 |.u=>aC
def Qp(Q:(Wv->Sg->AH->Prop))x a G:=oD x λd=>dI d λi=>Q (.v (.int (-i))) a G
def jZ(a:TE):=λc b G Q=>a c b G (Qp Q)
def Qq(f:aA->aA->(aA->Prop)->Prop)(Q:(Wv->Sg->AH->Prop))x y a G:=oD x λd=>oD y λe=>f d e λz=>Q (.v (.d z)) a G
def Qr f(b:TE)c Q x a G:=b c a G (Qq f Q x)
def Qs f(a b:TE):=λc d G Q=>a c d G (Qr f b c Q)
def Qt(f:aA->aA->(bP->Prop)->Prop)(Q:(bP->Sg->AH->Prop))x y a G:=oD x λd=>oD y λe=>f d e λz=>Q z a G
def Qu f(b:TE)c Q x a G:=b c a G (Qt f Q x)
def abC f(a b:TE):=λc d G Q=>a c d G (Qu f b c Q)
def Qv(Q:(Wv->Sg->AH->Prop))b a G:=Q (.v (.bool b)) a G
def iT(t:TB):=λc a G Q=>t c a G (Qv Q)
def Qw(g:aA->aA->(bP->Prop)->Prop)(Q:(bP->Sg->AH->Prop))e w a G:=oD w λm=>g e m λz=>Q z a G
def Qx(f:aA->aA->(bP->Prop)->Prop)g(b:TE)c Q x y a G:=oD x λd=>oD y λe=>f d e λz=>vB z (b c a G (Qw g Q e)) (Q ax a G)
def Qy f g(b:TE)a c Q x d G:=b c d G (Qx f g a c Q x)
def E9 f g(a b d:TE):=λc e G Q=>a c e G (Qy f g b d c Q)
def Qz(b:TB)c Q x a G:=vB x (b c a G Q) (Q ax a G)
def rJ(a b:TB):=λc d G Q=>a c d G (Qz b c Q)
def QA(b:TB)c Q x a G:=vB x (Q ao a G) (b c a G Q)
def Fa(a b:TB):=λc d G Q=>a c d G (QA b c Q)
def QB(Q:(bP->Sg->AH->Prop))x a G:=Q (!x) a G
def Fb(a:TB):=λc b G Q=>a c b G (QB Q)
def Fc(a:TE)(b:TE)c Q x d G:=vB x (a c d G Q) (b c d G Q)
def nE(t:TB)a b:=λc d G Q=>t c d G (Fc a b c Q)
def av:TL:=λc a G Q=>Q [] a G
def QC(Q:(ae Wv->Sg->AH->Prop))w ws a G:=Q (w::ws) a G
def QD(r:TL)c Q w a G:=r c a G (QC Q w)
def ai(a:TE)r:=λc b G Q=>a c b G (QD r c Q)
def QE(Q:(Wv->Sg->AH->Prop))ws b G:=rI ws λa=>vB (fA a.length 1000) (Q (.v (.d (.tuple a))) b G) aC
def aT(a:TL):=λc b G Q=>a c b G (QE Q)
def QF(Q:(Wv->Sg->AH->Prop))ws b G:=rI ws λa=>vB (fA a.length 1000) (Q (.v (.d (.list a))) b G) aC
def im(a:TL):=λc b G Q=>a c b G (QF Q)
def QG d e(k:aA->Prop):=dI d λm=>dI e λn=>k (.int (m+n))
def QH d e(k:aA->Prop):=dI d λm=>dI e λn=>k (.int (m-n))
def QI d e(k:aA->Prop):=dI d λm=>dI e λn=>IntMulOk m n/\k (.int (m*n))
def QJ d e(k:aA->Prop):=dI d λm=>dI e λn=>0<=n/\n<=1000000/\m.natAbs<2^64/\k (.int (m^n.toNat))
def QK d e(k:aA->Prop):=dI d λm=>dI e λn=>k (.int (Fd m n))
def QL d e(k:aA->Prop):=dS d λm=>dS e λn=>m.length+n.length<=1000000/\k (.str (m++n))
def QM d e(k:aA->Prop):=dL d λm=>dL e λn=>m.length+n.length<=1000000/\k (.list (m++n))
def QN d e(k:aA->Prop):=dT d λm=>dT e λn=>m.length+n.length<=1000000/\k (.tuple (m++n))
def Fe d e(k:bP->Prop):=dI d λm=>dI e λn=>k (decide (m<n))
def Ff d e(k:bP->Prop):=dI d λm=>dI e λn=>k (decide (m<=n))
def Fg d e(k:bP->Prop):=dI d λm=>dI e λn=>k (decide (n<m))
def Fh d e(k:bP->Prop):=dI d λm=>dI e λn=>k (decide (n<=m))
open Classical in
def jA d e(k:bP->Prop):=bE 60 d/\bE 60 e/\k (decide (d=e))
open Classical in
def jB d e(k:bP->Prop):=bE 60 d/\bE 60 e/\k (!decide (d=e))
theorem mr{d e:aA}{P:af->af->Prop}(h:dI d λm=>dI e λn=>P m n):∃m n,d=.int m/\e=.int n/\P m n:=by refine au (dI.o h) ?_;rintro m rfl a;refine au (dI.o a) ?_;rintro n rfl b;exact qT m n aa rfl b
theorem rK{S:dM}{X:bR S}(hk:S.nm[k]?=ac (ac x)):dE X (ag k) (.Name x c):=λd r Z G e Q R h=>by
 have b:=p9.at X.db (dw hk);unfold ag at h;cases a:eA (ab r) k with
 |u=>rw[a] at h;exact h.elim
 |v y=>rw[a] at h;refine cQ (E8 a) ?_;rintro A B rfl l;exact fQ X.O (oF X.nd (l▸hk) aa) (KE.now R h) b.1 b.2
 |o y=>rw[a] at h;refine fa (rG a) ?_;rintro A j B rfl l;exact fQ X.O (oF X.nd (l▸hk) aa) (.mk _ Z G (.s k) R aa ⟨j,y,A,B,aa,l,aa⟩ h) b.1 b.2
abbrev CF{S}(X:bR S)(f:aA->aA->(bP->Prop)->Prop)b:=∀{d e k},f d e k->∀{a}{Q:V->AH->Prop},(∀z,k z->Q (.bool z) a)->fq X.c b (.d d) (.d e) a Q
theorem QO:CF X Fe .Lt:=λh Y Y q=>by refine dD (mr h) ?_;rintro m n rfl rfl a;exact Lo (q _ a)
theorem QP:CF X Ff .LtE:=λh Y Y q=>by refine dD (mr h) ?_;rintro m n rfl rfl a;exact LB (q _ a)
theorem QQ:CF X Fg .Gt:=λh Y Y q=>by refine dD (mr h) ?_;rintro m n rfl rfl a;exact LC (q _ a)
theorem QR:CF X Fh .GtE:=λh Y Y q=>by refine dD (mr h) ?_;rintro m n rfl rfl a;exact LD (q _ a)
theorem Fi(a:cA X.c n):CF X jA .Eq:=λh Y Y q=>Dc a h.1 h.2.1 (q _ h.2.2)
theorem Fj(a:cA X.c n):CF X jB .NotEq:=λh Y Y q=>Dd a h.1 h.2.1 (q _ h.2.2)
theorem vB.t(h:vB z a b)(e:z=ao):a:=by rw[e] at h;exact h
theorem vB.f(h:vB z a b)(e:z=ax):b:=by rw[e] at h;exact h
theorem QS(b:rF X a l):rF X (Fb a) (.UnaryOp .Not l c):=λg r Z G i Q R h=>Lr (mo b R h (λv j k m d e f h=>KB.up f (KB.now (Q:=Q) e h)) aa)
theorem oG(h:vB (fA n 1000) P aC):n<=1000/\P:=by
 cases e:fA n 1000 with
 |true=>rw[e] at h;exact aF (lV e) h
 |false=>rw[e] at h;exact h.elim
theorem QT(h:kI X t b):dE X (aT t) (.Tuple b k c):=λm r Z G n Q R d=>Lz (iX h R d (λvs o p q e ws f g i h=>by refine aL (rI.o h i) ?_;rintro j l rfl a;exact cf j l (oG a).1 (KE.up g (KE.now f (oG a).2))) aa)
theorem QU(h:kI X t b):dE X (im t) (.List b c):=λl r Z G m Q R d=>yD (iX h R d (λvs n o p e ws f g i h=>by refine aL (rI.o h i) ?_;rintro j k rfl a;exact cf j k (oG a).1 (KE.up g (KE.now f (oG a).2))) aa)
section
variable(c:cq)
def FC f vs G Q:=∀a,dv G a->cF c f vs (bH G a) (nA a Q)
def FA o n G Q:=∀a,dv G a->ti c o n (bH G a) (nA a Q)
def FS a k G Q:=∀e,dv G e->∀d b,(∀a u,jt b ax (.ref a) u=ju [.ref a,u] (hY (.ref a) u))->jr c d b a k (bH G e) (nA e Q)
def FM o n f first G:=∀a,dv G a->∀k,k f first (bH G a)->nf df c o n (bH G a) k
def rL a k v G(Q:AH->Prop):=∀b,dv G b->jQ c a k v (bH G b) λe=>∃d,e=bH d b/\dv d b/\Q d
def rM e a b G(Q:bP->AH->Prop):=∀d,dv G d->fq c e a b (bH G d) (nA d λv f=>∃z,v=.bool z/\Q z f)
def j0:ae Wv->(ae V->Prop)->Prop
 |[],k=>k []
 |.v x::ws,k=>j0 ws λa=>k (x::a)
 |.s _::_,_=>aC
def oV:Wv->(V->Prop)->Prop
 |.v x,k=>k x
 |.s _,_=>aC
theorem j0.o(h:j0 ws k)(i:iW r ws vs):k vs:=by
 induction ws generalizing vs k with
 |nil=>obtain rfl:vs=[]:=i;exact h
 |cons w ws d=>
  refine dD i ?_;rintro v f rfl a b
  cases w with
  |s _=>exact h.elim
  |v x=>obtain rfl:v=x:=a;exact d (k:=λe=>k (v::e)) h b
theorem oV.o(h:oV w k)(i:fS r w v):k v:=by
 cases w with
 |s _=>exact h.elim
 |v x=>obtain rfl:v=x:=i;exact h
end
def QV f c(Q:(Wv->Sg->AH->Prop))ws a G:=j0 ws λvs=>FC c f vs G λv G=>Q (.v v) a G
def cW f(a:TL):=λc b G Q=>a c b G (QV f c Q)
def QW n c(Q:(Wv->Sg->AH->Prop))w a G:=oV w λo=>FA c o n G λv G=>Q (.v v) a G
def cw(a:TE)n:=λc b G Q=>a c b G (QW n c Q)
def QX f first c(Q:(Wv->Sg->AH->Prop))ws a G:=j0 ws λvs=>FC c f (first++vs) G λv G=>Q (.v v) a G
def QY n(a:TL)c Q w b G:=oV w λo=>∃f first,FM c o n f first G/\a c b G (QX f first c Q)
def d6(a:TE)n b:=λc d G Q=>a c d G (QY n b c Q)
def QZ a c(Q:(bP->Sg->AH->Prop))x y b G:=oV x λx=>oV y λy=>rM c a x y G λz G=>Q z b G
def Q0 a(b:TE)c Q x d G:=b c d G (QZ a c Q x)
def abD d(a b:TE):=λc e G Q=>a c e G (Q0 d b c Q)
def jC(a:ae aA)(k:af)z:=
 0<=k/\
 k<2^63/\
 a[k.toNat]?=ac z
def jC.lo(a:jC b k z):=a.1
def jC.hi(a:jC b k z):=a.2.1
def jC.at'(a:jC b k z):=a.2.2
def eS(w:Wv)a(k:ah->O->Prop):=match w with
 |.s j=>(match eA a j with
  |.o b=>k j b
  |_=>aC)
 |.v _=>aC
def iq a k:=O.casesOn (motive:=λY=>Prop) a k (λY=>aC) (λY=>aC) (λY=>aC) (λY Y=>aC) (λY=>aC) (λY=>aC) (λY Y Y=>aC) (λY=>aC)
def dQ:aA->(ae aA->Prop)->Prop
 |.list a,k=>k a
 |.tuple a,k=>k a
 |_,_=>aC
def oK:bB a->(a->Prop)->Prop
 |some z,k=>k z
 |none,_=>aC
theorem oK.o(h:oK x k):∃z,x=ac z/\k z:=by cases x<;>first|exact bi _ aa h|exact h.elim
theorem iq.o(h:iq x k):∃z,x=.list z/\k z:=by cases x<;>first|exact bi _ aa h|exact h.elim
theorem dQ.o(h:dQ x k):∃z,(x=.list z\/x=.tuple z)/\k z:=by cases x<;>first|exact bi _ (.inl aa) h|exact bi _ (.inr aa) h|exact h.elim
theorem eS.o(h:eS w (ab r) k)(R:Re r Z p G d)(i:fS r w v):∃A j B a,r=A++.o j a::B/\v=.ref j/\d j=ac a/\k A.length a:=by
 cases w with
 |v _=>exact h.elim
 |s n=>
  unfold eS at h
  dsimp only at h
  cases b:eA (ab r) n with
  |u=>rw[b] at h;exact h.elim
  |v _=>rw[b] at h;exact h.elim
  |o a=>rw[b] at h;refine fa (rG b) λA f B c l2=>sO i λq o1 t x g l e=>aw (List.append_inj (g.symm.trans c) (l.trans l2.symm)) λY m=>?_;cases m;exact xO A f B a c e (Re.own (c▸R)) (l2▸h)
def Q2(Q:(Wv->Sg->AH->Prop))x a G:=eS x a λY c=>iq c λb=>∃d z,b=d++[z]/\b.length<=1000000/\Q (.v (.d z)) a G
def qc(a:TE):=λc b G Q=>a c b G (Q2 Q)
abbrev tW b:=∀a u,jt b ax (.ref a) u=ju [.ref a,u] (hY (.ref a) u)
theorem wu(R:Re r Z c G e)(h:nA (Z++c) P v b)(k:∀a,P v a->Q (.v v) (ab r) a):KE r c Q v b:=by refine au (R.lft h) λa d q=>KE.now d (k a q)
theorem Fk(h:jr A d f a b G Q)(k:∀v g,Q v g->n v g):jr A d f a b G n:=λl s u v S i j=>by refine aM (h l s u v S i j) λc w p=>p _ λo m g x e r t i q=>(.mk o m g x e r t i (k _ _ q))
theorem Fl(e:tW a)(f:d=.list g\/d=.tuple g)(b:jC g n z)(q:Q (.d z) G):jr A c a (.d d) (.int n) G Q:=by
 refine aB f ?_ ?_<;>clear f<;>rintro rfl
 ·exact LM b.lo b.hi b.at' q λY Y=>e _ _
 ·exact LN b.lo b.hi b.at' q λY Y=>e _ _
theorem Fm{a:ae aA}{k:ah}{z:aA}(h:a[k]?=ac z)(hk:k<=1000000):jC a k z:=⟨bl k,by exact ay [_] 0x11f080e0e0e0e0e0e0e0e0e0e0e0e0e0e8e010c084e2e4efe0 aa (bD.2 hk),by rw[lA];exact h⟩
theorem Q3(h:ti A o n G Q)(k:∀v a,Q v a->f v a):ti A o n G f:=λb s u S i=>by refine aM (h b s u S i) λc m p=>p _ λg d a x e j l i q=>(.mk g d a x e j l i (k _ _ q))
abbrev Q4 a b c d:=bN (.Attribute a b c) d=(do
 let o<-bN a d
 eE c.atName
 let r<-gq [o] (yt o b ao)
 C5 a o r
 bg r)
theorem zW(d:Q4 l n b X.env)(e:dE X a l):dE X (cw a n) (.Attribute l n b):=λj r Z G k Q R h=>by refine yA (ci e R h (λv m o p f x c g i h=>?_) aa) d;have h:=oV.o h i _ c.f;rw[<-c.e] at h;exact Q3 h λY Y q=>KE.up g (wu c q λY q=>q)
theorem tX(R:Re r Z b G d)(h:FC c f vs G P)(k:∀v a,P v a->Q (.v v) (ab r) a):
 cF c f vs d (KE r b Q):=by have h:=h _ R.f;rw[<-R.e] at h;exact p0 h λY Y q=>wu R q λY=>k _ _
theorem wv(h:cF A f vs a (KE b c Q))(d:bF b=bF r):cF A f vs a (KE r c Q):=p0 h λY Y q=>KE.up d q
abbrev TF:=cq->ae Wv->Sg->AH->(Wv->Sg->AH->Prop)->Prop
def Q5(f:TF)c Q ws a G:=f c ws a G Q
def bY f(a:TL):=λc b G Q=>a c b G (Q5 f c Q)
abbrev BF{S}(X:bR S)(f:TF)u:=∀{ws vs a r Z G b Q},Re r Z a G b->iW r ws vs->f X.c ws (ab r) G Q->cF X.c u vs b (KE r a Q)
theorem Fn(h:FM c o n f first G)(F:dv G a)(e:b=bH G a)(q:k f first b):nf df c o n b k:=by subst e;exact h a F k q
theorem Fo{X:bR S}(n:bN (.Call (.Attribute o b k) (e::d) [] c) X.env=(do
 let l<-bN o X.env
 eE k.atName
 let(f,first)<-gq [l] (ma l b D)
 lp c f first (dY c (bM (e::d) X.env)) []))
 (p:bM (e::d) X.env=(ax,bN e X.env)::bM d X.env)(s:(dY c (bM d X.env)).any (·.1)=ax)(u:dE X a o)(x:kI X t (e::d)):dE X (d6 a b t) (.Call (.Attribute o b k) (e::d) [] c):=λE r Z G H Q R h=>
 tn X.hB (ci u R h (λv I J L y w g m i h=>by refine cQ (oV.o h i) λf first z h=>Fn z g.f g.e (iX x g h (λvs M N T A ws B j C h=>wv (tX B (j0.o h C) λY Y q=>q) (j.trans m)) (b5 m))) aa) n p s
theorem Fp{X:bR S}(j:bN (.Call (.Attribute o b e) [] [] c) X.env=(do
 let g<-bN o X.env
 eE e.atName
 let(f,first)<-gq [g] (ma g b t)
 lp c f first (dY c (bM [] X.env)) []))
 (k:dE X a o):dE X (d6 a b av) (.Call (.Attribute o b e) [] [] c):=λu r Z G x Q R h=>
 C1 X.hB (ci k R h (λv l y m n w d p i h=>by
  refine cQ (oV.o h i) λf first s h=>?_
  have h:FC X.c f (first++[]) m λv G=>Q (.v v) (ab l) G:=h;rw[c8] at h;exact Fn s d.f d.e (wv (tX d h λY Y q=>q) p)) aa) j
def o0(ws:ae Wv)k:=qd (motive:=λY=>Prop) ws k λY Y=>aC
def oC ws(k:Wv->ae Wv->Prop):=qd (motive:=λY=>Prop) ws aC k
def o1 ws(k:Wv->Prop):=oC ws λw ws=>o0 ws (k w)
def o2 ws(k:Wv->Wv->Prop):=oC ws λw ws=>o1 ws (k w)
def oH:TF:=λc ws f G Q=>o2 ws λa b=>oD a λd=>dI d λm=>oD b λe=>dI e λn=>Q (.v (.int (if n<m then n else m))) f G
def ww:TF:=λc ws e G Q=>o1 ws λa=>oD a λd=>dL d λf=>∃b:ae af,f=b.map .int/\0<b.length/\∀m,m∈b->(∀a∈b,m<=a)->Q (.v (.int m)) e G
def kJ:TF:=λc ws b G Q=>o1 ws λa=>oD a λd=>dI d λm=>Q (.v (.rng 0 m 1)) b G
def zX:TF:=λc ws f G Q=>o2 ws λa b=>oD a λd=>dI d λm=>oD b λe=>dI e λn=>Q (.v (.rng m n 1)) f G
def o3 ws(k:Wv->Wv->Wv->Prop):=oC ws λw ws=>o2 ws (k w)
def qe:TF:=λc ws f G Q=>o3 ws λa b e=>oD a λd=>dI d λm=>oD b λd=>dI d λn=>oD e λd=>dI d λs=>s≠0/\s.natAbs<1073741824/\Q (.v (.rng m n s)) f G
def Q6:TF:=λc ws a G Q=>o1 ws λw=>eS w a λY d=>iq d λb=>b.length<=1000000/\Q (.v (.d (.tuple b))) a G
def Q7:TF:=λc ws b G Q=>o1 ws λw=>oD w λd=>dL d λa=>a.length<=1000000/\Q (.v (.d (.tuple a))) b G
def zY:O->(ae (af×aA)->Prop)->Prop
 |.itab a,k=>k a
 |_,_=>aC
theorem zY.o(h:zY x k):∃z,x=.itab z/\k z:=by cases x<;>first|exact bi _ aa h|exact h.elim
def Q8:TF:=λc ws b G Q=>o1 ws λw=>eS w b λY e=>zY e λd=>d.length<64/\∀a:ae af,a.Perm (d.map (·.1))->a.Pairwise (·<=·)->Q (.v (.d (.list (a.map .int)))) b G
def Q9:TF:=λc ws a G Q=>o1 ws λw=>oD w λd=>dL d λb=>∃x,b=[x]/\Q (.v (.d (.list [x]))) a G
def qf:TF:=λc ws a G Q=>o1 ws λw=>oD w λd=>dI d λn=>n.natAbs<10^4300/\Q (.v (.str (aD (mg n)))) a G
theorem o0.o(h:o0 ws k)(i:iW r ws vs):vs=[]/\k:=by
 cases ws with
 |nil=>exact aF i h
 |cons=>exact h.elim
theorem oC.o(h:oC ws k)(i:iW r ws vs):∃w v c d,vs=v::d/\fS r w v/\iW r c d/\k w c:=by
 cases ws with
 |nil=>exact h.elim
 |cons w ws=>refine dD i λv d e a b=>xO w v ws d e a b h
theorem o1.o(h:o1 ws k)(i:iW r ws vs):∃w v,vs=[v]/\fS r w v/\k w:=by refine iK (oC.o h i) ?_;rintro w v c d rfl a b h;refine aw (o0.o h b) ?_;rintro rfl h;exact qT w v aa a h
theorem o2.o(h:o2 ws k)(i:iW r ws vs):∃w v c d,vs=[v,d]/\fS r w v/\fS r c d/\k w c:=by refine iK (oC.o h i) ?_;rintro w v e g rfl a b h;refine dD (o1.o h b) ?_;rintro c d rfl f h;exact xO w v c d aa a f h
theorem o3.o(h:o3 ws k)(i:iW r ws vs):∃w v c d e f,vs=[v,d,f]/\fS r w v/\fS r c d/\fS r e f/\k w c e:=by refine iK (oC.o h i) ?_;rintro w v g m rfl a b h;refine iK (o2.o h b) ?_;rintro c d e f rfl j l h;exact pD w v c d e f aa a j l h
theorem Ra:BF X qe (.type "range"):=λR c h=>by refine n7 (o3.o h c) ?_;rintro w v r t u x rfl i e f g;refine au (oD.o g i) ?_;rintro d rfl j;refine au (dI.o j) ?_;rintro m rfl k;refine au (oD.o k e) ?_;rintro d rfl l;refine au (dI.o l) ?_;rintro n rfl o;refine au (oD.o o f) ?_;rintro d rfl p;refine cP (dI.o p) ?_;rintro s rfl a b q;exact Nx a b (KE.now R q)
theorem Rb:BF X oH (.builtin "min"):=λR a h=>by refine iK (o2.o h a) ?_;rintro w v k l rfl i b c;refine au (oD.o c i) ?_;rintro d rfl e;refine au (dI.o e) ?_;rintro m rfl f;refine au (oD.o f b) ?_;rintro d rfl g;refine au (dI.o g) ?_;rintro n rfl j;exact Nq X.hh (KE.now R j)
theorem Rc:BF X ww (.builtin "min"):=λR e h=>by refine dD (o1.o h e) ?_;rintro w v rfl i f;refine au (oD.o f i) ?_;rintro d rfl g;refine au (dL.o g) ?_;rintro k rfl c;refine aL c ?_;rintro l rfl j q;exact Nu X.hh j λm a b=>KE.now R (q m a b)
theorem Rg:BF X kJ (.type "range"):=λR a h=>by refine dD (o1.o h a) ?_;rintro w v rfl i b;refine au (oD.o b i) ?_;rintro d rfl c;refine au (dI.o c) ?_;rintro m rfl e;exact Nv (KE.now R e)
theorem Rh:BF X zX (.type "range"):=λR a h=>by refine iK (o2.o h a) ?_;rintro w v k l rfl i b c;refine au (oD.o c i) ?_;rintro d rfl e;refine au (dI.o e) ?_;rintro m rfl f;refine au (oD.o f b) ?_;rintro d rfl g;refine au (dI.o g) ?_;rintro n rfl j;exact Nw (KE.now R j)
theorem Ri:BF X Q6 (.type "tuple"):=λR d h=>by refine dD (o1.o h d) ?_;rintro w v rfl i f;refine iK (eS.o f R i) ?_;rintro A j B y Y rfl g l;refine aL (iq.o l) ?_;rintro z rfl m q;exact(λo s C S i=>by refine au i.inv1 ?_;rintro u rfl p;obtain rfl:u=.ref _:=p;refine cQ (S.objs _ _ g) λvs n e r=>?_;have a:=r.length;rw[d9] at a;refine Rj ⟨_,e,aa,_,aa⟩ (λD k=>?_) (by rw[eF];exact aj [_,_] 0x10f080e0e0e0e0e1e112c0110c084e2e4efe0 aa a m);refine aw (S.more k) λt b=>aw (t.push {cls:=.type "tuple",data:=.seq vs}) λx c=>(.mk _ s.toks _ (.d (.tuple _)) aa x (b.trans c) (Rd.tup (fc _ aa) (bb.ext S (b.trans c).any r)) (KE.now R q)))
theorem Rk:BF X Q7 (.type "tuple"):=λR j h=>by refine dD (o1.o h j) ?_;rintro w v rfl i l;refine au (oD.o l i) ?_;rintro d rfl m;refine aL (dL.o m) ?_;rintro y rfl o q;exact(λp s z S i=>by refine ji i λA t=>jh t λa vs n e g r=>?_;have b:=r.length;rw[d9] at b;refine Rj ⟨_,e,aa,_,aa⟩ (λB k=>?_) (by rw[eF];exact aj [_,_] 0x10f080e0e0e0e0e1e112c0110c084e2e4efe0 aa b o);refine aw (S.more k) λu c=>aw (u.push {cls:=.type "tuple",data:=.seq vs}) λx f=>(.mk _ s.toks _ (.d (.tuple _)) aa x (c.trans f) (Rd.tup (fc _ aa) (bb.ext S (c.trans f).any r)) (KE.now R q)))
theorem Rl:BF X Q8 (.builtin "sorted"):=λR c h=>by refine dD (o1.o h c) ?_;rintro w v rfl i d;refine iK (eS.o d R i) ?_;rintro A j B l Y rfl e f;refine aL (zY.o f) ?_;rintro m rfl g q;exact Oj X.hh e g λk a b=>KE.now R (q k a b)
theorem Rm:BF X Q9 (.builtin "sorted"):=λR b h=>by refine dD (o1.o h b) ?_;rintro w v rfl i c;refine au (oD.o c i) ?_;rintro d rfl e;refine au (dL.o e) ?_;rintro f rfl a;refine au a ?_;rintro x rfl q;exact Oi (KE.now R q)
theorem Rn:BF X qf (.type "str"):=λR a h=>by refine dD (o1.o h a) ?_;rintro w v rfl i b;refine au (oD.o b i) ?_;rintro d rfl c;refine aL (dI.o c) ?_;rintro n rfl e q;exact NI X.hB X.hh e (KE.now R q)
abbrev TM:=ae aA->ae Wv->(V->ae aA->Prop)->Prop
def eT:TM:=λa ws k=>o1 ws λw=>oD w λd=>a.length<=1000000/\k .none (a++[d])
def zZ:TM:=λb ws k=>o0 ws (∃a z,b=a++[z]/\a.length<=1000000/\k (.d z) a)
def Fq:TM:=λa ws k=>o1 ws λw=>oD w λd=>dI d λn=>0<=n/\a.length<=1000000/\∃z,a[n.toNat]?=ac z/\k (.d z) (a.eraseIdx n.toNat)
def Fs:TM:=λa ws k=>o0 ws (a.length<=1000000/\k .none a.reverse)
def Ft:TM:=λa ws k=>o1 ws λw=>oD w λd=>dL d λb=>a.length+b.length<=1000000/\k .none (a++b)
def dO(f:TM)(k:ah)(d:TL):TE:=λc a G Q=>eS (.s k) a λY b=>iq b λY=>d c a G λws a G=>eS (.s k) a λY b=>iq b λe=>f e ws λv g=>Q (.v v) (ef a k (.o (.list g))) G
abbrev MF{S}(X:bR S)(f:TM)a id:=Slot "list" a id/\typeOf (.builtin id)=bg (.type "method_descriptor")/\em df (.builtin id)=ao/\
 ∀{c ws k vs r b j}{Q},f c ws k->iW r ws vs->b j=ac (.list c)->(∀v d,k v d->Q v (aE b j (.list d)))->cF X.c (.builtin id) (.ref j::vs) b Q
theorem Fu(h:bF g=bF r)(e:r=A++.o j o::B)(hk:eS (.s A.length) (ab g) k):∃b i c,g=b++.o j i::c/\b.length=A.length/\k A.length i:=by
 subst e;refine fa (E7 h) ?_;rintro b d c rfl f;refine pB b d c aa f ?_;have:eA (ab (b++RV.o j d::c)) A.length=.o d:=by
  rw[<-f];clear hk h f;induction b with
  |nil=>rfl
  |cons a b l=>exact l
 unfold eS at hk;dsimp only at hk;rw[this] at hk;exact hk
theorem qg(h:A.length=k)(y):ef (ab (A++x::B)) k y.ab=ab (A++y::B):=(by
 subst h;induction A with
 |nil=>rfl
 |cons z A a=>exact bA (z.ab::·) a)
theorem z0(o a):bF (A++.o j o::B)=bF (A++.o j a::B):=by rw[bF,bF,ck,ck];rfl
theorem Fv{id:jp}(n:MF X f d id)(p:r=A++.o j o::B)(hk:A.length=k)(e:Re a z s g b)(i:bF a=bF r)(t:iW a ws vs)
 (h:eS (.s k) (ab a) λY l=>iq l λm=>f m ws λv c=>Q (.v v) (ef (ab a) k (.o (.list c))) g):cF X.c (.builtin id) (.ref j::vs) b (KE r s Q):=by subst hk;refine dz (Fu i p h) ?_;rintro C l D rfl u h;refine au (iq.o h) ?_;rintro m rfl w;refine n.2.2.2 w t (Re.own e) λv c q=>aK (e.set (.list c)) λx y=>(.mk _ x g (.v v) y ((z0 _ _).trans i) aa (by rw[<-qg u];exact q))
theorem Ro{X:bR S}{id:jp}(g:MF X f a id)(hk:S.nm[k]?=ac (ac x))
 (w:bN (.Call (.Attribute (.Name x n) a p) (e::d) [] b) X.env=(do
  let q<-bN (.Name x n) X.env
  eE p.atName
  let(f,first)<-gq [q] (ma q a L)
  lp b f first (dY b (bM (e::d) X.env)) []))
 (y:bM (e::d) X.env=(ax,bN e X.env)::bM d X.env)(z:(dY b (bM d X.env)).any (·.1)=ax)(C:kI X t (e::d)):dE X (dO f k t) (.Call (.Attribute (.Name x n) a p) (e::d) [] b):=λM r Z G N Q R h=>by
 have s:=p9.at X.db (dw hk);have c:=h;unfold dO eS at c;dsimp only at c;cases i:eA (ab r) k with
 |u=>rw[i] at c;exact c.elim
 |v _=>rw[i] at c;exact c.elim
 |o T=>rw[i] at c;refine fa (rG i) λA j B m l=>au (iq.o c) ?_;rintro U rfl D;refine tn X.hB (fQ X.O (by rw[m];exact oF X.nd (l▸hk) aa) ?_ s.1 s.2) w y z;refine ri g.1 g.2.1 (Re.own (m▸R)) g.2.2.1<|iX C R D (λvs W Y G1 E ws H I J h=>Fv g m l H I J h) aa
theorem Rp{X:bR S}{id:jp}(d:MF X f a id)(hk:S.nm[k]?=ac (ac x))
 (q:bN (.Call (.Attribute (.Name x i) a m) [] [] c) X.env=(do
  let n<-bN (.Name x i) X.env
  eE m.atName
  let(f,first)<-gq [n] (ma n a t)
  lp c f first (dY c (bM [] X.env)) [])):dE X (dO f k av) (.Call (.Attribute (.Name x i) a m) [] [] c):=λw r Z G y Q R h=>by
 have p:=p9.at X.db (dw hk)
 have b:=h
 unfold dO eS at b
 dsimp only at b
 cases e:eA (ab r) k with
 |u=>rw[e] at b;exact b.elim
 |v _=>rw[e] at b;exact b.elim
 |o z=>rw[e] at b;refine fa (rG e) λA j B g l=>au (iq.o b) ?_;rintro C rfl s;refine C1 X.hB (fQ X.O (by rw[g];exact oF X.nd (l▸hk) aa) ?_ p.1 p.2) q;exact ri d.1 d.2.1 (Re.own (g▸R)) d.2.2.1 (Fv (ws:=[]) (vs:=[]) d g l R aa rfl s)
def wS a k y(P:Sg->Prop):=vB (rN k a.length) (P (ef a k y)) aC
def dN:aA->Prop->Prop
 |.none,k=>k
 |_,_=>aC
abbrev gZ:=cq->Sg->AH->(O->Sg->AH->Prop)->Prop
abbrev TI:=cq->Sg->AH->(ae V->Sg->AH->Prop)->Prop
abbrev fv:=V->Sg->(Sg->Prop)->Prop
def aH:TS:=λc a G N Y Y=>N a G
def z7(b:TS)c N C R a G:=b c a G N C R
def az(a b:TS):=λc d G N C R=>a c d G (z7 b c N C R) C R
def Fw k(N:(Sg->AH->Prop))w a G:=oV w λx=>wS a k (.v x) λa=>N a G
def bS(k:ah)(a:TE):TS:=λc b G N Y Y=>a c b G (Fw k N)
def Rq k(N:(Sg->AH->Prop))b a G:=wS a k (.o b) λa=>N a G
def eu(k:ah)(f:gZ):TS:=λc a G N Y Y=>f c a G (Rq k N)
def Rr(N:(Sg->AH->Prop))w a G:=oD w λd=>dN d (N a G)
def dR(a:TE):TS:=λc b G N Y Y=>a c b G (Rr N)
def Rs(R:(V->AH->Prop))w(a:Sg)G:=oV w λx=>R x G
def cD(a:TE):TS:=λc b G Y Y R=>a c b G (Rs R)
def Fx(a:TS)(b:TS)c N C R z d G:=vB z (a c d G N C R) (b c d G N C R)
def cE(t:TB)a b:=λc d G N C R=>t c d G (Fx a b c N C R)
def wx:TS:=λc a G Y C Y=>C a G
def kK:TS:=λY Y Y Y Y Y=>aC
def wz(F:Sg->AH->(Sg->AH->Prop)->Prop)N a G:=F a G N
def Ru(a:Sg->AH->(Sg->AH->Prop)->Prop)G K b:=a b G K
def dj(st:fv)(b:Sg->AH->(Sg->AH->Prop)->Prop):ae V->Sg->AH->(Sg->AH->Prop)->Prop
 |[],a,G,N=>N a G
 |x::r,a,G,N=>st x a (Ru b G (wz (dj st b r) N))
def dP.b(a:TS)c R d G N:=a c d G N N R
def Rv st a c N R d e G:=dj st (dP.b a c R) d e G N
def dP(st:fv)(a:TI)(b:TS):TS:=λc d G N Y R=>a c d G (Rv st b c N R)
def tY.l(I:ah->Sg->AH->Prop)n a G:=∃m,m<n/\I m a G
def wA I n(d:TS)c(N:(Sg->AH->Prop))R b a G:=vB b (d c a G (tY.l I n) (tY.l I n) R) (N a G)
def tY(t:TB)(b:TS):TS:=λc a G N Y R=>∃I:ah->Sg->AH->Prop,(∃n,I n a G)/\∀n a G,I n a G->t c a G (wA I n b c N R)
def bK k:=λx a P=>wS a k (.v x) P
def l2:ae V->(V->V->Prop)->Prop
 |[y,z],k=>k y z
 |_,_=>aC
def l3:ae V->(V->V->V->Prop)->Prop
 |[y,z,u],k=>k y z u
 |_,_=>aC
def cV b c:=λx a P=>oK (ly x) λd=>l2 d λy z=>wS a b (.v y) λa=>wS a c (.v z) P
def ms b c d:=λx a P=>oK (ly x) λe=>l3 e λy z u=>wS a b (.v y) λa=>wS a c (.v z) λa=>wS a d (.v u) P
def Rw(st:fv)(N:(Sg->AH->Prop))w a G:=oV w λx=>st x a λa=>N a G
def mu(st:fv)(a:TE):TS:=λc b G N Y Y=>a c b G (Rw st N)
def Rx(Q:(ae V->Sg->AH->Prop))w a G:=oD w λd=>dQ d λb=>Q (b.map V.d) a G
def dk(a:TE):=λc b G Q=>a c b G (Rx Q)
noncomputable def iZ a b:=rO (motive:=λY=>ah->ae V) (λY=>[]) (λn c i=>.int i::(c (i+1))) b a
theorem iZ.q2:iZ (i) (n+1)=(.int i::iZ (i+1) n):=aa
def z8 w k:=Wv.casesOn (motive:=λY=>Prop) w (λx=>V.casesOn (motive_1:=λY=>Prop) x (λY=>aC) (λY=>aC) k (λY=>aC)) (λY=>aC)
def Ry(Q:(ae V->Sg->AH->Prop))w d G:=z8 w λa b c=>a=0/\c=1/\∃n:ah,b=n/\n<=1000000/\Q (iZ 0 n) d G
def mv(a:TE):=λc b G Q=>a c b G (Ry Q)
def Rz(Q:(ae V->Sg->AH->Prop))w d G:=z8 w λa b c=>∃n:ah,kC a b c=ao/\ie a b c=(n:af)/\Q ((cC n).map λ(i:ah)=>V.int (a+(i:af)*c)) d G
def qh(a:TE):=λc b G Q=>a c b G (Rz Q)
def Fy(x:LV)k(t:TS)c a G N C R:=match x with
 |.o b=>iq b λd=>t c (ef a k (.v (.d (.list d)))) G N C R
 |_=>t c a G N C R
def gj k t:=λc a G N C R=>Fy (eA a k) k t c a G N C R
def tZ k(t:TS):=λc b G N C R=>∃a d,eA b k=.v (.ref a)/\G a=ac (.list d)/\t c (ef b k (.v (.d (.list d)))) (cL G a) N C R
def qi k(t:TS):=λc a G N C R=>eS (.s k) a λY b=>∀j,G j=ak->t c (ef a k (.v (.ref j))) (aE G j b) N C R
theorem wS.o(h:wS (ab r) k y.ab P):∃A x B,r=A++x::B/\A.length=k/\P (ab (A++y::B)):=by
 unfold wS at h;cases e:rN k (ab r).length with
 |false=>rw[e] at h;exact h.elim
 |true=>
  rw[e] at h;have hk:k<r.length:=by have:=lV e;rw[aI] at this;exact this
  have a:r=r.take k++r[k]::r.drop (k+1):=by rw[<-vU hk,Fz]
  have b:(r.take k).length=k:=by rw[v8];exact bQ (aj [_,_] 72762862608 aa (qj (aj [_,_] 72762858512 aa hk:k<=r.length))) (aj [_,_] 72747146256 aa (qj (aj [_,_] 72762858512 aa hk:k<=r.length)))
  refine pB _ _ _ a b ?_;rw[<-qg (x:=r[k]) b,<-a];exact h
theorem fJ(g:eR d=ao):∀{r:ae RV},d5 (lo d r) (lo d r):=by
 induction d with
 |nil=>intro r p b;cases r<;>cases b
 |cons m d h=>
  intro r
  cases r with
  |nil=>intro p b;cases m<;>cases b
  |cons a r=>cases m with
   |none=>have:=@h g r;cases a<;>exact this
   |some m=>
    have g:=eV.mp (show(!d.contains (ac m)&&eR d)=ao from g)
    have i:∀p∈lo d r,p.1≠m:=λp b e=>by have:=oq.mpr (wp (n:=p.1) (x:=p.2) b);rw[e] at this;have c:=g.1;rw[this] at c;cases c
    have f:∀v,d5 ((m,v)::lo d r) ((m,v)::lo d r):=λv p b=>by
     refine aB (bj.mp b) ?_ (λb=>?_);rintro rfl
     ·exact ni
     ·rw[jz (i p b)];exact h g.2 p b
    cases a with
    |u=>exact h g.2
    |v z=>exact f z
    |o j z=>exact f _
theorem lF(f:eR b=ao)(h:b[A.length]?=ac (ac n))(e:y.val=ac v):d5 (lo b (A++y::B)) ((n,v)::lo b (A++x::B)):=by
 induction A generalizing b with
 |nil=>
  cases b with
  |nil=>cases h
  |cons m b=>
   cases h;have f:=eV.mp (show(!b.contains (ac n)&&eR b)=ao from f);intro p d;have d:p∈(n,v)::lo b B:=by cases y<;>cases e<;>exact d
   refine aB (bj.mp d) ?_ (λd=>?_);rintro rfl
   ·exact ni
   ·have l:p.1≠n:=λe=>by have:=oq.mpr (wp (n:=p.1) (x:=p.2) d);rw[e] at this;have c:=f.1;rw[this] at c;cases c
    rw[jz l];have:=fJ f.2 p d;cases x with
    |u=>exact this
    |v z=>exact(jz l).trans this
    |o j z=>exact(jz l).trans this
 |cons a A i=>
  cases b with
  |nil=>cases h
  |cons m b=>
   have r:b[A.length]?=ac (ac n):=by simpa using h
   clear h
   cases m with
   |none=>have:=i (b:=b) f r;cases a<;>exact this
   |some m=>
    have f:=eV.mp (show(!b.contains (ac m)&&eR b)=ao from f)
    have k:∀q:aN,ac q∈b->q≠m:=λq s e=>by have:=oq.mpr s;rw[e] at this;have c:=f.1;rw[this] at c;cases c
    have i:=i f.2 r
    have g:∀z,d5 ((m,z)::lo b (A++y::B)) ((n,v)::(m,z)::lo b (A++x::B)):=λz p d=>by
     refine aB (bj.mp d) ?_ (λd=>?_);rintro rfl
     ·rw[jz (k n (dw r)).symm];exact ni
     ·have q:=i p d;have t:=k p.1 (wp (n:=p.1) (x:=p.2) d);by_cases c:p.1=n
      ·rw[ez,jq.mpr c] at q⊢;exact q
      ·rw[jz c] at q⊢;rw[jz t];exact q
    cases a with
    |u=>exact i
    |v z=>exact g z
    |o j z=>exact g _
theorem d5.trans{c l2 l3:Ls}(a:d5 c l2)(b:d5 l2 l3):d5 c l3:=λp d=>b.lookup (a p d)
theorem FD:jY X a aH []:=λr Z G b N C R Re h=>vM (.mk r Z G Re (fJ X.nd) h)
theorem FE{st:fb}(e:qa X d s st)(f:jY X d t b):jY X d (az s t) (st::b):=λr Z G g N C R Re h=>by refine nj (XV.mono (e r Z G g _ C R Re h) (λl a k=>?_) (λY Y k=>k) λY Y k=>k);exact k _ λi j m c n q=>pS n (f i j m a N C R c q)
theorem FF{S:dM}{X:bR S}(hk:S.nm[k]?=ac (ac n))(c:gu S.names n=ao)(d:gf e (ac (.Name n p)) b.line X.env=bg ax)(f:dE X a e):
 ik X (bS k a) (.Assign [.Name n p] e b):=λt r Z G u N C R Re h=>by refine vN X.O (X.bd n c) (ci f Re h (λv z g j l w m o i h=>?_) aa) d;refine dz (wS.o (y:=.v v) (oV.o h i)) ?_;rintro A x B rfl s q;exact(.mk _ g j (m.val aa) (by rw[<-b5 o];exact lF X.nd (by rw[s];exact hk) aa) q)
theorem RB(f:gf e ak b.line X.env=bg ax)(g:dE X a e):ik X (dR a) (.Expr e b):=λp r Z G q N C R Re h=>by
 refine vO X.O (ci g Re h (λv j k l m w n o i h=>?_) aa) f;refine au (oD.o h i) ?_;rintro d rfl c;cases d with
 |none=>exact aF aa (.mk j k l n (by rw[<-b5 o];exact fJ X.nd) c)
 |_=>exact c.elim
theorem RC(h:C l G):XV A a b (.Continue c) l G N C d:=λs S R=>by exact λY Y Y=>(PF.mk (f:=.cont) (N:=N) (R:=d) s.heap s.toks G aa S fY ⟨l,R,h⟩)
theorem FG:ik X wx (.Continue a):=λb r Z G c N C R Re h=>RC (.mk r Z G Re (fJ X.nd) h)
theorem FH:ik X kK e:=λa r Z G b N C R Re h=>h.elim
theorem z9{k:ah}{K:ah->O->Prop}(h:eS (.s k) (ab r) K):∃A j B a,r=A++.o j a::B/\A.length=k/\K k a:=by
 unfold eS at h;dsimp only at h;cases b:eA (ab r) k with
 |u=>rw[b] at h;exact h.elim
 |v _=>rw[b] at h;exact h.elim
 |o a=>rw[b] at h;refine fa (rG b) λA j B e l=>(⟨A,j,B,a,e,l,h⟩)
theorem FI{S:dM}{X:bR S}{f:OL}(hk:S.nm[k]?=ac (ac n))(c:jY X f t b):jY X f (gj k t) b:=λr Z G g N C R Re h=>by
 have h:Fy (eA (ab r) k) k t X.c (ab r) G N C R:=h;cases a:eA (ab r) k with
 |u=>rw[a] at h;exact c r Z G g N C R Re h
 |v _=>rw[a] at h;exact c r Z G g N C R Re h
 |o s=>rw[a] at h;refine fa (rG a) ?_;rintro A j B rfl d;refine au (iq.o h) ?_;rintro e rfl i;refine aK (Re.frz (y:=.v (.d (.list e))) aa) λl m=>Dv Re.own (Du (x:=n) (oF X.nd (by rw[d];exact hk) aa) λp q=>.inl (fJ X.nd p q)) (pS (lF X.nd (by rw[d];exact hk) aa) (c _ l G _ N C R m (by rw[<-qg (x:=.o j (.list e)) d];exact i:t X.c (ab (A++.v (.d (.list e))::B)) G N C R)))
theorem Re.xpo(R:Re (A++.o j a::B) Z c G g):∃k,Re (A++.v (.ref j)::B) k c (aE G j a) g/\G j=ak:=by
 refine fz (zU (R.i (j,a) (eY.mpr (.inr (.inl aP))))) ?_;rintro P Y rfl;refine aw (wn (by have:=R.f;rw[cs] at this;exact this:dv G (P++(j,a)::(Y++c)))) λf e=>?_;have d:bH G (P++(Y++c)) j=ak:=by rw[e,n9]
 refine aw (zS f d a) λW l=>aw (kH f (oE d).2 a) λo q=>bi (P++Y) ⟨?_,?_,λp r=>?_,zV R.n aa⟩ (oE d).1
 ·rw[R.e,cs,mq,l,cs,q]
 ·rw[cs];exact o
 ·refine aB (eY.mp r) (λh=>?_) ?_;rotate_left;intro b;refine aB b (λh=>?_) (λh=>?_)<;>clear b;rotate_right
  ·refine aB (ed.mp (R.i p (eY.mpr (.inl h)))) (λm=>?_) (λm=>?_)
   ·exact gg _ m
   ·exact iY _ ((bj.mp m).elim (λe=>bv (bA (·.1) e) (R.ne (.inl h))) id)
  ·cases h
  ·refine aB (ed.mp (R.i p (eY.mpr (.inr (.inr h))))) (λm=>?_) (λm=>?_)
   ·exact gg _ m
   ·exact iY _ ((bj.mp m).elim (λe=>bv (bA (·.1) e) (R.ne (.inr h))) id)
theorem RD:lo b (A++.v (.ref j)::B)=lo b (A++.o j d::B):=by
 induction A generalizing b with
 |nil=>cases b with
  |nil=>rfl
  |cons n b=>cases n<;>rfl
 |cons a A c=>cases b with
  |nil=>rfl
  |cons n b=>have:=@c b;cases n<;>cases a<;>first|exact this|exact bA (_::·) this
theorem FJ(c:jY X d t b):jY X d (qi k t) b:=λr Z G n N C R Re h=>by
 refine sO (z9 h) ?_;rintro A j B a rfl e f;refine au Re.xpo λi l g=>?_;have m:t X.c (ab (A++.v (.ref j)::B)) (aE G j a) N C R:=by rw[<-qg (x:=.o j a) e];exact(f j g)
 rw[<-RD];exact c _ i _ _ N C R l m
theorem RE(F:dv G Y)(h:a∉Y.map (·.1)):dv (cL G a) Y/\bH (cL G a) Y=cL (bH G Y) a:=by
 induction Y with
 |nil=>exact aF trivial rfl
 |cons q Y b=>
  have n:a≠q.1:=λe=>h (by rw[e];exact aP);refine aw (b F.2 λm=>h (ba _ m)) λf e=>aF ⟨?_,f⟩ ?_
  ·rw[e,ku n.symm];exact F.1
  ·show aE (bH (cL G a) Y) _ _=cL (aE (bH G Y) _ _) _;rw[e,tU n]
theorem FK{S:dM}{X:bR S}{i:OL}(hk:S.nm[k]?=ac (ac n))(l:jY X i t b):jY X i (tZ k t) b:=λr Z G m N C R Re h=>by refine dD h λa c o j h=>cQ (E8 o) ?_;rintro A B rfl d;refine aw (RE Re.f (Re.f.off j)) λf e=>?_;have g:=Re.val (y:=.v (.d (.list c))) aa;exact Dv (by rw[Re.e];exact Re.f.get j:m a=ac (.list c)) (Du (x:=n) (oF X.nd (by rw[d];exact hk) aa) λp q=>.inl (fJ X.nd p q)) (pS (lF X.nd (by rw[d];exact hk) aa) (l _ Z _ _ N C R ⟨by rw[e,<-g.e],f,g.i,g.n⟩ (by rw[<-qg (x:=.v (.ref a)) d];exact h:t X.c (ab (A++.v (.d (.list c))::B)) (cL G a) N C R)))
theorem Aa(n:ah)(h:n<=1000000):kC 0 (n:af) 1=ao/\ie 0 (n:af) 1=(n:af):=by
 refine aF (small_one (by decide) (by decide) (eD (by decide) (bl n)) (rP (bD.2 h) (by decide))) ?_;rw[RF];by_cases q:(0:af)<n
 ·rw[aR q,Int.sub_zero]
 ·rw[aQ q];exact fC (bl n) (hU.1 q)
def j4(a l:Ls):=∀x v,a.lookup x=ac v->l.lookup x=ac v
theorem j4.of(h:d5 a l):j4 a l:=λY Y e=>h.lookup e
theorem j4.sub(b:eR a=ao)(h:j4 (lo a r) l):d5 (lo a r) l:=λp c=>h _ _ (fJ b p c)
theorem j4.cons(h:j4 a l)(n)(v):j4 ((n,v)::a) ((n,v)::l):=λz u e=>by
 by_cases c:z=n
 ·rw[ez,jq.mpr c] at e⊢;exact e
 ·rw[jz c] at e⊢;exact h z u e
theorem j4.trans(h:j4 a b)(k:j4 b c):j4 a c:=λz u e=>k z u (h z u e)
theorem wB(h:(b==a)=ax):j4 ((b,y)::(a,x)::l) ((a,x)::(b,y)::l):=λz u e=>by
 have f:b≠a:=λq=>by rw[q,vI] at h;cases h
 by_cases c:z=a
 ·subst c;rw[jz f.symm] at e;rw[ez,vI] at e⊢;exact e
 ·rw[jz c];by_cases d:z=b
  ·rw[ez,jq.mpr d] at e⊢;exact e
  ·rw[jz d] at e⊢;rw[jz c] at e;exact e
theorem j5(c:eR a=ao)(hk:a[k]?=ac (ac n))(R:Re r Z d G e)(h:wS (ab r) k (.v v) P):∃b,Re b Z d G e/\j4 (lo a b) ((n,v)::lo a r)/\P (ab b):=by refine dz (wS.o (y:=.v v) h) ?_;rintro A x B rfl f q;exact cf _ (R.val aa) (.of (lF c (by rw[f];exact hk) aa)) q
def Ab(X:bR S)(st:fv)e:=∀{c r Z G d P x},Re r Z c G d->st x (ab r) P->∃a b,lz X.env X.own e x (lo S.nm r) a/\j4 (lo S.nm b) a/\Re b Z c G d/\P (ab b)
theorem l2.o{K:V->V->Prop}(h:l2 a K):∃y z,a=[y,z]/\K y z:=by
 match a,h with
 |[y,z],h=>exact qS y z aa h
theorem l3.o{K:V->V->V->Prop}(h:l3 a K):∃y z u,a=[y,z,u]/\K y z u:=by
 match a,h with
 |[y,z,u],h=>exact lS y z u aa h
theorem RG{st:fv}(f:Ab X st (.Tuple b k p))(g:DY [.Tuple b k p] e d.line X.env=bg ax)(j:ot [.Tuple b k p] e X.env=bg ak)(l:dE X a e):
 ik X (mu st a) (.Assign [.Tuple b k p] e d):=λz r Z G A N C R Re h=>
 MW X.O X.hh (ci l Re h (λv B m n o w t u i h=>by refine jf (f t (oV.o h i)) λc x a s y q=>?_;rw[b5 u] at a;exact bi c a (.mk x m n y (s.sub X.nd) q)) aa) g j
def KI(r:ae RV)(d:OL)(Q:ae V->Sg->AH->Prop)(e:ae V)(f:AH):Prop:=∀b,(∀(a)(g)(c),Re a g d c f->bF a=bF r->Q e (ab a) c->b)->b
theorem KI.mk(a)(c)(b)(d:Re a c e b f)(g:bF a=bF r)(h:Q i (ab a) b):KI r e Q i f:=λY j=>j a c b d g h
def oI(X:bR S)(t:TI)c e:=∀a r Z G b Q,Re r Z a G b->t X.c (ab r) G Q->iQ X.c X.env X.own c e (bo (lo S.nm r)) b (KI r a Q)
theorem z8.o(h:z8 w k)(i:fS r w v):∃a b c,v=.rng a b c/\k a b c:=by
 cases w with
 |s _=>exact h.elim
 |v x=>cases x with
  |rng a b c=>exact lS a b c i h
  |_=>exact h.elim
theorem Ac(i n):iZ i n=(cC n).map λ(k:ah)=>V.int ((i:af)+(k:af)*1):=by
 induction n generalizing i with
 |zero=>rfl
 |succ n a=>rw[Ad,c9,eI,iZ.q2,a];rw[show(i:af)+((0:ah):af)*1=i by exact fC (ay [_,_] 76307211088932992 aa (kq ((↑0:af)) (1))) (ay [_,_] 76438121742446720 aa (kq ((↑0:af)) (1)))];refine bA (V.int i::·) (i7 λk Y=>?_);show V.int _=V.int ((i:af)+((k+1:ah):af)*1);rw[show((i+1:ah):af)+(k:af)*1=(i:af)+((k+1:ah):af)*1 by exact fC (ay [(↑(k+1):af)*1,(↑k:af),(↑k:af)*1,(↑i:af)] 0x10f90392918312c1b1215c1b91810 aa (kq ((↑k:af)) (1)) (kq ((↑(k+1):af)) (1))) (ay [(↑k:af)*1,(↑k:af),(↑(k+1):af)*1,(↑i:af)] 0x10f90918392312c1b9181215c1b10 aa (kq ((↑(k+1):af)) (1)) (kq ((↑k:af)) (1)))]
def j6(b G:AH):=∀a,b a=G a\/b a=ak
theorem j6.no(l:j6 b G)(e:G a=ak):b a=ak:=(l a).elim (λq=>q.trans e) id
theorem j6.is(l:j6 a G)(i:Is G h u v):Is a h u v:=Is.mono (λY Y e Y Y=>e) (λY Y e Y Y=>e) (λY Y e Y Y g=>⟨e,l.no g⟩) _ i
theorem j6.rds(l:j6 a G)(i:bb G h u v):bb a h u v:=i.mono (λY Y e Y Y=>e) (λY Y e Y Y g=>⟨e,l.no g⟩)
theorem St.less{c:ae aZ}(S:St c G h)(l:j6 x G):St c x h:=by
 refine⟨λb g e=>?_,λb p e=>?_,λb A=>?_⟩
 ·refine bu (S.base b g e) λj s t=>ca j (l.no s) t
 ·have e:=(l b).elim (λq=>q.symm.trans e) λq=>by rw[q] at e;cases e
  have i:=S.objs b p e;cases p with
  |list w=>refine cQ i λvs n e r=>⟨vs,n,e,l.rds r⟩
  |tab w=>refine aw i λlo a=>aL a λf z k r=>⟨lo,f,z,k,l.rds r⟩
  |itab w=>refine aw i λlo a=>aL a λf z k r=>⟨lo,f,z,k,l.rds r⟩
  |stab w=>refine aw i λlo a=>aL a λf z k r=>⟨lo,f,z,k,l.rds r⟩
  |inst C L=>exact i
  |fr o=>exact i
  |exc C d vs=>exact i
  |tb M=>exact i
  |attrs B=>
   refine aL i λm D E q=>⟨m,D,E,λy=>?_⟩
   have:=q y
   revert this
   cases B.lookup y with
   |none=>exact id
   |some v=>intro a;refine aL a λu H I J=>cf u H (l.is I) J
 ·refine aw (S.own b A) λj a=>au a λg s t=>aF (l.no j) ⟨g,s,t⟩
theorem fe.less(k:fe A f vs G λv h=>∃a,j6 a h/\Q v a):fe A f vs G Q:=λc s m S i=>by
 refine oh (k c s m S i) λr u q=>?_;rcases r with e|(_|_|_|v)
 case ok.ret=>refine q _ λp d h x e t j i q=>au q λa l q=>(.mk p d a x e (t.less l) (λb o e g n=>⟨(j b o e g n).1,l.no (j b o e g n).2⟩) (l.is i) q)
 all_goals exact q.elim
theorem FL{r:ae LV}:∀{f:ae aN}{b:ae V}{c:ae (bB aN)},f.length=b.length->(∀(i:ah)(n:aN),f[i]?=ac n->c[i]?=ac (ac n))->∀d:ae RV,et d=[]->(∀x∈d,x=.u)->lo c (b.map .v++d)=f.zip b:=by
 intro f;induction f with
 |nil=>
  intro b c g Y d Y h
  cases b with
  |nil=>
   clear g
   induction d generalizing c with
   |nil=>cases c with
    |nil=>rfl
    |cons m _=>cases m<;>rfl
   |cons x d j=>cases c with
    |nil=>rfl
    |cons m c=>have e:=h x aP;subst e;cases m<;>exact(j (c:=c) (λi n e=>by cases e) (by assumption) λx o=>h x (ba _ o))
  |cons _ _=>cases g
 |cons n f j=>
  intro b c g l d p h
  cases b with
  |nil=>cases g
  |cons a b=>
   cases c with
   |nil=>have:=l 0 n aa;cases this
   |cons m c=>have:=l 0 n aa;cases this;exact bA ((n,a)::·) (j (pY g) (λi k e=>l (i+1) k e) d p h)
def oJ(A:cq)a:=∀l,A.frames=ac l->∃o,l=a::o
theorem RH{A:cq}{a:dK}:oJ (A.deeper a) a:=λl e=>by
 have e:A.frames.map (a::·)=ac l:=e;cases q:A.frames with
 |none=>rw[q] at e;cases e
 |some o=>rw[q] at e;cases e;exact ew o aa
theorem FN:∀l:ae V,et (l.map RV.v)=[]:=λl=>by induction l with
 |nil=>rfl
 |cons a l b=>exact b
theorem wC:∀k:ah,et (dX k RV.u)=[]:=λk=>by induction k with
 |zero=>rfl
 |succ k a=>exact a
theorem FO{c:cq}{n:ah}(t:TS)(S:dM)(b:ae aN)(k:ah)(hB:cn df Bh)(RA:cA c (n+1)){f:aZ}{u o:aN}{m:Arguments}{s:ae fb}{g:ro}{dV kV D pm y ct oc:aV}{an od:bB aZ}{J:jg (bB aV)}
 {d:ae V}{φ:OL}{G:AH}(F:dv G φ){L:V->AH->Prop}
 (h:∀j,cA (c.deeper j) n->t (c.deeper j) (d.map .v++dX k .u) G (λY w=>L .none w) (λY Y=>aC) L)
 (ss:∀X:bR S,oJ X.c X.env->jY X φ t s)(z:S.names=g.names)
 (ho:df.lookup f=ac ⟨oc,od,.func (iN u o m s g dV kV D pm an y ct),J⟩)(M:Bh.CodeRec y o)(A:b.length=d.length)(N:S.nm=b.map ac++S.nm.drop b.length)
 (B:∀Q:ae aV,Q.length=b.length->oo (iN u o m s g dV kV D pm an y ct) ⟨Q,[]⟩=bg (b.zip Q))(T:b.Nodup)
 (C:b.all (rA g.names)=ao)(nd:eR S.nm=ao)(db:p9 S.nm=ao)
 (U:g.isCoroutine=ax)(E:g.isGenerator=ax)(hk:g.kind=.function):fe c (.ref f) d (bH G φ) (nA φ L):=by
 refine fe.less<|zE (b.zip d) b hB RA ho M (by rw[RI (fT A.symm)]:d=(b.zip d).map (·.2)) (by rw[RJ (fT A)]:b=(b.zip d).map (·.1)) B T C (λj O W R hh h2=>?_) U E hk
 have h1:Re (d.map RV.v++dX k .u) [] φ G (bH G φ):=by
  have:et (d.map RV.v++dX k .u)=[]:=by rw[lD,FN,wC];exact c8 _
  exact⟨aa,F,λp hp=>(by rw[this] at hp;cases hp),(by rw[this];exact t7)⟩
 have H:=ss (bR.mk (c.deeper j) j (hX j) O (by rw[z];exact W.kind) hB ⟨_,R⟩ nd db (by rw[z];exact W.bnd) (λY=>⟨by rw[z];exact W,aa⟩)) RH _ _ _ _ _ _ _ h1 (by rw[show ab (d.map RV.v++dX k RV.u)=d.map LV.v++dX k LV.u by rw[ab,ck,eI,RK];rfl];exact h j R);rw[FL (r:=[]) A (λi n e=>by rw[N,jv (by rw[aI];exact(dF.mp e).1),fH,e];rfl:∀(i:ah)(n:aN),b[i]?=ac n->S.nm[i]?=ac (ac n)) _ (wC k) λx hx=>(RL hx)] at H;refine SV.mono H (λl Γ q=>?_) (λl Γ q=>?_) λv Γ q=>?_
 ·refine q _ λr Z w I sb q=>bi _ (λa=>by rw[I.e];exact wo Z φ w I.f a) ⟨w,aa,E5 I.f,q⟩
 ·refine q _ λr Z w I sb q=>q
 ·refine q _ λZ w e f q=>bi _ (λa=>by rw[e];exact wo Z φ w f a) ⟨w,aa,E5 f,q⟩
theorem lG{rH:qb p}(h:p)(x:a):vB (decide p) a b:=by rw[hW h];exact x
theorem vB.n{rH:qb p}(h:¬p)(x:b):vB (decide p) a b:=by rw[s8 h];exact x
theorem vB.o{rH:qb p}(h:vB (decide p) a b):(p/\a)\/(¬p/\b):=by
 by_cases q:p
 ·rw[hW q] at h;exact .inl ⟨q,h⟩
 ·rw[s8 q] at h;exact .inr ⟨q,h⟩
def RM d e k:=nB (motive_1:=λY=>Prop) d aC (λY=>aC) (λY=>QG d e k) (λY=>QL d e k) (λY=>QM d e k) (λY=>QN d e k) (λY=>aC)
def RN d e(k:aA->Prop):=dI d λm=>dI e λn=>vB (decide (n=0)) aC (k (.int (m.fmod n)))
def RO d e(k:aA->Prop):=dI d λm=>dI e λn=>vB (decide (n=0)) aC (n.natAbs<1073741824/\k (.int (m.fdiv n)))
def FP:Operator->aA->aA->(aA->Prop)->Prop
 |.Add=>RM
 |.Sub=>QH
 |.Mult=>QI
 |.Mod=>RN
 |.FloorDiv=>RO
 |.Pow=>QJ
 |.BitAnd=>QK
 |_=>λY Y Y=>aC
def FQ d e k:=nB (motive_1:=λY=>Prop) d (jA d e k) (λY=>jA d e k) (λm=>nB (motive_1:=λY=>Prop) e (jA d e k) (λY=>jA d e k) (λn=>k (decide (m=n))) (λY=>jA d e k) (λY=>jA d e k) (λY=>jA d e k) (λY=>jA d e k)) (λY=>jA d e k) (λY=>jA d e k) (λY=>jA d e k) (λY=>jA d e k)
def FT d e k:=nB (motive_1:=λY=>Prop) d (jB d e k) (λY=>jB d e k) (λm=>nB (motive_1:=λY=>Prop) e (jB d e k) (λY=>jB d e k) (λn=>k (!decide (m=n))) (λY=>jB d e k) (λY=>jB d e k) (λY=>jB d e k) (λY=>jB d e k)) (λY=>jB d e k) (λY=>jB d e k) (λY=>jB d e k) (λY=>jB d e k)
open Classical in
def RP d e(k:bP->Prop):=dT e λa=>(∀x∈a,bE 60 x)/\bE 60 d/\k (decide (d∈a))
open Classical in
def RQ d e(k:bP->Prop):=dT e λa=>(∀x∈a,bE 60 x)/\bE 60 d/\k (!decide (d∈a))
def RS(d e:aA)(k:bP->Prop):=dN e (k (match d with|.none=>ax|_=>ao))
def rQ:vA->aA->aA->(bP->Prop)->Prop
 |.Lt=>Fe
 |.LtE=>Ff
 |.Gt=>Fg
 |.GtE=>Fh
 |.Eq=>FQ
 |.NotEq=>FT
 |.In=>RP
 |.NotIn=>RQ
 |.IsNot=>RS
 |_=>λY Y Y=>aC
theorem FQ.fit(h:jA d e k):FQ d e k:=by
 cases d with
 |int m=>cases e with
  |int n=>show k (decide (m=n));simpa using h.2.2
  |_=>exact h
 |_=>exact h
theorem FT.fit(h:jB d e k):FT d e k:=by
 cases d with
 |int m=>cases e with
  |int n=>show k (!decide (m=n));simpa using h.2.2
  |_=>exact h
 |_=>exact h
theorem RT{X:bR S}(J:cA X.c n)(h:FP D d e k):∀{A}{Q},(∀z,k z->Q (.d z) A)->re X.c D (.d d) (.d e) A Q:=λ{A Q}q=>by
 cases D with
 |Add=>
  have h:=h
  cases d with
  |int m=>refine au (dI.o h) ?_;rintro n rfl h;exact Ln (q _ h)
  |str m=>refine au (dS.o h) ?_;rintro n rfl h;exact(λf s u v S i j=>by exact lX i λY=>lX j λY=>abE (λL M=>PV.here S (Is.str _ _) (q _ h.2)) (by rw[eF];exact aj [_,_] 0x10f080e0e0e0e0e1e91010c084e2e4efe910 aa h.1))
  |list m=>refine au (dL.o h) ?_;rintro n rfl h;exact(λf s u v S i j=>by refine jh i λa vs n e g r=>jh j λb ws m o N t=>?_;have w:=r.length;have y:=t.length;rw[d9] at w y;refine aw (S.push {cls:=.type "list",data:=.seq (vs++ws)}) λC p=>P.add_list e o ?_ (by rw[eF];exact aj [_,_,_,_] 0x10f080e0e0e0e0e1e92312c0312c1210c084e2e4efe910 aa w y h.1);exact(.mk _ s.toks _ (.d (.list (_++_))) aa C p (Rd.lst (fc _ aa) (S.fresh (fE _)) (by rw[yU];exact(bb.ext S p.any r).append (bb.ext S p.any t))) (q _ h.2)))
  |tuple m=>refine au (dT.o h) ?_;rintro n rfl h;exact(λf s u v S i j=>by
   refine oa i λa vs E e r=>oa j λb ws G o t=>?_;have w:=r.length;have y:=t.length;rw[d9] at w y;by_cases c:vs.isEmpty=ao
   ·have H:m=[]:=by rw[v6 w] at c;simpa using c
    subst H;exact RU ⟨_,e,aa⟩ ⟨_,o,aa⟩ RW RX RY RZ (R0 _ _) (AutoSeq1.tuple___add___tuple_tuple_0 a vs E b ws G c)
     ⟨e,o,PV.here (x:=.d (.tuple ([]++n))) S (Rd.tup o t) (q _ h.2)⟩
   ·by_cases B:ws.isEmpty=ao
    ·have I:n=[]:=by rw[v6 y] at B;simpa using B
     subst I;exact RU ⟨_,e,aa⟩ ⟨_,o,aa⟩ RW RX RY RZ (R0 _ _) (AutoSeq1.tuple___add___tuple_tuple_1 a vs E b ws G c B)
      ⟨e,o,PV.here (x:=.d (.tuple (m++[]))) S (by rw[c8];exact Rd.tup e r) (q _ h.2)⟩
    ·refine aw (S.push {cls:=.type "tuple",data:=.seq (vs++ws)}) λC p=>P.add_tuple e o c B ?_ (by rw[eF];exact aj [_,_,_,_] 0x10f080e0e0e0e0e1e92312c0312c1210c084e2e4efe910 aa w y h.1);exact(.mk _ s.toks A (.d (.tuple (m++n))) aa C p (Rd.tup (fc _ aa) (by rw[yU];exact(bb.ext S p.any r).append (bb.ext S p.any t))) (q _ h.2)))
  |_=>exact h.elim
 |Sub=>refine dD (mr h) ?_;rintro m n rfl rfl c;exact LA (q _ c)
 |Mult=>refine dD (mr h) ?_;rintro m n rfl rfl c;exact(λf s u v S i j=>by exact cB i λY=>cB j λY=>abH (PV.here S (Is.int _ _) (q _ c.2)) c.1)
 |Mod=>
  refine dD (mr h) ?_;rintro m n rfl rfl c;refine aB (vB.o c) ?_ ?_;rotate_left;intro l;refine aw l λa z=>?_;rotate_right;intro l;refine aw l λY z=>?_
  ·exact z.elim
  ·exact(λf s u v S i j=>by exact cB i λY=>cB j λY=>abI a (PV.here S (Is.int _ _) (q _ z)))
 |FloorDiv=>
  refine dD (mr h) ?_;rintro m n rfl rfl c;refine aB (vB.o c) ?_ ?_;rotate_left;intro l;refine aw l λa z=>?_;rotate_right;intro l;refine aw l λY z=>?_
  ·exact z.elim
  ·exact(λf s u v S i j=>by exact cB i λY=>cB j λY=>abJ a (PV.here S (Is.int _ _) (q _ z.2)) (.inl (Ny z.1)))
 |Pow=>refine dD (mr h) ?_;rintro m n rfl rfl c;exact(λf s u v S i j=>by exact cB i λY=>cB j λY=>abK c.1 c.2.1 c.2.2.1 (PV.here S (Is.int _ _) (q _ c.2.2.2)))
 |BitAnd=>refine dD (mr h) ?_;rintro m n rfl rfl c;exact(λf s u v S i j=>by exact cB i λY=>cB j λY=>abL (PV.here S (Is.int _ _) (q _ c)))
 |_=>exact h.elim
open Classical in
theorem Ae(a:cA X.c n):CF X (rQ g) g:=λ{d e k}h p Q q=>by
 cases g with
 |Lt=>exact QO h q
 |LtE=>exact QP h q
 |Gt=>exact QQ h q
 |GtE=>exact QR h q
 |Eq=>
  have h:=h
  cases d with
  |int m=>cases e with
   |int n=>refine Dc a (bE.int _) (bE.int _) ?_;simpa using(q _ h)
   |_=>exact Fi a h q
  |_=>exact Fi a h q
 |NotEq=>
  have h:=h
  cases d with
  |int m=>cases e with
   |int n=>refine Dd a (bE.int _) (bE.int _) ?_;simpa using(q _ h)
   |_=>exact Fj a h q
  |_=>exact Fj a h q
 |In=>refine cP (dT.o h) ?_;rintro l rfl b c f;exact LK a b c (q _ f)
 |NotIn=>refine cP (dT.o h) ?_;rintro l rfl b c f;exact LL a b c (q _ f)
 |IsNot=>
  have h:=h
  cases e with
  |none=>exact(λo s u v S i j=>by
   refine CD j<|isnot_none_gen (PV.here (tk:=s.toks) S (Is.bool _) ?_)
   cases i<;>exact(q _ h))
  |_=>exact h.elim
 |_=>exact h.elim
section
variable(c:cq)
def wD(w:Wv)a k:=match w with
 |.v x=>oD (.v x) λd=>dQ d k
 |.s j=>eS (.s j) a λY b=>iq b k
noncomputable def mw:Wv->bP
 |.v (.d _)=>ax
 |.v _=>ao
 |.s _=>ax
def bI d a b:=Qs (FP d) a b
def FU a b(k:bP->Prop):=Sa (motive:=λY=>Prop) a aC aC aC aC aC aC aC aC (k b) (k (!b))
def FV b e d k:=O.casesOn (motive:=λY=>Prop) e (λY=>aC) (λY=>aC) (λa=>dI d λn=>FU b (a.lookup n).isSome k) (λa=>dS d λn=>FU b (a.lookup n).isSome k) (λY Y=>aC) (λY=>aC) (λY=>aC) (λY Y Y=>aC) (λY=>aC)
def FY b e d(k:bP->Prop):=iq e λa=>dL d λf=>qd (motive:=λY=>Prop) f (Sa (motive:=λY=>Prop) b aC (bE 60 (.list a)/\k (!a.isEmpty)) aC aC aC aC aC aC aC aC) λY Y=>aC
def Af g x y f G(Q:bP->Sg->AH->Prop):=match mw x||mw y with
 |true=>oV x λa=>oV y λb=>rM c g a b G λz G=>Q z f G
 |false=>match y with
  |.s j=>oD x λd=>eS (.s j) f λY h=>FV g h d λz=>Q z f G
  |.v e=>oD (.v e) λe=>match x with
   |.s j=>eS (.s j) f λY h=>FY g h e λz=>Q z f G
   |.v d=>oD (.v d) λd=>rQ g d e λz=>Q z f G
def Ag a c Q x y b G:=Af c a x y b G Q
def Sb a(b:TE)c Q x d G:=b c d G (Ag a c Q x)
def bX d(a b:TE):=λc e G Q=>a c e G (Sb d b c Q)
def Ah x y d G(Q:Wv->Sg->AH->Prop):=match mw x with
 |true=>oV x λa=>oV y λb=>FS c a b G λv G=>Q (.v v) d G
 |false=>oD y λe=>dI e λn=>wD x d λf=>∃z,jC f n z/\Q (.v (.d z)) d G
def Sc c Q x y a G:=Ah c x y a G Q
def Sd(k:TE)c Q x a G:=k c a G (Sc c Q x)
def bO(a k:TE):=λc b G Q=>a c b G (Sd k c Q)
def Ai(k:ah)x b G(Q:Wv->Sg->AH->Prop):=match mw x with
 |true=>oV x λa=>FS c a (.int k) G λv G=>Q (.v v) b G
 |false=>wD x b λd=>oK (d[k]?) λz=>Q (.v (.d z)) b G
def Se k c Q x a G:=Ai c k x a G Q
def bT(a:TE)k:=λc b G Q=>a c b G (Se k c Q)
def FZ w b G(Q:Wv->Sg->AH->Prop):=match mw w with
 |true=>oV w λa=>FC c (.builtin "len") [a] G λv G=>Q (.v v) b G
 |false=>wD w b λd=>d.length<=1000000/\Q (.v (.int d.length)) b G
def dU:=λc ws a G Q=>o1 ws λw=>FZ c w a G Q
def Sf(w:Wv)b G(Q:Wv->Sg->AH->Prop):=match w with
 |.v x=>oD (.v x) λd=>dL d λa=>a.length<=1000000/\Q (.v (.d (.tuple a))) b G
 |.s j=>eS (.s j) b λY e=>iq e λa=>a.length<=1000000/\Q (.v (.d (.tuple a))) b G
def nF:TF:=λY ws a G Q=>o1 ws λw=>Sf w a G Q
def Sh(w:Wv)(b:Sg)(G:AH)(Q:Wv->Sg->AH->Prop):Prop:=match w with
 |.v x=>oD (.v x) λd=>dL d λa=>∃x,a=[x]/\Q (.v (.d (.list [x]))) b G
 |.s j=>eS (.s j) b λY f=>zY f λa=>a.length<64/\∀e:ae af,e.Perm (a.map (·.1))->e.Pairwise (·<=·)->Q (.v (.d (.list (e.map .int)))) b G
def wE:TF:=λY ws a G Q=>o1 ws λw=>Sh w a G Q
def dB d k:=nB (motive_1:=λY=>Prop) d aC k (λY=>aC) (λY=>aC) (λY=>aC) (λY=>aC) (λY=>aC)
def Si(w:Wv)a G(Q:bP->Sg->AH->Prop):=match w with
 |.s j=>eS (.s j) a λY f=>iq f λe=>e.length<=1000000/\Q (!e.isEmpty) a G
 |.v x=>oD (.v x) λd=>dB d λb=>Q b a G
def Sj Q w a G:=Si w a G Q
def t8(a:TE):=λc b G Q=>a c b G (Sj Q)
def F1 d i x(k:O->Prop):=
 O.casesOn (motive:=λY=>Prop) d (λa=>dI i λj=>Int.casesOn (motive:=λY=>Prop) j (λn=>a.length<=1000000/\n<a.length/\k (.list (a.set n x))) λn=>n=0/\∃b y,a=b++[y]/\b.length<=1000000/\k (.list (b++[x])))
  (λY=>aC) (λa=>dI i λn=>a.length<=1000000/\k (.itab (gv a n x))) (λa=>dS i λn=>a.length<=1000000/\k (.stab (gv a n x))) (λY Y=>aC) (λY=>aC) (λY=>aC) (λY Y Y=>aC) (λY=>aC)
def F2(a b x:Wv)d G(N:Sg->AH->Prop):=match a with
 |.s j=>oD x λx=>oD b λb=>eS (.s j) d λk e=>F1 e b x λe=>N (ef d k (.o e)) G
 |.v a=>oV x λx=>oV b λb=>rL c a b x G λG=>N d G
def Sk c N x a b d G:=F2 c a b x d G N
def Sl(i:TE)c N x a b G:=i c b G (Sk c N x a)
def Sm(o:TE)i c N x a G:=o c a G (Sl i c N x)
def ir(o i v:TE):TS:=λc a G N Y Y=>v c a G (Sm o i c N)
end
theorem wD.o(h:wD w (ab r) k)(R:Re r Z l G f)(i:fS r w v):∃a,k a/\(v=.d (.list a)\/v=.d (.tuple a)\/∃j,v=.ref j/\f j=ac (.list a)):=by
 cases w with
 |v x=>have h:oD (.v x) λd=>dQ d k:=h;refine au (oD.o h i) ?_;rintro d rfl b;refine au (dQ.o b) λa e q=>bi a q (e.elim (λe=>.inl (e▸rfl)) λe=>.inr (.inl (e▸rfl)))
 |s n=>have h:eS (.s n) (ab r) λY c=>iq c k:=h;refine iK (eS.o h R i) ?_;rintro A j B c Y rfl g b;refine au (iq.o b) ?_;rintro a rfl q;exact bi a q (.inr (.inr ⟨j,aa,g⟩))
theorem F3(d:tW a)(i:v=.d (.list f)\/v=.d (.tuple f)\/∃j,v=.ref j/\k j=ac (.list f))(b:jC f n z)(q:Q (.d z) k):
 jr A g a v (.int n) k Q:=by
 refine aB i ?_ ?_<;>clear i;rotate_left;intro c;refine aB c ?_ ?_<;>clear c;rotate_left;intro h;refine au h ?_;rintro j rfl e;rotate_right;rintro rfl;rotate_right;rintro rfl
 ·exact Fl d (.inl rfl) b q
 ·exact Fl d (.inr rfl) b q
 ·exact Df e b.lo b.hi b.at' q λY Y=>d _ _
theorem Sn{c d}(hk:fA k 1000=ao)(j:dE X a l):dE X (bT a k) (.Subscript l (.Constant (.int (.ofNat k)) c d) m):=λw r Z G y Q R h=>by
 have f:tW (.Constant (.int (.ofNat k)) c d):=by intro Y Y;with_unfolding_all rfl
 refine yB (ci j R h (λv n A o p x b g i h=>pL ?_) aa);have h:Ai X.c k x (ab n) o Q:=h;unfold Ai at h;cases e:mw x with
 |true=>rw[e] at h;have h:=oV.o h i _ b.f;rw[<-b.e] at h;exact Fk (h _ _ f) λY Y q=>KE.up g (wu b q λY q=>q)
 |false=>rw[e] at h;refine au (wD.o h b i) λB s t=>au (oK.o s) λz u q=>F3 f t (Fm u (by have:=lV hk;exact aj [_] 0x10f084e2e4efe010c88ee3e0 aa this)) (KE.up g (KE.now b q))
theorem FV.ok(h:FV a f d k)(e:g j=ac f)(q:∀z,k z->Q (.bool z) g):fq c a (.d d) (.ref j) g Q:=by
 cases f with
 |itab l=>
  refine au (dI.o h) ?_;rintro n rfl h
  cases a with
  |In=>exact(λm s u v S i j=>by refine cB i λY=>?_;obtain rfl:v=.ref _:=j;refine aw (S.objs _ _ e) λlo b=>aL b λp o hk r=>LU (zp pg wd _ _) lo o.mapOf (PV.here S (Is.bool _) (by rw[vJ hk r];exact(q _ h))))
  |NotIn=>exact NL e (q _ h)
  |_=>exact h.elim
 |stab l=>
  refine au (dS.o h) ?_;rintro n rfl h
  cases a with
  |In=>exact Dm e (q _ h)
  |NotIn=>exact Ee e (q _ h)
  |_=>exact h.elim
 |_=>exact h.elim
open Classical in
theorem FY.ok(f:cA c n)(h:FY a g d k)(e:b j=ac g)(q:∀z,k z->Q (.bool z) b):fq c a (.ref j) (.d d) b Q:=by
 refine au (iq.o h) ?_;rintro i rfl h;refine au (dL.o h) ?_;rintro l rfl h;cases l with
 |nil=>cases a with
  |NotEq=>refine LI f e h.1 (bE.lst (n:=59) λx m=>by cases m) ?_;cases i<;>simpa using(q _ h.2)
  |_=>exact h.elim
 |cons=>exact h.elim
theorem Af.ok{X:bR S}(R:Re r Z I G m)(i:fS r x u)(j:fS r y v)(h:Af X.c J x y (ab r) G Q)
 (q:∀z t L f g,Re t L I f g->bF t=bF r->Q z (ab t) f->P (.bool z) g):fq X.c J u v m P:=by
 refine aK X.rm λn H=>?_;unfold Af at h;cases e:mw x||mw y with
 |true=>rw[e] at h;have h:=oV.o (oV.o h i) j _ R.f;rw[<-R.e] at h;refine λw s M N S a b=>aM (h w s M N S a b) λc s' p=>p _ λT C f x e U W i q'=>by refine au (R.lft q') λG2 R2 D=>au D ?_;rintro z rfl q2;exact(.mk T C f (.bool z) e U W i (q z r Z G2 f R2 aa q2))
 |false=>
  rw[e] at h
  cases y with
  |s n=>refine au (oD.o h i) ?_;rintro d rfl o;refine iK (eS.o o R j) ?_;rintro A j' B ob Y rfl E l;exact FV.ok l E λz k=>q z r Z G m R aa k
  |v y=>
   refine au (oD.o h j) ?_;rintro e' rfl o
   cases x with
   |s n=>refine iK (eS.o o R i) ?_;rintro A j' B ob Y rfl E l;exact FY.ok H l E λz k=>q z r Z G m R aa k
   |v x=>refine au (oD.o o i) ?_;rintro d rfl l;exact Ae H l λz k=>q z r Z G m R aa k
theorem So:BF X dU (.builtin "len"):=λ{ws vs u r Z G x Q}R m h=>by
 refine dD (o1.o h m) ?_;rintro w v rfl i c;unfold FZ at c;cases e:mw w with
 |true=>rw[e] at c;exact tX R (oV.o c i) λY Y q=>q
 |false=>
  rw[e] at c;refine au (wD.o c R i) λy a=>aw a λd q=>λn=>aB n ?_ ?_;rotate_left;intro a;refine aB a ?_ ?_<;>clear a;rotate_left;intro f;refine au f ?_;rintro j rfl o;rotate_right;rintro rfl;rotate_right;rintro rfl
  ·exact(λk s p S i=>by refine ji i λt l=>jh l λY vs Y e g r=>?_;have b:=r.length;rw[d9] at b;refine D9 ⟨_,e,aa,_,aa⟩ (ay [_,_] 0x11f080e0e0e0e0e0e0e0e0e0e0e0e0e0e8e112c0110c084e2e4efe0 aa (gW.2 b) (bD.2 d)) ?_;rw[b];exact PV.here S (Is.int _ _) (KE.now R q))
  ·exact(λk s p S i=>by refine ji i λt l=>oa l λY vs Y e r=>?_;have b:=r.length;rw[d9] at b;refine P.len_tuple e (by rw[b];exact sT.mpr (rP (bD.mpr d) (by decide))) ?_;rw[b];exact PV.here S (Is.int _ _) (KE.now R q))
  ·exact D8 o d (KE.now R q)
theorem Sp:BF X nF (.type "tuple"):=λ{ws vs c r Z G d Q}R b h=>by
 refine dD (o1.o h b) ?_;rintro w v rfl i a;cases w with
 |v x=>exact Rk R (vs:=[v]) (ws:=[.v x]) ⟨v,[],aa,i,aa⟩ a
 |s n=>exact Ri R (vs:=[v]) (ws:=[.s n]) ⟨v,[],aa,i,aa⟩ a
theorem Sq:BF X wE (.builtin "sorted"):=λ{ws vs c r Z G d Q}R b h=>by
 refine dD (o1.o h b) ?_;rintro w v rfl i a;cases w with
 |v x=>exact Rm R (vs:=[v]) (ws:=[.v x]) ⟨v,[],aa,i,aa⟩ a
 |s n=>exact Rl R (vs:=[v]) (ws:=[.s n]) ⟨v,[],aa,i,aa⟩ a
theorem Sr(p:isTrue e X.env (bN e X.env)=(do let v<-bN e X.env;eE e.pos;gq [v] (truthy v)))(t:dE X a e):rF X (t8 a) e:=λH r Z G I Q R h=>by
 refine Lu (ci t R h (λv c J k y w f l i h=>?_) aa) p;cases w with
 |s n=>have h:eS (.s n) (ab c) λY m=>iq m λg=>g.length<=1000000/\Q (!g.isEmpty) (ab c) k:=h;refine iK (eS.o h f i) ?_;rintro A L B m Y rfl z C;refine aL (iq.o C) ?_;rintro g rfl D q;exact(λE s u S i=>by obtain rfl:u=.ref _:=i;refine cQ (S.objs _ _ z) λvs n e r=>?_;have j:=r.length;rw[d9] at j;refine wpAny_truthy_list ⟨_,e,aa,_,aa⟩ (ay [_,_] 0x11f080e0e0e0e0e0e0e0e0e0e0e0e0e0e8e112c0110c084e2e4efe0 aa (gW.2 j) (bD.2 D)) ?_;rw[v6 j];exact PB.here S (KB.up l (KB.now f q)))
 |v x=>
  have h:oD (.v x) λd=>dB d λb=>Q b (ab c) k:=h
  refine au (oD.o h i) ?_;rintro d rfl o
  cases d with
  |bool b=>exact tl (KB.up l (KB.now f o))
  |_=>exact o.elim
noncomputable def g0{C:Expr->Type}(e)(d:∀e,C e)(f0:∀k a b,C (.Constant k a b):=λY Y Y=>d _)(f1:∀x q,C (.Name x q):=λY Y=>d _)(f2:∀c k q,C (.Tuple c k q):=λY Y Y=>d _)(f3:∀c q,C (.List c q):=λY Y=>d _)(f4:∀l m q,C (.Subscript l m q):=λY Y Y=>d _)(f5:∀g c h q,C (.Call g c h q):=λY Y Y Y=>d _)(f6:∀o n q,C (.Attribute o n q):=λY Y Y=>d _)(f7:∀l f r q,C (.BinOp l f r q):=λY Y Y Y=>d _)(f8:∀f e q,C (.UnaryOp f e q):=λY Y Y=>d _)(f9:∀h vs q,C (.Dict h vs q):=λY Y Y=>d _)(f10:∀l u s q,C (.Slice l u s q):=λY Y Y Y=>d _)(f11:∀i j p q,C (.ListComp i j p q):=λY Y Y Y=>d _)(f12:∀l os v q,C (.Compare l os v q):=λY Y Y Y=>d _)(f13:∀t l r q,C (.IfExp t l r q):=λY Y Y Y=>d _)(f14:∀f vs q,C (.BoolOp f vs q):=λY Y Y=>d _):C e:=by
 cases e;case Constant k a b=>exact f0 k a b
 case Name x q=>exact f1 x q
 case Tuple c k q=>exact f2 c k q
 case List c q=>exact f3 c q
 case Subscript l m q=>exact f4 l m q
 case Call g c h q=>exact f5 g c h q
 case Attribute o n q=>exact f6 o n q
 case BinOp l f r q=>exact f7 l f r q
 case UnaryOp f e q=>exact f8 f e q
 case Dict h vs q=>exact f9 h vs q
 case Slice l u s q=>exact f10 l u s q
 case ListComp i j p q=>exact f11 i j p q
 case Compare l os v q=>exact f12 l os v q
 case IfExp t l r q=>exact f13 t l r q
 case BoolOp f vs q=>exact f14 f vs q
 all_goals exact d _
def wF{C:Expr->Type}(e)(f:∀k a b,C (.Constant k a b))(d:∀e,C e):=g0 e d (f0:=f)
def fg{C:Expr->Type}(e)(f:∀x q,C (.Name x q))(d:∀e,C e):=g0 e d (f1:=f)
def j7{C:Expr->Type}(e)(f:∀a k q,C (.Tuple a k q))(d:∀e,C e):=g0 e d (f2:=f)
def t9{C:Expr->Type}(e)(f:∀a q,C (.List a q))(d:∀e,C e):=g0 e d (f3:=f)
def qk{C:Expr->Type}(e)(f:∀l m q,C (.Subscript l m q))(d:∀e,C e):=g0 e d (f4:=f)
def rR{C:Expr->Type}(e)(f:∀g a q,C (.Call g a [] q))(d:∀e,C e):=g0 e d (f5:=(λg a b q=>qd b (f g a q) λY Y=>d _))
def uc{C:Expr->Type}(e)(f:∀o n q,C (.Attribute o n q))(d:∀e,C e):=g0 e d (f6:=f)
def F4{C:Expr->Type}(e)(f:∀l a r q,C (.BinOp l a r q))(d:∀e,C e):=g0 e d (f7:=f)
def Aj{C:Expr->Type}(e)(f:∀a e q,C (.UnaryOp a e q))(d:∀e,C e):=g0 e d (f8:=f)
def rS{C:Expr->Type}(e)(f:∀a vs q,C (.Dict a vs q))(d:∀e,C e):=g0 e d (f9:=f)
def Ss{C:Expr->Type}(e)(f:∀l u s q,C (.Slice l u s q))(d:∀e,C e):=g0 e d (f10:=f)
def F7{C:Expr->Type}(e)(f:∀a b c q,C (.ListComp a b c q))(d:∀e,C e):=g0 e d (f11:=f)
def F8{C:Expr->Type}(e)(f:∀l os a q,C (.Compare l os a q))(d:∀e,C e):=g0 e d (f12:=f)
def Su{C:Expr->Type}(e)(f:∀t l r q,C (.IfExp t l r q))(d:∀e,C e):=g0 e d (f13:=f)
def F9{C:Expr->Type}(e)(f:∀a vs q,C (.BoolOp a vs q))(d:∀e,C e):=g0 e d (f14:=f)
noncomputable def iw{a}{C:ae a->Type}(l)(f:∀x,C [x])(d:∀l,C l):C l:=qd l (d _) λx r=>qd r (f x) λY Y=>d _
def mx{a}{C:ae a->Type}(l:ae a)(f:∀x y,C [x,y])(d:∀l,C l):C l:=qd l (d _) λx r=>iw (C:=λr=>C (x::r)) r (f x) λY=>d _
def Ak{a:Type}{C:ae a->Type}(l:ae a)(f:∀x y z,C [x,y,z])(d:∀l,C l):C l:=qd l (d _) λx r=>mx (C:=λr=>C (x::r)) r (f x) λY=>d _
def fU(e:Expr):=g0 e (λY=>ax) (λY Y Y=>ao) (λY Y=>ao) (λY Y Y=>ao) (λY Y=>ao) (λY Y Y=>ao) (λY Y Y Y=>ao) (λY Y Y=>ao) (λY Y Y Y=>ao) (λY Y Y=>ao) (λY Y Y=>ao) (λY Y Y Y=>ax) (λY Y Y Y=>ax) (λY Y Y Y=>ao) (λY Y Y Y=>ao) (λY Y Y=>ao)
def eN(e:Expr):=g0 e (λY=>ax) (λY Y Y=>ao) (λY Y=>ao) (λY Y Y=>ao) (λY Y=>ao) (λY Y Y=>ao) (λY Y Y Y=>ao) (λY Y Y=>ao) (λY Y Y Y=>ao) (λY Y Y=>ao) (λY Y Y=>ao) (λY Y Y Y=>ao) (λY Y Y Y=>ao) (λY Y Y Y=>ao) (λY Y Y Y=>ao) (λY Y Y=>ao)
theorem fU.ind{P:Expr->Prop}(h:fU e=ao)(u:∀k a b,P (.Constant k a b))(v:∀x q,P (.Name x q))(w:∀c k q,P (.Tuple c k q))(y:∀c q,P (.List c q))(z:∀l m q,P (.Subscript l m q))(A:∀g c f q,P (.Call g c f q))(B:∀o n q,P (.Attribute o n q))(C:∀l d r q,P (.BinOp l d r q))(D:∀d e q,P (.UnaryOp d e q))(E:∀f vs q,P (.Dict f vs q))(i:∀l os j q,P (.Compare l os j q))(p:∀t l r q,P (.IfExp t l r q))(s:∀d vs q,P (.BoolOp d vs q)):P e:=by
 cases e;case Constant k a b=>exact u k a b
 case Name x q=>exact v x q
 case Tuple c k q=>exact w c k q
 case List c q=>exact y c q
 case Subscript l m q=>exact z l m q
 case Call g c f q=>exact A g c f q
 case Attribute o n q=>exact B o n q
 case BinOp l d r q=>exact C l d r q
 case UnaryOp d e q=>exact D d e q
 case Dict f vs q=>exact E f vs q
 case Compare l os j q=>exact i l os j q
 case IfExp t l r q=>exact p t l r q
 case BoolOp d vs q=>exact s d vs q
 all_goals exact bv h pH
theorem fh(h:eN e=ao):bM (e::b) a=(ax,bN e a)::bM b a:=by
 cases e;case Starred=>exact bv h pH
 all_goals rfl
theorem Al(h:fU e=ao):yw a e=ax:=fU.ind (P:=λe=>yw a e=ax) h (λY Y Y=>rfl) (λY Y=>rfl) (λY Y Y=>rfl) (λY Y=>rfl) (λY Y Y=>rfl) (λY Y Y Y=>rfl) (λY Y Y=>rfl) (λY Y Y Y=>rfl) (λY Y Y=>rfl) (λY Y Y=>rfl) (λY Y Y Y=>rfl) (λY Y Y Y=>rfl) (λY Y Y=>rfl)
theorem Ge(h:fU e=ao):tW e:=fU.ind (P:=tW) h (λY Y Y Y Y=>rfl) (λY Y Y Y=>rfl) (λY Y Y Y Y=>rfl) (λY Y Y Y=>rfl) (λY Y Y Y Y=>rfl) (λY Y Y Y Y Y=>rfl) (λY Y Y Y Y=>rfl) (λY Y Y Y Y Y=>rfl) (λY Y Y Y Y=>rfl) (λY Y Y Y Y=>rfl) (λY Y Y Y Y Y=>rfl) (λY Y Y Y Y Y=>rfl) (λY Y Y Y Y=>rfl)
theorem my(h:fU e=ao):gf e t l env=bg ax:=fU.ind (P:=λe=>gf e t l env=bg ax) h (λY Y Y=>rfl) (λY Y=>rfl) (λY Y Y=>rfl) (λY Y=>rfl) (λY Y Y=>rfl) (λY Y Y Y=>rfl) (λY Y Y=>rfl) (λY Y Y Y=>rfl) (λY Y Y=>rfl) (λY Y Y=>rfl) (λY Y Y Y=>rfl) (λY Y Y Y=>rfl) (λY Y Y=>rfl)
theorem oM(h:fU e=ao):∀x,gh e a x=bg x:=fU.ind (P:=λe=>∀x,gh e a x=bg x) h (λY Y Y Y=>rfl) (λY Y Y=>rfl) (λY Y Y Y=>rfl) (λY Y Y=>rfl) (λY Y Y Y=>rfl) (λY Y Y Y Y=>rfl) (λY Y Y Y=>rfl) (λY Y Y Y Y=>rfl) (λY Y Y Y=>rfl) (λY Y Y Y=>rfl) (λY Y Y Y Y=>rfl) (λY Y Y Y Y=>rfl) (λY Y Y Y=>rfl)
theorem j8(h:b.all eN=ao):∀a,(dY a (bM b env)).any (·.1)=ax:=λa=>by
 induction b with
 |nil=>rfl
 |cons e b c=>rw[Sv,fD] at h;rw[fh h.1];exact c h.2
theorem ql(h:e.all eN=ao)(i:(b.endLine==c.line)=ao)(j:fA e.length 20=ao)
 (k:bN (.Call (.Attribute o d b) e [] c) a=(do
  let g<-bN o a
  eE b.atName
  methodCall o d b c a g (e.length+0) (dY c (bM e a)) [])):bN (.Call (.Attribute o d b) e [] c) a=(do
  let g<-bN o a
  eE b.atName
  let(f,first)<-gq [g] (ma g d (do return(<-importBound o a).getD ao))
  lp c f first (dY c (bM e a)) []):=by
 have l:methodCallForm (e.length+0) (dY c (bM e a)) []=ao:=by exact eV.mpr ⟨eV.mpr ⟨gK.mpr λq m=>(sU _).mpr (CN.mpr ((Dq.mp (j8 (env:=a) h c)) q m)),aa⟩,hW (qm (lV j) (aX _ _))⟩
 rw[k]
 delta methodCall methodCallPos
 rw[l,i]
 rfl
section
variable(S:dM)
abbrev PE(e:Expr):=bB {t:TE//∀X:bR S,dE X t e}
abbrev rT(e:Expr):=bB {t:TB//∀X:bR S,rF X t e}
abbrev Gf(a:ae Expr):=bB {t:TL//∀X:bR S,kI X t a}
structure qn where
 E:∀e,PE S e
 B:∀e,rT S e
 L:∀es,Gf S es
noncomputable def aJ(b:bP)(f:b=ao->bB a):=match b,f with
 |true,f=>f aa
 |false,_=>ak
def eB(a:ae (bB aN))(x:aN):bB {i:ah//a[i]?=ac (ac x)}:=a.rec ak λn Y R=>match e:(n==ac x) with
 |true=>ac ⟨0,bA ac (bC e)⟩
 |false=>R.map λi=>⟨i.1+1,i.2⟩
variable{S}
noncomputable def Sw(k:Const)(a:ah)(b:cT):PE S (.Constant k a b):=match k with
 |.int i=>ac ⟨aO i,λX=>(λc r Z G d Q R h=>pL (KE.now R h))⟩
 |.str s=>ac ⟨bf s,λX=>(λc r Z G d Q R h=>vz (KE.now R h))⟩
 |.bool z=>ac ⟨lE z,λX=>(λc r Z G d Q R h=>Lj (KE.now R h))⟩
 |.none=>ac ⟨tV,λX=>(λc r Z G d Q R h=>Lk (KE.now R h))⟩
 |_=>ak
variable(p:qn S)
def Sx(x:aN)(q:cT):PE S (.Name x q):=(eB S.nm x).map λi=>⟨ag i.1,λX=>rK i.2⟩
noncomputable def Sy(b:UnaryOp)(e:Expr)(q:cT):PE S (.UnaryOp b e q):=match b with
 |.USub=>(p.E e).map λa=>⟨jZ a.1,λX=>(λl r Z G m Q R h=>by refine yE (ci (a.2 X) R h (λv o s t c x f g i h=>?_) aa);refine au (oD.o h i) ?_;rintro d rfl j;refine au (dI.o j) ?_;rintro n rfl k;exact bi n aa (KE.up g (KE.now f k)))⟩
 |_=>ak
def Sz(l:Expr)(f:ae vA)(s:ae Expr)(q:cT):=
 iw (C:=λf=>rT S (.Compare l f s q)) f (λN=>iw (C:=λs=>rT S (.Compare l [N] s q)) s (λr=>aJ (fU r) λh=>(p.E l).bind λa=>(p.E r).map λb=>⟨bX N a.1 b.1,λX=>(λT r9 Z G U Q R o=>Lm (ci (a.2 X) R o (λv W Z1 G1 E x H A i o=>ci (b.2 X) H o (λu r2 Z2 G2 I y B g j o=>Af.ok B (i.shp g) j o λz r' Z' G' h5 R' J k=>tl (KB.up (J.trans (g.trans A)) (KB.now R' k))) (b5 A)) aa) (Al h))⟩) λY=>ak)
 λf=>mx (C:=λf=>rT S (.Compare l f s q)) f (λo1 o2=>mx (C:=λs=>rT S (.Compare l [o1,o2] s q)) s (λm n=>aJ (fU n) λh=>(p.E l).bind λa=>(p.E m).bind λb=>(p.E n).map λc=>⟨E9 (rQ o1) (rQ o2) a.1 b.1 c.1,λX=>let⟨_,R⟩:=X.rm;(λT r Z G U Q R9 o=>by refine Lv (ci (a.2 X) R9 o (λv W Z1 G1 E x H A i o=>ci (b.2 X) H o (λu r2 Z2 G2 I y B g j o=>?_) (b5 A)) aa) (Al h);refine au (oD.o o (i.shp g)) ?_;rintro d rfl h1;refine au (oD.o h1 j) ?_;rintro e rfl h2;refine(Ae R) h2 λz D=>tl ⟨λL=>?_,λL=>by subst L;exact KB.up (g.trans A) (KB.now B D)⟩;refine ci (c.2 X) B (vB.t D L) (λt r3 Z3 G3 h6 w R3 M k h3=>?_) (b5 (g.trans A));refine au (oD.o h3 k) ?_;rintro m rfl h4;exact(Ae R) h4 λz D=>tl (KB.up (M.trans (g.trans A)) (KB.now R3 D)))⟩) λY=>ak) λY=>ak
def SA(l:Expr)(c:ae vA)(f:ae Expr)(q:cT):=iw (C:=λc=>PE S (.Compare l c f q)) c (λm=>iw (C:=λf=>PE S (.Compare l [m] f q)) f (λr=>aJ (fU r) λh=>(p.E l).bind λa=>(p.E r).map λb=>⟨iT (bX m a.1 b.1),λX=>(λD E Z G H Q R d=>CV (ci (a.2 X) R d (λv I J L o x s n i d=>ci (b.2 X) s d (λu M N T t y w e j d=>Af.ok w (i.shp e) j d λz U W G' A B g k=>KE.up (g.trans (e.trans n)) (KE.now B k)) (b5 n)) aa) (Al h))⟩) λY=>ak) λY=>ak
def ud(l m:Expr)(q:cT):PE S (.Subscript l m q):=aJ (fU m) λh=>(p.E l).bind λa=>(p.E m).map λb=>⟨bO a.1 b.1,λX=>(λI r Z G J Q R c=>by
 refine yB (ci (a.2 X) R c (λv L M N s x t k i c=>ci (b.2 X) t c (λu w T A B y f d j c=>?_) (b5 k)) aa);have c:Ah X.c x y (ab w) A Q:=c;unfold Ah at c;cases e:mw x with
 |true=>rw[e] at c;have c:=oV.o (oV.o c (i.shp d)) j _ f.f;rw[<-f.e] at c;exact Fk (c _ _ (Ge h)) λY Y g=>KE.up (d.trans k) (wu f g λY g=>g)
 |false=>rw[e] at c;refine au (oD.o c j) ?_;rintro e rfl C;refine au (dI.o C) ?_;rintro n rfl D;refine au (wD.o D f (i.shp d)) λU o=>au o λz E g=>λH=>F3 (Ge h) H E (KE.up (d.trans k) (KE.now f g)))⟩
def SD(l:Expr)(k:Const)(a:ah)(b q:cT):PE S (.Subscript l (.Constant k a b) q):=match k with
 |.int (.ofNat k)=>aJ (fA k 1000) λh=>(p.E l).map λa=>⟨bT a.1 k,λX=>Sn h (a.2 X)⟩
 |k=>ud p l (.Constant k a b) q
def SE(l:Expr)(k:Const)(a:ah)(b e q:cT):PE S (.Subscript l (.UnaryOp .USub (.Constant k a b) e) q):=match k with
 |.int (.ofNat 1)=>(p.E l).map λa=>⟨qc a.1,λX=>(λt r Z G u Q R h=>by refine yB (ci (a.2 X) R h (λv w y C g x f j i h=>yE (pL ⟨1,aa,?_⟩)) aa);refine iK (eS.o h f i) ?_;rintro A D B E Y rfl m n;refine au (iq.o n) ?_;rintro H rfl d;refine dD d ?_;rintro c z rfl o s;rw[b7] at o;exact LQ m (bl _) (by rw[b7];simp;exact ay [_] 76439698034180104 aa (bl _)) (bl _) (by rw[(by rw[b7,ea];exact bQ (bD.1 (ay [_,_] 0x10f1012c99181a18080 aa (dh (ay [↑c.length] 0x10f99180a18080810c008 aa (bl _))))) (bD.1 (ay [_,_] 0x10f0115c99181a18080 aa (dh (ay [↑c.length] 0x10f99180a18080810c008 aa (bl _))))):((-1:af)+((c++[z]).length:ah)).toNat=c.length)];simp) (KE.up j (KE.now f s)) (by intro Y Y;with_unfolding_all rfl))⟩
 |k=>ud p l (.UnaryOp .USub (.Constant k a b) e) q
def Gg(l m:Expr)(q:cT):=
 wF (C:=λm=>PE S (.Subscript l m q)) m (λk a b=>SD p l k a b q)
 λm=>Aj (C:=λm=>PE S (.Subscript l m q)) m (λop e c=>match op with
  |.USub=>wF (C:=λe=>PE S (.Subscript l (.UnaryOp .USub e c) q)) e (λk a b=>SE p l k a b c q) λe=>ud p l (.UnaryOp .USub e c) q
  |op=>ud p l (.UnaryOp op e c) q)
 λm=>ud p l m q
def SF(u:aV)(n:ah):bB {f:TF//∀X:bR S,BF X f u}:=
 (aJ (u==.builtin "len") λh=>ac ⟨dU,λX=>bC h▸So⟩)<|>(aJ (u==.type "tuple") λh=>ac ⟨nF,λX=>bC h▸Sp⟩)<|>(aJ (u==.builtin "sorted") λh=>ac ⟨wE,λX=>bC h▸Sq⟩)
 <|>(aJ (u==.type "str") λh=>ac ⟨qf,λX=>bC h▸Rn⟩)<|>(aJ (u==.builtin "min") λh=>match n with
  |1=>ac ⟨ww,λX=>bC h▸Rc⟩
  |_=>ac ⟨oH,λX=>bC h▸Rb⟩)<|>(aJ (u==.type "range") λh=>match n with
  |1=>ac ⟨kJ,λX=>bC h▸Rg⟩
  |3=>ac ⟨qe,λX=>bC h▸Ra⟩
  |_=>ac ⟨zX,λX=>bC h▸Rh⟩)
def SG(x:aN)(v:cT)(k:ae Expr)(q:cT):PE S (.Call (.Name x v) k [] q):=
 aJ (S.names.lookup x==ac .globalImplicit) λb=>aJ ((x==("__debug__":aN))==ax) λc=>match k with
 |[]=>(match a:eW df eM x with
  |some (ac u)=>aJ (em df u) λhk=>ac ⟨cW u av,λX=>(λl r Z G m Q R h=>Lp X.hB X.O (pR.k X.k (bC b)) (a) (hk) (tX R (h:FC X.c _ [] G _) λY Y q=>q) (bC c))⟩
  |_=>ak)
 |e::r=>aJ (eN e) λn=>aJ (r.all eN) λo=>(p.L (e::r)).bind λt=>match a:eW df eM x with
  |some (ac u)=>aJ (em df u) λhk=>ac ⟨cW u t.1,λX=>(λl r Z G m Q R h=>vC X.hB X.O (pR.k X.k (bC b)) (a) (hk) (iX (t.2 X) R h (λvs w y z d ws g i j h=>wv (tX g (j0.o h j) λY Y q=>q) i) aa) (bC c) (fh n) (j8 o q))⟩
  |some ak=>(match A:rb x with
   |some u=>aJ (em df u) λhk=>aJ (!(x==("__name__":aN))) λs=>(SF u (r.length+1)).map λf=>⟨bY f.1 t.1,λX=>(λl r Z G m Q R h=>CY X.hB X.O (pR.k X.k (bC b)) (a) A (hk) (iX (t.2 X) R h (λvs w y z d ws g i j h=>wv ((f.2 X) g j h) i) aa) (λe=>by rw[e] at s;revert s;decide+kernel) (bC c) (fh n) (j8 o q))⟩
   |none=>ak)
  |none=>ak
def Gi(n:aN)(z:bP):bB {f:TM×jp//∀X:bR S,MF X f.1 n f.2}:=
 (aJ (n==aD "append") λh=>ac ⟨(eT,"list.append"),λX=>bC h▸(⟨tw,wG,aa,λh a e q=>by
  refine dD (o1.o h a) ?_;rintro w v rfl i b;refine aL (oD.o b i) ?_;rintro d rfl c j;exact tv e c (q _ _ j)⟩)⟩)<|>(aJ (n==aD "extend") λh=>ac ⟨(Ft,"list.extend"),λX=>bC h▸(⟨Md,PySem.F.type_list_extend,aa,λh a e q=>by
  refine dD (o1.o h a) ?_;rintro w v rfl i b;refine au (oD.o b i) ?_;rintro d rfl j;refine aL (dL.o j) ?_;rintro l rfl c k;exact Mc e c (q _ _ k)⟩)⟩)
 <|>(aJ (n==aD "reverse") λh=>ac ⟨(Fs,"list.reverse"),λX=>bC h▸(⟨Ma,PySem.F.type_list_reverse,aa,λh a e q=>by
  refine bu (o0.o h a) ?_;rintro rfl c b;exact L9 e c (q _ _ b)⟩)⟩)<|>(aJ (n==aD "pop") λh=>match z with
  |true=>ac ⟨(zZ,"list.pop"),λX=>bC h▸(⟨yS,SH,aa,λh a e q=>by refine aw (o0.o h a) ?_;rintro rfl g;refine dD g ?_;rintro l z rfl c b;exact LZ e c (q _ _ b)⟩)⟩
  |false=>ac ⟨(Fq,"list.pop"),λX=>bC h▸(⟨yS,SH,aa,λh a e q=>by refine dD (o1.o h a) ?_;rintro w v rfl i b;refine au (oD.o b i) ?_;rintro d rfl j;refine cP (dI.o j) ?_;rintro n rfl m c g;refine au g λz o k=>?_;exact L7 e c m o (q _ _ k)⟩)⟩)
def SI(x:aN)(h:cT)(n:aN)(g:cT)(c:ae Expr)(q:cT):PE S (.Call (.Attribute (.Name x h) n g) c [] q):=
 aJ (g.endLine==q.line) λd=>aJ (c.all eN) λa=>aJ (fA c.length 20) λb=>(eB S.nm x).bind λk=>match c,a,b with
 |[],a,b=>(match Gi (S:=S) n ao with
  |some f=>ac ⟨dO f.1.1 k.1 av,λX=>Rp (f.2 X) k.2 (ql a d b aa)⟩
  |none=>ac ⟨d6 (ag k.1) n av,λX=>Fp (ql a d b aa) (rK k.2)⟩)
 |e::r,a,b=>(p.L (e::r)).map λt=>match Gi (S:=S) n ax with
  |some f=>⟨dO f.1.1 k.1 t.1,λX=>Ro (f.2 X) k.2 (ql a d b aa) (fh (eV.mp a).1) (j8 (eV.mp a).2 q) (t.2 X)⟩
  |none=>⟨d6 (ag k.1) n t.1,λX=>Fo (ql a d b aa) (fh (eV.mp a).1) (j8 (eV.mp a).2 q) (rK k.2) (t.2 X)⟩
def SJ(x)(h)(d)(i)(n)(f)(c)(q):PE S (.Call (.Attribute (.Attribute (.Name x h) d i) n f) c [] q):=
 aJ (f.endLine==q.line) λg=>aJ (c.all eN) λa=>aJ (fA c.length 20) λb=>(eB S.nm x).bind λk=>match c,a,b with
 |[],a,b=>ac ⟨d6 (cw (ag k.1) d) n av,λX=>Fp (ql a g b aa) (zW (by rfl) (rK k.2))⟩
 |e::r,a,b=>(p.L (e::r)).map λt=>⟨d6 (cw (ag k.1) d) n t.1,λX=>Fo (ql a g b aa) (fh (eV.mp a).1) (j8 (eV.mp a).2 q) (zW (by rfl) (rK k.2)) (t.2 X)⟩
def SK(g:Expr)(a:ae Expr)(q:cT):=
 fg (C:=λg=>PE S (.Call g a [] q)) g (λx b=>SG p x b a q)
 λg=>uc (C:=λg=>PE S (.Call g a [] q)) g (λo n c=>
  fg (C:=λo=>PE S (.Call (.Attribute o n c) a [] q)) o (λx b=>SI p x b n c a q)
  λo=>uc (C:=λo=>PE S (.Call (.Attribute o n c) a [] q)) o (λo2 d e=>fg (C:=λo2=>PE S (.Call (.Attribute (.Attribute o2 d e) n c) a [] q)) o2 (λx b=>SJ p x b d e n c a q) λY=>ak) λY=>ak)
 λY=>ak
def Am(e:Expr):=
 wF e (λk a b=>Sw k a b) λe=>fg e (λx q=>Sx x q) λe=>rR e (λg s q=>SK p g s q)
 λe=>Aj e (λI e q=>Sy p I e q)
 λe=>F4 e (λl I r q=>(p.E l).bind λa=>(p.E r).map λb=>⟨bI I a.1 b.1,λX=>(let⟨_,R⟩:=X.rm;(λM r9 Z G N Q T h=>by refine yv (ci (a.2 X) T h (λv U W G1 J x B f i h=>ci (b.2 X) B h (λu D E H w y A c j h=>?_) (b5 f)) aa);refine au (oD.o h (i.shp c)) ?_;rintro d rfl h1;refine au (oD.o h1 j) ?_;rintro e rfl h2;exact(RT R) h2 λz q9=>KE.up (c.trans f) (KE.now A q9)))⟩)
 λe=>Su e (λt l r q=>(p.B t).bind λt=>(p.E l).bind λa=>(p.E r).map λb=>⟨nE t.1 a.1 b.1,λX=>(λM r Z G N Q R h=>
  Lq (mo (t.2 X) R h (λv U W G1 J B f h=>⟨λe=>ci (a.2 X) B (vB.t h e) (λv D E H w x A c i h=>(.mk D E H x A (c.trans f) i h)) (b5 f),
   λe=>ci (b.2 X) B (vB.f h e) (λv D E H w x A c i h=>(.mk D E H x A (c.trans f) i h)) (b5 f)⟩) aa))⟩)
 λe=>F8 e (λl L rs q=>SA p l L rs q)
 λe=>j7 e (λs k q=>(p.L s).map λt=>⟨aT t.1,λX=>QT (t.2 X)⟩)
 λe=>t9 e (λs q=>(p.L s).map λt=>⟨im t.1,λX=>QU (t.2 X)⟩)
 λe=>qk e (λl m q=>Gg p l m q)
 λe=>uc e (λo n q=>fg (C:=λo=>PE S (.Attribute o n q)) o (λx np=>(eB S.nm x).map λk=>⟨cw (ag k.1) n,λX=>zW (by rfl) (rK k.2)⟩) λY=>ak) λY=>ak
def Gj(e:Expr):=
 F8 e (λl j t q=>Sz p l j t q)
 λe=>F9 e (λi k q=>mx (C:=λk=>rT S (.BoolOp i k q)) k (λl m=>(p.B l).bind λa=>(p.B m).bind λb=>match i with
  |.And=>ac ⟨rJ a.1 b.1,λX=>(λu r Z G w Q R h=>by
   refine C7 (mo (a.2 X) R h (λv y z A n f d h=>⟨λe=>?_,λe=>by subst e;exact KB.up d (KB.now f h)⟩) aa);refine C7 (mo (b.2 X) f (vB.t h e) (λv B D E o g c h=>⟨λe=>(λs S R=>isTrue_and_nil (PB.here (tk:=s.toks) S ?_)),λe=>?_⟩) (b5 d))
   ·exact e▸KB.up (c.trans d) (KB.now g h)
   ·exact e▸KB.up (c.trans d) (KB.now g h))⟩
  |.Or=>ac ⟨Fa a.1 b.1,λX=>(λu r Z G w Q R h=>by
   refine C8 (mo (a.2 X) R h (λv y z A n f d h=>⟨λe=>by subst e;exact KB.up d (KB.now f h),λe=>?_⟩) aa);refine C8 (mo (b.2 X) f (vB.f h e) (λv B D E o g c h=>⟨λe=>?_,λe=>(λs S R=>isTrue_or_nil (PB.here (tk:=s.toks) S ?_))⟩) (b5 d))
   ·exact e▸KB.up (c.trans d) (KB.now g h)
   ·exact e▸KB.up (c.trans d) (KB.now g h))⟩) λY=>ak)
 λe=>Aj e (λi l q=>match i with
  |.Not=>(p.B l).map λa=>⟨Fb a.1,λX=>QS (a.2 X)⟩
  |_=>ak)
 λe=>fg e (λx q=>(p.E (.Name x q)).map λa=>⟨t8 a.1,λX=>Sr (by rfl) (a.2 X)⟩) λY=>ak
def Gk(d:ae Expr):Gf S d:=match d with
 |[]=>ac ⟨av,λX=>(λg r Z G j Q R h=>kz (.mk r Z G ([]) R aa rfl h))⟩
 |e::d=>aJ (eN e) λh=>(p.E e).bind λa=>(p.L d).map λt=>⟨ai a.1 t.1,λX=>(λg r Z G j Q R b=>fF (ci (a.2 X) R b (λv w y z k x l f i b=>iX (t.2 X) l b (λvs m n o q ws s c u b=>(.mk m n o (x::ws) s (c.trans f) ⟨v,vs,aa,i.shp c,u⟩ b)) (b5 f)) aa) (fh h))⟩
def cN(n:ah):qn S:=n.rec ⟨λY=>ak,λY=>ak,λY=>ak⟩ λY r=>⟨Am r,Gj r,Gk r⟩
end
def KF(r:ae RV)(f:OL)(Q:O->Sg->AH->Prop)(v:V)(g:AH):Prop:=∀c,(∀(b)(h)(d a)(j)(e),Re b h f d a->bF b=bF r->a j=ak->v=.ref j->g=aE a j e->Q e (ab b) d->c)->c
theorem KF.mk(b)(e)(c a)(j)(d)(f:Re b e g c a)(h:bF b=bF r)(i:a j=ak)(k:v=.ref j)(l:m=aE a j d)(n:Q d (ab b) c):KF r g Q v m:=λY o=>o b e c a j d f h i k l n
def nG(X:bR S)(t:gZ)(e:Expr):Prop:=∀a r Z G b Q,Re r Z a G b->t X.c (ab r) G Q->EV X.c X.env X.own e (bo (lo S.nm r)) b (KF r a Q)
def SM(Q:(O->Sg->AH->Prop))(ws:ae Wv)(b:Sg)(G:AH):Prop:=rI ws λa=>vB (fA a.length 1000) (Q (.list a) b G) aC
def eg(a:TL):gZ:=λc b G Q=>a c b G (SM Q)
def Gl(w:Wv)(a:ae aA)(b:Sg)(G:AH)(Q:O->Sg->AH->Prop):Prop:=oD w λd=>dI d λn=>0<=n/\n<=10000/\Q (.list (dX n.toNat a).flatten) b G
def SN(a:ae aA)(Q:(O->Sg->AH->Prop))(w:Wv)(b:Sg)(G:AH):Prop:=Gl w a b G Q
def SO(b:TE)(c:cq)(Q:(O->Sg->AH->Prop))(ws:ae Wv)(d:Sg)(G:AH):Prop:=rI ws λa=>vB (fA a.length 100) (b c d G (SN a Q)) aC
def An(a:TL)(b:TE):gZ:=λc d G Q=>a c d G (SO b c Q)
def Gm(w:Wv)(e:Sg)(G:AH)(Q:O->Sg->AH->Prop):Prop:=Wv.casesOn (motive:=λY=>Prop) w (λx=>V.casesOn (motive_1:=λY=>Prop) x (λd=>dL d λf=>f.length<=1000000/\Q (.list f) e G) (λY=>aC) (λa b c=>∃n:ah,kC a b c=ao/\ie a b c=(n:af)/\n<=1000000/\Q (.list ((cC n).map λ(i:ah)=>.int (a+(i:af)*c))) e G) (λY=>aC)) (λY=>aC)
def SP(Q:(O->Sg->AH->Prop))(w:Wv)(a:Sg)(G:AH):Prop:=Gm w a G Q
def Ao(a:TE):gZ:=λc b G Q=>a c b G (SP Q)
def SQ(Q:(O->Sg->AH->Prop))(w:Wv)(u:Wv)(a:Sg)(G:AH):Prop:=oD w λk=>oD u λv=>dI k λn=>Q (.itab [(n,v)]) a G
def SR(v:TE)(c:cq)(Q:(O->Sg->AH->Prop))(w:Wv)(a:Sg)(G:AH):Prop:=v c a G (SQ Q w)
def Ap(k v:TE):gZ:=λc a G Q=>k c a G (SR v c Q)
def SU(Q:(O->Sg->AH->Prop))(w:Wv)(u:Wv)(a:Sg)(G:AH):Prop:=oD w λk=>oD u λv=>dS k λn=>Q (.stab [(n,v)]) a G
def SW(v:TE)(c:cq)(Q:(O->Sg->AH->Prop))(w:Wv)(a:Sg)(G:AH):Prop:=v c a G (SU Q w)
def qo(k v:TE):gZ:=λc a G Q=>k c a G (SW v c Q)
def wH:gZ:=λY a G Q=>Q (.stab []) a G
theorem Gn(h:kI X t c):nG X (eg t) (.List c d):=λq r Z G s Q R e=>Db (iX h R e (λvs f g i a ws k l m h=>by refine aL (rI.o h m) ?_;rintro n o rfl b;exact cf n o (oG b).1 λj p=>(.mk f g i a j _ k l p aa rfl ((oG b).2))) aa)
theorem SY(h:kI X t l)(o:dE X b m):nG X (An t b) (.BinOp (.List l p) .Mult m s):=λU r Z G W Q R v=>by
 refine yv (yD (iX h R v (λvs x Y y z ws A k B h=>?_) aa));refine aL (rI.o h B) ?_;rintro a C rfl c;have f:a.length<=100/\b X.c (ab x) y λw D G=>Gl w a D G Q:=by
  cases e:fA a.length 100 with
  |true=>rw[e] at c;exact aF (lV e) c
  |false=>rw[e] at c;exact c.elim
 refine cf a C (bn f.1 (aX _ _)) (ci o A f.2 (λu E H I g w J i j h=>?_) (b5 k));refine au (oD.o h j) ?_;rintro d rfl L;refine cP (dI.o L) ?_;rintro n rfl M N q;exact NH f.1 M N λj T=>(.mk E H I g j _ J (i.trans k) T aa rfl q)
theorem Gm.ok{X:bR S}(l:Re f m p g e)(o:bF f=bF r)(i:fS f w v)(h:Gm w (ab f) g Q):cF X.c (.type "list") [v] e (KF r p Q):=by
 cases w with
 |s=>exact h.elim
 |v x=>
  obtain rfl:v=_:=i
  cases v with
  |rng a b c=>refine cP h λn t u y q=>NA X.hh t u y λj k=>(.mk f m g e j _ l o k aa rfl q)
  |d d=>refine aL (dL.o h) ?_;rintro A rfl z q;exact Nz z λj k=>(.mk f m g e j _ l o k aa rfl q)
  |_=>exact h.elim
theorem Ta{X:bR S}(hk:S.nm[k]?=ac (ac n))(c:gu S.names n=ao)(d:gf e (ac (.Name n p)) a.line X.env=bg ax)(g:nG X f e):
 ik X (eu k f) (.Assign [.Name n p] e a):=λi r Z G l N C R Re h=>by refine vN X.O (X.bd n c) (nw (g i r Z G l _ Re h) λv m q=>?_) d;refine q _ ?_;clear q;intro H I o s j b t u w z D q;subst z D;refine dz (wS.o (y:=.o j b) q) ?_;rintro A x B rfl E q;exact(.mk _ _ o (t.new w b) (by rw[<-b5 u];exact lF X.nd (by rw[E];exact hk) aa) q)
def Tb(R:(V->AH->Prop))a(b:Sg)G:=∀j,G j=ak->R (.ref j) (aE G j a)
def ue(f:gZ):TS:=λc a G Y Y R=>f c a G (Tb R)
theorem Go(c:nG X f e):ik X (ue f) (.Return (ac e) d):=λg r Z G i N C R Re h=>vP (nw (c g r Z G i _ Re h) λv k q=>by refine q _ ?_;clear q;intro t l u m j n b w o p s q;subst p s;have a:=b.e▸o;refine aw (kH b.f (oE a).2 n) λf e=>(.mk l _ (by rw[b.e,e]) f (q j (oE a).1)))
theorem F1.ok(h:F1 d i x k)(e:f j=ac d)(q:∀a,k a->Q (aE f j a)):jQ c (.ref j) (.d i) (.d x) f Q:=by
 cases d with
 |list g=>
  refine au (dI.o h) ?_;rintro j rfl h
  cases j with
  |ofNat n=>exact yW e h.1 (bl _) h.2.1 (q _ h.2.2)
  |negSucc n=>refine aw h ?_;rintro rfl b;refine dD b ?_;rintro m y rfl l h;exact Na e l (q _ h)
 |itab g=>refine au (dI.o h) ?_;rintro n rfl h;exact Ng e h.1 (q _ h.2)
 |stab g=>refine au (dS.o h) ?_;rintro n rfl h;exact D1 e h.1 (q _ h.2)
 |_=>exact h.elim
theorem Aq(h:jQ A a b v G Q)(k:∀d,Q d->i d):jQ A a b v G i:=λf s j l m S n o p=>by refine aM (h f s j l m S n o p) λc u q=>mV q λr g d e t x q=>mW r g d e t x (k _ q)
theorem Tc{X:bR S}(H:gf e (ac (.Subscript l m p)) u.line X.env=bg ax)(I:dE X o l)(J:dE X i m)(L:dE X v e):
 ik X (ir o i v) (.Assign [.Subscript l m p] e u):=λφ r Z G Γ N C R Re h=>by
 refine M4 (ci L Re h (λu1 r1 Z1 G1 M w1 Q w n h=>ci I Q h (λT r2 Z2 G2 U W Y y t h=>ci J Y h (λu3 r3 Z3 G3 h4 w3 c z D h=>?_) (b5 (y.trans w))) (b5 w)) aa) H;have n:=n.shp (z.trans y);have t:=t.shp z;have d:=b5 (nm:=S.nm) (z.trans (y.trans w));have h:=h;unfold F2 at h;cases W with
 |s k=>refine au (oD.o h n) ?_;rintro x rfl h1;refine au (oD.o h1 D) ?_;rintro b rfl h2;refine iK (eS.o h2 c t) ?_;rintro A j B E rfl rfl ej h3;refine F1.ok h3 ej λg q=>aK (c.set g) λZ' R'=>(.mk _ Z' G3 R' (by rw[<-d,<-b5 (z0 g E)];exact fJ X.nd) (by rw[<-qg (x:=.o j E) aa];exact q))
 |v a=>have h:=oV.o (oV.o h n) D _ c.f;obtain rfl:T=a:=t;rw[<-c.e] at h;refine Aq h λh5 q=>aL q λG' e f q=>(.mk r3 Z3 G' ⟨e,f,c.i,c.n⟩ (by rw[<-d];exact fJ X.nd) q)
theorem Ar{S:dM}{X:bR S}{e:ae Expr}{k:ah}{b:cT}{t:TL}(h:kI X t e){f:OL}{r:ae RV}{Z:OL}{G g:AH}(R:Re r Z f G g){K:ae V->Sg->AH->Prop}{P:V->AH->Prop}
 (l:t X.c (ab r) G λws m G=>j0 ws λvs=>vB (fA vs.length 1000) (K vs m G) aC)(q:∀vs c n i a,Re c n f i a->bF c=bF r->K vs (ab c) i->P (.tup vs) a):EV X.c X.env X.own (.Tuple e k b) (bo (lo S.nm r)) g P:=
 zm (iX h R l (λvs o p s d ws u v j h=>⟨(oG (j0.o h j)).1,q vs o p s d u v (oG (j0.o h j)).2⟩) aa)
def Td b c(N:(Sg->AH->Prop))ws a G:=j0 ws λvs=>vB (fA vs.length 1000) (l2 vs λy z=>wS a b (.v y) λa=>wS a c (.v z) λa=>N a G) aC
def uf(a b:ah)(t:TL):TS:=λc d G N Y Y=>t c d G (Td a b N)
def Te b c d(N:(Sg->AH->Prop))ws a G:=j0 ws λvs=>vB (fA vs.length 1000) (l3 vs λy z u=>wS a b (.v y) λa=>wS a c (.v z) λa=>wS a d (.v u) λa=>N a G) aC
def Gp(a b d:ah)(t:TL):TS:=λc e G N Y Y=>t c e G (Te a b d N)
def Tf(Q:(ae V->Sg->AH->Prop))w a G:=oD w λd=>dQ d λb=>Q (jW 0 b) a G
def wI(a:TE):=λc b G Q=>a c b G (Tf Q)
def Tg k n(N:(Sg->AH->Prop))w b G:=oD w λd=>dI d λj=>eS (.s k) b λY c=>iq c λa=>0<=j/\a.length<=1000000/\∃m,a[j.toNat]?=ac (.int m)/\N (ef b k (.o (.list (a.set j.toNat (.int (m+n)))))) G
def As(k:ah)(i:TE)(n:af):TS:=λc a G N Y Y=>eS (.s k) a λY b=>iq b λY=>i c a G (Tg k n N)
theorem Th{S:dM}{X:bR S}{a b}(q:∀g l c,Er m g l c=(do gq [c,g,l] (pN g l c);Es [c,g,l] [];bg .next))(hk:S.nm[k]?=ac (ac x))(H:dE X i m):ik X (As k i n) (.AugAssign (.Subscript (.Name x np) m p) .Add (.Constant (.int n) a b) I):=λφ r Z G Γ N C R Re h=>by have t:=p9.at X.db (dw hk);refine sO (z9 h) λA j B J u o L=>au (iq.o L) ?_;rintro Y rfl M;refine On (fQ X.O (by rw[u];exact oF X.nd (by rw[o];exact hk) aa) (ci H Re M (λv r1 Z1 Q T w D E U h=>?_) aa) t.1 t.2) q;subst o;refine au (oD.o h U) ?_;rintro d rfl W;refine au (dI.o W) ?_;rintro z rfl h4;refine dz (Fu E u h4) ?_;rintro A' J B' rfl o h5;refine cP (iq.o h5) ?_;rintro e rfl h0 f s;refine au s λy hm qq=>?_;refine aK (D.set (.list (e.set z.toNat (.int (y+n))))) λZ' R'=>xP j e _ y aa rfl (Internal.Re.own D) h0 hm f (pL ⟨n,aa,aa,.mk _ Z' Q R' (by rw[<-b5 E,<-b5 (z0 (.list (e.set z.toNat (.int (y+n)))) (.list e))];exact fJ X.nd) (by rw[<-qg (x:=.o j (.list e)) o];exact qq)⟩)
def KP(r:ae RV)(d:OL)(Q:bB af->Sg->AH->Prop)(o:bB af)(e:AH):Prop:=∀b,(∀(a)(f)(c),Re a f d c e->bF a=bF r->Q o (ab a) c->b)->b
theorem KP.mk(a)(c)(b)(d:Re a c e b f)(g:bF a=bF r)(h:Q o (ab a) b):KP r e Q o f:=λY i=>i a c b d g h
abbrev rU:=cq->Sg->AH->(bB af->Sg->AH->Prop)->Prop
def mA:rU:=λY a G Q=>Q ak a G
def Ti(Q:(bB af->Sg->AH->Prop))w a G:=oD w λd=>dI d λi=>Q (ac i) a G
def qp(a:TE):=λc b G Q=>a c b G (Ti Q)
def Tj(Q:(Wv->Sg->AH->Prop))w l h s b G:=oD w λd=>dL d λa=>a.length<=1000000/\s≠ac 0/\Q (.v (.d (.list (kF a l h s)))) b G
def Tk(st:rU)c Q w l h a G:=st c a G (Tj Q w l h)
def Tl(a:rU)st c Q w l b G:=a c b G (Tk st c Q w l)
def Tm(lo:rU)a st c Q w b G:=lo c b G (Tl a st c Q w)
def rV(a:TE)lo b st:=λc d G Q=>a c d G (Tm lo b st c Q)
def Tn(Q:(Wv->Sg->AH->Prop))w l h e G:=oD w λd=>dT d λc=>oD l λd=>dI d λm=>oD h λd=>dI d λn=>∃a b:ah,m=a/\n=b/\a<=b/\b<=c.length/\c.length<=1000000/\Q (.v (.d (.tuple ((c.drop a).take (b-a))))) e G
def To(a:TE)c Q w l b G:=a c b G (Tn Q w l)
def Tp(lo:TE)a c Q w b G:=lo c b G (To a c Q w)
def Gq(a lo b:TE):=λc d G Q=>a c d G (Tp lo b c Q)
def Tq(X:bR S)(t:rU)e:=∀{c r Z G d l}{Q}{P},Re r Z c G d->t X.c (ab r) G Q->(∀o b g f a,Re b g c f a->bF b=bF r->Q o (ab b) f->P o a)->lo S.nm r=l->tK X.c X.env X.own e (bo l) d P
theorem Tr{lo c st:bB Expr}:∀a b,jt (.Slice lo c st p) ax (.ref a) (.ref b)=ju [.ref b,.ref a] (hY (.ref a) (.ref b))\/jt (.Slice lo c st p) ax (.ref a) (.ref b)=ju [.ref a,.ref b] (hY (.ref a) (.ref b)):=λa b=>by
 cases st with
 |none=>exact .inl aa
 |some _=>exact .inr aa
def Ts b c d(N:(Sg->AH->Prop))o1 o2 o3 a G:=wS a d (.o o3) λa=>wS a c (.o o2) λa=>wS a b (.o o1) λa=>N a G
def Tt a b d(e:gZ)c N o1 o2 f G:=e c f G (Ts a b d N o1 o2)
def Tu a b d(e:gZ)f c N o1 g G:=e c g G (Tt a b d f c N o1)
def At(a b d:ah)(e f g:gZ):TS:=λc h G N Y Y=>e c h G (Tu a b d f g c N)
theorem wJ{S:dM}{X:bR S}{f Z:OL}{r:ae RV}{G g:AH}(h:nG X t e)(R:Re r Z f G g)(m:t X.c (ab r) G Q)
 (k:∀j c b i d a,Re b i f d a->bF b=bF r->a j=ak->Q c (ab b) d->P (.ref j) (aE a j c))(n:lo S.nm r=l):EV X.c X.env X.own e (bo l) g P:=by subst n;refine nw (h f r Z G g Q R m) λv o q=>q _ ?_;clear q;intro b i d a j c p s u w x q;subst w x;exact k j c b i d a p s u q
theorem Re.into(R:Re r Z a G b)(h:b D=ak)(o):Re r Z ((D,o)::a) G (aE b D o):=by refine aw (zS (X:=Z) (Y:=a) R.f (R.e▸h) o) λf e=>⟨by rw[R.e];exact e.symm,f,R.i,R.n⟩
theorem Re.own_in(R:Re (A++x::B) Z ((j,g)::k) G r):Re (A++.o j g::B) (Z++[(j,g)]) k G r:=by
 have o:=λh=>by refine au (bV.mp h) λp c e=>aw (wn (R.f:dv G (Z++(j,g)::k))) λf s=>(oE (by rw[s,n9]:bH G (Z++k) j=ak)).2 (bV.mpr ⟨p,gg _ (R.i p c),e⟩)
 refine⟨by rw[R.e,cs];rfl,by rw[cs];exact R.f,λp c=>?_,?_⟩
 ·refine aB (eY.mp c) (λh=>?_) ?_;rotate_left;intro d;refine aB d (λh=>?_) (λh=>?_)<;>clear d;rotate_right
  ·exact gg _ (R.i p (eY.mpr (.inl h)))
  ·exact iY _ h
  ·exact gg _ (R.i p (eY.mpr (.inr (.inr h))))
 ·have n:=((R.val (y:=.u) aa)).n;have t:=λh=>o (by refine au (bV.mp h) λp c e=>bV.mpr ⟨p,eY.mpr (.inl c),e⟩);have u:=λh=>o (by refine au (bV.mp h) λp c e=>bV.mpr ⟨p,eY.mpr (.inr (.inr c)),e⟩);rw[show et (A++.u::B)=et A++et B from lD _ _,ck] at n;rw[wq,ck,c9];have n:=jV.mp n;refine jV.mpr ⟨n.1,nk.mpr ⟨u,n.2.1⟩,λa l b m=>?_⟩;refine aB (bj.mp m) (λe=>?_) (λm=>?_)
  ·exact λq=>t (by rw[q,e] at l;exact l)
  ·exact n.2.2 a l b m
theorem wK(d:eR a=ao)(hk:a[k]?=ac (ac n))(R:Re r Z ((j,b)::e) G f)(h:wS (ab r) k (.o b) P):∃c,Re c (Z++[(j,b)]) e G f/\j4 (lo a c) ((n,.ref j)::lo a r)/\P (ab c):=by refine dz (wS.o (y:=.o j b) h) ?_;rintro A x B rfl g q;exact cf _ R.own_in (.of (lF d (by rw[g];exact hk) aa)) q
def Tv b c d(N:Sg->AH->Prop)x y o a G:=oV x λx=>oV y λy=>wS a d (.o o) λa=>wS a c (.v y) λa=>wS a b (.v x) λa=>N a G
def Tw a b d(e:gZ)c N x y f G:=e c f G (Tv a b d N x y)
def Tx a b d(e:TE)f c N x g G:=e c g G (Tw a b d f c N x)
def wL(a b d:ah)(e f:TE)(g:gZ):TS:=λc h G N Y Y=>e c h G (Tx a b d f g c N)
theorem Tz{S:dM}{X:bR S}(s:S.nm[t]?=ac (ac a))(u:S.nm[v]?=ac (ac b))(w:S.nm[x]?=ac (ac c))(y:S.names.lookup a=ac .local)(z:S.names.lookup b=ac .local)(A:S.names.lookup c=ac .local)
 (h:(b==a)=ax)(i:(c==a)=ax)(j:(c==b)=ax)(B:(D.line==q.line)=ao)(l:(E.line==q.line)=ao)(H:([e,f,g].any nt)=ax)(I:[e,f,g].all (rq 8)=ax)(J:[e,f,g].all (rr 8)=ax)
 (L:∀d,bM (e::d) X.env=(ax,bN e X.env)::bM d X.env)(M:∀d,bM (f::d) X.env=(ax,bN f X.env)::bM d X.env)(Q:∀d,bM (g::d) X.env=(ax,bN g X.env)::bM d X.env)(T:dE X U e)(W:dE X Y f)(s3:nG X f3 g):
 ik X (wL t v x U Y f3) (.Assign [.Tuple [.Name a q,.Name b D,.Name c E] k p] (.Tuple [e,f,g] k' p') h4):=λφ r Z G Γ N C R Re ht=>by
 refine zn X.O X.hh (X.k a _ y (aW aa)) (X.k b _ z (aW aa)) (X.k c _ A (aW aa)) (zm (fF (ci T Re ht (λu1 r1 Z1 G1 h5 x1 R1 m i1 t1=>fF (ci W R1 t1 (λu2 r2 Z2 G2 h6 x2 R2 n i2 t2=>fF (wJ s3 R2 t2 (λj3 o3 r3 Z3 G3 h7 R3 o n3 t3=>kz ⟨aX _ _,u1,u2,.ref j3,aa,?_⟩) (b5 (n.trans m))) (Q _)) (b5 m)) (M _)) aa) (L _))) h i j B l H I J;refine aL (wK X.nd w (R3.into n3 o3) (oV.o (oV.o t3 ((i1.shp n).shp o)) (i2.shp o))) λr4 R4 l4 t4=>aL (j5 X.nd u R4 t4) λr5 R5 l5 t5=>aL (j5 X.nd s R5 t5) λr6 R6 l6 t6=>(.mk r6 _ G3 R6 (j4.sub X.nd ?_) t6)
 rw[<-b5 (o.trans (n.trans m))];exact l6.trans ((l5.trans (l4.cons _ _)).cons _ _)
def TA(Q:Wv->Sg->AH->Prop)a b G:=∀j,G j=ak->Q (.v (.ref j)) b (aE G j a)
def kL(f:gZ):=λc a G Q=>f c a G (TA Q)
def TC a y c(N:Sg->AH->Prop)b d G:=oV a λa=>oV b λb=>rL c a b y G λG=>N d G
def TD(b:TE)y c N a d G:=b c d G (TC a y c N)
def TG(o2 d:TE)a x y c N b e G:=oV a λa=>oV b λb=>rL c a b x G λG=>o2 c e G (TD d y c N)
def TH(b o2 d:TE)x y c N a e G:=b c e G (TG o2 d a x y c N)
def TJ(o1 a o2 b:TE)c N w d G:=oV w λu=>oK (ly u) λe=>l2 e λx y=>o1 c d G (TH a o2 b x y c N)
def Au(o1 a o2 b e:TE):TS:=λc d G N Y Y=>e c d G (TJ o1 a o2 b c N)
theorem Av(c:nG X f e):dE X (kL f) e:=λd r Z G g Q R h=>nw (c d r Z G g _ R h) λv i q=>by refine q _ ?_;clear q;intro k l u m j n a o p s t q;subst s t;have b:=oE (a.e▸p);refine aw (kH a.f b.2 n) λf e=>(.mk k l _ (.v (.ref j)) ⟨by rw[e,a.e],f,a.i,a.n⟩ o aa (q j b.1))
theorem TK{o1 o o2 d a:TE}{s t u z l m:Expr}{H I p A n:cT}{k B:ah}(J:([l,m].any nt)=ax)(L:dE X o1 s)(M:dE X o t)(Q:dE X o2 u)(T:dE X d z)(U:dE X a (.Tuple [l,m] B A)):
 ik X (Au o1 o o2 d a) (.Assign [.Tuple [.Subscript s t H,.Subscript u z I] k p] (.Tuple [l,m] B A) n):=λφ r Z G Γ N C R Re h=>by refine OU X.O X.hh (ci U Re h (λv r1 Z1 G1 W w Y c i h=>?_) aa) aa (OT X.O J);refine au (oK.o (oV.o h i)) λxs e1 h=>cQ (l2.o h) ?_;rintro x y rfl h;refine qS x y e1 (ci L Y h (λa r2 Z2 G2 h1 w2 R2 e d h=>ci M R2 h (λb r3 Z3 G3 h2 w3 f g i3 h=>?_) (b5 (e.trans c))) (b5 c));have h:=oV.o (oV.o h (d.shp g)) i3 _ f.f;rw[<-f.e] at h;refine Aq h λh3 q=>aL q λG4 e4 f4 h=>ci Q ⟨e4,f4,f.i,f.n⟩ h (λa r5 Z5 G5 h4 w5 R5 D i5 h=>ci T R5 h (λb r6 Z6 G6 h5 w6 j E i6 h=>?_) (b5 (D.trans (g.trans (e.trans c))))) (b5 (g.trans (e.trans c)));have h:=oV.o (oV.o h (i5.shp E)) i6 _ j.f;rw[<-j.e] at h;refine Aq h λh6 q=>aL q λG7 e7 f7 h=>(.mk r6 Z6 G7 ⟨e7,f7,j.i,j.n⟩ (by rw[<-b5 (E.trans (D.trans (g.trans (e.trans c))))];exact fJ X.nd) h)
def TN(Q:Wv->Sg->AH->Prop)ws a G:=j0 ws λvs=>vB (fA vs.length 1000) (Q (.v (.tup vs)) a G) aC
def ug(t:TL):=λc a G Q=>t c a G (TN Q)
abbrev uh:=cq->Sg->AH->(ae (aN×aA)->Sg->AH->Prop)->Prop
def Gr:uh:=λc a G Q=>Q [] a G
def TO(Q:ae (aN×aA)->Sg->AH->Prop)k v r a G:=Q ((k,v)::r) a G
def TP(r:uh)c Q k w a G:=oD k λk=>dS k λk=>oD w λv=>r c a G (TO Q k v)
def TQ(v:TE)r c Q k a G:=v c a G (TP r c Q k)
def lH(k v:TE)r:=λc a G Q=>k c a G (TQ v r c Q)
def TU(Q:O->Sg->AH->Prop)a b G:=(a.map (·.1)).Nodup/\Q (.stab a) b G
def Aw(t:uh):=λc a G Q=>t c a G (TU Q)
def Ax:gZ:=λY a G Q=>Q (.tab []) a G
def TX n(c:cq)(N:Sg->AH->Prop)v o d G:=oV v λv=>oV o λo=>∃x C a b,o=.ref x/\G x=ac (.inst C a)/\G a=ac (.attrs b)/\iR df C n/\b.length<50/\rp v=ao/\N d (aE G a (.attrs ((n,v)::b)))
def TY(o:TE)n c N v a G:=o c a G (TX n c N v)
def nH(o:TE)(n:aN)(v:TE):TS:=λc a G N Y Y=>v c a G (TY o n c N)
def Gs(X:bR S)(t:uh)g:=∀{d r Z G e l}{Q:ae (aN×aA)->Sg->AH->Prop}{P:ae (V×V)->AH->Prop},Re r Z d G e->t X.c (ab r) G Q->lo S.nm r=l->(∀a c h f b,Re c h d f b->bF c=bF r->Q a (ab c) f->P (a.map λp=>(.str p.1,.d p.2)) b)->ru X.c X.env X.own g (bo l) e P
theorem TZ(h:Gs X t a)(d:a≠[])(f:a.length<=15)(e:g=a.map (λp=>ac p.1)/\vs=a.map (·.2)):nG X (Aw t) (.Dict g vs i):=λw r Z G y Q R q=>by
 refine aw e ?_;clear e;rintro rfl rfl;exact D7 X.hB (ps:=a) (h R q aa λb k l m c n o q=>⟨b,aa,q.1,λj s=>(.mk k l m c j _ n o s aa rfl q.2)⟩) (by
  clear h d f;induction a with
  |nil=>rfl
  |cons p a u=>exact bA (_::·) u) (by rw[gK];intro x v;refine au (bV.mp v) ?_;rintro p Y rfl;rfl) (by rw[aI,aI]) (λe=>d (qr.mp e)) (by rw[aI];exact f)
def Ay e:=j7 (C:=λY=>bP) e (λY Y Y=>ax) λY=>ao
theorem T0(h:fU e=ao)(c:Ay e=ao):ot [.Tuple a k p] e b=bg ak:=fU.ind (P:=λe=>Ay e=ao->ot [.Tuple a k p] e b=bg ak) h (λY Y Y Y=>rfl) (λY Y Y=>rfl) (λY Y Y h=>bv h pH) (λY Y Y=>rfl) (λY Y Y Y=>rfl) (λY Y Y Y Y=>rfl) (λY Y Y Y=>rfl) (λY Y Y Y Y=>rfl) (λY Y Y Y=>rfl) (λY Y Y Y=>rfl) (λY Y Y Y Y=>rfl) (λY Y Y Y Y=>rfl) (λY Y Y Y=>rfl) c
section
variable(S:dM)
abbrev dG st:=bB {t:TS//∀X:bR S,ik X t st}
abbrev rW b:=bB {t:TS//∀X:bR S,zT X t b}
abbrev qt e:=bB {t:gZ//∀X:bR S,nG X t e}
variable{S}(p:qn S)(ds:bP)
abbrev ui a:=bB {st:fv//∀X:bR S,Ab X st a}
def T1(n:aN)(q:cT):ui (S:=S) (.Name n q):=(eB S.nm n).bind λk=>aJ (gu S.names n) λb=>ac ⟨bK k.1,λX=>(λR h=>by refine aL (j5 X.nd k.2 R h) λa c s q=>sN _ a (.name (X.bd n b)) s c q)⟩
def T2(a b:aN)(e f:cT)(k:ah)(q:cT):ui (S:=S) (.Tuple [.Name a e,.Name b f] k q):=(eB S.nm a).bind λc=>(eB S.nm b).bind λd=>aJ (gu S.names a) λg=>aJ (gu S.names b) λi=>ac ⟨cV c.1 d.1,λX=>(λR h=>by refine au (oK.o h) λv j h=>cQ (l2.o h) ?_;rintro y z rfl l;refine aL (j5 X.nd c.2 R l) λw m n o=>aL (j5 X.nd d.2 m o) λr s t u=>sN _ r (.two j (X.bd a g) (X.bd b i)) (t.trans (n.cons _ _)) s u)⟩
def T3(a b c:aN)(g i j:cT)(k:ah)(q:cT):ui (S:=S) (.Tuple [.Name a g,.Name b i,.Name c j] k q):=(eB S.nm a).bind λd=>(eB S.nm b).bind λe=>(eB S.nm c).bind λf=>aJ (gu S.names a) λl=>aJ (gu S.names b) λm=>aJ (gu S.names c) λn=>ac ⟨ms d.1 e.1 f.1,λX=>(λR h=>by refine au (oK.o h) λG o h=>fa (l3.o h) ?_;rintro y z u rfl r;refine aL (j5 X.nd d.2 R r) λH s t v=>aL (j5 X.nd e.2 s v) λI w x A=>aL (j5 X.nd f.2 w A) λB C D E=>sN _ B (.three o (X.bd a l) (X.bd b m) (X.bd c n)) (D.trans ((x.trans (t.cons _ _)).cons _ _)) C E)⟩
def Az{C:ae Expr->Type}l(f:∀a b c e,C [.Name a c,.Name b e])d:=mx l (λx y=>fg (C:=λx=>C [x,y]) x (λa c=>fg (C:=λy=>C [.Name a c,y]) y (λb e=>f a b c e) λY=>d _) λY=>d _) d
def AA{C:ae Expr->Type}l(f:∀a b c e g h,C [.Name a e,.Name b g,.Name c h])d:=Ak l (λx y z=>fg (C:=λx=>C [x,y,z]) x (λa e=>fg (C:=λy=>C [.Name a e,y,z]) y (λb g=>fg (C:=λz=>C [.Name a e,.Name b g,z]) z (λc h=>f a b c e g h) λY=>d _) λY=>d _) λY=>d _) d
def AB e:=fg e (λn q=>T1 n q) λe=>j7 e (λd k q=>Az (C:=λd=>ui (S:=S) (.Tuple d k q)) d (λa b f g=>T2 a b f g k q) λd=>AA (C:=λd=>ui (S:=S) (.Tuple d k q)) d (λa b c f g h=>T3 a b c f g h k q) λY=>ak) λY=>ak
def T4 e:=rR (C:=λY=>ah) e (λg a Y=>fg (C:=λY=>ah) g (λx Y=>match x==("range":aN) with
 |true=>a.length
 |false=>0) λY=>0) λY=>0
def T5(b:ae Expr)(k:ah)(q:cT)(x:aN)(g:cT)(e:Expr)(c:cT):bB {t:TI//∀X:bR S,oI X t (.Tuple b k q) (.Call (.Name x g) [e] [] c)}:=
 aJ (x==aD "enumerate") λj=>aJ (S.names.lookup (aD "enumerate")==ac .globalImplicit) λf=>aJ (eN e) λl=>match m:eW df eM (aD "enumerate") with
  |some ak=>(p.E e).map λa=>⟨wI a.1,λX=>by rw[bC j];exact(λC r Z G D Q R h=>OB X.hB X.O X.hh (pR.k X.k (bC f)) (m) (ci (a.2 X) R h (λv n o s u w y z i h=>by refine au (oD.o h i) ?_;rintro d rfl f;refine au (dQ.o f) λA B q=>bi A (B.elim (λe=>.inl (e▸rfl)) (λe=>.inr (e▸rfl))) (.mk n o s y z q)) aa) (fh l) aa)⟩
  |_=>ak
abbrev uj a b:=bB {t:TI//∀X:bR S,oI X t a b}
def T6 f c:=j7 (C:=λf=>uj (S:=S) f c) f (λa k q=>rR (C:=λc=>uj (S:=S) (.Tuple a k q) c) c (λg d b=>fg (C:=λg=>uj (S:=S) (.Tuple a k q) (.Call g d [] b)) g (λx h=>iw (C:=λd=>uj (S:=S) (.Tuple a k q) (.Call (.Name x h) d [] b)) d (λe=>T5 p a k q x h e b) λY=>ak) λY=>ak) λY=>ak) λY=>ak
def rX(x f:Expr):uj (S:=S) x f:=match T4 f with
 |1=>(p.E f).map λa=>⟨mv a.1,λX=>(λy r Z G z Q R h=>y4 X.hh (ci (a.2 X) R h (λv g j k o w l m i h=>by refine mV (z8.o h i) ?_;rintro a b c rfl rfl rfl e;refine aL e ?_;rintro n rfl A q;refine aw (Aa n A) λs u=>bi _ (.range s u (by rw[Ac];rfl)) (.mk g j k l m q)) aa))⟩
 |_+1=>(p.E f).map λa=>⟨qh a.1,λX=>(λy r Z G z Q R h=>y4 X.hh (ci (a.2 X) R h (λv g j k o w l m i h=>by refine fa (z8.o h i) ?_;rintro a b c rfl e;refine aL e λn s u q=>?_;exact bi _ (.range s u aa) (.mk g j k l m q)) aa))⟩
 |0=>match T6 p x f with
  |some t=>ac t
  |none=>(p.E f).map λa=>⟨dk a.1,λX=>(λy r Z G z Q R h=>
   y4 X.hh (ci (a.2 X) R h (λv g j k o w l m i h=>by
    refine au (oD.o h i) ?_;rintro d rfl s;refine au (dQ.o s) λC B q=>aB B ?_ ?_<;>rintro rfl
    ·exact bi _ (.list rfl) (.mk g j k l m q)
    ·exact bi _ (.tuple rfl) (.mk g j k l m q)) aa))⟩
def T7(g:ae (Expr×Expr)):bB {t:uh//∀X:bR S,Gs X t g}:=g.rec (ac ⟨Gr,λX=>(λR h Y q=>q [] _ _ _ _ R aa h)⟩)
 λq Y R=>(p.E q.1).bind λk=>(p.E q.2).bind λv=>R.map λt=>⟨lH k.1 v.1 t.1,λX=>(λ{A r Z G B l Q P}R h a q=>ci (k.2 X) R h (λC D E H i I j b m h=>ci (v.2 X) j h (λJ L M N n T o c s h=>by refine au (oD.o h (m.shp c)) ?_;rintro d rfl h;refine au (dS.o h) ?_;rintro k rfl h;refine au (oD.o h s) ?_;rintro d rfl h;exact(t.2 X) o h ((b5 (c.trans b)).trans a) λe u w x f y z h=>q ((k,d)::e) u w x f y (z.trans (c.trans b)) h) ((b5 b).trans a)) a)⟩
noncomputable def Gu:(a:ae (bB Expr))->(vs:ae Expr)->bB {b:ae (Expr×Expr)//a=b.map (λp=>ac p.1)/\vs=b.map (·.2)}
 |some k::a,v::vs=>(Gu a vs).map λr=>⟨(k,v)::r.1,bA (ac k::·) r.2.1,bA (v::·) r.2.2⟩
 |[],[]=>ac ⟨[],aa,aa⟩
 |_,_=>ak
def T8(a:ae (bB Expr))(vs:ae Expr)(q:cT):qt S (.Dict a vs q):=(Gu a vs).bind λr=>aJ (fA 1 r.1.length) λh=>aJ (fA r.1.length 15) λb=>(T7 p r.1).map λt=>⟨Aw t.1,λX=>TZ (t.2 X) (λe=>by rw[e] at h;cases h) (lV b) r.2⟩
def AD ks vs q:=
 iw (C:=λks=>qt S (.Dict ks vs q)) ks (λl=>match l with
  |some l=>iw (C:=λvs=>qt S (.Dict [ac l] vs q)) vs (λm=>(p.E l).bind λk=>(p.E m).map λv=>match ds with
   |true=>⟨qo k.1 v.1,λX=>(λD r Z G g Q R h=>D7 X.hB (ps:=[(l,m)]) (ci (k.2 X) R h (λu E H I o w s c i h=>ci (v.2 X) s h (λJ t x y b L z a j h=>by refine au (oD.o h (i.shp a)) ?_;rintro d rfl A;refine au (oD.o A j) ?_;rintro e rfl B;refine au (dS.o B) ?_;rintro n rfl q;exact⟨[(n,e)],aa,aW aa,λj f=>(.mk t x y b j _ z (a.trans c) f aa rfl q)⟩) (b5 c)) aa) aa rfl rfl (iP _ _) (show 1<=15 by exact aX _ _))⟩
   |false=>⟨Ap k.1 v.1,λX=>(λD r Z G g Q R h=>Np X.hB (ps:=[(l,m)]) (ci (k.2 X) R h (λu E H I o w s c i h=>ci (v.2 X) s h (λJ t x y b L z a j h=>by refine au (oD.o h (i.shp a)) ?_;rintro d rfl A;refine au (oD.o A j) ?_;rintro e rfl B;refine au (dI.o B) ?_;rintro n rfl q;exact⟨[(n,e)],aa,aW aa,λj f=>(.mk t x y b j _ z (a.trans c) f aa rfl q)⟩) (b5 c)) aa) aa rfl rfl (iP _ _) (show 1<=15 by exact aX _ _))⟩) λY=>ak
  |none=>ak) λks=>match ks,vs with
 |[],[]=>ac ⟨wH,λX=>(λD r Z G g Q R h=>D3 X.hB (.inr (.inr aa)) λj f=>(.mk r Z G g j _ R aa f aa rfl h))⟩
 |ks,vs=>T8 p ks vs q
def T9(x:aN)(d:cT)(e:Expr)(q:cT):qt S (.Call (.Name x d) [e] [] q):=
 aJ (S.names.lookup x==ac .globalImplicit) λf=>aJ ((x==("__debug__":aN))==ax) λg=>aJ (!(x==("__name__":aN))) λb=>aJ (eN e) λc=>match j:eW df eM x,k:rb x with
  |some ak,ac u=>aJ (u==.type "list") λl=>(p.E e).map λa=>⟨Ao a.1,λX=>(λs r Z G t Q R h=>CY X.hB X.O (pR.k X.k (bC f)) (j) (k.trans (bA ac (bC l))) aa (fF (ci (a.2 X) R h (λv y z A m w n o i h=>kz (Gm.ok n o i h)) aa) (fh c)) (λe=>by rw[e] at b;revert b;decide+kernel) (bC g) (fh c) aa)⟩
  |_,_=>ak
def rY e:=
 t9 e (λa Y=>(p.L a).map λt=>⟨eg t.1,λX=>Gn (t.2 X)⟩)
 λe=>rS e (λf vs q=>AD p ds f vs q)
 λe=>F4 e (λl c m q=>t9 (C:=λl=>qt S (.BinOp l c m q)) l (λa h=>match c with
  |.Mult=>(p.L a).bind λt=>(p.E m).map λb=>⟨An t.1 b.1,λX=>SY (t.2 X) (b.2 X)⟩
  |_=>ak) λY=>ak)
 λe=>rR e (λg a q=>fg (C:=λg=>qt S (.Call g a [] q)) g (λx d=>iw (C:=λa=>qt S (.Call (.Name x d) a [] q)) a (λe=>T9 p x d e q) λY=>ak) λY=>ak) λY=>ak
def wM c e d:=aJ (fU e) λh=>
 fg (C:=λc=>dG S (.Assign [c] e d)) c (λn q=>aJ (gu S.names n) λb=>(eB S.nm n).bind λk=>match rY p ds e with
  |some f=>ac ⟨eu k.1 f.1,λX=>Ta k.2 b (my h) (f.2 X)⟩
  |none=>(p.E e).map λa=>⟨bS k.1 a.1,λX=>FF k.2 b (my h) (a.2 X)⟩)
 λc=>qk (C:=λc=>dG S (.Assign [c] e d)) c (λl m q=>(p.E l).bind λo=>(p.E m).bind λi=>(p.E e).map λv=>⟨ir o.1 i.1 v.1,λX=>Tc (my h) (o.2 X) (i.2 X) (v.2 X)⟩)
 λc=>j7 (C:=λc=>dG S (.Assign [c] e d)) c (λg k q=>aJ (Ay e) λj=>(AB (.Tuple g k q)).bind λst=>(p.E e).map λa=>⟨mu st.1 a.1,λX=>RG (st.2 X) (my (t:=ac (.Tuple g k q)) (l:=d.line) (env:=X.env) h) (T0 h j) (a.2 X)⟩)
 λY=>ak
def Ua(a b:aN)(g h:cT)(c d:Expr)(k l:ah)(q m f:cT):dG S (.Assign [.Tuple [.Name a g,.Name b h] k q] (.Tuple [c,d] l m) f):=
 (eB S.nm a).bind λi=>(eB S.nm b).bind λj=>aJ (S.names.lookup a==ac .local) λn=>aJ (S.names.lookup b==ac .local) λo=>aJ ((b==a)==ax) λe=>aJ (h.line==g.line) λs=>
  aJ (([c,d].any nt)==ax) λu=>aJ ([c,d].all (rq 8)==ax) λv=>aJ ([c,d].all (rr 8)==ax) λw=>(p.L [c,d]).map λt=>
  ⟨uf i.1 j.1 t.1,λX=>(λY r Z G Γ N C R Re x=>by refine MY X.O X.hh (X.k a _ (bC n) (aW aa)) (X.k b _ (bC o) (aW aa)) (Ar (t.2 X) Re x λvs r1 A B D E H q=>?_) (bC e) s (bC u) (bC v) (bC w);refine cQ (l2.o q) ?_;rintro y z rfl I;refine aL (j5 X.nd i.2 E I) λr2 J L M=>aL (j5 X.nd j.2 J M) λQ T U W=>qS y z aa (.mk Q A B T (j4.sub X.nd ?_) W);rw[<-b5 H];exact(U.trans (L.cons _ _)).trans (wB (bC e)))⟩
def Ub(a b c:aN)(j n o:cT)(d e f:Expr)(k x:ah)(q A l:cT):dG S (.Assign [.Tuple [.Name a j,.Name b n,.Name c o] k q] (.Tuple [d,e,f] x A) l):=
 (eB S.nm a).bind λs=>(eB S.nm b).bind λv=>(eB S.nm c).bind λw=>aJ (S.names.lookup a==ac .local) λB=>aJ (S.names.lookup b==ac .local) λD=>aJ (S.names.lookup c==ac .local) λE=>
  aJ ((b==a)==ax) λg=>aJ ((c==a)==ax) λh=>aJ ((c==b)==ax) λi=>aJ (n.line==j.line) λH=>aJ (o.line==j.line) λm=>
  aJ (([d,e,f].any nt)==ax) λI=>aJ ([d,e,f].all (rq 8)==ax) λJ=>aJ ([d,e,f].all (rr 8)==ax) λL=>(p.L [d,e,f]).map λt=>
  ⟨Gp s.1 v.1 w.1 t.1,λX=>(λφ r Z G Γ N C R Re M=>by refine zn X.O X.hh (X.k a _ (bC B) (aW aa)) (X.k b _ (bC D) (aW aa)) (X.k c _ (bC E) (aW aa)) (Ar (t.2 X) Re M λvs r1 Q T U W Y q=>?_) (bC g) (bC h) (bC i) H m (bC I) (bC J) (bC L);refine fa (l3.o q) ?_;rintro y z u rfl q1;refine aL (j5 X.nd s.2 W q1) λr2 R2 s2 q2=>aL (j5 X.nd v.2 R2 q2) λr3 R3 s3 q3=>aL (j5 X.nd w.2 R3 q3) λr4 R4 s4 q4=>lS y z u aa (.mk r4 Q T R4 (j4.sub X.nd ?_) q4);rw[<-b5 Y];exact((s4.trans ((s3.trans (s2.cons _ _)).cons _ _)).trans (((wB (bC g)).cons _ _).trans (wB (bC h)))).trans ((wB (bC i)).cons _ _))⟩
def AE d f k g q h e:=
 Az (C:=λd=>dG S (.Assign [.Tuple d k q] (.Tuple f g h) e)) d (λa b i j=>mx (C:=λf=>dG S (.Assign [.Tuple [.Name a i,.Name b j] k q] (.Tuple f g h) e)) f (λl m=>Ua p a b i j l m k g q h e) λY=>ak)
 λd=>AA (C:=λd=>dG S (.Assign [.Tuple d k q] (.Tuple f g h) e)) d (λa b c i j n=>Ak (C:=λf=>dG S (.Assign [.Tuple [.Name a i,.Name b j,.Name c n] k q] (.Tuple f g h) e)) f (λl m o=>Ub p a b c i j n l m o k g q h e) λY=>ak) λY=>ak
variable(ps:∀b,rW S b)
noncomputable def wN{C:fb->Type}(st:fb)(d:∀s,C s)(l:∀g e c,C (.Assign g e c))(m:∀h j e c,C (.AugAssign h j e c))(n:∀e c,C (.Expr e c))(o:∀e c,C (.Return e c))(q:∀t a b c,C (.If t a b c))(r:∀h k f i c,C (.For h k f i c))(u:∀t f i c,C (.While t f i c))(v:∀c,C (.Continue c))(w:∀a b c,C (.Raise a b c)):C st:=by
 cases st;case Assign g e c=>exact l g e c
 case AugAssign h j e c=>exact m h j e c
 case Expr e c=>exact n e c
 case Return e c=>exact o e c
 case If t a b c=>exact q t a b c
 case For h k f i c=>exact r h k f i c
 case While t f i c=>exact u t f i c
 case Continue c=>exact v c
 case Raise a b c=>exact w a b c
 all_goals exact d _
def Gv l g e f:=
 qk (C:=λl=>dG S (.AugAssign l g e f)) l (λo i q=>fg (C:=λo=>dG S (.AugAssign (.Subscript o i q) g e f)) o (λx m=>wF (C:=λe=>dG S (.AugAssign (.Subscript (.Name x m) i q) g e f)) e (λc a b=>match g,c with
  |.Add,.int c=>aJ (fU i) λn=>(eB S.nm x).bind λk=>(p.E i).map λi=>⟨As k.1 i.1 c,λX=>Th ((fU.ind (P:=λe=>∀h j d,Er e h j d=(do gq [d,h,j] (pN h j d);Es [d,h,j] [];bg .next)) n (λY Y Y Y Y Y=>rfl) (λY Y Y Y Y=>rfl) (λY Y Y Y Y Y=>rfl) (λY Y Y Y Y=>rfl) (λY Y Y Y Y Y=>rfl) (λY Y Y Y Y Y Y=>rfl) (λY Y Y Y Y Y=>rfl) (λY Y Y Y Y Y Y=>rfl) (λY Y Y Y Y Y=>rfl) (λY Y Y Y Y Y=>rfl) (λY Y Y Y Y Y Y=>rfl) (λY Y Y Y Y Y Y=>rfl) (λY Y Y Y Y Y=>rfl))) k.2 (i.2 X)⟩
  |_,_=>ak) λY=>ak) λY=>ak) λY=>ak
def Uc(e:Expr)(a:cT):dG S (.Return (ac e) a):=match ds with
 |true=>t9 (C:=λe=>dG S (.Return (ac e) a)) e (λb Y=>(p.L b).map λt=>⟨ue (eg t.1),λX=>Go (Gn (t.2 X))⟩) λY=>ak
 |false=>ak
def Ud e b:=(Uc p ds e b).or<|
 rS (C:=λe=>dG S (.Return (ac e) b)) e (λd vs q=>(AD p ds d vs q).map λf=>⟨ue f.1,λX=>Go (f.2 X)⟩) λe=>(p.E e).map λa=>⟨cD a.1,λX=>(λl r Z G m N C R Re h=>vP (ci (a.2 X) Re h (λv n g j k w c o i h=>(.mk g j c.e c.f (oV.o h i))) aa))⟩
def uk(st:fb):dG S st:=wN st (λY=>ak)
 (λA e c=>iw (C:=λA=>dG S (.Assign A e c)) A (λo=>j7 (C:=λe=>dG S (.Assign [o] e c)) e (λQ T U=>j7 (C:=λo=>dG S (.Assign [o] (.Tuple Q T U) c)) o (λJ k q=>AE p J Q k T q U c) λo=>wM p ds o (.Tuple Q T U) c) λe=>wM p ds o e c) λY=>ak)
 (λo op e c=>Gv p o op e c)
 (λe c=>aJ (fU e) λh=>(p.E e).map λa=>⟨dR a.1,λX=>RB (my h) (a.2 X)⟩)
 (λe c=>match e with
  |some e=>Ud p ds e c
  |none=>ak)
 (λt a b c=>(p.B t).bind λt=>(ps a).bind λa=>(ps b).map λb=>⟨cE t.1 a.1 b.1,λX=>(λj r Z G d N C R Re h=>Mo (mo (t.2 X) Re h (λv z B D u E H h=>by rw[<-b5 H];exact aF (λe=>(a.2 X) j z B D u N C R E (vB.t h e)) λe=>(b.2 X) j z B D u N C R E (vB.f h e)) aa))⟩)
 (λo it w W c=>match W with
  |[]=>aJ (fU it) λh=>(AB o).bind λst=>(rX p o it).bind λi=>(ps w).map λb=>⟨dP st.1 i.1 b.1,λX=>(λj r Z G d N C R Re L=>by
   refine Mw X.O X.hh (pZ ((i.2 X) j r Z G d _ Re L) λxs u q=>?_) (oM h);refine q _ λz B D E H q=>cf (λg l d=>∃r Z G,Internal.Re r Z j G d/\l=lo S.nm r/\dj st.val (dP.b b.val X.c R) g (ab r) G N) ⟨lo S.nm z,b5 H▸fJ X.nd,z,B,D,E,aa,q⟩ ?_ ?_
   ·intro x g l d f;refine dz f ?_;rintro r Z G y rfl L;refine jf ((st.2 X) y L) λM r2 a s R2 q=>?_;have conv:∀l d,KS S.nm j (λσ G=>dj st.val (dP.b b.val X.c R) g σ G N) l d->Wk (λl d=>∃r Z G,Internal.Re r Z j G d/\l=lo S.nm r/\dj st.val (dP.b b.val X.c R) g (ab r) G N) l d:=λl d k=>by refine k _ λr Z G y sb q=>⟨_,sb,r,Z,G,y,aa,q⟩
    exact bi M a (pS (s.sub X.nd) (SV.mono ((b.2 X) j r2 Z G d _ _ R R2 q) conv conv λY Y k=>k))
   ·intro l d f;refine dz f ?_;rintro r Z G y rfl L;exact(.mk r Z G y (fJ X.nd) L))⟩
  |_=>ak)
 (λt w W c=>match W with
  |[]=>(p.B t).bind λt=>(ps w).map λb=>⟨tY t.1 b.1,λX=>(λj r Z G d N C R Re h=>by
   refine au h λI f=>aK f λn h0=>?_;intro ee;refine My X.O (λn l d=>∃r Z G,Internal.Re r Z j G d/\l=lo S.nm r/\I n (ab r) G) (n:=n) ⟨_,fJ X.nd,r,Z,G,Re,aa,h0⟩ λn l d f=>dz f ?_;rintro r Z G y rfl h;refine mo (t.2 X) y (ee n _ _ h) (λv z B D u E H h=>⟨λe=>?_,λe=>?_⟩) aa
   ·have conv:∀l d,KS S.nm j (λσ G=>∃m,m<n/\I m σ G) l d->∃m,m<n/\Wk ((λn l d=>∃r Z G,Internal.Re r Z j G d/\l=lo S.nm r/\I n (ab r) G) m) l d:=λl d k=>by refine k _ λr Z G y sb q=>au q λm hm q=>bi m hm ⟨_,sb,r,Z,G,y,aa,q⟩
    rw[<-b5 H];exact SV.mono ((b.2 X) j z B D u _ _ R E (vB.t h e)) conv conv λY Y k=>k
   ·exact(.mk z B D E (by rw[<-b5 H];exact fJ X.nd) (vB.f h e)))⟩
  |_=>ak)
 (λc=>ac ⟨wx,λX=>FG⟩)
 (λa b c=>ac ⟨kK,λX=>FH⟩)
abbrev Gh:=ae (ah×ah×bP)
abbrev AF b:=bB {t:TS//∀X:bR S,oJ X.c X.env->jY X [] t b}
noncomputable def wO{C:(bR S->TS->Prop)}(a:∀k t,(∀X,C X t)->∀X,C X (qi k t))(b:∀k n t,S.nm[k]?=ac (ac n)->(∀X,C X t)->∀X,C X (gj k t))(c:∀k n t,S.nm[k]?=ac (ac n)->(∀X,C X t)->∀X,C X (tZ k t)):Gh->ah->bB {t:TS//∀X:bR S,C X t}->bB {t:TS//∀X:bR S,C X t}
 |[],_,t=>t
 |(l,k,z)::g,n,t=>match l==n with
  |false=>wO a b c g n t
  |true=>(wO a b c g n t).bind λt=>match z with
   |true=>ac ⟨qi k t.1,a k t.1 t.2⟩
   |false=>match fA 100 k with
    |false=>(match h:S.nm[k]? with
     |some (ac n)=>ac ⟨gj k t.1,b k n t.1 h t.2⟩
     |_=>ak)
    |true=>(match h:S.nm[k-100]? with
     |some (ac n)=>ac ⟨tZ (k-100) t.1,c (k-100) n t.1 h t.2⟩
     |_=>ak)
def Ue{b:ae fb}:Gh->ah->rW S b->rW S b:=wO (C:=λX t=>zT X t b) (λk t h X a=>FJ (h X a)) (λk n t e h X a=>FI e (h X a)) λk n t e h X a=>FK e (h X a)
def Uf{b:ae fb}:Gh->ah->AF (S:=S) b->AF (S:=S) b:=wO (C:=λX t=>oJ X.c X.env->jY X [] t b) (λk t h X q=>FJ (h X q)) (λk n t e h X q=>FI e (h X q)) λk n t e h X q=>FK e (h X q)
end
abbrev nI:=Sg->AH->(ae aA->Sg->AH->Prop)->Prop
def AG(F:ae aA->Sg->AH->(ae aA->Sg->AH->Prop)->Prop)a Q o b G:=F (a++o) b G Q
def Gx(a:nI)G K b:=a b G K
def fK(st:fv)(bd:nI):ae V->ae aA->Sg->AH->(ae aA->Sg->AH->Prop)->Prop
 |[],a,b,G,Q=>Q a b G
 |x::r,a,b,G,Q=>st x b (Gx bd G (AG (fK st bd r) a Q))
def Gy a k P:=LV.casesOn (motive:=λY=>Prop) (eA a k) P (λY=>aC) (λY=>aC)
def AI(k:ae aA->Sg->AH->Prop)w a G:=oD w λd=>k [d] a G
def fi(a:TE)c:=λb G k=>a c b G (AI k)
def Ug(d:TE)c k b a G:=vB b (d c a G (AI k)) (k [] a G)
def AJ(t:TB)a c:=λb G k=>t c b G (Ug a c k)
def ul:ae ah->Sg->Sg
 |[],a=>a
 |k::b,a=>ef (ul b a) k .u
def wP(l:ae ah)(a:Sg)(P:Prop):Prop:=l.rec P λk Y R=>Gy a k R
def Uh a(Q:(Wv->Sg->AH->Prop))b c G:=Q (.v (.d (.list b))) (ul a c) G
def Ui b a st(f:cq->nI)c Q d e G:=wP a e (d.length<=b/\fK st (f c) d [] e G (Uh a Q))
def nJ b a st(d:TI)e:=λc f G Q=>d c f G (Ui b a st e c Q)
abbrev g7:=nJ 100000
abbrev Uj:=nJ 300
def Uk k b(N:Sg->AH->Prop)c a G:=wS (ul b a) k (.o (.list c)) λa=>N a G
def Ul k a st(e:cq->nI)c N b d G:=wP a d (b.length<=100000/\fK st (e c) b [] d G (Uk k a N))
def AK(k:ah)(a:ae ah)(st:fv)(b:TI)(d:cq->nI):TS:=λc e G N Y Y=>b c e G (Ul k a st d c N)
def eO(l:ae RV):ah->RV->ae RV:=l.rec (λY Y=>[]) λx r R n y=>n.casesOn (y::r) λn=>x::R n y
def fV:ae ah->ae RV->ae RV
 |[],r=>r
 |k::a,r=>eO (fV a r) k .u
theorem Um(r:ae RV)(k:ah)(y:RV):ab (eO r k y)=ef (ab r) k y.ab:=by
 induction r generalizing k with
 |nil=>rfl
 |cons x r a=>cases k with
  |zero=>rfl
  |succ k=>exact bA (x.ab::·) (a k)
theorem Un(a:ae ah)(r:ae RV):ab (fV a r)=ul a (ab r):=by
 induction a with
 |nil=>rfl
 |cons k a b=>show ab (eO _ _ _)=ef _ _ _;rw[Um,b];rfl
theorem Gz(r:ae RV)(k:ah):bF (eO r k .u)=eO (bF r) k .u:=by
 induction r generalizing k with
 |nil=>rfl
 |cons x r a=>cases k with
  |zero=>rfl
  |succ k=>exact bA (x.sh::·) (a k)
theorem AL(h:bF r=bF b):bF (fV a r)=bF (fV a b):=by
 induction a with
 |nil=>exact h
 |cons k a c=>show bF (eO _ _ _)=bF (eO _ _ _);rw[Gz,Gz,c]
theorem Uo(h:eA (ab r) k=.u):eO r k .u=r:=by
 induction r generalizing k with
 |nil=>rfl
 |cons x r a=>cases k with
  |zero=>cases x<;>first|rfl|cases h
  |succ k=>exact bA (x::·) (a h)
theorem Gy.o(h:Gy a k P):eA a k=.u/\P:=by
 have h:LV.casesOn (motive:=λY=>Prop) (eA a k) P (λY=>aC) (λY=>aC):=h;cases e:eA a k with
 |u=>rw[e] at h;exact aF aa h
 |_=>rw[e] at h;exact h.elim
theorem wP.o(h:wP b (ab r) P):fV b r=r/\P/\∀k∈b,eA (ab r) k=.u:=by
 induction b with
 |nil=>exact ca aa h λY h=>by cases h
 |cons k b c=>refine aw (Gy.o h) λe h=>bu (c h) λd h a=>ca (by show eO _ _ _=_;rw[d];exact Uo e) h λj f=>(bj.mp f).elim (λq=>q▸e) (a j)
theorem GA(y):eO (A++x::B) A.length y=A++y::B:=by
 induction A with
 |nil=>rfl
 |cons a A b=>exact bA (a::·) b
theorem Up(h:j≠k):eO (eO r j x) k y=eO (eO r k y) j x:=by
 induction r generalizing j k with
 |nil=>rfl
 |cons a r b=>cases j with
  |zero=>cases k with
   |zero=>exact bv aa h
   |succ k=>rfl
  |succ j=>cases k with
   |zero=>rfl
   |succ k=>exact bA (a::·) (b λe=>h (bA (·+1) e))
theorem Uq:eO (eO r k x) k y=eO r k y:=by
 induction r generalizing k with
 |nil=>rfl
 |cons a r b=>cases k with
  |zero=>rfl
  |succ k=>exact bA (a::·) b
theorem AM(h:k∈a)(r:ae RV)(y:RV):fV a (eO r k y)=fV a r:=by
 induction a with
 |nil=>cases h
 |cons j a b=>
  show eO _ _ _=eO _ _ _;by_cases e:k∈a
  ·rw[b e]
  ·obtain rfl:k=j:=(bj.mp h).resolve_right e;clear b h;have:∀a:ae ah,k∉a->fV a (eO r k y)=eO (fV a r) k y:=λa hk=>by
    induction a with
    |nil=>rfl
    |cons i a b=>show eO _ _ _=eO (eO _ _ _) _ _;rw[b λm=>hk (ba _ m),Up λq=>hk (by rw[q];exact aP)]
   rw[this a e,Uq]
section
variable{S:dM}{X:bR S}{φ Z:OL}{r:ae RV}{G Γ:AH}
def lI S c(st:fv)d:=∀(X:bR S){φ r Z G Γ P x},Re r Z φ G Γ->st x (ab r) P->∃a b,lz X.env X.own d x (lo S.nm r) a/\j4 (lo S.nm b) a/\Re b Z φ G Γ/\fV c b=fV c r/\P (ab b)
theorem AN(d:eR b=ao)(hk:b[k]?=ac (ac n))(R:Re r Z φ G Γ)(h:wS (ab r) k (.v v) P):∃a,a=eO r k (.v v)/\Re a Z φ G Γ/\j4 (lo b a) ((n,v)::lo b r)/\P (ab a):=by refine dz (wS.o (y:=.v v) h) ?_;rintro A x B rfl c q;exact xN _ (by rw[<-c,GA]) (R.val aa) (.of (lF d (by rw[c];exact hk) aa)) q
theorem Re.out(R:Re r Z ((D,o)::φ) G Γ):Re r Z φ G (cL Γ D):=by refine aw (wn R.f) λf e=>⟨by rw[R.e];exact e.symm,f,R.i,R.n⟩
theorem Re.mid(R:Re r Z ((D,o)::φ) G Γ)(a):Γ D=ac o/\Re r Z ((D,a)::φ) G (aE Γ D a):=by refine bu (wm R.f a) λf e g=>aF (by rw[R.e];exact g) ⟨by rw[R.e];exact e.symm,f,R.i,R.n⟩
def ix(S a:dM)b(d:ae ah)(c:ro):=
 a.names=c.names/\
 a.lv=ax/\
 eR a.nm=ao/\
 p9 a.nm=ao/\
 eR b=ao/\
 (∀n,gu a.names n=ao->a.names.lookup n=ac .local)/\
 (∀r:ae RV,d5 (lo b r) (lo S.nm r))/\
 (∀r:ae RV,md ((lo b r).map (·.1)) c.names S.names=ao)/\
 ∀r:ae RV,(∀k∈d,eA (ab r) k=.u)->lo a.nm r=lo b r
def ix.nm{S a:dM}(b:ix S a c d e):=b.1
def ix.lv{S a:dM}(b:ix S a c d e):=b.2.1
def ix.nd{S a:dM}(b:ix S a c d e):=b.2.2.1
def ix.db{S a:dM}(b:ix S a c d e):=b.2.2.2.1
def ix.cd{S a:dM}(b:ix S a c d e):=b.2.2.2.2.1
def ix.loc{S a:dM}(b:ix S a c d e):=b.2.2.2.2.2.1
def ix.sub{S a:dM}(b:ix S a c d e):=b.2.2.2.2.2.2.1
def ix.cap{S a:dM}(b:ix S a c d e):=b.2.2.2.2.2.2.2.1
def ix.fst{S a:dM}(b:ix S a c d e):=b.2.2.2.2.2.2.2.2
def Em(S:dM)D c m φ r b(K:ae aA->Sg->AH->Prop)l Γ:=∀d:Prop,(∀(o:ae aA)(a:ae RV)(f:OL)(e:AH),o.length<=m->Re a f ((D,.list (b++o))::φ) e Γ->d5 (lo S.nm a) l->bF (fV c a)=bF (fV c r)->K o (ab a) e->d)->d
theorem Em.mk{S:dM}{φ:OL}{r:ae RV}{K:ae aA->Sg->AH->Prop}{Γ:AH}(o:ae aA)(a:ae RV)(d:OL)(b:AH)(f:o.length<=m)(g:Re a d ((D,.list (c++o))::φ) b Γ)(h:d5 (lo S.nm a) l)(i:bF (fV e a)=bF (fV e r))(j:K o (ab a) b):Em S D e m φ r c K l Γ:=λY k=>k o a d b f g h i j
def mB(X:bR S)(g:cq->nI)m f e(c:aV->dK->jS mc):=∀{D:aZ}{φ:OL}{r:ae RV}{Z:OL}{G Γ:AH}{a:ae aA}{K:ae aA->Sg->AH->Prop},Re r Z ((D,.list a)::φ) G Γ->a.length+m<=100000->g X.c (ab r) G K->
 ze X.c X.env X.own e (bo (lo S.nm r)) Γ λb d=>(b=ao->IV X.c X.env X.own (c (.ref D) X.env) (lo S.nm r) d (Em S D f m φ r a K))/\(b=ax->Em S D f m φ r a K (lo S.nm r) d)
theorem GB{g:ae ah}{e:TE}{b:Expr}(j:dE X e b){D:aZ}{r f:ae RV}{a:ae aA}{K:ae aA->Sg->AH->Prop}(R:Re r Z ((D,.list a)::φ) G Γ)(k:bF r=bF f)(l:a.length+1<=100000)(h:e X.c (ab r) G (AI K)):
 IV X.c X.env X.own (nv b (.ref D) X.env) (lo S.nm r) Γ (Em S D g 1 φ f a K):=
 MC (ci j R h (λv m n o p w q c i s=>by refine au (oD.o s i) ?_;rintro d rfl t;refine aw (q.mid (.list (a++[d]))) λu x=>sN d a aa u (bn (uo l) (aX _ _)) (.mk ([d]) m n o (cO _) x (by rw[b5 c];exact fJ X.nd) (AL (c.trans k)) t)) aa)
theorem GC(b:dE X c a):mB X (fi c) 1 ks [] (nv a):=λR d h=>DL ⟨λY=>GB b R aa d h,λe=>nomatch e⟩
def uq(S:dM)D f m φ a g(F:ae V->ae aA->Sg->AH->Prop)b l Γ:=∀d:Prop,(∀(c:ae RV)(h:OL)(e:AH)(o:ae aA),(a++o).length+m*b.length<=100000->Re c h ((D,.list (a++o))::φ) e Γ->l=lo S.nm c->bF (fV f c)=bF g->F b o (ab c) e->d)->d
theorem uq.mk(c)(e)(d)(o)(f:(a++o).length+m*b.length<=100000)(g:Re c e ((D,.list (a++o))::φ) d Γ)(h:l=lo S.nm c)(i:bF (fV j c)=bF k)(n:F b o (ab c) d):uq S D j m φ a k F b l Γ:=λY p=>p c e d o f g h i n
theorem GD{y:cq->nI}{m:ah}{t:ae ah}{u:ae Expr}{g:aV->dK->jS mc}{st:fv}{T:Expr}(hc:mB X y m t u g)(ht:lI S t st T){D:aZ}{d:ae aA}{U:ae RV}{Q:ae aA->Sg->AH->Prop}:
 vW X.c X.env X.own T u (g (.ref D) X.env) (uq S D t m φ d U λc o A G=>fK st (y X.c) c o A G Q):=λx c l Γ i=>by
 refine i _ λr1 Z1 G1 o n R1 e B h=>?_;subst e;refine Kr (ht X R1 h) λv r2 a s C e2 E=>?_;have j:(d++o).length+m+m*c.length<=100000:=by rw[cG,Nat.mul_succ] at n;exact aj [_,_,_] 0x10f08ae6e8e1e9192010c08ae6e8e1e99210 aa n
 have W:∀{l l' Γ},Em S D t m φ r2 (d++o) (AG (fK st (y X.c) c) o Q) l Γ->(∀{l0},d5 l0 l->d5 l0 l')->Wk (uq S D t m φ d U (λc o A G=>fK st (y X.c) c o A G Q) c) l' Γ:=λe f=>by refine e _ λo2 r3 Z3 G3 hm H w I k=>⟨lo S.nm r3,f w,.mk r3 Z3 G3 (o++o2) (by rw[<-cs,b7];exact aj [_,_,_,_] 0x10f08ae6e8e1e9293010c1310c08ae6e8e1e92910 aa hm j) (by rw[<-cs];exact H) aa (by rw[I,e2];exact B) k⟩
 have w:=s.sub X.nd;refine bi v a λB S R=>aM (hc C (aj [_,_,_] 0x10f08ae6e8e1e91010c08ae6e8e1e92910 aa j) E B S (R.sub λY Y e=>w.lookup e)) λb s' p=>p _ λh' J G' e S' x' q=>(.mk h' J G' e S' x' ⟨λL M S2 C=>aM (q.1 L M S2 (C.sub λY Y e=>w.lookup e)) λY h1 p=>?_,λL=>W (q.2 L) λz=>z.trans w⟩)
 refine mX p λE N G2 l2 e S3 x3 H z=>sP E N G2 l2 e S3 x3 H (W z id)
def Ur st d c(k:ae aA->Sg->AH->Prop)b a G:=b.length<=300/\fK st (fi d c) b [] a G (λo a G=>o.length<=300/\k o a G)
def wQ st(a:TI)b c:=λd G k=>a c d G (Ur st b c k)
theorem Us{b:ae ah}{st:fv}{t:TI}{f:TE}{y z g j c:Expr}{a:ro}{m:cT}(A:oI X t g j)(B:lI S b st g)(C:dE X f c)(E:∀x,gh j X.env x=bg x):
 mB X (wQ st t f) 300 b [] (wb c y z g j a m):=λ{D φ r Z G Γ n K}R H h=>
 DL ⟨λY=>MN X.O X.hh (pZ (A _ r Z G Γ _ R h) λxs I q=>by refine q _ λu J L M v q=>cf (uq S D b 1 φ n (fV b r) λd o p G=>fK st (fi f X.c) d o p G λo p G=>o.length<=300/\K o p G) ⟨lo S.nm u,by rw[b5 v];exact fJ X.nd,.mk u J L [] (by rw[c8];have:=q.1;exact aj [_,_] 0x10f08ae6e8e1e91b0110c08ae6e8e1e9c82e1e110cc82e1e0 aa H this) (by rw[c8];exact M) aa (AL v) q.2⟩ (GD (GC (ks:=b) C) B) λl N i=>i _ λQ T U o w W e s k=>?_;subst e;exact(.mk o Q T U k.1 W (fJ X.nd) s k.2)) E,λe=>nomatch e⟩
theorem Ut{f:dM}{t:ae (bB aN)}{c:ae ah}{u:ro}{st:fv}{p:cq->nI}{m:ah}{g:ae Expr}{b:aV->dK->jS mc}{v:Expr}(H:ix S f t c u)(C:lI f c st v)(E:∀X:bR f,mB X p m c g b)(R:Re r Z φ G Γ){a:ae V}{Q:ae aA->Sg->AH->Prop}
 (I:m*a.length<=100000)(w:fV c r=r/\∀k∈c,eA (ab r) k=.u)(h:fK st (p X.c) a [] (ab r) G Q):
 kE X.c X.env u v g b (lo t r) a Γ λJ q=>∃s L x,Re s L φ x q/\bF (fV c s)=bF r/\Q J (ab s) x:=by
 intro d D O y kc M;let z:bR f:=⟨X.c,d,[d.locals],O,by rw[H.nm];exact y,X.hB,X.rm,H.nd,H.db,λn N=>pR.bnd (by rw[H.nm];exact y) (H.loc n N),λe=>by rw[H.lv] at e;cases e⟩
 refine cf (uq f D c m φ [] (fV c r) λj o T G=>fK st (p X.c) j o T G Q) ⟨lo f.nm r,by rw[H.fst r w.2];exact fJ H.cd,.mk r Z G [] (by rw[c8];exact bn (fT (dZ _)) I) (R.into M _) aa rfl h⟩ (GD (X:=z) (E z) C) λl Γ i=>i _ λU W Y o A B e sh h=>bi o (B.mid (.list o)).1 ⟨U,W,Y,B.out,sh.trans (bA bF w.1),h⟩
end
theorem Re.setU(R:Re r Z b G c)(k):Re (eO r k .u) Z b G c:=by
 by_cases h:k<r.length
 ·have a:r=r.take k++r[k]::r.drop (k+1):=by rw[<-vU h,Fz]
  rw[a] at R;have:=R.val (y:=.u) aa;rw[<-GA (x:=r[k]) .u,<-a,(by rw[v8];exact bQ (aj [_,_] 72762862608 aa (qj (aj [_,_] 72762858512 aa h:k<=r.length))) (aj [_,_] 72747146256 aa (qj (aj [_,_] 72762858512 aa h:k<=r.length))):(r.take k).length=k)] at this;exact this
 ·have:eO r k .u=r:=by
   clear R;induction r generalizing k with
   |nil=>rfl
   |cons x r d=>cases k with
    |zero=>exact bv (Uu _) h
    |succ k=>exact bA (x::·) (d k λq=>h (Uv q))
  rw[this];exact R
theorem Re.rs(R:Re r Z c G d):∀b,Re (fV b r) Z c G d:=λg=>g.rec
 (R)
 (λk b a=>a.setU k)
theorem Uw(h:kE A n q r o d p g G F)(k:∀m G,F m G->s m G):kE A n q r o d p g G s:=λj D O t u v=>by refine aL (h j D O t u v) λcj a b c=>cf cj a b λl G i=>let⟨m,e,f⟩:=c l G i;⟨m,e,k _ _ f⟩
theorem wR{X:bR S}{st:fv}(H:ix S t u g v)(w:lI t g st x)(y:∀X:bR t,mB X z m g n d)(A:m*b<=100000)(R:Re r Z B G C){Q:ae aA->Sg->AH->Prop}
 (h:wP g (ab r) (c.length<=b/\fK st (z X.c) c [] (ab r) G λf D G=>Q f (ul g D) G))(q:∀f j o l i,Re j o B l i->bF j=bF r->Q f (ab j) l->P f i):
 kE X.c X.env v x n d (lo u r) c C P:=by refine bu (wP.o h) λe p=>aw p λE h=>λa=>Uw (Ut H w y R (bn (ur m E) A) ⟨e,a⟩ h) λf s k=>dz k λj o l I J k=>q f _ o l s (I.rs g) J (by rw[Un];exact k)
theorem GF{X:bR S}{st:fv}(H:ix S l n c d)(e:S.lv=ao)(s:lI l c st o)(t:∀X:bR l,mB X u m c f (nv g))(v:m*b<=100000)(w:oI X y o a)
 (hk:d.kind=.function)(i:gi d.names S.names=ao)(z:∀x,gh a X.env x=bg x):dE X (nJ b c st y u) (.ListComp g [⟨o,a,f,0⟩] d A):=λB r Z G C Q R h=>by refine OD (lo n r) X.O (X.ei e).1 X.hh (pZ (by have:=w B r Z G C _ R h;exact this) λT D q=>?_) (H.sub r) hk i (H.cap r) z;refine q _ ?_;clear q;intro U W Y E p q;rw[<-b5 (nm:=n) p];exact wR H s t v E q λys I J L M N j k=>KE.up p (.mk I J L (.v _) N j aa k)
theorem Ux{X:bR S}{st:fv}(E:S.nm[k]?=ac (ac n))(H:ix S u v e d)(f:S.lv=ao)(I:lI u e st w)(J:∀X:bR u,mB X L m e g (nv i))(M:m*b<=100000)(T:oI X U w a)
 (hk:d.kind=.function)(j:gi d.names S.names=ao)(W:∀x,gh a X.env x=bg x)(Y:S.names.lookup n=ac .local)(l:(d.names.any λ(m,k)=>m==n&&(k==.local||k==.cell))=ax)(c:(py.line==o.line)=ao):
 ik X (bS k (nJ b e st U L)) (.Assign [.Name n py] (.ListComp i [⟨w,a,g,0⟩] d o) z):=λφ r Z G Γ N C R Re h=>by refine OE (lo v r) X.O (X.ei f).1 X.hh (pZ (by have:=T φ r Z G Γ _ Re h;exact this) λxs h1 q=>?_) (H.sub r) hk j (H.cap r) Y l c W;refine q _ ?_;clear q;intro r1 Z1 G1 R1 D q;rw[<-b5 (nm:=v) D];refine wR (Q:=λp s G=>wS s k (.v (.d (.list p))) λs=>N s G) H I J M R1 q λp r' Z' G' h2 R' t q=>dz (wS.o (y:=.v (.d (.list p))) q) ?_;rintro A x B rfl hl q;exact(.mk _ Z' G' (R'.val aa) (by rw[<-b5 D,<-b5 t];exact lF X.nd (by rw[hl];exact E) aa) q)
theorem Uy{X:bR S}{st:fv}(D:S.nm[k]?=ac (ac n))(H:ix S u v f c)(g:S.lv=ao)(E:lI u f st i)(I:∀X:bR u,mB X J m f [] (wb j i a L M c d))(T:m*b<=100000)(U:oI X W i a)
 (hk:c.kind=.function)(l:gi c.names S.names=ao)(Y:∀x,gh a X.env x=bg x)(hy:S.names.lookup n=ac .local)(o:(c.names.any λ(m,k)=>m==n&&(k==.local||k==.cell))=ax)(e:(py.line==d.line)=ao):
 ik X (bS k (nJ b f st W J)) (.Assign [.Name n py] (.ListComp j [⟨i,a,[],0⟩,⟨L,M,[],0⟩] c d) w):=λφ r Z G Γ N C R Re h=>by refine OP (lo v r) X.O (X.ei g).1 X.hh (pZ (by have:=U φ r Z G Γ _ Re h;exact this) λxs h1 q=>?_) (H.sub r) hk l (H.cap r) hy o e Y;refine q _ ?_;clear q;intro r1 Z1 G1 R1 z q;rw[<-b5 (nm:=v) z];refine wR (Q:=λp s G=>wS s k (.v (.d (.list p))) λs=>N s G) H E I T R1 q λp r' Z' G' h2 R' t q=>dz (wS.o (y:=.v (.d (.list p))) q) ?_;rintro A x B rfl hl q;exact(.mk _ Z' G' (R'.val aa) (by rw[<-b5 z,<-b5 t];exact lF X.nd (by rw[hl];exact D) aa) q)
theorem Uz{X:bR S}{st:fv}(z:S.nm[k]?=ac (ac n))(H:ix S s t e c)(f:S.lv=ao)(E:lI s e st u)(I:∀X:bR s,mB X J 1 e [] (nv g))(L:oI X M u a)
 (hk:c.kind=.function)(i:gi c.names S.names=ao)(T:∀x,gh a X.env x=bg x)(U:S.names.lookup n=ac .local)(j:(c.names.any λ(m,k)=>m==n&&(k==.local||k==.cell))=ax)(b:(W.line==l.line)=ao):
 ik X (AK k e st M J) (.Assign [.Name n W] (.ListComp g [⟨u,a,[],0⟩] c l) v):=λY r Z G Γ N C R Re h=>by refine ON (lo t r) X.O (X.ei f).1 X.hh (pZ (by have:=L Y r Z G Γ _ Re h;exact this) λxs h1 q=>?_) (H.sub r) hk i (H.cap r) U j b T;refine q _ ?_;clear q;intro r1 Z1 G1 R1 w q;rw[<-b5 (nm:=t) w];refine wR (Q:=λd o G=>wS o k (.o (.list d)) λo=>N o G) H E I (jT _) R1 q λd r' Z' G' h2 R' p q D hD=>dz (wS.o (y:=.o D (.list d)) q) ?_;rintro A x B rfl hl q;exact(.mk _ _ G' (R'.new hD (.list d)) (by rw[<-b5 w,<-b5 p];exact lF X.nd (by rw[hl];exact z) aa) q)
def j9(a:ae (aN×hZ))(l:ae (bB aN)):ae (bB aN):=l.rec [] λn Y R=>n.casesOn (ak::R) λn=>(match a.lookup n==ac .free with|true=>ac n|false=>ak)::R
theorem j9.q3:j9 a (ac n::r)=((match a.lookup n==ac .free with
 |true=>ac n
 |false=>ak)::j9 a r):=aa
def AO(l:ae (bB aN)):ah->aN->ae (bB aN):=l.rec (λY Y=>[]) λx r R n y=>n.casesOn (ac y::r) λn=>x::R n y
def rZ(l:ae (aN×ah))(a:ae (bB aN)):ae (bB aN):=l.rec a λp Y R=>AO R p.2 p.1
noncomputable def gP(a:ae (aN×ah))(b:ae (aN×hZ)):=a.filter λp=>b.lookup p.1==ac .local
def ut c d a b:=eR (rZ (gP d a) (j9 a c))&&p9 (rZ (gP d a) (j9 a c))&&eR (j9 a c)&&gi a b&&(j9 a c).all (λ|some x=>a.lookup x==ac .free&&b.lookup x==ac .cell&&a.contains (x,.free)|none=>ao)&&((gP d a).all λp=>c[p.2]?==ac ak)&&decide ((gP d a).map (·.2)).Nodup&&a.all (λp=>p.2 !=.cell)
theorem UA(c:eR b=ao):∀{r},∀p∈lo (j9 d b) r,p∈lo b r:=by
 induction b with
 |nil=>intro r p h;cases r<;>cases h
 |cons n b a=>
  intro r p h
  cases r with
  |nil=>cases n with
   |none=>cases h
   |some n=>rw[j9.q3] at h;split at h<;>cases h
  |cons x r=>cases n with
   |none=>have:=@a c r p;cases x<;>exact this h
   |some n=>
    have a:=@a ((eV.mp (show(!b.contains (ac n)&&eR b)=ao from c)).2) r p;rw[j9.q3] at h;split at h
    ·cases x with
     |u=>exact a h
     |v z=>exact(bj.mp h).elim (λe=>e▸aP) λh=>ba _ (a h)
     |o j z=>exact(bj.mp h).elim (λe=>e▸aP) λh=>ba _ (a h)
    ·cases x with
     |u=>exact a h
     |v z=>exact ba _ (a h)
     |o j z=>exact ba _ (a h)
theorem UB(h:eA (ab r) k=.u)(a:b[k]?=ac ak\/b[k]?=ak):lo (AO b k x) r=lo b r:=by
 induction b generalizing r k with
 |nil=>rfl
 |cons n b c=>cases r with
  |nil=>cases k with
   |zero=>refine aB a ?_ ?_<;>clear a<;>intro a<;>cases a;rfl
   |succ k=>cases n<;>rfl
  |cons y r=>cases k with
   |zero=>
    refine aB a ?_ ?_<;>clear a<;>intro a
    ·cases a;cases y<;>first|rfl|cases h
    ·cases a
   |succ k=>have:=c (r:=r) (k:=k) h (a);cases n<;>cases y<;>first|exact this|exact bA (_::·) this
theorem UC(h:k≠j):(AO a k x)[j]?=a[j]?:=by
 induction a generalizing k j with
 |nil=>rfl
 |cons n a b=>cases k with
  |zero=>cases j with
   |zero=>exact bv aa h
   |succ j=>rfl
  |succ k=>cases j with
   |zero=>rfl
   |succ j=>exact b λe=>h (bA (·+1) e)
theorem UD{k:ah}(h:a[k]?=ac ak):(j9 c a)[k]?=ac ak:=by
 induction a generalizing k with
 |nil=>cases h
 |cons n a b=>cases k with
  |zero=>cases h;rfl
  |succ k=>cases n<;>exact b h
theorem UE:∀{l:ae (aN×ah)},j∉l.map (·.2)->(rZ l b)[j]?=b[j]?:=by
 intro c;induction c with
 |nil=>exact@λY=>rfl
 |cons d l a=>exact@λh=>by obtain⟨x,k⟩:=d;exact(UC λe=>h (by rw[<-e];exact aP)).trans (a λm=>h (ba _ m))
theorem UF:∀{l:ae (aN×ah)},(l.map (·.2)).Nodup->(∀p∈l,c[p.2]?=ac ak)->(∀k∈l.map (·.2),eA (ab r) k=.u)->lo (rZ l c) r=lo c r:=by
 intro f;induction f with
 |nil=>exact@λY Y Y=>rfl
 |cons g l b=>exact@λa d e=>by obtain⟨x,k⟩:=g;have a:=nk.mp a;exact(UB (e k aP) (.inl ((UE a.1).trans (d (x,k) aP)))).trans (b a.2 (λp h=>d p (ba _ h)) λj i=>e j (ba _ i))
theorem mC(c:eR S.nm=ao)(h:ut S.nm d a.names S.names=ao):
 ix S ⟨rZ (gP d a.names) (j9 a.names S.nm),a.names,ax,[]⟩ (j9 a.names S.nm) ((gP d a.names).map (·.2)) a/\gi a.names S.names=ao:=by
 unfold ut at h;simp only[fD] at h;refine aw h λg=>aw g λi=>aw i λj=>aw j λk=>aw k λl=>aw l λm=>aw m λo q=>?_;intro s t u v w y;refine aF ⟨aa,aa,o,q,s,λn b=>(by
  unfold gu at b;split at b
  ·assumption
  ·rename_i e;have:=gK.mp y _ (mem_of_lookup e);cases this
  ·cases b),λr p f=>fJ c p (UA c p f),λr=>?_,λr z=>UF (aW w) (λp f=>UD (bC (gK.mp v p f))) z⟩ t
 unfold md;refine gK.mpr λx A=>au (bV.mp A) ?_;rintro p f rfl;exact gK.mp u _ (wp (n:=p.1) (x:=p.2) f)
section
variable{S:dM}(p:qn S)(ds:bP)
abbrev oN(S:dM)(a:ro):dM:=⟨rZ (gP S.ct a.names) (j9 a.names S.nm),a.names,ax,[]⟩
def wT(S)(d)(c):=
 fg (C:=λc=>bB {st:fv//lI S d st c}) c (λn q=>(eB S.nm n).bind λk=>aJ (gu S.names n) λb=>aJ (d.contains k.1) λm=>ac ⟨bK k.1,(λX Y Y Y Y Y Y Y R h=>by refine cP (AN X.nd k.2 R h) ?_;rintro j rfl e s q;exact Cg _ _ (.name (X.bd n b)) s e (AM (oq.mp m) _ _) q)⟩)
 λc=>j7 (C:=λc=>bB {st:fv//lI S d st c}) c (λf k q=>Az (C:=λf=>bB {st:fv//lI S d st (.Tuple f k q)}) f (λa b E G=>(eB S.nm a).bind λg=>(eB S.nm b).bind λi=>aJ (gu S.names a) λl=>aJ (gu S.names b) λo=>aJ (d.contains g.1) λr=>aJ (d.contains i.1) λt=>ac ⟨cV g.1 i.1,(λX Y Y Y Y Y Y Y R h=>by refine au (oK.o h) λH u h=>cQ (l2.o h) ?_;rintro y z rfl v;refine cP (AN X.nd g.2 R v) ?_;rintro I rfl w x A;refine cP (AN X.nd i.2 w A) ?_;rintro j rfl e B D;exact Cg _ _ (.two u (X.bd a l) (X.bd b o)) (B.trans (x.cons _ _)) e (by rw[AM (oq.mp t),AM (oq.mp r)]) D)⟩) λY=>ak) λY=>ak
def GG(g:dM)(k)(a)(d):bB {l:cq->nI//∀X:bR g,mB X l 1 k d (nv a)}:=match d with
 |[]=>((cN (S:=g) 20).E a).map λf=>⟨fi f.1,λX=>GC (f.2 X)⟩
 |[c]=>((cN (S:=g) 20).B c).bind λt=>((cN (S:=g) 20).E a).map λf=>⟨AJ t.1 f.1,λX=>(λ{D y r Z G z m K}R n h=>(λs o q=>wpAny_tests_one ((mo (t.2 X) R h (λb u v w x j i h=>⟨λe=>by rw[<-b5 i];exact GB (f.2 X) j i n (vB.t h e),λe=>(.mk ([]) u v w (eX _) (by rw[c8];exact j) (by rw[b5 i];exact fJ X.nd) (AL i) (vB.f h e))⟩) aa) s o q)))⟩
 |_=>ak
def UG(c f a:Expr)(d)(b)(g):PE S (.ListComp c [⟨f,a,d,0⟩] b g):=
 aJ S.lv λh=>aJ (eR S.nm) λe=>aJ (ut S.nm S.ct b.names S.names) λi=>aJ (b.kind==.function) λhk=>aJ (fU a) λl=>
 (wT (oN S b) ((gP S.ct b.names).map (·.2)) f).bind λst=>(rX p f a).bind λj=>(GG (oN S b) ((gP S.ct b.names).map (·.2)) c d).map λk=>
 ⟨nJ 100000 ((gP S.ct b.names).map (·.2)) st.1 j.1 k.1,λX=>GF (mC e i).1 h st.2 k.2 (jT _) (j.2 X) (bC hk) (mC e i).2 (oM l)⟩
noncomputable def AP(e:bB Expr):bB {t:rU//∀X:bR S,Tq X t e}:=match e with
 |none=>ac ⟨mA,λX=>(λ{f r Z G c l Q P}R h k e=>k ak r Z G c R aa h)⟩
 |some e=>(p.E e).map λa=>⟨qp a.1,λX=>(λ{f r Z G c l Q P}R h k e=>ci (a.2 X) R h (λv g j m b w o s i h=>by refine au (oD.o h i) ?_;rintro d rfl u;refine au (dI.o u) ?_;rintro n rfl q;exact bi n aa (k _ g j m b o s q)) e)⟩
noncomputable def UH(e)(l h s)(q f):PE S (.Subscript e (.Slice l h s q) f):=match l,h,s with
 |some l,ac h,ak=>(p.E e).bind λa=>(p.E l).bind λl=>(p.E h).map λh=>⟨Gq a.1 l.1 h.1,λX=>(λW r Z G Γ Q R t=>OK (ci (a.2 X) R t (λv r1 Z1 G1 u w x g i c=>ci (l.2 X) x c (λv2 r2 Z2 G2 y w2 z j A c=>ci (h.2 X) z c (λv3 r3 Z3 G3 B w3 C k D c=>by refine au (oD.o c ((i.shp j).shp k)) ?_;rintro d rfl E;refine au (dT.o E) ?_;rintro H rfl I;refine au (oD.o I (A.shp k)) ?_;rintro d rfl J;refine au (dI.o J) ?_;rintro m rfl L;refine au (oD.o L D) ?_;rintro d rfl M;refine au (dI.o M) ?_;rintro n rfl o;refine Ks o ?_;rintro a.val b rfl rfl N T U c;exact Cj H a.val b aa rfl rfl N T U (KE.up (k.trans (j.trans g)) (KE.now C c))) (b5 (j.trans g))) (b5 g)) aa) (by intro Y Y;with_unfolding_all rfl))⟩
 |_,_,_=>ak
def UI(e)(l h s)(q f):=fg (C:=λe=>PE S (.Subscript e (.Slice l h s q) f)) e (λx n=>(p.E (.Name x n)).bind λa=>(AP p l).bind λl=>(AP p h).bind λh=>(AP p s).map λs=>⟨rV a.1 l.1 h.1 s.1,λX=>(λJ r Z G L Q R o=>NN (ci (a.2 X) R o (λv M N T t w u g i c=>(l.2 X) u c (λo1 U W G2 y z j c=>(h.2 X) z c (λo2 r3 Z3 G3 A B k c=>(s.2 X) B c (λo3 r4 Z4 G4 D E m c=>by refine au (oD.o c (((i.shp j).shp k).shp m)) ?_;rintro d rfl H;refine cP (dL.o H) ?_;rintro I rfl a.val b c;exact xN I aa a.val b (KE.up (m.trans (k.trans (j.trans g))) (KE.now E c))) (b5 (k.trans (j.trans g)))) (b5 (j.trans g))) (b5 g)) aa) Tr (λY Y=>by with_unfolding_all rfl))⟩) λe=>UH p e l h s q f
def GH{C:ae UJ->Type}c(f:∀e a b,C [⟨e,a,b,0⟩])(d:∀c,C c):=
 iw c (λg=>match g with
  |⟨e,a,b,0⟩=>f e a b
  |g=>d [g]) d
def UK{C:ae UJ->Type}c(f:∀a b e i,C [⟨a,b,[],0⟩,⟨e,i,[],0⟩])(d:∀c,C c):=
 mx c (λg h=>match g with
  |⟨a,b,[],0⟩=>(match h with
   |⟨e,i,[],0⟩=>f a b e i
   |h=>d [⟨a,b,[],0⟩,h])
  |g=>d [g,h]) d
def UL(n:ah):Expr->bP:=n.rec (λY=>ax) λY R e=>rS (C:=λY=>bP) e (λY Y Y=>ao) λe=>j7 (C:=λY=>bP) e (λa Y Y=>a.any R) λY=>ax
def UM e:=
 j7 e (λd k q=>match d.any (UL 3) with
  |true=>(p.L d).map λt=>⟨ug t.1,λX=>(λz r Z G A Q R n=>Ar (K:=λvs o G=>Q (.v (.tup vs)) o G) (t.2 X) R n λvs B D E u v w q=>KE.up w (KE.now v q))⟩
  |false=>Am p (.Tuple d k q)) λe=>
 qk e (λe m a=>Ss (C:=λm=>PE S (.Subscript e m a)) m (λl h s q=>UI p e l h s q a) λm=>Gg p e m a)
 λe=>F7 e (λb g j a=>GH (C:=λg=>PE S (.ListComp b g j a)) g (λx c i=>UG p b x c i j a) λY=>ak)
 λe=>rS e (λy vs q=>(AD p ds y vs q).map λf=>⟨kL f.1,λX=>Av (f.2 X)⟩) λe=>Am p e
def cM(ds:bP)(n:ah):qn S:=n.rec ⟨λY=>ak,λY=>ak,λY=>ak⟩ λY r=>⟨UM r ds,Gj r,Gk r⟩
def UN(n)(o)(j q c)(e)(b)(g l):dG S (.Assign [.Name n o] (.ListComp j [⟨q,c,e,0⟩] b g) l):=
 aJ S.lv λf=>aJ (eR S.nm) λa=>aJ (ut S.nm S.ct b.names S.names) λh=>aJ (b.kind==.function) λhk=>aJ (fU c) λr=>
 (eB S.nm n).bind λk=>(wT (oN S b) ((gP S.ct b.names).map (·.2)) q).bind λst=>(rX p q c).bind λi=>(GG (oN S b) ((gP S.ct b.names).map (·.2)) j e).bind λd=>
 match s:S.names.lookup n with
 |some .local=>aJ (o.line==g.line) λt=>aJ ((b.names.any λ(m,k)=>m==n&&(k==.local||k==.cell))==ax) λu=>match e,d,S.ct.any λp=>p.1==aD "" with
  |[],d,ao=>ac ⟨AK k.1 ((gP S.ct b.names).map (·.2)) st.1 i.1 d.1,λX=>Uz k.2 (mC a h).1 f st.2 d.2 (i.2 X) (bC hk) (mC a h).2 (oM r) s (bC u) t⟩
  |_,d,_=>ac ⟨bS k.1 (nJ 100000 ((gP S.ct b.names).map (·.2)) st.1 i.1 d.1),λX=>Ux k.2 (mC a h).1 f st.2 d.2 (jT _) (i.2 X) (bC hk) (mC a h).2 (oM r) s (bC u) t⟩
 |some .cell=>match e,d with
  |[],d=>aJ (gu S.names n) λv=>ac ⟨bS k.1 (nJ 100000 ((gP S.ct b.names).map (·.2)) st.1 i.1 d.1),λX=>FF k.2 v ((by show(bg (X.env.blockKind==.function&&X.env.kindOf n==ac .local&&o.line==g.line&&!(b.names.any λ(w,k)=>w==n&&(k==.local||k==.cell))):jS bP)=bg ax;rw[(by unfold tD;rw[X.O.kind];rfl:(X.env.blockKind==DQ)=ao),((X.ei f).1.kind n .cell s (aW aa):X.env.kindOf n=ac .cell)];rfl)) (GF (mC a h).1 f st.2 d.2 (jT _) (i.2 X) (bC hk) (mC a h).2 (oM r))⟩
  |_,_=>ak
 |_=>ak
def UO(n:aN)(q)(c h a i j)(b)(d e):dG S (.Assign [.Name n q] (.ListComp c [⟨h,a,[],0⟩,⟨i,j,[],0⟩] b d) e):=
 aJ S.lv λl=>aJ (eR S.nm) λf=>aJ (ut S.nm S.ct b.names S.names) λr=>aJ (b.kind==.function) λhk=>aJ (fU a) λu=>aJ (fU j) λo=>
 (eB S.nm n).bind λk=>(wT (oN S b) ((gP S.ct b.names).map (·.2)) h).bind λst=>(wT (oN S b) ((gP S.ct b.names).map (·.2)) i).bind λcV=>(rX p h a).bind λs=>(rX (cN (S:=oN S b) 20) i j).bind λg=>((cN (S:=oN S b) 20).E c).bind λt=>
 aJ (S.names.lookup n==ac .local) λv=>aJ (q.line==d.line) λw=>aJ ((b.names.any λ(m,k)=>m==n&&(k==.local||k==.cell))==ax) λx=>ac ⟨bS k.1 (nJ 300 ((gP S.ct b.names).map (·.2)) st.1 s.1 (wQ cV.1 g.1 t.1)),λX=>Uy k.2 (mC f r).1 l st.2 (λX=>Us (g.2 X) cV.2 (t.2 X) (oM o)) (aX _ _) (s.2 X) (bC hk) (mC f r).2 (oM u) (bC v) (bC x) w⟩
def UP(a b c)(g o s)(k A)(q B h)(d e f):dG S (.Assign [.Tuple [.Name a g,.Name b o,.Name c s] k q] (.Tuple [d,e,f] A B) h):=
 (eB S.nm a).bind λt=>(eB S.nm b).bind λu=>(eB S.nm c).bind λv=>aJ (S.names.lookup a==ac .local) λD=>aJ (S.names.lookup b==ac .local) λE=>aJ (S.names.lookup c==ac .local) λH=>
  aJ ((b==a)==ax) λi=>aJ ((c==a)==ax) λj=>aJ ((c==b)==ax) λl=>aJ (o.line==g.line) λI=>aJ (s.line==g.line) λm=>
  aJ (([d,e,f].any nt)==ax) λJ=>aJ ([d,e,f].all (rq 8)==ax) λL=>aJ ([d,e,f].all (rr 8)==ax) λM=>aJ (eN d) λQ=>aJ (eN e) λT=>aJ (eN f) λU=>
  (rY p ds d).bind λw=>(rY p ds e).bind λx=>(rY p ds f).map λy=>
  ⟨At t.1 u.1 v.1 w.1 x.1 y.1,λX=>(λφ r Z G Γ N C R Re W=>by
   refine zn X.O X.hh (X.k a _ (bC D) (aW aa)) (X.k b _ (bC E) (aW aa)) (X.k c _ (bC H) (aW aa)) (zm (fF (wJ (w.2 X) Re W (λj1 o1 r1 Z1 G1 h1 R1 n n1 t1=>fF (wJ (x.2 X) (R1.into n1 o1) t1 (λj2 o2 r2 Z2 G2 h2 R2 z n2 t2=>fF (wJ (y.2 X) (R2.into n2 o2) t2 (λj3 o3 r3 Z3 G3 h3 R3 q3 n3 t3=>kz ⟨aX _ _,.ref j1,.ref j2,.ref j3,aa,?_⟩) (b5 (z.trans n))) ((λY=>fh U) _)) (b5 n)) ((λY=>fh T) _)) aa) ((λY=>fh Q) _))) (bC i) (bC j) (bC l) I m (bC J) (bC L) (bC M);refine aL (wK X.nd v.2 (R3.into n3 o3) t3) λr4 R4 l4 t4=>aL (wK X.nd u.2 R4 t4) λr5 R5 l5 t5=>aL (wK X.nd t.2 R5 t5) λr6 R6 l6 t6=>(.mk r6 _ G3 R6 (j4.sub X.nd ?_) t6)
   rw[<-b5 (q3.trans (z.trans n))];exact l6.trans ((l5.trans (l4.cons _ _)).cons _ _))⟩
def UQ(a b c)(g n o)(k x)(q y h)(d e f):dG S (.Assign [.Tuple [.Name a g,.Name b n,.Name c o] k q] (.Tuple [d,e,f] x y) h):=
 (eB S.nm a).bind λr=>(eB S.nm b).bind λs=>(eB S.nm c).bind λt=>aJ (S.names.lookup a==ac .local) λz=>aJ (S.names.lookup b==ac .local) λA=>aJ (S.names.lookup c==ac .local) λB=>
  aJ ((b==a)==ax) λi=>aJ ((c==a)==ax) λj=>aJ ((c==b)==ax) λl=>aJ (n.line==g.line) λC=>aJ (o.line==g.line) λm=>
  aJ (([d,e,f].any nt)==ax) λD=>aJ ([d,e,f].all (rq 8)==ax) λE=>aJ ([d,e,f].all (rr 8)==ax) λG=>aJ (eN d) λH=>aJ (eN e) λI=>aJ (eN f) λJ=>
  (p.E d).bind λu=>(p.E e).bind λv=>(rY p ds f).map λw=>
  ⟨wL r.1 s.1 t.1 u.1 v.1 w.1,λX=>Tz r.2 s.2 t.2 (bC z) (bC A) (bC B) (bC i) (bC j) (bC l) C m (bC D) (bC E) (bC G) (λY=>fh H) (λY=>fh I) (λY=>fh J) (u.2 X) (v.2 X) (w.2 X)⟩
def UR(d h)(k f)(q g e):=AA (C:=λd=>dG S (.Assign [.Tuple d k q] (.Tuple h f g) e)) d (λa b c i j l=>Ak (C:=λh=>dG S (.Assign [.Tuple [.Name a i,.Name b j,.Name c l] k q] (.Tuple h f g) e)) h (λm n o=>(UP p ds a b c i j l k f q g e m n o).or ((UQ p ds a b c i j l k f q g e m n o).or (AE p [.Name a i,.Name b j,.Name c l] [m,n,o] k f q g e))) λY=>ak) λd=>AE p d h k f q g e
def US(b)(d e)(k f)(q g c):=mx (C:=λb=>dG S (.Assign [.Tuple b k q] (.Tuple [d,e] f g) c)) b (λj i=>qk (C:=λj=>dG S (.Assign [.Tuple [j,i] k q] (.Tuple [d,e] f g) c)) j (λl m r=>qk (C:=λi=>dG S (.Assign [.Tuple [.Subscript l m r,i] k q] (.Tuple [d,e] f g) c)) i (λl2 s t=>aJ (([d,e].any nt)==ax) λh=>(p.E l).bind λo1=>(p.E m).bind λn=>(p.E l2).bind λo2=>(p.E s).bind λo=>(p.E (.Tuple [d,e] f g)).map λa=>⟨Au o1.1 n.1 o2.1 o.1 a.1,λX=>TK (bC h) (o1.2 X) (n.2 X) (o2.2 X) (o.2 X) (a.2 X)⟩) λY=>ak) λY=>ak) λY=>ak
def UT(e):PE S e:=match rY p ds e with
 |some f=>ac ⟨kL f.1,λX=>Av (f.2 X)⟩
 |none=>p.E e
def UU(e):PE S e:=rS e (λa vs q=>match a,vs with
 |[],[]=>ac ⟨kL Ax,λX=>Av (λd r Z G b Q R h=>D3 X.hB (.inl aa) λj c=>(.mk r Z G b j _ R aa c aa rfl h))⟩
 |_,_=>ak) λY=>ak
def UV n(e):=match n==aD "book"||n==aD "memo" with
 |true=>UU e
 |false=>UT p ds e
def UW(c e)(d):=aJ (fU e) λh=>uc (C:=λc=>dG S (.Assign [c] e d)) c (λo n q=>(p.E o).bind λo=>(UV p ds n e).map λv=>⟨nH o.1 n v.1,λX=>(λM r Z G Q N C R Re b=>MU X.hB (ci (v.2 X) Re b (λl T U W m w1 s g t b=>ci (o.2 X) s b (λu2 u w G2 y w2 a i z b=>by refine pC (oV.o (oV.o b (t.shp i)) z) λx A B j D E k H I J b=>aw (kH a.f (a.f.off k) (.attrs ((n,l)::j))) λf L=>xP x A B j D (by rw[a.e];exact a.f.get E) (by rw[a.e];exact a.f.get k) H I J (.mk u w _ ⟨by rw[L,a.e],f,a.i,a.n⟩ (by rw[<-b5 (i.trans g)];exact fJ X.nd) b)) (b5 g)) aa) (my h))⟩) λY=>ak
def UX c e a:=
 F7 (C:=λe=>dG S (.Assign [c] e a)) e (λd h j b=>fg (C:=λc=>dG S (.Assign [c] (.ListComp d h j b) a)) c (λn o=>GH (C:=λh=>dG S (.Assign [.Name n o] (.ListComp d h j b) a)) h (λt f r=>UN p n o d t f r j b a) λh=>UK (C:=λh=>dG S (.Assign [.Name n o] (.ListComp d h j b) a)) h (λt f s u=>UO p n o d t f s u j b a) λY=>ak) λY=>ak)
 λe=>j7 (C:=λe=>dG S (.Assign [c] e a)) e (λi l m=>j7 (C:=λc=>dG S (.Assign [c] (.Tuple i l m) a)) c (λg k q=>(UR p ds g i k l q m a).or (mx (C:=λi=>dG S (.Assign [.Tuple g k q] (.Tuple i l m) a)) i (λv w=>US p g v w k l q m a) λY=>ak)) λc=>wM p ds c (.Tuple i l m) a) λe=>(UW p ds c e a).or (wM p ds c e a)
def AQ(g:∀b,rW S b)(st):dG S st:=
 wN st (λst=>ak) (λf e c=>iw (C:=λf=>dG S (.Assign f e c)) f (λh=>UX p ds h e c) λY=>ak)
 (λh j e c=>Gv p h j e c) (λe c=>uk p ds g (.Expr e c)) (λe c=>uk p ds g (.Return e c)) (λt a b c=>uk p ds g (.If t a b c)) (λh k d i c=>uk p ds g (.For h k d i c)) (λt d i c=>uk p ds g (.While t d i c)) (λc=>ac ⟨wx,λX=>FG⟩) (λa b c=>ac ⟨kK,λX=>FH⟩)
def uu(g:Gh)(n:ah):(b:ae fb)->rW S b:=n.rec (λY=>ak)
 λY R b=>b.casesOn (ac ⟨aH,λX a=>FD⟩) λst r=>Ue g st.pos.line ((AQ p ds R st).bind λs=>(R r).map λt=>⟨az s.1 t.1,λX a=>FE (s.2 X a) (t.2 X a)⟩)
end
noncomputable def jL.name(r:jL):=r.fd.elim (aD "") (·.1)
noncomputable def jL.ps(r:jL):=r.fd.elim ⟨[],[],ak,[],[],ak,[]⟩ (·.2.1)
noncomputable def jL.body(r:jL):=r.fd.elim [] (·.2.2.1)
noncomputable def jL.sc(r:jL):=r.fd.elim {kind:=.function,names:=[],isGenerator:=ax,isCoroutine:=ax} (·.2.2.2)
noncomputable def jL.fn(r:jL):=iN r.name (.ofString r.q) r.ps r.body r.sc .none .none .none (.str (.ofString r.m) r.t) ak (.ref (r.a-1)) .none
def jL.ok(r:jL)(a:ae aN)b:=r.fd.isSome&&!r.sc.isCoroutine&&!r.sc.isGenerator&&r.sc.kind==.function&&a.all (rA r.sc.names)&&eR b&&p9 b&&(b==a.map ac++b.drop a.length)&&eR (a.map ac)
theorem AR(h:r.fd.isSome=ao):fo r=⟨.type "function",ak,.func r.fn,#[]⟩:=by
 delta fo jL.fn jL.name jL.ps jL.body jL.sc;generalize r.fd=o at*
 cases o with
 |none=>exact bv h pH
 |some x=>rfl
theorem AS{l:ae aN}(h:eR (l.map ac)=ao):l.Nodup:=by
 induction l with
 |nil=>exact t7
 |cons x l a=>have h:=eV.mp (show(!(l.map ac).contains (ac x)&&eR (l.map ac))=ao from h);refine nk.mpr ⟨λm=>?_,a h.2⟩;rw[(oq.mpr (bV.mpr ⟨x,m,aa⟩:ac x∈l.map ac))] at h;cases h.1
theorem d7(r)(t)(a)(i)(k)(j)(g)(m)(B:cn df Bh)(E:cA c (n+1))
 (h:∀C,cA C n->t C (b.map .v++dX k .u) G (λY H=>D .none H) (λY Y=>aC) D)
 (I:df.lookup r.a=ac (fo r))(J:(m8.any λq=>eQ (r.a-1)==.ref (q.a-1)&&aD r.q==.ofString q.q)=ao)(o:a.length=b.length)(d:r.ok a i=ao)
 (f:∀p,p.length=a.length->oo r.fn ⟨p,[]⟩=bg (a.zip p))
 (l:(uu (S:=⟨i,r.sc.names,ao,m⟩) (cM j 30) j g 60 r.body).map (·.1)=ac t):FC c (.ref r.a) b G D:=by
 unfold jL.ok at d;simp only[fD,sU,jq] at d;refine aw d λs=>aw s λu=>aw u λv=>aw v λw=>aw w λy=>aw y λz=>aw z λA=>aw A λL M=>?_;intro N Q T U W h8 h9;cases e:uu (S:=⟨i,r.sc.names,ao,m⟩) (cM j 30) j g 60 r.body with
 |none=>rw[e] at l;cases l
 |some x=>rw[e] at l;cases l;exact λφ F=>yx (FO x.1 ⟨i,r.sc.names,ao,m⟩ a k B E F (λx1 R=>h _ R) (λX Y=>x.2 X φ) aa (I.trans (bA ac (AR L))) (tc B J) o h8 f (AS h9) T U W M N Q)
theorem jD(F:dv G a)(q:Q v G):nA a Q v (bH G a):=⟨G,aa,F,q⟩
theorem UY(F:dv G b)(h:G a=ac p)(q:Q v (aE G a o)):nA b Q v (aE (bH G b) a o):=⟨aE G a o,(kH F (F.off h) o).2.symm,(kH F (F.off h) o).1,q⟩
theorem nK(g:cn df Bh)(h:G x=ac (.inst C j))(k:G j=ac (.attrs l))(n:l.lookup a=ac v)
 (o:ec df (.ref C) "__getattribute__"=ac (ac (.builtin "object.__getattribute__")))(p:ec df (.ref C) a=ac ak)(r:iR df C a)(q:Q v G):FA c (.ref x) a G Q:=λD F=>
 (by refine au (any_some r.dict) λE t d=>(λw s u S i=>by obtain rfl:u=.ref x:=i;refine jf (Dr S (F.get h) (F.get k)) λH m I y e z=>?_;have f:=z a;rw[n] at f;refine aL f λu A B b=>get_value (g.kin.keeps S.keep) I o ?_ b (PV.here S B (jD F q));unfold ES;rw[t,zo,p];unfold UZ;rw[d,aR aa];dsimp-zeta-zetaHave only;rw[yX y e,A];rfl))
theorem GI(d:G a=ac (.list b))(e:b.length<=1000000)(q:Q (.int b.length) G):FC c (.builtin "len") [.ref a] G Q:=λf F=>D8 (F.get d) e (jD F q)
theorem U0(b:G a=ac (.list d))(e:d.length<=1000000)(q:Q .none (aE G a (.list (d++[x])))):FC c (.builtin "list.append") ([.ref a]++[.d x]) G Q:=λf F=>tv (F.get b) e (UY F b q)
theorem U1(b:G a=ac (.list d)):FM c (.ref a) (aD "append") (.builtin "list.append") [.ref a] G:=λe F k hk=>ri tw wG (F.get b) aa hk
theorem AT(f:G a=ac (.list g))(b:jC g n z)(q:Q (.d z) G):FS c (.ref a) (.int n) G Q:=λi F d e h=>Df (F.get f) b.lo b.hi b.at' (jD F q) λY Y=>h _ _
theorem wU(e:cA c n)(f:G a=ac (.tab g))(hk:gr 4 (.tuple k)=ao)(h:er g (.tuple k)=ac x)(q:Q (.d x) G):FS c (.ref a) (.d (.tuple k)) G Q:=λj F b d i=>LX e (F.get f) hk h (jD F q) λY Y=>i _ _
theorem mD(g:G a=ac (.stab xs))(h:xs.lookup k=ac x)(q:Q (.d x) G):FS c (.ref a) (.str k) G Q:=λp F b d l=>(λm s u v S i j=>by refine lX j λY=>?_;obtain rfl:u=.ref a:=i;refine aw (S.objs a _ (F.get g)) λlo e=>aL e λt f hk r=>au (Dl hk r h) λy n o=>oj f.typeIs LY.lookup (wpAny_getItem_of (vK pg wd k _) f.mapOf n (PV.here (x:=.d x) S o (jD F q))) ((λY Y=>l _ _) _ _))
theorem wV(b:G a=ac (.stab d))(q:P (d.lookup k).isSome G):rM c .In (.str k) (.ref a) G P:=λe F=>Dm (F.get b) (jD F ⟨_,aa,q⟩)
theorem GJ(b:G a=ac (.stab xs))(q:P (!(xs.lookup k).isSome) G):rM c .NotIn (.str k) (.ref a) G P:=λd F=>Ee (F.get b) (jD F ⟨_,aa,q⟩)
theorem GK(b:cA c n)(d:G a=ac (.tab e))(hk:gr 4 (.tuple k)=ao)(q:P (!(er e (.tuple k)).isSome) G):rM c .NotIn (.d (.tuple k)) (.ref a) G P:=λf F=>LW b (F.get d) hk (jD F ⟨_,aa,q⟩)
theorem AU(b:G a=ac (.stab d))(e:d.length<=1000000)(q:P (aE G a (.stab (gv d k x)))):rL c (.ref a) (.str k) (.d x) G P:=λf F=>D1 (F.get b) e ⟨_,(kH F (F.off b) _).2.symm,(kH F (F.off b) _).1,q⟩
theorem U2(h:FC c f vs G Q):cF c f vs G Q:=p0 (h [] trivial) λv a ⟨b,e,_,q⟩=>by rw[(e:a=b)];exact q
inductive Nd where
 |leaf (v:aA)
 |br (k:ah) (ps:ae (af×ah))
noncomputable def dp(p:af×ah):aA:=.tuple [.int p.1,.int p.2]
noncomputable def d0:Nd->aA
 |.leaf v=>.tuple [.str (aD "leaf"),v]
 |.br k a=>.tuple [.int k,.tuple (a.map dp)]
noncomputable def gw:aA->bP
 |.int _=>ao
 |.str x=>gT x
 |.none=>ax
 |.bool _=>ax
 |.list _=>ax
 |.tuple _=>ax
 |.dict _=>ax
theorem gw.q1:gw (.int a)=(ao):=aa
theorem gw.q2:gw (.str x)=(gT x):=aa
theorem gw.q3:gw (.none)=(ax):=aa
theorem AV:gw (.bool a)=(ax):=aa
theorem AW:gw (.list a)=(ax):=aa
theorem AX:gw (.tuple a)=(ax):=aa
theorem AY:gw (.dict a)=(ax):=aa
noncomputable def qu:Nd->bP
 |.leaf v=>gw v
 |.br _ _=>ao
theorem U3(h:dp p=dp q):p=q:=by
 obtain⟨a,b⟩:=p;obtain⟨c,d⟩:=q;simp[dp] at h;have e:b=d:=by have:=h.2;exact bQ (bD.1 (ay [_,_] 72762862608 aa this)) (bD.1 (ay [_,_] 72747146256 aa this))
 rw[h.1,e]
theorem U4:∀{b a:ae (af×ah)},b.map dp=a.map dp->b=a
 :=by
  intro b;induction b with
  |nil=>intro a h;cases a with
   |nil=>rfl
   |cons q a=>cases h
  |cons p b c=>intro a h;cases a with
   |nil=>cases h
   |cons q a=>rw[U3 (nh h).1,c (nh h).2]
theorem U5(a:ae (af×ah)):ol 2 (a.map dp)=ao:=by
 induction a with
 |nil=>rfl
 |cons p a b=>trivial
theorem U6(d):∃a,d0 d=.tuple a:=by cases d<;>exact ew _ aa
theorem U7(h:qu d=ao):gr 4 (d0 d)=ao:=by
 cases d with
 |leaf v=>
  cases v<;>simp[qu,gw.q1,gw.q2,gw.q3,AV,AW,AX,AY] at h
  ·simp[d0,gr.q1,gr.q2,gr.q3,ol.q1,ol.q2];decide+kernel
  ·simp[d0,gr.q2,gr.q3,ol.q1,ol.q2,h];decide+kernel
 |br k a=>have:=U5 a;simp[d0,gr.q1,gr.q3,ol.q1,ol.q2,this]
def oO(N:ae Nd)d:=N.findIdx? λe=>@decide (e=d) (s7 _)
def gF a b:=gY (motive:=λY=>ah->ae (aA×aA)) (λY=>[]) (λd r c i=>(d0 d,.int i)::(c (i+1))) b a
theorem gF.q1:gF (a) ([])=([]):=aa
theorem gF.q2:gF (i) (d::r)=((d0 d,.int i)::gF (i+1) r):=aa
theorem U8(i)(N)(d):gF i (N++[d])=gF i N++[(d0 d,.int (i+N.length:ah))]:=by
 induction N generalizing i with
 |nil=>rfl
 |cons x r a=>show(d0 x,cJ i)::gF (i+1) (r++[d])=_;rw[a,cG,wW r.length 1,<-vv];rfl
theorem U9(i)(N):(gF i N).length=N.length:=by
 induction N generalizing i with
 |nil=>rfl
 |cons x r a=>exact bA (·+1) (a (i+1))
theorem Va(h:d0 d=d0 e):d=e:=by
 cases d with
 |leaf v=>
  cases e with
  |leaf u=>simp[d0] at h;rw[h]
  |br k a=>simp[d0] at h
 |br k a=>
  cases e with
  |leaf u=>simp[d0] at h
  |br j b=>simp only[d0,CH,pG,abM,GL] at h;rw[show k=j by have:=h.1;exact bQ (bD.1 (ay [_,_] 72762862608 aa this)) (bD.1 (ay [_,_] 72747146256 aa this)),U4 h.2]
theorem Vb(d):∀(N)(i),er (gF i N) (d0 d)=(oO N d).map λj=>.int (i+j:ah):=λc=>c.rec
 (λi=>rfl)
 (λe r a i=>by
 have b:=a (i+1);unfold er at b⊢;unfold oO at b⊢;by_cases q:e=d
 ·subst q;simp[gF.q2,Vc]
 ·have f:¬d0 e=d0 d:=λz=>q (Va z);simp only[gF.q2,GN,f,decide_false,Vc,q];rw[b];cases r.findIdx? λe=>@decide (e=d) (s7 _) with
  |none=>rfl
  |some j=>simp;exact fC (ay [_,_] 76448047324828032 aa) (ay [_,_] 76439772802390032 aa))
theorem GO(h:oO N d=ac i):N[i]?=ac d:=by refine au (List.findIdx?_eq_some_iff_getElem.mp h) λa b Y=>?_;rw[cr a];simp at b;rw[b]
def d8 N d:=match oO N d with
 |some i=>(N,i)
 |none=>(N++[d],N.length)
def Gd c n:=
 cn df Bh/\
 cA c n
def Gd.B(a:Gd c n):=a.1
def Gd.R(a:Gd c n):=a.2
theorem GP(X:Gd c n)(b:G a=ac (.tab d))(hk:gr 4 (.tuple k)=ao)(e:er d (.tuple k)=ak)(f:d.length<=1000000)
 (q:P (aE G a (.tab (d++[(.tuple k,x)])))):rL c (.ref a) (.d (.tuple k)) (.d x) G P:=λg F=>Nh X.R (F.get b) hk e f ⟨_,(kH F (F.off b) _).2.symm,(kH F (F.off b) _).1,q⟩
theorem eU{a:ae b}(h:a[i]?=ac x):i<a.length:=(dF.mp h).1
theorem r7{i:ah}(h:a[i]?=ac x)(l:a.length<=1000000):jC a i x:=Fm h (Vd (gE (eU h) l))
theorem dW{xs:ae a}(f){i:ah}(h:xs[i]?=ac x)(l:xs.length<=1000000):jC (xs.map f) i (f x):=r7 (by rw[fH,h];rfl) (by rw[aI];exact l)
theorem uw(h:fA n 1000000=ao):n<=1000000:=lV h
theorem aS(h:n<=m)(k:fA m 1000000=ao):n<=1000000:=bn h (lV k)
theorem oP(h:x=ac z)(q:k z):oK x k:=by rw[h];exact q
theorem vT(h:b=ao)(x:p):vB b p q:=by rw[h];exact x
theorem GQ:(!(a++[z]).isEmpty)=ao:=by cases a<;>rfl
theorem oQ{rH:qb p}(h:p)(x:b):vB (!decide p) a b:=by rw[hW h];exact x
theorem GR{rH:qb p}(h:¬p)(x:a):vB (!decide p) a b:=by rw[s8 h];exact x
theorem vB.nd{rH:qb p}(c:¬p->a)(e:p->b):vB (!decide p) a b:=by
 by_cases h:p
 ·exact oQ h (e h)
 ·exact GR h (c h)
theorem fK.map{st:fv}(g f)(b:α->β)(S:β->Sg){c:ae α}(ee:∀a∈c,∀s K,K [f a] (S (b a)) G->st (.d (g a)) (S s) (Gx i G K))(s)
 (d:∀s,Q (e++c.map f) (S s) G):fK st i ((c.map g).map V.d) e (S s) G Q:=by
 induction c generalizing e s with
 |nil=>have:=d s;rw[gN,c8] at this;exact this
 |cons x c j=>refine ee x aP s _ (j (λa h=>ee a (ba _ h)) _ λs=>?_);have:=d s;rw[c9,GS] at this;exact this
theorem Ve(a)(k)(x):(ef a k x).length=a.length:=by
 induction a generalizing k with
 |nil=>rfl
 |cons y a b=>cases k with
  |zero=>rfl
  |succ k=>exact bA (·+1) (b k)
theorem Vf(a)(k)(x y):ef (ef a k x) k y=ef a k y:=by
 induction a generalizing k with
 |nil=>rfl
 |cons z a b=>cases k with
  |zero=>rfl
  |succ k=>exact bA (z::·) (b k)
theorem Vg(a)(k):ef a k (eA a k)=a:=by
 induction a generalizing k with
 |nil=>rfl
 |cons z a b=>cases k with
  |zero=>rfl
  |succ k=>exact bA (z::·) (b k)
theorem kM(f){d:ae α}(hk:rN k b.length=ao)(ee:∀a∈d,∀K,K [f a] (ef b k (.v (.d (f0 a)))) G->bd (ef b k (.v (.d (f0 a)))) G K)
 (e:∀x,Q (c++d.map f) (ef b k x) G):fK (bK k) bd ((d.map f0).map V.d) c b G Q:=by
 suffices h:∀x,fK (bK k) bd ((d.map f0).map V.d) c (ef b k x) G Q by have:=h (eA b k);rw[Vg] at this;exact this
 induction d generalizing c with
 |nil=>intro x;have:=e x;rw[gN,c8] at this;exact this
 |cons a d g=>intro x;show vB (rN k (ef b k x).length) (bd (ef (ef b k x) k (.v (.d (f0 a)))) G _) aC;rw[Ve,hk,Vf];refine ee a aP _ (g (λa h=>ee a (ba _ h)) (λx=>?_) _);have:=e x;rw[c9,GS] at this;exact this
theorem Vh(f){d b:ae aA}(hk:rN k c.length=ao)(ee:∀a∈d,∀K,K [f a] (ef c k (.v (.d a))) G->g (ef c k (.v (.d a))) G K)
 (e:∀x,Q (b++d.map f) (ef c k x) G):fK (bK k) g (d.map V.d) b c G Q:=by have:=kM (f0:=λx=>x) f hk ee e;rw[AZ] at this;exact this
theorem dc{xs:ae a}(h:i<xs.length):∃x,xs[i]?=ac x:=⟨_,cr h⟩
def Vi:=(az (cE (rJ (t8 (ag 1)) (bX .LtE (ag 2) (bI .Add (bT (qc (ag 1)) 1) (aO 1)))) (az (cE (bX .Gt (ag 3) (bT (qc (ag 1)) 1)) (az (ir (ag 1) (jZ (aO 1)) (aT (ai (bT (qc (ag 1)) 0) (ai (ag 3) av)))) aH) aH) aH) (az (dR (dO eT 1 (ai (aT (ai (ag 2) (ai (ag 3) av))) av))) aH)) aH)
def GU:=(az (eu 1 (eg av)) (az (dP (cV 2 3) (dk (bY wE (ai (ag 0) av))) Vi) (gj 1 (az (cD (ag 1)) aH))))
theorem Vj(X:Gd c (n+1))(h:∀c,Gd c n->GU c [.v a,.u,.u,.u] G (λY G=>Q .none G) (λY Y=>aC) Q):FC c (.ref 65) [a] G Q:=d7 ⟨65,5,ak,"tidy","siftwall.stores",251⟩ GU ["spans"] [ac "spans",ac "found",ac "low",ac "high"] 3 ax [(21,1,ax)] [] X.B X.R (λE R=>h _ ⟨X.B,R⟩) (by kernel_rfl) (by kernel_rfl) aa (by kernel_rfl) (nu λY=>by kernel_rfl) (by kernel_rfl)
def GV:=(az (cD (bO (cw (ag 0) "nodes") (ag 1))) aH)
theorem Vk(X:Gd c (n+1))(h:∀c,Gd c n->GV c [.v a,.v b] G (λY G=>Q .none G) (λY Y=>aC) Q):FC c (.ref 107) [a,b] G Q:=d7 ⟨107,7,ac 4,"Diagrams.node","siftwall.diagram",263⟩ GV ["self","number"] [ac "self",ac "number"] 0 ax [] [] X.B X.R (λE R=>h _ ⟨X.B,R⟩) (by kernel_rfl) (by kernel_rfl) aa (by kernel_rfl) (jx λY Y=>by kernel_rfl) (by kernel_rfl)
def GW:=(az (bS 2 (bT (bO (cw (ag 0) "nodes") (ag 1)) 0)) (az (cD (nE (bX .Eq (ag 2) (bf "leaf")) (bY dU (ai (cw (ag 0) "tops") av)) (ag 2))) aH))
theorem Vl(X:Gd c (n+1))(h:∀c,Gd c n->GW c [.v a,.v b,.u] G (λY G=>Q .none G) (λY Y=>aC) Q):FC c (.ref 114) [a,b] G Q:=d7 ⟨114,7,ac 5,"Diagrams.level","siftwall.diagram",263⟩ GW ["self","number"] [ac "self",ac "number",ac "head"] 1 ax [] [] X.B X.R (λE R=>h _ ⟨X.B,R⟩) (by kernel_rfl) (by kernel_rfl) aa (by kernel_rfl) (jx λY Y=>by kernel_rfl) (by kernel_rfl)
def GX:=(az (cE (bX .NotIn (ag 1) (cw (ag 0) "book")) (az (ir (cw (ag 0) "book") (ag 1) (bY dU (ai (cw (ag 0) "nodes") av))) (az (dR (d6 (cw (ag 0) "nodes") "append" (ai (ag 1) av))) aH)) aH) (az (cD (bO (cw (ag 0) "book") (ag 1))) aH))
theorem Vm(X:Gd c (n+1))(h:∀c,Gd c n->GX c [.v a,.v b] G (λY G=>Q .none G) (λY Y=>aC) Q):FC c (.ref 86) [a,b] G Q:=d7 ⟨86,7,ac 1,"Diagrams.kept","siftwall.diagram",263⟩ GX ["self","node"] [ac "self",ac "node"] 0 ax [] [] X.B X.R (λE R=>h _ ⟨X.B,R⟩) (by kernel_rfl) (by kernel_rfl) aa (by kernel_rfl) (jx λY Y=>by kernel_rfl) (by kernel_rfl)
def GY:=(az (cD (d6 (ag 0) "kept" (ai (aT (ai (bf "leaf") (ai (ag 1) av))) av))) aH)
theorem Vn(X:Gd c (n+1))(h:∀c,Gd c n->GY c [.v a,.v b] G (λY G=>Q .none G) (λY Y=>aC) Q):FC c (.ref 93) [a,b] G Q:=d7 ⟨93,7,ac 2,"Diagrams.leaf","siftwall.diagram",263⟩ GY ["self","value"] [ac "self",ac "value"] 0 ax [] [] X.B X.R (λE R=>h _ ⟨X.B,R⟩) (by kernel_rfl) (by kernel_rfl) aa (by kernel_rfl) (jx λY Y=>by kernel_rfl) (by kernel_rfl)
def A0:=(az (bS 5 (nE (bX .Gt (ag 6) (ag 5)) (ag 6) (bI .Add (ag 4) (aO 1)))) (az (cE (rJ (bX .Gt (bY dU (ai (ag 3) av)) (aO 0)) (bX .Eq (bT (qc (ag 3)) 1) (ag 7))) (az (ir (ag 3) (jZ (aO 1)) (aT (ai (ag 6) (ai (ag 7) av)))) aH) (az (dR (dO eT 3 (ai (aT (ai (ag 6) (ai (ag 7) av))) av))) aH)) aH))
def GZ:=(az (eu 3 (eg av)) (az (bS 4 (bO (cw (ag 0) "tops") (ag 1))) (az (bS 5 (jZ (aO 1))) (az (dP (cV 6 7) (dk (ag 2)) A0) (az (cE (bX .NotEq (ag 5) (ag 4)) (az kK aH) aH) (az (cE (bX .Eq (bY dU (ai (ag 3) av)) (aO 1)) (az (cD (bT (bT (ag 3) 0) 1)) aH) aH) (az (cD (d6 (ag 0) "kept" (ai (aT (ai (ag 1) (ai (bY nF (ai (ag 3) av)) av))) av))) aH)))))))
theorem Vo(X:Gd c (n+1))(h:∀c,Gd c n->GZ c [.v a,.v b,.v d,.u,.u,.u,.u,.u] G (λY G=>Q .none G) (λY Y=>aC) Q):FC c (.ref 100) [a,b,d] G Q:=d7 ⟨100,7,ac 3,"Diagrams.make","siftwall.diagram",263⟩ GZ ["self","variable","parts"] [ac "self",ac "variable",ac "parts",ac "joined",ac "top",ac "at",ac "high",ac "number"] 5 ax [] [] X.B X.R (λE R=>h _ ⟨X.B,R⟩) (by kernel_rfl) (by kernel_rfl) aa (by kernel_rfl) (iS λY Y Y=>by kernel_rfl) (by kernel_rfl)
def G8:=(az (mu (cV 3 4) (d6 (ag 0) "node" (ai (ag 1) av))) (az (cE (bX .Eq (ag 3) (ag 2)) (az (cD (ag 4)) aH) aH) (az (cD (aT (ai (aT (ai (bO (cw (ag 0) "tops") (ag 2)) (ai (ag 1) av))) av))) aH)))
theorem Vp(X:Gd c (n+1))(h:∀c,Gd c n->G8 c [.v a,.v b,.v d,.u,.u] G (λY G=>Q .none G) (λY Y=>aC) Q):FC c (.ref 128) [a,b,d] G Q:=d7 ⟨128,8,ak,"parts_at","siftwall.diagram",263⟩ G8 ["diagrams","number","variable"] [ac "diagrams",ac "number",ac "variable",ac "head",ac "about"] 2 ax [] [] X.B X.R (λE R=>h _ ⟨X.B,R⟩) (by kernel_rfl) (by kernel_rfl) aa (by kernel_rfl) (iS λY Y Y=>by kernel_rfl) (by kernel_rfl)
def Ha:=(az (cE (bX .Eq (bT (ag 9) 0) (ag 6)) (az (As 4 (ag 8) 1) aH) aH) aH)
def Hb:=(az (bS 7 (g7 [11,12] (cV 11 12) (wI (ag 3)) (fi (bO (ag 12) (bO (ag 4) (ag 11)))))) (az (bS 6 (bY ww (ai (g7 [13] (bK 13) (dk (ag 7)) (fi (bT (ag 13) 0))) av))) (az (dR (dO eT 5 (ai (aT (ai (ag 6) (ai (g7 [13] (bK 13) (dk (ag 7)) (fi (bT (ag 13) 1))) av))) av))) (az (dP (cV 8 9) (wI (ag 7)) Ha) aH))))
def Hc:=(az (bS 2 (bY ww (ai (g7 [10] (bK 10) (dk (ag 1)) (fi (d6 (ag 0) "level" (ai (ag 10) av)))) av))) (az (bS 3 (g7 [10] (bK 10) (dk (ag 1)) (fi (cW (.ref 128) (ai (ag 0) (ai (ag 10) (ai (ag 2) av))))))) (az (eu 4 (An (ai (aO 0) av) (bY dU (ai (ag 3) av)))) (az (eu 5 (eg av)) (az (bS 6 (jZ (aO 1))) (az (tY (bX .Lt (ag 6) (bO (cw (ag 0) "tops") (ag 2))) Hb) (gj 5 (az (cD (aT (ai (ag 2) (ai (ag 5) av)))) aH))))))))
theorem Vq(X:Gd c (n+1))(h:∀c,Gd c n->Hc c [.v a,.v b,.u,.u,.u,.u,.u,.u,.u,.u,.u,.u,.u,.u] G (λY G=>Q .none G) (λY Y=>aC) Q):FC c (.ref 133) [a,b] G Q:=d7 ⟨133,9,ak,"split","siftwall.diagram",263⟩ Hc ["diagrams","numbers"] [ac "diagrams",ac "numbers",ac "variable",ac "sides",ac "places",ac "pieces",ac "high",ac "parts",ac "index",ac "part",ak,ak,ak,ak] 12 ax [(80,5,ax)] [("number",10),("index",11),("side",12),("part",13)] X.B X.R (λE R=>h _ ⟨X.B,R⟩) (by kernel_rfl) (by kernel_rfl) aa (by kernel_rfl) (jx λY Y=>by kernel_rfl) (by kernel_rfl)
def Vr:=(az (cE (bX .LtE (ag 8) (ag 5)) (az (cE (bX .Gt (ag 8) (ag 7)) (az (dR (dO eT 6 (ai (aT (ai (bI .Sub (ag 8) (aO 1)) (ai (ag 4) av))) av))) aH) aH) (az (dR (dO eT 6 (ai (aT (ai (bY oH (ai (ag 9) (ai (ag 5) av))) (ai (ag 3) av))) av))) (az (bS 7 (bI .Add (ag 9) (aO 1))) aH))) aH) aH)
def Hd:=(az (cE (bX .LtE (bY oH (ai (d6 (ag 0) "level" (ai (ag 3) av)) (ai (d6 (ag 0) "level" (ai (ag 4) av)) av))) (ag 1)) (az kK aH) aH) (az (bS 5 (bO (cw (ag 0) "tops") (ag 1))) (az (eu 6 (eg av)) (az (bS 7 (aO 0)) (az (dP (cV 8 9) (dk (cW (.ref 65) (ai (ag 2) av))) Vr) (az (cE (bX .LtE (ag 7) (ag 5)) (az (dR (dO eT 6 (ai (aT (ai (ag 5) (ai (ag 4) av))) av))) aH) aH) (gj 6 (az (cD (d6 (ag 0) "make" (ai (ag 1) (ai (ag 6) av)))) aH))))))))
theorem Vs(X:Gd c (n+1))(h:∀c,Gd c n->Hd c [.v a,.v b,.v d,.v e,.v f,.u,.u,.u,.u,.u] G (λY G=>Q .none G) (λY Y=>aC) Q):FC c (.ref 140) [a,b,d,e,f] G Q:=d7 ⟨140,10,ak,"test","siftwall.diagram",263⟩ Hd ["diagrams","variable","spans","yes","no"] [ac "diagrams",ac "variable",ac "spans",ac "yes",ac "no",ac "top",ac "parts",ac "at",ac "low",ac "high"] 5 ax [(95,6,ax)] [] X.B X.R (λE R=>h _ ⟨X.B,R⟩) (by kernel_rfl) (by kernel_rfl) aa (by kernel_rfl) (rz λY Y Y Y Y=>by kernel_rfl) (by kernel_rfl)
def He:=(az (cE (bX .Eq (ag 2) (ag 3)) (az (cD (ag 2)) aH) aH) (az (mu (cV 4 5) (d6 (ag 0) "node" (ai (ag 1) av))) (az (cE (bX .Eq (ag 4) (bf "leaf")) (az (cD (nE (bX .Eq (ag 5) (aO 1)) (ag 2) (ag 3))) aH) aH) (az (bS 6 (aT (ai (ag 1) (ai (ag 2) (ai (ag 3) av))))) (az (cE (bX .NotIn (ag 6) (cw (ag 0) "memo")) (az (mu (cV 7 8) (cW (.ref 133) (ai (ag 0) (ai (ag 6) av)))) (az (bS 9 (g7 [10,11] (cV 10 11) (dk (ag 8)) (fi (aT (ai (ag 10) (ai (cW (.ref 145) (ai (ag 0) (ai (bT (ag 11) 0) (ai (bT (ag 11) 1) (ai (bT (ag 11) 2) av))))) av)))))) (az (ir (cw (ag 0) "memo") (ag 6) (d6 (ag 0) "make" (ai (ag 7) (ai (ag 9) av)))) aH))) aH) (az (cD (bO (cw (ag 0) "memo") (ag 6))) aH))))))
theorem Vt(X:Gd c (n+1))(h:∀c,Gd c n->He c [.v a,.v b,.v d,.v e,.u,.u,.u,.u,.u,.u,.u,.u] G (λY G=>Q .none G) (λY Y=>aC) Q):FC c (.ref 145) [a,b,d,e] G Q:=d7 ⟨145,11,ak,"choose","siftwall.diagram",263⟩ He ["diagrams","cond","yes","no"] [ac "diagrams",ac "cond",ac "yes",ac "no",ac "head",ac "about",ac "key",ac "variable",ac "pieces",ac "parts",ak,ak] 8 ax [] [("high",10),("three",11)] X.B X.R (λE R=>h _ ⟨X.B,R⟩) (by kernel_rfl) (by kernel_rfl) aa (by kernel_rfl) (ox λY Y Y Y=>by kernel_rfl) (by kernel_rfl)
noncomputable def L0(a b c d:V):=[(aD "memo",a),(aD "book",b),(aD "nodes",c),(aD "tops",d)]
noncomputable def L1(a b:V):=[(aD "self",a),(aD "number",b)]
noncomputable def L2(a b:V):=[(aD "self",a),(aD "node",b)]
noncomputable def L3(a b:V):=[(aD "self",a),(aD "value",b)]
noncomputable def L4(a b c d e:V):=[(aD "self",a),(aD "variable",b),(aD "joined",c),(aD "top",d),(aD "at",e)]
noncomputable def A1(a b c d:V):=[(aD "place",a),(aD "legal",b),(aD "tops",c),(aD "names",d)]
structure DA where
 x:aZ
 dx:aZ
 an:aZ
 ab:aZ
 am:aZ
def DS(T:ae af)(D:DA)N M(G:AH):=
 G D.x=ac (.inst 117 D.dx)/\
 G D.dx=ac (.attrs (L0 (.ref D.am) (.ref D.ab) (.ref D.an) (.d (.tuple (T.map .int)))))/\
 G D.an=ac (.list (N.map d0))/\
 G D.ab=ac (.tab (gF 0 N))/\
 G D.am=ac (.tab M)/\
 D.ab≠D.am
def DS.x(a:DS T D N M G):=a.1
def DS.d(a:DS T D N M G):=a.2.1
def DS.n(a:DS T D N M G):=a.2.2.1
def DS.b(a:DS T D N M G):=a.2.2.2.1
def DS.m(a:DS T D N M G):=a.2.2.2.2.1
def DS.ne(a:DS T D N M G):=a.2.2.2.2.2
theorem fL{G:AH}(h:G a=ac o)(k:G b=ac p)(n:o≠p):a≠b:=λe=>n (by rw[e,k] at h;exact(jP h).symm)
theorem qv{G:AH}(h:G a=ak)(e:G b=ac o):a≠b:=λq=>by rw[q,e] at h;cases h
theorem lJ{G:AH}(h:G a=ak)(e:G b=ac o):b≠a:=(qv h e).symm
theorem oR(h:aE G a o b=ak):b≠a:=qv h (bG ..)
theorem qw(h:aE G a o b=ak):G b=ak:=(aU (oR h)).symm.trans h
noncomputable def lv(T:ae af):Nd->ah
 |.leaf _=>T.length
 |.br k _=>k
noncomputable def Vu:Nd->aA
 |.leaf _=>.str (aD "leaf")
 |.br k _=>.int k
theorem Vv(N)(d):er (gF 0 N) (d0 d)=(oO N d).map λj=>.int (j:ah):=by simpa using(Vb d N 0)
theorem iz{P:a->Prop}:∀x∈([]:ae a),P x:=λY h=>bv h iV
theorem cp{P:b->Prop}(h:P a)(t:∀x∈l,P x):∀x∈a::l,P x:=λx m=>(bj.1 m).elim (λe=>e▸h) (t x)
noncomputable def fw(a:ae (af×ah))(p:af×ah):=match a.getLast? with
 |some q=>if q.2=p.2 then a.dropLast++[p] else a++[p]
 |none=>a++[p]
def eh b(c:ae (af×ah)):=gY (motive:=λY=>af->Prop) (λY=>fP) (λp r d a=>a<p.1/\(d p.1)) c b
theorem eh.q1:eh (a) ([])=(fP):=aa
theorem eh.q2:eh (a) (p::r)=(a<p.1/\eh p.1 r):=aa
def eZ b(c:ae (af×ah)):=gY (motive:=λY=>af->af) (λa=>a) (λp r d Y=>(d p.1)) c b
theorem eZ.q1:eZ (a) ([])=(a):=aa
theorem eZ.q2:eZ (a) (p::r)=(eZ p.1 r):=aa
def cX N k(a:ae (af×ah)):=match a.foldl fw [] with
 |[p]=>(N,p.2)
 |j=>d8 N (.br k j)
theorem wX(a)(q p):fw (a++[q]) p=if q.2=p.2 then a++[p] else a++[q]++[p]:=by unfold fw;simp only[List.getLast?_append,List.getLast?_singleton,Option.some_or,List.dropLast_concat]
theorem A2(a)(p):(fw a p).length<=a.length+1:=by
 unfold fw;split
 ·split
  ·rw[b7,List.length_dropLast,ea];exact aj [_,_] 0x10f9181918010c10 aa (ow (a.length) (1))
  ·simp
 ·simp
theorem Vw:∀(r a:ae (af×ah)),(r.foldl fw a).length<=a.length+r.length:=λd=>d.rec
 (λa=>cO _)
 (λp r b a=>by rw[jw];have:=b (fw a p);have:=A2 a p;simp only[cG];(rename_i c;exact aj [_,_,_,_] 0x10f991831210c930210c91810 aa c this))
theorem Vx:∀(r a:ae (af×ah)),(r≠[]\/a≠[])->r.foldl fw a≠[]:=λc=>c.rec
 (λa h=>h.elim (λh=>bv aa h) id)
 (λp r b a Y=>b _ (.inr ((by
  unfold fw;split
  ·split<;>simp
  ·simp))))
open Classical in
theorem Vy:er (M++[(k,v)]) a=(er M a).or (if k=a then ac v else ak):=by
 unfold er;rw[Vz];cases h:M.find? λp=>@decide (p.1=a) (gC _ _) with
 |some p=>rfl
 |none=>
  simp only[A3,VA,GN,VB];by_cases e:k=a
  ·rw[aR e];simp[e]
  ·rw[aQ e];simp[e]
def DB(T:ae af)(D:DA)(G:AH):=
 G D.x=ac (.inst 117 D.dx)/\
 G D.dx=ac (.attrs (L0 (.ref D.am) (.ref D.ab) (.ref D.an) (.d (.tuple (T.map .int)))))/\
 D.x≠D.an/\
 D.x≠D.ab/\
 D.x≠D.am/\
 D.dx≠D.an/\
 D.dx≠D.ab/\
 D.dx≠D.am/\
 D.an≠D.ab/\
 D.an≠D.am/\
 D.ab≠D.am
def DB.x(a:DB T D G):=a.1
def DB.d(a:DB T D G):=a.2.1
def DB.xn(a:DB T D G):=a.2.2.1
def DB.xb(a:DB T D G):=a.2.2.2.1
def DB.xm(a:DB T D G):=a.2.2.2.2.1
def DB.dn(a:DB T D G):=a.2.2.2.2.2.1
def DB.db(a:DB T D G):=a.2.2.2.2.2.2.1
def DB.dm(a:DB T D G):=a.2.2.2.2.2.2.2.1
def DB.nb(a:DB T D G):=a.2.2.2.2.2.2.2.2.1
def DB.nm(a:DB T D G):=a.2.2.2.2.2.2.2.2.2.1
def DB.bm(a:DB T D G):=a.2.2.2.2.2.2.2.2.2.2
def cx(D:DA)G a b M:=aE (aE (aE G D.an (.list a)) D.ab (.tab b)) D.am (.tab M)
abbrev dg D G N M:=cx D G (N.map d0) (gF 0 N) M
theorem DB.other(S:DB T D G)(b:a≠D.an)(c:a≠D.ab)(e:a≠D.am):cx D G f g M a=G a:=by unfold cx;rw[aU e,aU c,aU b]
theorem DB.gx(S:DB T D G):cx D G a b M D.x=ac (.inst 117 D.dx):=(S.other S.xn S.xb S.xm).trans S.x
theorem DB.gd(S:DB T D G):cx D G a b M D.dx=ac (.attrs (L0 (.ref D.am) (.ref D.ab) (.ref D.an) (.d (.tuple (T.map .int))))):=(S.other S.dn S.db S.dm).trans S.d
theorem DB.gn(S:DB T D G):cx D G a b M D.an=ac (.list a):=(aU S.nm).trans ((aU S.nb).trans (bG ..))
theorem DB.gb(S:DB T D G):cx D G b a M D.ab=ac (.tab a):=(aU S.bm).trans (bG ..)
theorem DB.gm(S:DB T D G):cx D G a b M D.am=ac (.tab M):=bG ..
theorem DB.um(S:DB T D G):aE (cx D G a b M) D.am (.tab c)=cx D G a b c:=ij ..
theorem DB.ub(S:DB T D G):aE (cx D G b c M) D.ab (.tab a)=cx D G b a M:=by unfold cx;rw[<-jy S.bm,ij]
theorem DB.un(S:DB T D G):aE (cx D G c b M) D.an (.list a)=cx D G a b M:=by unfold cx;rw[<-jy S.nm,<-jy S.nb,ij]
theorem r8(X:Gd c n)(S:DB T D G)(q:Q (.d (.tuple (T.map .int))) (cx D G a b M)):FA c (.ref D.x) "tops" (cx D G a b M) Q:=nK X.B S.gx S.gd (by rfl) nz P9 EW q
theorem wY(X:Gd c n)(S:DB T D G)(q:Q (.ref D.an) (cx D G a b M)):FA c (.ref D.x) "nodes" (cx D G a b M) Q:=nK X.B S.gx S.gd (by rfl) nz Qa EY q
theorem wZ(X:Gd c n)(S:DB T D G)(q:Q (.ref D.ab) (cx D G a b M)):FA c (.ref D.x) "book" (cx D G a b M) Q:=nK X.B S.gx S.gd (by rfl) nz Qb EZ q
theorem w0(X:Gd c n)(S:DB T D G)(q:Q (.ref D.am) (cx D G a b M)):FA c (.ref D.x) "memo" (cx D G a b M) Q:=nK X.B S.gx S.gd (by rfl) nz Qc E0 q
theorem Hf(X:Gd c n)(S:DB T D G):FM c (.ref D.x) "kept" (.ref 86) [.ref D.x] (cx D G a b M):=λd F k hk=>tx X.B (F.get S.gx) (F.get S.gd) (by rfl) nz tR PR PS PT hk
theorem qx(X:Gd c n)(S:DB T D G):FM c (.ref D.x) "leaf" (.ref 93) [.ref D.x] (cx D G a b M):=λd F k hk=>tx X.B (F.get S.gx) (F.get S.gd) (by rfl) nz tR PU PW PY hk
theorem sa(X:Gd c n)(S:DB T D G):FM c (.ref D.x) "make" (.ref 100) [.ref D.x] (cx D G a b M):=λd F k hk=>tx X.B (F.get S.gx) (F.get S.gd) (by rfl) nz tR PZ P0 P1 hk
theorem oS(X:Gd c n)(S:DB T D G):FM c (.ref D.x) "node" (.ref 107) [.ref D.x] (cx D G a b M):=λd F k hk=>tx X.B (F.get S.gx) (F.get S.gd) (by rfl) nz tR P2 P4 P5 hk
theorem ux(X:Gd c n)(S:DB T D G):FM c (.ref D.x) "level" (.ref 114) [.ref D.x] (cx D G a b M):=λd F k hk=>tx X.B (F.get S.gx) (F.get S.gd) (by rfl) nz tR P6 P7 P8 hk
theorem oT(X:Gd c (n+1))(S:DB T D G){i:ah}(a:N[i]?=ac d)(b:N.length<=1000000)(q:Q (.d (d0 d)) (dg D G N M)):FC c (.ref 107) [.ref D.x,.int i] (dg D G N M) Q:=Vk X λc X=>wY X S (AT S.gn (dW d0 a b) q)
theorem uy(X:Gd c (n+1))(S:DB T D G){i:ah}(a:N[i]?=ac d)(b:N.length<=1000000)(f:T.length<=1000)(q:Q (.int (lv T d)) (dg D G N M)):FC c (.ref 114) [.ref D.x,.int i] (dg D G N M) Q:=Vl X λc X=>
 wY X S (AT S.gn (dW d0 a b) (by
  cases d with
  |leaf v=>exact⟨bE.str (by decide+kernel),bE.str (by decide+kernel),lG aa (r8 X S ⟨aS (by rw[aI];exact f) aa,by rw[aI];exact q⟩)⟩
  |br k g=>exact⟨bE.int _,bE.str (by decide+kernel),vB.n (λe=>nomatch e) q⟩))
theorem Hg(X:Gd c (n+1))(S:DB T D G)(j:qu d=ao)(b:N.length<=900000)(q:Q (.int ((d8 N d).2:ah)) (dg D G (d8 N d).1 M)):FC c (.ref 86) [.ref D.x,.d (d0 d)] (dg D G N M) Q:=Vm X λc X=>by
 refine aK (U6 d) λf e=>?_;have hk:=e▸U7 j;have a:=Vv N d;unfold d8 at q;rw[e] at a⊢;refine wZ X S (GK X.R S.gb hk ?_);cases g:oO N d with
 |some i=>rw[g] at a q;rw[a];exact wZ X S (wU X.R S.gb hk a q)
 |none=>
  rw[g] at a q;rw[a];refine wY X S (GI S.gn (aS (by rw[aI];exact b) aa) (wZ X S (GP X S.gb hk a (aS (by rw[U9];exact b) aa) ?_)));rw[S.ub,aI];refine wY X S ⟨_,_,U1 S.gn,U0 S.gn (aS (by rw[aI];exact b) aa) ?_⟩;rw[S.un];have h:gF 0 N++[(.tuple f,.int (N.length:ah))]=gF 0 (N++[d]):=by rw[U8,e,dZ]
  rw[(by rw[ck,<-e];rfl:N.map d0++[.tuple f]=(N++[d]).map d0),h];exact wZ X S (wU X.R S.gb hk (by rw[<-h,Vy,a,aR aa];rfl) q)
theorem qy(X:Gd c (n+2))(S:DB T D G)(a:gw v=ao)(b:N.length<=900000)(q:Q (.int ((d8 N (.leaf v)).2:ah)) (dg D G (d8 N (.leaf v)).1 M)):FC c (.ref 93) [.ref D.x,.d v] (dg D G N M) Q:=Vn X λc X=>⟨_,_,Hf X S,Hg X S (d:=.leaf v) a b q⟩
theorem VC{c:cq}{R:V->AH->Prop}{K:Sg->AH->Prop}:∀(d:ae (af×ah))(a:af)(b:ae (af×ah))(h i:LV),eh a d->b.length+d.length<=900->
 (∀h i,K [s,t,u,.o (.list ((d.foldl fw b).map dp)),.v (.int l),.v (.int (eZ a d)),h,i] G)->dj (cV 6 7) (dP.b A0 c R) ((d.map dp).map V.d) [s,t,u,.o (.list (b.map dp)),.v (.int l),.v (.int a),h,i] G K:=by
 intro d;induction d with
 |nil=>exact λa b h i Y Y k=>k h i
 |cons p d w=>
  intro a b h i v o k;have j:dj (cV 6 7) (dP.b A0 c R) ((d.map dp).map V.d) [s,t,u,.o (.list ((fw b p).map dp)),.v (.int l),.v (.int p.1),.v (.int p.1),.v (.int p.2)] G K:=w p.1 _ _ _ v.2 (by rw[cG] at o;exact aj [_,_,_] 0x10f488e3e91210c9180210c488e3e991810 aa (A2 b p) o) k;refine lG v.1 ⟨aS (m:=900) (by rw[aI];exact aj [_,_] 0x10f488e3e010c488e3e910 aa o) aa,?_⟩;refine aB (A4 b) ?_ ?_;rotate_left;intro r;refine fz r ?_;rintro f z rfl;rotate_right;rintro rfl
  ·exact⟨eX _,j⟩
  ·rw[w4] at*
   rw[wX] at j;have g:f.length+1<=900:=by rw[b7,ea] at o;exact aj [_,_] 0x10f488e3e918010c488e3e919180 aa o
   rw[ck];refine lG (by simp) ⟨f.map dp,dp z,aa,aS (m:=900) (by simp;exact aj [_] 0x10f388e3e010c488e3e9180 aa g) aa,vB.d (λe=>?_) λe=>?_⟩
   ·rw[aR (bQ (bD.1 (ay [_,_] 72762862608 aa e)) (bD.1 (ay [_,_] 72747146256 aa e))),ck] at j;exact⟨aa,_,_,aa,aS (m:=900) (by simp;exact aj [_] 0x10f488e3e010c488e3e9180 aa g) aa,j⟩
   ·rw[aQ (λq=>e (bA (λn:ah=>(n:af)) q)),ck,ck] at j;exact⟨aS (m:=900) (by simp;exact aj [_] 0x10f388e3e010c488e3e9180 aa g) aa,j⟩
theorem A5(X:Gd c (n+2))(S:DB T D G){k:ah}{a:ae (af×ah)}{g:af}(hk:T[k]?=ac g)(i:T.length<=1000)(j:eh (-1) a)(l:eZ (-1) a=g)(e:a≠[])(f:a.length<=900)(o:N.length<=900000)
 (q:Q (.int ((cX N k a).2:ah)) (dg D G (cX N k a).1 M)):FC c (.ref 100) [.ref D.x,.int k,.d (.list (a.map dp))] (dg D G N M) Q:=Vo X λc X=>by
 refine r8 X S ⟨_,dW cJ hk (aS i aa),VC a (-1) [] _ _ j (by simpa using f) λt u=>?_⟩;rw[l];have e:=Vx a [] (.inl e);have b:=Vw a [];unfold cX at q;generalize a.foldl fw []=h at*
 refine oQ aa ⟨aS (m:=900) (by rw[aI];simp at b;exact aj [_,_] 0x10f488e3e110c0110c488e3e0 aa b f) aa,?_⟩;cases h with
 |nil=>exact(e aa).elim
 |cons p h=>cases h with
  |nil=>exact q
  |cons s r=>exact⟨_,_,Hf X S,aS (m:=900) (by rw[aI];simp at b⊢;exact aj [_,_] 0x10f288e3e110c0918918110c488e3e0 aa b f) aa,Hg X S (d:=.br k (p::s::r)) aa o q⟩
noncomputable def en(T:ae af)(N:ae Nd)(i k:ah):=match N[i]? with
 |some (.br j a)=>if j=k then a else[(T.getD k 0,i)]
 |_=>[(T.getD k 0,i)]
noncomputable def Hh:Nd->aA
 |.leaf v=>v
 |.br _ a=>.tuple (a.map dp)
noncomputable def de(r:ae (af×ah)):=r.headD (0,0)
noncomputable def gy:ae af->af
 |[]=>0
 |x::a=>a.foldl lm x
theorem VD:∀(b:ae af)(x),b.foldl lm x<=x/\∀a∈b,b.foldl lm x<=a:=λf=>f.rec
 (λx=>⟨fB _,λY h=>nomatch h⟩)
 (λy i c x=>by
 refine aw (c (lm x y)) λe g=>?_;rw[jw];refine aF (ay [_,_,_] 76299581840755728 aa e (Int.min_le_left (x) (y))) λa d=>aB (bj.mp d) ?_ (λd=>?_);rintro rfl
 ·exact ay [_,_,_] 76299581840755728 rfl e (Int.min_le_right (x) (a))
 ·exact g a d)
theorem VE:∀(a:ae af)(x),a.foldl lm x=x\/a.foldl lm x∈a:=λc=>c.rec
 (λx=>.inl aa)
 (λy d b x=>by
 rw[jw];refine aB (b (lm x y)) (λh=>?_) (λh=>?_)
 ·rw[h];by_cases q:x<=y
  ·left;exact fC (ay [_,_] 72762862608 aa (mZ (ay [_,_] 72762854416 aa q:x<=y))) (ay [_,_] 72747146256 aa (mZ (ay [_,_] 72762854416 aa q:x<=y)))
  ·right;rw[show lm x y=y by exact fC (ay [_,_] 72762862608 aa (ya (ay [_,_] 72747138064 aa q:y<=x))) (ay [_,_] 72747146256 aa (ya (ay [_,_] 72747138064 aa q:y<=x)))];exact aP
 ·right;exact ba _ h)
theorem sd(h:a∈b):gy b<=a:=by
 cases b with
 |nil=>cases h
 |cons x c=>
  refine aw (VD c x) λd e=>aB (bj.mp h) ?_ (λh=>?_);rintro rfl
  ·exact d
  ·exact e a h
theorem sf(h:ns≠[]):gy ns∈ns:=by
 cases ns with
 |nil=>exact bv aa h
 |cons x a=>
  refine aB (VE a x) (λq=>?_) (λq=>?_)
  ·show a.foldl lm x∈_;rw[q];exact aP
  ·exact ba _ q
theorem VF(h:m∈b)(k:∀a∈b,m<=a):m=gy b:=by exact fC (ay [_,_] 72762854416 aa (k _ (sf (by intro q;rw[q] at h;cases h)))) (ay [_,_] 72762854416 aa (sd h))
def fM h r:=if(de r).1=h then r.tail else r
def kN d e g h:=rO (motive:=λY=>af->(ae (ae (af×ah)))->af->ae (af×ae ah)) (λY Y Y=>[]) (λf i b a c=>if c<b then(gy (a.map λr=>(de r).1),a.map λr=>(de r).2)::(i b (a.map (fM (gy (a.map λr=>(de r).1)))) (gy (a.map λr=>(de r).1))) else[]) d e g h
theorem kN.q2:kN (f+1) (b) (a) (c)=(if c<b then(gy (a.map λr=>(de r).1),a.map λr=>(de r).2)::kN f b (a.map (fM (gy (a.map λr=>(de r).1)))) (gy (a.map λr=>(de r).1)) else[]):=aa
noncomputable def gQ(a:ae (ae (af×ah))):=(a.map tI).sum
def jE b a:=kN (gQ a) b a (-1)
noncomputable def oU(p:af×ae ah):aA:=.tuple [.int p.1,.list (p.2.map λn=>.int (n:ah))]
def i8 b a r:=eh a r/\eZ a r=b
theorem i8.ne(h:i8 b a r)(k:a<b):r≠[]:=by rintro rfl;have:=h.2;simp only[eZ.q1] at this;exact ay [_,_] 0x16f080811c1015c10 aa k this
theorem i8.adv(x:i8 b a r)(c:r≠[])(d:h<=(de r).1)(f:a<h):i8 b h (fM h r):=by
 cases r with
 |nil=>exact bv aa c
 |cons p r=>
  by_cases q:p.1=h
  ·have e:fM h (p::r)=r:=aR q;rw[e];exact⟨q▸x.1.2,q▸x.2⟩
  ·have e:fM h (p::r)=p::r:=aQ q;rw[e];exact⟨⟨(Hi q).elim (λe=>ay [_,_] 80784558488886288 aa (d:h<=p.1) e) λe=>ay [_,_] 77057825808 aa e,x.1.2⟩,x.2⟩
theorem i8.gt(x:i8 c a r)(b:r≠[]):a<(de r).1:=by
 cases r with
 |nil=>exact bv aa b
 |cons p r=>exact x.1.1
theorem A6(h):∀(a:ae (ae (af×ah))),gQ (a.map (fM h))<=gQ a/\((∃r∈a,r≠[]/\(de r).1=h)->gQ (a.map (fM h))+1<=gQ a):=λj=>j.rec
 (⟨cO _,λ⟨_,h,_⟩=>nomatch h⟩)
 (λr a c=>by
 refine aw c λd f=>?_;have g:=(by
  unfold fM;split
  ·rw[Hj];exact aj [_,_] 72762854416 aa (ow (r.length) (1))
  ·exact cO _:(fM h r).length<=r.length)
 unfold gQ at d f⊢;simp only[c9,nL];refine aF (aj [_,_,_,_] 0x10f91390210c3210c10 aa g d) λ⟨s,e,b,i⟩=>aB (bj.mp e) ?_ (λe=>?_);rintro rfl
 ·have:(fM h s).length+1<=s.length:=by unfold fM;rw[aR i,Hj];exact aj [_,_] 0x10f1918012c19180 aa (dt (aj [_] 18623382011912 aa (kO.mpr b):1<=s.length))
  exact aj [_,_,_,_] 0x10f93191892010c3210c19180 aa d this
 ·have:=f ⟨s,e,b,i⟩;exact aj [_,_,_,_] 0x10f91391890210c3210c19180 aa g this)
theorem VG:∀(b)(j),(jW j b).length=b.length:=λc=>c.rec
 (λY=>rfl)
 (λY r a j=>by simp[jW.q2,a (j+1)])
noncomputable def cy(a:ae ah):ae aA:=a.map λn=>.int (n:ah)
def qA(s:ae (af×ah)):aA:=.tuple (s.map dp)
def d4(b:ae (af×α))c:=gY (motive:=λY=>af->bB α) (λY=>ak) (λp r d a=>if a<=p.1 then ac p.2 else(d a)) b c
theorem d4.q1{a:af}:d4 (α:=b) [] a=ak:=aa
theorem d4.q2:d4 (p::r) (a)=(if a<=p.1 then ac p.2 else d4 r a):=aa
def w7(r:ah->aA)(x:ah->af)(n:ah):bB Nd->aA
 |some (.leaf v)=>v
 |some (.br k a)=>(d4 a (x k)).elim .none λm=>if m<n then r m else .none
 |none=>.none
def A7(N:ae Nd)x a:=rO (motive:=λY=>ah->aA) (λY=>.none) (λf b=>λn=>w7 (b) x n N[n]?) a
def bU N x n:=A7 N x (n+1) n
theorem A8(h:∀m,m<n->r m=a m)(o:bB Nd):w7 r x n o=w7 a x n o:=by
 cases o with
 |none=>rfl
 |some d=>cases d with
  |leaf v=>rfl
  |br k b=>
   refine bA (A9 (d4 b (x k)) PyData.none) (funext λm=>?_);by_cases e:m<n
   ·rw[aR e,aR e,h m e]
   ·rw[aQ e,aQ e]
theorem VH(N:ae Nd)(x:ah->af):∀(f g n:ah),n<f->n<g->A7 N x f n=A7 N x g n:=by
 intro f;induction f with
 |zero=>exact λY n h=>bv h (Ba n)
 |succ f c=>intro g n d a;cases g with
  |zero=>exact bv a (Ba n)
  |succ g=>exact A8 (λm b=>c g m (gE b (VI d)) (gE b (VI a))) _
theorem sg(N:ae Nd)(x:ah->af)(n:ah):bU N x n=w7 (bU N x) x n N[n]?:=A8 (λm a=>VH N x n (m+1) m a (jT m)) _
def bt T(N:ae Nd)(n:ah):=match N[n]? with
 |some d=>lv T d
 |none=>0
def qB(l:ae (af×ah)):Prop:=l.rec fP λp r R=>r.casesOn fP λq Y=>p.2≠q.2/\R
def mE T(E:ah->ae af)N i k b:=
 (∃a,T[k]?=ac a/\eh (-1) b/\eZ (-1) b=a/\∀p∈b,p.1=a\/p.1+1∈E k)/\
 2<=b.length/\
 qB b/\
 ∀p∈b,p.2<i/\k<bt T N p.2
def mE.top{T:ae af}{E:ah->ae af}{N:ae Nd}(a:mE T E N i k b):=a.1
def mE.two{T:ae af}{E:ah->ae af}{N:ae Nd}(a:mE T E N i k b):=a.2.1
def mE.adj{T:ae af}{E:ah->ae af}{N:ae Nd}(a:mE T E N i k b):=a.2.2.1
def mE.ch{T:ae af}{E:ah->ae af}{N:ae Nd}(a:mE T E N i k b):=a.2.2.2
def bW T E N:=
 (∀{i j:ah}{d:Nd},N[i]?=ac d->N[j]?=ac d->i=j)/\
 (∀d∈N,qu d=ao)/\
 ∀{i k a},N[i]?=ac (.br k a)->mE T E N i k a
theorem bW.nodup{T:ae af}{E:ah->ae af}{N:ae Nd}(a:bW T E N):∀{i j:ah}{d:Nd},N[i]?=ac d->N[j]?=ac d->i=j:=a.1
def bW.ok{T:ae af}{E:ah->ae af}{N:ae Nd}(a:bW T E N):=a.2.1
theorem bW.br{T:ae af}{E:ah->ae af}{N:ae Nd}(b:bW T E N):∀{i k a},N[i]?=ac (.br k a)->mE T E N i k a:=b.2.2
def b6(T:ae af)(x:ah->af):=∀k a,T[k]?=ac a->0<=x k/\x k<=a
theorem qC:∀{c:ae (af×d)}{t:af}{m:d},d4 c t=ac m->∃h,(h,m)∈c/\t<=h
 :=by
  intro c;induction c with
  |nil=>intro t m h;cases h
  |cons p r e=>
   intro t m h;rw[d4.q2] at h;by_cases q:t<=p.1
   ·rw[aR q] at h;cases h;exact bi p.1 aP q
   ·rw[aQ q] at h;refine au (e h) λf a b=>bi f (ba _ a) b
theorem nM:∀{d:ae (af×ah)}{a:af},eh a d->a<=eZ a d:=by
 intro e;induction e with
 |nil=>exact@λa _=>fB _
 |cons p r b=>exact@λa h=>by have:=b h.2;have:=h.1;simp only[eZ.q2];(rename_i c;exact ay [_,_,_] 76299586135723024 aa this c)
theorem w8:∀{b:ae (af×ah)}{a t:af},eh a b->a<t->t<=eZ a b->∃m,d4 b t=ac m:=by
 intro d;induction d with
 |nil=>exact@λa t _ h k=>by simp only[eZ.q1] at k;exact(ay [_,_] 0x16f080811c0110c10 aa h k:aC).elim
 |cons p r c=>
  exact@λa t e h k=>by
   rw[d4.q2];split
   ·exact ew _ aa
   ·rename_i q;exact c e.2 (ay [_,_] 77042105360 aa q) k
theorem VJ:∀{d f:ae (af×ah)}{a:af},eh a d->eh a f->eZ a d=eZ a f->qB d->qB f->(∀t,a<t->t<=eZ a d->d4 d t=d4 f t)->d=f
 :=by
  intro d;induction d with
  |nil=>intro f a _ i g _ _ _;cases f with
   |nil=>rfl
   |cons q f=>exact bv (Bb i.1 (nM i.2)) (hU.2 (vn g.symm))
  |cons p d B=>intro f a j i g x y h;cases f with
   |nil=>exact bv (Bb j.1 (nM j.2)) (hU.2 (vn g))
   |cons q f=>
    have v:=nM j.2;have z:=nM i.2;have s:=h (a+1) (ay [_] 301537280 aa) (by have:=j.1;simp only[eZ.q2];exact ay [_,_,_] 0x10f1918211c0210c10 aa this v);have l:=j.1;have n:=i.1;simp only[d4.q2,aR (show a+1<=p.1 by exact ay [_,_] 298075428035600 aa l),aR (show a+1<=q.1 by exact ay [_,_] 298075428035600 aa n),uz] at s;simp only[eZ.q2] at g h;have u:p.1=q.1:=by
     refine aB (VK p.1 q.1) (λlt=>?_) ?_;rotate_left;intro o;refine aB o (λe=>?_) (λA=>?_)<;>clear o;rotate_right
     ·exfalso;cases d with
      |nil=>simp only[eZ.q1] at g v;exact ay [_,_,_] 0x16f080811c2010c1215c10 aa lt z g
      |cons C d=>have r:=h (p.1+1) (ay [_,_] 316184771763216 aa l) (by have:=nM j.2.2;have:=j.2.1;simp only[eZ.q2];(rename_i m;exact ay [_,_,_] 0x10f2918010c2111c10 aa m this));simp only[d4.q2,aQ (show¬p.1+1<=p.1 by exact ay [_] 334532992 aa),aR (show p.1+1<=C.1 by have:=j.2.1;exact ay [_,_] 298075428035600 aa this),aR (show p.1+1<=q.1 by exact ay [_,_] 298075428035600 aa lt),uz] at r;exact x.1 (by rw[s,r])
     ·exact e
     ·exfalso;cases f with
      |nil=>simp only[eZ.q1] at g z;exact ay [_,_,_] 0x16f080811c2110c0212c10 aa A v g
      |cons D f=>have r:=h (q.1+1) (ay [_,_] 316184771763216 aa n) (by have:=nM i.2.2;have:=i.2.1;rw[g];simp only[eZ.q2];(rename_i m;exact ay [_,_,_] 0x10f2918010c2111c10 aa m this));simp only[d4.q2,aQ (show¬q.1+1<=q.1 by exact ay [_] 334532992 aa),aR (show q.1+1<=D.1 by have:=i.2.1;exact ay [_,_] 298075428035600 aa this),aR (show q.1+1<=p.1 by exact ay [_,_] 298075428035600 aa A),uz] at r;exact y.1 (by rw[<-s,r])
    have k:∀{p:af×ah}{d},qB (p::d)->qB d:=λ{p d}h=>by cases d with
     |nil=>exact si
     |cons b c=>exact h.2
    have:=B j.2 (u▸i.2) (by rw[g,u]) (k x) (k y) λt w E=>by simpa only[d4.q1,d4.q2,aQ (show¬t<=p.1 by exact ay [_,_] 85632031760 aa w),aQ (show¬t<=q.1 by exact ay [_,_,_] 89810385049312272 aa w u)] using(h t (ay [_,_,_] 80818578958392336 aa w l) E)
    rw[this,show p=q from VL u s]
theorem g8(h:N[n]?=ac (.leaf v)):bU N x n=v:=by rw[sg,h];rfl
theorem uA(h:N[n]?=ac (.br k a))(b:d4 a (x k)=ac m)(c:m<n):bU N x n=bU N x m:=by rw[sg,h];show A9 (d4 a (x k)) _ _=_;rw[b];exact aR c
theorem bW.step(g:bW T E N)(b:b6 T x)(h:N[n]?=ac (.br k i)):∃m,d4 i (x k)=ac m/\m<n/\k<bt T N m/\bU N x n=bU N x m/\m<N.length:=by have o:=g.br h;refine cP o.top λc e r l Y=>aw (b k c e) λj p=>aK (w8 r (ay [_] 80794416646766600 aa j:(-1:af)<x k) (ay [_,_,_] 76281989671509008 aa p l)) λm d=>au (qC d) λs a Y=>aw (o.ch _ a) λf q=>(⟨m,d,f,q,(uA h d f),(aj [_,_,_] 80803185763097616 aa f ((dF.mp h).1))⟩)
noncomputable def i9(x:ah->af)k a:=λj=>if j=k then a else x j
theorem uB(g:bW T E N)(k:ah)(a:af):∀(n:ah)(x:ah->af),k<bt T N n->bU N (i9 x k a) n=bU N x n:=by
 intro n;induction n using mF with
 |_ n l=>
  intro x hk
  rw[sg N (i9 x k a),sg N x]
  cases h:N[n]? with
  |none=>rfl
  |some d=>
   cases d with
   |leaf v=>rfl
   |br j c=>
    have i:k<j:=by simpa[bt,h,lv] using hk
    have e:i9 x k a j=x j:=aQ (aj [_,_] 0x16f080811c0112c10 aa i)
    show A9 (d4 c (i9 x k a j)) _ _=A9 (d4 c (x j)) _ _
    rw[e]
    cases o:d4 c (x j) with
    |none=>rfl
    |some m=>refine au (qC o) λq b Y=>aw ((g.br h).ch _ b) λf p=>(aR f).trans ((l m f x (kB i p)).trans (aR f).symm)
theorem b6.set(b:b6 T x)(hk:T[k]?=ac c)(f:0<=a)(g:a<=c):b6 T (i9 x k a):=λj t d=>by
 unfold i9;split
 ·rename_i e;subst e;rw[hk] at d;cases d;exact aF f g
 ·exact b j t d
theorem mG(h:N[n]?=ac (.br k a)):bt T N n=k:=by simp[bt,h,lv]
theorem bW.lvl_lt(g:bW T E N){n k:ah}{a:ae (af×ah)}(h:N[n]?=ac (.br k a)):k<T.length:=by refine au (g.br h).top λb e Y=>(dF.mp e).1
theorem bW.no_const(g:bW T E N){n k m:ah}{b:ae (af×ah)}(h:N[n]?=ac (.br k b))(a:∀p∈b,p.2=m):aC:=by
 have o:=g.br h;match b,o.two,o.adj,a with
 |p::q::r,_,c,a=>exact c.1 (by rw[a p (aP),a q (.tail _ (.head _))])
 |[_],d,_,_=>exact jM _ ‹_›
 |[],d,_,_=>trivial
theorem Hk:∀{b:ae (af×ah)}{a:af},eh a b->∀p∈b,d4 b p.1=ac p.2/\a<p.1/\p.1<=eZ a b
 :=by
  intro b;induction b with
  |nil=>intro a c p d;cases d
  |cons q r f=>
   intro a c p d;refine aB (bj.mp d) ?_ (λd=>?_);rintro rfl
   ·exact ca (by rw[d4.q2,aR (fB _)]) c.1 (nM c.2)
   ·refine bu (f c.2 p d) λg e h=>ca (by rw[d4.q2,aQ (by exact ay [_,_] 85632031760 aa e)];exact g) (ay [_,_,_] 80803185763097616 rfl c.1 e) h
theorem bW.canon(g:bW T E N)(x0:ah->af)(b0:b6 T x0):∀(s n m:ah),n+m<=s->n<N.length->m<N.length->(∀x,b6 T x->bU N x n=bU N x m)->n=m:=by
 intro s;induction s using mF with
 |_ s ih=>
  have h:∀(n m:ah),n+m<=s->n<N.length->m<N.length->(∀x,b6 T x->bU N x n=bU N x m)->∀k G,N[n]?=ac (.br k G)->k<bt T N m->aC:=by intro n m z q w y k G D hk;have o:=g.br D;refine cP o.top λM e r l Y=>g.no_const D (m:=m) λp hp=>aw (o.ch p hp) λA Q=>bu (Hk r p hp) λq1 q2 q3=>ih (p.2+m) (aj [_,_,_,_] 0x11f291311c0310c2910 aa A z) p.2 m (cO _) (aj [_,_,_] 80803185763097616 aa A q) w λx B=>?_;rw[<-uB g k p.1 p.2 x Q,<-uB g k p.1 m x hk,<-y _ (B.set (k:=k) (a:=p.1) e (ay [_] 76280273209792520 aa q2) (ay [_,_,_] 76299581840763920 aa q3 l))];exact(uA D (by rw[show i9 x k p.1 k=p.1 from aR aa];exact q1) A).symm
  intro n m z q w y
  have i:=cr q
  have b:=cr w
  cases D:N[n] with
  |leaf v=>
   rw[D] at i
   cases f:N[m] with
   |leaf u=>rw[f] at b;have:=y x0 b0;rw[g8 i,g8 b] at this;exact g.nodup i (this▸b)
   |br j J=>rw[f] at b;exact(h m n (aj [_,_,_] 4770300202592528 aa z) w q (λx B=>(y x B).symm) j J b (by simp[bt,i,lv];exact g.lvl_lt b)).elim
  |br k G=>
   rw[D] at i;refine aB (Nat.lt_trichotomy k (bt T N m)) (λlt=>?_) ?_;rotate_left;intro H;refine aB H (λe=>?_) (λL=>?_)<;>clear H;rotate_right
   ·exact(h n m z q w y k G i lt).elim
   ·cases f:N[m] with
    |leaf u=>rw[f] at b;exact(h n m z q w y k G i (by simp[bt,b,lv];exact g.lvl_lt i)).elim
    |br j J=>
     rw[f] at b;have U:k=j:=by rw[e,mG b]
     subst U;have o:=g.br i;have W:=g.br b;refine cP o.top λM e1 r l Y=>cP W.top λh3 I r' l' Y=>?_;rw[e1] at I;cases I;have:=VJ r r' (by rw[l,l']) o.adj W.adj λt h1 h2=>by
      refine aK (w8 r h1 h2) λc hc=>aK (w8 r' h1 (by rw[l',<-l];exact h2)) λd C=>au (qC hc) λY m1 Y=>au (qC C) λY m2 Y=>aw (o.ch _ m1) λA Q=>aw (W.ch _ m2) λd1 d2=>?_;have:=ih (c+d) (aj [_,_,_,_,_] 0x11f293411c0411c1310c2910 aa A d1 z) c d (cO _) (aj [_,_,_] 80803185763097616 aa A q) (aj [_,_,_] 80803185763097616 aa d1 w) λx B=>by have se:i9 x k t k=t:=aR aa;rw[<-uB g k t c x Q,<-uB g k t d x d2,<-uA i (by rw[se];exact hc) A,<-uA b (by rw[se];exact C) d1];exact y _ (B.set (k:=k) (a:=t) e1 (ay [_] 76280273209792520 aa h1) (ay [_,_,_] 76299581840763920 aa h2 l))
      rw[hc,C,this]
     subst this;exact g.nodup i b
   ·cases f:N[m] with
    |leaf u=>rw[f] at b;simp[bt,b,lv] at L;exact(aj [_,_] 0x16f080811c0111c10 aa L (g.lvl_lt i):aC).elim
    |br j J=>rw[f] at b;rw[mG b] at L;exact(h m n (aj [_,_,_] 4770300202592528 aa z) w q (λx B=>(y x B).symm) j J b (by rw[mG i];exact L)).elim
theorem VM(X:Gd c (n+1)){lo a:af}(q:Q (.d (.list [.tuple [.int lo,.int a]])) G):FC c (.ref 65) [.d (.list [.tuple [.int lo,.int a]])] G Q:=Vj X λc X=>⟨_,aa,eX _,eX _,q⟩
theorem VN{Q:V->AH->Prop}(X:Gd c (n+2))(S:DB T D G)(b:N[i]?=ac d)(hk:k<T.length)(f:T.length<=1000)(g:N.length<=1000000)(q:Q (.d (.tuple ((en T N i k).map dp))) (dg D G N M)):FC c (.ref 128) [.ref D.x,.int i,.int k] (dg D G N M) Q:=Vp X λc X=>by
 refine⟨_,_,oS X S,oT X S b g ?_⟩
 have a:en T N i k=[(T.getD k 0,i)]->az (cD (aT (ai (aT (ai (bO (cw (ag 0) "tops") (ag 2)) (ai (ag 1) av))) av))) aH c [.v (.ref D.x),.v (.int i),.v (.int k),.v (.d (Vu d)),.v (.d (Hh d))] (dg D G N M) (λY G=>Q .none G) (λY Y=>aC) Q:=λe=>by rw[e] at q;exact r8 X S ⟨_,dW cJ (x:=T.getD k 0) (by rw[cY,cr hk];rfl) (aS f aa),q⟩
 cases d with
 |leaf v=>exact⟨bE.str (by decide+kernel),bE.int _,vB.n (λe=>nomatch e) (a (by simp[en,b]))⟩
 |br j l=>
  refine vB.d (λe=>?_) λe=>?_
  ·have e:=sj e;rw[show en T N i k=l by simp[en,b,e]] at q;exact q
  ·exact a (by simp[en,b];intro h;exact bv (bA gB h) e)
abbrev Zp:=ae (af×ah)×ae (af×ah)
def kP h z:=if(de z.2).1=h then(z.1++[de z.2],z.2.tail) else z
noncomputable def jF(z:Zp):aA:=.int (z.1.length:ah)
theorem Hl(h)(z):(kP h z).2=fM h z.2:=by delta kP fM;split<;>rfl
theorem VO(k:z.2≠[]):(kP h z).1++(kP h z).2=z.1++z.2:=by
 obtain⟨u,r⟩:=z;cases r with
 |nil=>exact bv aa k
 |cons p r=>
  unfold kP;split
  ·exact(GS u p r).symm
  ·rfl
theorem VP{K:Sg->AH->Prop}:∀(t d:ae Zp)(a b),d.length+t.length<=1000->
 (∀a b,K [i,j,l,n,.o (.list ((d++t.map (kP h)).map jF)),o,.v (.int h),p,a,b,q,r,s,u] G)->
 dj (cV 8 9) (dP.b Ha c R) (jW d.length (t.map λz=>dp (de z.2))) [i,j,l,n,.o (.list ((d++t).map jF)),o,.v (.int h),p,a,b,q,r,s,u] G K:=by
 intro t;induction t with
 |nil=>exact λd a b Y k=>k a b
 |cons z t v=>
  intro d a b g k;have f:=v (d++[kP h z]) (.v (.int d.length)) (.v (.d (dp (de z.2)))) (by rw[b7,ea,vv,wW 1];exact g) (by rw[cs];exact k);rw[b7,cs] at f;refine vB.d (λe=>?_) λe=>?_
  ·have w:((d++z::t).map jF).set ((d.length:ah):af).toNat (.int ((z.1.length:ah)+1))=(d++([kP h z]++t)).map jF:=by rw[show kP h z=(z.1++[de z.2],z.2.tail) from aR e];simp[jF]
   rw[<-w] at f;exact⟨bl _,(aS (m:=1000) (by rw[aI,b7];exact g) aa:((d++z::t).map jF).length<=1000000),_,(by simp:((d++z::t).map jF)[d.length]?=ac (jF z)),f⟩
  ·rw[show kP h z=z from aQ e] at f;exact f
theorem VQ{K:ae aA->Sg->AH->Prop}:∀(t d:ae Zp)(a)(b e),(∀z∈t,z.2≠[]/\z.1.length+z.2.length<=9000)->d.length+t.length<=1000->
 (∀b e,K (a++t.map λz=>dp (de z.2)) [s,u,v,w,.o (.list ((d++t).map jF)),y,A,B,C,D,j,b,e,l] G)->
 fK (cV 11 12) (fi (bO (ag 12) (bO (ag 4) (ag 11))) c) (jW d.length ((t.map λz=>z.1++z.2).map qA)) a [s,u,v,w,.o (.list ((d++t).map jF)),y,A,B,C,D,j,b,e,l] G K:=by
 intro t;induction t with
 |nil=>intro d a b e Y Y k;have:=k b e;rw[gN,c8 a] at this;exact this
 |cons z t E=>
  intro d a b e n o k
  obtain⟨f,H⟩:=z
  have g:=n _ aP
  cases H with
  |nil=>exact bv aa g.1
  |cons p r=>
  have q:=E (d++[(f,p::r)]) (a++[dp p]) (.v (.int d.length)) (.v (.d (qA (f++p::r)))) (λz h=>n z (ba _ h)) (by rw[b7,ea,vv,wW 1];exact o) (by rw[cs,cs];exact k)
  rw[b7,cs] at q
  exact⟨_,r7 (x:=jF (f,p::r)) (by simp) (aS (m:=1000) (by rw[aI,b7];exact o) aa:((d++(f,p::r)::t).map jF).length<=1000000),_,dW dp (i:=f.length) (x:=p) (by simp) (aS (m:=9000) (by rw[b7];exact g.2) aa),q⟩
theorem Hm{d:ae aA}(e:d=ns.map .int)(c:ns≠[]){Q:af->Prop}(q:Q (gy ns)):∃b:ae af,d=b.map .int/\0<b.length/\∀m,m∈b->(∀a∈b,m<=a)->Q m:=⟨ns,e,kO.mpr c,λm h k=>by rw[VF h k];exact q⟩
inductive uC(a0 a1:LV)(k:ah)(sides:ae (ae (af×ah)))(top:af)(G:AH):ah->Sg->AH->Prop
 |mk (high:af) (zs:ae Zp) (acc:ae (af×ae ah)) (u7 u8 u9:LV) (f:ah):zs.map (λz=>z.1++z.2)=sides->(∀z∈zs,i8 top high z.2)->gQ (zs.map (·.2))<=f->acc++kN f top (zs.map (·.2)) high=jE top sides->acc.length+f<=90000->
  uC a0 a1 k sides top G f [a0,a1,.v (.int k),.v (.d (.list (sides.map qA))),.o (.list (zs.map jF)),.o (.list (acc.map oU)),.v (.int high),u7,u8,u9,.u,.u,.u,.u] G
theorem VR(X:Gd c n)(S:DB T D G){K:Sg->AH->Prop}{k:ah}(U:T[k]?=ac d)(hT:T.length<=1000)(B:a.length<=10)(W:a≠[])(h3:∀s∈a,s.length<=900)
 (q:∀p h u7 u8 u9,K [.v (.ref D.x),a1,.v (.int k),.v (.d (.list (a.map qA))),.o (.list p),.o (.list ((jE d a).map oU)),.v (.int h),u7,u8,u9,.u,.u,.u,.u] (dg D G N M)):
 ∀n σ G',uC (.v (.ref D.x)) a1 k a d (dg D G N M) n σ G'->bX .Lt (ag 6) (bO (cw (ag 0) "tops") (ag 2)) c σ G' (wA (uC (.v (.ref D.x)) a1 k a d (dg D G N M)) n Hb c K R):=by
 intro f σ G' h;cases h with
 |mk i b h4 u7 u8 u9 _ he hr hf C hl=>
 refine r8 X S ⟨_,dW cJ U (aS hT aa),vB.d (λv=>?_) λh5=>?_⟩
 ·subst he;have j:=λz h=>(hr z h).ne v;have w:b.length<=10:=by rw[aI] at B;exact B
  have o:b.length<=100000:=bn w (aX _ _);have E:b≠[]:=λe=>W (by rw[e];rfl);have h6:∀r∈b.map (·.2),gy ((b.map (·.2)).map λr=>(de r).1)<=(de r).1:=λr h=>sd (nr h);refine au (bV.mp (sf (ns:=(b.map (·.2)).map λr=>(de r).1) (λe=>E (qr.mp (qr.mp e))))) λQ l t=>?_;have H:∀r∈b.map (·.2),i8 d i r:=λr h=>by refine au (bV.mp h) ?_;rintro z I rfl;exact hr z I
  have J:=λr h=>(H r h).ne v;have A:=(A6 _ (b.map (·.2))).2 ⟨Q,l,J Q l,t⟩;have h7:i<gy ((b.map (·.2)).map λr=>(de r).1):=by rw[<-t];exact(H Q l).gt (J Q l)
  obtain⟨f,rfl⟩:∃f',f=f'+1:=⟨f-1,bQ (aj [_,_] 0x10f9180115c19180 rfl (dt (aj [_,_,_] 0x10f11810c0918210c10 rfl A hf:1<=f))) (aj [_,_] 0x10f1918012c19180 rfl (dt (aj [_,_,_] 0x10f11810c0918210c10 rfl A hf:1<=f)))⟩
  rw[kN.q2] at C;rw[aR v] at C;generalize h8:gy ((b.map (·.2)).map λr=>(de r).1)=u at*
  refine⟨by rw[VG,aI,aI];exact o,VQ b [] [] _ _ (λz h=>⟨j z h,?_⟩) (by simpa using bn w (aX _ _)) λh1 h2=>?_⟩
  ·have:=h3 _ (nr (f:=λz=>z.1++z.2) h);rw[b7] at this;exact bn this (aX _ _)
  have L:(([]++b.map λz:Zp=>dp (de z.2)).map V.d).length<=100000:=by rw[jG,aI,aI];exact o
  refine⟨L,kM (f0:=λz=>dp (de z.2)) (λz:Zp=>.int (de z.2).1) aa (λz Y K q=>q) λx=>Hm (ns:=(b.map (·.2)).map λr=>(de r).1) (by rw[eI,eI];rfl) (λe=>E (qr.mp (qr.mp e))) ?_⟩
  rw[h8];refine⟨L,kM (f0:=λz=>dp (de z.2)) (λz:Zp=>.int ((de z.2).2:ah)) aa (λz Y K q=>q) λx=>⟨aS (m:=90000) (by rw[aI];exact aj [_,_] 0x10f089efe5e1e010c089efe5e1e991810 aa hl) aa,?_⟩⟩
  refine VP b [] _ _ (by simpa using bn w (aX _ _)) λh1 h2=>⟨f,jT f,?_⟩
  have hm:(b.map (kP u)).map (·.2)=(b.map (·.2)).map (fM u):=by rw[eI,eI];exact i7 λz Y=>Hl u z
  have:=uC.mk (sides:=b.map λz=>z.1++z.2) (a0:=.v (.ref D.x)) (a1:=a1) (k:=k) (top:=d) (G:=dg D G N M) u (b.map (kP u)) (h4++[(u,b.map λz=>(de z.2).2)]) (.v (.d (.list ([]++b.map λz=>dp (de z.2))))) h1 h2 f
   (by rw[eI];exact i7 λz I=>VO (j z I))
   (λz I=>by refine au (bV.mp I) ?_;rintro y hy rfl;rw[Hl];exact(hr y hy).adv (j y hy) (h6 _ (nr hy)) h7)
   (by rw[hm];exact aj [_,_,_] 0x10f1210c0918210c91810 aa A hf)
   (by rw[hm,<-C,cs,eI (f:=λz:Zp=>z.2) (g:=λr=>(de r).2)];rfl)
   (by rw[b7,ea];exact aj [_,_] 0x10f089efe5e1e91918010c089efe5e1e991810 aa hl)
  rw[ck,c9,(by unfold oU;rw[eI];rfl:oU (u,b.map λz=>(de z.2).2)=.tuple [.int u,.list ([]++b.map λz=>.int ((de z.2).2:ah))])] at this;exact this
 ·have:kN f d (b.map (·.2)) i=[]:=by cases f with
   |zero=>rfl
   |succ f=>exact aQ h5
  rw[this,c8] at C;rw[C];exact q _ _ _ _ _
theorem VS(m):(dX m [cJ 0]).flatten=dX m (.int 0):=by
 induction m with
 |zero=>rfl
 |succ m a=>rw[v7,zr,a];rfl
theorem VT(h:∀s∈a,s.length<=m):gQ a<=a.length*m:=by
 induction a with
 |nil=>exact eX _
 |cons s a b=>rw[cG,uD,wW];exact uE (h s aP) (b λs k=>h s (ba _ k))
theorem Hn(X:Gd c (n+4))(S:DB T D G){k:ah}(C:∀m∈ns,m<N.length)(hk:(k:af)=gy (ns.map λm=>(bt T N m:af)))(o:T[k]?=ac f)(v:T.length<=1000)(E:N.length<=1000000)(r:ns≠[])(j:ns.length<=10)(w:∀i∈ns,i8 f (-1) (en T N i k)/\(en T N i k).length<=900)
 (q:Q (.d (.tuple [.int k,.list ((jE f (ns.map λi=>en T N i k)).map oU)])) (dg D G N M)):FC c (.ref 133) [.ref D.x,.d (.tuple (cy ns))] (dg D G N M) Q:=Vq X λc X=>by
 have t:((cy ns).map V.d).length<=100000:=by unfold cy;rw[aI,aI];exact bn j (aX _ _)
 refine⟨t,kM (f0:=λn:ah=>.int n) (λm=>.int (bt T N m:ah)) aa (λm y K q=>?_) λx=>Hm (ns:=ns.map λm=>(bt T N m:af)) (by rw[eI];rfl) (λe=>r (qr.mp e)) ?_⟩
 ·refine aK (dc (C m y)) λd u=>⟨_,_,ux X S,uy (n:=n+2) X S u E v ?_⟩
  rw[(by unfold bt;rw[u]:bt T N m=lv T d)] at q;exact q
 rw[<-hk];refine⟨t,kM (f0:=λn:ah=>.int n) (λi=>qA (en T N i k)) aa (λm y K q=>?_) λx=>?_⟩
 ·refine aK (dc (C m y)) λd u=>VN (n:=n+1) X S u (eU o) v E q
 have g:(ns.map λi=>en T N i k).length<=10:=by rw[aI];exact j
 have l:∀s∈ns.map λi=>en T N i k,i8 f (-1) s/\s.length<=900:=λs h=>by refine au (bV.mp h) ?_;rintro i I rfl;exact w i I
 have A:(ns.map λi=>en T N i k)≠[]:=λe=>r (qr.mp e);rw[jG,show ns.map (λi=>qA (en T N i k))=(ns.map λi=>en T N i k).map qA by rw[eI];rfl];generalize ns.map (λi=>en T N i k)=a at*
 refine⟨aS (m:=10) (by rw[aI];exact g) aa,bl _,by rw[aI];exact ay [_] 0x10f081e7e2e010ca80 aa (bD.2 g),?_⟩
 rw[lA,aI,VS,show dX a.length (cJ 0)=(a.map λs=>(([],s):Zp)).map jF by rw[eI];exact(List.map_const (b:=cJ 0)).symm];have H:(a.map λs=>(([],s):Zp)).map (·.2)=a:=by rw[eI];exact AZ _
 exact⟨uC (.v (.ref D.x)) (.v (.d (.tuple (cy ns)))) k a f (dg D G N M),⟨gQ a,.mk (-1) _ [] .u .u .u _ (by rw[eI];exact AZ _:(a.map λs=>(([],s):Zp)).map (λz=>z.1++z.2)=a) (λz h=>by refine au (bV.mp h) ?_;rintro s J rfl;exact(l s J).1) (by rw[H];exact cO _) (by rw[H];rfl) (by have:=VT λs h=>(l s h).2;have:=kQ 900 g;rw[jH];(rename_i B;exact aj [_,_] 0x10f089efe5e1e910810c0110cab488e3e0 aa B this))⟩,VR X S o v g A (λs h=>(l s h).2) λp h L U W=>q⟩
theorem Ho:∀{ss:ae (ae (af×ah))}{s:ae (af×ah)},s∈ss->s.length<=gQ ss
 :=by
  intro ss;induction ss with
  |nil=>intro s h;cases h
  |cons x ss a=>
   intro s h;unfold gQ;rw[c9,nL];refine aB (bj.mp h) ?_ (λh=>?_);rintro rfl
   ·exact aj [_,_] 17797376 rfl
   ·have:=a h;unfold gQ at this;exact aj [_,_,_] 18661934959632 aa this
noncomputable def fW(a lo b:af)(y n:ah):=(if 0<lo then[(lo-1,n)] else[])++([(b,y)]++(if b+1<=a then[(a,n)] else[]))
theorem Hp{c lo d:af}(g:0<=lo)(f:lo<=d)(i:d<=c):eh (-1) (fW c lo d y n)/\eZ (-1) (fW c lo d y n)=c/\fW c lo d y n≠[]/\(fW c lo d y n).length<=3:=by
 unfold fW;have e:∀{x:af},0<=x->-1<x:=λh=>Bb (by decide) h;have j:=Bb (Int.sub_lt_self lo (show(0:af)<1 by decide)) f;split<;>split<;>simp[eh.q1,eh.q2,eZ.q1,eZ.q2]<;>rename_i a b
 ·exact⟨e (Hq a),j,b⟩
 ·exact⟨⟨e (Hq a),j⟩,fC i (hU.mp b)⟩
 ·exact⟨e (eD g f),b⟩
 ·exact⟨e (eD g f),fC i (hU.mp b)⟩
def dH(N a:ae Nd):=∃R,a=N++R
theorem oW:dH N N:=⟨[],by simp⟩
theorem dH.trans:dH N b->dH b a->dH N a:=λ⟨R,e⟩ ⟨S,f⟩=>⟨R++S,by rw[f,e,cs]⟩
theorem dH.get{N a:ae Nd}(p:dH N a){i:ah}(h:N[i]?=ac d):a[i]?=ac d:=by refine aK p ?_;rintro R rfl;rw[jv (dF.mp h).1];exact h
theorem dH.at(p:dH N a)(h:i<N.length):a[i]?=N[i]?:=by refine aK p ?_;rintro R rfl;rw[jv h]
theorem dH.len(p:dH N a):N.length<=a.length:=by refine aK p ?_;rintro R rfl;simp
theorem dH.val(p:dH N a):∀(n)(x),n<N.length->bU a x n=bU N x n:=by
 intro n;induction n using mF with
 |_ n c=>intro x h;rw[sg a,p.at h,sg N];exact A8 (λm b=>c m b x (kB b h)) _
theorem dH.lvl(p:dH N a)(h:n<N.length):bt T a n=bt T N n:=by unfold bt;rw[p.at h]
theorem mE.pre(o:mE T E N i k b)(p:dH N c)(d:i<=N.length):mE T E c i k b:=⟨o.top,o.two,o.adj,λq a=>⟨(o.ch q a).1,by rw[p.lvl (by have:=(o.ch q a).1;exact aj [_,_,_] 80803185763093520 aa this d)];exact(o.ch q a).2⟩⟩
theorem Hr(g:bW T E N)(r:qu d=ao)(s:∀k l,d=.br k l->mE T E N N.length k l):
 bW T E (d8 N d).1/\dH N (d8 N d).1/\(d8 N d).2<(d8 N d).1.length/\(d8 N d).1.length<=N.length+1/\(d8 N d).1[(d8 N d).2]?=ac d:=by
 unfold d8;cases o:oO N d with
 |some i=>have:=GO o;exact li g oW (dF.mp this).1 (by simp) this
 |none=>
  have q:=(λt=>by have:=List.findIdx?_eq_none_iff.mp o d t;simp at this:d∉_)
  have p:dH N (N++[d]):=⟨[d],aa⟩
  refine li ⟨?_,?_,?_⟩ p (by simp) (by simp) (by simp)
  ·intro i j e c a;by_cases b:i<N.length
   ·rw[jv b] at c;by_cases f:j<N.length
    ·rw[jv f] at a;exact g.nodup c a
    ·rw[oX (by exact aj [_,_] 72747142160 aa f)] at a;rw[Bc] at a;split at a
     ·cases a;exact bv (dw c) q
     ·cases a
   ·rw[oX (by exact aj [_,_] 72747142160 aa b),Bc] at c;split at c
    ·rename_i m;cases c;by_cases f:j<N.length
     ·rw[jv f] at a;exact bv (dw a) q
     ·rw[oX (by exact aj [_,_] 72747142160 aa f),Bc] at a;split at a
      ·(rename_i n;exact bQ (aj [_,_,_,_] 0x10f0315c391212c08214c10 aa (dt (aj [_,_] 72747142160 aa b:N.length<=i)) m f) (aj [_,_,_,_] 0x10f0315c391212c08214c10 aa (dt (aj [_,_] 72747142160 aa f:N.length<=j)) n b))
      ·cases a
    ·cases c
  ·intro e u;refine aB (ed.mp u) (λh=>?_) (λh=>?_)
   ·exact g.ok e h
   ·simp at h;rw[h];exact r
  ·intro i k l h;by_cases b:i<N.length
   ·rw[jv b] at h;exact(g.br h).pre p (aj [_,_] 72762858512 aa b)
   ·rw[oX (by exact aj [_,_] 72747142160 aa b),Bc] at h;split at h
    ·rename_i m;simp only[uz] at h;have:i=N.length:=bQ (aj [_,_,_] 0x10f1215c291012c080 aa (dt (aj [_,_] 72747142160 aa b:N.length<=i)) m) (aj [_,_] 72747142160 aa b);subst this;exact(s k l h).pre p (cO _)
    ·cases h
theorem qD(g:bW T E N)(a:gw v=ao):
 bW T E (d8 N (.leaf v)).1/\dH N (d8 N (.leaf v)).1/\(d8 N (.leaf v)).2<(d8 N (.leaf v)).1.length/\(d8 N (.leaf v)).1.length<=N.length+1/\(d8 N (.leaf v)).1[(d8 N (.leaf v)).2]?=ac (.leaf v):=
 Hr g a λk b e=>by cases e
def jn b c:=gY (motive:=λY=>(af×ah)->ae (af×ah)) (λq=>[q]) (λp r a q=>if q.2=p.2 then(a p) else q::(a p)) c b
theorem jn.q2:jn (q) (p::r)=(if q.2=p.2 then jn p r else q::jn p r):=aa
theorem VU:∀(r a:ae (af×ah))(q:af×ah),r.foldl fw (a++[q])=a++jn q r:=λc=>c.rec
 (λa q=>rfl)
 (λp r b a q=>by
 rw[jw,wX];rw[jn.q2];split
 ·exact b a p
 ·rw[b (a++[q]) p,cs];rfl)
theorem w9(p)(r:ae (af×ah)):(p::r).foldl fw []=jn p r:=by rw[jw];have:fw [] p=[]++[p]:=aa;rw[this,VU];rfl
theorem Hs:∀(r:ae (af×ah))(q:af×ah)(a:af),eh a (q::r)->eh a (jn q r)/\eZ a (jn q r)=eZ a (q::r):=λf=>f.rec
 (λq a h=>⟨h,aa⟩)
 (λp r b q a h=>by
 rw[jn.q2];split
 ·refine aw (b p a ⟨by have:=h.1;have:=h.2.1;(rename_i d;exact ay [_,_,_] 80803185763097616 aa d this),h.2.2⟩) λe c=>aF e (by rw[c];rfl)
 ·refine aw (b p q.1 h.2) λe c=>aF ⟨h.1,e⟩ (by simp only[eZ.q2] at c⊢;exact c))
theorem Ht:∀(r:ae (af×ah))(q:af×ah),∃p s,jn q r=p::s/\p.2=q.2:=λb=>b.rec
 (λq=>⟨q,[],aa,aa⟩)
 (λp r a q=>by
 rw[jn.q2];split
 ·rename_i e;refine cQ (a p) λz s c d=>qS z s c (by rw[d,e])
 ·exact qS _ _ aa rfl)
theorem Hu:∀(r:ae (af×ah))(q:af×ah),qB (jn q r):=λb=>b.rec
 (λq=>si)
 (λp r a q=>by
 rw[jn.q2];split
 ·exact a p
 ·rename_i e;have:=a p;refine cQ (Ht r p) λz s c d=>?_;rw[c] at this⊢;exact⟨by rw[d];exact e,this⟩)
theorem Hv:∀(r:ae (af×ah))(q:af×ah),∀p∈jn q r,p∈q::r:=λc=>c.rec
 (λq p h=>h)
 (λa r b q p h=>by
 rw[jn.q2] at h;split at h
 ·exact ba _ (b a p h)
 ·refine aB (bj.mp h) ?_ (λh=>?_);rintro rfl
  ·exact aP
  ·exact ba _ (b a p h))
theorem VV:∀(r:ae (af×ah))(q:af×ah)(a:af),eh a (q::r)->∀t,d4 (jn q r) t=d4 (q::r) t:=λf=>f.rec
 (λq a h t=>rfl)
 (λp r b q a h t=>by
 rw[jn.q2];split
 ·rename_i e;rw[b p a ⟨by have:=h.1;have:=h.2.1;(rename_i d;exact ay [_,_,_] 80803185763097616 aa d this),h.2.2⟩ t];simp only[d4.q2];by_cases c:t<=q.1
  ·rw[aR c,aR (by exact ay [_,_,_] 76299581840759824 aa c h.2.1:t<=p.1),e]
  ·rw[aQ c]
 ·have:=b p q.1 h.2 t;simp only[d4.q2] at this⊢;rw[this])
theorem VW:∀(r:ae (af×ah))(q:af×ah),qB (q::r)->jn q r=q::r:=λb=>b.rec
 (λq Y=>rfl)
 (λp r a q h=>by rw[jn.q2];rw[aQ h.1,a p h.2])
theorem xa(g:bW T E N)(hk:T[k]?=ac i)(r:eh (-1) a)(l:eZ (-1) a=i)(U:∀p∈a,p.1=i\/p.1+1∈E k)(y:∀p∈a,p.2<N.length/\k<bt T N p.2)(A:a≠[]):
 bW T E (cX N k a).1/\dH N (cX N k a).1/\(cX N k a).2<(cX N k a).1.length/\(cX N k a).1.length<=N.length+1/\k<=bt T (cX N k a).1 (cX N k a).2/\
  ∀x,b6 T x->∃m,d4 a (x k)=ac m/\bU (cX N k a).1 x (cX N k a).2=bU N x m:=by
 obtain⟨q,s,rfl⟩:∃q s,a=q::s:=qE A
 unfold cX
 rw[w9]
 refine aw (Hs s q (-1) r) λC f=>?_
 have W:=Hu s q
 have w:=Hv s q
 have D:=VV s q (-1) r
 generalize jn q s=j at*
 rw[l] at f
 have G:∀x,b6 T x->∃m,d4 j (x k)=ac m/\∃h,(h,m)∈j:=λx b=>by refine aw (b k i hk) λY b2=>aK (w8 C (ay [_] 80794416646766600 aa Y:(-1:af)<x k) (ay [_,_,_] 76281989671509008 aa b2 f)) λm n=>au (qC n) λh u _=>bi m n ⟨h,u⟩
 cases j with
 |nil=>have:=nM r.2;have:=r.1;simp only[eZ.q1,eZ.q2] at f l;(rename_i c;exact aF (ay [_,_,_] 0x16f080815c2a180812c2110c1011c0a1808 aa f l c this:aC).elim ⟨(ay [_,_,_] 0x16f080815c2a180812c2110c1011c0a1808 aa f l c this:aC).elim,⟨(ay [_,_,_] 0x16f080815c2a180812c2110c1011c0a1808 aa f l c this:aC).elim,⟨(ay [_,_,_] 0x16f080815c2a180812c2110c1011c0a1808 aa f l c this:aC).elim,⟨(ay [_,_,_] 0x16f080815c2a180812c2110c1011c0a1808 aa f l c this:aC).elim,(ay [_,_,_] 0x16f080815c2a180812c2110c1011c0a1808 aa f l c this:aC).elim⟩⟩⟩⟩)
 |cons p j=>cases j with
  |nil=>
   refine aw (y p (w p (aP))) λH I=>xK g oW H (by simp) (Vd I) λx b=>au (G x b) λm n t=>aK t λh u=>?_;have:m=p.2:=by simp at u;rw[<-u]
   subst this;exact bi p.2 (by rw[<-D];exact n) aa
  |cons J j=>
   have o:mE T E N N.length k (p::J::j):=⟨⟨i,hk,C,f,λz B=>U z (w z B)⟩,aX _ _,W,λz B=>y z (w z B)⟩
   refine iJ (Hr g (d:=.br k (p::J::j)) aa λk' h1 e=>by cases e;exact o) λL M a3 a4 Q=>xK L M a3 a4 (by rw[mG Q];exact cO _) λx b=>au (G x b) λm n t=>aK t λh u=>mU (L.step b Q) λm' v H I c3 c4=>?_;rw[n] at v;cases v;refine bi m (by rw[<-D];exact n) ?_;rw[c3];exact M.val m x (y (h,m) (w _ u)).1
def oY t s:=(d4 s t).getD 0
theorem VX(a:h<t)(b:h<=(de s).1):oY t (fM h s)=oY t s:=by
 cases s with
 |nil=>unfold fM;split<;>rfl
 |cons p s=>
  by_cases q:p.1=h
  ·have e:fM h (p::s)=s:=aR q;rw[e];unfold oY;rw[d4.q2,aQ (by exact ay [_,_,_] 89792792864304144 aa a q)]
  ·have e:fM h (p::s)=p::s:=aQ q;rw[e]
theorem Hw(g):∀(f:ah)(a:ae (ae (af×ah)))(b:af),a≠[]->(∀r∈a,i8 g b r)->gQ a<=f->∀t,b<t->t<=g->d4 (kN f g a b) t=ac (a.map (oY t)):=by
 intro f;induction f with
 |zero=>intro a b i l w t x u;exfalso;refine fz (qE i) ?_;rintro r o rfl;exact((l r aP).ne (ay [_,_,_] 80803185763093520 aa x u)) (rv.mp (by have:=Ho (ss:=r::o) (s:=r) aP;exact bQ (aj [_,_] 0x10f08110c0110c080 aa this w) (aj [_] 1110024 aa):r.length=0))
 |succ f A=>
  intro a b i l w t x u;have q:b<g:=ay [_,_,_] 80803185763093520 aa x u;simp only[kN.q2,aR q];generalize z:gy (a.map λr=>(de r).1)=h;have m:∀r∈a,h<=(de r).1:=λr l=>by rw[<-z];exact sd (nr l)
  refine au (bV.mp (by rw[<-z];exact sf (by simpa using i):h∈(a.map λr=>(de r).1))) λv j k=>?_;have d:=λr h=>(l r h).ne q;rw[d4.q2];simp only;by_cases c:t<=h
  ·rw[aR c];congr 1;apply i7;intro r e;have:=m r e;have B:=d r e;cases r with
   |nil=>exact bv aa B
   |cons p s=>unfold oY;rw[d4.q2,aR (by exact ay [_,_,_] 76314975036050448 aa (this:h<=p.1) c)];rfl
  ·rw[aQ c,A (a.map (fM h)) h (by simpa using i) ?_ (aj [_,_,_] 0x10f1210c0918210c91810 aa ((A6 h a).2 ⟨v,j,d v j,k⟩) w) t (ay [_,_] 77042105360 aa c) u,eI]
   ·congr 1;apply i7;intro r e;exact VX (ay [_,_] 77042105360 aa c) (m r e)
   ·intro r e;refine au (bV.mp e) ?_;rintro y n rfl;exact(l y n).adv (d y n) (m y n) (by rw[<-k];exact(l v j).gt (d v j):b<h)
def lK b(c:ae (af×e)):=gY (motive:=λY=>af->Prop) (λY=>fP) (λp r d a=>a<p.1/\(d p.1)) c b
def lL b(c:ae (af×α)):=gY (motive:=λY=>af->af) (λa=>a) (λp r d Y=>(d p.1)) c b
theorem lL.q1{a:af}:lL (α:=b) a []=a:=aa
theorem lL.q2:lL (a) (p::r)=(lL p.1 r):=aa
theorem Hx(c):∀(f:ah)(b:ae (ae (af×ah)))(a:af),b≠[]->(∀r∈b,i8 c a r)->gQ b<=f->a<=c->
 lK a (kN f c b a)/\lL a (kN f c b a)=c/\∀p∈kN f c b a,p.2.length=b.length/\∃r∈b,∃z∈r,z.1=p.1:=by
 intro f;induction f with
 |zero=>intro b a j l B H;refine fz (qE j) ?_;rintro r t rfl;have C:=(l r aP).2;rw[rv.mp (by have:=Ho (ss:=r::t) (s:=r) aP;exact bQ (aj [_,_] 0x10f08110c0110c080 aa this B) (aj [_] 1110024 aa):r.length=0)] at C;simp only[eZ.q1] at C;exact ca si C λp m=>by cases m
 |succ f M=>
  intro b a j l B H;simp only[kN.q2];by_cases k:a<c
  ·rw[aR k];generalize I:gy (b.map λr=>(de r).1)=h;refine au (bV.mp (by rw[<-I];exact sf (by simpa using j):h∈(b.map λr=>(de r).1))) λn d g=>?_;have i:=λr h=>(l r h).ne k;have u:a<h:=by rw[<-g];exact(l n d).gt (i n d)
   refine fz (qE (i n d)) λJ W D=>?_;have v:J.1=h:=by rw[D] at g;exact g
   have w:h<=c:=by
    have:=(l n d)
    rw[D] at this;have L:=this.2;simp only[eZ.q2] at L;exact ay [_,_,_,_] 0x10f1315c3210c0212c10 aa v (nM this.1.2) L
   refine bu (M (b.map (fM h)) h (by simpa using j) (λr o=>by refine au (bV.mp o) ?_;rintro x q rfl;exact(l x q).adv (i x q) ((λr l=>by rw[<-I];exact sd (nr l):∀r∈b,h<=(de r).1) x q) u) (aj [_,_,_] 0x10f1210c0918210c91810 aa ((A6 h b).2 ⟨n,d,i n d,g⟩) B) w) λN Q T=>?_;refine ca ⟨u,N⟩ Q λp m=>aB (bj.mp m) ?_ (λm=>?_);rintro rfl
   ·exact aF (by simp) ⟨n,d,J,by rw[D];exact aP,v⟩
   ·refine aw (T p m) λU E=>au E λr o G=>au G λz A e=>?_;refine au (bV.mp o) ?_;rintro x y rfl;refine aF (by simpa using U) ⟨x,y,z,?_,e⟩;unfold fM at A;split at A
    ·exact VY A
    ·exact A
  ·rw[aQ k];exact ca si (by simp only[lL.q1];exact fC (ay [_,_] 72762854416 aa H) (ay [_,_] 72747142160 aa k)) λp m=>by cases m
theorem VZ:∀(d:ae (af×l))(a:af)(H:ae af),lK a d->(∀p∈d,p.1∈H)->d.length<=H.length:=λm=>m.rec
 (λ_ _ _ _=>eX _)
 (λp r e a H h i=>by
 have j:=i p aP;have n:∀(r:ae (af×l))(b:af),lK b r->∀q∈r,b<q.1:=by
  intro r;induction r with
  |nil=>intro b _ q c;cases c
  |cons z r o=>
   intro b f q c;refine aB (bj.mp c) ?_ (λc=>?_);rintro rfl
   ·exact f.1
   ·have:=o z.1 f.2 q c;have:=f.1;(rename_i g;exact ay [_,_,_] 80803185763097616 aa this g)
 have k:=e p.1 (H.erase p.1) h.2 λq c=>by exact(V0 (ay [_,_] 0x16f080811c0112c10 aa (n r p.1 h.2 q c))).mpr (i q (ba _ c))
 rw[V1 j] at k;simp only[cG];exact aj [_,_,_] 0x10f1918210c0212c19180 aa k (dt (aj [_] 18623382011912 aa (Hy j):1<=H.length)))
theorem uF:∀{c:ae (af×ah)}{a:af},eh a c↔lK a c:=by
 intro d;induction d with
 |nil=>exact@λY=>CA
 |cons p r b=>exact@λa=>⟨λh=>⟨h.1,b.mp h.2⟩,λh=>⟨h.1,b.mpr h.2⟩⟩
theorem V2:∀{c:ae (af×ah)}{a:af},eZ a c=lL a c:=by
 intro d;induction d with
 |nil=>exact@λY=>rfl
 |cons p r b=>exact@λa=>b (a:=p.1)
theorem sk{E:ah->ae af}(c:lK (-1) a)(d:∀p∈a,p.1=b\/p.1+1∈E k):a.length<=(E k).length+1:=by
 have:=VZ a (-1) (b::(E k).map (·-1)) c λp e=>by
  refine aB (d p e) (λh=>?_) (λh=>?_)
  ·rw[h];exact aP
  ·refine ba _ (bV.mpr ⟨_,h,fC (ay [_] 1164105519488 aa) (ay [_] 1166646253568 aa)⟩)
 simpa using this
def Hz T(E:ah->ae af)N i k a b:=i8 a (-1) b/\(∀p∈b,p.1=a\/p.1+1∈E k)/\(∀p∈b,p.2<N.length/\k+1<=bt T N p.2)/\b.length<=(E k).length+1/\∀x,b6 T x->bU N x (oY (x k) b)=bU N x i
theorem uG(g:bW T E N)(n:i<N.length)(hk:T[k]?=ac a)(A:0<=a)(B:k<=bt T N i):Hz T E N i k a (en T N i k):=by
 have q:=(dF.mp hk).1;have d:∀t:k+1<=bt T N i,en T N i k=[(T.getD k 0,i)]->Hz T E N i k a (en T N i k):=λt e=>by
  rw[e,(by rw[cY,hk];rfl:T.getD k 0=a)];refine⟨⟨⟨ay [_] 80794416646766600 aa A,si⟩,aa⟩,?_,?_,aX _ _,λx b=>?_⟩
  ·intro p f;simp at f;rw[f];exact .inl aa
  ·intro p f;simp at f;rw[f];exact aF n t
  ·refine aw (b k a hk) λY C=>?_;simp[oY,d4.q2,C]
 have c:=cr n;cases u:N[i] with
 |leaf v=>rw[u] at c;exact d (by simp[bt,c,lv];exact aj [_,_] 298075428035600 aa q) (by simp[en,c])
 |br j D=>
  rw[u] at c;by_cases s:j=k
  ·subst s;have o:=g.br c;refine cP o.top λw y r l z=>?_;rw[hk] at y;cases y;rw[(by simp[en,c]:en T N i j=D)];refine⟨⟨r,l⟩,z,λp f=>⟨by have:=(o.ch p f).1;exact aj [_,_,_] 80803185763097616 aa this n,(o.ch p f).2⟩,sk (uF.mp r) z,λx b=>?_⟩
   refine mU (g.step b c) λm G Y Y H Y=>?_;unfold oY;rw[G,H];rfl
  ·have h:bt T N i=j:=mG c;exact d ((Bd s).elim (λe=>aj [_,_,_] 0x10f0918220c0211c2112c10 aa B e h) λe=>aj [_,_,_] 0x10f0918211c1215c10 aa e h) (by simp[en,c,s])
theorem HA(j):∀(f:ah)(a:ae (ae (af×ah)))(b:af),a≠[]->(∀r∈a,i8 j b r)->∀p∈kN f j a b,∀m∈p.2,∃r∈a,∃z∈r,z.2=m:=by
 intro f;induction f with
 |zero=>intro a b _ _ p g;cases g
 |succ f C=>
  intro a b k l p g m y;simp only[kN.q2] at g;split at g
  ·rename_i v;generalize A:gy (a.map λr=>(de r).1)=h at g;refine au (bV.mp (by rw[<-A];exact sf (by simpa using k):h∈(a.map λr=>(de r).1))) λB n o=>?_;have c:=λr h=>(l r h).ne v;refine aB (bj.mp g) ?_ (λg=>?_);rintro rfl
   ·refine au (bV.mp y) ?_;rintro r i rfl;refine fz (qE (c r i)) λq s e=>bi r i ⟨q,by rw[e];exact aP,by rw[e];rfl⟩
   ·refine au (C (a.map (fM h)) h (by simpa using k) (λr w=>by refine au (bV.mp w) ?_;rintro t d rfl;exact(l t d).adv (c t d) ((λr l=>by rw[<-A];exact sd (nr l):∀r∈a,h<=(de r).1) t d) (by rw[<-o];exact(l B n).gt (c B n):b<h)) p g m y) λr i x=>au x λz u e=>?_;refine au (bV.mp i) ?_;rintro t d rfl;refine bi t d ⟨z,?_,e⟩;unfold fM at u;split at u
    ·exact VY u
    ·exact u
  ·cases g
open Classical in
def iA N x c y n:=if bU N x c=.int 1 then bU N x y else bU N x n
theorem dH.chV(p:dH N a)(b:c<N.length)(d:y<N.length)(e:n<N.length):iA a x c y n=iA N x c y n:=by unfold iA;rw[p.val c x b,p.val y x d,p.val n x e]
def gG c y n:=cy [c,y,n]
def oZ T N c y n r:=
 (c<N.length/\y<N.length/\n<N.length/\r<N.length)/\
 (∀b,b<=bt T N c->b<=bt T N y->b<=bt T N n->b<=bt T N r)/\
 ∀x,b6 T x->bU N x r=iA N x c y n
def oZ.lt(a:oZ T N c y n r):=a.1
def oZ.lv(a:oZ T N c y n r):=a.2.1
def oZ.val(a:oZ T N c y n r):=a.2.2
def iB T N M:=(∀c y n v,er M (.tuple (gG c y n))=ac v->∃r:ah,v=.int r/\oZ T N c y n r)/\∀p∈M,∃i,p.2=.int i
theorem oZ.pre(m:oZ T N c y n r)(p:dH N j):oZ T j c y n r:=by
 refine lh m.lt λa d e f=>?_;have:=p.len;refine⟨⟨aj [_,_,_] 80803185763093520 aa a this,aj [_,_,_] 80803185763093520 aa d this,aj [_,_,_] 80803185763093520 aa e this,aj [_,_,_] 80803185763093520 aa f this⟩,λb g h i=>?_,λx b=>?_⟩
 ·rw[p.lvl a] at g;rw[p.lvl d] at h;rw[p.lvl e] at i;rw[p.lvl f];exact m.lv b g h i
 ·rw[p.val r x f,p.chV a d e];exact m.val x b
theorem iB.pre(m:iB T N M)(p:dH N a):iB T a M:=⟨λc y n v h=>by refine au (m.1 c y n v h) λr e q=>bi r e (q.pre p),m.2⟩
theorem HB(h:Be (gG c y n)=.tuple (gG a b d)):c=a/\y=b/\n=d:=by simp[gG,cy] at h;exact aF (bQ (bD.1 (ay [_,_] 72762862608 aa h.1)) (bD.1 (ay [_,_] 72747146256 aa h.1))) ⟨bQ (bD.1 (ay [_,_] 72762862608 aa h.2.1)) (bD.1 (ay [_,_] 72747146256 aa h.2.1)),bQ (bD.1 (ay [_,_] 72762862608 aa h.2.2)) (bD.1 (ay [_,_] 72747146256 aa h.2.2))⟩
open Classical in
theorem Bf:er (M++[(k,v)]) a=(er M a).or (if k=a then ac v else ak):=by
 unfold er;rw[Vz];cases h:M.find? λp=>@decide (p.1=a) (gC _ _) with
 |some p=>rfl
 |none=>
  simp only[A3,VA,GN,VB];by_cases e:k=a
  ·rw[aR e];simp[e]
  ·rw[aQ e];simp[e]
theorem iB.add(m:iB T N M)(q:oZ T N c y n r):iB T N (M++[(.tuple (gG c y n),.int r)]):=by
 refine⟨λd f g v h=>?_,λp a=>?_⟩
 rotate_left
 ·refine aB (ed.mp a) (λa=>?_) (λa=>?_)
  ·exact m.2 p a
  ·rw[bZ.mp a];exact ew _ aa
 rw[Bf] at h;cases b:er M (.tuple (gG d f g)) with
 |some u=>rw[b] at h;cases h;exact m.1 _ _ _ _ b
 |none=>
  rw[b,A3] at h;split at h
  ·rename_i e;refine bu (HB e) ?_;rintro rfl rfl rfl;cases h;exact bi r aa q
  ·cases h
inductive nN(T:ae af)(N N':ae Nd)(b:ah):ae (af×ae ah)->ae (af×ah)->Prop
 |nil:nN T N N' b [] []
 |cons {h:af} {c y n r:ah} {ps qs}:r<N'.length->b<=bt T N' r->(∀x,b6 T x->bU N' x r=iA N x c y n)->nN T N N' b ps qs->nN T N N' b ((h,[c,y,n])::ps) ((h,r)::qs)
theorem nN.pre{d e}(o:nN T N f b d e)(p:dH f a):nN T N a b d e:=by
 induction o with
 |nil=>exact .nil
 |cons c g h _ i=>exact .cons (by have:=p.len;exact aj [_,_,_] 80803185763093520 aa c this) (by rw[p.lvl c];exact g) (λx j=>by rw[p.val _ x c];exact h x j) i
theorem nN.snoc{d e}(o:nN T N a b d e)(f:r<a.length)(g:b<=bt T a r)(i:∀x,b6 T x->bU a x r=iA N x c y n):nN T N a b (d++[(h,[c,y,n])]) (e++[(h,r)]):=by
 induction o with
 |nil=>exact .cons f g i .nil
 |cons j k l _ m=>exact .cons j k l m
theorem nN.facts{d f}(o:nN T N i b d f):(∀a,lK a d->lK a f)/\(∀a,lL a f=lL a d)/\(∀q∈f,q.2<i.length/\b<=bt T i q.2/\∃p∈d,p.1=q.1)/\f.length=d.length/\
 ∀t m,d4 f t=ac m->∃c y n,d4 d t=ac [c,y,n]/\∀x,b6 T x->bU i x m=iA N x c y n:=by
 induction o with
 |nil=>exact li (λ_ _=>si) (λ_=>rfl) (λq g=>(by cases g)) aa λt m h=>(by cases h)
 |cons k l r _ s=>
  refine iJ s λu v w B z=>li (λa h=>⟨h.1,u _ h.2⟩) (λa=>v _) (λq g=>?_) (bA _ ‹_›) λt m h=>?_
  ·refine aB (bj.mp g) ?_ (λg=>?_);rintro rfl
   ·exact ca k l ⟨_,aP,rfl⟩
   ·refine bu (w q g) λa b j=>au j λp A e=>ca a b ⟨p,ba _ A,e⟩
  ·simp only[d4.q2] at h⊢;split at h
   ·rename_i c;cases h;rw[aR c];exact lS _ _ _ aa r
   ·rename_i c;rw[aQ c];exact z t m h
noncomputable def gH a:=rO (motive:=λY=>ah) (0) (λj b=>8*b+1) a
theorem V3(X:Gd c (n+3))(S:DB T D G){k y g:ah}{lo h f:af}(hk:T[k]?=ac f)(j:T.length<=1000)(s:0<=lo)(p:lo<=h)(l:h<=f)(t:N[y]?=ac u)(v:N[g]?=ac w)(m:k<lv T u)(o:k<lv T w)(r:N.length<=900000)
 (q:Q (.int ((cX N k (fW f lo h y g)).2:ah)) (dg D G (cX N k (fW f lo h y g)).1 M)):FC c (.ref 140) [.ref D.x,.int k,.d (.list [.tuple [.int lo,.int h]]),.int y,.int g] (dg D G N M) Q:=Vs X λc X=>by
 have i:=aS r aa;refine lh (Hp (y:=y) (n:=g) s p l) λx z A B=>?_;have d:∀L,L=(fW f lo h y g).map dp->FC c (.ref 100) [.ref D.x,.int k,.d (.list L)] (dg D G N M) Q:=λL e=>by rw[e];exact A5 (n:=n) X S hk j x z A (bn B (aX _ _)) r q
 unfold fW at d;refine⟨_,_,ux X S,uy (n:=n+1) X S t i j ⟨_,_,ux X S,uy (n:=n+1) X S v i j (vB.n (by split<;>first|exact sT.mpr (eL.mpr o)|exact sT.mpr (eL.mpr m)) (r8 X S ⟨_,dW cJ hk (aS j aa),VM (n:=n+1) X (lG (eD p l) (vB.d (λa=>?_) λa=>?_))⟩))⟩⟩
 ·rw[aR a] at d;refine⟨uw aa,uw aa,vB.d (λb=>?_) λb=>?_⟩
  ·rw[aR b] at d;exact⟨uw aa,_,_,sa X S,d _ (by rw[aQ (by exact ay [_,_] 368340971393408 aa b)];rfl)⟩
  ·rw[aQ b] at d;exact⟨_,_,sa X S,d _ (by rw[aQ (by exact ay [_,_] 89926994960 aa l)];rfl)⟩
 ·rw[aQ a] at d;refine⟨uw aa,vB.d (λb=>?_) λb=>?_⟩
  ·rw[aR b] at d;exact⟨uw aa,_,_,sa X S,d _ (by rw[aQ (by exact ay [_,_] 368340971393408 aa b)];rfl)⟩
  ·rw[aQ b] at d;exact⟨_,_,sa X S,d _ (by rw[aQ (by exact ay [_,_] 89926994960 aa l)];rfl)⟩
def mH T a M d b:=∀c y n,er M (.tuple (gG c y n))=ak->er d (.tuple (gG c y n))≠ak->b<=bt T a c/\b<=bt T a y/\b<=bt T a n
theorem HC:mH T a M M b:=λY Y Y h k=>bv h k
theorem mH.mono(f:mH T d M e b)(h:a<=b):mH T d M e a:=λc y n g i=>by refine bu (f c y n g i) λj k l=>ca (aj [_,_,_] 76299581840755728 aa h j) (aj [_,_,_] 76299581840755728 aa h k) (aj [_,_,_] 76299581840755728 aa h l)
theorem mH.pre(f:mH T e M a b)(m:iB T e a)(p:dH e d):mH T d M a b:=λc y n i g=>by
 refine bu (f c y n i g) λj k l=>?_;cases h:er a (.tuple (gG c y n)) with
 |none=>exact bv h g
 |some v=>refine au (m.1 _ _ _ _ h) λr Y o=>lh o.lt λq l2 l3 Y=>?_;rw[p.lvl q,p.lvl l2,p.lvl l3];exact ca j k l
theorem mH.trans(f:mH T a M e b)(g:mH T a e d b):mH T a M d b:=λc y n i j=>by
 by_cases h:er e (.tuple (gG c y n))=ak
 ·exact g c y n h j
 ·exact f c y n i h
def kR T E N M c y n b j a d r:=
 bW T E a/\
 iB T a d/\
 dH N a/\
 a.length<=N.length+gH j/\
 d.length<=M.length+gH j/\
 r<a.length/\
 b<=bt T a r/\
 (∀x,b6 T x->bU a x r=iA N x c y n)/\
 mH T a M d b
def kR.good(a:kR T E N M c y n b j d e r):=a.1
def kR.memo(a:kR T E N M c y n b j d e r):=a.2.1
def kR.pre(a:kR T E N M c y n b j d e r):=a.2.2.1
def kR.nl(a:kR T E N M c y n b j d e r):=a.2.2.2.1
def kR.ml(a:kR T E N M c y n b j d e r):=a.2.2.2.2.1
def kR.lt(a:kR T E N M c y n b j d e r):=a.2.2.2.2.2.1
def kR.lv(a:kR T E N M c y n b j d e r):=a.2.2.2.2.2.2.1
def kR.val(a:kR T E N M c y n b j d e r):=a.2.2.2.2.2.2.2.1
def kR.fr(a:kR T E N M c y n b j d e r):=a.2.2.2.2.2.2.2.2
theorem V4(h:gw v=ao):bE 60 v:=by
 cases v<;>simp[gw.q1,gw.q2,gw.q3,AV,AW,AX,AY] at h
 ·exact bE.int _
 ·exact bE.str h
def gR T E N M c y n b j:=
 bW T E N/\
 iB T N M/\
 c<N.length/\
 y<N.length/\
 n<N.length/\
 b<=bt T N c/\
 b<=bt T N y/\
 b<=bt T N n/\
 T.length<=b+j/\
 N.length+gH j<=90000/\
 M.length+gH j<=90000
def gR.g(a:gR T E N M c y n b j):=a.1
def gR.m(a:gR T E N M c y n b j):=a.2.1
def gR.cl(a:gR T E N M c y n b j):=a.2.2.1
def gR.yl(a:gR T E N M c y n b j):=a.2.2.2.1
def gR.nl(a:gR T E N M c y n b j):=a.2.2.2.2.1
def gR.cb(a:gR T E N M c y n b j):=a.2.2.2.2.2.1
def gR.yb(a:gR T E N M c y n b j):=a.2.2.2.2.2.2.1
def gR.nb(a:gR T E N M c y n b j):=a.2.2.2.2.2.2.2.1
def gR.jb(a:gR T E N M c y n b j):=a.2.2.2.2.2.2.2.2.1
def gR.Nb(a:gR T E N M c y n b j):=a.2.2.2.2.2.2.2.2.2.1
def gR.Mb(a:gR T E N M c y n b j):=a.2.2.2.2.2.2.2.2.2.2
def gI T(E:ah->ae af)N c y n b(k:ah)a d:=
 (k:af)=gy ([c,y,n].map λm=>(bt T N m:af))/\
 b<=k/\
 (k=bt T N c\/k=bt T N y\/k=bt T N n)/\
 T[k]?=ac a/\
 0<=a/\
 (∀i∈[c,y,n],i8 a (-1) (en T N i k)/\(en T N i k).length<=900)/\
 jE a ([c,y,n].map λi=>en T N i k)=d/\
 lK (-1) d/\
 lL (-1) d=a/\
 (∀p∈d,p.1=a\/p.1+1∈E k)/\
 d.length<=8/\
 (∀p∈d,∃e f g,p.2=[e,f,g]/\∀m∈[e,f,g],m<N.length/\k+1<=bt T N m)/\
 ∀x,b6 T x->∃e f g,d4 d (x k)=ac [e,f,g]/\iA N x e f g=iA N x c y n
def gI.hk(a:gI T E N c y n b k d e):=a.1
def gI.bk(a:gI T E N c y n b k d e):=a.2.1
def gI.eq(a:gI T E N c y n b k d e):=a.2.2.1
def gI.ht(a:gI T E N c y n b k d e):=a.2.2.2.1
def gI.pos(a:gI T E N c y n b k d e):=a.2.2.2.2.1
def gI.ok(a:gI T E N c y n b k d e):=a.2.2.2.2.2.1
def gI.hp(a:gI T E N c y n b k d e):=a.2.2.2.2.2.2.1
def gI.rise(a:gI T E N c y n b k d e):=a.2.2.2.2.2.2.2.1
def gI.last(a:gI T E N c y n b k d e):=a.2.2.2.2.2.2.2.2.1
def gI.edge(a:gI T E N c y n b k d e):=a.2.2.2.2.2.2.2.2.2.1
def gI.len(a:gI T E N c y n b k d e):=a.2.2.2.2.2.2.2.2.2.2.1
def gI.three(a:gI T E N c y n b k d e):=a.2.2.2.2.2.2.2.2.2.2.2.1
def gI.val(a:gI T E N c y n b k d e):=a.2.2.2.2.2.2.2.2.2.2.2.2
theorem HD(h:i∈[a,b,c]):i=a\/i=b\/i=c:=by
 refine aB (bj.mp h) (λh=>?_) (λh=>?_)
 ·exact .inl h
 ·refine aB (bj.mp h) (λh=>?_) (λh=>?_)
  ·exact .inr (.inl h)
  ·exact .inr (.inr (bZ.mp h))
theorem Bg{e:Type}{P:e->Prop}{a b c:e}(f:P a)(g:P b)(j:P c):∀i∈[a,b,c],P i:=λi h=>by (refine aB (HD h) ?_ ?_;rotate_left;intro d;refine aB d ?_ ?_<;>clear d<;>rintro rfl;rotate_right;rintro rfl)<;>assumption
theorem V5{T:ae af}{N:ae Nd}(I:gR T E N M c y n b j)(hE:∀k,(E k).length<=7)(J:∀t∈T,0<=t)(hc:bt T N c<T.length):∃k d ps,gI T E N c y n b k d ps:=by
 refine au (bV.mp (sf (ns:=[c,y,n].map λm=>(bt T N m:af)) (iP _ _))) λv w e0=>?_;have A:∀i∈[c,y,n],bt T N v<=bt T N i:=λi g=>by have:=sd (nr (f:=λm=>(bt T N m:af)) g);rw[<-e0] at this;exact bD.mp this
 have L:=Bg (P:=λi=>b<=bt T N i) I.cb I.yb I.nb _ w;have heq:=(HD w).imp (bA (bt T N)) (Or.imp (bA (bt T N)) (bA (bt T N)));refine aK (dc (qm (A c aP) hc:bt T N v<T.length)) λd D=>?_;have o:=J _ (dw D);have a:=λi g=>uG I.g (Bg (P:=λi=>i<N.length) I.cl I.yl I.nl i g) D o (A i g);have B:=hE (bt T N v);have q:∀s∈[c,y,n].map λi=>en T N i (bt T N v),i8 d (-1) s:=λs h=>by refine au (bV.mp h) ?_;rintro i g rfl;exact(a i g).1
 have l:([c,y,n].map λi=>en T N i (bt T N v))≠[]:=iP _ _;generalize bt T N v=k at*
 refine bu (Hx d _ _ (-1) l q (cO _) (ay [_] 76290817019396104 aa o)) λr1 r2 r3=>?_;have C:∀p∈jE d ([c,y,n].map λi=>en T N i k),p.1=d\/p.1+1∈E k:=λp o=>by refine aw (r3 p o) λY u=>au u λr Q U=>au U λz W e=>?_;refine au (bV.mp Q) ?_;rintro i g rfl;rw[<-e];exact(a i g).2.1 z W
 refine Kv k d _ ⟨e0,L,heq,D,o,λi g=>⟨(a i g).1,by have:=(a i g).2.2.2.1;exact aj [_,_] 0x10f488e3e110c9180110c780 aa this B⟩,aa,r1,r2,C,bn (sk (E:=E) r1 C) (qF B),λp o=>?_,λx G=>?_⟩
 ·have h3:=(r3 p o).1;have h5:∀m∈p.2,m<N.length/\k+1<=bt T N m:=λm hm=>by refine au ((HA d (gQ ([c,y,n].map λi=>en T N i k)) _ (-1) l q) p o m hm) λr Q u=>au u ?_;rintro z W rfl;refine au (bV.mp Q) ?_;rintro i g rfl;exact(a i g).2.2.1 z W
  obtain⟨ph,H⟩:=p;exact iS (P:=λH=>(∀m∈H,m<N.length/\k+1<=bt T N m)->∃c y n,(ph,H).2=[c,y,n]/\∀m∈[c,y,n],m<N.length/\k+1<=bt T N m) (λc' y' n' h5=>⟨c',y',n',aa,h5⟩) H h3 h5
 ·refine aw (G k d D) λb1 b2=>?_;have e4:=(Hw d _ _ (-1) l q (cO _)) (x k) (ay [_] 80794416646766600 aa b1) b2;refine lS _ _ _ e4 ?_;unfold iA;rw[(a c aP).2.2.2.2 x G,(a y (ba _ aP)).2.2.2.2 x G,(a n (ba _ (ba _ aP))).2.2.2.2 x G]
def ja T E N M k j b a c d:=
 bW T E a/\
 iB T a c/\
 dH N a/\
 a.length<=N.length+b.length*gH j/\
 c.length<=M.length+b.length*gH j/\
 nN T N a (k+1) b d/\
 mH T a M c (k+1)
def ja.good(a:ja T E N M k j b c d e):=a.1
def ja.memo(a:ja T E N M k j b c d e):=a.2.1
def ja.pre(a:ja T E N M k j b c d e):=a.2.2.1
def ja.nl(a:ja T E N M k j b c d e):=a.2.2.2.1
def ja.ml(a:ja T E N M k j b c d e):=a.2.2.2.2.1
def ja.ou(a:ja T E N M k j b c d e):=a.2.2.2.2.2.1
def ja.fr(a:ja T E N M k j b c d e):=a.2.2.2.2.2.2
theorem ja.step(I:ja T E N M k j e f g i)(d:∀m∈[c,y,n],m<N.length/\k+1<=bt T N m)(a:kR T E f g c y n (k+1) j l o r):ja T E N M k j (e++[(h,[c,y,n])]) l o (i++[(h,r)]):=
 ⟨a.good,a.memo,I.pre.trans a.pre,by have:=a.nl;have:=I.nl;rw[b7,ea,uD];(rename_i b;exact aj [_,_,_,_,_] 0x10f99421310c940310c9210 aa b this),by have:=a.ml;have:=I.ml;rw[b7,ea,uD];(rename_i b;exact aj [_,_,_,_,_] 0x10f99421310c940310c9210 aa b this),
  (I.ou.pre a.pre).snoc a.lt a.lv (λx p=>by rw[a.val x p,I.pre.chV (d c aP).1 (d y (ba _ aP)).1 (d n (ba _ (ba _ aP))).1]),(I.fr.pre I.memo a.pre).trans a.fr⟩
theorem ja.in(I:ja T E N M k j q d u x)(f:gR T E N M c y n b (j+1))(r:gI T E N c y n b k v w)(e:w=q++p::z)(g:∀m∈[i,l,o],m<N.length/\k+1<=bt T N m):gR T E d u i l o (k+1) j:=by
 have a:=kQ (gH j) (by have:=r.len;rw[e,b7,cG] at this;exact aj [_,_] 0x10f88918010c88991810 aa this:q.length+1<=8);rw[uD] at a;have s:gH (j+1)=8*gH j+1:=aa;have lt:∀m∈[i,l,o],m<d.length/\k+1<=bt T d m:=λm h=>⟨gE (g m h).1 I.pre.len,by rw[I.pre.lvl (g m h).1];exact(g m h).2⟩
 have t:=lt i aP;have l2:=lt l (ba _ aP);have l3:=lt o (ba _ (ba _ aP));exact⟨I.good,I.memo,t.1,l2.1,l3.1,t.2,l2.2,l3.2,aj [_,_,_,_] 0x10f939181210c991830210c10 aa f.jb r.bk,aj [_,_,_,_,_] 0x10f089efe5e1e93410c920415c9188b3110c8b393210c089efe5e1e910 aa I.nl s a f.Nb,aj [_,_,_,_,_] 0x10f089efe5e1e91410c902415c9188b1310c089efe5e1e93210c8b1910 aa I.ml s f.Mb a⟩
theorem ja.rise(I:ja T E N M k j l r s d)(f:gI T E N c y n b k a l):eh (-1) d/\eZ (-1) d=a/\d≠[]/\d.length<=8/\∀p∈d,p.1=a\/p.1+1∈E k:=by
 refine iJ I.ou.facts λo1 o2 o3 m t=>?_;have g:eZ (-1) d=a:=by rw[V2,o2,f.last]
 refine li (uF.mpr (o1 _ f.rise)) g (λe=>?_) (by rw[m];exact f.len) λp o=>?_
 ·rw[e] at g;have:=f.pos;rw[<-g] at this;exact bv this (aW aa)
 ·refine bu (o3 p o) λY Y h=>au h λq i e=>?_;rw[<-e];exact f.edge q i
theorem ja.key(I:ja T E N M k j i q l r)(a:gR T E N M c y n b (j+1))(m:gI T E N c y n b k o i)(p:er M (.tuple (gG c y n))=ak):er l (.tuple (gG c y n))=ak:=vx λh=>by refine bu (I.fr c y n p h) λd f g=>?_;rw[I.pre.lvl a.cl] at d;rw[I.pre.lvl a.yl] at f;rw[I.pre.lvl a.nl] at g;exact m.eq.elim (λe=>HE _ (bn d (fT e.symm))) λe=>e.elim (λe=>HE _ (bn f (fT e.symm))) λe=>HE _ (bn g (fT e.symm))
theorem ja.end(I:ja T E N M k j L f Q g)(h:gR T E N M c y n b (j+1))(i:gI T E N c y n b k U L)(W:er M (.tuple (gG c y n))=ak):
 kR T E N M c y n b (j+1) (cX f k g).1 (Q++[(.tuple (gG c y n),.int ((cX f k g).2:ah))]) (cX f k g).2:=by
 refine iJ (I.rise i) λY q2 q3 q4 q5=>iJ I.ou.facts λo1 o2 o3 o4 o5=>sM (xa I.good i.ht Y q2 q5 (λp A=>⟨(o3 p A).1,(o3 p A).2.1⟩) q3) λm1 z B m4 C m6=>?_;have hk:=I.key h i W;have a:=I.pre.trans z;have d:∀x,b6 T x->bU (cX f k g).1 x (cX f k g).2=iA N x c y n:=λx q=>by refine au (m6 x q) λm hm e=>fa (o5 _ _ hm) λcc yy nn e2 e3=>fa (i.val x q) λc' y' n' D e5=>?_;rw[e2] at D;cases D;rw[e,e3 x q,e5]
 generalize(cX f k g).1=N2 at*
 generalize(cX f k g).2=r at*
 have l:=a.len;have t:=h.cl;have u:=h.yl;have v:=h.nl;have me:oZ T N2 c y n r:=⟨⟨aj [_,_,_] 80803185763093520 aa t l,aj [_,_,_] 80803185763093520 aa u l,aj [_,_,_] 80803185763093520 aa v l,B⟩,λb' w o G=>by rw[a.lvl t] at w;rw[a.lvl u] at o;rw[a.lvl v] at G;exact bn (i.eq.elim (λe=>bn w (fT e.symm)) λe=>e.elim (λe=>bn o (fT e.symm)) λe=>bn G (fT e.symm)) C,λx q=>by rw[d x q,a.chV t u v]⟩
 have s:=kQ (gH j) i.len;have H:gH (j+1)=8*gH j+1:=aa;have J:=i.bk;refine⟨m1,(I.memo.pre z).add me,a,by exact aj [_,_,_,_,_,_] 0x10f904510c9183510c924310c8b1215c9188b10 aa m4 I.nl s H,by rw[b7,ea];exact aj [_,_,_,_,_] 0x10f904918310c924310c8b1215c9188b10 aa I.ml s H,B,aj [_,_,_] 76299581840755728 aa J C,d,((I.fr.pre I.memo z).mono (aj [_,_] 298592585714704 aa J)).trans λh1 y1 n1 w o=>?_⟩
 rw[Bf,w,A3] at o;split at o
 ·rename_i e;refine bu (HB e) ?_;rintro rfl rfl rfl;rw[a.lvl t,a.lvl u,a.lvl v];exact ca h.cb h.yb h.nb
 ·exact bv aa o
def xc T E D G c k j:=∀{N M x y n}{Q},gR T E N M x y n k j->(∀a b(r:ah),kR T E N M x y n k j a b r->Q (.int r) (dg D G a b))->FC c (.ref 145) [.ref D.x,.int (x:ah),.int (y:ah),.int (n:ah)] (dg D G N M) Q
theorem V6{K:ae aA->Sg->AH->Prop}(A:xc T E D G c (k+1) j)(B:gR T E N M x y n b (j+1))(s:gI T E N x y n b k C t)
 (q:∀d f a g h,ja T E N M k j t d f a->K (a.map dp) [.v (.ref D.x),H,J,L,Q,U,W,Y,a8,a9,g,h] (dg D G d f)):
 ∀(i l:ae (af×ae ah))(d:ae Nd)(f:ae (aA×aA))(a:ae (af×ah))(g h:LV),t=l++i->ja T E N M k j l d f a->
 fK (cV 10 11) (fi (aT (ai (ag 10) (ai (cW (.ref 145) (ai (ag 0) (ai (bT (ag 11) 0) (ai (bT (ag 11) 1) (ai (bT (ag 11) 2) av))))) av))) c) ((i.map oU).map V.d) (a.map dp) [.v (.ref D.x),H,J,L,Q,U,W,Y,a8,a9,g,h] (dg D G d f) K:=by
 intro i;induction i with
 |nil=>intro l d f a g h e I;rw[c8] at e;subst e;exact q _ _ _ _ _ I
 |cons p i m=>intro l d f a g h e I;refine fa (s.three p (by rw[e];simp)) λu v w e3 z=>?_;obtain⟨o,p2⟩:=p;cases e3;refine A (I.in B s e z) λN2 M2 r co=>?_;have:=m (l++[(o,[u,v,w])]) N2 M2 (a++[(o,r)]) (.v (.int o)) (.v (.d (.list (cy [u,v,w])))) (by rw[e,cs];rfl) (I.step z co);rw[ck] at this;exact this
theorem HF(S:DB T D G)(hE:∀k,(E k).length<=7)(B:∀t∈T,0<=t)(W:T.length<=1000)(X:Gd c (m+j+5))(ih:∀w,j=w+1->∀{c}{m b},Gd c (m+w+5)->xc T E D G c b w):xc T E D G c b j:=by
 intro N M x y n Q I q;refine Vt X λc X=>?_;have Y:=aS (bn (fR _ _) I.Nb) aa;have a:=λr h1 h2 h3=>q N M r ⟨I.g,I.m,oW,fR _ _,fR _ _,h1,h2,h3,HC⟩;refine vB.d (λe=>?_) λe=>?_
 ·have e:=sj e;subst e;exact a y I.yl I.yb λz bz=>by unfold iA;split<;>rfl
 refine aK (dc I.cl) λd u=>⟨_,_,oS X S,oT (n:=m+j+3) X S u Y ?_⟩
 cases d with
 |leaf v=>
  have hv:=I.g.ok _ (dw u)
  have y1:=λh=>a y I.yl I.yb λz bz=>by unfold iA;rw[g8 u,aR h]
  have n1:=λh=>a n I.nl I.nb λz bz=>by unfold iA;rw[g8 u,aQ h]
  refine⟨bE.str (by decide+kernel),bE.str (by decide+kernel),lG aa ?_⟩
  cases v with
  |int i=>exact vB.d (λh=>y1 (bA _ h)) λh=>n1 λe=>h (abN e)
  |str s=>exact⟨V4 hv,bE.int _,vB.n (λe=>nomatch e) (n1 λe=>nomatch e)⟩
  |_=>exact Cw (show ax=ao from hv)
 |br kc h4=>
  have C:bt T N x<T.length:=by rw[mG u];exact I.g.lvl_lt u
  obtain⟨j,rfl⟩:∃w,j=w+1:=⟨j-1,by have:=I.cb;have:=I.jb;(rename_i f;exact bQ (aj [_,_] 0x10f9180115c19180 aa (dt (aj [_,_,_,_] 0x10f31811c2110c930210c10 aa C this f:1<=j))) (aj [_,_] 0x10f1918012c19180 aa (dt (aj [_,_,_,_] 0x10f31811c2110c930210c10 aa C this f:1<=j))))⟩
  have l:gr 4 (.tuple (gG x y n))=ao:=by rfl
  refine⟨bE.int _,bE.str (by decide+kernel),vB.n (λe=>nomatch e) (w0 X S (GK X.R (k:=gG x y n) S.gm l ?_))⟩
  cases A:er M (.tuple (gG x y n)) with
  |some v=>refine au (I.m.1 _ _ _ _ A) ?_;rintro r rfl H;exact w0 X S (wU X.R S.gm l A (a r H.lt.2.2.2 (H.lv b I.cb I.yb I.nb) H.val))
  |none=>
   refine Ku (V5 I hE B C) λk h5 ps g=>Hn (n:=m+j+1) X S (ns:=[x,y,n]) (Bg I.cl I.yl I.nl) g.hk g.ht W Y (iP _ _) (lV aa) g.ok ?_;rw[g.hp];refine⟨by rw[aI,aI];exact bn g.len (aX _ _),V6 (ih j aa (m:=m) X) I g (λN' M' qs h1 h2 J=>?_) ps [] N M [] .u .u aa ⟨I.g,I.m,oW,fR _ _,fR _ _,.nil,HC⟩⟩
   refine iJ (J.rise g) λq1 q2 q3 q4 q5=>?_;have co:=J.end I g A;have L:N'.length<=900000:=by have:=J.nl;have:=kQ (gH j) g.len;have:=I.Nb;have:gH (j+1)=8*gH j+1:=aa;(rename_i o p f;exact aj [_,_,_,_,_] 0x10f08aebebede410c930410c8b2315c9188b2110c089efe5e1e910 aa o p this f)
   have U:M'.length<=1000000:=by have:=J.ml;have:=kQ (gH j) g.len;have:=I.Mb;have:gH (j+1)=8*gH j+1:=aa;(rename_i o p f;exact aj [_,_,_,_,_] 0x10f084e2e4efe410c923410c089efe5e1e90310c8b1215c9188b10 aa o f p this)
   refine⟨_,_,sa X S,A5 (n:=m+j+3) X S g.ht W q1 q2 q3 (bn q4 (aX _ _)) L (w0 X S (GP X (k:=gG x y n) S.gm l (J.key I g A) U ?_))⟩
   rw[S.um];exact w0 X S (wU X.R (k:=gG x y n) S.gm l (by rw[Bf,J.key I g A,aR aa];rfl) (q _ _ _ co))
theorem V7(S:DB T D G)(d:∀k,(E k).length<=7)(a:∀t∈T,0<=t)(f:T.length<=1000)(j)(X:Gd c (m+j+5)):xc T E D G c b j:=by
 induction j generalizing c m b with
 |zero=>exact HF S d a f X λY e=>by cases e
 |succ j g=>exact HF S d a f X λh e=>by cases e;exact g
def HG:=(az (cE (bX .NotEq (bT (ag 3) 0) (bT (ag 3) 1)) (az (cD (aT (ai (ag 1) (ai (bT (ag 3) 0) (ai (bT (ag 3) 1) av))))) aH) aH) (az (bS 1 (bI .Add (ag 2) (aO 1))) aH))
def HH:=(az (bS 1 (aO 0)) (az (dP (cV 2 3) (dk (ag 0)) HG) (az kK aH)))
theorem V8(X:Gd c (n+1))(h:∀c,Gd c n->HH c [.v a,.u,.u,.u] G (λY G=>Q .none G) (λY Y=>aC) Q):FC c (.ref 152) [a] G Q:=d7 ⟨152,12,ak,"first_unlike","siftwall.diagram",263⟩ HH ["pieces"] [ac "pieces",ac "low",ac "high",ac "two"] 3 ax [] [] X.B X.R (λE R=>h _ ⟨X.B,R⟩) (by kernel_rfl) (by kernel_rfl) aa (by kernel_rfl) (nu λY=>by kernel_rfl) (by kernel_rfl)
def HI:=(az (bS 5 (aO 0)) (az (cE (bX .Eq (bY oH (ai (d6 (ag 0) "level" (ai (ag 1) av)) (ai (d6 (ag 0) "level" (ai (ag 2) av)) av))) (ag 4)) (az (mu (ms 5 1 2) (cW (.ref 152) (ai (bT (cW (.ref 133) (ai (ag 0) (ai (aT (ai (ag 1) (ai (ag 2) av))) av))) 1) av))) aH) aH) (az (dR (dO eT 3 (ai (ag 5) av))) aH)))
def HJ:=(az (cE (bX .Eq (ag 1) (ag 2)) (az (cD tV) aH) aH) (az (eu 3 (eg av)) (az (dP (bK 4) (mv (bY kJ (ai (bY dU (ai (cw (ag 0) "tops") av)) av))) HI) (az (cD (bY nF (ai (ag 3) av))) aH))))
theorem V9(X:Gd c (n+1))(h:∀c,Gd c n->HJ c [.v a,.v b,.v d,.u,.u,.u] G (λY G=>Q .none G) (λY Y=>aC) Q):FC c (.ref 159) [a,b,d] G Q:=d7 ⟨159,13,ak,"parting","siftwall.diagram",263⟩ HJ ["diagrams","a","b"] [ac "diagrams",ac "a",ac "b",ac "values",ac "variable",ac "value"] 3 ax [] [] X.B X.R (λE R=>h _ ⟨X.B,R⟩) (by kernel_rfl) (by kernel_rfl) aa (by kernel_rfl) (iS λY Y Y=>by kernel_rfl) (by kernel_rfl)
def HK:=(az (dR (dO eT 9 (ai (aT (ai (ag 12) (ai (bI .Add (ag 6) (aT (ai (aT (ai (ag 7) (ai (aT (ai (ag 10) (ai (ag 11) av))) av))) av))) av))) av))) (az (bS 10 (bI .Add (ag 11) (aO 1))) aH))
def HL:=(az (mu (cV 5 6) (dO zZ 4 av)) (az (mu (cV 7 8) (d6 (ag 0) "node" (ai (ag 5) av))) (az (cE (bX .Eq (ag 7) (bf "leaf")) (az (cE (bX .Eq (bY dU (ai (ag 3) av)) (ag 2)) (az kK aH) aH) (az (dR (dO eT 3 (ai (aT (ai (ag 6) (ai (ag 8) av))) av))) aH)) (az (eu 9 (eg av)) (az (bS 10 (aO 0)) (az (dP (cV 11 12) (dk (ag 8)) HK) (az (dR (dO Fs 9 av)) (gj 9 (az (dR (dO Ft 4 (ai (ag 9) av))) aH))))))) aH)))
def HM:=(az (eu 3 (eg av)) (az (eu 4 (eg (ai (aT (ai (ag 1) (ai (aT av) av))) av))) (az (tY (bX .Gt (bY dU (ai (ag 4) av)) (aO 0)) HL) (gj 3 (az (cD (ag 3)) aH)))))
theorem Wa(X:Gd c (n+1))(h:∀c,Gd c n->HM c [.v a,.v b,.v d,.u,.u,.u,.u,.u,.u,.u,.u,.u,.u] G (λY G=>Q .none G) (λY Y=>aC) Q):FC c (.ref 166) [a,b,d] G Q:=d7 ⟨166,14,ak,"ways","siftwall.diagram",263⟩ HM ["diagrams","number","most"] [ac "diagrams",ac "number",ac "most",ac "found",ac "stack",ac "at",ac "path",ac "head",ac "about",ac "later",ac "low",ac "high",ac "child"] 10 ax [(142,9,ax),(143,3,ax)] [] X.B X.R (λE R=>h _ ⟨X.B,R⟩) (by kernel_rfl) (by kernel_rfl) aa (by kernel_rfl) (iS λY Y Y=>by kernel_rfl) (by kernel_rfl)
def HN:=(az (cE (bX .NotIn (bT (ag 7) 1) (ag 2)) (az (ir (ag 2) (bT (ag 7) 1) (lE ao)) (az (dR (dO eT 4 (ai (bT (ag 7) 1) av))) aH)) aH) aH)
def HO:=(az (bS 5 (dO zZ 4 av)) (az (bS 6 (d6 (ag 0) "node" (ai (ag 5) av))) (az (cE (bX .Eq (bT (ag 6) 0) (bf "leaf")) (az wx aH) aH) (az (dR (dO eT 3 (ai (ag 5) av))) (az (dP (bK 7) (dk (bT (ag 6) 1)) HN) aH)))))
def HP:=(az (At 2 3 4 (Ap (ag 1) (lE ao)) (eg av) (eg (ai (ag 1) av))) (az (tY (t8 (ag 4)) HO) (gj 3 (az (cD (ag 3)) aH))))
theorem Wb(X:Gd c (n+1))(h:∀c,Gd c n->HP c [.v a,.v b,.u,.u,.u,.u,.u,.u] G (λY G=>Q .none G) (λY Y=>aC) Q):FC c (.ref 187) [a,b] G Q:=d7 ⟨187,19,ak,"inner_nodes","siftwall.retext",434⟩ HP ["diagrams","number"] [ac "diagrams",ac "number",ac "seen",ac "met",ac "todo",ac "one",ac "node",ac "part"] 6 ax [(170,3,ax)] [] X.B X.R (λE R=>h _ ⟨X.B,R⟩) (by kernel_rfl) (by kernel_rfl) aa (by kernel_rfl) (jx λY Y=>by kernel_rfl) (by kernel_rfl)
theorem DS.db{T D N M}(S:DS T D N M G):DB T D G:=⟨S.x,S.d,fL S.x S.n (by simp),fL S.x S.b (by simp),fL S.x S.m (by simp),fL S.d S.n (by simp),fL S.d S.b (by simp),fL S.d S.m (by simp),fL S.n S.b (by simp),fL S.n S.m (by simp),S.ne⟩
theorem qG(h:G a=ac o):aE G a o=G:=by
 funext b;by_cases e:b=a
 ·rw[e,bG,h]
 ·rw[aU e]
theorem DS.eq{T D N M}(S:DS T D N M G):dg D G N M=G:=by delta dg cx;rw[qG S.n,qG S.b,qG S.m]
def o8(c:af)(l:ae (af×ae ah)):bB (af×ah×ah):=l.rec (λY=>ak) (λp Y R c=>p.2.casesOn ak λa t=>t.casesOn ak λb t=>t.casesOn (if a≠b then ac (c,a,b) else R (p.1+1)) λY Y=>ak) c
theorem o8.q2:o8 (c) ((h,[a,b])::r)=(if a≠b then ac (c,a,b) else o8 (h+1) r):=aa
theorem Wc:∀{f:ae (af×ae ah)}{a lo:af}{c d:ah},lK a f->o8 (a+1) f=ac (lo,c,d)->
 c≠d/\a<lo/\lo<=lL a f/\d4 f lo=ac [c,d]/\(∀t,a<t->t<lo->∃m,d4 f t=ac [m,m])/\(lo=a+1\/∃p∈f,p.1+1=lo)/\∃p∈f,p.2=[c,d]:=by
 intro f;induction f with
 |nil=>intro a lo c d _ h;cases h
 |cons p r n=>
  intro a lo c d k h;obtain⟨z,l⟩:=p;obtain⟨x,y,rfl⟩:∃x y,l=[x,y]:=by
   cases l with
   |nil=>cases h
   |cons x l=>cases l with
    |nil=>cases h
    |cons y l=>cases l with
     |nil=>exact lj x y aa
     |cons=>cases h
  have g:∀(r:ae (af×ae ah))(b:af),lK b r->b<=lL b r:=by
   intro r;induction r with
   |nil=>intro b _;exact fB _
   |cons p r n=>intro b A;have:=n p.1 A.2;have:=A.1;simp only[lL.q2];(rename_i e;exact ay [_,_,_] 76299586135723024 aa this e)
  rw[o8.q2] at h;split at h
  ·rename_i o;cases h;have:=k.1;have:=g r z k.2;exact xM o (ay [_] 301537280 aa) (by simp only[lL.q2];(rename_i e;exact ay [_,_,_] 0x10f1918211c0210c10 aa e this)) (by rw[d4.q2,aR (by simp only;(rename_i e;exact ay [_,_] 298075428035600 aa e))]) (λt B s=>(ay [_,_] 0x16f080811c0111c91810 aa B s:aC).elim) (.inl aa) ⟨_,aP,aa⟩
  ·rename_i u;have u:=vx u;subst u;refine xL (n k.2 h) λC v D E G j i=>au i λp w H=>?_;have:=k.1;simp only at this v;refine xM C (ay [_,_,_] 80803185763097616 aa this v) D (by rw[d4.q2,aQ (by simp only;exact ay [_,_] 85632031760 aa v)];exact E) (λt B s=>?_) ?_ ⟨p,ba _ w,H⟩
   ·rw[d4.q2];by_cases q:t<=z
    ·exact ew x (by rw[aR q])
    ·rw[aQ q];exact G t (by simp only;exact ay [_,_] 77042105360 aa q) s
   ·refine aB j ?_ ?_;rotate_left;intro i;refine au i λp w j=>?_;rotate_right;intro j
    ·exact .inr ⟨_,aP,j.symm⟩
    ·exact .inr ⟨p,ba _ w,j⟩
theorem We:∀{d:ae (af×ae ah)}{a:af},(∀p∈d,p.2.length=2)->o8 a d=ak->∀p∈d,∃m,p.2=[m,m]:=by
 intro i;induction i with
 |nil=>exact@λ_ _ _ p b=>by cases b
 |cons j r e=>
  exact@λa g c p b=>by
   obtain⟨h,l⟩:=j;obtain⟨x,y,rfl⟩:∃x y,l=[x,y]:=jx (P:=λl=>∃x y,l=[x,y]) (λx y=>⟨x,y,rfl⟩) l (g _ aP)
   ·rw[o8.q2] at c;split at c
    ·cases c
    ·rename_i f;have f:=vx f;subst f;refine aB (bj.mp b) ?_ (λb=>?_);rintro rfl
     ·exact ew x rfl
     ·exact e (λq k=>g q (ba _ k)) c p b
noncomputable def dq(vs:ae af):=λk=>vs.getD k 0
theorem sm(h:j<vs.length):dq (vs++[v]) j=dq vs j:=by unfold dq;rw[cY,cY,jv h]
theorem xe:dq (vs++[v]) vs.length=v:=by unfold dq;rw[cY,oX (cO _)];simp
def pd T(E:ah->ae af)N a b p:=
 p.length=T.length/\
 (∀k,k<p.length->∃c,T[k]?=ac c/\0<=dq p k/\dq p k<=c/\(dq p k=0\/dq p k∈E k))/\
 bU N (dq p) a≠bU N (dq p) b/\
 ∀x,b6 T x->∀i,i<p.length->(∀j,j<i->x j=dq p j)->x i<dq p i->bU N x a=bU N x b
def pd.len(c:pd T E N a b p):=c.1
def pd.grid(c:pd T E N a b p):=c.2.1
def pd.unlike(c:pd T E N a b p):=c.2.2.1
def pd.least(c:pd T E N a b p):=c.2.2.2
def iC T(E:ah->ae af)N a b vs d e:=
 vs.length<=T.length/\
 d≠e/\
 (d<N.length/\e<N.length)/\
 (vs.length<=bt T N d/\vs.length<=bt T N e)/\
 (∀k,k<vs.length->∃c,T[k]?=ac c/\0<=dq vs k/\dq vs k<=c/\(dq vs k=0\/dq vs k∈E k))/\
 (∀x,b6 T x->(∀j,j<vs.length->x j=dq vs j)->bU N x a=bU N x d/\bU N x b=bU N x e)/\
 ∀x,b6 T x->∀i,i<vs.length->(∀j,j<i->x j=dq vs j)->x i<dq vs i->bU N x a=bU N x b
def iC.len(c:iC T E N a b vs d e):=c.1
def iC.ne(c:iC T E N a b vs d e):=c.2.1
def iC.lt(c:iC T E N a b vs d e):=c.2.2.1
def iC.lv(c:iC T E N a b vs d e):=c.2.2.2.1
def iC.grid(c:iC T E N a b vs d e):=c.2.2.2.2.1
def iC.agree(c:iC T E N a b vs d e):=c.2.2.2.2.2.1
def iC.least(c:iC T E N a b vs d e):=c.2.2.2.2.2.2
theorem iC.start(h:a≠b)(c:a<N.length)(d:b<N.length):iC T E N a b [] a b:=⟨eX _,h,⟨c,d⟩,⟨eX _,eX _⟩,λk h=>by simp at h,λx Y Y=>⟨aa,aa⟩,λx Y i h=>by simp at h⟩
theorem iC.push(h:iC T E N a b vs t u)(hk:T[vs.length]?=ac m)(z:0<=v)(A:v<=m)(B:v=0\/v∈E vs.length)(q:c≠d)(C:c<N.length)(D:d<N.length)
 (G:vs.length+1<=bt T N c)(ld:vs.length+1<=bt T N d)(r:∀x,b6 T x->x vs.length=v->bU N x t=bU N x c/\bU N x u=bU N x d)
 (s:∀x,b6 T x->x vs.length<v->bU N x t=bU N x u):iC T E N a b (vs++[v]) c d:=by
 refine⟨by simp;exact aj [_,_] 298075428035600 aa ((dF.mp hk).1),q,⟨C,D⟩,⟨by simpa using G,by simpa using ld⟩,λk n=>?_,λx l o=>?_,λx l i w o f=>?_⟩
 ·simp only[b7,ea] at n;by_cases e:k<vs.length
  ·rw[sm e];exact h.grid k e
  ·have:k=vs.length:=bQ (aj [_,_] 298036668995600 aa n) (aj [_,_] 72747142160 aa e);subst this;rw[xe];exact xN m hk z A B
 ·have p:=h.agree x l λj g=>by rw[o j (by simp;exact aj [_,_] 316184771763216 aa g),sm g]
  have y:=r x l (by rw[o vs.length (by simp),xe]);exact aF (p.1.trans y.1) (p.2.trans y.2)
 ·simp only[b7,ea] at w;by_cases e:i<vs.length
  ·exact h.least x l i e (λj g=>by rw[o j g,sm (by exact aj [_,_,_] 80803185763097616 aa g e)]) (by rw[sm e] at f;exact f)
  ·have:i=vs.length:=bQ (aj [_,_] 298036668995600 aa w) (aj [_,_] 72747142160 aa e);subst this;rw[xe] at f;have p:=h.agree x l λj g=>by rw[o j g,sm g]
   rw[p.1,p.2];exact s x l f
theorem iC.same(h:iC T E N a b vs d f)(hk:T[vs.length]?=ac c)(i:0<=c)(j:vs.length≠bt T N d)(k:vs.length≠bt T N f):iC T E N a b (vs++[0]) d f:=by have:=h.lv;exact h.push hk (fB _) i (.inl aa) h.ne h.lt.1 h.lt.2 ((Bd j).elim (λe=>aj [_,_] 298075428035600 aa e) λe=>aj [_,_] 0x10f0918120c0111c10 aa this.1 e) ((Bd k).elim (λe=>aj [_,_] 298075428035600 aa e) λe=>aj [_,_] 0x10f0918120c0111c10 aa this.2 e) (λx g Y=>⟨aa,aa⟩) λx g l=>by have:=(g _ _ hk).1;exact bv l (hU.mpr this)
theorem iC.fin(g:bW T E N)(h:iC T E N a b vs m o)(d:vs.length=T.length):pd T E N a b vs:=by
 have p:b6 T (dq vs):=λk q hk=>by refine cP (h.grid k (by have:=(dF.mp hk).1;exact aj [_,_,_] 80785593593846800 aa this d)) λt e f i Y=>?_;rw[hk] at e;cases e;exact aF f i
 have leaf:∀n,n<N.length->vs.length<=bt T N n->∃v,N[n]?=ac (.leaf v):=λn r c=>by
  have e:=cr r;cases j:N[n] with
  |leaf v=>exact ew v (by rw[e,j])
  |br k s=>rw[j] at e;rw[mG e] at c;exact(aj [_,_,_] 0x16f080811c2115c2010c10 aa (g.lvl_lt e) d c:aC).elim
 refine⟨d,h.grid,?_,h.least⟩
 refine aw (h.agree _ p λY Y=>rfl) λf i=>aK (leaf m h.lt.1 h.lv.1) λu l=>aK (leaf o h.lt.2 h.lv.2) λv c=>?_;rw[f,i,g8 l,g8 c];intro e;subst e;exact h.ne (g.nodup l c)
theorem iC.split(g:bW T E N)(h:iC T E N a b vs L M)(hk:T[vs.length]?=ac i)(Q:0<=i)(x0)(b0:b6 T x0)
 (C:f=[en T N L vs.length,en T N M vs.length]):
 ∃lo c d,o8 0 (jE i f)=ac (lo,c,d)/\(∀p∈jE i f,p.2.length=2)/\(jE i f).length<=(E vs.length).length+1/\iC T E N a b (vs++[lo]) c d:=by
 have I:=uG g h.lt.1 hk Q h.lv.1;have J:=uG g h.lt.2 hk Q h.lv.2;have w:∀s∈f,i8 i (-1) s:=λs n=>by
  rw[C] at n;simp at n;refine aB n ?_ ?_<;>clear n<;>rintro rfl
  ·exact I.1
  ·exact J.1
 have D:∀s∈f,(∀p∈s,p.1=i\/p.1+1∈E vs.length)/\(∀p∈s,p.2<N.length/\vs.length+1<=bt T N p.2):=λs n=>by
  rw[C] at n;simp at n;refine aB n ?_ ?_<;>clear n<;>rintro rfl
  ·exact aF I.2.1 I.2.2.1
  ·exact aF J.2.1 J.2.2.1
 have q:f≠[]:=by rw[C];exact iP _ _
 refine bu (Hx i (gQ f) f (-1) q w (cO _) (ay [_] 76290817019396104 aa Q)) λU r2 W=>?_;have r4:=Hw i (gQ f) f (-1) q w (cO _);have r5:=HA i (gQ f) f (-1) q w;change lK (-1) (jE i f) at U;change lL (-1) (jE i f)=i at r2;change∀p∈jE i f,_ at W;change∀t,-1<t->t<=i->d4 (jE i f) t=_ at r4;change∀p∈jE i f,_ at r5;generalize jE i f=j at*
 have G:=λp y=>by refine aw (W p y) λY k=>au k λr hr h1=>au h1 λz hz e=>?_;have:=(D r hr).1 z hz;rw[e] at this;exact this
 have l:∀x,b6 T x->∀c d,d4 j (x vs.length)=ac [c,d]->bU N x L=bU N x c/\bU N x M=bU N x d:=λx u c d y=>by refine aw (u _ _ hk) λb1 b2=>?_;have A:=r4 (x vs.length) (ay [_] 80794416646766600 aa b1) b2;rw[y,C] at A;simp only[c9,gN,uz,pG,GL] at A;refine aw A ?_;rintro rfl rfl;exact aF (I.2.2.2.2 x u).symm (J.2.2.2.2 x u).symm
 have H:∀p∈j,p.2.length=2:=λp y=>by rw[(W p y).1,(by rw[C];rfl:f.length=2)]
 cases hf:o8 0 j with
 |none=>exfalso;refine h.ne (g.canon x0 b0 _ L M (cO _) h.lt.1 h.lt.2 λx u=>?_);refine aw (u _ _ hk) λb1 b2=>?_;have A:=r4 (x vs.length) (ay [_] 80794416646766600 aa b1) b2;refine au (qC A) λhh n Y=>aK ((We H hf) _ n) λm e=>?_;simp only at e;rw[e] at A;refine aw (l x u _ _ A) λv1 v2=>?_;rw[v1,v2]
 |some o=>
  obtain⟨lo,c,d⟩:=o;refine xL (Wc (a:=-1) U hf) λk1 k2 k3 k4 k5 B k=>au k λp y k7=>?_;rw[r2] at k3;have v:∀m∈[c,d],m<N.length/\vs.length+1<=bt T N m:=λm n=>by refine au (r5 p y m (by rw[k7];exact n)) λr hr k=>au k ?_;rintro z hz rfl;exact(D r hr).2 z hz
  refine mW lo c d aa H (sk U G) (h.push hk (ay [_] 76280273209792520 aa k2) k3 ?_ k1 (v c (aP)).1 (v d (.tail _ (.head _))).1 (v c (aP)).2 (v d (.tail _ (.head _))).2 (λx u hx=>l x u c d (by rw[hx];exact k4)) λx u hx=>?_)
  ·refine aB B ?_ ?_;rotate_left;intro k;refine au k λp' h2 B=>?_;rotate_right;intro B
   ·left;exact fC (ay [_] 0x10f08012c918a18080 aa B) (ay [_] 0x10f00815c918a18080 aa B)
   ·refine aB (G p' h2) (λe=>?_) (λe=>?_)
    ·exact(ay [_,_,_] 0x16f080812c0918215c1210c10 aa B e k3:aC).elim
    ·right;rw[<-B];exact e
  ·refine aK (k5 (x vs.length) (by have:=(u _ _ hk).1;exact ay [_] 80794416646766600 aa this) hx) λm e=>aw (l x u _ _ e) λv1 v2=>?_;rw[v1,v2]
theorem Wf(X:Gd c (n+1)){lo:af}(j:∀p∈d,p.2.length=2)(f:o8 0 d=ac (lo,a,b))(q:Q (.d (.tuple [.int lo,.int (a:ah),.int (b:ah)])) G):FC c (.ref 152) [.d (.list (d.map oU))] G Q:=V8 X λc X=>by
 suffices o:∀(d:ae (af×ae ah))(g:af)(s l j:LV)(K:Sg->AH->Prop),(∀p∈d,p.2.length=2)->o8 g d=ac (lo,a,b)->dj (cV 2 3) (dP.b HG c Q) ((d.map oU).map V.d) [s,.v (.int g),l,j] G K from o d 0 _ _ _ _ j f;intro d;induction d with
 |nil=>intro Y Y Y Y Y Y h;cases h
 |cons p d r=>
  intro g s l j K m f
  obtain⟨t,i⟩:=p
  have k:=m _ aP
  cases i with
  |nil=>cases k
  |cons x i=>cases i with
   |nil=>cases k
   |cons y i=>cases i with
    |cons _ _=>cases k
    |nil=>
     rw[o8.q2] at f;refine vB.nd (λe=>?_) λe=>?_
     ·rw[aR (λh=>e (bA gB h))] at f;cases f;exact q
     ·rw[aQ (λh=>h (sj e))] at f;exact r _ _ _ _ _ (λp h=>m p (ba _ h)) f
theorem HQ(X:Gd c (n+5))(S:DB T D G)(hE:∀k,(E k).length<=7)(U:∀t∈T,0<=t)(s:T.length<=1000)(x0)(b0:b6 T x0)(g:bW T E N)(ha:a<N.length)(hb:b<N.length)(W:N.length<=1000000)
 (q0:a=b->Q .none (dg D G N M))(q1:a≠b->∀p,pd T E N a b p->Q (.d (.tuple (p.map .int))) (dg D G N M)):FC c (.ref 159) [.ref D.x,.int (a:ah),.int (b:ah)] (dg D G N M) Q:=V9 X λc X=>by
 refine vB.d (λe=>q0 (sj e)) λe=>?_;have z:=λh=>e (bA gB h);refine r8 X S ⟨aS (by rw[aI];exact s) aa,aa,aa,T.length,by rw[aI],aS s aa,?_⟩;suffices go:∀(m)(vs)(d f)(l r)(K),vs.length+m=T.length->iC T E N a b vs d f->(∀vs d f l r,pd T E N a b vs->K [.v (.ref D.x),.v (.int (d:ah)),.v (.int (f:ah)),.o (.list (vs.map .int)),l,r] (dg D G N M))->
  dj (bK 4) (dP.b HI c Q) (iZ vs.length m) [.v (.ref D.x),.v (.int (d:ah)),.v (.int (f:ah)),.o (.list (vs.map .int)),l,r] (dg D G N M) K from
  go T.length [] a b _ _ _ (dZ _) (.start z ha hb) λvs d f l r o=>⟨aS (m:=1000) (by rw[aI,o.len];exact s) aa,q1 z vs o⟩
 intro m;induction m with
 |zero=>exact λvs d f l r K e I k=>k _ _ _ _ _ (I.fin g e)
 |succ m ih=>
  intro vs d f l r K e I k;have A:(vs.map cJ).length<=1000000:=aS (by rw[aI];exact(bn I.len s:vs.length<=1000)) aa;refine aK (dc (xs:=T) (i:=vs.length) (aj [_,_,_] 80818583262271504 aa e)) λh3 w=>?_;have L:=U _ (dw w);refine aK (dc I.lt.1) λda B=>aK (dc I.lt.2) λdb C=>?_;have Y:bt T N d=lv T da:=by unfold bt;rw[B]
  have eb:bt T N f=lv T db:=by unfold bt;rw[C]
  have j:=I.lv;have nx:=λv h1 h2 l r J=>by have:=ih (vs++[v]) h1 h2 l r K (by rw[b7,ea];exact bQ (aj [_,_,_] 0x10f291918012c2991810 aa e) (aj [_,_,_] 0x10f919180215c2991810 aa e)) J k;rw[b7,ck] at this;exact this
  refine⟨_,_,ux X S,uy (n:=n+3) X S B W s ⟨_,_,ux X S,uy (n:=n+3) X S C W s (vB.d (λh=>?_) λh=>?_)⟩⟩
  ·have hk:((vs.length:ah):af)=gy ([d,f].map λm=>(bt T N m:af)):=by rw[<-h,<-Y,<-eb];simp only[c9,gN,gy,jw,HR];exact xZ _ _
   refine mV (I.split g w L x0 b0 aa) λlo x y f1 f2 f3 J=>?_;have pa:=uG g I.lt.1 w L j.1;have pb:=uG g I.lt.2 w L j.2;have H:=hE vs.length;refine Hn (n:=n) X S (ns:=[d,f]) (λm u=>by refine aB (bj.mp u) ?_ (λu=>?_);rintro rfl;exact I.lt.1;rw[bZ.mp u];exact I.lt.2) hk w s W (iP _ _) (lV aa)
    (λm u=>by refine aB (bj.mp u) ?_ (λu=>?_);rintro rfl;exact aF pa.1 (by have:=pa.2.2.2.1;exact aj [_,_] 0x10f488e3e110c9180110c780 aa this H);rw[bZ.mp u];exact aF pb.1 (by have:=pb.2.2.2.1;exact aj [_,_] 0x10f488e3e110c9180110c780 aa this H)) (Wf (n:=n+3) X f2 f1 ⟨A,nx _ _ _ _ _ J⟩)
  ·exact⟨A,nx 0 d f _ _ (I.same w L (λq=>h (by rw[xZ,<-Y,<-eb,<-q];exact mZ (bD.2 j.2))) (λq=>h (by rw[xZ,<-Y,<-eb,<-q];exact ya (bD.2 j.1))))⟩
abbrev ek:=ae (ah×af×af)
def wl k(f:ah->ae (ek×aA))b(c:ae (af×ah)):=gY (motive:=λY=>af->ae (ek×aA)) (λY=>[]) (λp r d a=>(f p.2).map (λq=>((k,a,p.1)::q.1,q.2))++(d (p.1+1))) c b
theorem wl.q1:wl k f (a) ([])=([]):=aa
theorem wl.q2:wl k f (a) (p::r)=((f p.2).map (λq=>((k,a,p.1)::q.1,q.2))++wl k f (p.1+1) r):=aa
def b9(N:ae Nd):=Wg Wh.wf λn a=>(N[n]?).elim [] λd=>Nd.rec (motive:=λY=>ae (ek×aA)) (λv=>[([],v)]) (λk b=>wl k (λm=>if h:m<n then a m h else[]) 0 b) d
def sz(N:ae Nd):=Wg Wh.wf λn a=>1+(N[n]?).elim 0 λd=>Nd.rec (motive:=λY=>ah) (λY=>0) (λY b=>(b.map λp=>if h:p.2<n then a p.2 h else 0).sum) d
theorem Bi(k):∀(b:ae (af×ah))(a:af),(∀p∈b,f p.2=g p.2)->wl k f a b=wl k g a b:=λd=>d.rec
 (λY Y=>rfl)
 (λp r c a h=>by simp only[wl.q2];rw[h p aP,c _ λq e=>h q (ba _ e)])
theorem mI(h:N[n]?=ac (.leaf v)):b9 N n=[([],v)]:=by unfold b9;rw[xg,h];rfl
theorem mJ(g:bW T E N)(h:N[n]?=ac (.br k a)):b9 N n=wl k (b9 N) 0 a:=by refine(xg _ _ _).trans ?_;rw[h];refine Bi (f:=λm=>if h:m<n then b9 N m else[]) (g:=b9 N) k a 0 λp b=>dif_pos ((g.br h).ch p b).1
theorem HS(h:N[n]?=ac (.leaf v)):sz N n=1:=by unfold sz;rw[xg,h];rfl
theorem HT(g:bW T E N)(h:N[n]?=ac (.br k a)):sz N n=1+(a.map λp=>sz N p.2).sum:=by
 refine(xg _ _ _).trans ?_;rw[h];refine bA (λl=>1+l.sum)<|i7 λp b=>?_
 exact dif_pos ((g.br h).ch p b).1
def jI k a c(d:ae (af×ah)):=gY (motive:=λY=>af->ae (ah×ek)) (λY=>[]) (λp r e b=>(p.2,a++[(k,b,p.1)])::(e (p.1+1))) d c
theorem jI.q1:jI k a (b) ([])=([]):=aa
theorem jI.q2:jI k a (b) (p::r)=((p.2,a++[(k,b,p.1)])::jI k a (p.1+1) r):=aa
def lM N(st:ae (ah×ek)):=st.flatMap λe=>(b9 N e.1).map λq=>(e.2++q.1,q.2)
def lN N(st:ae (ah×ek)):=(st.map λe=>sz N e.1).sum
theorem Wi(k)(a):∀(d:ae (af×ah))(b:af),(wl k (b9 N) b d).map (λq=>(a++q.1,q.2))=lM N (jI k a b d):=λf=>f.rec
 (λY=>rfl)
 (λp r c b=>by have e:=c (p.1+1);unfold lM at e⊢;rw[wl.q2,jI.q2,ck,Bj,e,eI];congr 1;apply i7;intro q Y;simp)
theorem Wj(k)(a):∀(d:ae (af×ah))(b:af),lN N (jI k a b d)=(d.map λp=>sz N p.2).sum:=λf=>f.rec
 (λY=>rfl)
 (λp r c b=>by have e:=c (p.1+1);unfold lN at e⊢;rw[jI.q2,c9,nL,e,c9,nL])
theorem Wl(k)(a):∀(f:ae (af×ah))(b:af),∀e∈jI k a b f,(∃p∈f,p.2=e.1)/\e.2.length=a.length+1:=λg=>g.rec
 (λY e h=>by cases h)
 (λp r c b e h=>by
 rw[jI.q2] at h;refine aB (bj.mp h) ?_ (λh=>?_);rintro rfl
 ·exact aF ⟨p,aP,rfl⟩ (by simp)
 ·refine aw (c _ e h) λd=>au d λq i j=>λl=>aF ⟨q,ba _ i,j⟩ l)
theorem Wm(g:bW T E N){st:ae (ah×ek)}(h:N[n]?=ac (.br k a)):
 lM N ((n,path)::st)=lM N (jI k path 0 a++st)/\lN N ((n,path)::st)=lN N (jI k path 0 a++st)+1:=by
 have b:=Wi (N:=N) k path a 0;have c:=Wj (N:=N) k path a 0;unfold lM lN at*
 refine aF (by rw[Bj,mJ g h,b,Wn]) ?_;rw[c9,nL,HT g h,ck,List.sum_append,c];exact bQ (aj [_,_] 76439736563109912 aa) (aj [_,_] 76439766762096912 aa)
noncomputable def uH(e:ah×af×af):aA:=.tuple [.int e.1,.tuple [.int e.2.1,.int e.2.2]]
def qH(p:ek):aA:=.tuple (p.map uH)
def pe(e:ah×ek):aA:=.tuple [.int e.1,qH e.2]
def nP(e:ek×aA):aA:=.tuple [qH e.1,e.2]
theorem Wo(N)(n):1<=sz N n:=by unfold sz;rw[xg];exact fR _ _
theorem Wp(N):∀(st:ae (ah×ek)),st.length<=lN N st:=λb=>b.rec
 (eX _)
 (λe st a=>by
 have:=a;unfold lN at*
 rw[c9,nL,cG];exact aj [_,_,_] 0x10f920918110c2110c018 aa a (Wo N e.1))
theorem HU(k)(a):∀(d:ae (af×ah))(b:af),(jI k a b d).length=d.length:=λe=>e.rec
 (λY=>rfl)
 (λp r c b=>by rw[jI.q2,cG,c,cG])
inductive su(a0 a1 a2:LV)(N:ae Nd)(tot:ae (ek×aA))(z:ah)(G:AH):ah->Sg->AH->Prop
 |mk (st:ae (ah×ek)) (fd:ae (ek×aA)) (u5 u6 u7 u8 u9 u10 u11 u12:LV) (f:ah):fd++lM N st=tot->lN N st=f->f<=z->(∀e∈st,e.1<N.length/\e.2.length+f<=z)->
  su a0 a1 a2 N tot z G f [a0,a1,a2,.o (.list (fd.map nP)),.o (.list (st.reverse.map pe)),u5,u6,u7,u8,u9,u10,u11,u12] G
theorem Wq{K:Sg->AH->Prop}{k:ah}(h:a.length<=100000):∀(r:ae (af×ah))(b:af)(d:ae (ah×ek))(e f:LV),d.length+r.length<=8->
 (∀x e f,K [i,j,l,n,o,s,.v (.d (qH a)),.v (.int k),t,.o (.list ((d++jI k a b r).map pe)),x,e,f] G)->
 dj (cV 11 12) (dP.b HK c Q) ((r.map dp).map V.d) [i,j,l,n,o,s,.v (.d (qH a)),.v (.int k),t,.o (.list (d.map pe)),.v (.int b),e,f] G K:=by
 intro r;induction r with
 |nil=>intro b d e f Y q;have:=q (.v (.int b)) e f;rw[jI.q1,c8] at this;exact this
 |cons p r u=>intro b d e f g q;have:=u (p.1+1) (d++[(p.2,a++[(k,b,p.1)])]) (.v (.int p.1)) (.v (.int p.2)) (by rw[b7];exact bn (fT (by simp;exact bQ (aj [_,_] 76448047324828032 aa) (aj [_,_] 76439772802390032 aa))) g) (λx e f=>by rw[cs];exact q x e f);rw[ck,c9,show pe (p.2,a++[(k,b,p.1)])=.tuple [.int p.2,.tuple (a.map uH++[uH (k,b,p.1)])] by delta pe qH;rw[ck];rfl] at this;exact⟨aS (m:=100001) (by rw[aI];exact qF h) aa,aS (m:=8) (by rw[aI];exact bn (fR _ _) g) aa,this⟩
theorem Wr(X:Gd c (n+1))(S:DB T D G)(g:bW T E N)(hm:(b.length:af)<=i)(h3:b.length<=100000)(W:z<=100000)(hE:∀k,(E k).length<=7)(hN:N.length<=1000000){K:Sg->AH->Prop}
 (q:∀u4 u5 u6 u7 u8 u9 t u w,K [.v (.ref D.x),a1,.v (.int i),.o (.list (b.map nP)),u4,u5,u6,u7,u8,u9,t,u,w] (dg D G N M)):
 ∀f σ G',su (.v (.ref D.x)) a1 (.v (.int i)) N b z (dg D G N M) f σ G'->bX .Gt (bY dU (ai (ag 4) av)) (aO 0) c σ G' (wA (su (.v (.ref D.x)) a1 (.v (.int i)) N b z (dg D G N M)) f HL c K Q):=by
 intro f σ G' h;cases h with
 |mk st C u5 u6 u7 u8 u9 t u w _ H l h4 y=>
 have o:=Wp N st;refine⟨aS (m:=100000) (by rw[aI,sv];exact aj [_,_,_,_] 0x10f08ae6e8e1e310c2312c1210c0110c08ae6e8e1e0 aa o l h4 W) aa,?_⟩
 rcases st with _|⟨⟨I,a⟩,st⟩
 ·rw[show C=b by rw[<-H];exact(c8 C).symm];exact q _ _ _ _ _ _ _ _ _
 refine aw (y _ aP) λhn j=>?_;replace j:a.length+f<=z:=j;replace hn:I<N.length:=hn;have h5:=aj [_,_,_] 0x10f08ae6e8e1e110c092110c08ae6e8e1e0 aa j W;refine aK (dc hn) λd J=>?_;have s:C.length+(lM N ((I,a)::st)).length=b.length:=by rw[<-H,b7]
 rw[qX,ck];refine lG (by simp) ⟨_,_,aa,(aS (m:=100000) (by rw[aI,sv];rw[cG] at o;exact aj [_,_,_,_,_] 0x10f08ae6e8e1e410c3918412c2310c092110c08ae6e8e1e0 aa o l j W) aa:(st.reverse.map pe).length<=1000000),_,_,oS X S,oT (n:=n) X S J hN ?_⟩;cases d with
 |leaf v=>refine aw ((by delta lM lN;refine aF (by rw[Bj,mI J];simp) ?_;rw[c9,nL,HS J];exact bQ (aj [_] 1166377259032 aa) (aj [_] 1166353666432 aa):lM N ((I,a)::st)=(a,v)::lM N st/\lN N ((I,a)::st)=lN N st+1)) λw1 w2=>?_;rw[w1] at s H;rw[w2] at l;rw[cG] at s;have L:(C.map nP).length<=1000000:=aS (m:=100000) (by rw[aI];exact aj [_,_,_] 0x10f08ae6e8e1e112c099182110c08ae6e8e1e0 aa s h3) aa;have:=su.mk (a0:=.v (.ref D.x)) (a1:=a1) (a2:=.v (.int i)) (N:=N) (tot:=b) (z:=z) (G:=dg D G N M) st (C++[(a,v)]) (.v (.int I)) (.v (.d (qH a))) (.v (.str "leaf")) (.v (.d v)) u9 t u w _ (by rw[cs];exact H) aa (aj [_,_,_,_] 0x10f2312c1918310c2910 aa l j) (λe U=>by have:=y e (ba _ U);exact aF this.1 (aj [_,_,_,_] 0x10f390210c391212c19180 aa this.2 l));rw[ck] at this;exact⟨bE.str (by decide+kernel),bE.str (by decide+kernel),lG aa ⟨L,vB.n (by rw[aI];exact λq=>bv hm (sT.mpr (by rw[<-q];exact eL.mpr (OJ (Nat.lt_add_of_pos_right (Uu _)) s)))) ⟨L,_,aj [_,_] 315628871324032 aa l,this⟩⟩⟩
 |br k A=>
  refine aw (Wm (path:=a) (st:=st) g J) λw1 w2=>?_;rw[w1] at H;rw[w2] at l;have B:A.length<=8:=by refine cP (g.br J).top λh7 Y r Y U=>bn (sk (uF.mp r) U) (qF (hE k))
  refine⟨bE.int _,bE.str (by decide+kernel),vB.n (λe=>nomatch e) (Wq h5 A 0 [] _ _ (by rw[jH,dZ];exact B) λx h1 h2=>⟨aS (m:=8) (by rw[jG,aI,HU];exact B) aa,?_⟩)⟩
  rw[jG,<-Ws];have:=su.mk (a0:=.v (.ref D.x)) (a1:=a1) (a2:=.v (.int i)) (N:=N) (tot:=b) (z:=z) (G:=dg D G N M) (jI k a 0 A++st) C (.v (.int I)) (.v (.d (qH a))) (.v (.int k)) (.v (.d (Hh (.br k A)))) (.v (.d (.list ((jI k a 0 A).reverse.map pe)))) x h1 h2 _ H aa (aj [_,_,_,_] 0x10f2312c1918310c2910 aa l j) (λe U=>by
   refine aB (ed.mp U) (λh=>?_) (λh=>?_)
   ·refine aw (Wl k a A 0 e h) λh6=>au h6 λp hp e1=>?_;intro e2;have hc:=(g.br J).ch p hp;rw[e1] at hc;refine aF (kB hc.1 hn) ?_;rw[e2];exact aj [_,_,_,_] 0x10f293918012c1918310c2910 aa l j
   ·have:=y e (ba _ h);exact aF this.1 (aj [_,_,_,_] 0x10f390210c391212c19180 aa this.2 l))
  rw[HV,ck] at this;exact⟨aS (m:=100008) (by rw[aI,sv];rw[cG] at o;exact aj [_,_,_,_,_,_,_] 0x10f88ae6e8e1e95610c4918610c88512c9183412c2918310c092110c08ae6e8e1e0 aa o (by rw[aI,sv,HU];exact B:((jI k a 0 A).reverse.map pe).length<=8) w2 l j W) aa,_,aj [_,_] 315628871324032 aa l,this⟩
theorem HW(X:Gd c (n+2))(S:DB T D G)(g:bW T E N)(f:a<N.length)(i:N.length<=1000000)(j:((b9 N a).length:af)<=b)(d:(b9 N a).length<=100000)(l:sz N a<=100000)(m:∀k,(E k).length<=7)
 (q:Q (.d (.list ((b9 N a).map nP))) (dg D G N M)):FC c (.ref 166) [.ref D.x,.int (a:ah),.int b] (dg D G N M) Q:=Wa X λc X=>
 ⟨su (.v (.ref D.x)) (.v (.int (a:ah))) (.v (.int b)) N (b9 N a) (sz N a) (dg D G N M),⟨sz N a,.mk [(a,[])] [] .u .u .u .u .u .u .u .u _ (by simp[lM]) (by rfl) (cO _) λe h=>by rw[bZ.mp h];exact aF f (fT (dZ _))⟩,
  Wr X S g j d l m i λY Y Y Y Y Y Y Y Y=>q⟩
inductive dy(N:ae Nd)(a:ah):ah->Prop
 |here:dy N a a
 |step {m k:ah} {ps:ae (af×ah)} {p:af×ah}:dy N a m->N[m]?=ac (.br k ps)->p∈ps->dy N a p.2
def kg(N:ae Nd)(m:ah):=∃k a,N[m]?=ac (.br k a)
theorem dy.trans(h:dy N a b)(k:dy N b c):dy N a c:=by
 induction k with
 |here=>exact h
 |step _ e d f=>exact f.step e d
def fX N a(e b8 done b c:ae ah):=
 (∀m,m∈b8↔m∈done\/m∈b)/\
 (done++b).Nodup/\
 a∈b8/\
 (∀m∈b8,dy N a m/\m<N.length)/\
 (∀m∈done,m∉e->∀k d,N[m]?=ac (.br k d)->∀p∈d,p.2∈b8)/\
 (∀m,m∈c↔m∈done/\kg N m)/\
 c.Nodup/\
 b8.Nodup
def fX.mem{d b8 done b c:ae ah}(e:fX N a d b8 done b c):=e.1
def fX.nd{d b8 done b c:ae ah}(e:fX N a d b8 done b c):=e.2.1
def fX.start{d b8 done b c:ae ah}(e:fX N a d b8 done b c):=e.2.2.1
def fX.rch{d b8 done b c:ae ah}(e:fX N a d b8 done b c):=e.2.2.2.1
def fX.cl{d b8 done b c:ae ah}(e:fX N a d b8 done b c):=e.2.2.2.2.1
def fX.mt{d b8 done b c:ae ah}(e:fX N a d b8 done b c):=e.2.2.2.2.2.1
def fX.mnd{d b8 done b c:ae ah}(e:fX N a d b8 done b c):=e.2.2.2.2.2.2.1
def fX.sn{d b8 done b c:ae ah}(e:fX N a d b8 done b c):=e.2.2.2.2.2.2.2
theorem fX.init(c:a<N.length):fX N a [] [a] [] [a] []:=⟨by simp,by exact aW aa,by exact aP,λm b=>by simp at b;subst b;exact aF .here c,λm b=>by simp at b,by simp,by simp,aW aa⟩
theorem fX.popLeaf{b8 done b f:ae ah}(h:fX N a [] b8 done (m::b) f)(e:N[m]?=ac (.leaf v)):fX N a [] b8 (m::done) b f:=by
 refine⟨λz=>?_,?_,h.start,h.rch,λz i l k j hk=>?_,λz=>?_,h.mnd,h.sn⟩
 ·rw[h.mem,bj,bj];exact Wt.trans HX.symm
 ·exact(HY.nodup_iff).mp h.nd
 ·refine aB (bj.mp i) ?_ (λi=>?_);rintro rfl
  ·rw[e] at hk;cases hk
  ·exact h.cl z i l k j hk
 ·rw[h.mt];constructor
  ·intro c;refine aw c λg d=>aF (ba _ g) d
  ·intro c;refine aw c λg d=>?_;refine aB (bj.mp g) ?_ (λg=>?_);rintro rfl
   ·refine fz d ?_;intro k j d;rw[e] at d;cases d
   ·exact aF g d
theorem fX.popBr{b8 done d g:ae ah}(h:fX N a [] b8 done (m::d) g)(e:N[m]?=ac (.br k o)):fX N a [m] b8 (m::done) d (g++[m]):=by
 have f:=h.nd;have j:=λq=>by rw[jV] at f;exact f.2.2 m q m aP aa
 refine⟨λz=>?_,?_,h.start,h.rch,λz l r k o hk=>?_,λz=>?_,?_,h.sn⟩
 ·rw[h.mem,bj,bj];exact Wt.trans HX.symm
 ·exact(HY.nodup_iff).mp f
 ·refine aB (bj.mp l) ?_ (λl=>?_);rintro rfl
  ·exact bv aP r
  ·exact h.cl z l (by simp) k o hk
 ·rw[ed,h.mt,bZ,bj];constructor
  ·intro b;refine aB b ?_ ?_<;>clear b;rotate_left;rintro rfl;rotate_right;intro c;refine aw c λn i=>?_
   ·exact aF (.inr n) i
   ·exact aF (.inl aa) ⟨_,_,e⟩
  ·intro b;refine aw b λc=>aB c ?_ (λn=>?_)<;>clear c;rotate_left;intro i;rotate_right;rintro rfl i
   ·exact .inr rfl
   ·exact .inl ⟨n,i⟩
 ·rw[jV];exact ca h.mnd (aW aa) λx s y p t=>by simp at p;subst p;subst t;exact j ((h.mt _).mp s).1
theorem fX.see{b8 done b f:ae ah}(h:fX N a [m] b8 done b f)(g:c∉b8)(l:dy N a c)(n:c<N.length):fX N a [m] (b8++[c]) done (c::b) f:=by
 have i:c∉done/\c∉b:=by have:=λq=>g ((h.mem c).mpr q);exact aF (λq=>this (.inl q)) λq=>this (.inr q)
 refine⟨λz=>?_,?_,by simp[h.start],λz d=>?_,λz d o k r hk p s=>by simp[h.cl z d o k r hk p s],h.mt,h.mnd,jV.mpr ⟨h.sn,by exact aW aa,λx t y j e=>by simp at j;subst j;subst e;exact g t⟩⟩
 ·rw[ed,h.mem,bZ,bj];exact HX.trans (or_congr_right or_comm)
 ·refine(HY.nodup_iff).mpr ?_;rw[nk];exact aF (by simp[i.1,i.2]) h.nd
 ·refine aB (ed.mp d) (λd=>?_) (λd=>?_)
  ·exact h.rch z d
  ·simp at d;subst d;exact aF l n
theorem fX.close{b8 done b c:ae ah}(h:fX N a [m] b8 done b c)(e:N[m]?=ac (.br k g))(i:∀p∈g,p.2∈b8):fX N a [] b8 done b c:=
 ⟨h.mem,h.nd,h.start,h.rch,λz j Y l d hk p f=>by
  by_cases q:z=m
  ·subst q;rw[e] at hk;cases hk;exact i p f
  ·exact h.cl z j (by simpa using q) l d hk p f,h.mt,h.mnd,h.sn⟩
theorem fX.fin{N:ae Nd}{a:ah}{b8 done b:ae ah}(h:fX N a [] b8 done [] b):b.Nodup/\∀m,m∈b↔dy N a m/\kg N m:=by
 refine aF h.mnd λm=>?_;have d:∀z,z∈b8↔z∈done:=λz=>by rw[h.mem];simp
 have c:∀z,dy N a z->z∈done:=λz i=>by
  induction i with
  |here=>exact(d a).mp h.start
  |step _ e j k=>exact(d _).mp (h.cl _ k (by simp) _ _ e _ j)
 rw[h.mt];exact⟨λ⟨f,g⟩=>⟨(h.rch m ((d m).mpr f)).1,g⟩,λ⟨f,g⟩=>⟨c m f,g⟩⟩
theorem Bk:∀(l r:ae ah),l.Nodup->(∀m∈l,m∈r)->l.length<=r.length:=λg=>g.rec
 (λ_ _ _=>eX _)
 (λx l a r b d=>by rw[nk] at b;have e:=d x aP;have:=a (r.erase x) b.2 λm f=>(V0 (by rintro rfl;exact b.1 f)).mpr (d m (ba _ f));rw[V1 e] at this;have:=Hy e;simp only[cG];(rename_i c;exact aj [_,_,_] 0x10f1918210c0212c19180 aa c (dt (aj [_] 18623382011912 aa this:1<=r.length))))
theorem qI(n)(l:ae ah)(a:l.Nodup)(b:∀m∈l,m<n):l.length<=n:=by simpa using(Bk l (cC n) a λm c=>kS.mpr (b m c))
noncomputable def lO(b8:ae ah):=b8.map λm=>(((m:ah):af),PyData.bool ao)
theorem Wu{b8:ae ah}{m:ah}:((lO b8).lookup (m:af)).isSome=decide (m∈b8):=by
 induction b8 with
 |nil=>rfl
 |cons x r a=>
  unfold lO at a⊢;rw[c9,ez];by_cases e:(m:af)=x
  ·have:=bQ (bD.1 (ay [_,_] 72762862608 aa e)) (bD.1 (ay [_,_] 72747146256 aa e));simp[this]
  ·have h:((m:af)==(x:af))=ax:=by simpa using e
   have b:¬m=x:=λq=>e (bA (λn:ah=>(n:af)) q);rw[h,a];simp[b]
theorem Ww{b8:ae ah}(h:m∉b8):gv (lO b8) (m:af) (.bool ao)=lO (b8++[m]):=by
 unfold gv;rw[aQ]
 ·simp[lO]
 ·simp[lO];intro x a e;exact h ((bQ (bD.1 (ay [_,_] 72762862608 aa e)) (bD.1 (ay [_,_] 72747146256 aa e)):x=m)▸a)
inductive xh(a0 a1:LV)(N:ae Nd)(a:ah)(G:AH):ah->Sg->AH->Prop
 |mk (b8 dn todo met:ae ah) (u5 u6 u7:LV) (f:ah):fX N a [] b8 dn todo met->N.length=dn.length+f->xh a0 a1 N a G f [a0,a1,.o (.itab (lO b8)),.o (.list (cy met)),.o (.list (cy todo.reverse)),u5,u6,u7] G
theorem fX.lens{h b8 f b c:ae ah}(d:fX N a h b8 f b c):f.length+b.length<=N.length/\c.length<=N.length/\b8.length<=N.length:=by have g:=qI _ _ d.nd λm e=>(d.rch m ((d.mem m).mpr (ed.mp e))).2;rw[b7] at g;exact ca g (qI _ _ d.mnd λm e=>(d.rch m ((d.mem m).mpr (.inl ((d.mt m).mp e).1))).2) (qI _ _ d.sn λm e=>(d.rch m e).2)
theorem Bl:cy a++[.int (m:ah)]=cy (a++[m]):=by unfold cy;rw[ck];rfl
theorem xi(h:a.length<=m)(k:m<=1000000):(cy a).length<=1000000:=by unfold cy;rw[aI];exact bn h k
theorem Wx{K:Sg->AH->Prop}(s:N.length<=1000000)(t:N[m]?=ac (.br k l))(w:dy N a m)(x:∀p∈l,p.2<N.length)(q:∀b8 b i,fX N a [] b8 y b o->K [A,B,.o (.itab (lO b8)),C,.o (.list (cy b.reverse)),D,E,i] G):
 ∀(r g:ae (af×ah))(b8 b:ae ah)(i:LV),l=g++r->fX N a [m] b8 y b o->(∀p∈g,p.2∈b8)->
 dj (bK 7) (dP.b HN c Q) ((r.map dp).map V.d) [A,B,.o (.itab (lO b8)),C,.o (.list (cy b.reverse)),D,E,i] G K:=by
 intro r;induction r with
 |nil=>intro g b8 b i e d h;rw[c8] at e;subst e;exact q _ _ _ (d.close t h)
 |cons p r u=>
  intro g b8 b i e d h;have j:p∈l:=by rw[e];exact iY _ aP
  refine bu d.lens λH l2 l3=>?_;have v:l=g++[p]++r:=by rw[e,cs];rfl
  show vB (!((lO b8).lookup ((p.2:ah):af)).isSome) _ _;rw[Wu];refine vB.nd (λn=>?_) λn=>u (g++[p]) b8 b _ v d λz f=>(ed.mp f).elim (h z) λf=>by rw[bZ.mp f];exact n
  have:=u (g++[p]) (b8++[p.2]) (p.2::b) (.v (.d (dp p))) v (d.see n (w.step t j) (x p j)) λz f=>(ed.mp f).elim (λf=>gg _ (h z f)) λf=>by rw[bZ.mp f];exact iY _ aP
  rw[qX,<-Bl,<-Ww n] at this;exact⟨by unfold lO;rw[aI];exact bn l3 s,xi (by rw[sv];exact bn (aX _ _) H) s,this⟩
theorem Wy(X:Gd c (n+1))(S:DB T D G)(g:bW T E N)(j:N.length<=1000000){K:Sg->AH->Prop}(q:∀i C H w x y,i.Nodup->(∀m,m∈i↔dy N a m/\kg N m)->K [.v (.ref D.x),z,C,.o (.list (cy i)),H,w,x,y] (dg D G N M)):
 ∀f s t,xh (.v (.ref D.x)) z N a (dg D G N M) f s t->t8 (ag 4) c s t (wA (xh (.v (.ref D.x)) z N a (dg D G N M)) f HO c K Q):=by
 intro f s t h;cases h with
 |mk b8 I b i w x y _ d u=>
 refine bu d.lens λl l2 l3=>⟨xi (by rw[sv];exact bn (aX _ _) l) j,?_⟩
 rcases b with _|⟨m,b⟩
 ·exact q _ _ _ _ _ _ d.fin.1 d.fin.2
 refine aw (d.rch m ((d.mem m).mpr (.inr aP))) λJ A=>aK (dc A) λdd o=>?_;rw[cG] at l;rw[qX,<-Bl];refine vT GQ ⟨_,_,aa,xi (by rw[sv];exact bn (aX _ _) (uo l)) j,_,_,oS X S,oT (n:=n) X S o j ?_⟩;obtain⟨f,rfl⟩:∃L,f=L+1:=⟨f-1,bQ (aj [_,_] 0x10f9180115c19180 rfl (dt (aj [_,_,_,_] 0x10f21810c099183112c9210 rfl l u:1<=f))) (aj [_,_] 0x10f1918012c19180 rfl (dt (aj [_,_,_,_] 0x10f21810c099183112c9210 rfl l u:1<=f)))⟩
 have r:N.length=(m::I).length+f:=by rw[u,cG];exact bQ (aj [_,_] 76439772802390032 aa) (aj [_,_] 76448047324828032 aa)
 cases dd with
 |leaf v=>exact⟨bE.str (by decide+kernel),bE.str (by decide+kernel),lG aa ⟨_,jT f,.mk _ _ _ _ _ _ _ _ (d.popLeaf o) r⟩⟩
 |br k B=>
  refine⟨bE.int _,bE.str (by decide+kernel),vB.n (λe=>nomatch e) ⟨xi l2 j,?_⟩⟩
  exact Wx j o J (λp U=>kB ((g.br o).ch p U).1 A:∀p∈B,p.2<N.length) (λb8 b W d=>⟨_,jT f,by rw[Bl];exact .mk _ _ _ _ _ _ _ _ d r⟩) B [] b8 b _ aa (d.popBr o) λp h=>nomatch h
theorem HZ(X:Gd c (n+2))(S:DB T D G)(g:bW T E N)(d:a<N.length)(e:N.length<=1000000)(q:∀b,b.Nodup->(∀m,m∈b↔dy N a m/\kg N m)->Q (.d (.list (cy b))) (dg D G N M)):FC c (.ref 187) [.ref D.x,.int (a:ah)] (dg D G N M) Q:=Wb X λc X=>⟨xh (.v (.ref D.x)) (.v (.int (a:ah))) N a (dg D G N M),⟨N.length,.mk [a] [] [a] [] .u .u .u _ (.init d) (dZ _).symm⟩,Wy X S g e λb Y Y Y Y Y f h=>q b f h⟩
def H0:=(az (cE (rJ (bX .In (bT (ag 4) 0) (cw (ag 0) "place")) (bX .Gt (bO (cw (ag 0) "place") (bT (ag 4) 0)) (bO (cw (ag 0) "place") (ag 1)))) (az kK aH) aH) aH)
def Bm:=(az (bS 2 (bT (d6 (ag 1) "split" (ai (bf " ") av)) 0)) (az (bS 3 (nE (bX .In (ag 2) (aT (ai (bf "meta") (ai (bf "ct") av)))) (aT av) (cW (.ref 173) (ai (ag 2) av)))) (az (dP (bK 4) (dk (ag 3)) H0) aH)))
def H1:=(az (dP (bK 1) (dk (cw (ag 0) "names")) Bm) aH)
theorem Wz(X:Gd c (n+1))(h:∀c,Gd c n->H1 c [.v a,.u,.u,.u,.u] G (λY G=>Q .none G) (λY Y=>aC) Q):FC c (.ref 180) [a] G Q:=d7 ⟨180,18,ak,"check_places","siftwall.retext",434⟩ H1 ["space"] [ac "space",ac "name",ac "proto",ac "needs",ac "need"] 4 ax [] [] X.B X.R (λE R=>h _ ⟨X.B,R⟩) (by kernel_rfl) (by kernel_rfl) aa (by kernel_rfl) (nu λY=>by kernel_rfl) (by kernel_rfl)
def H2:=(az (cE (bX .NotIn (ag 0) (aT (ai (bf "accept") (ai (bf "drop") av)))) (az kK aH) aH) (az (cD (aT (ai (ag 0) (ai (bf "") av)))) aH))
theorem WA(X:Gd c (n+1))(h:∀c,Gd c n->H2 c [.v a] G (λY G=>Q .none G) (λY Y=>aC) Q):FC c (.ref 194) [a] G Q:=d7 ⟨194,20,ak,"verdict_of_leaf","siftwall.retext",434⟩ H2 ["value"] [ac "value"] 0 ax [] [] X.B X.R (λE R=>h _ ⟨X.B,R⟩) (by kernel_rfl) (by kernel_rfl) aa (by kernel_rfl) (nu λY=>by kernel_rfl) (by kernel_rfl)
def H3:=(az (bS 2 (d6 (ag 0) "node" (ai (ag 1) av))) (az (cE (bX .Eq (bT (ag 2) 0) (bf "leaf")) (az (cD (cW (.ref 194) (ai (bT (ag 2) 1) av))) aH) aH) (az (cD (aT (ai (bf "goto") (ai (bI .Add (bf "n") (bY qf (ai (ag 1) av))) av)))) aH)))
theorem WB(X:Gd c (n+1))(h:∀c,Gd c n->H3 c [.v a,.v b,.u] G (λY G=>Q .none G) (λY Y=>aC) Q):FC c (.ref 201) [a,b] G Q:=d7 ⟨201,21,ak,"verdict_to","siftwall.retext",434⟩ H3 ["diagrams","number"] [ac "diagrams",ac "number",ac "node"] 1 ax [] [] X.B X.R (λE R=>h _ ⟨X.B,R⟩) (by kernel_rfl) (by kernel_rfl) aa (by kernel_rfl) (jx λY Y=>by kernel_rfl) (by kernel_rfl)
def H4:=(az (cE (bX .NotIn (ag 1) (cw (ag 0) "legal")) (az (cD (im (ai (aT (ai (ag 2) (ai (ag 3) av))) av))) aH) aH) (az (cD (g7 [4] (bK 4) (dk (Gq (bO (cw (ag 0) "legal") (ag 1)) (ag 2) (bI .Add (ag 3) (aO 1)))) (fi (aT (ai (ag 4) (ai (ag 4) av)))))) aH))
theorem WC(X:Gd c (n+1))(h:∀c,Gd c n->H4 c [.v a,.v b,.v d,.v e,.u] G (λY G=>Q .none G) (λY Y=>aC) Q):FC c (.ref 206) [a,b,d,e] G Q:=d7 ⟨206,22,ak,"spans_told","siftwall.retext",434⟩ H4 ["space","name","low","high"] [ac "space",ac "name",ac "low",ac "high",ak] 1 ax [] [("n",4)] X.B X.R (λE R=>h _ ⟨X.B,R⟩) (by kernel_rfl) (by kernel_rfl) aa (by kernel_rfl) (ox λY Y Y Y=>by kernel_rfl) (by kernel_rfl)
def H5:=(az (dR (dO eT 5 (ai (aT (ai (aT (ai (ag 8) av)) (ai (ag 7) (ai (aO 0) (ai (bf "") av))))) av))) aH)
def uI:=(az (bS 7 (cW (.ref 201) (ai (ag 0) (ai (bT (ag 6) 1) av)))) (az (dP (bK 8) (dk (cW (.ref 206) (ai (ag 1) (ai (ag 3) (ai (ag 4) (ai (bT (ag 6) 0) av)))))) H5) (az (bS 4 (bI .Add (bT (ag 6) 0) (aO 1))) aH)))
def H6:=(az (wL 3 4 5 (bO (cw (ag 1) "names") (bT (ag 2) 0)) (aO 0) (eg av)) (az (dP (bK 6) (dk (bT (ag 2) 1)) uI) (az (cD (aT (ai (aT (ai (bf "vmap") (ai (aT (ai (bf "field") (ai (ag 3) av))) (ai (aT (ai (bf "map") (ai (bY nF (ai (ag 5) av)) av))) av)))) av))) aH)))
theorem WD(X:Gd c (n+1))(h:∀c,Gd c n->H6 c [.v a,.v b,.v d,.u,.u,.u,.u,.u,.u] G (λY G=>Q .none G) (λY Y=>aC) Q):FC c (.ref 213) [a,b,d] G Q:=d7 ⟨213,23,ak,"node_rule","siftwall.retext",434⟩ H6 ["diagrams","space","node"] [ac "diagrams",ac "space",ac "node",ac "name",ac "low",ac "elements",ac "part",ac "verdict",ac "span"] 6 ax [] [] X.B X.R (λE R=>h _ ⟨X.B,R⟩) (by kernel_rfl) (by kernel_rfl) aa (by kernel_rfl) (iS λY Y Y=>by kernel_rfl) (by kernel_rfl)
def uJ:=(az (bS 6 (bI .Add (bf "n") (bY qf (ai (ag 5) av)))) (az (cE (bX .In (ag 6) (ag 4)) (az kK aH) aH) (az (ir (ag 4) (ag 6) (im (ai (cW (.ref 213) (ai (ag 0) (ai (ag 1) (ai (d6 (ag 0) "node" (ai (ag 5) av)) av)))) av))) aH)))
def H7:=(az (dR (cW (.ref 180) (ai (ag 1) av))) (az (eu 4 (qo (ag 3) (im (ai (aT (ai (aT (ai (bf "verdict") (ai (cW (.ref 201) (ai (ag 0) (ai (ag 2) av))) av))) av)) av)))) (az (dP (bK 5) (dk (cW (.ref 187) (ai (ag 0) (ai (ag 2) av)))) uJ) (qi 4 (az (cD (ag 4)) aH)))))
theorem WE(X:Gd c (n+1))(h:∀c,Gd c n->H7 c [.v a,.v b,.v d,.v e,.u,.u,.u] G (λY G=>Q .none G) (λY Y=>aC) Q):FC c (.ref 220) [a,b,d,e] G Q:=d7 ⟨220,24,ak,"chains_of_node","siftwall.retext",434⟩ H7 ["diagrams","space","number","base"] [ac "diagrams",ac "space",ac "number",ac "base",ac "chains",ac "one",ac "name"] 3 ao [(200,4,ao)] [] X.B X.R (λE R=>h _ ⟨X.B,R⟩) (by kernel_rfl) (by kernel_rfl) aa (by kernel_rfl) (ox λY Y Y Y=>by kernel_rfl) (by kernel_rfl)
def H8:=(az (Gp 3 4 5 (ai (bO (cw (ag 0) "names") (ag 1)) (ai (bT (ag 2) 0) (ai (bT (ag 2) 1) av)))) (az (cE (rJ (bX .Eq (ag 4) (aO 0)) (bX .Eq (ag 5) (bO (cw (ag 0) "tops") (ag 1)))) (az (cD tV) aH) aH) (az (cE (bX .In (ag 3) (cw (ag 0) "legal")) (az (uf 4 5 (ai (bO (bO (cw (ag 0) "legal") (ag 3)) (ag 4)) (ai (bO (bO (cw (ag 0) "legal") (ag 3)) (ag 5)) av))) aH) aH) (az (bS 6 (nE (bX .Eq (ag 4) (ag 5)) (aT (ai (bf "num") (ai (ag 4) av))) (aT (ai (bf "span") (ai (ag 4) (ai (ag 5) av)))))) (az (cD (aT (ai (bf "match") (ai (aT (ai (bf "field") (ai (ag 3) av))) (ai (bf "==") (ai (ag 6) av)))))) aH)))))
theorem WF(X:Gd c (n+1))(h:∀c,Gd c n->H8 c [.v a,.v b,.v d,.u,.u,.u,.u] G (λY G=>Q .none G) (λY Y=>aC) Q):FC c (.ref 227) [a,b,d] G Q:=d7 ⟨227,25,ak,"way_match","siftwall.retext",434⟩ H8 ["space","variable","span"] [ac "space",ac "variable",ac "span",ac "name",ac "low",ac "high",ac "right"] 4 ax [] [] X.B X.R (λE R=>h _ ⟨X.B,R⟩) (by kernel_rfl) (by kernel_rfl) aa (by kernel_rfl) (iS λY Y Y=>by kernel_rfl) (by kernel_rfl)
def Bn:=(az (bS 9 (cW (.ref 227) (ai (ag 1) (ai (bT (ag 8) 0) (ai (bT (ag 8) 1) av))))) (az (cE (bX .IsNot (ag 9) tV) (az (dR (dO eT 7 (ai (ag 9) av))) aH) aH) aH))
def uK:=(az (eu 7 (eg av)) (az (dP (bK 8) (dk (bT (ag 6) 0)) Bn) (az (dR (dO eT 7 (ai (aT (ai (bf "verdict") (ai (cW (.ref 194) (ai (bT (ag 6) 1) av)) av))) av))) (az (dR (dO eT 5 (ai (bY nF (ai (ag 7) av)) av))) aH))))
def H9:=(az (dR (cW (.ref 180) (ai (ag 1) av))) (az (eu 5 (eg av)) (az (dP (bK 6) (dk (cW (.ref 166) (ai (ag 0) (ai (ag 2) (ai (ag 4) av))))) uK) (gj 5 (az (ue (qo (ag 3) (ag 5))) aH)))))
theorem WG(X:Gd c (n+1))(h:∀c,Gd c n->H9 c [.v a,.v b,.v d,.v e,.v f,.u,.u,.u,.u,.u] G (λY G=>Q .none G) (λY Y=>aC) Q):FC c (.ref 234) [a,b,d,e,f] G Q:=d7 ⟨234,26,ak,"rules_of_ways","siftwall.retext",434⟩ H9 ["diagrams","space","number","base","most"] [ac "diagrams",ac "space",ac "number",ac "base",ac "most",ac "rules",ac "way",ac "statements",ac "asked",ac "statement"] 5 ao [(220,5,ax)] [] X.B X.R (λE R=>h _ ⟨X.B,R⟩) (by kernel_rfl) (by kernel_rfl) aa (by kernel_rfl) (rz λY Y Y Y Y=>by kernel_rfl) (by kernel_rfl)
noncomputable def jc(x:jp)(i:af):aA:=.tuple [.str (aD x),.int i]
def xj:ae (aN×aA):=[(aD "ether",.tuple []),(aD "th",.tuple []),(aD "vlan",.tuple [jc "ether type" 33024]),(aD "arp",.tuple [jc "meta protocol" 2054]),
 (aD "ip",.tuple [jc "meta nfproto" 2]),(aD "ip6",.tuple [jc "meta nfproto" 10]),(aD "tcp",.tuple [jc "meta l4proto" 6]),(aD "udp",.tuple [jc "meta l4proto" 17]),
 (aD "icmp",.tuple [jc "meta nfproto" 2,jc "meta l4proto" 1]),(aD "icmpv6",.tuple [jc "meta nfproto" 10,jc "meta l4proto" 58])]
structure Wd where
 names:ae aN
 tops:ae af
 legal:ae (aN×aA)
noncomputable def W0:Wd:=⟨[aD "meta mark",aD "ct state",aD "th dport"],[4294967295,4,65535],[(aD "ct state",.tuple [.int 1,.int 2,.int 4,.int 8,.int 64])]⟩
noncomputable def W1:Wd:=⟨[aD "ip saddr",aD "th dport"],[4294967295,65535],[]⟩
noncomputable def W2:Wd:=⟨[aD "meta nfproto",aD "ip6 saddr",aD "ip6 hoplimit"],[1,340282366920938463463374607431768211455,255],[(aD "meta nfproto",.tuple [.int 2,.int 10])]⟩
def iD a b:=gY (motive:=λY=>ah->ae (aN×aA)) (λY=>[]) (λx r c i=>(x,.int (i:ah))::(c (i+1))) b a
theorem iD.q1:iD (a) ([])=([]):=aa
theorem iD.q2:iD (i) (x::r)=((x,.int (i:ah))::iD (i+1) r):=aa
structure nQ where
 x:aZ
 dx:aZ
 al:aZ
 ap:aZ
def SS(W:Wd)(Z:nQ)(G:AH):=
 G Z.x=ac (.inst 251 Z.dx)/\
 G Z.dx=ac (.attrs (A1 (.ref Z.ap) (.ref Z.al) (.d (.tuple (W.tops.map .int))) (.d (.tuple (W.names.map .str)))))/\
 G Z.al=ac (.stab W.legal)/\
 G Z.ap=ac (.stab (iD 0 W.names))
def SS.x(a:SS W Z G):=a.1
def SS.d(a:SS W Z G):=a.2.1
def SS.l(a:SS W Z G):=a.2.2.1
def SS.p(a:SS W Z G):=a.2.2.2
theorem SS.upto{W Z}(X:SS W Z G)(u:lB S G a)(h:Z.x∉S/\Z.dx∉S/\Z.al∉S/\Z.ap∉S):SS W Z a:=⟨u _ _ h.1 X.x,u _ _ h.2.1 X.d,u _ _ h.2.2.1 X.l,u _ _ h.2.2.2 X.p⟩
noncomputable def uL:=aD " "
def sp x:=pW x (mi x uL 0 x.length (x.length+1)) uL.length
def Ia(W:Wd)a(jc:aA):=∃s i,jc=.tuple [.str s,i]/\((iD 0 W.names).lookup s=ak\/∃j k,(iD 0 W.names).lookup s=ac (.int j)/\(iD 0 W.names).lookup a=ac (.int k)/\j<=k)
def nR W b a c:=
 (decide (b.length<uL.length)||decide (tL b<tL uL))=ax/\
 (mi b uL 0 b.length (b.length+1)).isEmpty=ax/\
 b.length<=1000/\
 (sp b).length<=1000/\
 (sp b)[0]?=ac a/\
 gT a=ao/\
 ((a=aD "meta"\/a=aD "ct")/\c=[]\/(a≠aD "meta"/\a≠aD "ct")/\xj.lookup a=ac (.tuple c))/\
 ∀d∈c,Ia W b d
def nR.c1(b:nR W c a d):=b.1
def nR.c2(b:nR W c a d):=b.2.1
def nR.c3(b:nR W c a d):=b.2.2.1
def nR.c4(b:nR W c a d):=b.2.2.2.1
def nR.pr(b:nR W c a d):=b.2.2.2.2.1
def nR.fit(b:nR W c a d):=b.2.2.2.2.2.1
def nR.ok(b:nR W c a d):=b.2.2.2.2.2.2.1
def nR.need(b:nR W c a d):=b.2.2.2.2.2.2.2
def uM W:=∀b∈W.names,∃a c,nR W b a c
theorem WH:uM W0:=by
 intro b h;simp only[W0,bj,iV,mK] at h;refine aB h ?_ ?_;rotate_left;intro a;refine aB a ?_ ?_<;>clear a<;>rintro rfl;rotate_right;rintro rfl
 ·exact lj (aD "meta") [] ⟨by decide+kernel,by decide+kernel,by decide+kernel,by decide+kernel,by decide+kernel,by decide+kernel,.inl ⟨.inl aa,aa⟩,by simp⟩
 ·exact lj (aD "ct") [] ⟨by decide+kernel,by decide+kernel,by decide+kernel,by decide+kernel,by decide+kernel,by decide+kernel,.inl ⟨.inr aa,aa⟩,by simp⟩
 ·exact lj (aD "th") [] ⟨by decide+kernel,by decide+kernel,by decide+kernel,by decide+kernel,by decide+kernel,by decide+kernel,.inr ⟨by decide+kernel,aa⟩,by simp⟩
theorem WI:uM W1:=by
 intro b h;simp only[W1,bj,iV,mK] at h;refine aB h ?_ ?_<;>rintro rfl
 ·exact lj (aD "ip") [jc "meta nfproto" 2] ⟨by decide+kernel,by decide+kernel,by decide+kernel,by decide+kernel,by decide+kernel,by decide+kernel,.inr ⟨by decide+kernel,aa⟩,by intro d a;simp at a;subst a;exact⟨_,_,aa,.inl aa⟩⟩
 ·exact lj (aD "th") [] ⟨by decide+kernel,by decide+kernel,by decide+kernel,by decide+kernel,by decide+kernel,by decide+kernel,.inr ⟨by decide+kernel,aa⟩,by simp⟩
theorem WJ:uM W2:=by
 intro c h;simp only[W2,bj,iV,mK] at h;refine aB h ?_ ?_;rotate_left;intro a;refine aB a ?_ ?_<;>clear a<;>rintro rfl;rotate_right;rintro rfl
 ·exact lj (aD "meta") [] ⟨by decide+kernel,by decide+kernel,by decide+kernel,by decide+kernel,by decide+kernel,by decide+kernel,.inl ⟨.inl aa,aa⟩,by simp⟩
 ·exact lj (aD "ip6") [jc "meta nfproto" 10] ⟨by decide+kernel,by decide+kernel,by decide+kernel,by decide+kernel,by decide+kernel,by decide+kernel,.inr ⟨by decide+kernel,aa⟩,by intro d b;simp at b;subst b;exact⟨_,_,aa,.inr ⟨0,1,aa,aa,bl _⟩⟩⟩
 ·exact lj (aD "ip6") [jc "meta nfproto" 10] ⟨by decide+kernel,by decide+kernel,by decide+kernel,by decide+kernel,by decide+kernel,by decide+kernel,.inr ⟨by decide+kernel,aa⟩,by intro d b;simp at b;subst b;exact⟨_,_,aa,.inr ⟨0,2,aa,aa,bl _⟩⟩⟩
theorem WK:∀(b)(i),(iD i b).length=b.length:=λc=>c.rec
 (λY=>rfl)
 (λx r a i=>by simp[iD.q2,a])
noncomputable def uN(v:aA):aA:=.tuple [v,.str (aD "")]
def eC(v:aA):=v=.str (aD "accept")\/v=.str (aD "drop")
theorem eC.fit(h:eC v):bE 60 v:=by refine aB h ?_ ?_<;>clear h<;>rintro rfl<;>exact bE.str (by decide+kernel)
def cU(N:ae Nd)(i:ah):=match N[i]? with
 |some (.leaf v)=>uN v
 |_=>.tuple [.str (aD "goto"),.str (ff i)]
def ki(N:ae Nd)(i:ah):=∀v,N[i]?=ac (.leaf v)->eC v
noncomputable def qJ(a b:af):aA:=.tuple [.int a,.int b]
def iE(W:Wd)(b:aN)(lo a:af):ae aA:=match W.legal.lookup b with
 |some (.tuple c)=>((c.drop lo.toNat).take ((a+1).toNat-lo.toNat)).map λx=>.tuple [x,x]
 |_=>[qJ lo a]
theorem uO:∀{d:ae (af×ah)}{a b:af},eh a d->eZ a d=b->a<=b/\∀p∈d,a<p.1/\p.1<=b:=by
 intro j;induction j with
 |nil=>exact@λa b _ h=>⟨by simp only[eZ.q1] at h;exact ay [_,_] 72762862608 aa h,λp c=>by cases c⟩
 |cons q r f=>
  exact@λa b h e=>by
   refine aw (f (a:=q.1) h.2 e) λi k=>?_;have:=h.1;refine aF (ay [_,_,_] 76299586135723024 aa this i) λp c=>aB (bj.mp c) ?_ (λc=>?_);rintro rfl
   ·exact aF this i
   ·have:=k p c;exact aF (by(rename_i g _;exact ay [_,_,_] 80803185763097616 aa g this.1)) this.2
def qK(T:ae af)(e:ah×af×af):=∃a,T[e.1]?=ac a/\0<=e.2.1/\e.2.1<=e.2.2/\e.2.2<=a/\¬(e.2.1=0/\e.2.2=a)
theorem Ib(k)(f):∀(i:ae (af×ah))(a:af)(w:ek×aA),w∈wl k f a i->∃b p r q lo,i=b++p::r/\q∈f p.2/\w=((k,lo,p.1)::q.1,q.2)/\(b=[]->lo=a)/\(∀z,b.getLast?=ac z->lo=z.1+1):=λj=>j.rec
 (λa w h=>by simp[wl.q1] at h)
 (λp r d a w h=>by
 rw[wl.q2] at h;refine aB (ed.mp h) (λh=>?_) (λh=>?_)
 ·refine au (bV.mp h) ?_;rintro q g rfl;exact Ck [] p r q a aa g aa (λY=>rfl) λz h=>by trivial
 ·refine xQ (d _ w h) λb l m q lo e g n o s=>Ck (p::b) l m q lo (by rw[e];rfl) g n (λh=>by trivial) λz c=>?_;cases b with
  |nil=>simp at c;subst c;exact o aa
  |cons y b=>rw[WL] at c;exact s z c)
theorem Ic:∀{b:ae (af×ah)}{p:af×ah}{r:ae (af×ah)}{a:af},eh a (b++p::r)->(b=[]->a<p.1)/\(∀z,b.getLast?=ac z->a<z.1/\z.1<p.1):=by
 intro i;induction i with
 |nil=>exact@λp r a h=>⟨λY=>h.1,λz c=>by trivial⟩
 |cons y b d=>
  exact@λp r a h=>by
   refine aw h λf j=>?_;have g:=d (p:=p) (r:=r) (a:=y.1) j;refine aF (λe=>(by cases e)) λz c=>?_;cases b with
   |nil=>simp at c;subst c;exact aF f (g.1 aa)
   |cons k b=>rw[WL] at c;have:=g.2 z c;exact aF (ay [_,_,_] 80803185763097616 aa f this.1) this.2
theorem nS(g:bW T E N):∀(n),n<N.length->∀w∈b9 N n,(∀e∈w.1,qK T e)/\w.1.length+bt T N n<=T.length/\∃m,dy N n m/\N[m]?=ac (.leaf w.2):=by
 intro n;induction n using mF with
 |_ n M=>
  intro C w d
  have e:=cr C
  cases D:N[n] with
  |leaf v=>rw[D] at e;rw[mI e] at d;simp at d;subst d;refine ca (by simp) (by unfold bt;rw[e];simp[lv]) ⟨n,.here,e⟩
  |br k o=>
   rw[D] at e;rw[mJ g e] at d;refine xQ (Ib k _ o 0 w d) ?_;rintro i p r q lo b Q rfl G s;have t:=g.br e;refine cP t.top λu f j U Y=>?_;have x:p∈o:=by rw[b];simp
   refine aw (t.ch p x) λH W=>bu (M p.2 H (aj [_,_,_] 80803185763097616 aa H C) q Q) λi1 i2 c=>au c λm i3 i4=>?_;have h:=(uO j U).2;have l:=Ic (b▸j);refine ca (λz A=>?_) ?_ ⟨m,dy.trans (dy.here.step e x) i3,i4⟩
   ·refine aB (bj.mp A) ?_ (λA=>?_);rintro rfl
    ·refine⟨u,f,?_,?_,(h p x).2,?_⟩
     ·cases a:i.getLast? with
      |none=>rw[G (Bo.mp a)];exact fB _
      |some z=>rw[s z a];have:=(l.2 z a).1;simp only;exact ay [_] 0x10f91800811c0a1808 aa this
     ·cases a:i.getLast? with
      |none=>have I:=Bo.mp a;rw[G I];have:=l.1 I;simp only;exact ay [_] 76280273209792520 aa this
      |some z=>rw[s z a];have:=(l.2 z a).2;simp only;exact ay [_,_] 298075428035600 aa this
     ·intro c;refine aw c λJ L=>?_;simp only at J L;have a:i=[]:=by
       cases a:i.getLast? with
       |none=>exact Bo.mp a
       |some z=>exact bv ((s z a).symm.trans J) (Int.ne_of_gt (Int.add_lt_add_right (l.2 z a).1 1))
      have B:r=[]:=by
       cases r with
       |nil=>rfl
       |cons y r=>exfalso;have h3:=(h y (by rw[b];simp:y∈o)).2;rw[b,a] at j;exact ay [_,_,_] 0x16f080811c0215c1210c10 aa j.2.1 L h3
      have:=t.two;rw[b,a,B] at this;exact jM _ ‹_›
    ·exact i1 z A
   ·rw[mG e,cG];exact aj [_,_,_,_] 0x10f390918210c391211c10 aa i2 W
noncomputable def pf a:=rO (motive:=λY=>ah) (1) (λj b=>1+8*b) a
theorem pf.q1:pf (0)=(1):=aa
theorem pf.q2:pf (j+1)=(1+8*pf j):=aa
theorem Bp(f)(c):∀(l:ae g),(∀x∈l,f x<=c)->(l.map f).sum<=l.length*c:=λd=>d.rec
 (λ_=>eX _)
 (λx l a h=>by have:=a λy e=>h y (ba _ e);have:=h x aP;rw[c9,nL,cG,xk];(rename_i b;exact aj [_,_,_,_] 0x10f91b3190210c3210c10 aa this b))
theorem Ie(k)(f):∀(c:ae (af×ah))(a:af),(wl k f a c).length=(c.map λp=>(f p.2).length).sum:=λd=>d.rec
 (λY=>rfl)
 (λp r b a=>by rw[wl.q2,b7,aI,b,c9,nL])
theorem Bq(o:∀k,(E k).length<=7)(g:bW T E N):∀(n),n<N.length->∀j,T.length<=bt T N n+j->sz N n<=pf j/\(b9 N n).length<=8^j:=by
 intro n;induction n using mF with
 |_ n q=>
  intro h j c
  have e:=cr h
  cases i:N[n] with
  |leaf v=>rw[i] at e;rw[HS e,mI e];exact aF ((by cases j<;>simp[pf.q1,pf.q2])) (sw (by simp))
  |br k d=>
   rw[i] at e
   have hk:=g.lvl_lt e
   rw[mG e] at c
   cases j with
   |zero=>exact aF (aj [_,_] 0x16f080811c0110c90810 aa hk c:aC).elim (aj [_,_] 0x16f080811c0110c90810 aa hk c:aC).elim
   |succ j=>
    have l:=(by refine cP (g.br e).top λs _ r _ t=>?_;have:=sk (uF.mp r) t;have:=o k;(rename_i f;exact aj [_,_] 0x10f88110c9180110c780 aa f this):d.length<=8)
    have a:=λp b=>by refine aw ((g.br e).ch p b) λm u=>q p.2 m (aj [_,_,_] 80803185763097616 aa m h) j (aj [_,_,_,_] 0x10f931210c991830211c10 aa c u)
    rw[HT g e,mJ g e,Ie];refine aF ?_ ?_
    ·have:=kQ (pf j) l;simp only[pf.q2];exact aj [_,_,_] 0x10f98b118921810c0210c8b10 aa (Bp (λp:af×ah=>sz N p.2) (pf j) d λp b=>(a p b).1) this
    ·have:=kQ (8^j) l;rw[sx];exact aj [_,_,_,_] 0x10f0310c2310c8b1215c8b10 aa (Bp (λp:af×ah=>(b9 N p.2).length) (8^j) d λp b=>(a p b).2) this (pi (8^j) (8))
def sy(W:Wd):=∀(k:ah)(b)(a),W.names[k]?=ac b->W.tops[k]?=ac a->W.legal.lookup b=ak\/∃c,W.legal.lookup b=ac (.tuple c)/\(c.length:af)=a+1/\c.length<=1000
noncomputable def nT(b a:aA):aA:=.tuple [.tuple [a],b,.int 0,.str (aD "")]
def fx W b(c:ah->aA)d(e:ae (af×ah)):=gY (motive:=λY=>af->ae aA) (λY=>[]) (λp r f a=>(iE W b a p.1).map (nT (c p.2))++(f (p.1+1))) e d
theorem fx.q1:fx W a b (c) ([])=([]):=aa
theorem fx.q2:fx W b c (a) (p::r)=((iE W b a p.1).map (nT (c p.2))++fx W b c (p.1+1) r):=aa
noncomputable def qL(b:aN)(a:ae aA):aA:=.tuple [.tuple [.str (aD "vmap"),.tuple [.str (aD "field"),.str b],.tuple [.str (aD "map"),.tuple a]]]
theorem WM{lo b:af}(h:W.legal.lookup d=ak\/∃a,W.legal.lookup d=ac (.tuple a)/\b<a.length/\a.length<=1000):(iE W d lo b).length<=1000:=by
 unfold iE;refine aB h ?_ ?_<;>clear h;rotate_left;intro c;refine aL c λa e Y h=>?_;rotate_right;intro e
 ·rw[e];exact aX _ _
 ·rw[e];simp;exact aj [_,_,_] 0x10f88ee3e210c1210c0110c88ee3e0 aa (Ej ((b+1).toNat-lo.toNat) (a.length-lo.toNat)) (ow (a.length) (lo.toNat)) h
theorem Br:∀(b:ae (af×ah))(a:af),(∀p∈b,W.legal.lookup e=ak\/∃c,W.legal.lookup e=ac (.tuple c)/\p.1<c.length/\c.length<=1000)->(fx W e to a b).length<=b.length*1000:=by
 intro f;induction f with
 |nil=>exact@λY Y=>fR _ _
 |cons p r d=>exact@λa h=>by rw[fx.q2,b7,aI,cG];exact aj [_,_,_,_,_] 0x10f093410c88ee3e410c2312c8bee3e1215c8bee3e91810 aa (WM (lo:=a) (h p aP)) (d (p.1+1) λq g=>h q (ba _ g)) (pi (r.length) (1000)) (pi (r.length+1) (1000))
def kT(W:Wd)(N:ae Nd)(m:ah):=match N[m]? with
 |some (.br k a)=>qL (W.names.getD k (aD "")) (fx W (W.names.getD k (aD "")) (cU N) 0 a)
 |_=>.none
def cK(W:Wd)(N:ae Nd)(a:ae ah):ae (aN×aA):=a.map λm=>(ff m,.list [kT W N m])
noncomputable def kU(v:aA):aA:=.list [.tuple [.tuple [.str (aD "verdict"),v]]]
theorem Ig:∀{a},m∉a->(cK W N a).lookup (ff m)=ak:=by
 intro c;induction c with
 |nil=>exact@λY=>rfl
 |cons x r b=>
  exact@λh=>by
   unfold cK;rw[c9,ez];have e:(ff m==ff x)=ax:=by rw[pQ];intro e;exact h (by rw[zG e];exact aP)
   rw[e];exact b λd=>h (ba _ d)
theorem Bs(c:∀i,ff i≠a)(h:m∉b):((a,v)::cK W N b).lookup (ff m)=ak:=by rw[ez,pQ.mpr (c m)];exact Ig h
theorem xl{k:aN}(h:a.lookup k=ak):gv a k v=a++[(k,v)]:=by unfold gv;rw[aQ];intro b;refine au (yq.mp b) λp c e=>?_;rw[List.lookup_eq_none_iff] at h;have:=h p c;rw[(aW e:p.1=k)] at this;simp at this
def fj W:=
 uM W/\
 sy W/\
 W.names.length=W.tops.length/\
 W.names.length<=1000
def fj.ok(a:fj W):=a.1
def fj.leg(a:fj W):=a.2.1
def fj.len(a:fj W):=a.2.2.1
def fj.le(a:fj W):=a.2.2.2
theorem Ih{T E N}(b:∀k,(E k).length<=7)(g:bW T E N){i k:ah}(c:N[i]?=ac (.br k d)):d.length<=8:=by refine cP (g.br c).top λe _ r _ f=>?_;have:=sk (uF.mp r) f;have:=b k;(rename_i a;exact aj [_,_] 0x10f88110c9180110c780 aa a this)
def hF(W:Wd):=∀(b)(a),W.legal.lookup b=ac (.tuple a)->∀x∈a,bE 50 x
noncomputable def hK(W:Wd)a(i:af):=match W.legal.lookup a with
 |some (.tuple b)=>b.getD i.toNat .none
 |_=>.int i
def xo(a b:aA):aA:=@ite _ (a=b) (s7 _) (.tuple [.str (aD "num"),a]) (.tuple [.str (aD "span"),a,b])
def mL(W:Wd)(a:aN)(lo b:af):aA:=.tuple [.str (aD "match"),.tuple [.str (aD "field"),.str a],.str (aD "=="),xo (hK W a lo) (hK W a b)]
def nU W(e:ah×af×af):=mL W (W.names.getD e.1 (aD "")) e.2.1 e.2.2
def kW(W:Wd)(w:ek×aA):aA:=.tuple (w.1.map (nU W)++[.tuple [.str (aD "verdict"),uN w.2]])
noncomputable def LV.nO:LV->bP
 |.o _=>ax
 |_=>ao
def Bt(A:cq)L:=∀l,A.frames=ac l->∃e o,l=e::o/\e.scope.kind≠.module/\e.frame=ac L
def qM(G b:AH):=∀a o,G a=ac (.fr o)->b a=ac (.fr o)
def FW c f vs G(R:V->Prop):=∀a L o,dv G ((L,O.fr o)::a)->Bt c L->fe c f vs (bH G ((L,O.fr o)::a)) λv b=>qM (bH G ((L,O.fr o)::a)) b/\R v
def WN k f c(N:Sg->AH->Prop)ws a G:=j0 ws λvs=>vB (a.all LV.nO) (cF c f vs G λv G=>wS a k (.v v) λa=>N a G) aC
def uP(k:ah)(f:aV)(t:TL):TS:=λc a G N Y Y=>t c a G (WN k f c N)
def WO f c R ws(a:Sg)G:=j0 ws λvs=>cF c f vs G R
def Ii(f:aV)(t:TL):TS:=λc a G Y Y R=>t c a G (WO f c R)
def Bu f c(R:V->AH->Prop)ws(b:Sg)G:=j0 ws λvs=>FW c f vs G λv=>∀a,qM G a->R v a
def Bv(f:aV)(t:TL):TS:=λc a G Y Y R=>t c a G (Bu f c R)
def oB:Wv->(bP->Prop)->Prop
 |.v (.d (.bool b)),k=>k b
 |_,_=>aC
def WP f(t:TL)c R w a G:=oB w λb=>vB b (R (.bool ao) G) (t c a G (Bu f c R))
def xp(a:TE)(f:aV)(t:TL):TS:=λc b G Y Y R=>a c b G (WP f t c R)
theorem oB.o(h:oB w k)(i:fS r w v):∃b,v=.bool b/\k b:=by
 cases w with
 |s _=>exact h.elim
 |v x=>cases x with
  |d d=>cases d with
   |bool b=>exact bi b i h
   |_=>exact h.elim
  |_=>exact h.elim
theorem Bw(k:fe A f vs G Q)(q:∀v G,Q v G->c v G):fe A f vs G c:=λa s d S i=>by
 refine oh (k a s d S i) λr m p=>?_;rcases r with e|(_|_|_|v)
 case ok.ret=>refine p _ λg b h x e j l i p=>(.mk g b h x e j l i (q _ _ p))
 all_goals exact p.elim
theorem Ij(l:j6 d G)(k:cF A f vs d Q):cF A f vs G Q:=λa s h S i=>by refine aM (k a s h (S.less l) (i.mono' λi=>l.is i)) λv t q=>q _ λj c m x e p r i q=>(.mk j c m x e p (λb o e g n=>r b o e (l.no g) n) i q)
theorem Ik(h:(ab r).all LV.nO=ao):et r=[]:=by
 induction r with
 |nil=>rfl
 |cons x r a=>
  have h:=eV.mp (show(LV.nO x.ab&&(ab r).all LV.nO)=ao from h)
  cases x with
  |o j o=>exact bv h.1 pH
  |u=>exact a h.2
  |v _=>exact a h.2
theorem WQ{X:bR S}(hk:S.nm[k]?=ac (ac n))(w:gu S.names n=ao)(z:gf (.Call (.Name x D) (e::c) [] b) (ac (.Name n p)) g.line X.env=bg ax)
 (E:S.names.lookup x=ac .globalImplicit)(H:eW df eM x=ac (ac u))(i:em df u=ao)(I:(x==("__debug__":aN))=ax)(J:bM (e::c) X.env=(ax,bN e X.env)::bM c X.env)(d:(dY b (bM c X.env)).any (·.1)=ax)(L:kI X t (e::c)):
 qa X [] (uP k u t) (.Assign [.Name n p] (.Call (.Name x D) (e::c) [] b) g):=λr Z G Y N C R Re h=>by
 refine vN X.O (X.bd n w) (vC X.hB X.O (pR.k X.k E) H i (iX L Re h (λvs m M o j ws s Q T h=>?_) aa) I J d) z;have h:=j0.o h T;cases f:(ab m).all LV.nO with
 |false=>rw[f] at h;exact h.elim
 |true=>
  rw[f] at h;refine p0 (Ij (λa=>by rw[s.e,c8];exact wo M [] o s.f a|>.imp (λe=>by rw[c8] at e;exact e) id:j6 o j) h) λv l q=>?_;have U:Internal.Re m [] [] l l:=⟨aa,trivial,λp d=>(by rw[Ik f] at d;cases d),by rw[Ik f];exact t7⟩
  refine dz (wS.o (y:=.v v) q) ?_;rintro A x B rfl W q;exact(.mk _ ([]) l (U.val aa) (by rw[<-b5 Q];exact lF X.nd (by rw[W];exact hk) aa) q)
theorem Il{X:bR S}(w:S.names.lookup x=ac .globalImplicit)(y:eW df eM x=ac (ac u))(f:em df u=ao)(A:(x==("__debug__":aN))=ax)
 (B:bM (e::d) X.env=(ax,bN e X.env)::bM d X.env)(C:(dY g (bM d X.env)).any (·.1)=ax)(i:S.lv=ao)(D:oJ X.c X.env)(E:kI X t (e::d))(Re:Re r Z [] G H)(h:t X.c (ab r) G (Bu u X.c R))(I:lo S.nm r=l):
 tO X.c X.env X.own (.Call (.Name x N) (e::d) [] g) (bo l) H (KT [] R):=
 OS X.hB X.O (pR.k X.k w) y f (iX E Re h (λvs Q j m b ws c T J h=>λo Y p=>by
  have h:=j0.o h J;have h:=h (j++[]) X.env.locals o (⟨by rw[<-c.e];exact p,c.f⟩:dv m ((X.env.locals,.fr o)::(j++[]))) λl L=>by refine aK (D l L) ?_;rintro q rfl;exact qT _ q aa (by rw[X.O.kind];exact aW aa) (X.ei i).1.frame
  rw[show bH m ((X.env.locals,.fr o)::(j++[]))=aE b X.env.locals (.fr o) by rw[c.e];rfl] at h;refine Bw h λv M q=>⟨q.1 _ _ (bG ..),.mk [] (cL M X.env.locals) aa trivial (q.2 _ λa s e=>?_)⟩
  have k:b a=ac (.fr s):=by rw[c.e];exact c.f.get e
  have n:a≠X.env.locals:=λz=>by rw[z,p] at k;cases k
  exact(ku n).trans (q.1 a s ((aU n).trans k))) I) A B C
theorem WR{X:bR S}(l:dE X a b)(m:S.names.lookup x=ac .globalImplicit)(n:eW df eM x=ac (ac u))(d:em df u=ao)(o:(x==("__debug__":aN))=ax)
 (p:bM (e::c) X.env=(ax,bN e X.env)::bM c X.env)(q:(dY f (bM c X.env)).any (·.1)=ax)(g:S.lv=ao)(s:oJ X.c X.env)(y:kI X t (e::c)):qa X [] (xp a u t) (.Return (ac (.BoolOp .Or [b,.Call (.Name x I) (e::c) [] f] A)) k):=λr Z G J N C R Re h=>
 EE (OR (ci l Re h (λv L B D E w j H i h=>by
  refine au (oB.o h i) ?_;rintro z rfl h;refine tl ⟨λe=>?_,λe=>?_⟩
  ·subst e;exact(.mk B D j.e j.f h)
  ·subst e;exact Il m n d o p q g s y j h (b5 H)) aa))
section
variable{S:dM}(p:qn S)(ds:bP)
abbrev mM(st):=bB {t:TS//∀X:bR S,oJ X.c X.env->qa X [] t st}
def WS(n x)(q d)(b)(c a):mM (S:=S) (.Assign [.Name n q] (.Call (.Name x d) b [] a) c):=match b with
 |e::b=>aJ (gu S.names n) λf=>aJ (S.names.lookup x==ac .globalImplicit) λg=>aJ ((x==("__debug__":aN))==ax) λh=>aJ (eN e) λi=>aJ (b.all eN) λj=>(eB S.nm n).bind λk=>(p.L (e::b)).bind λt=>match l:eW df eM x with
  |some (ac u)=>aJ (em df u) λhk=>ac ⟨uP k.1 u t.1,λX Y=>WQ k.2 f (my aa) (bC g) (l) (hk) (bC h) (fh i) (j8 j a) (t.2 X)⟩
  |_=>ak
 |[]=>ak
def Im(x:aN)(j:cT)(f:ae Expr)(d:cT):bB {t:aV×TL//∀X:bR S,oJ X.c X.env->∀c,qa X [] (Bv t.1 t.2) (.Return (ac (.Call (.Name x j) f [] d)) c)/\∀a b g,dE X a b->qa X [] (xp a t.1 t.2) (.Return (ac (.BoolOp .Or [b,.Call (.Name x j) f [] d] g)) c)}:=match f with
 |e::f=>aJ S.lv λi=>aJ (S.names.lookup x==ac .globalImplicit) λk=>aJ ((x==("__debug__":aN))==ax) λl=>aJ (eN e) λm=>aJ (f.all eN) λn=>(p.L (e::f)).bind λt=>match o:eW df eM x with
  |some (ac u)=>aJ (em df u) λhk=>ac ⟨(u,t.1),λX q c=>⟨(λr Z G v N C R Re h=>EE (Il (bC k) (o) (hk) (bC l) (fh m) (j8 n d) i q (t.2 X) Re h aa)),λa b g s=>WR s (bC k) (o) (hk) (bC l) (fh m) (j8 n d) i q (t.2 X)⟩⟩
  |_=>ak
 |[]=>ak
def uQ{C:Expr->Type}(e)(f:∀x b a q,C (.Call (.Name x b) a [] q))d:=rR e (λg a q=>fg (C:=λg=>C (.Call g a [] q)) g (λx b=>f x b a q) λY=>d _) d
def WT(e)(c):=
 uQ (C:=λe=>mM (S:=S) (.Return (ac e) c)) e (λx w b q=>match b with
  |e::b=>aJ (S.names.lookup x==ac .globalImplicit) λi=>aJ ((x==("__debug__":aN))==ax) λj=>aJ (eN e) λk=>aJ (b.all eN) λl=>(p.L (e::b)).bind λt=>match m:eW df eM x with
   |some (ac u)=>aJ (em df u) λhk=>ac ⟨Ii u t.1,λX Y=>(λr Z G y N C R Re h=>vP (vC X.hB X.O (pR.k X.k (bC i)) (m) (hk) (iX (t.2 X) Re h (λvs z n f d ws g A o h=>by exact p0 (Ij (λa=>by rw[g.e,c8];exact wo n [] f g.f a|>.imp (λe=>by rw[c8] at e;exact e) id:j6 f d) (j0.o h o)) λv s q=>(.mk ([]) s aa trivial q)) aa) (bC j) (fh k) (j8 l q)))⟩
   |_=>ak
  |[]=>ak) λY=>ak
def WU(e)(c):=
 uQ (C:=λe=>mM (S:=S) (.Return (ac e) c)) e (λx f d q=>(Im p x f d q).map λt=>⟨Bv t.1.1 t.1.2,λX g=>(t.2 X g c).1⟩)
 λe=>F9 (C:=λe=>mM (S:=S) (.Return (ac e) c)) e (λh d q=>match h with
  |.Or=>mx (C:=λd=>mM (S:=S) (.Return (ac (.BoolOp .Or d q)) c)) d (λb m=>uQ (C:=λm=>mM (S:=S) (.Return (ac (.BoolOp .Or [b,m] q)) c)) m (λx f d r=>(p.E b).bind λa=>(Im p x f d r).map λt=>⟨xp a.1 t.1.1 t.1.2,λX g=>(t.2 X g c).2 _ _ _ (a.2 X)⟩) λY=>ak) λY=>ak
  |_=>ak) λY=>ak
def WV(d:ae ah)(st):=
 wN (C:=λst=>mM (S:=S) st) st (λY=>ak) (λb e a=>match d.contains a.line with
  |true=>iw (C:=λb=>mM (S:=S) (.Assign b e a)) b (λc=>fg (C:=λc=>mM (S:=S) (.Assign [c] e a)) c (λn q=>uQ (C:=λe=>mM (S:=S) (.Assign [.Name n q] e a)) e (λx f g h=>WS p n x q f g a h) λY=>ak) λY=>ak) λY=>ak
  |false=>ak) (λY Y Y Y=>ak) (λY Y=>ak) (λe a=>match e with
  |some e=>(match d.contains a.line with
   |true=>WT p e a
   |false=>WU p e a)
  |none=>ak) (λY Y Y Y=>ak) (λY Y Y Y Y=>ak) (λY Y Y Y=>ak) (λY=>ak) (λY Y Y=>ak)
def Io(g:Gh)(c:ae ah)(n:ah):(b:ae fb)->AF (S:=S) b:=n.rec (λY=>ak)
 λn R b=>b.casesOn (ac ⟨aH,λX Y=>FD⟩) λst r=>Uf g st.pos.line (((WV p c st).or ((AQ p ds (uu p ds g n) st).map λs=>⟨s.1,λX Y=>s.2 X []⟩)).bind λs=>(R r).map λt=>⟨az s.1 t.1,λX a=>FE (s.2 X a) (t.2 X a)⟩)
end
theorem uR{c:cq}{n:ah}(r:jL)(t:TS)(a:ae aN)(j:ae (bB aN))(k:ah)(l:bP)(g:Gh)(E:ae ah)(o:ae (aN×ah))(H:cn df Bh)(J:cA c (n+1)){b:ae V}{G:AH}{p:V->AH->Prop}
 (h:∀i,cA (c.deeper i) n->t (c.deeper i) (b.map .v++dX k .u) G (λY I=>p .none I) (λY Y=>aC) p)
 (L:df.lookup r.a=ac (fo r))(M:(m8.any λq=>eQ (r.a-1)==.ref (q.a-1)&&aD r.q==.ofString q.q)=ao)(s:a.length=b.length)(d:r.ok a j=ao)
 (f:∀u:ae aV,u.length=a.length->oo r.fn ⟨u,[]⟩=bg (a.zip u))
 (m:(Io (S:=⟨j,r.sc.names,ao,o⟩) (cM l 30) l g E 60 r.body).map (·.1)=ac t):fe c (.ref r.a) b G p:=by
 unfold jL.ok at d;simp only[fD,sU,jq] at d;refine aw d λw=>aw w λy=>aw y λz=>aw z λA=>aw A λB=>aw B λC=>aw C λD=>aw D λN Q=>?_;intro T U W h6 h7 h8 h9;cases e:Io (S:=⟨j,r.sc.names,ao,o⟩) (cM l 30) l g E 60 r.body with
 |none=>rw[e] at m;cases m
 |some x=>rw[e] at m;cases m;exact Bw (FO (φ:=[]) x.1 ⟨j,r.sc.names,ao,o⟩ a k H J trivial h (λX tp=>x.2 X tp) aa (L.trans (bA ac (AR N))) (tc H M) s h8 f (AS h9) W h6 h7 Q T U) λv I q=>by refine aL q ?_;rintro G2 rfl Y q;exact q
def Ip:=(az (eu 1 (Aw (lH (bf "ether") (aT av) (lH (bf "th") (aT av) (lH (bf "vlan") (aT (ai (aT (ai (bf "ether type") (ai (aO 33024) av))) av)) (lH (bf "arp") (aT (ai (aT (ai (bf "meta protocol") (ai (aO 2054) av))) av)) (lH (bf "ip") (aT (ai (aT (ai (bf "meta nfproto") (ai (aO 2) av))) av)) (lH (bf "ip6") (aT (ai (aT (ai (bf "meta nfproto") (ai (aO 10) av))) av)) (lH (bf "tcp") (aT (ai (aT (ai (bf "meta l4proto") (ai (aO 6) av))) av)) (lH (bf "udp") (aT (ai (aT (ai (bf "meta l4proto") (ai (aO 17) av))) av)) (lH (bf "icmp") (aT (ai (aT (ai (bf "meta nfproto") (ai (aO 2) av))) (ai (aT (ai (bf "meta l4proto") (ai (aO 1) av))) av))) (lH (bf "icmpv6") (aT (ai (aT (ai (bf "meta nfproto") (ai (aO 10) av))) (ai (aT (ai (bf "meta l4proto") (ai (aO 58) av))) av))) Gr)))))))))))) (qi 1 (az (cE (bX .NotIn (ag 0) (ag 1)) (az kK aH) aH) (az (cD (bO (ag 1) (ag 0))) aH))))
theorem WW(X:Gd c (n+1))(h:∀c,Gd c n->Ip c [.v a0,.u] G (λY G=>Q .none G) (λY Y=>aC) Q):FC c (.ref 173) [a0] G Q:=d7 ⟨173,16,ak,"needs_of","siftwall.fields",424⟩ Ip ["proto"] [ac "proto",ac "needs"] 1 ao [(147,1,ao)] [] X.B X.R (λE R=>h _ ⟨X.B,R⟩) (by kernel_rfl) (by kernel_rfl) aa (by kernel_rfl) (nu λY=>by kernel_rfl) (by kernel_rfl)
def Iq:=(az (bS 1 (ug (ai (ug (ai (aT (ai (bf "meta mark") (ai (bf "ct state") (ai (bf "th dport") av)))) (ai (aT (ai (bI .Sub (bI .Pow (aO 2) (aO 32)) (aO 1)) (ai (aO 4) (ai (aO 65535) av)))) (ai (kL (qo (bf "ct state") (aT (ai (aO 1) (ai (aO 2) (ai (aO 4) (ai (aO 8) (ai (aO 64) av)))))))) av)))) (ai (ug (ai (aT (ai (bf "ip saddr") (ai (bf "th dport") av))) (ai (aT (ai (bI .Sub (bI .Pow (aO 2) (aO 32)) (aO 1)) (ai (aO 65535) av))) (ai (kL wH) av)))) (ai (ug (ai (aT (ai (bf "meta nfproto") (ai (bf "ip6 saddr") (ai (bf "ip6 hoplimit") av)))) (ai (aT (ai (aO 1) (ai (bI .Sub (bI .Pow (aO 2) (aO 128)) (aO 1)) (ai (aO 255) av)))) (ai (kL (qo (bf "meta nfproto") (aT (ai (aO 2) (ai (aO 10) av))))) av)))) av))))) (az (mu (ms 2 3 4) (bO (ag 1) (bI .Mod (ag 0) (aO 3)))) (az (Ii (.ref 251) (ai (ag 2) (ai (ag 3) (ai (ag 4) av)))) aH)))
theorem WX(X:Gd c (n+1))(h:∀a,Gd (c.deeper a) n->Iq (c.deeper a) [.v b,.u,.u,.u,.u] G (λY G=>Q .none G) (λY Y=>aC) Q):fe c (.ref 269) [b] G Q:=uR ⟨269,31,ak,"_law_space","law_pq1084_01",578⟩ Iq ["x"] [ac "x",ac "worlds",ac "names",ac "tops",ac "legal"] 4 ao [] [237] [] X.B X.R (λE R=>h _ ⟨X.B,R⟩) (by kernel_rfl) (by kernel_rfl) aa (by kernel_rfl) (nu λY=>by kernel_rfl) (by kernel_rfl)
def Ir:=(az (nH (ag 0) "tops" (ag 1)) (az (nH (ag 0) "nodes" (kL (eg av))) (az (nH (ag 0) "book" (kL Ax)) (az (nH (ag 0) "memo" (kL Ax)) aH))))
theorem WY(X:Gd c (n+1))(h:∀a,Gd (c.deeper a) n->Ir (c.deeper a) [.v b,.v d] G (λY G=>Q .none G) (λY Y=>aC) Q):fe c (.ref 79) [b,d] G Q:=uR ⟨79,7,ac 0,"Diagrams.__init__","siftwall.diagram",263⟩ Ir ["self","tops"] [ac "self",ac "tops"] 0 ao [] [] [] X.B X.R (λE R=>h _ ⟨X.B,R⟩) (by kernel_rfl) (by kernel_rfl) aa (by kernel_rfl) (jx λY Y=>by kernel_rfl) (by kernel_rfl)
def It:=(az (ir (cw (ag 0) "place") (ag 5) (ag 4)) aH)
def Iu:=(az (nH (ag 0) "names" (ag 1)) (az (nH (ag 0) "tops" (ag 2)) (az (nH (ag 0) "legal" (ag 3)) (az (nH (ag 0) "place" (kL wH)) (az (dP (cV 4 5) (wI (ag 1)) It) aH)))))
theorem WZ(X:Gd c (n+1))(h:∀a,Gd (c.deeper a) n->Iu (c.deeper a) [.v b,.v d,.v e,.v f,.u,.u] G (λY G=>Q .none G) (λY Y=>aC) Q):fe c (.ref 248) [b,d,e,f] G Q:=uR ⟨248,28,ac 0,"Space.__init__","siftwall.compile",540⟩ Iu ["self","names","tops","legal"] [ac "self",ac "names",ac "tops",ac "legal",ac "index",ac "name"] 2 ao [] [] [] X.B X.R (λE R=>h _ ⟨X.B,R⟩) (by kernel_rfl) (by kernel_rfl) aa (by kernel_rfl) (ox λY Y Y Y=>by kernel_rfl) (by kernel_rfl)
theorem sA(X:Gd c n)(S:SS W Z G)(q:Q (.d (.tuple (W.names.map .str))) G):FA c (.ref Z.x) "names" G Q:=nK X.B S.x S.d (by rfl) tS Qe E1 q
theorem pj(X:Gd c n)(S:SS W Z G)(q:Q (.d (.tuple (W.tops.map .int))) G):FA c (.ref Z.x) "tops" G Q:=nK X.B S.x S.d (by rfl) tS Qf E2 q
theorem lP(X:Gd c n)(S:SS W Z G)(q:Q (.ref Z.al) G):FA c (.ref Z.x) "legal" G Q:=nK X.B S.x S.d (by rfl) tS Qg E3 q
theorem By(X:Gd c n)(S:SS W Z G)(q:Q (.ref Z.ap) G):FA c (.ref Z.x) "place" G Q:=nK X.B S.x S.d (by rfl) tS E4 zR q
def DZ T D W Z G:=
 DB T D G/\
 SS W Z G/\
 ∀a∈[Z.x,Z.dx,Z.al,Z.ap],a≠D.an/\a≠D.ab/\a≠D.am
def DZ.toDB{T:ae af}{D:DA}{W:Wd}{Z:nQ}{G:AH}(a:DZ T D W Z G):=a.1
def DZ.s{T:ae af}{D:DA}{W:Wd}{Z:nQ}{G:AH}(a:DZ T D W Z G):=a.2.1
def DZ.o{T:ae af}{D:DA}{W:Wd}{Z:nQ}{G:AH}(a:DZ T D W Z G):=a.2.2
theorem DZ.ss(S:DZ T D W Z G):SS W Z (cx D G ns bk M):=by have h:∀a∈[Z.x,Z.dx,Z.al,Z.ap],cx D G ns bk M a=G a:=λa m=>S.toDB.other (S.o a m).1 (S.o a m).2.1 (S.o a m).2.2;exact⟨(h _ (aP)).trans S.s.x,(h _ (.tail _ (.head _))).trans S.s.d,(h _ (.tail _ (.tail _ (.head _)))).trans S.s.l,(h _ (.tail _ (.tail _ (.tail _ (.head _))))).trans S.s.p⟩
theorem cF.less(k:cF A f vs G λv h=>∃a,j6 a h/\Q v a):cF A f vs G Q:=λc s m S i=>by refine aM (k c s m S i) λv w p=>p _ λr d h y e t j u p=>au p λa l q=>(.mk r d a y e (t.less l) (λb o e g n=>⟨(j b o e g n).1,l.no (j b o e g n).2⟩) (l.is u) q)
theorem j6.ovl(l:j6 d f):∀b:OL,j6 (bH d b) (bH f b)/\(dv f b->dv d b):=λb=>by
 induction b with
 |nil=>exact aF l id
 |cons p b c=>
  refine aF (λa=>?_) λF=>⟨c.1.no F.1,c.2 F.2⟩
  by_cases e:a=p.1
  ·rw[e];exact .inl ((bG ..).trans (bG ..).symm)
  ·exact(c.1 a).imp (λq=>(aU e).trans (q.trans (aU e).symm)) λq=>(aU e).trans q
theorem Bz(c:bE 60 a)(e:bE 60 b)(f:bE 60 d):(∀x∈[a,b],bE 60 x)/\bE 60 d:=⟨λx h=>by
 refine aB (bj.mp h) ?_ (λh=>?_);rintro rfl
 ·exact c
 ·rw[bZ.mp h];exact e,f⟩
theorem W4:FM c (.str x) "split" (.builtin "str.split") [.str x] G:=λa F k hk=>Ok hk
theorem W6(a:(decide (x.length<y.length)||decide (tL x<tL y))=ax)(b:(y.length==0)=ax)
 (d:(mi x y 0 x.length (x.length+1)).isEmpty=ax)(e:x.length<=1000)
 (f:(pW x (mi x y 0 x.length (x.length+1)) y.length).length<=1000)
 (q:Q (.d (.list ((pW x (mi x y 0 x.length (x.length+1)) y.length).map .str))) G):FC c (.builtin "str.split") [.str x,.str y] G Q:=λg F=>Om a b d e f (jD F q)
theorem W7(c:d≠a)(e:d≠b):d∉[a,b]:=λh=>(bj.mp h).elim c λh=>e (bZ.mp h)
theorem W8(X:Gd c (n+1))(d:xj.lookup x=ac r)(q:Q (.d r) G):FC c (.ref 173) [.str x] G Q:=λb F=>cF.less (p0 (WW (a0:=.str x) (G:=G) (Q:=λv f=>v=.d r/\j6 G f) X (λc X=>⟨by decide+kernel,λj g=>GJ (xs:=xj) (bG ..) (by
 rw[d];exact mD (xs:=xj) (bG ..) d ⟨aa,λa=>by
  by_cases e:a=j
  ·rw[e];exact .inr g
  ·exact .inl (aU e).symm⟩)⟩) b F) λv k h=>by
 refine cP h ?_;rintro f e i rfl l;rw[e];exact bi (bH G b) (l.ovl b).1 (jD ((l.ovl b).2 i) q))
theorem uS(X:Gd c (n+2))(S:SS W Z G)(U:uM W)(q:Q .none G):FC c (.ref 180) [.ref Z.x] G Q:=Wz X λc X=>by
 refine sA X S ?_;suffices go:∀(r:ae aN)(p t u g:LV)(K:Sg->AH->Prop),(∀x∈r,x∈W.names)->(∀p t u g,K [.v (.ref Z.x),p,t,u,g] G)->dj (bK 1) (dP.b Bm c Q) ((r.map pk).map V.d) [.v (.ref Z.x),p,t,u,g] G K from go W.names _ _ _ _ _ (λx h=>h) λY Y Y Y=>q;intro r;induction r with
 |nil=>exact λp t u g K Y k=>k _ _ _ _
 |cons o r ih=>
  intro p t u g K H k;refine fz (U o (H _ aP)) λf I e=>?_;have l:∀(v:ae aA)(g:LV),(∀d∈v,Ia W o d)->dj (bK 4) (dP.b H0 c Q) (v.map V.d) [.v (.ref Z.x),.v (.str o),.v (.str f),.v (.d (.tuple I)),g] G (wz (dj (bK 1) (dP.b Bm c Q) ((r.map pk).map V.d)) K):=by
   intro v;induction v with
   |nil=>exact λg Y=>ih _ _ _ _ _ (λx h=>H x (ba _ h)) k
   |cons d v y=>
    intro g J;refine cQ (J _ aP) ?_;rintro s i rfl A;have L:=λg=>y g λd h=>J d (ba _ h);refine By X S (wV S.p ?_);refine aB A ?_ ?_;rotate_left;intro m;refine dD m λj kk M a2 a3=>?_;rotate_right;intro A
    ·rw[A];exact L _
    ·rw[M];exact By X S (mD S.p M (By X S (mD S.p a2 (vB.n (ay [_,_] 89926994960 aa a3) (L _)))))
  have B:(pW o (mi o (aD " ") 0 o.length (o.length+1)) (aD " ").length)[0]?=ac f:=e.pr;refine⟨_,_,W4,W6 e.c1 (by decide+kernel) e.c2 e.c3 e.c4 (oP (z:=.str f) (by rw[fH,B];rfl) ?_)⟩
  refine aw (Bz (a:=.str "meta") (b:=.str "ct") (bE.str (by decide+kernel)) (bE.str (by decide+kernel)) (bE.str e.fit)) λN T=>aB e.ok ?_ ?_;rotate_left;intro m;refine aw m λC=>aw C λw D=>?_;intro E;rotate_right;intro m;refine aw m λw E=>?_
  ·subst E;exact⟨N,T,lG (by refine aB w ?_ ?_<;>clear w<;>rintro rfl<;>simp) (l [] _ (λd h=>nomatch h))⟩
  ·exact⟨N,T,vB.n (W7 (λh=>w (Iv h)) λh=>D (Iv h)) (W8 (n:=n) X E (l I _ e.need))⟩
theorem Iw(X:Gd c (n+1))(d:eC v)(q:Q (.d (uN v)) G):FC c (.ref 194) [.d v] G Q:=WA X λc X=>by refine aw (Bz (a:=.str "accept") (b:=.str "drop") (bE.str (by decide+kernel)) (bE.str (by decide+kernel)) d.fit) λe f=>⟨e,f,oQ (by refine aB d ?_ ?_<;>clear d<;>rintro rfl<;>simp) q⟩
theorem BA(X:Gd c (n+2))(S:DB T D G)(b:i<N.length)(f:N.length<=100000)(h:ki N i)(q:Q (.d (cU N i)) (dg D G N M)):FC c (.ref 201) [.ref D.x,.int (i:ah)] (dg D G N M) Q:=WB X λc X=>by
 refine aK (dc b) λd a=>?_;unfold cU at q;rw[a] at q;refine⟨_,_,oS X S,oT (n:=n) X S a (aS f aa) ?_⟩
 cases d with
 |leaf v=>exact⟨bE.str (by decide+kernel),bE.str (by decide+kernel),lG aa (Iw (n:=n) X (h v a) q)⟩
 |br k j=>have g:=gE b f;exact⟨bE.int _,bE.str (by decide+kernel),vB.n (λe=>nomatch e) ⟨tM g,aS (m:=6) (pn (wa g) 1) aa,q⟩⟩
theorem W9(X:Gd c (n+1))(S:SS W Z G){g:aN}{lo a:af}(b:0<=lo)(e:lo<=a)(f:W.legal.lookup g=ak\/∃d:ae aA,W.legal.lookup g=ac (.tuple d)/\a<d.length/\d.length<=1000)(q:Q (.d (.list (iE W g lo a))) G):
 FC c (.ref 206) [.ref Z.x,.str g,.int lo,.int a] G Q:=WC X λc X=>by
 refine lP X S (GJ S.l ?_);unfold iE at q;refine aB f (λh=>?_) ?_<;>clear f;rotate_left;intro i;refine aL i λd h l j=>?_;rotate_right
 ·rw[h] at q⊢;exact q
 ·rw[h] at q;rw[h];refine lP X S (mD S.l h ⟨lo.toNat,(a+1).toNat,fC (ay [_,_] 72747146256 aa (dh (ay [lo] 18623113510920 aa b))) (ay [_,_] 72762862608 aa (dh (ay [lo] 18623113510920 aa b))),fC (ay [_,_] 0x10f0918115c91810 aa (dh (ay [lo,a] 0x10f91810810c1010c008 aa e b))) (ay [_,_] 0x10f9181012c91810 aa (dh (ay [lo,a] 0x10f91810810c1010c008 aa e b))),bD.1 (ay [_,_,_,_] 0x10f2312c0315c9181210c10 aa (dh (ay [lo] 18623113510920 aa b)) (dh (ay [lo,a] 0x10f91810810c1010c008 aa e b)) e),bD.1 (ay [_,_,_] 0x10f1212c9180211c10 aa (dh (ay [lo,a] 0x10f91810810c1010c008 aa e b)) l),aS j aa,?_,Vh (λx=>.tuple [x,x]) aa (λx Y K k=>k) λx=>q⟩);rw[aI,v8,Ei];exact aj [_,_,_] 0x10f08ae6e8e1e210c1210c0110c88ee3e0 aa (Ej ((a+1).toNat-lo.toNat) (d.length-lo.toNat)) (ow (d.length) (lo.toNat)) j
theorem Xa{c:cq}{G:AH}{K:Sg->AH->Prop}{f g h i j k:LV}{d:aA}:∀(sp a:ae aA)(b:LV),a.length+sp.length<=100000->(∀b,K [f,g,h,i,j,.o (.list (a++sp.map (nT d))),k,.v (.d d),b] G)->
 dj (bK 8) (dP.b H5 c Q) (sp.map V.d) [f,g,h,i,j,.o (.list a),k,.v (.d d),b] G K:=by
 intro sp;induction sp with
 |nil=>intro a b Y q;have:=q b;rw[gN,c8] at this;exact this
 |cons s sp l=>intro a b e q;exact⟨aS (bn (fR _ _) e) aa,(l (a++[nT d s]) (.v (.d s)) (by rw[b7,ea];rw[cG] at e;exact aj [_,_] 0x10f08ae6e8e1e91918010c08ae6e8e1e991810 aa e) (λb=>by rw[cs];exact q b))⟩
theorem Ix(X:Gd c (n+2))(S:DZ T D W Z G)(o:N.length<=100000){d:aN}{f:af}(g:∀j:af,j<=f->W.legal.lookup d=ak\/∃h:ae aA,W.legal.lookup d=ac (.tuple h)/\j<h.length/\h.length<=1000){K:Sg->AH->Prop}{k r i:LV}{p:af×ah}{a:af}(s:-1<=a)(t:a<p.1)(l:p.1<=f/\p.2<N.length)(u:ki N p.2){b e:ae aA}
 (m:b.length+((iE W d (a+1) p.1).map (nT (cU N p.2))++e).length<=100000)(q:∀i,K [.v (.ref D.x),.v (.ref Z.x),k,.v (.str d),.v (.int (p.1+1)),.o (.list (b++(iE W d (a+1) p.1).map (nT (cU N p.2)))),.v (.d (dp p)),.v (.d (cU N p.2)),i] (dg D G N M)):
 dP.b uI c Q [.v (.ref D.x),.v (.ref Z.x),k,.v (.str d),.v (.int (a+1)),.o (.list b),.v (.d (dp p)),r,i] (dg D G N M) K:=by rw[b7,aI] at m;exact BA (n:=n) X S.toDB l.2 o u (W9 (n:=n+1) X S.ss (ay [_] 0x10f91800810c0a1808 aa s) (ay [_,_] 298075428035600 aa t) (g _ l.1) (Xa _ b _ (aj [_,_,_] 0x10f08ae6e8e1e91010c08ae6e8e1e99210 aa m) q))
theorem Xb(X:Gd c (n+2))(S:DZ T D W Z G)(x:N.length<=100000){i:aN}{j:af}(l:∀o:af,o<=j->W.legal.lookup i=ak\/∃m:ae aA,W.legal.lookup i=ac (.tuple m)/\o<m.length/\m.length<=1000){K:Sg->AH->Prop}{s:LV}:
 ∀(r:ae (af×ah))(a:af)(b:ae aA)(e f d:LV),-1<=a->eh a r->(∀p∈r,p.1<=j/\p.2<N.length/\ki N p.2)->b.length+(fx W i (cU N) (a+1) r).length<=100000->
 (∀g e f d,K [.v (.ref D.x),.v (.ref Z.x),s,.v (.str i),g,.o (.list (b++fx W i (cU N) (a+1) r)),e,f,d] (dg D G N M))->
 dj (bK 6) (dP.b uI c Q) ((r.map dp).map V.d) [.v (.ref D.x),.v (.ref Z.x),s,.v (.str i),.v (.int (a+1)),.o (.list b),e,f,d] (dg D G N M) K:=by
 intro r;induction r with
 |nil=>intro a b e f d Y Y Y Y q;have:=q (.v (.int (a+1))) e f d;rw[fx.q1,c8] at this;exact this
 |cons p r y=>intro a b e f d t u v k q;refine bu (v p aP) λz A B=>?_;have w:=u.1;rw[fx.q2] at k;refine Ix X S x l t w ⟨z,A⟩ B k λd=>?_;rw[b7] at k;exact y p.1 _ _ _ _ (ay [_,_,_] 76299581840759824 aa t w) u.2 (λp h=>v p (ba _ h)) (by rw[b7];exact aj [_,_,_] 0x10f08ae6e8e1e9291010c08ae6e8e1e99210 aa k) λg e f d=>by rw[cs];exact q g e f d
theorem Xc(X:Gd c (n+3))(S:DZ T D W Z G)(u:N.length<=100000)(v:W.names.length<=1000){k:ah}{f:aN}{d:af}{e:ae (af×ah)}(hk:W.names[k]?=ac f)(w:W.tops[k]?=ac d)(x:sy W)(t:eh (-1) e)(y:eZ (-1) e=d)(o:e.length<=100)
 (r:∀p∈e,p.2<N.length/\ki N p.2)(q:Q (.d (qL f (fx W f (cU N) 0 e))) (dg D G N M)):FC c (.ref 213) [.ref D.x,.ref Z.x,.d (d0 (.br k e))] (dg D G N M) Q:=WD X λc X=>by
 have g:∀s:af,s<=d->W.legal.lookup f=ak\/∃i:ae aA,W.legal.lookup f=ac (.tuple i)/\s<i.length/\i.length<=1000:=λs h=>(x k f d hk w).imp_right λ⟨i,a,b,c⟩=>⟨i,a,ay [_,_,_] 0x11f0210c1215c91810 aa h b,c⟩
 have j:=uO t y;have l:(fx W f (cU N) 0 e).length<=100000:=bn (Br e 0 λp m=>g p.1 (j.2 p m).2) (kQ 1000 o);exact sA X S.ss ⟨_,dW pk hk (aS v aa),Xb X S u g e (-1) [] _ _ _ (fB _) t (λp m=>⟨(j.2 p m).2,r p m⟩) (by rw[jH,dZ];exact l) λz A B C=>⟨aS l aa,q⟩⟩
theorem Xd(h:t c d G (Fc a b c (Fw k (z7 r c N C R)))):az (bS k (nE t a b)) r c d G N C R:=h
theorem Xe(h:t c a G (Fx b d c (z7 r c N C R) C R)):az (cE t b d) r c a G N C R:=h
open Classical in
theorem Iy(f:eA a i=.v (.d d))(g:eA a j=.v (.d e))(h:bE 60 d)(l:bE 60 e)(q:b (decide (d=e)) a G):bX .Eq (ag i) (ag j) c a G b:=by
 delta bX ag;rw[f];show match eA a j with|.v x=>Ag .Eq c b (.v (.d d)) (.v x) a G|.o _=>_|.u=>aC
 rw[g];exact FQ.fit (k:=λz=>b z a G) ⟨h,l,q⟩
theorem xq(n:fj W)(o:hF W){k:ah}(hk:W.names[k]?=ac b)(p:W.tops[k]?=ac c)(g:0<=i)(j:i<=c):bE 60 (hK W b i)/\∀a,W.legal.lookup b=ac (.tuple a)->jC a i (hK W b i):=by
 unfold hK;refine aB (n.leg k b c hk p) (λe=>?_) ?_;rotate_left;intro d;refine aL d λa e l q=>?_;rotate_right
 ·rw[e];exact aF (bE.int _) λY h=>nomatch h
 ·rw[e];have f:i.toNat<a.length:=eL.1 (ay [_,_,_,_] 0x11f2312c0315c9181210c10 aa (dh (ay [i] 18623113510920 aa g)) l j);have m:a.getD i.toNat .none=a[i.toNat]:=by rw[cY,cr f];rfl
  refine aF (by show bE 60 (a.getD i.toNat .none);rw[m];exact(o b a e _ (Xf f)).le (aX _ _)) λr h=>?_;cases h;exact⟨g,by exact ay [_,_,_] 0x11f080e0e0e0e0e0e0e0e0e0e0e0e0e0e8e210c1215c9181010c88ee3e0 aa j l (bD.2 q),by show _=ac (a.getD i.toNat .none);rw[m];exact cr f⟩
theorem Xg(X:Gd c (n+1))(S:SS W Z G)(i:fj W)(r:hF W){k:ah}{d lo f:af}(hk:W.names[k]?=ac j)(m:W.tops[k]?=ac d)(s:0<=lo)(t:lo<=f)(u:f<=d)(w:¬(lo=0/\f=d))(q:Q (.d (mL W j lo f)) G):
 FC c (.ref 227) [.ref Z.x,.int k,.d (.tuple [.int lo,.int f])] G Q:=WF X λc X=>by
 refine aw (xq i r hk m s (eD t u)) λx y=>aw (xq i r hk m (eD s t) u) λz A=>?_;have g:∀{N C},az (bS 6 (nE (bX .Eq (ag 4) (ag 5)) (aT (ai (bf "num") (ai (ag 4) av))) (aT (ai (bf "span") (ai (ag 4) (ai (ag 5) av)))))) (az (cD (aT (ai (bf "match") (ai (aT (ai (bf "field") (ai (ag 3) av))) (ai (bf "==") (ai (ag 6) av)))))) aH) c
  [.v (.ref Z.x),.v (.int k),.v (.d (.tuple [.int lo,.int f])),.v (.str j),.v (.d (hK W j lo)),.v (.d (hK W j f)),.u] G N C Q:=by
  intro N C;unfold mL xo at q;refine Xd (Iy aa rfl x z (vB.d (λh=>?_) λh=>?_))
  ·rw[aR h] at q;exact q
  ·rw[aQ h] at q;exact q
 have l:az (cE (bX .In (ag 3) (cw (ag 0) "legal")) (az (uf 4 5 (ai (bO (bO (cw (ag 0) "legal") (ag 3)) (ag 4)) (ai (bO (bO (cw (ag 0) "legal") (ag 3)) (ag 5)) av))) aH) aH) (az (bS 6 (nE (bX .Eq (ag 4) (ag 5)) (aT (ai (bf "num") (ai (ag 4) av))) (aT (ai (bf "span") (ai (ag 4) (ai (ag 5) av)))))) (az (cD (aT (ai (bf "match") (ai (aT (ai (bf "field") (ai (ag 3) av))) (ai (bf "==") (ai (ag 6) av)))))) aH)) c
  [.v (.ref Z.x),.v (.int k),.v (.d (.tuple [.int lo,.int f])),.v (.str j),.v (.int lo),.v (.int f),.u] G (λY G=>Q .none G) (λY Y=>aC) Q:=by
  refine lP X S (wV S.l ?_);refine aB (i.leg k j d hk m) (λe=>?_) ?_;rotate_left;intro o;refine aL o λv e B D=>?_;rotate_right
  ·have p:=@g (λY G=>Q .none G) (λY Y=>aC);unfold hK at p;rw[e] at p⊢;exact p
  ·rw[e];exact lP X S (mD S.l e ⟨_,y v e,lP X S (mD S.l e ⟨_,A v e,g⟩)⟩)
 refine sA X S ⟨_,dW pk hk (aS i.le aa),vB.d (λa=>pj X S ⟨_,dW cJ m (aS (i.len▸i.le) aa),vB.n (λb=>w ⟨a,b⟩) l⟩) λa=>l⟩
theorem Iz(X:Gd c (n+3))(S:DZ W.tops D W Z G)(g:bW W.tops E N)(B:∀k,(E k).length<=7)(u:fj W)(t:N.length<=90000){a:aN}(x:∀i,ff i≠a){v:aA}{K:Sg->AH->Prop}{y z C:LV}(b:m∉e)(H:kg N m)(I:e.length+1<=90000)
 (J:∀k o,N[m]?=ac (.br k o)->∀p∈o,ki N p.2)(q:K [.v (.ref D.x),.v (.ref Z.x),y,z,.o (.stab ((a,v)::cK W N (e++[m]))),.v (.int m),.v (.str (ff m))] (dg D G N M)):
 dP.b uJ c Q [.v (.ref D.x),.v (.ref Z.x),y,z,.o (.stab ((a,v)::cK W N e)),.v (.int m),C] (dg D G N M) K:=by
 refine fz H λk o f=>?_;have h:=eU f;refine cP (g.br f).top λL d j l Y=>aK (dc (xs:=W.names) (i:=k) (by rw[u.len];exact eU d)) λr s=>?_;have w:(((a,v)::cK W N e).lookup (aD "n"++aD (mg (m:af))))=ak:=Bs x b;have T:((a,v)::cK W N (e++[m]))=gv ((a,v)::cK W N e) (ff m) (.list [qL r (fx W r (cU N) 0 o)]):=by
  rw[xl (Bs x b)];have U:kT W N m=qL r (fx W r (cU N) 0 o):=by unfold kT;rw[f];simp only[(by rw[cY,s];rfl:W.names.getD k (aD "")=r)]
  rw[cK,ck,c9,U];rfl
 rw[T] at q;refine⟨tM (aj [_,_] 0x11f08ae6e8e1e111c0110c089efe5e1e0 aa h t),aS (m:=6) (pn (wa (aj [_,_] 0x11f08ae6e8e1e111c0110c089efe5e1e0 aa h t)) 1) aa,?_⟩
 show vB ((((a,v)::cK W N e).lookup (aD "n"++aD (mg (m:af)))).isSome) _ _;rw[w];refine⟨_,_,oS X S.toDB,oT (n:=n+2) X S.toDB f (aS t aa) (Xc (n:=n) X S (bn t (aX _ _)) u.le s d u.leg j l (bn (Ih B g f) (aX _ _)) (λp A=>⟨kB ((g.br f).ch p A).1 h,J k o f p A⟩) ⟨?_,q⟩)⟩
 rw[cG,cK,aI];exact bn I (aX _ _)
theorem Xh(X:Gd c (n+3))(S:DZ W.tops D W Z G)(g:bW W.tops E N)(t:∀k,(E k).length<=7)(u:fj W)(w:N.length<=90000)(x:∀i,ff i≠d)(y:∀m,dy N a m->ki N m){v:aA}{K:Sg->AH->Prop}:
 ∀(r b)(e f),(b++r).Nodup->(∀m∈r,dy N a m/\kg N m)->(b++r).length<=90000->(∀e f,K [.v (.ref D.x),.v (.ref Z.x),z,A,.o (.stab ((d,v)::cK W N (b++r))),e,f] (dg D G N M))->
 dj (bK 5) (dP.b uJ c Q) ((cy r).map V.d) [.v (.ref D.x),.v (.ref Z.x),z,A,.o (.stab ((d,v)::cK W N b)),e,f] (dg D G N M) K:=by
 intro r;induction r with
 |nil=>intro b e f Y Y Y q;have:=q e f;rw[c8] at this;exact this
 |cons m r B=>
  intro b e f j s l q;have o:b++m::r=b++[m]++r:=by rw[cs];rfl
  refine aw (s m aP) λC H=>Iz X S g t u w x (λh=>(jV.mp j).2.2 m h m aP aa) H (by rw[b7,cG] at l;exact aj [_,_] 0x10f089efe5e1e918010c089efe5e1e991810 aa l) (λk L I p J=>y _ (C.step I J))<|B (b++[m]) (.v (.int m)) (.v (.str (ff m))) (o▸j) (λm h=>s m (ba _ h)) (o▸l) λe f=>by rw[<-o];exact q e f
theorem Xi(X:Gd c (n+4))(S:DZ W.tops D W Z G)(g:bW W.tops E N)(u:∀k,(E k).length<=7)(r:fj W)(s:a<N.length)(e:N.length<=90000)(v:∀i,ff i≠d)(t:∀m,dy N a m->ki N m)
 (q:∀b L,b.Nodup->(∀m,m∈b↔dy N a m/\kg N m)->dg D G N M L=ak->Q (.ref L) (aE (dg D G N M) L (.stab ((d,kU (cU N a))::cK W N b)))):FC c (.ref 220) [.ref D.x,.ref Z.x,.int (a:ah),.str d] (dg D G N M) Q:=WE X λc X=>by
 refine uS (n:=n+1) X S.ss r.ok (BA (n:=n+1) X S.toDB s (bn e (aX _ _)) (t a .here) (HZ (n:=n+1) X S.toDB g s (aS e aa) λb f l=>?_));have o:=qI _ _ f λm w=>by refine aw ((l m).mp w) λY p=>fz p λk y h=>eU h
 exact Xh (n:=n) X S g u r e v t b [] _ _ f (λm h=>(l m).mp h) (bn o e) λz A j x=>q b j f l x
theorem IA(X:Gd c (n+2))(S:SS W Z G)(l:fj W)(t:hF W){K:Sg->AH->Prop}:∀(r:ek)(a)(b d),(∀e∈r,qK W.tops e)->a.length+r.length<=1000->
 (∀b d,K [u,.v (.ref Z.x),v,w,x,y,z,.o (.list (a++r.map (nU W))),b,d] G)->
 dj (bK 8) (dP.b Bn c Q) ((r.map uH).map V.d) [u,.v (.ref Z.x),v,w,x,y,z,.o (.list a),b,d] G K:=by
 intro r;induction r with
 |nil=>intro a b d Y Y q;have:=q b d;rw[gN,c8] at this;exact this
 |cons e r A=>
  intro a b d m j q;obtain⟨k,lo,f⟩:=e;refine mU (m _ aP) λB o C D E H=>aK (dc (xs:=W.names) (i:=k) (by rw[l.len];exact eU o)) λp g=>?_;have I:nU W (k,lo,f)=mL W p lo f:=by show mL W (W.names.getD k (aD "")) lo f=_;rw[cY,g];rfl
  have s:=A (a++[nU W (k,lo,f)]) (.v (.d (uH (k,lo,f)))) (.v (.d (mL W p lo f))) (λe h=>m e (ba _ h)) (by rw[b7,ea];rw[cG] at j;exact aj [_,_] 0x10f88ee3e91918010c88ee3e991810 aa j) λb d=>by rw[cs];exact q b d
  rw[I] at s;exact Xg (n:=n+1) X S l t g o C D E H ⟨aS (bn (fR _ _) j) aa,s⟩
theorem IB(X:Gd c (n+2))(S:SS W Z G)(h:fj W)(i:hF W){K:Sg->AH->Prop}(j:∀e∈w.1,qK W.tops e)(f:w.1.length<=900)(k:eC w.2)(l:a.length<=100000)
 (q:∀g b d,K [o,.v (.ref Z.x),p,r,s,.o (.list (a++[kW W w])),.v (.d (nP w)),g,b,d] G):dP.b uK c Q [o,.v (.ref Z.x),p,r,s,.o (.list a),.v (.d (nP w)),g,b,d] G K:=by refine IA (n:=n) X S h i w.1 [] _ _ j (by rw[jH,dZ];exact bn f (aX _ _)) λb d=>Iw (n:=n+1) X k ⟨aS (m:=900) (by rw[jG,aI];exact f) aa,aS (m:=901) ?_ aa,aS l aa,q _ b d⟩;rw[jG,b7,aI];exact qF f
theorem Xj(X:Gd c (n+2))(S:SS W Z G)(k:fj W)(l:hF W){K:Sg->AH->Prop}:∀(r:ae (ek×aA))(a:ae aA)(g b d f:LV),(∀w∈r,(∀e∈w.1,qK W.tops e)/\w.1.length<=900/\eC w.2)->a.length+r.length<=100000->
 (∀g b d f,K [m,.v (.ref Z.x),o,p,s,.o (.list (a++r.map (kW W))),g,b,d,f] G)->
 dj (bK 6) (dP.b uK c Q) ((r.map nP).map V.d) [m,.v (.ref Z.x),o,p,s,.o (.list a),g,b,d,f] G K:=by
 intro r;induction r with
 |nil=>intro a g b d f Y Y q;have:=q g b d f;rw[gN,c8] at this;exact this
 |cons w r t=>intro a g b d f j i q;refine bu (j w aP) λu v x=>IB (n:=n) X S k l u v x (bn (fR _ _) i) λb d f=>t (a++[kW W w]) (.v (.d (nP w))) b d f (λw h=>j w (ba _ h)) (by rw[b7,ea];rw[cG] at i;exact aj [_,_] 0x10f08ae6e8e1e91918010c08ae6e8e1e991810 aa i) λg b d f=>by rw[cs];exact q g b d f
theorem Xk(X:Gd c (n+4))(S:DZ W.tops D W Z G)(g:bW W.tops E N)(l:∀k,(E k).length<=7)(i:fj W)(o:hF W)(j:a<N.length)(p:N.length<=90000)(r:W.tops.length<=900)(s:((b9 N a).length:af)<=b)(d:(b9 N a).length<=100000)(t:sz N a<=100000)(u:∀m,dy N a m->ki N m)
 (q:∀L,dg D G N M L=ak->Q (.ref L) (aE (dg D G N M) L (.stab [(e,.list ((b9 N a).map (kW W)))]))):FC c (.ref 234) [.ref D.x,.ref Z.x,.int (a:ah),.str e,.int b] (dg D G N M) Q:=WG X λc X=>
 uS (n:=n+1) X S.ss i.ok (HW (n:=n+1) X S.toDB g j (aS p aa) s d t l (Xj (n:=n+1) X S.ss i o (b9 N a) [] _ _ _ _ (λw h=>by refine bu (nS g a j w h) λv x f=>au f λm y z=>ca v (aj [_,_,_] 0x10f488e3e110c092110c488e3e0 aa x r) (u m y _ z)) (by rw[jH,dZ];exact d) λY Y Y Y=>q))
def IC:=(az (cE (bX .Eq (bI .Mod (ag 0) (aO 4)) (aO 0)) (az (cD (aT (ai (aO 0) (ai (ag 1) av)))) aH) aH) (az (bS 0 (bI .FloorDiv (ag 0) (aO 4))) (az (cE (bX .Lt (ag 1) (aO 16)) (az (bS 2 (bI .Mod (ag 0) (bI .Add (ag 1) (aO 1)))) (az (cD (aT (ai (ag 2) (ai (bY oH (ai (ag 1) (ai (bI .Add (ag 2) (bI .Mod (bI .FloorDiv (ag 0) (bI .Add (ag 1) (aO 1))) (aO 3))) av))) av)))) aH)) aH) (az (bS 2 (bI .Add (bO (aT (ai (aO 0) (ai (aO 7) (ai (bI .FloorDiv (ag 1) (aO 2)) (ai (bI .Sub (ag 1) (aO 11)) av))))) (bI .Mod (ag 0) (aO 4))) (bI .Mod (bI .FloorDiv (ag 0) (aO 4)) (aO 12)))) (az (cD (aT (ai (ag 2) (ai (bY oH (ai (ag 1) (ai (bI .Add (ag 2) (bO (aT (ai (aO 5) (ai (aO 0) (ai (aO 1) (ai (bI .FloorDiv (ag 1) (aO 4)) av))))) (bI .Mod (bI .FloorDiv (ag 0) (aO 48)) (aO 4)))) av))) av)))) aH)))))
theorem Xl(X:Gd c (n+1))(h:∀c,Gd c n->IC c [.v a,.v b,.u] G (λY G=>Q .none G) (λY Y=>aC) Q):FC c (.ref 276) [a,b] G Q:=d7 ⟨276,32,ak,"_law_span","law_pq1084_01",578⟩ IC ["x","top"] [ac "x",ac "top",ac "low"] 1 ax [] [] X.B X.R (λE R=>h _ ⟨X.B,R⟩) (by kernel_rfl) (by kernel_rfl) aa (by kernel_rfl) (jx λY Y=>by kernel_rfl) (by kernel_rfl)
def ID:=(az (ir (ag 3) (bT (bO (ag 5) (ag 1)) 0) (lE ao)) (az (cE (bX .Lt (bT (bO (ag 5) (ag 1)) 1) (ag 2)) (az (ir (ag 3) (bI .Add (bT (bO (ag 5) (ag 1)) 1) (aO 1)) (lE ao)) aH) aH) aH))
def IE:=(az (eu 3 (Ap (aO 0) (lE ao))) (az (dP (cV 4 5) (dk (ag 0)) ID) (az (cD (bY wE (ai (ag 3) av))) aH)))
theorem Xm(X:Gd c (n+1))(h:∀c,Gd c n->IE c [.v a,.v b,.v d,.u,.u,.u] G (λY G=>Q .none G) (λY Y=>aC) Q):FC c (.ref 283) [a,b,d] G Q:=d7 ⟨283,33,ak,"_law_few","law_pq1084_01",578⟩ IE ["boxes","variable","top"] [ac "boxes",ac "variable",ac "top",ac "edges",ac "verdict",ac "spans"] 3 ax [] [] X.B X.R (λE R=>h _ ⟨X.B,R⟩) (by kernel_rfl) (by kernel_rfl) aa (by kernel_rfl) (iS λY Y Y=>by kernel_rfl) (by kernel_rfl)
def BB:=(az (cE (E9 (rQ .LtE) (rQ .LtE) (bT (bO (bT (bO (ag 0) (ag 4)) 1) (ag 1)) 0) (ag 2) (bT (bO (bT (bO (ag 0) (ag 4)) 1) (ag 1)) 1)) (az (bS 3 (bI .Add (ag 3) (bI .Pow (aO 2) (ag 4)))) aH) aH) aH)
def IF:=(az (bS 3 (aO 0)) (az (dP (bK 4) (mv (bY kJ (ai (bY dU (ai (ag 0) av)) av))) BB) (az (cD (ag 3)) aH)))
theorem Xn(X:Gd c (n+1))(h:∀c,Gd c n->IF c [.v a,.v b,.v d,.u,.u] G (λY G=>Q .none G) (λY Y=>aC) Q):FC c (.ref 290) [a,b,d] G Q:=d7 ⟨290,34,ak,"_law_lets","law_pq1084_01",578⟩ IF ["boxes","variable","n"] [ac "boxes",ac "variable",ac "n",ac "lets",ac "k"] 2 ax [] [] X.B X.R (λE R=>h _ ⟨X.B,R⟩) (by kernel_rfl) (by kernel_rfl) aa (by kernel_rfl) (iS λY Y Y=>by kernel_rfl) (by kernel_rfl)
def IG:=(az (bS 4 (bI .Add (aT (ai (bO (bO (ag 0) (ag 5)) (bI .Mod (ag 3) (bY dU (ai (bO (ag 0) (ag 5)) av)))) av)) (ag 4))) (az (bS 3 (bI .FloorDiv (ag 3) (bY dU (ai (bO (ag 0) (ag 5)) av)))) aH))
def IH:=(az (cE (bX .NotEq (bO (ag 1) (ag 3)) (bO (ag 2) (ag 3))) (az (bS 4 (aT av)) (az (dP (bK 5) (qh (bY qe (ai (bI .Sub (bY dU (ai (ag 0) av)) (aO 1)) (ai (jZ (aO 1)) (ai (jZ (aO 1)) av))))) IG) (az (cD (ag 4)) aH))) aH) aH)
def II:=(az (dP (bK 3) (mv (bY kJ (ai (bY dU (ai (ag 1) av)) av))) IH) (az (cD tV) aH))
theorem Xo(X:Gd c (n+1))(h:∀c,Gd c n->II c [.v a,.v b,.v d,.u,.u,.u] G (λY G=>Q .none G) (λY Y=>aC) Q):FC c (.ref 302) [a,b,d] G Q:=d7 ⟨302,36,ak,"_law_least","law_pq1084_01",578⟩ II ["few","one","other"] [ac "few",ac "one",ac "other",ac "i",ac "values",ac "variable"] 3 ax [] [] X.B X.R (λE R=>h _ ⟨X.B,R⟩) (by kernel_rfl) (by kernel_rfl) aa (by kernel_rfl) (iS λY Y Y=>by kernel_rfl) (by kernel_rfl)
def IJ:=(az (bS 5 (cW (.ref 140) (ai (ag 0) (ai (ag 6) (ai (im (ai (bO (ag 4) (ag 6)) av)) (ai (ag 5) (ai (d6 (ag 0) "leaf" (ai (aO 0) av)) av))))))) aH)
def IK:=(az (bS 5 (d6 (ag 0) "leaf" (ai (aO 1) av))) (az (dP (bK 6) (qh (bY qe (ai (bI .Sub (bY dU (ai (ag 4) av)) (aO 1)) (ai (jZ (aO 1)) (ai (jZ (aO 1)) av))))) IJ) (az (bS 2 (cW (.ref 145) (ai (ag 0) (ai (ag 5) (ai (d6 (ag 0) "leaf" (ai (ag 3) av)) (ai (ag 2) av)))))) aH)))
def IL:=(az (dP (cV 3 4) (dk (rV (ag 1) mA mA (qp (jZ (aO 1))))) IK) (az (cD (ag 2)) aH))
theorem Xp(X:Gd c (n+1))(h:∀c,Gd c n->IL c [.v a,.v b,.v d,.u,.u,.u,.u] G (λY G=>Q .none G) (λY Y=>aC) Q):FC c (.ref 309) [a,b,d] G Q:=d7 ⟨309,37,ak,"_law_diagram","law_pq1084_01",578⟩ IL ["diagrams","boxes","number"] [ac "diagrams",ac "boxes",ac "number",ac "verdict",ac "spans",ac "inside",ac "variable"] 4 ax [] [] X.B X.R (λE R=>h _ ⟨X.B,R⟩) (by kernel_rfl) (by kernel_rfl) aa (by kernel_rfl) (iS λY Y Y=>by kernel_rfl) (by kernel_rfl)
def xr:=(az (bS 7 (bO (cw (ag 0) "names") (ag 4))) (az (cE (bX .In (ag 7) (cw (ag 0) "legal")) (az (uf 5 6 (ai (bO (bO (cw (ag 0) "legal") (ag 7)) (ag 5)) (ai (bO (bO (cw (ag 0) "legal") (ag 7)) (ag 6)) av))) aH) aH) (az (bS 8 (aT (ai (bf "span") (ai (ag 5) (ai (ag 6) av))))) (az (cE (bX .Eq (ag 5) (ag 6)) (az (bS 8 (aT (ai (bf "num") (ai (ag 5) av)))) aH) aH) (az (dR (dO eT 3 (ai (aT (ai (bf "match") (ai (aT (ai (bf "field") (ai (ag 7) av))) (ai (bf "==") (ai (ag 8) av))))) av))) aH)))))
def IM:=(az (eu 3 (eg av)) (az (dP (ms 4 5 6) (dk (ag 1)) xr) (gj 3 (az (cD (bY nF (ai (bI .Add (ag 3) (im (ai (aT (ai (bf "verdict") (ai (aT (ai (ag 2) (ai (bf "") av))) av))) av))) av))) aH))))
theorem Xq(X:Gd c (n+1))(h:∀c,Gd c n->IM c [.v a,.v b,.v d,.u,.u,.u,.u,.u,.u] G (λY G=>Q .none G) (λY Y=>aC) Q):FC c (.ref 326) [a,b,d] G Q:=d7 ⟨326,40,ak,"_law_rule","law_pq1084_01",578⟩ IM ["space","path","verdict"] [ac "space",ac "path",ac "verdict",ac "statements",ac "variable",ac "low",ac "high",ac "name",ac "right"] 6 ax [(329,3,ax)] [] X.B X.R (λE R=>h _ ⟨X.B,R⟩) (by kernel_rfl) (by kernel_rfl) aa (by kernel_rfl) (iS λY Y Y=>by kernel_rfl) (by kernel_rfl)
def Xr:=(az (bS 4 (bY dU (ai (ag 2) av))) (az (dR (dO eT 3 (ai (dO Fq 2 (ai (bI .Mod (ag 1) (ag 4)) av)) av))) (az (bS 1 (bI .FloorDiv (ag 1) (ag 4))) aH)))
def IN:=(az (eu 2 (Ao (ag 0))) (az (eu 3 (eg av)) (az (tY (bX .NotEq (ag 2) (im av)) Xr) (gj 3 (az (cD (ag 3)) aH)))))
theorem Xs(X:Gd c (n+1))(h:∀c,Gd c n->IN c [.v a,.v b,.u,.u,.u] G (λY G=>Q .none G) (λY Y=>aC) Q):FC c (.ref 333) [a,b] G Q:=d7 ⟨333,41,ak,"_law_shuffled","law_pq1084_01",578⟩ IN ["boxes","turn"] [ac "boxes",ac "turn",ac "left",ac "shuffled",ac "many"] 3 ax [(337,3,ax)] [] X.B X.R (λE R=>h _ ⟨X.B,R⟩) (by kernel_rfl) (by kernel_rfl) aa (by kernel_rfl) (jx λY Y=>by kernel_rfl) (by kernel_rfl)
def IP:=(az (cE (rJ (bX .NotEq (ag 6) (im av)) (bX .Eq (bT (bO (ag 4) (ag 7)) 0) (bT (bO (ag 4) (bT (qc (ag 6)) 0)) 0))) (az (ir (ag 6) (jZ (aO 1)) (aT (ai (bT (qc (ag 6)) 0) (ai (ag 7) av)))) aH) (az (dR (dO eT 6 (ai (aT (ai (ag 7) (ai (ag 7) av))) av))) aH)) aH)
def IQ:=(az (dR (dO eT 10 (ai (aT (ai (bI .Add (aT (ai (aT (ai (ag 2) (ai (ag 15) (ai (ag 16) av)))) av)) (ag 17)) (ai (ag 18) av))) av))) aH)
def IR:=(az (dR (dO eT 12 (ai (aT (ai (aT (ai (ag 20) av)) (ai (bT (bO (ag 4) (ag 13)) 2) (ai (aO 0) (ai (bf "") av))))) av))) aH)
def IS:=(az (uf 15 16 (ai (bO (ag 3) (ag 13)) (ai (bI .Sub (bO (ag 8) (ag 14)) (aO 1)) av))) (az (dP (cV 17 18) (dk (bT (bO (ag 4) (ag 13)) 0)) IQ) (az (dR (dO eT 11 (ai (aT (ai (ag 16) (ai (bT (bO (ag 4) (ag 13)) 1) av))) av))) (az (eu 19 (eg (ai (aT (ai (ag 15) (ai (ag 16) av))) av))) (az (cE (bX .In (ag 9) (cw (ag 1) "legal")) (az (bS 19 (g7 [22] (bK 22) (qh (bY zX (ai (ag 15) (ai (bI .Add (ag 16) (aO 1)) av)))) (fi (aT (ai (bO (bO (cw (ag 1) "legal") (ag 9)) (ag 22)) (ai (bO (bO (cw (ag 1) "legal") (ag 9)) (ag 22)) av)))))) aH) aH) (gj 19 (az (dP (bK 20) (dk (ag 19)) IR) aH)))))))
def IT:=(az (eu 6 (eg av)) (az (dP (bK 7) (mv (bY kJ (ai (bY dU (ai (ag 4) av)) av))) IP) (az (cE (bX .Eq (bY dU (ai (ag 6) av)) (aO 1)) (az (cD (bT (ag 4) 0)) aH) aH) (az (bS 8 (bI .Add (rV (ag 3) (qp (aO 1)) mA mA) (im (ai (bI .Add (bO (cw (ag 1) "tops") (ag 2)) (aO 1)) av)))) (az (bS 9 (bO (cw (ag 1) "names") (ag 2))) (gj 6 (az (At 10 11 12 (eg av) (eg av) (eg av)) (az (dP (cV 13 14) (dk (ag 6)) IS) (gj 11 (az (bS 21 (d6 (ag 0) "make" (ai (ag 2) (ai (ag 11) av)))) (az (ir (ag 5) (bI .Add (bf "n") (bY qf (ai (ag 21) av))) (im (ai (aT (ai (aT (ai (bf "vmap") (ai (aT (ai (bf "field") (ai (ag 9) av))) (ai (aT (ai (bf "map") (ai (bY nF (ai (ag 12) av)) av))) av)))) av)) av))) (gj 10 (az (cD (aT (ai (ag 10) (ai (ag 21) (ai (aT (ai (bf "goto") (ai (bI .Add (bf "n") (bY qf (ai (ag 21) av))) av))) av))))) aH)))))))))))))
theorem Xu(X:Gd c (n+1))(h:∀c,Gd c n->IT c [.v a,.v b,.v d,.v e,.v f,.v g,.u,.u,.u,.u,.u,.u,.u,.u,.u,.u,.u,.u,.u,.u,.u,.u,.u] G (λY G=>Q .none G) (λY Y=>aC) Q):FC c (.ref 314) [a,b,d,e,f,g] G Q:=d7 ⟨314,38,ak,"_law_side","law_pq1084_01",578⟩ IT ["diagrams","space","variable","row","sides","chains"] [ac "diagrams",ac "space",ac "variable",ac "row",ac "sides",ac "chains",ac "runs",ac "k",ac "behind",ac "name",ac "told",ac "parts",ac "elements",ac "first",ac "last",ac "low",ac "high",ac "path",ac "verdict",ac "spans",ac "span",ac "number",ak] 17 ax [(296,6,ax),(305,19,ax),(307,11,ax),(309,10,ax)] [("k",22)] X.B X.R (λE R=>h _ ⟨X.B,R⟩) (by kernel_rfl) (by kernel_rfl) aa (by kernel_rfl) (OC λY Y Y Y Y Y=>by kernel_rfl) (by kernel_rfl)
def IU:=(az (dR (dO eT 8 (ai (cW (.ref 314) (ai (ag 0) (ai (ag 1) (ai (ag 6) (ai (ag 7) (ai (rV (ag 5) (qp (ag 9)) (qp (bI .Add (ag 9) (bY dU (ai (ag 7) av)))) mA) (ai (ag 4) av))))))) av))) aH)
def IW:=(az (bS 7 (bO (ag 2) (ag 6))) (az (eu 8 (eg av)) (az (dP (bK 9) (qh (bY qe (ai (aO 0) (ai (bY dU (ai (ag 5) av)) (ai (bY dU (ai (ag 7) av)) av))))) IU) (gj 8 (az (bS 5 (ag 8)) aH)))))
def IX:=(az (bS 5 (g7 [10] (bK 10) (dk (ag 3)) (fi (aT (ai (im (ai (aT (ai (aT av) (ai (ag 10) av))) av)) (ai (d6 (ag 0) "leaf" (ai (ag 10) av)) (ai (aT (ai (ag 10) (ai (bf "") av))) av))))))) (az (dP (bK 6) (qh (bY qe (ai (bI .Sub (bY dU (ai (ag 2) av)) (aO 1)) (ai (jZ (aO 1)) (ai (jZ (aO 1)) av))))) IW) (az (cD (bT (ag 5) 0)) aH)))
theorem Xv(X:Gd c (n+1))(h:∀c,Gd c n->IX c [.v a,.v b,.v d,.v e,.v f,.u,.u,.u,.u,.u,.u] G (λY G=>Q .none G) (λY Y=>aC) Q):FC c (.ref 319) [a,b,d,e,f] G Q:=d7 ⟨319,39,ak,"_law_due","law_pq1084_01",578⟩ IX ["diagrams","space","few","table","chains"] [ac "diagrams",ac "space",ac "few",ac "table",ac "chains",ac "sides",ac "variable",ac "row",ac "shorter",ac "at",ak] 6 ax [(317,8,ax)] [("verdict",10)] X.B X.R (λE R=>h _ ⟨X.B,R⟩) (by kernel_rfl) (by kernel_rfl) aa (by kernel_rfl) (rz λY Y Y Y Y=>by kernel_rfl) (by kernel_rfl)
theorem Xw(g:0<=k)(hk:k<2^63)(h:l[k.toNat]?=ac x)(q:Q x G)
 (m:∀a u,jt c ax (.ref a) (.int k u)=ju [.ref a,.int k u] (hY (.ref a) (.int k u))):
 jr A d c (.tup l) (.int k) G Q:=by
 unfold jr;intro o s u v S i j;cases j;rw[sX] at i;refine dz i ?_;rintro a vs n rfl e p;have r:=p.all;obtain⟨y,f⟩:∃y,vs.toList[k.toNat]?=ac y:=⟨_,cr (aj [_,_,_] 80785593593846800 rfl ((dF.mp h).1) r.length)⟩
 have b:=(dF.mp f).1;refine oj ⟨_,e,aa⟩ LO.lookup (LP e (ay [_] 0x10f0a080e0e0e0e0e0e0e0e0e0e0e0e0e0e8e0810c008 aa g) hk (k:=k.toNat) ?_ (by simpa using f) (PV.here (x:=x) (tk:=s.toks) S (r.at f h) q)) (m _ _);simp only[d9] at b;exact yF g b
theorem Xx:∀(a)(i)(x),iD i (a++[x])=iD i a++[(x,.int ((i+a.length:ah)))]:=λc=>c.rec
 (λi x=>by simp[iD.q1,iD.q2])
 (λy r b i x=>by simp only[mq,iD.q2,b (i+1) x,cG];congr 3;rw[show i+1+r.length=i+(r.length+1) by exact bQ (aj [_,_] 76448047324828032 aa) (aj [_,_] 76439772802390032 aa)])
theorem Xy:∀{b}{i}{x},x∉b->(iD i b).lookup x=ak:=by
 intro c;induction c with
 |nil=>exact@λY Y Y=>rfl
 |cons y r a=>exact@λi x h=>by rw[iD.q2,ez,pQ.mpr (λe=>h (by rw[e];exact aP))];exact a λd=>h (ba _ d)
noncomputable def uT:ae af:=[0,1,0,0,5,0,5,0,5,1,0,33,0,0,17,0,37]
def jd(x:af):=if x.fmod 3=0 then W0 else if x.fmod 3=1 then W1 else W2
noncomputable def uU(a b:af):=if b<a then b else a
noncomputable def mN(a b c d i:af):=if i=0 then a else if i=1 then b else if i=2 then c else d
theorem Xz{a b c d i:af}(g:0<=i)(h:i<4):[cJ a,cJ b,cJ c,cJ d][i.toNat]?=ac (.int (mN a b c d i)):=by have:=xX (k:=4) (P:=λi=>i=0\/i=1\/i=2\/i=3) g h (by decide+kernel);(refine aB this ?_ ?_;rotate_left;intro e;refine aB e ?_ ?_<;>clear e;rotate_left;intro f;refine aB f ?_ ?_<;>clear f<;>rintro rfl;rotate_right;rintro rfl;rotate_right;rintro rfl)<;>rfl
def kj(x a:af):=
 if x.fmod 4=0 then(0,a) else
 if a<16 then((x.fdiv 4).fmod (a+1),uU a ((x.fdiv 4).fmod (a+1)+((x.fdiv 4).fdiv (a+1)).fmod 3))
 else(mN 0 7 (a.fdiv 2) (a-11) ((x.fdiv 4).fmod 4)+((x.fdiv 4).fdiv 4).fmod 12,
  uU a (mN 0 7 (a.fdiv 2) (a-11) ((x.fdiv 4).fmod 4)+((x.fdiv 4).fdiv 4).fmod 12+mN 5 0 1 (a.fdiv 4) (((x.fdiv 4).fdiv 48).fmod 4)))
theorem IY{a m w:af}(b:0<=m)(c:m<=a)(d:0<=w):0<=m/\m<=uU a (m+w)/\uU a (m+w)<=a:=by
 refine aF b ?_;unfold uU;by_cases q:m+w<a
 ·rw[aR q];exact aF (XA d) (yc q)
 ·rw[aQ q];exact aF c (fB _)
theorem IZ{P:af->Prop}(e:P a)(f:P b)(g:P c)(j:P d):P (mN a b c d i):=by
 unfold mN;by_cases h:i=0
 ·rw[aR h];exact e
 ·rw[aQ h];by_cases h:i=1
  ·rw[aR h];exact f
  ·rw[aQ h];by_cases h:i=2
   ·rw[aR h];exact g
   ·rw[aQ h];exact j
theorem XB(x e)(g:0<=e)(l:e<16\/22<=e):0<=(kj x e).1/\(kj x e).1<=(kj x e).2/\(kj x e).2<=e:=by
 unfold kj;by_cases i:x.fmod 4=0
 ·rw[aR i];exact ca (fB _) g (fB _)
 ·rw[aQ i];by_cases h:e<16
  ·rw[aR h];exact IY (lQ _ (vp g)) (Cz (kX _ (vp g))) (lQ _ (bl _))
  ·rw[aQ h];have f:=l.resolve_left h;have n:=kX ((x.fdiv 4).fdiv 4) (show(0:af)<12 by exact bl _);have j:=XC e 2;have o:=XC e 4;have p:=kX e (show(0:af)<4 by exact bl _);have k:0<=mN 0 7 (e.fdiv 2) (e-11) ((x.fdiv 4).fmod 4)/\mN 0 7 (e.fdiv 2) (e-11) ((x.fdiv 4).fmod 4)+11<=e:=IZ (P:=λz=>0<=z/\z+11<=e) (a:=0) (b:=7) (c:=e.fdiv 2) (d:=e-11) ⟨bl _,show(0:af)+11<=e by exact ay [_] 0x10f09b80810c0681e aa f⟩ ⟨bl _,show(7:af)+11<=e by exact ay [_] 0x10f09b87810c0681e aa f⟩ ⟨show 0<=e.fdiv 2 by exact ay [_,_,_] 0x20f20815c0912b211c28110c0681e aa j (kX e (show(0:af)<2 by exact bl _)) f,show e.fdiv 2+11<=e by exact ay [_,_,_] 0x20f09b8212c0912b210c10810c0681e aa j (lQ e (show(0:af)<2 by exact bl _)) f⟩ ⟨show 0<=e-11 by exact ay [_] 0x10fab800810c0681e aa f,show e-11+11<=e by exact ay [_] 1164099234688 aa⟩;have m:=k.2;exact IY (vm k.1 (lQ _ (bl _))) (show mN 0 7 (e.fdiv 2) (e-11) ((x.fdiv 4).fmod 4)+((x.fdiv 4).fdiv 4).fmod 12<=e by exact eD (Int.add_le_add_left (Cz (kX _ (show(0:af)<12 by exact bl _))) _) m) (IZ (P:=λz=>0<=z) (a:=5) (b:=0) (c:=1) (d:=e.fdiv 4) (bl _) (bl _) (bl _) (show(0:af)<=e.fdiv 4 by exact Int.fdiv_nonneg (eD (by decide:(0:af)<=22) f) (by decide)))
structure Bx where
 vd:aA
 sp:ae (af×af)
noncomputable def Bx.lo(b:Bx)v:=(b.sp.getD v (0,0)).1
noncomputable def Bx.hi(b:Bx)v:=(b.sp.getD v (0,0)).2
def hO(p:af×af):=qJ p.1 p.2
def cz(b:Bx):aA:=.tuple [b.vd,.list (b.sp.map hO)]
theorem XD{b:Bx}(h:v<b.sp.length):(b.sp.map hO)[((v:ah):af).toNat]?=ac (qJ (b.lo v) (b.hi v)):=by simp only[lA,fH,cr h,rt];delta Bx.lo Bx.hi hO;rw[cY,cr h];rfl
noncomputable def iF a(x:af):=if x∈a then a else a++[x]
def jJ v a c(b:Bx):=if b.hi v<a then iF (iF c (b.lo v)) (b.hi v+1) else iF c (b.lo v)
theorem XE(h:b.hi v<a):jJ v a c b=iF (iF c (b.lo v)) (b.hi v+1):=aR h
theorem XF(h:¬b.hi v<a):jJ v a c b=iF c (b.lo v):=aQ h
def sB(a:ae Bx)(v:ah)(b:af):=a.foldl (jJ v b) [0]
def je(a:ae Bx)(v:ah)(b:af):=(sB a v b).mergeSort
noncomputable def tT(a:ae af):ae (af×aA):=a.map λx=>(x,.bool ao)
theorem I0(a)(x):gv (tT a) x (.bool ao)=tT (iF a x):=by
 delta gv iF;by_cases h:x∈a
 ·have b:(tT a).any (λp=>decide (p.1=x))=ao:=by simp[tT,h]
  rw[aR b,aR h];unfold tT;rw[eI];apply i7;intro y Y;simp only[xt];split<;>rfl
 ·have b:¬(tT a).any (λp=>decide (p.1=x))=ao:=λc=>by refine au (yq.mp c) λp d e=>au (bV.mp d) ?_;rintro y f rfl;exact h (aW e▸f)
  rw[aQ b,aQ h];simp[tT]
theorem xu(a)(x):(iF a x).length<=a.length+1:=by unfold iF;split<;>simp
theorem I1(v)(c)(a)(b):(jJ v c a b).length<=a.length+2:=by
 unfold jJ;split
 ·have:=xu (iF a (b.lo v)) (b.hi v+1);have:=xu a (b.lo v);(rename_i d;exact aj [_,_,_] 0x10f9281210c9180210c91810 aa d this)
 ·have:=xu a (b.lo v);exact aj [_,_] 0x10f9281010c91810 aa this
theorem I2(v)(c):∀(a:ae Bx)(d),(a.foldl (jJ v c) d).length<=d.length+2*a.length:=λg=>g.rec
 (λd=>by simp)
 (λb r e d=>by have:=e (jJ v c d b);have:=I1 v c d b;simp only[jw,cG];(rename_i f;exact aj [_,_,_,_] 0x10f92b91831210c92b30210c92810 aa f this))
def gk(a:ah)(c:ae Bx)(d:ah)(e:af):=gY (motive:=λY=>ah->ah->af->ah) (λY Y Y=>0) (λb r f k v n=>(if b.lo v<=n/\n<=b.hi v then 2^k else 0)+(f (k+1) v n)) c a d e
theorem gk.q1:gk (a) ([]) (b) (c)=(0):=aa
theorem gk.q2:gk (k) (b::r) (v) (n)=((if b.lo v<=n/\n<=b.hi v then 2^k else 0)+gk (k+1) r v n):=aa
theorem XG(v)(n):∀(a)(k)(b),gk k (a++[b]) v n=gk k a v n+(if b.lo v<=n/\n<=b.hi v then 2^(k+a.length) else 0):=λd=>d.rec
 (λk b=>by simp[gk.q1,gk.q2])
 (λx r c k b=>by rw[mq,gk.q2,c (k+1) b,gk.q2,cG,show k+1+r.length=k+(r.length+1) by exact bQ (aj [_,_] 76448047324828032 aa) (aj [_,_] 76439772802390032 aa)];exact bQ (aj [_,_,_] 298597149676048 aa) (aj [_,_,_] 298625335372048 aa))
def kl a v(d:ae af)(b:ae ah):=b.flatMap λc=>d.map λn=>c&&&gk 0 a v n
def iG b c d e:=gY (motive:=λY=>ah->(ae ah)->ae ah) (λY a=>a) (λf r g v a=>(g (v+1) (kl b v f a))) d c e
theorem iG.q1:iG b (c) ([]) (a)=(a):=aa
theorem iG.q2:iG a (v) (c::r) (b)=(iG a (v+1) r (kl a v c b)):=aa
theorem XH(b):∀(d:ae (ae af))(v:ah)(c:ae af)(a:ae ah),iG b v (d++[c]) a=kl b (v+d.length) c (iG b v d a):=λf=>f.rec
 (λv c a=>rfl)
 (λx r e v c a=>by rw[mq,iG.q2,e (v+1) c,iG.q2,cG,show v+1+r.length=v+(r.length+1) by exact bQ (aj [_,_] 76448047324828032 aa) (aj [_,_] 76439772802390032 aa)])
noncomputable def kY(a:ae Bx)(k:ah):=((a[k]?).map (·.vd)).getD .none
def mO a(d:ae ah)b(c:ah):=((d.filter λk=>c.testBit k).map (kY a)++[b]).headD .none
def gS a c b d:=(iG a 0 d [2^a.length-1]).map (mO a c b)
noncomputable def fN(a:ae af):aA:=.list (a.map .int)
theorem I3:(kl b v d a).length=a.length*d.length:=by
 unfold kl;rw[List.length_flatMap];induction a with
 |nil=>simp
 |cons c r e=>rw[c9,nL,e,aI,cG,xk];exact bQ (aj [_,_] 1166380374288 aa) (aj [_,_] 1166353701648 aa)
theorem XI(h:∀c∈a,c<b):∀c∈kl e v g a,c<b:=λc d=>by unfold kl at d;refine au (List.mem_flatMap.mp d) λx f d=>au (bV.mp d) ?_;rintro n Y rfl;exact qm Nat.and_le_left (h x f)
theorem XJ:∀{d:ae (ae af)}{v:ah}{a:ae ah},(∀c∈a,c<b)->∀c∈iG e v d a,c<b:=by
 intro g;induction g with
 |nil=>exact@λY Y h=>h
 |cons i r f=>exact@λv a h=>f (XI h)
theorem XK(a b:ah):Fd (a:af) (b:af)=((a&&&b:ah):af):=by rw[abO (by exact ay [_] 18623113510920 aa (bl _)) (by exact ay [_] 18623113510920 aa (bl _))];rfl
theorem XM(c k:ah):(((c:af).fdiv ((2:af)^k)).fmod 2=1)↔c.testBit k=ao:=by rw[(by push_cast;rfl:((2:af)^k)=((2^k:ah):af)),XN _ (bl _),XO _ (by exact bl _),BC,BE,<-Int.natCast_ediv];generalize c/2^k=z;exact gW (m:=z%2) (n:=1)
theorem BG:∀(l:ae d),(∀k∈l,f k=ac (g k))->l.filterMap f=l.map g:=λb=>b.rec
 (λY=>rfl)
 (λk l a h=>by rw[Ef,h k aP,c9,a λj c=>h j (ba _ c)])
theorem XQ(a):kF a ak ak (ac (-1))=a.reverse:=by
 delta kF mh zw;simp only[I4,show¬((-1:af)>0) by exact aW aa,pJ,show-(-1:af)=1 by rfl];have d:(if((a.length:af)-1)>-1 then(((a.length:af)-1)-(-1)-(-1)-1)/1 else 0).toNat=a.length:=by
  split
  ·rw[xY];(rename_i b;exact bQ (bD.1 (ay [_,_] 0x10f1012ca18aa1808aa1808a1810 aa (dh (ay [↑a.length] 0x10fa18aa1808aa1808a1800811ca180a1808 aa b)))) (bD.1 (ay [_,_] 0x10f0115ca18aa1808aa1808a1810 aa (dh (ay [↑a.length] 0x10fa18aa1808aa1808a1800811ca180a1808 aa b)))))
  ·(rename_i b;exact bQ (bD.1 (ay [_,_] 0x10f0112c08110c008 aa (dh (ay [] 17762312 aa)) (bl _))) (bD.1 (ay [_,_] 0x10f0114ca181a180815c080 aa b (dh (ay [] 17762312 aa)))))
 rw[d,Eh];apply xy;intro i;have h:(cC a.length).filterMap ((λx=>a[x]?)∘λ(k:ah)=>((a.length:af)-1+-1*(k:af)).toNat)=(cC a.length).map λk=>a.getD (a.length-1-k) .none:=by refine BG _ λk hk=>?_;simp only[xt,cY];rw[show((a.length:af)-1+-1*(k:af)).toNat=a.length-1-k by rw[Cr,vj,<-Int.sub_eq_add_neg,Int.sub_sub,Nat.sub_sub];exact CC _ _,cr (by exact aj [_,_,_] 0x11f1210c0212c19180 aa (ow (a.length-1) (k)) (dt (aj [_,_] 1164229811216 aa (kS.mp hk):1<=a.length)))];rfl
 rw[h];by_cases c:i<a.length
 ·rw[fH,uV c,rt,List.getElem?_reverse c,cY,cr (by exact aj [_,_,_] 0x11f1210c0212c19180 aa (ow (a.length-1) (i)) (dt (aj [_,_] 1164229811216 aa c:1<=a.length)))];rfl
 ·rw[nV (by simp;exact aj [_,_] 72747142160 aa c),nV (by simp;exact aj [_,_] 72747142160 aa c)]
noncomputable def eP k n(b:Bx)(x:ah->af):=(cC n).all λv=>decide (v<k)||(decide (b.lo v<=x v)&&decide (x v<=b.hi v))
theorem qN:eP k n b x=ao↔∀v,k<=v->v<n->b.lo v<=x v/\x v<=b.hi v:=by
 unfold eP;simp only[gK,kS,Ex,fD,Nk];constructor
 ·intro h v a c;refine aB (h v c) (λh=>?_) (λh=>?_)
  ·exact aF (aj [_,_] 0x16f080811c0110c10 aa h a:aC).elim (aj [_,_] 0x16f080811c0110c10 aa h a:aC).elim
  ·exact h
 ·intro h v c;by_cases a:v<k
  ·exact .inl a
  ·exact .inr (h v (aj [_,_] 72747142160 aa a) c)
def gl n a c e:=gY (motive:=λY=>aA->((ah->af))->aA) (λd Y=>d) (λb r f d x=>if eP 0 n b x=ao then b.vd else(f d x)) a c e
theorem gl.q1:gl n ([]) (d) (a)=(d):=aa
theorem gl.q2:gl n (b::r) (d) (x)=(if eP 0 n b x=ao then b.vd else gl n r d x):=aa
def mP(T:ae af)(E:ah->ae af)(b:Bx):=
 b.sp.length=T.length/\
 gw b.vd=ao/\
 ∀(v)(a),T[v]?=ac a->0<=b.lo v/\b.lo v<=b.hi v/\b.hi v<=a/\(b.lo v=0\/b.lo v∈E v)/\(b.hi v=a\/b.hi v+1∈E v)
def mP.len(a:mP T E b):=a.1
def mP.vd(a:mP T E b):=a.2.1
def mP.sp(a:mP T E b):=a.2.2
theorem XR{b lo f t:af}(i:0<=lo)(j:lo<=f)(k:f<=b)(h:0<=t)(g:t<=b):d4 (fW b lo f y n) t=ac (if lo<=t/\t<=f then y else n):=by
 unfold fW;have B:d4 ([(f,y)]++(if f+1<=b then[(b,n)] else[])) t=ac (if t<=f then y else n):=by
  rw[I5,d4.q2];by_cases c:t<=f
  ·rw[aR c,aR c]
  ·rw[aQ c,aQ c,aR (eD (Int.lt_of_not_ge c) g:f+1<=b),d4.q2,aR g]
 have F:lo<=t->ac (if t<=f then y else n)=ac (if lo<=t/\t<=f then y else n):=λe=>by
  by_cases c:t<=f
  ·rw[aR c,aR ⟨e,c⟩]
  ·rw[aQ c,aQ λz=>c z.2]
 by_cases a:0<lo
 ·rw[aR a,I5,d4.q2];by_cases d:t<=lo-1
  ·rw[aR d,aQ λz=>bv (Int.lt_of_le_sub_one d) (hU.mpr z.1)]
  ·rw[aQ d,B,F (hU.mp λz=>d (Hq z))]
 ·rw[aQ a,jG,B,F (eD (hU.mp a) h)]
theorem I6{a lo d:af}(h:p∈fW a lo d y n):(p.1=a\/p.1=d\/(0<lo/\p.1+1=lo))/\(p.2=y\/p.2=n):=by
 unfold fW at h;simp only[ed,bZ] at h;refine aB h ?_ ?_<;>clear h;rotate_left;intro b;refine aB b (λh=>?_) (λh=>?_)<;>clear b;rotate_right;intro h
 ·split at h
  ·rename_i c;simp at h;subst h;exact aF (.inr (.inr ⟨c,by simp⟩)) (.inr aa)
  ·cases h
 ·subst h;exact aF (.inr (.inl aa)) (.inl aa)
 ·split at h
  ·simp at h;subst h;exact aF (.inl aa) (.inr aa)
  ·cases h
theorem XS(g:bW T E N)(H:mP T E b)(hk:T[k]?=ac a)(I:i<N.length)(q:N[z]?=ac (.leaf (.int 0)))(J:k+1<=bt T N i)
 (L:∀x,b6 T x->bU N x i=.int (if eP (k+1) T.length b x=ao then 1 else 0)):
 bW T E (cX N k (fW a (b.lo k) (b.hi k) i z)).1/\dH N (cX N k (fW a (b.lo k) (b.hi k) i z)).1/\(cX N k (fW a (b.lo k) (b.hi k) i z)).2<(cX N k (fW a (b.lo k) (b.hi k) i z)).1.length/\
 (cX N k (fW a (b.lo k) (b.hi k) i z)).1.length<=N.length+1/\k<=bt T (cX N k (fW a (b.lo k) (b.hi k) i z)).1 (cX N k (fW a (b.lo k) (b.hi k) i z)).2/\
 ∀x,b6 T x->bU (cX N k (fW a (b.lo k) (b.hi k) i z)).1 x (cX N k (fW a (b.lo k) (b.hi k) i z)).2=.int (if eP k T.length b x=ao then 1 else 0):=by
 refine iJ (H.sp k a hk) λB C D l M=>lh (Hp (y:=i) (n:=z) B C D) λQ U W Y=>?_;have o:=(dF.mp hk).1;refine sM (xa g hk Q U (λp r=>by
  refine aB (I6 r).1 (λh=>?_) ?_;rotate_left;intro j;refine aB j (λh=>?_) ?_<;>clear j;rotate_left;intro s;refine aw s λh h'=>?_;rotate_right;rotate_right
  ·exact .inl h
  ·rw[h];exact M
  ·refine aB l ?_ ?_<;>clear l<;>intro l
   ·exact(ay [_] 0x16f080811c00812c080 aa h l:aC).elim
   ·right;rw[h'];exact l) (λp r=>by
  refine aB (I6 r).2 (λh=>?_) (λh=>?_)
  ·rw[h];exact aF I (aj [_,_] 315628837769600 aa J)
  ·rw[h];exact aF ((dF.mp q).1) (aj [_,_,_] 80785593593846800 aa o (by unfold bt;rw[q];rfl:bt T N z=T.length))) W) λg1 g2 g3 g4 g5 g6=>?_
 refine xK g1 g2 g3 g4 g5 λx t=>au (g6 x t) λm G u=>aw (t k a hk) λt0 t1=>?_;rw[XR B C D t0 t1] at G;cases G;rw[u];have f:eP k T.length b x=ao↔(b.lo k<=x k/\x k<=b.hi k)/\eP (k+1) T.length b x=ao:=by
  rw[qN,qN];constructor
  ·intro h;exact aF (h k (cO _) o) λv w A=>h v (aj [_,_] 298036651725184 aa w) A
  ·intro j;refine aw j λw A=>?_;intro v h3 h4;by_cases e:v=k
   ·subst e;exact w
   ·exact A v ((Bd e).elim (λe=>aj [_,_] 0x10f0918120c0111c10 aa h3 e) λe=>aj [_,_] 298075428035600 aa e) h4
 by_cases c:b.lo k<=x k/\x k<=b.hi k
 ·rw[aR c,L x t];by_cases d:eP (k+1) T.length b x=ao
  ·rw[aR d,aR (f.mpr ⟨c,d⟩)]
  ·rw[aQ d,aQ λh=>d (f.mp h).2]
 ·rw[aQ c,g8 q,aQ λh=>c (f.mp h).1]
def sC(c:ae (ae af))d e:=gY (motive:=λY=>ah->(ae af)->ae af) (λY a=>a) (λb r f i a=>(f (i/b.length) (b.getD (i%b.length) 0::a))) c d e
theorem sC.q2:sC (a::r) (i) (b)=(sC r (i/a.length) (a.getD (i%a.length) 0::b)):=aa
def gz(a:ae (ae af))i:=sC a.reverse i []
theorem I7(n:ah)(h:n<=1000000):kC ((n:af)-1) (-1) (-1)=ao/\ie ((n:af)-1) (-1) (-1)=(n:af):=by
 have e:ie ((n:af)-1) (-1) (-1)=(n:af):=by
  unfold ie;rw[aQ (aW aa)];split
  ·rw[show-(-1:af)=1 by rfl,xY];exact fC (ay [_] 0x10f0918a18aa1808a180 aa) (ay [_] 0x10f918a18aa1808a1800 aa)
  ·(rename_i a;exact fC (ay [_] 18623113510920 aa (bl _)) (ay [_] 0x10f08014ca180a1808 aa a))
 refine aF ?_ e;unfold kC;rw[e];simp[I8];exact aF ⟨ay [_] 0x10fa180a080e0e0e0e0e0e0e0e0e0e0e0e0e0e8e0810c008 aa (bl _),ay [_] 0x11f080e0e0e0e0e0e0e0e0e0e0e0e0e0e8ea18010c084e2e4efe0 aa (bD.2 h)⟩ (ay [_] 0x11f080e0e0e0e0e0e0e0e0e0e0e0e0e0e8e010c084e2e4efe0 aa (bD.2 h))
def mQ T E N(M:ae (aA×aA))b a c d e r:=
 bW T E d/\
 iB T d e/\
 dH N d/\
 d.length<=N.length+c*b.length/\
 e.length<=M.length+c*b.length/\
 r<d.length/\
 ∀x,b6 T x->bU d x r=gl T.length b (bU N x a) x
def mQ.good(d:mQ T E N M b a c e f r):=d.1
def mQ.memo(d:mQ T E N M b a c e f r):=d.2.1
def mQ.pre(d:mQ T E N M b a c e f r):=d.2.2.1
def mQ.nl(d:mQ T E N M b a c e f r):=d.2.2.2.1
def mQ.ml(d:mQ T E N M b a c e f r):=d.2.2.2.2.1
def mQ.lt(d:mQ T E N M b a c e f r):=d.2.2.2.2.2.1
def mQ.val(d:mQ T E N M b a c e f r):=d.2.2.2.2.2.2
def nW(w:ek)(x:ah->af):=∀e∈w,e.2.1<=x e.1/\x e.1<=e.2.2
theorem XT(k)(f):∀{e:ae (af×ah)}{low:af}{m:ah},low<=t->d4 e t=ac m->∃lo b,lo<=t/\t<=b/\∀q∈f m,((k,lo,b)::q.1,q.2)∈wl k f low e:=by
 intro g;induction g with
 |nil=>exact@λlow m _ h=>by trivial
 |cons p r c=>
  exact@λlow m i h=>by
   rw[d4.q2] at h;split at h
   ·rename_i a;cases h;exact qT low p.1 i a λq d=>by rw[wl.q2];exact gg _ (bV.mpr ⟨q,d,aa⟩)
   ·rename_i a;refine dD (c (low:=p.1+1) (ay [_,_] 298006709615632 aa a) h) λlo b j l n=>qT lo b j l λq d=>by rw[wl.q2];exact iY _ (n q d)
theorem BH(k)(f):∀{ps:ae (af×ah)}{low:af},eh (low-1) ps->∀w∈wl k f low ps,∃(lo a:af)(q:ek×aA),w=((k,lo,a)::q.1,q.2)/\low<=lo:=by
 intro d;induction d with
 |nil=>exact@λlow Y w h=>by simp[wl.q1] at h
 |cons p r b=>
  exact@λlow c w h=>by
   rw[wl.q2] at h;refine aB (ed.mp h) (λh=>?_) (λh=>?_)
   ·refine au (bV.mp h) ?_;rintro q i rfl;exact lS low p.1 q aa (fB _)
   ·refine fa (b (low:=p.1+1) (by rw[pF];exact c.2) w h) λlo a q e g=>lS lo a q e (ay [_,_,_] 0x10f1211c0a18210c19180 aa c.1 g)
theorem XU(k)(f):∀{d:ae (af×ah)}{low:af},eh (low-1) d->∀(lo c)(q),((k,lo,c)::q.1,q.2)∈wl k f low d->lo<=t->t<=c->∃m,d4 d t=ac m/\q∈f m:=by
 intro s;induction s with
 |nil=>exact@λlow Y lo c q h Y Y=>by simp[wl.q1] at h
 |cons p r g=>
  exact@λlow j lo c q h l n=>by
   rw[wl.q2] at h;refine aB (ed.mp h) (λh=>?_) (λh=>?_)
   ·refine au (bV.mp h) λo i e=>?_;simp only[XW,pG,EA] at e;refine aw e λa=>aw a λb=>aw b ?_;rintro rfl rfl u v;refine bi p.2 (by rw[d4.q2];rw[aR n])<|(VL u v:o=q)▸i
   ·refine fa (BH k f (ps:=r) (low:=p.1+1) (by rw[pF];exact j.2) _ h) λw x o e y=>?_;simp only[XW,pG,EA] at e;refine aw e λa=>aw a λb=>aw b ?_;rintro rfl rfl Y Y;refine au (g (low:=p.1+1) (by rw[pF];exact j.2) lo c q h l n) λm z i=>bi m (by rw[d4.q2];rw[aQ (by exact ay [_,_,_] 0x13f0210c2110c19180 aa l y)];exact z) i
theorem xz(g:bW T E N)(s:b6 T x):∀(n),n<N.length->(∃w∈b9 N n,nW w.1 x)/\∀w∈b9 N n,nW w.1 x->w.2=bU N x n:=by
 intro n;induction n using mF with
 |_ n B=>
  intro C
  have e:=cr C
  cases u:N[n] with
  |leaf v=>rw[u] at e;rw[mI e,g8 e];exact aF ⟨_,bZ.mpr aa,λe D=>by simp at D⟩ λw j Y=>by rw[bZ.mp j]
  |br k ps=>
   rw[u] at e;refine mU (g.step s e) λm y l Y G o=>aw (B m l o) λH I=>cP (g.br e).top λp a A hl Y=>aw (s k p a) λJ b2=>?_;rw[mJ g e,G];refine dD (XT k (b9 N) (low:=0) J y) λlo hi L M Q=>au H λw j r=>aF ⟨_,Q w j,λz b=>?_⟩ λU c d=>?_
   ·refine aB (bj.mp b) ?_ (λb=>?_);rintro rfl
    ·exact aF L M
    ·exact r z b
   ·refine fa (BH k (b9 N) (low:=0) (A) U c) ?_;rintro f h q rfl Y;have hk:=d (k,f,h) aP;refine au (XU k (b9 N) (t:=x k) (low:=0) (A) f h q c hk.1 hk.2) λm' i W=>?_;rw[y] at i;cases i;exact I q W λz b=>d z (ba _ b)
theorem XY(k)(f):∀{c:ae (af×ah)}{low:af},eh (low-1) c->(∀p∈c,(f p.2).Pairwise λa b=>∀x,nW a.1 x->nW b.1 x->aC)->(wl k f low c).Pairwise λa b=>∀x,nW a.1 x->nW b.1 x->aC:=by
 intro n;induction n with
 |nil=>exact@λlow _ _=>by constructor
 |cons p r d=>
  exact@λlow l m=>by
   rw[wl.q2];rw[List.pairwise_append];refine ca ?_ (d (low:=p.1+1) (by rw[pF];exact l.2) λq o=>m q (ba _ o)) λa s b t x e g=>?_
   ·rw[XZ];exact(m p aP).imp λh x e g=>h x (λz i=>e z (ba _ i)) λz i=>g z (ba _ i)
   ·refine au (bV.mp s) ?_;rintro q _ rfl;refine fa (BH k f (ps:=r) (low:=p.1+1) (by rw[pF];exact l.2) b t) ?_;rintro lo u w rfl v;have:=(e (k,low,p.1) aP).2;have:=(g (k,lo,u) aP).1;simp only at*
    (rename_i j;exact ay [_,_,_] 0x16f080810c2918110c0210c10 aa v this j)
theorem X4(g:bW T E N):∀(n),n<N.length->(b9 N n).Pairwise λa b=>∀x,nW a.1 x->nW b.1 x->aC:=by
 intro n;induction n using mF with
 |_ n i=>
  intro c
  have e:=cr c
  cases d:N[n] with
  |leaf v=>rw[d] at e;rw[mI e];simp
  |br k m=>rw[d] at e;rw[mJ g e];refine cP (g.br e).top λj f l o Y=>XY k (b9 N) (low:=0) (l) λp h=>i p.2 ((g.br e).ch p h).1 (by have:=((g.br e).ch p h).1;exact aj [_,_,_] 80803185763097616 aa this c)
theorem BI(g:bW T E N)(h:dy N a m):m<=a:=by
 induction h with
 |here=>exact cO _
 |step _ e b c=>have:=((g.br e).ch _ b).1;exact aj [_,_,_] 76299586135723024 aa this c
theorem I9(p:dH N d)(g:bW T E N)(f:a<N.length):dy d a m↔dy N a m:=by
 constructor
 ·intro h;induction h with
  |here=>exact .here
  |step _ e c b=>have:=BI g b;rw[p.at (by exact aj [_,_,_] 80803181468130320 aa this f)] at e;exact b.step e c
 ·intro h;induction h with
  |here=>exact .here
  |step _ e c b=>exact b.step (p.get e) c
theorem BJ(p:dH N a)(g:bW T E N)(f:bW T E a):∀(n),n<N.length->b9 a n=b9 N n:=by
 intro n;induction n using mF with
 |_ n h=>
  intro b
  have e:=cr b
  cases c:N[n] with
  |leaf v=>rw[c] at e;rw[mI e,mI (p.get e)]
  |br k i=>rw[c] at e;rw[mJ g e,mJ f (p.get e)];exact Bi k i 0 λq d=>h q.2 ((g.br e).ch q d).1 (by have:=((g.br e).ch q d).1;exact aj [_,_,_] 80803185763097616 aa this b)
theorem Ja(b:ae f)(a c)(h:a+c<=b.length)(d:f):((cC c).filterMap λk=>b[a+k]?)=(b.drop a).take c:=by
 rw[BG (g:=λk=>b.getD (a+k) d) _ λk hk=>by rw[cY,cr (by exact aj [_,_,_,_] 0x11f390210c391211c10 aa h (kS.mp hk))];rfl];apply xy;intro i;by_cases e:i<c
 ·rw[fH,uV e,rt,X6 e,X7,cY,cr (by exact aj [_,_,_,_] 0x11f390210c391211c10 aa h e)];rfl
 ·rw[nV (by simp;exact aj [_,_] 72747142160 aa e),nV (by simp;exact aj [_,_,_] 76281989671504912 aa (yp (c) (b.length-a)) e)]
theorem BK{lo f:bB af}{a b:ah}(d:a<=b)(g:b<=c.length)(e:mh lo f ak c.length=((a:af),(b:af),1)):kF c lo f ak=(c.drop a).take (b-a):=by unfold kF;rw[e];unfold zw;simp only[show((1:af)>0) by exact bl _,vG];have h:=KY a b;rw[h,Eh];rw[show((λx=>c[x]?)∘λ(k:ah)=>((a:af)+1*(k:af)).toNat)=λk=>c[a+k]? from funext λk=>by simp only[xt];rw[show((a:af)+1*(k:af)).toNat=a+k by exact bQ (bD.1 (ay [_,_,_] 0x10f921012c91b210 aa (dh (ay [↑k,↑a] 0x10f91b010810c10810c008 aa (bl _) (bl _))))) (bD.1 (ay [_,_,_] 0x10f092115c91b210 aa (dh (ay [↑k,↑a] 0x10f91b010810c10810c008 aa (bl _) (bl _)))))]];exact Ja c a (b-a) (aj [_,_,_,_] 0x10f192312c093210c10 aa (dt (aj [_,_] 72762854416 aa d:a<=b)) g) .none
theorem Jb(h:c≠[]):kF c (ac 1) ak ak=c.tail:=by
 have d:=kO.mpr h;rw[BK (a:=1) (b:=c.length) (aj [_] 18623382011912 aa d) (aj [_] 69376 aa)]
 ·rw[List.drop_one,X8 (by simp)]
 ·unfold mh;simp only[Jc,show((1:af)>0) by exact bl _,vG,show¬((1:af)<0) by exact aW aa,pJ];rw[xW (by exact bl _) (show(1:af)<=(c.length:af) from(bD.2 d:((1:ah):af)<=_))];rfl
theorem X9{a b:ah}(c:a<=b)(d:b<=e.length):kF e (ac (a:af)) (ac (b:af)) ak=(e.drop a).take (b-a):=by rw[BK c d];unfold mh;simp only[Jc,show((1:af)>0) by exact bl _,vG];rw[aQ (by exact ay [_] 23023173287944 aa (bl _)),aQ (by exact ay [_] 23023173287944 aa (bl _)),xW (bl a) (bD.2 (bn c d)),xW (bl b) (bD.2 d)]
noncomputable def fO(a:ae af)b:=a.tail++[b+1]
def dA c d(a:ae ah):=List.zipWith (λb m=>(b-1,m)) (fO c d) a
def dC b c(a:ae ah)(r:ah×ah):=((fO b c).getD r.2 0-1,a.getD r.1 0)
def nX(a:ah)(l:ae (ah×ah))(e:ah):Prop:=l.rec (λa=>a=e) (λp Y R a=>p.1=a/\a<=p.2/\R (p.2+1)) a
def hR(E:ah->ae af)k(c:ae af)d:=
 c[0]?=ac 0/\
 (∀i a b,c[i]?=ac a->c[i+1]?=ac b->a<b)/\
 (∀a∈c,0<=a/\a<=d)/\
 ∀a∈c,a∈E k
def hR.zero(a:hR E k b c):=a.1
def hR.up(a:hR E k b c):=a.2.1
def hR.le(a:hR E k b c):=a.2.2.1
def hR.edge(a:hR E k b c):=a.2.2.2
theorem nX.le:∀{r:ae (ah×ah)}{a e:ah},nX a r e->a<=e:=by
 intro d;induction d with
 |nil=>exact@λa e h=>fT h
 |cons p r b=>exact@λa e h=>by have:=b h.2.2;have:=h.2.1;(rename_i c;exact aj [_,_,_] 0x10f1210c0210c19180 aa this c)
theorem nX.snoc:∀{r:ae (ah×ah)}{a e:ah},nX a r e->nX a (r++[(e,e)]) (e+1):=by
 intro c;induction c with
 |nil=>exact@λa e h=>⟨h.symm,fT h,aa⟩
 |cons p r b=>exact@λa e h=>⟨h.1,h.2.1,b h.2.2⟩
theorem nX.grow:∀{r:ae (ah×ah)}{f l a e:ah},nX a (r++[(f,l)]) e->nX a (r++[(f,e)]) (e+1):=by
 intro g;induction g with
 |nil=>exact@λf l a e h=>by refine bu h λc d i=>?_;simp only at c d;exact⟨c,by simp only;exact aj [_,_,_] 0x10f1210c0212c19180 aa d (i:l+1=e),aa⟩
 |cons p r b=>exact@λf l a e h=>⟨h.1,h.2.1,b h.2.2⟩
theorem nX.mem:∀{r:ae (ah×ah)}{a e:ah},nX a r e->∀p∈r,a<=p.1/\p.1<=p.2/\p.2<e
 :=by
  intro r;induction r with
  |nil=>intro Y Y Y p b;cases b
  |cons q r g=>
   intro a e h p b;refine bu h λc d f=>aB (bj.mp b) ?_ (λb=>?_);rintro rfl
   ·exact ca (aj [_,_] 72747146256 rfl c) (aj [_,_,_] 76299590430690320 rfl c d) (aj [_,_] 315628837769600 rfl (nX.le f))
   ·have:=g f p b;exact ca (aj [_,_,_] 0x10f1210c0210c19180 aa d this.1) this.2.1 this.2.2
theorem xA(h:a≠[]):(fO a top).length=a.length:=by have:=kO.mpr h;unfold fO;simp;exact bQ (aj [_,_] 0x10f1918012c19180 aa (dt (aj [_] 18623382011912 aa this:1<=a.length))) (aj [_,_] 0x10f9180115c19180 aa (dt (aj [_] 18623382011912 aa this:1<=a.length)))
theorem Jd(h:a[i+1]?=ac b):(fO a top)[i]?=ac b:=by unfold fO;have c:=(dF.mp h).1;rw[jv (by simp;exact aj [_,_,_] 0x11f0211c1918215c19180 aa c (dt (aj [_,_] 4768685306777984 aa c:1<=a.length))),List.getElem?_tail];exact h
theorem Je(d:a.length=b.length)(c:i<b.length):(dA b top a)[i]?=ac (dC b top a (i,i)):=by have e:=xA (top:=top) (by rintro rfl;simp at c:b≠[]);delta dA dC;rw[List.getElem?_zipWith,cr (by exact aj [_,_,_] 80785593593846800 aa c e:i<(fO b top).length),cr (by exact aj [_,_,_] 80785593593846800 aa c d:i<a.length)];simp only[cY];rw[cr (by exact aj [_,_,_] 80785593593846800 aa c e:i<(fO b top).length),cr (by exact aj [_,_,_] 80785593593846800 aa c d:i<a.length)];rfl
theorem Jf(e:a.length=b.length)(d:b≠[]):(dA b top a).length=b.length:=by have c:=xA (top:=top) d;unfold dA;rw[List.length_zipWith];exact bQ (aj [_,_,_] 76299590430698512 aa (qj (aj [_,_,_] 76281998261443600 aa c e:(fO b top).length<=a.length)) c) (aj [_,_,_] 76282011162074128 aa c (qj (aj [_,_,_] 76281998261443600 aa c e:(fO b top).length<=a.length)))
def sD c d a k b:=nX 0 b k/\b.map (dC c d a)=((dA c d a).take k).foldl fw []
theorem sD.step(n:a.length=c.length)(hk:k<c.length)(h:sD c d a k g):
 (∀b f l,g=b++[(f,l)]->a.getD k 0=a.getD f 0->sD c d a (k+1) (b++[(f,k)]))/\
 ((∀b f l,g=b++[(f,l)]->a.getD k 0≠a.getD f 0)->sD c d a (k+1) (g++[(k,k)])):=by
 have m:(dA c d a).take (k+1)=(dA c d a).take k++[dC c d a (k,k)]:=by rw[Yb,Je n hk];rfl
 refine aF (λb f l e i=>?_) λi=>?_
 ·subst e;refine⟨h.1.grow,?_⟩
  rw[m,Yc,<-h.2,jw,HR,ck,ck,c9,gN,c9,gN,wX,aR (show(dC c d a (f,l)).2=(dC c d a (k,k)).2 from i.symm)];unfold dC;simp only[i]
 ·refine⟨h.1.snoc,?_⟩
  rw[m,Yc,<-h.2,jw,HR,ck,c9,gN];refine aB (A4 g) ?_ ?_;rotate_left;intro j;refine fz j ?_;rintro b ⟨f,l⟩ rfl;rotate_right;rintro rfl
  ·rfl
  ·rw[w4,ck,c9,gN,wX,aQ];intro e;exact i b f l (by rw[w4]) e.symm
theorem BL(j:hR E k c d)(l:nums.length=c.length):
 eh (-1) (dA c d nums)/\eZ (-1) (dA c d nums)=d/\(∀p∈dA c d nums,(p.1=d\/p.1+1∈E k)/\p.2∈nums)/\dA c d nums≠[]:=by
 have s:∀(c)(nums)(a),c≠[]->nums.length=c.length->(∀i x y,c[i]?=ac x->c[i+1]?=ac y->x<y)->(∀x∈c,x<=d)->(∀x,c[0]?=ac x->a<x)->
  eh a (dA c d nums)/\eZ a (dA c d nums)=d/\(∀p∈dA c d nums,(p.1=d\/p.1+1∈c)/\p.2∈nums):=by
  intro c;induction c with
  |nil=>intro nums a h;exact bv aa h
  |cons x r v=>
   intro nums a Y l t n w
   cases nums with
   |nil=>trivial
   |cons m o=>
    have f:=w x aa
    cases r with
    |nil=>
     have:o=[]:=by simpa using l
     subst this;rw[(by delta dA fO;simp:dA [x] d [m]=[(d,m)])];exact ca ⟨ay [_,_,_] 80803185763093520 aa f (n x aP),si⟩ aa λp e=>by rw[bZ.mp e];exact aF (.inl aa) aP
    |cons y r=>
     refine bu (v o (y-1) (iP _ _) (by simpa using l) (λi a b A B=>t (i+1) a b A B) (λz q=>n z (ba _ q)) (λz q=>by simp at q;exact ay [_,_] 315671909051408 aa q)) λC D G=>?_;rw[(by delta dA fO;simp:dA (x::y::r) d (m::o)=(y-1,m)::dA (y::r) d o)];refine ca ⟨by simp only;exact ay [_,_,_] 0x11fa181211c0211c10 aa f (t 0 x y aa rfl:x<y),C⟩ D λp e=>aB (bj.mp e) ?_ (λe=>?_);rintro rfl
     ·exact aF (.inr (by simp)) aP
     ·refine aw (G p e) λH I=>aF (H.imp id λh=>ba _ h) (ba _ I)
 have g:c≠[]:=by rintro rfl;have:=j.zero;trivial
 refine bu (s c nums (-1) g l j.up (λx f=>(j.le x f).2) (λx f=>by rw[j.zero] at f;cases f;exact bl _)) λJ L u=>(⟨J,L,(λp e=>⟨(u p e).1.imp id (j.edge _),(u p e).2⟩),(λh=>?_)⟩)
 have:=Jf (top:=d) l g;rw[h] at this;exact g (rv.mp this.symm)
theorem Yd(A:hR E k e f)(p:d.length=e.length)(n:e[i]?=ac a)(l:a<=t)(g:t<(fO e f).getD i 0):
 d4 (dA e f d) t=ac (d.getD i 0):=by
 have s:∀(e)(d)(i)(a),d.length=e.length->(∀i x y,e[i]?=ac x->e[i+1]?=ac y->x<y)->e[i]?=ac a->a<=t->t<(fO e f).getD i 0->d4 (dA e f d) t=ac (d.getD i 0):=by
  intro e;induction e with
  |nil=>intro d i a _ _ h;trivial
  |cons x r B=>
   intro d i a p w n l g
   cases d with
   |nil=>trivial
   |cons m q=>
    cases r with
    |nil=>
     have:q=[]:=by simpa using p
     subst this;have C:i=0:=by have:=(dF.mp n).1;simp at this;exact bQ (aj [_] 18625126908032 aa this) (aj [_] 1110024 aa)
     subst C;rw[(by delta dA fO;simp:dA [x] f [m]=[(f,m)]),d4.q2,aR (by simp only;exact ay [_,_] 298036668995600 aa (g:t<f+1))];rfl
    |cons y r=>
     rw[(by delta dA fO;simp:dA (x::y::r) f (m::q)=(y-1,m)::dA (y::r) f q),d4.q2]
     cases i with
     |zero=>rw[aR (by simp only;exact ay [_,_] 298661305195536 aa (g:t<y))];rfl
     |succ i=>
      have D:∀(j:ah)(b),(y::r)[j]?=ac b->y<=b:=by
       intro j;induction j with
       |zero=>intro b o;simp at o;exact ay [_,_] 72762862608 aa o
       |succ j u=>
        intro b o
        obtain⟨c,z⟩:∃c,(y::r)[j]?=ac c:=⟨_,cr (by have:=(dF.mp o).1;exact aj [_,_] 315628854546816 aa this)⟩
        have:=u c z
        have:=w (j+1) c b z o
        (rename_i v;exact ay [_,_,_] 76299581840759824 aa v this)
      rw[aQ (by simp only;exact ay [_,_,_] 0x13fa180210c2110c10 aa l (D i a n))];exact B q i a (by simpa using p) (λi a b l g=>w (i+1) a b l g) n l (g)
 exact s e d i a p A.up n l g
theorem Ye:∀(r:ae (af×ah))(q:af×ah),∀z∈q::r,∃p∈jn q r,p.2=z.2:=λg=>g.rec
 (λq z h=>⟨q,bZ.mpr aa,by rw[bZ.mp h]⟩)
 (λa r b q z h=>by
 rw[jn.q2];have c:=b a;split
 ·rename_i e;refine aB (bj.mp h) ?_ (λh=>?_);rintro rfl
  ·refine au (c a aP) λp d f=>bi p d (by rw[f,e])
  ·exact c z h
 ·refine aB (bj.mp h) ?_ (λh=>?_);rintro rfl
  ·exact bi z aP rfl
  ·refine au (c z h) λp d f=>bi p (ba _ d) f)
theorem Yg(h:a.foldl fw []=b)(c:a≠[]):b.foldl fw []=b/\b≠[]:=by refine fz (qE c) ?_;rintro q s rfl;rw[w9] at h;subst h;refine cQ (Ht s q) λp f e Y=>?_;have d:=Hu s q;rw[e] at d⊢;rw[w9,VW f p d];exact aF aa (iP _ _)
theorem Yh(h:a.foldl fw []=[p]):cX N k a=(N,p.2):=by unfold cX;rw[h]
theorem Jg(h:c.foldl fw []=d)(e:2<=d.length):cX N k c=d8 N (.br k d):=by
 unfold cX;rw[h];match d,e with
 |a::b::r,_=>rfl
theorem BM(p:dH N a)(h:i<N.length):cU a i=cU N i:=by unfold cU;rw[p.at h]
theorem Jh:∀(b:ae (af×ah))(a:af),(∀p∈b,f p.2=g p.2)->fx W d f a b=fx W d g a b:=λe=>e.rec
 (λY Y=>rfl)
 (λp r c a h=>by rw[fx.q2,fx.q2,h p aP,c _ λq i=>h q (ba _ i)])
theorem Yi(p:dH N a)(g:bW T E N)(h:m<N.length):kT W a m=kT W N m:=by
 unfold kT;rw[p.at h];cases b:N[m]? with
 |none=>rfl
 |some d=>
  cases d with
  |leaf v=>rfl
  |br k c=>simp only;rw[Jh c 0 λq e=>BM p (by have:=((g.br b).ch q e).1;exact aj [_,_,_] 80803185763097616 aa this h)]
theorem Yj(p:dH N a)(g:bW T E N)(h:∀m∈C,m<N.length):cK W a C=cK W N C:=by unfold cK;exact i7 λm b=>by rw[Yi p g (h m b)]
noncomputable def nY C(r:ah):=if r∈C then C else C++[r]
theorem Yk:gv (cK W N C) (ff r) (.list [kT W N r])=cK W N (nY C r):=by
 unfold nY;by_cases h:r∈C
 ·rw[aR h];unfold gv;rw[aR (yq.mpr ⟨(ff r,_),bV.mpr ⟨r,h,aa⟩,hW aa⟩:(cK W N C).any (λp=>decide (p.1=ff r))=ao)];unfold cK;rw[eI];apply i7;intro m _;simp only[xt];split
  ·rename_i e;rw[zG e]
  ·rfl
 ·rw[aQ h,xl (Ig h)];unfold cK;rw[ck];rfl
noncomputable def kZ(e:ah×af×af):aA:=.tuple [.int e.1,.int e.2.1,.int e.2.2]
def iH(q:ek×aA):aA:=.tuple [.tuple (q.1.map kZ),q.2]
def el(N:ae Nd)(m:ah):aA:=.tuple [.list ((b9 N m).map iH),.int (m:ah),cU N m]
def pq(p:ah×ah):=qJ p.1 p.2
theorem xB(h:gw v=ao):bE n v:=by
 cases v<;>simp[gw.q1,gw.q2,gw.q3,AV,AW,AX,AY] at h
 ·exact bE.int _
 ·exact bE.str h
theorem Ji(g:bW T E N)(h:m<N.length):bE 60 (.list ((b9 N m).map iH)):=by
 refine bE.lst λx c=>au (bV.mp c) ?_;rintro q d rfl;refine bu (nS g m h q d) λY Y a=>au a λi Y f=>(bE.tup (n:=10) λy b=>?_).le (aX _ _);simp only[bj,iV,mK] at b;refine aB b ?_ ?_<;>rintro rfl
 ·exact bE.tup (n:=9) λz j=>by refine au (bV.mp j) ?_;rintro e Y rfl;exact(bE.tup (cp (bE.int _) (cp (bE.int _) (cp (bE.int _) iz))))
 ·exact xB (g.ok _ (dw f):gw q.2=ao)
theorem Yl(h:kZ a=kZ b):a=b:=by obtain⟨c,e,f⟩:=a;obtain⟨d,g,i⟩:=b;simp[kZ] at h;rw[(by have:=h.1;exact bQ (bD.1 (ay [_,_] 72762862608 aa this)) (bD.1 (ay [_,_] 72747146256 aa this)):c=d),h.2.1,h.2.2]
theorem Jj{f:i->l}(j:∀a b,f a=f b->a=b):∀{d e:ae i},d.map f=e.map f->d=e
 :=by
  intro g;induction g with
  |nil=>intro c h;cases c with
   |nil=>rfl
   |cons q c=>cases h
  |cons p g k=>intro c h;cases c with
   |nil=>cases h
   |cons q c=>rw[j _ _ (nh h).1,k (nh h).2]
theorem Ym(h:iH a=iH b):a=b:=by obtain⟨c,d⟩:=a;obtain⟨e,f⟩:=b;simp only[iH,CH,pG,GL] at h;rw[Jj (λY Y=>Yl) h.1,h.2]
structure Jk(k:ah)(nums C C':ae ah)(N N':ae Nd)(r:ah):Prop where
 what:(∃ps,N'[r]?=ac (.br k ps)/\(∀p∈ps,p.2∈nums)/\(∀m∈nums,∃p∈ps,p.2=m)/\C'=nY C r)\/(N'=N/\C'=C/\∀m∈nums,m=r)
theorem Yn(lo a)(b:0<=lo)(d:lo<=a)(f:a<=1000):kC lo (a+1) 1=ao/\ie lo (a+1) 1=(((a+1).toNat-lo.toNat:ah):af):=by have c:=eD d (yc (Int.lt_succ a));have e:a+1<2^62:=rP (Int.add_le_add_right f 1) (by decide);refine aF (small_one (eD (by decide) b) (rP c e) (eD (by decide) (eD b c)) e) ?_;rw[RF,aR (vp d),Yo (Int.toNat_le_toNat c),dh b,dh (eD b c)]
theorem Yp{e j:Type}{f:e->j}(b:ae e)(d):∀(c a),a+c<=b.length->(cC c).map (λi=>f (b.getD (a+i) d))=((b.drop a).take c).map f:=by intro c a h;rw[<-Ja b a c h d,BG (g:=λk=>b.getD (a+k) d) _ λk hk=>by rw[cY,cr (by exact aj [_,_,_,_] 0x11f390210c391211c10 aa h (kS.mp hk))];rfl,eI];rfl
def kn(l:ae af)(t:af):ah:=l.rec 0 λY r R=>r.casesOn 0 λb Y=>if t<b then 0 else R+1
theorem kn.q3:kn (a::b::r) (t)=(if t<b then 0 else kn (b::r) t+1):=aa
def gA b c d e:=gY (motive:=λY=>ah->ah->((ah->af))->ah) (λY j Y=>j) (λa r f v j x=>(f (v+1) (j*a.length+kn a (x v)) x)) b c d e
theorem gA.q1:gA ([]) (a) (j) (b)=(j):=aa
theorem gA.q2:gA (a::r) (v) (j) (x)=(gA r (v+1) (j*a.length+kn a (x v)) x):=aa
theorem Jl(g:t<=d):∀{row},(∀a,row[0]?=ac a->a<=t)->row≠[]->∃a,row[kn row t]?=ac a/\a<=t/\t<(fO row d).getD (kn row t) 0
 :=by
  intro row;induction row with
  |nil=>exact λY h=>bv aa h
  |cons a r i=>intro e Y;cases r with
   |nil=>exact cf a aa (e a aa) (vp g)
   |cons b r=>
    rw[kn.q3];by_cases c:t<b
    ·rw[aR c];exact cf a aa (e a aa) (c)
    ·rw[aQ c];refine aL (i (λx f=>by simp at f;exact ay [_,_,_] 76282011162070032 aa f c) (iP _ _)) λz j k l=>cf z j k (l)
theorem Yq(h:c≠[])(t):kn c t<c.length:=by
 induction c with
 |nil=>exact bv aa h
 |cons a r d=>
  cases r with
  |nil=>exact jT _
  |cons b r=>
   rw[kn.q3];split
   ·exact aX _ _
   ·have:=d (iP _ _);simp at this⊢;exact aj [_,_] 0x11f9181011c91810 aa this
theorem BN(h:dy N a m):a=m\/∃k b p,N[a]?=ac (.br k b)/\p∈b/\dy N p.2 m:=by
 induction h with
 |here=>exact .inl aa
 |step l e d f=>
  refine aB f ?_ ?_;rotate_left;intro c;refine dz c λk b p g i j=>?_;rotate_right;rintro rfl
  ·exact .inr ⟨_,_,_,e,d,.here⟩
  ·exact .inr ⟨k,b,p,g,i,j.step e d⟩
theorem Jm:m∈nY C r↔m∈C\/m=r:=by
 unfold nY;split
 ·rename_i h;constructor
  ·exact .inl
  ·intro a;refine aB a (λb=>?_) ?_<;>clear a;rotate_left;rintro rfl;rotate_right
   ·exact b
   ·exact h
 ·simp
theorem Yr(h:C.Nodup):(nY C r).Nodup:=by
 unfold nY;split
 ·exact h
 ·rename_i d;rw[jV];exact ca h (aW aa) λa f b c e=>by simp at c;subst c;subst e;exact d f
def nZ N(a C:ae ah):=∀m,m∈C↔∃z∈a,dy N z m/\kg N m
theorem Jn(p:dH N a)(h:m<N.length):kg a m↔kg N m:=by unfold kg;rw[p.at h]
theorem Ys(p:dH N u)(g:bW T E N)(y:∀z∈v++(f++l),z<N.length)(B:f≠[])(D:Jk k f C G N u r)(h:nZ N (v++(f++l)) C):nZ u ((v++[r])++l) G:=by
 refine aB D.what ?_ ?_;rotate_left;intro a;refine bu a ?_;rintro rfl rfl n;rotate_right;intro a;refine cP a ?_;rintro H o I J rfl
 ·have L:=(λm=>by
   rw[h m];constructor
   ·intro a;refine aL a λz d r i=>?_;have s:=y z d;exact cf z d ((I9 p g s).mpr r) ((Jn p (aj [_,_,_] 80803181468130320 aa (BI g r) s)).mpr i)
   ·intro a;refine aL a λz d r i=>?_;have s:=y z d;have r:=(I9 p g s).mp r;exact cf z d r ((Jn p (aj [_,_,_] 80803181468130320 aa (BI g r) s)).mp i):nZ u (v++(f++l)) C)
  intro m;rw[Jm,L m];constructor
  ·intro a;refine aB a ?_ ?_<;>clear a;rotate_left;rintro rfl;rotate_right;intro w;refine aL w λz d j i=>?_
   ·refine aB (ed.mp d) (λb=>?_) (λb=>?_)
    ·exact cf z (by simp[b]) j i
    ·refine aB (ed.mp b) (λb=>?_) (λb=>?_)
     ·refine au (J z b) λq x e=>cf r (by simp) ?_ i;rw[<-e] at j;exact dy.trans (dy.here.step o x) j
     ·exact cf z (iY _ ‹_›) j i
   ·exact cf m (by simp) .here ⟨k,H,o⟩
  ·intro a;refine aL a λz d j i=>?_;simp only[ed,bZ] at d;refine aB d ?_ (λb=>?_);intro a;refine aB a (λb=>?_) ?_<;>clear a;rotate_left;rintro rfl;rotate_right
   ·exact .inl ⟨z,gg _ ‹_›,j,i⟩
   ·refine aB (BN j) ?_ ?_;rotate_left;intro a;refine dz a λU M q A x Q=>?_;rotate_right;rintro rfl
    ·exact .inr rfl
    ·rw[o] at A;cases A;exact .inl ⟨q.2,by simp[I q x],Q,i⟩
   ·exact .inl ⟨z,by simp[b],j,i⟩
 ·intro m;rw[h m];constructor
  ·intro a;refine aL a λz d j i=>?_;refine aB (ed.mp d) (λb=>?_) (λb=>?_)
   ·exact cf z (by simp[b]) j i
   ·refine aB (ed.mp b) (λb=>?_) (λb=>?_)
    ·exact cf r (by simp) (n z b▸j) i
    ·exact cf z (iY _ ‹_›) j i
  ·intro a;refine aL a λz d j i=>?_;simp only[ed,bZ] at d;refine aB d ?_ (λb=>?_);intro a;refine aB a (λb=>?_) ?_<;>clear a;rotate_left;rintro rfl;rotate_right
   ·exact cf z (gg _ ‹_›) j i
   ·refine aK (List.exists_mem_of_ne_nil _ B) λc t=>cf c (by simp[t]) ((n c t).symm▸j) i
   ·exact cf z (by simp[b]) j i
def BO T(E:ah->ae af)(b:ae (ae af))(c6:ae aA)v N(a:ae ah):=
 (∀m∈a,m<N.length/\v<=bt T N m)/\
 ∀j m,a[j]?=ac m->∀x,b6 T x->ac (bU N x m)=c6[gA (b.drop v) v j x]?
def BO.num{c6:ae aA}(b:BO T E c c6 v N a):=b.1
def BO.val{c6:ae aA}(b:BO T E c c6 v N a):=b.2
def iI(b:ae (ae af)):=gY (motive:=λY=>ah) (1) (λa r c=>a.length*c) b
theorem iI.q1:iI ([])=(1):=aa
theorem iI.q2:iI (a::r)=(a.length*iI r):=aa
theorem Jo(b)(a):iI (b++[a])=iI b*a.length:=by
 induction b with
 |nil=>simp[iI.q1,iI.q2]
 |cons x r c=>simp only[mq,iI.q2,c,uW]
theorem uX(a:0<=z)(b:z<=2000000):I8 z=ao:=by unfold I8;rw[fD];exact aF (hW (eD (by decide) a)) (hW (rP b (by decide)))
theorem Jp(c a)(b:0<a)(f:a<=1000)(h:c*a<=1000000):kC 0 ((c*a:ah):af) (a:af)=ao/\ie 0 ((c*a:ah):af) (a:af)=(c:af):=by
 have e:ie 0 ((c*a:ah):af) (a:af)=(c:af):=by
  unfold ie;rw[aR (by exact ay [_] 19722625204232 aa (eL.2 b))];refine aB (Nat.eq_zero_or_pos c) ?_ (λd=>?_);rintro rfl
  ·rw[Jq];rfl
  ·have g:=Nat.mul_pos d b;rw[aR (by exact ay [_] 19722625204232 aa (eL.2 g))];have n:(((c*a:ah):af)-0-1)=((a-1:ah):af)+((c-1:ah):af)*(a:af):=by
    have o:((c*a:ah):af)=((c-1:ah):af)*(a:af)+(a:af):=by rw[(by rw[Nat.sub_mul,Jr];have:=Nat.le_mul_of_pos_left a d;exact bQ (aj [_,_,_] 4777447301851408 aa (dt (aj [_,_] 72762854416 aa this:a<=c*a))) (aj [_,_,_] 4770304231221520 aa (dt (aj [_,_] 72762854416 aa this:a<=c*a))):c*a=(c-1)*a+a)];push_cast;rfl
    rw[o];have j:((a-1:ah):af)+1=(a:af):=gW.2 (dt b);exact fC (ay [_,_,_] 0x10f920a18a0891215c19180 aa j) (ay [_,_,_] 0x10fa18a0891292012c19180 aa j)
   rw[n,Int.add_mul_ediv_right _ _ (show(a:af)≠0 from λq=>bv (sj q) (Js b)),Int.ediv_eq_zero_of_lt (by exact ay [_] 18623113510920 aa (bl _)) (by exact ay [_,_] 315628871324032 aa (gW.2 (dt (aj [_] 18623382011912 aa b:1<=a))))];exact fC (ay [_,_] 0x10f1918900812c19180 aa (gW.2 (dt (aj [_] 18623382011912 aa d:1<=c)))) (ay [_,_] 0x10f9189008115c19180 aa (gW.2 (dt (aj [_] 18623382011912 aa d:1<=c))))
 have k:=bl (c*a);have l:=bD.2 h;have p:=bD.2 (bn (Jt c b) h);have m:=bD.2 f;have i:(0:af)<a:=eL.2 b;refine aF ?_ e;unfold kC;rw[e,uX (fB 0) (by decide),uX k (eD l (by decide)),uX (yc i) (eD m (by decide)),uX (bl c) (eD p (by decide)),aR i,
  uX (vm k (Int.sub_nonneg_of_le (show(1:af)<=a from i))) (eD (Int.add_le_add l (eD (Int.sub_le_self _ (by decide)) m)) (by decide)),Bool.or_true]
 rfl
def BP(a:ae Nd)(c6:ae aA)(b:ae ah):=∀(j m:ah),b[j]?=ac m->∃v,c6[j]?=ac v/\a[m]?=ac (Nd.leaf v)
theorem Yt(h:N[m]?=ac (.leaf v)):el N m=.tuple [.list [.tuple [.tuple [],v]],.int (m:ah),uN v]:=by delta el cU;rw[mI h,h];rfl
theorem BQ{T E}(p:dH N b)(g:bW T E N)(d:bW T E b){a:ae ah}(h:∀m∈a,m<N.length):a.map (el b)=a.map (el N):=i7 λm c=>(by unfold el;rw[BJ p g d m (h m c),BM p (h m c)])
theorem Yu(h:gw b.vd=ao):bE 20 (cz b):=bE.tup λx a=>by
 simp only[bj,iV,mK] at a;refine aB a ?_ ?_<;>clear a<;>rintro rfl
 ·exact xB h
 ·exact bE.lst (n:=18) λy d=>by refine au (bV.mp d) ?_;rintro p Y rfl;exact bE.tup (n:=17) λz c=>by simp only[bj,iV,mK] at c;refine aB c ?_ ?_<;>clear c<;>rintro rfl<;>exact bE.int _
theorem Yv:∀{l}{k}{b:c},l[k]?=ac b->(b::l.eraseIdx k).Perm l
 :=by
  intro l;induction l with
  |nil=>intro k b h;cases h
  |cons x l a=>intro k b h;cases k with
   |zero=>cases h;exact Yw _
   |succ k=>exact(abP x b _).trans ((a (k:=k) h).cons x)
theorem Yx(f:a->c):∀(l:ae a)(k),(l.map f).eraseIdx k=(l.eraseIdx k).map f
 :=by
  intro l;induction l with
  |nil=>exact λY=>rfl
  |cons x l b=>exact λk=>k.casesOn aa λk=>bA (f x::·) (b k)
theorem Ju(x:af):0<=x.fmod 4/\x.fmod 4<4:=⟨lQ x (bl _),kX x (bl _)⟩
theorem Jv(h:0<=i/\i<4):jC [cJ a,cJ b,cJ c,cJ d] i (.int (mN a b c d i)):=⟨h.1,Jw h.2 (bl _),Xz h.1 h.2⟩
theorem Yy(X:Gd c (n+1))(d:0<=a)(q:Q (.d (qJ (kj x a).1 (kj x a).2)) G):FC c (.ref 276) [.int x,.int a] G Q:=Xl X λc X=>by
 unfold kj at q;refine vB.d (λh=>?_) λh=>⟨aX _ _,vB.d (λb=>?_) λb=>?_⟩
 ·rw[aR h] at q;exact q
 ·rw[aQ h,aR b] at q;exact vB.n (ay [_] 0x16f080810c00812c089180 aa d) (vB.n (ay [_] 0x16f080810c00812c089180 aa d) ⟨CB (k:=1073741824) (eD d (XA (by decide))) (rP b (by decide)),q⟩)
 ·rw[aQ h,aQ b] at q;exact⟨aX _ _,_,Jv (Ju _),aX _ _,aX _ _,aX _ _,_,Jv (Ju _),q⟩
theorem Yz{Q:V->AH->Prop}(X:Gd c (n+1))(w:∀b∈a,v<b.sp.length/\b.sp.length<=1000)(p:a.length<=30)(q:Q (.int (gk 0 a v m:ah)) G):FC c (.ref 290) [.d (.list (a.map cz)),.int v,.int m] G Q:=Xn X λc X=>by
 have f:=aS p aa;refine⟨by rw[aI];exact f,aa,aa,a.length,by rw[aI],f,?_⟩
 suffices y:∀(r d)(g)(K),a=d++r->(∀g,K [.v (.d (.list (a.map cz))),.v (.int v),.v (.int m),.v (.int (gk 0 a v m:ah)),g] G)->
  dj (bK 4) (dP.b BB c Q) (iZ d.length r.length) [.v (.d (.list (a.map cz))),.v (.int v),.v (.int m),.v (.int (gk 0 d v m:ah)),g] G K from y a [] _ _ aa λY=>q
 intro r;induction r with
 |nil=>intro d g K e k;rw[c8] at e;rw[<-e];exact k g
 |cons b r z=>
  intro d g K e k;have h:a[d.length]?=ac b:=by rw[e];simp
  refine aw (w b (dw h)) λA B=>?_;have s:=dW cz h f;have u:=dW hO (x:=(b.lo v,b.hi v)) (xs:=b.sp) (i:=v) (by delta Bx.lo Bx.hi;rw[cY,cr A];rfl) (aS B aa);have j:∀t:ah,t=gk 0 (d++[b]) v m->dj (bK 4) (dP.b BB c Q) (iZ (d.length+1) r.length) [.v (.d (.list (a.map cz))),.v (.int v),.v (.int m),.v (.int t),.v (.int d.length)] G K:=λt C=>by have:=z (d++[b]) (.v (.int d.length)) K (by rw[e,cs];rfl) k;rw[b7,<-C] at this;exact this
  rw[XG,dZ] at j;refine⟨_,s,_,u,vB.d (λl=>⟨_,s,_,u,vB.d (λo=>⟨bl _,?_,aX _ _,?_⟩) λo=>?_⟩) λl=>?_⟩
  ·exact bD.mpr (bn (bn (by rw[e,b7];exact fR _ _) p:d.length<=30) (aX _ _))
  ·have:=j (gk 0 d v m+2^d.length) (by rw[aR ⟨l,o⟩]);rw[Int.natCast_add,Int.natCast_pow] at this;exact this
  ·exact j _ (by rw[aQ (λq=>o q.2)];rfl)
  ·exact j _ (by rw[aQ (λq=>l q.1)];rfl)
theorem YA{K:Sg->AH->Prop}:∀(r:ae Bx)(a)(f g),(∀b∈r,v<b.sp.length/\b.sp.length<=1000)->a.length+2*r.length<=1000->
 (∀f g,K [p,.v (.int v),.v (.int d),.o (.itab (tT (r.foldl (jJ v d) a))),f,g] G)->dj (cV 4 5) (dP.b ID c R) ((r.map cz).map V.d) [p,.v (.int v),.v (.int d),.o (.itab (tT a)),f,g] G K:=by
 intro r;induction r with
 |nil=>exact λa f g Y Y k=>k f g
 |cons b r q=>
  intro a f g o j k;refine aw (o b aP) λs t=>?_;rw[cG,Jx] at j;have n:=dW hO (x:=(b.lo v,b.hi v)) (xs:=b.sp) (i:=v) (by delta Bx.lo Bx.hi;rw[cY,cr s];rfl) (aS t aa);have lt:∀e:ae af,e.length<=1000->(tT e).length<=1000000:=λe h=>aS (m:=1000) (by unfold tT;rw[aI];exact h) aa;have l:=q (jJ v d a b) (.v (.d b.vd)) (.v (.d (.list (b.sp.map hO)))) (λb h=>o b (ba _ h)) (by have:=I1 v d a b;exact aj [_,_,_] 0x10f88ee3e92b1210c9280210c88ee3e992b182b10 aa this j) k;refine⟨_,n,lt a (aj [_,_] 0x10f88ee3e010c88ee3e992b182b10 aa j),?_⟩
  rw[I0];refine⟨_,n,vB.d (λh=>⟨_,n,lt (iF a (b.lo v)) (aj [_,_,_] 0x10f88ee3e210c9180210c88ee3e992b182b10 aa (xu a (b.lo v)) j),?_⟩) λh=>?_⟩
  ·rw[XE h,<-I0 _ (b.hi v+1)] at l;exact l
  ·rw[XF h] at l;exact l
theorem YB(X:Gd c (n+1)){v:ah}(j:∀b∈d,v<b.sp.length/\b.sp.length<=1000)(i:d.length<=30)(q:Q (.d (.list ((je d v f).map .int))) G):FC c (.ref 283) [.d (.list (d.map cz)),.int v,.int f] G Q:=Xm X λc X=>by
 refine YA d [0] _ _ j (by rw[ea];exact aj [_] 0x10f88ee3e92b01820ce81e0 aa i) λo p=>⟨?_,λk l m=>?_⟩
 ·have:=I2 v f d [0];rw[tT,aI];rw[ea] at this;exact aj [_,_] 0x11f084e110c92b018120ce81e0 aa this i
 have e:k=je d v f:=by
  refine abQ (le:=λa b=>a<=b) (λa b Y Y g h=>fC g h) m ?_ (l.trans ?_)
  ·exact(YC (le:=λa b=>decide (a<=b)) (λa b c g h=>hW (eD (aW g) (aW h))) (λa b=>by simp;exact YD a b) (sB d v f)).imp aW
  ·rw[tT,eI];refine(abR ?_).trans (YE _ _).symm;exact AZ _
 rw[e];exact q
inductive BR(boxes:ae Bx)(s:LV)(G:AH):ah->Sg->AH->Prop
 |mk (t:af) (left bs:ae Bx) (h:LV):(bs++left).Perm boxes->BR boxes s G left.length [s,.v (.int t),.o (.list (left.map cz)),.o (.list (bs.map cz)),h] G
theorem YF(h:¬l=[]):(!(l.map f).isEmpty)=ao:=by
 cases l with
 |nil=>exact bv aa h
 |cons=>rfl
theorem YG(X:Gd c (n+1))(B:∀b∈a,gw b.vd=ao)(v:a.length<=1000)(q:∀l:ae Bx,l.Perm a->Q (.d (.list (l.map cz))) G):FC c (.ref 333) [.d (.list (a.map cz)),.int o] G Q:=Xs X λc X=>by
 refine⟨aS (by rw[aI];exact v) aa,BR a (.v (.d (.list (a.map cz)))) G,⟨a.length,.mk o a [] _ (Yw _)⟩,?_⟩
 intro m D E h;cases h with
 |mk t left l h p=>
 have f:=p.length_eq;rw[b7] at f;refine⟨(bE.lst (n:=20) λx C=>by refine au (bV.mp C) ?_;rintro b w rfl;exact Yu (B b (p.mem_iff.mp (iY _ w)))).le (aX _ _),?_⟩
 by_cases u:left=[]
 ·subst u;rw[c8] at p;exact q l p
 have d:0<((left.map cz).length:af):=by rw[aI];have:=kO.mpr u;exact ay [_] 19722625204232 aa (eL.2 this)
 have y:=lQ t d;have z:=kX t d;have g:(left.map cz).length<=1000:=by rw[aI];exact aj [_,_,_] 0x10f88ee3e212c092110c88ee3e0 aa f v
 have r:=λe=>ay [_] 0x16f080811c00812c080 aa d e;refine aK (dc (xs:=left) (i:=(t.fmod ((left.map cz).length:af)).toNat) (by rw[aI] at y z⊢;exact eL.1 (ay [_,_,_] 80803190058064912 aa (dh (ay [t.fmod ↑left.length] 18623113510920 aa y)) z))) λb j=>?_;have A:=BR.mk (s:=.v (.d (.list (a.map cz)))) (G:=G) (t.fdiv ((left.map cz).length:af)) (left.eraseIdx (t.fmod ((left.map cz).length:af)).toNat) (l++[b]) (.v (.int (left.map cz).length)) (by refine abS ?_ p;rw[cs];exact abT l (Yv j));rw[<-Yx,ck] at A;exact vT (YF u:(!(left.map cz).isEmpty)=ao) ⟨aS g aa,vB.n r ⟨y,aS g aa,cz b,by rw[fH,j];rfl,aS (m:=1000) (by rw[aI];exact aj [_,_,_] 0x10f88ee3e112c092110c88ee3e0 aa f v) aa,vB.n r ⟨CB (k:=1073741824) (bl _) (eL.mpr (qm g (by decide))),_,by rw[List.length_eraseIdx_of_lt (eU j)];have:=kO.mpr u;exact aj [_,_] 315628871324032 aa (dt (aj [_] 18623382011912 aa this:1<=left.length)),A⟩⟩⟩
noncomputable def qO a:=rO (motive:=λY=>ae V) ([]) (λn b=>.int n::b) a
theorem qO.q2:qO (n+1)=(.int n::qO n):=aa
theorem YH(n):((cC n).map λ(i:ah)=>V.int ((n:af)-1+(i:af)*(-1)))=qO n:=by
 induction n with
 |zero=>rfl
 |succ n a=>
  rw[Ad,c9,eI,qO.q2,<-a];congr 1
  ·exact bA (λi=>V.int i) (by show((n:af)+1)-1+0*-1=n;rw[Cp,xR,pF])
  ·exact i7 λi Y=>bA (λi=>V.int i) (by show((n:af)+1)-1+((i:af)+1)*-1=(n:af)-1+(i:af)*-1;rw[pF,Cm,vj,Int.add_comm ((i:af)*-1),<-xS];rfl)
theorem BS(h:m<=1000000){P:ae V->Sg->AH->Prop}(q:P (qO m) a G):∃k:ah,kC ((m:af)-1) (-1) (-1)=ao/\ie ((m:af)-1) (-1) (-1)=(k:af)/\P ((cC k).map λ(i:ah)=>V.int ((m:af)-1+(i:af)*(-1))) a G:=⟨m,(I7 m h).1,(I7 m h).2,by rw[YH];exact q⟩
theorem YI(X:Gd c (n+3))(S:DB T D G)(o:mP T E b)(z:T.length<=3)(A:L<=90000){K:Sg->AH->Prop}
 (q:∀N i d,bW T E N->dH I N->N.length<=L->i<N.length->(∀x,b6 T x->bU N x i=.int (if eP 0 T.length b x=ao then 1 else 0))->K [.v (.ref D.x),J,U,W,.v (.d (.list (b.sp.map hO))),.v (.int (i:ah)),d] (dg D G N M)):
 ∀(m)(N)(i)(d),m<=T.length->bW T E N->dH I N->N.length+2*m<=L->i<N.length->m<=bt T N i->(∀x,b6 T x->bU N x i=.int (if eP m T.length b x=ao then 1 else 0))->
 dj (bK 6) (dP.b IJ c Q) (qO m) [.v (.ref D.x),J,U,W,.v (.d (.list (b.sp.map hO))),.v (.int (i:ah)),d] (dg D G N M) K:=by
 intro m;induction m with
 |zero=>exact λN i d Y g p e f Y t=>q N i d g p e f t
 |succ k ih=>
  intro N i d r g p e f h t;refine aK (dc (xs:=T) (i:=k) r) λu a=>lh (o.sp k u a) λa0 w y Y=>iJ (qD g (v:=.int 0) aa) λz1 s z3 B C=>?_;have H:=gE f s.len;refine aK (dc H) λdi j=>?_;have l:=s.lvl (T:=T) f;refine sM (XS z1 o a H C (by rw[l];exact h) λx bx=>by rw[s.val i x f];exact t x bx) λt1 t2 t3 t4 t5 t6=>⟨_,(r7 (by rw[<-lA k];exact XD (by rw[o.len];exact r)) (by rw[aI];exact(aS (m:=3) (by rw[o.len];exact z) aa:b.sp.length<=1000000))),_,_,qx X S,qy (n:=n+1) X S (v:=.int 0) aa (aj [_,_,_] 0x10f08aebebede110c092b9182110c089efe5e1e0 aa e A) ?_⟩
  exact V3 (n:=n) X S a (aj [_] 0x10f88ee3e010c380 aa z) a0 w y j C (aj [_,_,_,_] 0x11f1310c2918315c2012c10 aa h l (by unfold bt;rw[j]:bt T (d8 N (.leaf (.int 0))).1 i=lv T di)) r (aj [_,_,_,_] 0x10f08aebebede310c9181310c092b9182110c089efe5e1e0 aa B e A) (ih _ _ _ (uo r) t1 ((p.trans s).trans t2) (aj [_,_,_,_,_] 0x10f292b1410c9183410c9180310c292b91810 aa t4 B e) t3 t5 t6)
theorem YJ(X:Gd c (n+8))(S:DB T D G)(hE:∀k,(E k).length<=7)(h7:∀t∈T,0<=t)(j:T.length<=3){K:Sg->AH->Prop}(hb:∀b∈d,mP T E b)(Y:N.length+100*d.length<=80000)(hM:M.length+100*d.length<=80000)
 (q:∀s u r z A B w,mQ T E N M d a 100 s u r->K [.v (.ref D.x),a1,.v (.int (r:ah)),z,A,B,w] (dg D G s u)):
 ∀(C y:ae Bx)(s:ae Nd)(u:ae (aA×aA))(r:ah)(z A B w:LV),C.reverse++y=d->mQ T E N M y a 100 s u r->
 dj (cV 3 4) (dP.b IK c Q) ((C.map cz).map V.d) [.v (.ref D.x),a1,.v (.int (r:ah)),z,A,B,w] (dg D G s u) K:=by
 intro C;induction C with
 |nil=>intro y s u r z A B w e o;have e:=e;subst e;exact q _ _ _ _ _ _ _ o
 |cons b C ih=>
  intro y N1 M1 r z A B w e o;rw[qX,cs] at e;have H:=hb b (by rw[<-e];simp);have f:y.length+1<=d.length:=by rw[<-e];simp
  have o1:=o.nl;have o2:=o.ml;refine iJ (qD o.good (v:=.int 1) aa) λl1 l2 l3 l4 l5=>⟨_,_,qx X S,qy (n:=n+6) X S (v:=.int 1) aa (aj [_,_,_,_] 0x10f08aebebede310c94b6e20340c6e1918210c088e8e3e1e94b6e10 aa o1 f Y) ⟨aS (m:=3) (by rw[aI,H.len];exact j) aa,aW aa,aX _ _,?_⟩⟩
  rw[(by rw[aI,H.len]:((b.sp.map hO).length:af)=(T.length:ah))];refine BS (aS j aa) (YI (n:=n+5) X S H j (L:=N1.length+7) (aj [_,_,_,_] 0x10f089efe5e1e978310c94b6e20340c6e1918210c088e8e3e1e94b6e10 aa o1 f Y) (λN3 i w g3 p3 l I J=>?_) T.length _ _ _ (cO _) l1 oW (aj [_,_,_] 0x10f978292b0110c9182120c380 aa l4 j) l3 (by unfold bt;rw[l5];exact cO _) λx bx=>by rw[g8 l5,aR (qN.mpr λv h1 h2=>bv h1 (Ed.mpr h2))]);refine iJ (qD g3 H.vd) λz1 z2 z3 z4 z5=>⟨_,_,qx X S,qy (n:=n+6) X S H.vd (aj [_,_,_,_,_] 0x10f08aebebede410c9783410c94b6e20340c6e1918210c088e8e3e1e94b6e10 aa l o1 f Y) ?_⟩
  have g:=(l2.trans p3).trans z2;have cN:gH T.length<=73:=by have:=KO j;(refine aB this (λe=>?_) ?_;rotate_left;intro U;refine aB U (λe=>?_) ?_<;>clear U;rotate_left;intro W;refine aB W (λe=>?_) (λe=>?_)<;>clear W;rotate_right;rotate_right)<;>rw[e]<;>decide
  refine V7 S hE h7 (aj [_] 0x10f88ee3e010c380 aa j) T.length (m:=n+3-T.length) (b:=0) ((bQ (aj [_,_,_] 0x10f958910988215c9382910 aa (dt (aj [_,_] 4777618810389376 aa j:T.length<=n+3))) (aj [_,_,_] 0x10f988295891012c9382910 aa (dt (aj [_,_] 4777618810389376 aa j:T.length<=n+3))):n+8=(n+3-T.length)+T.length+5)▸X) ⟨z1,o.memo.pre g,(gE I z2.len),z3,(gE o.lt g.len),eX _,eX _,eX _,fT (dZ _).symm,aj [_,_,_,_,_,_,_] 0x10f089efe5e1e95610c9184610c984e510c9783410c94b6e20340c6e1918210c088e8e3e1e94b6e10 aa z4 cN l o1 f Y,aj [_,_,_,_,_] 0x10f089efe5e1e93410c94b6e02410c984e310c088e8e3e1e94b6e1240c6e19180 aa o2 cN hM f⟩ λN5 M5 r5 p=>ih (b::y) N5 M5 r5 _ _ _ _ e ⟨p.good,p.memo,(o.pre.trans g).trans p.pre,by rw[cG];exact aj [_,_,_,_,_,_,_] 0x10f94b6e91821610c954610c984e510c9183410c9780310c94b6e210 aa p.nl cN z4 l o1,by rw[cG];exact aj [_,_,_,_,_] 0x10f94b6e91832410c901410c94b6e32110c984e0 aa p.ml o2 cN,p.lt,λx bx=>?_⟩;rw[p.val x bx];unfold iA;rw[g8 z5,z2.val i x I,J x bx,g.val r x o.lt,o.val x bx,gl.q2];by_cases h:eP 0 T.length b x=ao
  ·rw[aR h,aR h,aR aa]
  ·rw[aQ h,aQ h,aQ (λe=>by cases e)]
theorem xC(X:Gd c (n+9))(S:DB T D G)(j:∀k,(E k).length<=7)(h:∀t∈T,0<=t)(l:T.length<=3)(g:bW T E N)(m:iB T N M)(p:∀b∈boxes,mP T E b)(i:boxes.length<=100)(s:a<N.length)(u:N.length+100*boxes.length<=80000)(v:M.length+100*boxes.length<=80000)
 (q:∀d f(r:ah),mQ T E N M boxes a 100 d f r->Q (.int (r:ah)) (dg D G d f)):FC c (.ref 309) [.ref D.x,.d (.list (boxes.map cz)),.int (a:ah)] (dg D G N M) Q:=Xp X λc X=>by
 refine⟨aS (by rw[aI];exact i) aa,(λe=>nomatch e),?_⟩
 rw[XQ,<-Ws];exact YJ (n:=n) X S j h l p u v (λd f r Y Y Y Y o=>q d f r o) boxes.reverse [] N M a _ _ _ _ (by rw[List.reverse_reverse,c8]) ⟨g,m,oW,fR _ _,fR _ _,s,λx w=>rfl⟩
theorem YK(X:Gd c n)(S:SS W Z G)(p:fj W)(y:hF W){K:Sg->AH->Prop}:∀(r:ek)(a)(g j l m d),(∀e∈r,qK W.tops e)->a.length+r.length<=1000->
 (∀g j l m d,K [.v (.ref Z.x),z,A,.o (.list (a++r.map (nU W))),g,j,l,m,d] G)->
 dj (ms 4 5 6) (dP.b xr c Q) ((r.map kZ).map V.d) [.v (.ref Z.x),z,A,.o (.list a),g,j,l,m,d] G K:=by
 intro r;induction r with
 |nil=>intro a g j l m d Y Y q;have:=q g j l m d;rw[gN,c8] at this;exact this
 |cons e r I=>
  intro a g j l m d B v q;obtain⟨k,lo,o⟩:=e;refine mU (B _ aP) λw u C D E T=>aK (dc (xs:=W.names) (i:=k) (by rw[p.len];exact eU u)) λf hk=>aw (xq p y hk u C (eD D E)) λJ L=>aw (xq p y hk u (eD C D) E) λM N=>?_;have s:=aS (bn (fR _ _) v) aa;have t:=λd=>by
   have:=I (a++[nU W (k,lo,o)]) (.v (.int k)) (.v (.d (hK W f lo))) (.v (.d (hK W f o))) (.v (.str f)) d (λe h=>B e (ba _ h)) (by rw[b7,ea];rw[cG] at v;exact aj [_,_] 0x10f88ee3e91918010c88ee3e991810 aa v) λg j l m d=>by rw[cs];exact q g j l m d
   rw[show nU W (k,lo,o)=mL W f lo o by show mL W (W.names.getD k (aD "")) lo o=_;rw[cY,hk];rfl] at this;exact this
  unfold mL xo at t;have b:az (cE (bX .Eq (ag 5) (ag 6)) (az (bS 8 (aT (ai (bf "num") (ai (ag 5) av)))) aH) aH) (az (dR (dO eT 3 (ai (aT (ai (bf "match") (ai (aT (ai (bf "field") (ai (ag 7) av))) (ai (bf "==") (ai (ag 8) av))))) av))) aH) c
   [.v (.ref Z.x),z,A,.o (.list a),.v (.int k),.v (.d (hK W f lo)),.v (.d (hK W f o)),.v (.str f),.v (.d (.tuple [.str "span",hK W f lo,hK W f o]))] G (wz (dj (ms 4 5 6) (dP.b xr c Q) ((r.map kZ).map V.d)) K) (wz (dj (ms 4 5 6) (dP.b xr c Q) ((r.map kZ).map V.d)) K) Q:=by
   refine Xe (Iy aa rfl J M (vB.d (λh=>?_) λh=>?_))
   ·rw[aR h] at t;exact⟨s,t _⟩
   ·rw[aQ h] at t;exact⟨s,t _⟩
  refine sA X S ⟨_,dW pk hk (aS p.le aa),lP X S (wV S.l ?_)⟩;refine aB (p.leg k f w hk u) (λe=>?_) ?_;rotate_left;intro x;refine aL x λH e U k2=>?_;rotate_right
  ·unfold hK at b;rw[e] at b⊢;exact b
  ·rw[e];exact lP X S (mD S.l e ⟨_,L H e,lP X S (mD S.l e ⟨_,N H e,b⟩)⟩)
theorem YL(X:Gd c (n+1))(S:SS W Z G)(f:fj W)(g:hF W)(h:∀e∈a,qK W.tops e)(b:a.length<=1000)(q:Q (.d (kW W (a,v))) G):FC c (.ref 326) [.ref Z.x,.d (.tuple (a.map kZ)),.d v] G Q:=Xq X λc X=>
 YK X S f g a [] _ _ _ _ _ h (by rw[jH,dZ];exact b) λY Y Y Y Y=>by
  have d:([]++a.map (nU W)).length<=1000:=by rw[jG,aI];exact b
  exact⟨aS (m:=1001) (qP d 1) aa,aS (m:=1001) (by rw[b7];exact qP d 1) aa,q⟩
theorem YM{i:qb (d=e)}(f:bE 60 d)(g:bE 60 e)(q:a (!decide (d=e)) b G):Ag .NotEq c a (.v (.d d)) (.v (.d e)) b G:=by refine FT.fit (k:=λz=>a z b G) ⟨f,g,?_⟩;rw[show@decide (d=e) (s7 _)=@decide (d=e) i by congr];exact q
theorem YN{b:ae (ae af)}{K:Sg->AH->Prop}(s:b.length<=100)(j:∀a∈b,a≠[]/\a.length<=1000):∀(m)(i)(d)(e),m<=b.length->d.length+m<=100->
 (∀x e,K [.v (.d (.list (b.map fN))),t,u,x,.v (.d (.tuple ((sC (b.take m).reverse i d).map .int))),e] G)->
 dj (bK 5) (dP.b IG c Q) (qO m) [.v (.d (.list (b.map fN))),t,u,.v (.int (i:ah)),.v (.d (.tuple (d.map .int))),e] G K:=by
 intro m;induction m with
 |zero=>exact λi d e Y Y q=>q _ _
 |succ m v=>
  intro i d e h o q;refine aK (dc (xs:=b) (i:=m) h) λa f=>aw (j a (dw f)) λw k=>?_;have p:=kO.mpr w;have l:=dW fN f (aS s aa);have r:¬((a.map cJ).length:af)=0:=by rw[aI];exact λq=>bv (sj q) (Js p)
  have g:(a.map cJ).length<=1000000:=aS (by rw[aI];exact k) aa;have y:jC (a.map cJ) ((i:af).fmod ((a.map cJ).length:af)) (.int (a.getD (i%a.length) 0)):=by rw[aI];rw[(by rw[XO _ (bl _)];rfl:(i:af).fmod (a.length:af)=((i%a.length:ah):af))];have n:=YO i p;exact dW cJ (by rw[cY,cr n];rfl) (aS k aa)
  have z:=v (i/a.length) (a.getD (i%a.length) 0::d) (.v (.int m)) (uo h) (by rw[cG];exact aj [_,_] 0x10f486e91918010c486e991810 aa o) λx e=>by have:=q x e;rw[List.take_succ_eq_append_getElem (h),HV,List.reverse_singleton,I5,sC.q2] at this;rw[show b[m]=a from jP ((cr h).symm.trans f)] at this;exact this
  refine⟨_,l,_,l,g,vB.n r ⟨_,y,?_,_,l,g,vB.n r ⟨by rw[aI,zI];exact qm k (by decide),?_⟩⟩⟩
  ·rw[aI];exact bn (fT (wW _ _)) (bn (qF (fR _ _)) (bn o (aX _ _)))
  ·rw[(by rw[aI,XN _ (bl _)];rfl:(i:af).fdiv ((a.map cJ).length:af)=((i/a.length:ah):af))];exact z
theorem YQ(X:Gd c (n+1))(v:f.length=d.length)(A:∀x∈f,bE 60 x)(B:∀x∈d,bE 60 x)(l:f.length<=100000)(r:g.length<=100)(w:∀z∈g,z≠[]/\z.length<=1000)
 (C:f=d->Q .none G)(D:∀(i:ah)a b,f[i]?=ac a->d[i]?=ac b->a≠b->(∀j,j<i->f[j]?=d[j]?)->Q (.d (.tuple ((gz g i).map .int))) G):FC c (.ref 302) [.d (.list (g.map fN)),.d (.list f),.d (.list d)] G Q:=Xo X λc X=>by
 refine⟨aS l aa,aa,aa,f.length,aa,aS l aa,?_⟩
 suffices E:∀(m i)(p q o)(K),i+m=f.length->(∀j,j<i->f[j]?=d[j]?)->(∀p q o,f=d->K [.v (.d (.list (g.map fN))),.v (.d (.list f)),.v (.d (.list d)),p,q,o] G)->
  dj (bK 3) (dP.b IH c Q) (iZ i m) [.v (.d (.list (g.map fN))),.v (.d (.list f)),.v (.d (.list d)),p,q,o] G K from E f.length 0 _ _ _ _ (dZ _) (λj h=>bv h (Ba _)) λY Y Y e=>C e
 intro m;induction m with
 |zero=>exact λi p q o K e s k=>k _ _ _ (xy λj=>by
  refine aB (BU j i) (λh=>?_) (λh=>?_)
  ·exact s j h
  ·rw[nV (by exact aj [_,_,_] 0x10f1215c2908010c10 aa e h),nV (by exact aj [_,_,_,_] 0x10f1315c3215c2908010c10 aa v e h)])
 |succ m H=>
  intro i p q o K e s k;refine aK (dc (xs:=f) (i:=i) (aj [_,_,_] 80818583262271504 aa e)) λa t=>aK (dc (xs:=d) (i:=i) (aj [_,_,_,_] 0x11f1212c099183212c10 aa e v)) λb u=>⟨_,r7 t (aS l aa),_,r7 u (aS (v▸l) aa),?_⟩
  refine YM (i:=s7 _) (A a (dw t)) (B b (dw u)) (vB.nd (λh=>?_) λh=>?_)
  ·refine⟨aS (m:=100) (by rw[aI];exact r) aa,aW aa,aX _ _,?_⟩
   rw[aI];refine BS (aS r aa) (YN r w g.length i [] _ (cO _) (by rw[jH,dZ];exact r) λx o=>?_);rw[EB];exact(D i a b t u h s)
  ·exact H (i+1) _ _ _ _ (bQ (aj [_,_,_] 0x10f291918012c2991810 aa e) (aj [_,_,_] 0x10f919180215c2991810 aa e)) (λj y=>(Nat.lt_succ_iff_lt_or_eq.mp y).elim (s j) λe=>by rw[e,t,u,h]) k
theorem YR(f)(hk:rN k b.length=ao)(ee:∀i,i<n->∀K,K [f i] (ef b k (.v (.int (a+(i:af)*s)))) G->e (ef b k (.v (.int (a+(i:af)*s)))) G K)
 (c:∀x,Q (d++(cC n).map f) (ef b k x) G):fK (bK k) e ((cC n).map λ(i:ah)=>V.int (a+(i:af)*s)) d b G Q:=by have:=kM (bd:=e) (f0:=λ(i:ah)=>.int (a+(i:af)*s)) f hk (λi g=>ee i (kS.mp g)) c;rw[eI] at this;exact this
theorem YS{K:Sg->AH->Prop}(g:bW T E N)(x0)(b0:b6 T x0)(t:b.length=o.length)(D:o.length<=7)(u:∀m∈b,m<N.length)
 (q:∀a H,sD o top b o.length a->K [a0,a1,a2,a3,.v (.d (.list (b.map (el N)))),a5,.o (.list (a.map pq)),H,a8,a9,Y,h1,h2,h3,h4,h5,h6,h8,h9,x1,x2,x3,.u] G):
 ∀(m i:ah)(a:ae (ah×ah))(H:LV),i+m=o.length->sD o top b i a->a.length<=i->
 dj (bK 7) (dP.b IP c Q) (iZ i m) [a0,a1,a2,a3,.v (.d (.list (b.map (el N)))),a5,.o (.list (a.map pq)),H,a8,a9,Y,h1,h2,h3,h4,h5,h6,h8,h9,x1,x2,x3,.u] G K:=by
 intro m;induction m with
 |zero=>intro i a H e h _;have e:=e;subst e;exact q _ _ h
 |succ m ih=>
  intro i a H e h M;have U:i<o.length:=aj [_,_,_] 80818583262271504 aa e;refine aw (h.step t U) λs1 s2=>?_;have r:b.length<=1000000:=aS (m:=7) (by rw[t];exact D) aa;refine aK (dc (xs:=b) (i:=i) (by rw[t];exact U)) λz hz=>?_;have A:=u z (dw hz);have I:b.getD i 0=z:=by rw[cY,hz];rfl
  have j:(a.map pq).length<=1000000:=aS (m:=7) (by rw[aI];exact aj [_,_] 0x10f78110c0110c780 aa M (aj [_,_] 0x10f78111c0110c780 aa U D:i<=7)) aa;have no:=λhn=>by have:=ih (i+1) (a++[(i,i)]) (.v (.int i)) (bQ (aj [_,_,_] 0x10f291918012c2991810 aa e) (aj [_,_,_] 0x10f919180215c2991810 aa e)) (s2 hn) (by rw[b7];exact qF M);rw[ck] at this;exact this
  refine⟨(bE.lst (n:=5) λx hx=>by
   refine au (bV.mp hx) ?_;rintro p _ rfl;exact bE.tup (n:=4) λy hy=>by
    refine aB (bj.mp hy) ?_ (λhy=>?_);rintro rfl
    ·exact bE.int _
    ·rw[bZ.mp hy];exact bE.int _).le (aX _ _),?_⟩
  refine aB (A4 a) ?_ ?_;rotate_left;intro B;refine fz B ?_;rintro d ⟨f,l⟩ rfl;rotate_right;rintro rfl
  ·exact⟨j,no λd f l e=>by simp at e⟩
  rw[w4] at*
  have hf:=h.1.mem (f,l) (by simp);refine aK (dc (xs:=b) (i:=f) (by rw[t];have:=hf.2.1;have:=hf.2.2;exact aj [_,_,_,_] 0x11f1310c2311c0211c10 aa hf.2.1 this U)) λW C=>?_;have s:=u W (dw C);have v:b.getD f 0=W:=by rw[cY,C];rfl
  rw[ck] at j no⊢;refine vT GQ ⟨_,dW (el N) hz r,d.map pq,pq (f,l),aa,j,_,dW (el N) C r,Ji g A,Ji g s,vB.d (λe=>?_) λe=>?_⟩
  ·have e:=(g.canon x0 b0 _ z W (cO _) A s λx bx=>by refine aw (xz g bx z A) λB=>au B λw hw J=>?_;intro k;rw[<-k w hw J];rw[(Jj (λ_ _=>Ym) (abU e))] at hw;exact(xz g bx W s).2 w hw J)
   have:=ih (i+1) (d++[(f,i)]) (.v (.int i)) (by(rename_i L _;exact bQ (aj [_,_,_] 0x10f291918012c2991810 aa L) (aj [_,_,_] 0x10f919180215c2991810 aa L))) (s1 d f l aa (by rw[I,v,e])) (by rw[b7] at M⊢;exact Nat.le_succ_of_le M);rw[ck] at this;exact⟨d.map pq,pq (f,l),aa,j,aa,_,_,aa,by rw[b7] at j;exact uo j,this⟩
  ·refine⟨j,no λx4 f2 l2 e2=>?_⟩
   refine aw (List.append_inj' e2 aa) λ_ e3=>?_;cases e3;rw[I,v];exact λe4=>e (by rw[e4])
theorem YT{K:Sg->AH->Prop}{k:ah}{lo e:af}:
 ∀(r d:ae (ek×aA))(a b:LV),(∀w∈r,w.1.length<=1000)->d.length+r.length<=7000->(∀a b,K [t,u,.v (.int k),v,x,y,z,A,B,C,.o (.list ((d++r.map λq=>((k,lo,e)::q.1,q.2)).map iH)),f,g,i,j,.v (.int lo),.v (.int e),a,b,l,n,o,.u] G)->
 dj (cV 17 18) (dP.b IQ c Q) ((r.map iH).map V.d) [t,u,.v (.int k),v,x,y,z,A,B,C,.o (.list (d.map iH)),f,g,i,j,.v (.int lo),.v (.int e),a,b,l,n,o,.u] G K:=by
 intro r;induction r with
 |nil=>intro d a b Y Y q;have:=q a b;rw[gN,c8] at this;exact this
 |cons w r D=>
  intro d a b s p q;have:=D (d++[((k,lo,e)::w.1,w.2)]) (.v (.d (.tuple (w.1.map kZ)))) (.v (.d w.2)) (λw h=>s w (ba _ h)) (by rw[b7,ea];rw[cG] at p;exact aj [_,_] 0x10f885ebe1e91918010c885ebe1e991810 aa p) λa b=>by rw[cs];exact q a b
  rw[ck] at this;exact⟨aS (m:=1001) (by rw[aI];exact pn (s w aP) 1) aa,aS (m:=7000) (by rw[aI];exact bn (fR _ _) p) aa,this⟩
theorem Jy{b:ae ah}{K:Sg->AH->Prop}{f e:ah}(g:b.length<=1000000)(h:b[f]?=ac e):∀(sp d:ae aA)(a),d.length+sp.length<=7000->(∀a,K [u,v,w,x,.v (.d (.list (b.map (el N)))),y,z,A,B,C,i,j,.o (.list (d++sp.map (nT (cU N e)))),.v (.int f),k,l,m,n,o,p,a,r,.u] G)->
 dj (bK 20) (dP.b IR c Q) (sp.map V.d) [u,v,w,x,.v (.d (.list (b.map (el N)))),y,z,A,B,C,i,j,.o (.list d),.v (.int f),k,l,m,n,o,p,a,r,.u] G K:=by
 intro sp;induction sp with
 |nil=>intro d a Y q;have:=q a;rw[gN,c8] at this;exact this
 |cons s sp D=>intro d a t q;exact⟨_,dW (el N) h g,aS (bn (fR _ _) t) aa,(D (d++[nT (cU N e) s]) (.v (.d s)) (by rw[b7,ea];rw[cG] at t;exact aj [_,_] 0x10f885ebe1e91918010c885ebe1e991810 aa t) λa=>by rw[cs];exact q a)⟩
theorem YU(h:nX a r n)(b:r≠[]):a<n:=by
 cases r with
 |nil=>exact bv aa b
 |cons p r=>exact qm (h.mem p aP).1 (qm (h.mem p aP).2.1 (h.mem p aP).2.2)
theorem YV{E:ah->ae af}{W:Wd}{Z:nQ}{G:AH}{c:cq}{K:Sg->AH->Prop}(X:Gd c n)(S:SS W Z G)(ok:hR E k h j)(h6:h.length<=7)(h7:g.length=h.length)(h3:h≠[])(I:o.length<=7)
 (x5:∀p∈o.map (dC h j g),p.1<=j/\p.2∈g)(hw:∀m∈g,∀w∈b9 N m,w.1.length<=1000)
 (x6:∀hi,hi<=j->W.legal.lookup J=ak\/∃H,W.legal.lookup J=ac (.tuple H)/\hi<H.length/\H.length<=1000)
 (h8:(wl k (b9 N) 0 (o.map (dC h j g))).length<=7000)(h9:(fx W J (cU N) 0 (o.map (dC h j g))).length<=7000)
 (q:∀L M T U v y C t,K [a0,.v (.ref Z.x),.v (.int k),.v (.d (.list (h.map .int))),.v (.d (.list (g.map (el N)))),a5,a6,a7,.v (.d (.list ((fO h j).map .int))),.v (.str J),.o (.list ((wl k (b9 N) 0 (o.map (dC h j g))).map iH)),.o (.list ((o.map (dC h j g)).map dp)),.o (.list (fx W J (cU N) 0 (o.map (dC h j g)))),L,M,T,U,v,y,C,t,x7,.u] G):
 ∀(r dn:ae (ah×ah))(a:ah)(d:af)(u:ae (ek×aA))(s:ae aA)(L M T U v y C t:LV),dn++r=o->u++wl k (b9 N) d (r.map (dC h j g))=wl k (b9 N) 0 (o.map (dC h j g))->s++fx W J (cU N) d (r.map (dC h j g))=fx W J (cU N) 0 (o.map (dC h j g))->
 nX a r h.length->(r≠[]->h[a]?=ac d)->eh (d-1) (r.map (dC h j g))->
 dj (cV 13 14) (dP.b IS c Q) ((r.map pq).map V.d) [a0,.v (.ref Z.x),.v (.int k),.v (.d (.list (h.map .int))),.v (.d (.list (g.map (el N)))),a5,a6,a7,.v (.d (.list ((fO h j).map .int))),.v (.str J),.o (.list (u.map iH)),.o (.list ((dn.map (dC h j g)).map dp)),.o (.list s),L,M,T,U,v,y,C,t,x7,.u] G K:=by
 intro r;induction r with
 |nil=>intro dn a d u s L M T U v y C t hd e1 e3 Y Y Y;rw[c8] at hd;rw[gN,wl.q1,c8] at e1;rw[gN,fx.q1,c8] at e3;subst hd;rw[e1,e3];exact q _ _ _ _ _ _ _ _
 |cons fl r ih=>
  intro dn a d u s L M T U v y C t hd e1 e3 x8 A D;obtain⟨f,la⟩:=fl;refine bu x8 ?_;rintro rfl x1 h1;have x1:=x1;have A:=A (iP _ _);refine aK (dc (xs:=fO h j) (i:=la) (by rw[xA h3];exact(nX.le h1))) λl h4=>aK (dc (xs:=g) (i:=f) (by rw[h7];exact(eU A))) λmf h2=>?_;have h5:dC h j g (f,la)=(l-1,mf):=by unfold dC;simp only[cY,h4,h2,I4]
  refine aw (x5 (l-1,mf) (by rw[<-hd,ck,c9,h5];simp)) λx9 x2=>?_;rw[c9,h5] at e1 e3 D;rw[wl.q2] at e1;rw[fx.q2] at e3;have B:=D.1;have z:=(ok.le d (dw A)).1;have n6:g.length<=1000000:=aS (m:=7) (by rw[h7];exact h6) aa;have l1:u.length+(b9 N mf).length<=7000:=by rw[<-e1,b7,b7,aI] at h8;exact bn (pn (fR _ _) _) h8
  have l3:s.length+(iE W J d (l-1)).length<=7000:=by rw[<-e3,b7,b7,aI] at h9;exact bn (pn (fR _ _) _) h9
  have x3:=aS h6 aa;rw[KW] at e1 e3;have nx:=λv y C t=>by have:=ih (dn++[(f,la)]) (la+1) l (u++(b9 N mf).map λq=>((k,d,l-1)::q.1,q.2)) (s++(iE W J d (l-1)).map (nT (cU N mf))) (.v (.int f)) (.v (.int la)) (.v (.int d)) (.v (.int (l-1))) v y C t (by rw[cs];exact hd) (by rw[cs];exact e1) (by rw[cs];exact e3) h1 (λe2=>by refine aK (dc ((YU h1) e2:la+1<h.length)) λb hb=>?_;have:=Jd (top:=j) hb;rw[h4] at this;cases this;exact hb) D.2;rw[show((dn++[(f,la)]).map (dC h j g)).map dp=(dn.map (dC h j g)).map dp++[dp (l-1,mf)] by rw[ck,ck,c9,h5];rfl] at this;exact this
  refine⟨_,dW cJ A x3,_,dW cJ h4 (by rw[xA h3];exact x3),_,dW (el N) h2 n6,YT (b9 N mf) u _ _ (hw mf x2) l1 λv y=>⟨_,dW (el N) h2 n6,aS (m:=7) (by rw[aI];exact(by rw[aI];rw[<-hd,b7] at I;exact bn (fR _ _) I:(dn.map (dC h j g)).length<=7)) aa,lP X S (wV S.l ?_)⟩⟩
  refine aB (x6 (l-1) x9) (λe=>?_) ?_;rotate_left;intro e4;refine aL e4 λH e b1 b2=>?_;rotate_right
  ·have es:iE W J d (l-1)=[qJ d (l-1)]:=by unfold iE;rw[e]
   rw[es] at nx l3;rw[e];exact Jy n6 h2 [qJ d (l-1)] s _ l3 λt=>nx v y _ t
  ·refine aw (Yn d (l-1) z (ay [_,_] 0x10fa181011ca181a180 aa B) (ay [_,_] 0x10f88ee3ea18111c0a18110c88ee3e0 aa b1 (bD.2 b2))) λe5 e6=>?_;have es:(cC ((l-1+1).toNat-d.toNat)).map (λi=>Be [H.getD (d.toNat+i) .none,H.getD (d.toNat+i) .none])=iE W J d (l-1):=by unfold iE;rw[e];exact Yp (f:=λx=>Be [x,x]) H .none _ d.toNat (bD.1 (ay [(↑(l-1+1).toNat:af),l,(↑((l-1+1).toNat-d.toNat):af),(↑d.toNat:af),(↑H.length:af)] 0x10f492311c4a18112c093212c918a1810 aa b1 (gW.2 (dt (bD.1 (ay [(↑(l-1+1).toNat:af),l,d,(↑d.toNat:af)] 0x10f0312c2311ca181a18215c918a1810 aa (dh (ay [d] 18623113510920 aa z)) B (dh (ay [d,l] 0x10f918a1810811ca181a18010c008 aa B z))):d.toNat<=(l-1+1).toNat))) (dh (ay [d,l] 0x10f918a1810811ca181a18010c008 aa B z))))
   have x4:∀i,i<(l-1+1).toNat-d.toNat->jC H (d+(i:af)*1) (H.getD (d.toNat+i) .none):=λi hi=>by rw[show d+(i:af)*1=((d.toNat+i:ah):af) by exact fC (ay [_,_,_,_] 0x10f93092112c1b3215c10 aa (kq ((↑i:af)) (1)) (dh (ay [d] 18623113510920 aa z))) (ay [_,_,_,_] 0x10f90391212c3215c1b10 aa (dh (ay [d] 18623113510920 aa z)) (kq ((↑i:af)) (1)))];exact r7 (by rw[cY,cr (eL.1 (ay [(↑(l-1+1).toNat:af),l,(↑((l-1+1).toNat-d.toNat):af),(↑d.toNat:af),(↑H.length:af),(↑i:af)] 0x11f495311c2511c4a18112c093212c918a1810 aa (eL.2 hi) b1 (gW.2 (dt (bD.1 (ay [(↑(l-1+1).toNat:af),l,d,(↑d.toNat:af)] 0x10f0312c2311ca181a18215c918a1810 aa (dh (ay [d] 18623113510920 aa z)) B (dh (ay [d,l] 0x10f918a1810811ca181a18010c008 aa B z))):d.toNat<=(l-1+1).toNat))) (dh (ay [d,l] 0x10f918a1810811ca181a18010c008 aa B z))))];rfl) (aS b2 aa)
   rw[e];refine⟨_,e5,e6,by rw[aI,lR];exact bD.1 (ay [_,_,_,_] 0x10f08ae6e8e1e310c2312c918a181211c0a18110c88ee3e0 aa (bD.2 (ow ((l-1+1).toNat) (d.toNat))) (dh (ay [d,l] 0x10f918a1810811ca181a18010c008 aa B z)) b1 (bD.2 b2)),YR (λi=>Be [H.getD (d.toNat+i) .none,H.getD (d.toNat+i) .none]) aa (λi hi K kk=>lP X S (mD S.l e ⟨_,x4 i hi,lP X S (mD S.l e ⟨_,x4 i hi,kk⟩)⟩)) λx=>?_⟩
   rw[es,jG];exact Jy n6 h2 _ s _ l3 λt=>nx v y _ t
theorem YW(b a:ae (af×ah)):(b.foldl fw a).length<=a.length+b.length:=by
 induction b generalizing a with
 |nil=>exact cO _
 |cons y d c=>exact bn (c (fw a y)) (by rw[cG];have:=A2 a y;exact aj [_,_,_] 0x10f99182192010c91810 aa this)
theorem YX(L:hR E k c d)(n:a.length=c.length)(x:c.length<=7)(o:c≠[])(D:sD c d a c.length b):
 b.map (dC c d a)=(dA c d a).foldl fw []/\(∀m∈a,∃p∈b.map (dC c d a),p.2=m)/\(∀p∈b.map (dC c d a),p.2∈a)/\eh (-1) (b.map (dC c d a))/\eZ (-1) (b.map (dC c d a))=d/\b.length<=7/\∃l y,b=(0,l)::y:=by
 have s:=Jf (top:=d) n o;have q:b.map (dC c d a)=(dA c d a).foldl fw []:=by have h:=D.2;rw[X8 (by exact aj [_,_] 72762862608 aa s)] at h;exact h
 refine lh (BL (nums:=a) L n) λz A B C=>fz (qE C) λu v g=>?_;have i:b.map (dC c d a)=jn u v:=by rw[q,g,w9]
 refine aw (Hs v u (-1) (g▸z)) λt r=>?_;rw[<-i] at t r;rw[<-g,A] at r;refine xM q (λm M=>?_) (λp w=>?_) t r ?_ ?_
 ·refine aK (lb M) λj G=>?_;have H:=dw (Je (top:=d) n (show j<c.length by rw[<-n];exact eU G));rw[g] at H;refine au (Ye v u _ H) λp w e=>bi p (by rw[i];exact w) (by rw[e];show a.getD j 0=m;rw[cY,G];rfl)
 ·rw[i] at w;have:=Hv v u p w;rw[<-g] at this;exact(B p this).2
 ·have I:=bA tI q;rw[aI] at I;rw[I];exact bn (YW _ _) (by rw[jH,dZ,s];exact x)
 ·have J:=D.1;cases b with
  |nil=>exact bv J (kD (kO.mpr o))
  |cons p y=>obtain⟨f,l⟩:=p;refine aw J ?_;rintro rfl Y;exact lj l y aa
theorem Jz(h:L≠D.an/\L≠D.ab/\L≠D.am):aE (cx D G a b M) L o=cx D (aE G L o) a b M:=by unfold cx;rw[jy h.2.2.symm,jy h.2.1.symm,jy h.1.symm]
theorem YY{j:af}(X:Gd c (n+4))(S:DZ W.tops D W Z G)(g:bW W.tops E N)(wt:fj W)(x0:ah->af)(b0:b6 W.tops x0)(hk:W.names[k]?=ac B)(ht:W.tops[k]?=ac j)(ok:hR E k f j)(u:f.length<=7)(v:d.length=f.length)
 (o:∀m∈d,m<N.length/\k+1<=bt W.tops N m)(h6:∀m∈d,(b9 N m).length<=1000)(hN:N.length<=80000)(hL:G L=ac (.stab (cK W N C)))(oL:L≠D.an/\L≠D.ab/\L≠D.am)(hC:∀m∈C,m<N.length)(e1:C.length<=80000)
 (q:∀C',Jk k d C C' N (cX N k (dA f j d)).1 (cX N k (dA f j d)).2->Q (.d (el (cX N k (dA f j d)).1 (cX N k (dA f j d)).2)) (dg D (aE G L (.stab (cK W (cX N k (dA f j d)).1 C'))) (cX N k (dA f j d)).1 M)):
 FC c (.ref 314) [.ref D.x,.ref Z.x,.int (k:ah),.d (.list (f.map .int)),.d (.list (d.map (el N))),.ref L] (dg D G N M) Q:=Xu X λc X=>by
 have x:f≠[]:=λh=>by have:=ok.zero;rw[h] at this;cases this
 refine⟨by rw[aI];exact(aS (m:=7) (by rw[v];exact u) aa:d.length<=1000000),aa,aa,f.length,by rw[aI,v],aS u aa,YS (top:=j) g x0 b0 v u (λm h=>(o m h).1) (λl h7 hr=>?_) f.length 0 [] _ (dZ _) ⟨aa,aa⟩ (cO _)⟩
 refine xL (YX ok v u x hr) λT H s U h8 h2 e2=>fz e2 λl0 rs z=>lh (BL (nums:=d) ok v) λe3 e4 h9 x1=>?_;have x2:=(uO U h8).2;refine⟨aS (m:=7) (by rw[aI];exact h2) aa,vB.d (λh1=>?_) λh1=>?_⟩
 ·refine aK (dc (xs:=d) (i:=0) (by rw[v];exact kO.mpr x)) λm0 x3=>?_;have I:rs=[]:=by rw[aI,z,cG] at h1;exact rv.mp (bQ (bD.1 (ay [_] 76288519816384896 aa h1)) (bD.1 (ay [_] 76280274284482944 aa h1)))
  have x4:(dC f j d (0,l0)).2=m0:=by show d.getD 0 0=m0;rw[cY,x3];rfl
  rw[Yh (N:=N) (k:=k) (p:=dC f j d (0,l0)) (by rw[<-T,z,I];rfl),x4] at q;have:=q C ⟨.inr ⟨aa,aa,λm hm=>by refine au (H m hm) λp t e=>?_;rw[z,I] at t;rw[<-e,bZ.mp t];exact x4⟩⟩;rw[qG hL] at this;exact oP (by rw[fH,x3];rfl) this
 ·have J:2<=(l.map (dC f j d)).length:=by rw[aI] at h1⊢;rw[z,cG] at h1⊢;exact(Hi h1).elim (λe=>(ay [↑rs.length] 0x16f080811c18918010c008 aa e (bl _):aC).elim) λe=>bD.1 (ay [↑rs.length] 0x10f91802811c918018 aa e)
  have x5:∀hi:af,hi<=j->W.legal.lookup B=ak\/∃xs:ae aA,W.legal.lookup B=ac (.tuple xs)/\hi<xs.length/\xs.length<=1000:=λhi h=>(wt.leg k B j hk ht).imp_right λ⟨xs,a,b,c⟩=>⟨xs,a,ay [_,_,_] 0x11f0210c1215c91810 aa h b,c⟩
  have h3:(l.map (dC f j d)).length<=7:=by rw[aI];exact h2
  have y:=wt.len▸wt.le;have x6:=bn (Br (to:=cU N) _ 0 λp t=>x5 p.1 (x2 p t).2) (kQ 1000 h3);have e5:(wl k (b9 N) 0 (l.map (dC f j d))).length<=7000:=by rw[Ie];exact bn (Bp (λp=>(b9 N p.2).length) 1000 _ λp t=>h6 _ (s p t)) (kQ 1000 h3)
  have x7:=Jg (N:=N) (k:=k) T.symm J;refine aw (Yg T.symm x1) λe6 x8=>sM (xa g ht e3 e4 (λp t=>(h9 p t).1) (λp t=>o p.2 (h9 p t).2) x1) λg1 p1 e7 e8 Y Y=>?_;have A:(cX N k (dA f j d)).1[(cX N k (dA f j d)).2]?=ac (.br k (l.map (dC f j d))):=by rw[x7];exact(by
   unfold d8;cases h:oO _ _ with
   |some i=>exact GO h
   |none=>simp)
  have hw:=λm hm w h=>by exact aj [_,_,_] 0x10f88ee3e110c092110c88ee3e0 aa ((nS g m (o m hm).1 w h).2.1) y
  refine⟨aS (m:=7) (by rw[aI];exact u) aa,(λe=>nomatch e),pj X S.ss ⟨_,dW cJ ht (aS y aa),?_⟩⟩
  rw[Jb (λe=>x (qr.mp e))];refine⟨aS (m:=1000) ?_ aa,?_⟩
  ·rw[Hj,aI];exact bn (qF (ow _ _)) (bn (qF u) (aX _ _))
  rw[(by rw[fO,ck,List.map_tail];rfl:(f.map cJ).tail++[.int (j+1)]=(fO f j).map .int)];refine sA X S.ss ⟨_,dW pk hk (aS wt.le aa),YV X S.ss ok u v x h2 (λp t=>⟨(x2 p t).2,s p t⟩) hw x5 e5 x6 (λe9 a1 a2 a3 a4 a5 a6 a7=>?_) l [] 0 0 [] [] _ _ _ _ _ _ _ _ aa rfl rfl hr.1 (λY=>ok.zero) U⟩;refine⟨_,_,sa X S.toDB,A5 (n:=n+1) X S.toDB ht y U h8 x8 (bn h3 (aX _ _)) (aj [_] 0x10f08aebebede010c088e8e3e1e0 aa hN) ?_⟩
  rw[(Jg (N:=N) (k:=k) e6 J),<-x7];generalize(cX N k (dA f j d)).1=N' at*
  generalize(cX N k (dA f j d)).2=r at*
  have h4:=aj [_,_,_] 0x11f08ae6e8e1e211c1210c9180110c088e8e3e1e0 aa e7 e8 hN;have s6:=pn (wa h4) 1;have h5:kT W N' r=qL B (fx W B (cU N) 0 (l.map (dC f j d))):=by unfold kT;rw[A];simp only[(by rw[cY,hk];rfl:W.names.getD k (aD "")=B)];rw[Jh _ 0 λp t=>BM p1 (o p.2 (s p t)).1]
  have x9:gv (cK W N C) (aD "n"++aD (mg (r:af))) (.list [qL B (fx W B (cU N) 0 (l.map (dC f j d)))])=cK W N' (nY C r):=by rw[<-Yj p1 g hC,<-h5];exact Yk
  have q:=q (nY C r) ⟨.inl ⟨_,A,s,H,aa⟩⟩;rw[<-x9] at q;unfold dg at q;rw[<-Jz oL] at q;unfold el at q;rw[show b9 N' r=wl k (b9 N) 0 (l.map (dC f j d)) by rw[mJ g1 A];exact Bi k _ 0 λp t=>BJ p1 g g1 p.2 (o p.2 (s p t)).1,show cU N' r=.tuple [.str (aD "goto"),.str (aD "n"++aD (mg (r:af)))] by unfold cU;rw[A];rfl] at q;exact⟨aS x6 aa,tM h4,aS s6 aa,AU ((S.toDB.other oL.1 oL.2.1 oL.2.2).trans hL:dg D G N' M L=ac (.stab (cK W N C))) (aS (m:=80000) (by rw[cK,aI];exact e1) aa) ⟨tM h4,aS s6 aa,q⟩⟩
noncomputable def sE s a b:=rO (motive:=λY=>ah->ae V) (λY=>[]) (λn c i=>.int ((i*s:ah):af)::(c (i+1))) b a
theorem sE.q2:sE s (i) (n+1)=(.int ((i*s:ah):af)::sE s (i+1) n):=aa
theorem YZ(s n:ah):((cC n).map λ(k:ah)=>V.int (0+(k:af)*(s:af)))=sE s 0 n:=by
 suffices h:∀i,((cC n).map λk=>V.int (((i+k:ah):af)*(s:af)))=sE s i n by rw[<-h 0];exact i7 λk Y=>bA (λi=>V.int i) (by rw[vi,dZ])
 induction n with
 |zero=>exact λY=>rfl
 |succ n a=>intro i;rw[Ad,c9,eI,sE.q2,<-a (i+1)];congr 1;exact i7 λk Y=>bA (λi=>V.int i) (by rw[show i+(k+1)=i+1+k by exact bQ (aj [_,_] 76439772802390032 aa) (aj [_,_] 76448047324828032 aa)])
section
variable{T:ae af}{E:ah->ae af}{W:Wd}{Z:nQ}{D:DA}{G:AH}{N N1 N2:ae Nd}{M:ae (aA×aA)}{c:cq}{n:ah}{Q:V->AH->Prop}
theorem DZ.upL{o:O}(S:DZ T D W Z G)(h:L∉[D.x,D.dx,Z.x,Z.dx,Z.al,Z.ap]):DZ T D W Z (aE G L o):=by have b:∀a∈[D.x,D.dx,Z.x,Z.dx,Z.al,Z.ap],aE G L o a=G a:=λa m=>aU λe=>h (e▸m);exact⟨⟨(b _ (aP)).trans S.toDB.x,(b _ (.tail _ (.head _))).trans S.toDB.d,S.toDB.xn,S.toDB.xb,S.toDB.xm,S.toDB.dn,S.toDB.db,S.toDB.dm,S.toDB.nb,S.toDB.nm,S.toDB.bm⟩,⟨(b _ (.tail _ (.tail _ (.head _)))).trans S.s.x,(b _ (.tail _ (.tail _ (.tail _ (.head _))))).trans S.s.d,(b _ (.tail _ (.tail _ (.tail _ (.tail _ (.head _)))))).trans S.s.l,(b _ (.tail _ (.tail _ (.tail _ (.tail _ (.tail _ (.head _))))))).trans S.s.p⟩,S.o⟩
def ko T E b c6 N v N2(a C:ae ah):=
 bW T E N2/\
 dH N N2/\
 BO T E b c6 v N2 a/\
 (∀m∈C,m<N2.length)/\
 C.Nodup
def ko.g{c6:ae aA}(b:ko T E d c6 N v N2 a C):=b.1
def ko.p{c6:ae aA}(b:ko T E d c6 N v N2 a C):=b.2.1
def ko.lv{c6:ae aA}(b:ko T E d c6 N v N2 a C):=b.2.2.1
def ko.Cl{c6:ae aA}(b:ko T E d c6 N v N2 a C):=b.2.2.2.1
def ko.Cn{c6:ae aA}(b:ko T E d c6 N v N2 a C):=b.2.2.2.2
theorem Y0(p:dH N1 N2)(b:bW T E N1)(d:bW T E N2){c6:ae aA}(h:BP N1 c6 a):a.map (el N2)=a.map (el N1):=BQ p b d λm e=>by refine aK (lb e) λj f=>?_;refine au (h j m f) λY Y h=>eU h
theorem Y1(X:Gd c (n+2))(S:DB T D G){c6:ae aA}(f:∀v∈c6,gw v=ao)(i:c6.length<=400)(Y:N.length<=80000){K:ae aA->Sg->AH->Prop}{u w x y z A B C H:LV}
 (q:∀N1 a b,bW T E N1->dH N N1->N1.length<=N.length+400->a.length=c6.length->BP N1 c6 a->K (a.map (el N1)) [.v (.ref D.x),u,w,x,y,z,A,B,C,H,b] (dg D G N1 M)):
 ∀(r d:ae aA)(N1:ae Nd)(a:ae ah)(b:LV),c6=d++r->bW T E N1->dH N N1->N1.length<=N.length+d.length->a.length=d.length->BP N1 c6 a->
 fK (bK 10) (fi (aT (ai (im (ai (aT (ai (aT av) (ai (ag 10) av))) av)) (ai (d6 (ag 0) "leaf" (ai (ag 10) av)) (ai (aT (ai (ag 10) (ai (bf "") av))) av)))) c) (r.map V.d) (a.map (el N1)) [.v (.ref D.x),u,w,x,y,z,A,B,C,H,b] (dg D G N1 M) K:=by
 intro r;induction r with
 |nil=>intro d N1 a b e g p o s h;rw[c8] at e;subst e;exact q N1 a b g p (bn o (pn i _)) s h
 |cons v r ih=>
  intro d N1 a b e g p o s h;have t:c6[d.length]?=ac v:=by rw[e];simp
  refine iJ (qD g (f v (dw t))) λI l2 l3 l4 J=>?_;have L:=ih (d++[v]) (d8 N1 (.leaf v)).1 (a++[(d8 N1 (.leaf v)).2]) (.v (.d v)) (by rw[e,cs];rfl) I (p.trans l2) (by rw[b7,ea];exact aj [_,_,_,_] 0x10f991821310c9180310c9210 aa l4 o) (by rw[b7,b7,s];rfl) (λj m k=>by
   by_cases U:j<a.length
   ·rw[jv U] at k;refine au (h j m k) λv' h1 h2=>bi v' h1 (l2.get h2)
   ·have l:=eU k;rw[b7,ea] at l;have e:j=a.length:=bQ (aj [_,_] 298036668995600 aa l) (aj [_,_] 72747142160 aa U);subst e;rw[oX (cO _),yT] at k;cases k;exact bi v (by rw[s];exact t) J)
  rw[ck,Y0 l2 g I h,c9,Yt J] at L;exact⟨_,_,qx X S,qy (n:=n) X S (f v (dw t)) (aj [_,_,_] 0x10f08aebebede210c901210c088e8e3e1e111c089e1e0 aa o Y (gE (eU t) i:d.length<400)) L⟩
theorem Y2(X:Gd c (n+5))(S:DZ W.tops D W Z G)(hE:∀k,(E k).length<=7)(wt:fj W)(x0)(b0:b6 W.tops x0)(hT:W.tops.length<=3){c6:ae aA}(oL:L≠D.an/\L≠D.ab/\L≠D.am)(zL:L∉[D.x,D.dx,Z.x,Z.dx,Z.al,Z.ap])(hk:W.names[k]?=ac nm)(ht:W.tops[k]?=ac H)(ok:hR E k f H)(x4:f.length<=7)(h6:w.drop k=f::w.drop (k+1))(I:ko W.tops E w c6 N (k+1) N2 d C0){cnt:ah}(h7:d.length=cnt*f.length)(h8:d.length<=400)(x5:N2.length<=75000){K:Sg->AH->Prop}
 (q:∀o done C h9,ko W.tops E w c6 N k o done C->nZ o done C->o.length<=N2.length+400->done.length=cnt->K [.v (.ref D.x),.v (.ref Z.x),a2,a3,.v (.ref L),.v (.d (.list (d.map (el N2)))),.v (.int k),.v (.d (fN f)),.o (.list (done.map (el o))),h9,e3] (dg D (aE G L (.stab (cK W o C))) o M)):
 ∀(m i)(o)(done C)(h9),i+m=cnt->dH N2 o->ko W.tops E w c6 N k o done C->o.length<=N2.length+i->done.length=i->nZ o (done++d.drop (i*f.length)) C->
 dj (bK 9) (dP.b IU c Q) (sE f.length i m) [.v (.ref D.x),.v (.ref Z.x),a2,a3,.v (.ref L),.v (.d (.list (d.map (el N2)))),.v (.int k),.v (.d (fN f)),.o (.list (done.map (el o))),h9,e3] (dg D (aE G L (.stab (cK W o C))) o M) K:=by
 have h3:f≠[]:=λh=>by have:=ok.zero;rw[h] at this;cases this
 have y:=kO.mpr h3;have U:=bn (Jt cnt y) (h7▸h8);intro m;induction m with
 |zero=>intro i o done C h9 e p J hl hd A;have e:i=cnt:=e;subst e;rw[y3 (fT h7),c8] at A;exact q o done C h9 J A (bn hl (pn U _)) hd
 |succ m ih=>
  intro i o done C h9 e p J hl hd A;have s:i*f.length+f.length<=d.length:=by rw[h7,<-uD];exact kQ _ (aj [_,_,_] 0x10f2918012c2991810 aa e)
  have e4:(i+1)*f.length=i*f.length+f.length:=uD _ _;generalize x6:i*f.length=j at*
  generalize B:(d.drop j).take f.length=g;have v:g.length=f.length:=by rw[<-B,v8,Ei];exact bQ (aj [_,_] 72762862608 aa (qj (aj [_,_,_,_] 0x10f0310c293115c2910 aa s (dt (aj [_,_,_] 18631585704208 aa s:j<=d.length)):f.length<=d.length-j))) (aj [_,_] 72747146256 aa (qj (aj [_,_,_,_] 0x10f0310c293115c2910 aa s (dt (aj [_,_,_] 18631585704208 aa s:j<=d.length)):f.length<=d.length-j)))
  have x7:∀m∈g,m∈d:=λm l=>JA (Y3 (B▸l));have x1:∀t m,g[t]?=ac m->d[j+t]?=ac m:=λt m h=>by have ht:=eU h;rw[<-B,X6 (by exact aj [_,_,_] 80803185763101712 aa ht v),X7] at h;exact h
  have h4:=λm l=>(I.lv.num m (x7 m l)).1;have h1:∀m∈g,m<o.length/\k+1<=bt W.tops o m:=λm l=>by refine aw (I.lv.num m (x7 m l)) λa b=>aF (gE a p.len) (by rw[p.lvl a];exact b)
  have a5:=bn s h8;refine lh (BL (nums:=g) ok v) λe5 e6 x8 e7=>sM (xa J.g ht e5 e6 (λp hp=>(x8 p hp).1) (λp hp=>h1 p.2 (x8 p hp).2) e7) λm1 m2 m3 m4 m5 m6=>?_;have x9:=λm l=>(J.lv.num m l).1;have h2:((d.map (el N2)).drop j).take (j+f.length-j)=g.map (el o):=by rw[Nat.add_sub_cancel_left,<-List.map_drop,<-List.map_take,B,BQ p I.g J.g h4]
  refine⟨aS (m:=7) (by rw[aI];exact x4) aa,(aS (m:=400) (by rw[aI];exact h8) aa:(d.map (el N2)).length<=1000000),(λe=>nomatch e),?_⟩
  rw[x6,show((j:ah):af)+((f.map cJ).length:af)=((j+f.length:ah):af) by rw[aI];rfl,X9 (fR _ _) (by rw[aI];exact s),h2];refine YY (n:=n+1) X (S.upL zL) J.g wt x0 b0 hk ht ok x4 v h1 (λm l=>bn (Bq hE J.g m (h1 m l).1 3 (aj [_,_] 4777618810389376 aa hT)).2 (aX _ _)) (aj [_,_,_,_,_] 0x10f088e8e3e1e410c913410c88fe4e2e1e312c099182110c089e1e0 aa hl x5 e U) (bG ..) oL J.Cl (aj [_,_,_,_,_,_] 0x10f088e8e3e1e510c4510c913410c88fe4e2e1e312c099182110c089e1e0 aa (qI _ _ J.Cn J.Cl) hl x5 e U) λC4 so=>?_;rw[ij];generalize(cX o k (dA f H g)).1=N4 at*
  generalize(cX o k (dA f H g)).2=r at*
  have x2:∀z∈done++(g++d.drop (j+f.length)),z<o.length:=λz hz=>by
   refine aB (ed.mp hz) (λh=>?_) (λh=>?_)
   ·exact x9 z h
   ·refine aB (ed.mp h) (λh=>?_) (λh=>?_)
    ·exact(h1 z h).1
    ·exact gE (I.lv.num z (JA h)).1 p.len
  have e1:=kO.mp (v▸y);rw[(by rw[<-B,<-List.drop_drop,Fz]:d.drop j=g++d.drop (j+f.length))] at A;have J4:ko W.tops E w c6 N k N4 (done++[r]) C4:=by
   refine⟨m1,J.p.trans m2,⟨λm l=>?_,λt m l x bx=>?_⟩,?_,?_⟩
   ·refine aB (ed.mp l) (λl=>?_) (λl=>?_)
    ·refine aw (J.lv.num m l) λa b=>aF (gE a m2.len) (by rw[m2.lvl a];exact b)
    ·rw[bZ.mp l];exact aF m3 m5
   ·by_cases h:t<done.length
    ·rw[jv h] at l;rw[m2.val m x (J.lv.num m (dw l)).1];exact J.lv.val t m l x bx
    ·have h5:=eU l;rw[b7,ea] at h5;have e:t=done.length:=bQ (aj [_,_] 298036668995600 aa h5) (aj [_,_] 72747142160 aa h);subst e;rw[oX (cO _),yT] at l;cases l;refine au (m6 x bx) λmm e8 e9=>aw (bx k H ht) λt0 t1=>aL (Jl t1 (row:=f) (λa ha=>by rw[ok.zero] at ha;cases ha;exact t0) h3) λa i1 i2 i3=>?_;have e2:=Yd ok v i1 i2 i3;rw[e8] at e2;refine aK (dc (xs:=g) (i:=kn f (x k)) (by rw[v];exact eU i1)) λmz x3=>?_;have a1:mm=mz:=by rw[jP e2,cY,x3];rfl
     subst a1;rw[e9,p.val mm x (h4 mm (dw x3)),I.lv.val _ mm (x1 _ _ x3) x bx,h6,gA.q2,hd,x6]
   ·refine aB so.what ?_ ?_;rotate_left;intro u;refine bu u ?_;rintro rfl rfl Y;rotate_right;intro u;refine cP u ?_;rintro ps a4 Y Y rfl
    ·exact λm l=>(Jm.mp l).elim (λh=>gE (J.Cl m h) m2.len) λh=>h▸m3
    ·exact J.Cl
   ·refine aB so.what ?_ ?_;rotate_left;intro u;refine bu u ?_;rintro rfl rfl Y;rotate_right;intro u;refine cP u ?_;rintro ps a4 Y Y rfl
    ·exact Yr J.Cn
    ·exact J.Cn
  have nx:=ih (i+1) N4 (done++[r]) C4 (.v (.int ((j:ah):af))) (bQ (aj [_,_,_] 0x10f291918012c2991810 aa e) (aj [_,_,_] 0x10f919180215c2991810 aa e)) (p.trans m2) J4 (aj [_,_,_,_] 0x10f991821310c9180310c9210 aa m4 hl) (by rw[b7,hd];rfl) (by rw[e4];exact Ys m2 J.g x2 e1 so A);rw[ck,BQ m2 J.g m1 x9] at nx;exact⟨aS (m:=400) (by rw[aI,hd];exact aj [_,_,_] 0x10f089e1e112c099182110c089e1e0 aa e U) aa,nx⟩
theorem Y4{A B cnt len:ah}(d:A=cnt*len)(e:B=len)(b:0<len)(a:len<=1000)(h:cnt*len<=1000000){P:ae V->Sg->AH->Prop}(q:P (sE len 0 cnt) f G):∃k:ah,kC 0 (A:af) (B:af)=ao/\ie 0 (A:af) (B:af)=(k:af)/\P ((cC k).map λ(i:ah)=>V.int (0+(i:af)*(B:af))) f G:=by subst d e;exact cf cnt (Jp cnt B b a h).1 (Jp cnt B b a h).2 (by rw[YZ];exact q)
theorem Y5(X:Gd c (n+5))(S:DZ W.tops D W Z G)(hE:∀k,(E k).length<=7)(wt:fj W)(x0:ah->af)(b0:b6 W.tops x0)(hT:W.tops.length<=3){a:ae (ae af)}{c6:ae aA}{L:aZ}(oL:L≠D.an/\L≠D.ab/\L≠D.am)(zL:L∉[D.x,D.dx,Z.x,Z.dx,Z.al,Z.ap])
 (h1:a.length<=3)(w:∀(v:ah)(d:ae af),a[v]?=ac d->∃o:af,W.tops[v]?=ac o/\hR E v d o/\d.length<=7){K:Sg->AH->Prop}{a3 x:LV}
 (q:∀N2 r C y z A p,ko W.tops E a c6 N 0 N2 [r] C->nZ N2 [r] C->N2.length<=N.length+2000->K [.v (.ref D.x),.v (.ref Z.x),.v (.d (.list (a.map fN))),a3,.v (.ref L),.v (.d (.list [el N2 r])),y,z,A,p,x] (dg D (aE G L (.stab (cK W N2 C))) N2 M)):
 ∀(k:ah)(N2:ae Nd)(b C:ae ah)(y z A p:LV),k<=a.length->ko W.tops E a c6 N k N2 b C->nZ N2 b C->N2.length+400*k<=N.length+2000->N.length<=70000->b.length=iI (a.take k)->b.length<=400->
 dj (bK 6) (dP.b IW c Q) (qO k) [.v (.ref D.x),.v (.ref Z.x),.v (.d (.list (a.map fN))),a3,.v (.ref L),.v (.d (.list (b.map (el N2)))),y,z,A,p,x] (dg D (aE G L (.stab (cK W N2 C))) N2 M) K:=by
 intro k;induction k with
 |zero=>intro N2 b C y z A p Y I s H Y t Y;refine aK (List.length_eq_one_iff.mp t) ?_;rintro r rfl;exact q _ _ _ _ _ _ _ I s H
 |succ k ih=>
  intro N2 b C y z A p hk I s H hN t U;refine aK (dc (xs:=a) (i:=k) hk) λd g=>aL (w k d g) λo l ok j=>aK (dc (xs:=W.names) (i:=k) (by rw[wt.len];exact eU l)) λnm h2=>?_;have B:d≠[]:=λh=>by have:=ok.zero;rw[h] at this;cases this
  have f:=kO.mpr B;rw[(by rw[Yb,g];rfl:a.take (k+1)=a.take k++[d]),Jo] at t;generalize hc:iI (a.take k)=cnt at*
  have u:a.drop k=d::a.drop (k+1):=by rw[vU hk];rw[cr hk] at g;rw[jP g]
  refine⟨_,dW fN g (aS (m:=3) h1 aa),aS (m:=400) (by rw[aI];exact U) aa,aS (m:=7) (by rw[aI];exact j) aa,(λe=>by rw[aI] at e;exact ay [_] 0x16f080811c00812c080 aa (eL.2 f) e),(by rw[aI,zI];exact qm j (by decide)),Y4 (cnt:=cnt) (len:=d.length) ((aI ..).trans t) (aI ..) f (bn j (aX _ _)) (aS (m:=400) (t▸U) aa) ?_⟩
  refine Y2 (n:=n) X S hE wt x0 b0 hT oL zL h2 l ok j u I t U (aj [_,_,_] 0x10f88fe4e2e1e110c908de7e092110c087e1e1e1e0 aa H hN) (λN3 done C3 p J cv l3 d3=>?_) cnt 0 N2 [] C p (dZ _) oW ⟨I.g,I.p,⟨(λY h=>nomatch h),(λY Y h=>nomatch h)⟩,I.Cl,I.Cn⟩ (cO _) aa (by rw[Jq];exact s);exact ih N3 done C3 _ _ _ _ (uo hk) J cv (aj [_,_,_,_] 0x10f908de7e290b9e1e1310c9089e1e0310c908de7e290b9e1e91810 aa l3 H) hN (by rw[d3]) (by rw[d3];exact(bn (Jt cnt f) (t▸U):cnt<=400))
theorem Y6(X:Gd c (n+6))(S:DZ W.tops D W Z G)(g:bW W.tops E N)(hE:∀k,(E k).length<=7)(wt:fj W)(x0:ah->af)(b0:b6 W.tops x0)(hT:W.tops.length<=3){b:ae (ae af)}{c6:ae aA}{L:aZ}(oL:L≠D.an/\L≠D.ab/\L≠D.am)(zL:L∉[D.x,D.dx,Z.x,Z.dx,Z.al,Z.ap])(hL:G L=ac (.stab []))
 (u:b.length=W.tops.length)(w:∀(v:ah)(f:ae af),b[v]?=ac f->∃y:af,W.tops[v]?=ac y/\hR E v f y/\f.length<=7)(A:c6.length=iI b)(o:c6.length<=400)(B:∀v∈c6,eC v)(hN:N.length<=70000)
 (q:∀N2 r C,ko W.tops E b c6 N 0 N2 [r] C->nZ N2 [r] C->N2.length<=N.length+2000->Q (.d (el N2 r)) (dg D (aE G L (.stab (cK W N2 C))) N2 M)):
 FC c (.ref 319) [.ref D.x,.ref Z.x,.d (.list (b.map fN)),.d (.list c6),.ref L] (dg D G N M) Q:=by
 refine Xv X λc X=>?_;have d:=u▸hT;refine⟨bn (fT (aI ..)) (bn o (aX _ _)),Y1 (n:=n+3) X S.toDB (λv hv=>by refine aB (B v hv) ?_ ?_<;>rintro rfl<;>decide+kernel) o (aj [_] 0x10f088e8e3e1e010c087e1e1e1e0 aa hN) (λN1 H h2 g1 p1 l1 e1 s=>?_) c6 [] N [] .u aa g oW (cO _) aa (λY Y h=>nomatch h)⟩
 have I:ko W.tops E b c6 N b.length N1 H []:=by
  refine⟨g1,p1,⟨λm J=>?_,λj m J x bx=>?_⟩,λY h=>(nomatch h),t7⟩
  ·refine aK (lb J) λj U=>?_;refine au (s j m U) λv Y h=>aF (eU h) (by unfold bt;rw[h,u];exact cO _)
  ·refine au (s j m J) λv h1 h=>?_;rw[g8 h,y3 (cO _),gA.q1,h1]
 have cv:nZ N1 H []:=λm=>by
  constructor
  ·intro h;cases h
  ·intro t;refine aL t λz hz r i=>?_;refine aK (lb hz) λj U=>?_;refine au (s j z U) λv Y h=>aB (BN r) ?_ ?_;rotate_left;intro t;refine fa t λk ps p e Y=>?_;rotate_right;rintro rfl
   ·refine fz i λk ps e=>?_;rw[h] at e;cases e
   ·rw[h] at e;cases e
 have eG:aE G L (.stab (cK W N1 []))=G:=by
  funext a;unfold aE;split
  ·next h=>rw[h];exact hL.symm
  ·rfl
 refine⟨aS (m:=3) (by rw[aI];exact d) aa,?_⟩
 rw[aI];refine⟨aW aa,aX _ _,BS (aS (m:=3) d aa) ?_⟩
 rw[<-eG];exact(@Y5 E W Z D G N M c n Q X S hE wt x0 b0 hT b c6 L oL zL d w) (λN2 r C h6 h7 h8 h9 I cv l=>q _ _ _ I cv l) b.length N1 H [] .u .u .u .u (cO _) I cv (aj [_,_,_] 0x10f908de7e290b9e1e0110c9089e1e2100c9e1e380 aa l1 d) hN (by rw[e1,A,EB]) (by rw[e1];exact o)
end
def JB:=(az (bS 6 (g7 [9] (bK 9) (dk (bO (ag 3) (ag 5))) (fi (cW (.ref 290) (ai (ag 0) (ai (ag 5) (ai (ag 9) av))))))) (az (bS 4 (Uj [9,10] (bK 10) (dk (ag 4)) (wQ (bK 9) (dk (ag 6)) (bI .BitAnd (ag 10) (ag 9))))) aH))
def JC:=(az (dR (dO eT 7 (ai (bT (bI .Add (g7 [11] (bK 11) (dk (ag 1)) (AJ (bX .Eq (bI .Mod (bI .FloorDiv (ag 8) (bI .Pow (aO 2) (ag 11))) (aO 2)) (aO 1)) (bT (bO (ag 0) (ag 11)) 0))) (im (ai (ag 2) av))) 0) av))) aH)
def JD:=(az (eu 4 (eg (ai (bI .Sub (bI .Pow (aO 2) (bY dU (ai (ag 0) av))) (aO 1)) av))) (gj 4 (az (dP (bK 5) (mv (bY kJ (ai (bY dU (ai (ag 3) av)) av))) JB) (az (eu 7 (eg av)) (az (dP (bK 8) (mv (bY kJ (ai (bI .Pow (aO 2) (bY dU (ai (ag 0) av))) av))) JC) (az (cD (g7 [10] (bK 10) (dk (ag 4)) (fi (bO (ag 7) (ag 10))))) aH))))))
theorem Y7(X:Gd c (n+1))(h:∀c,Gd c n->JD c [.v a,.v b,.v d,.v e,.u,.u,.u,.u,.u,.u,.u,.u] G (λY G=>Q .none G) (λY Y=>aC) Q):FC c (.ref 295) [a,b,d,e] G Q:=d7 ⟨295,35,ak,"_law_table","law_pq1084_01",578⟩ JD ["boxes","sequence","rest","few"] [ac "boxes",ac "sequence",ac "rest",ac "few",ac "cells",ac "variable",ac "lets",ac "said",ac "cell",ak,ak,ak] 8 ax [(262,4,ax)] [("n",9),("cell",10),("k",11)] X.B X.R (λE R=>h _ ⟨X.B,R⟩) (by kernel_rfl) (by kernel_rfl) aa (by kernel_rfl) (ox λY Y Y Y=>by kernel_rfl) (by kernel_rfl)
def uY(a:ae Bx)(v:ah)(b:ae af):ae aA:=b.map λm=>.int (gk 0 a v m:ah)
theorem Y8{K:ae aA->Sg->AH->Prop}(x v)(g:ae af)(q:∀b,K (cy (g.map λm=>x&&&gk 0 a v m)) [h,i,j,k,l,n,o,p,s,b,.v (.d (.int x)),f] G):
 ∀(r d)(b),g=d++r->fK (bK 9) (fi (bI .BitAnd (ag 10) (ag 9)) c) ((uY a v r).map V.d) (cy (d.map λm=>x&&&gk 0 a v m)) [h,i,j,k,l,n,o,p,s,b,.v (.d (.int x)),f] G K:=by
 intro r;induction r with
 |nil=>intro d b e;rw[c8] at e;subst e;exact q b
 |cons m r t=>intro d b e;have:=t (d++[m]) (.v (.d (.int (gk 0 a v m:ah)))) (by rw[e,cs];rfl);unfold cy at this;rw[ck,ck] at this;show AG _ _ _ [.int (Fd x (gk 0 a v m:ah))] _ _;rw[XK];exact this
theorem Y9{K:ae aA->Sg->AH->Prop}(g:f.length<=7)(q:∀b a,K (cy (kl boxes v f cells)) [i,j,k,l,m,n,.v (.d (.list (uY boxes v f))),o,p,b,a,h] G):
 ∀(r d)(b a),cells=d++r->fK (bK 10) (wQ (bK 9) (dk (ag 6)) (bI .BitAnd (ag 10) (ag 9)) c) ((cy r).map V.d) (cy (kl boxes v f d)) [i,j,k,l,m,n,.v (.d (.list (uY boxes v f))),o,p,b,a,h] G K:=by
 intro r;induction r with
 |nil=>intro d b a e;rw[c8] at e;subst e;exact q b a
 |cons x r s=>
  intro d b a e;refine⟨by unfold uY;rw[aI,aI];exact aj [_] 0x10fc82e1e010c780 aa g,Y8 x v f (λb=>⟨by unfold cy;rw[aI,aI];exact aj [_] 0x10fc82e1e010c780 aa g,?_⟩) f [] b aa⟩
  have:=s (d++[x]) b (.v (.d (.int x))) (by rw[e,cs];rfl);unfold kl cy at this;rw[Wn,ck,List.flatMap_singleton] at this;exact this
theorem Za(X:Gd c (n+1))(w:∀b∈a,f.length<=b.sp.length/\b.sp.length<=1000)(A:a.length<=10)(y:f.length<=3)(t:∀g∈f,g.length<=7){K:Sg->AH->Prop}
 (q:(iG a 0 f [c0]).length<=7^f.length->∀j l,K [.v (.d (.list (a.map cz))),B,C,.v (.d (.list (f.map fN))),.v (.d (.list (cy (iG a 0 f [c0])))),j,l,D,E,.u,.u,u] G):
 ∀(r d:ae (ae af))(j l:LV),f=d++r->(iG a 0 d [c0]).length<=7^d.length->dj (bK 5) (dP.b JB c Q) (iZ d.length r.length) [.v (.d (.list (a.map cz))),B,C,.v (.d (.list (f.map fN))),.v (.d (.list (cy (iG a 0 d [c0])))),j,l,D,E,.u,.u,u] G K:=by
 intro r;induction r with
 |nil=>intro d j l e s;rw[c8] at e;subst e;exact q s j l
 |cons g r H=>
  intro d j l e s;have h:f[d.length]?=ac g:=by rw[e];simp
  have o:=eU h;have i:=t g (dw h);have st:=XH a d 0 g [c0];rw[dZ] at st;have z:=H (d++[g]) (.v (.int d.length)) (.v (.d (.list (uY a d.length g)))) (by rw[e,cs];rfl) (by rw[st,I3,b7];exact zu s i);rw[st,b7] at z;refine⟨_,dW fN h (aS y aa),by rw[aI,aI];exact aj [_] 0x10f08ae6e8e1e010c780 aa i,kM (f0:=cJ) (λm=>.int (gk 0 a d.length m:ah)) aa (λm Y K k=>Yz X (λb p=>⟨gE o (w b p).1,(w b p).2⟩) (aj [_] 4783433390803584 aa A) k) λx=>⟨by unfold cy;rw[aI,aI];exact aj [_,_] 0x10fc82e1e110c0110c183e0 aa s (tN (aX _ _) (aj [_,_] 0x10f28111c0110c380 aa o y):7^d.length<=7^2),?_⟩⟩
  exact Y9 (c:=c) (boxes:=a) (v:=d.length) (cells:=iG a 0 d [c0]) i (λJ I=>z) (iG a 0 d [c0]) [] .u .u aa
theorem Zb{K:ae aA->Sg->AH->Prop}{cell:ah}(l:a.length<=10)(t:∀k∈i,k<a.length)(q:∀f,K ((i.filter λk=>cell.testBit k).map (kY a)) [.v (.d (.list (a.map cz))),u,v,w,x,y,z,A,.v (.int cell),B,n,f] G):
 ∀(r d)(f),i=d++r->fK (bK 11) (AJ (bX .Eq (bI .Mod (bI .FloorDiv (ag 8) (bI .Pow (aO 2) (ag 11))) (aO 2)) (aO 1)) (bT (bO (ag 0) (ag 11)) 0) c) ((cy r).map V.d) ((d.filter λk=>cell.testBit k).map (kY a)) [.v (.d (.list (a.map cz))),u,v,w,x,y,z,A,.v (.int cell),B,n,f] G K:=by
 intro r;induction r with
 |nil=>intro d f e;rw[c8] at e;subst e;exact q f
 |cons k r C=>
  intro d f e;have hk:=t k (by rw[e];simp);refine aK (dc hk) λb j=>?_;have s:(2:af)^((k:ah):af).toNat=((2^k:ah):af):=by rw[lA];push_cast;rfl
  have o:1<=2^k:=sw (by simp);have g:=C (d++[k]) (.v (.d (.int k))) (by rw[e,cs];rfl);rw[List.filter_append,ck] at g;refine⟨bl _,ay [_,_] 0x10f084e2e4efe111c0110ca80 aa (eL.2 hk) (bD.2 l),aX _ _,?_⟩
  rw[s];refine vB.n (λq=>bv (sj q) (Js o)) ⟨by rw[zI];exact aj [_] 0x11f080e0e0e0e0e0e4e010c080e4e0 aa (tN (aX _ _) (aj [_,_] 0x10fa8111c0110ca80 aa hk l):2^k<=2^10),?_⟩;have p:=XM cell k;rw[<-lA k,s,lA] at p;refine vB.d (λe=>?_) λe=>?_
  ·refine⟨_,dW cz j (aS (m:=10) l aa),?_⟩
   rw[Zc (p.mp e)] at g;rw[c9,(by unfold kY;rw[j];rfl:kY a k=b.vd)] at g;exact g
  ·rw[Zd (λh=>e (p.mpr h))] at g;exact g
theorem Ze{K:Sg->AH->Prop}(l:a.length<=10)(n:∀k∈b,k<a.length)(g:b.length<=100)(o:h<=1024)
 (q:∀f,K [.v (.d (.list (a.map cz))),.v (.d (.list (cy b))),.v (.d d),p,r,s,t,.o (.list ((cC h).map (mO a b d))),f,.u,.u,.u] G):
 ∀(m i)(f),i+m=h->dj (bK 8) (dP.b JC c Q) (iZ i m) [.v (.d (.list (a.map cz))),.v (.d (.list (cy b))),.v (.d d),p,r,s,t,.o (.list ((cC i).map (mO a b d))),f,.u,.u,.u] G K:=by
 intro m;induction m with
 |zero=>intro i f e;have e:=e;subst e;exact q f
 |succ m u=>
  intro i f e;have j:=u (i+1) (.v (.int i)) (bQ (aj [_,_,_] 0x10f291918012c2991810 aa e) (aj [_,_,_] 0x10f919180215c2991810 aa e));rw[NC,ck] at j;refine⟨by unfold cy;rw[aI,aI];exact aj [_] 0x10f08ae6e8e1e010c486e0 aa g,Zb (cell:=i) l n (λv=>⟨by rw[ea];exact aj [_] 0x10f084e2e4efe918010c486e0 aa (by rw[aI];exact bn (List.length_filter_le ..) g:((b.filter λk=>i.testBit k).map (kY a)).length<=100),?_⟩) b [] .u aa⟩
  have w:((b.filter λk=>i.testBit k).map (kY a)++[d])[0]?=ac (mO a b d i):=by unfold mO;cases(b.filter λk=>i.testBit k).map (kY a)<;>rfl
  exact oP w ⟨by rw[aI,lR];exact aj [_,_,_] 0x10f084e2e4efe112c099182110c080e4e0 aa e o,j⟩
theorem JE(X:Gd c (n+2))(v:∀b∈a,d.length<=b.sp.length/\b.sp.length<=1000)(h:a.length<=10)(w:∀k∈f,k<a.length)(l:f.length<=100)(j:d.length<=3)(o:∀y∈d,y.length<=7)
 (q:Q (.d (.list (gS a f g d))) G):FC c (.ref 295) [.d (.list (a.map cz)),.d (.list (cy f)),.d g,.d (.list (d.map fN))] G Q:=Y7 X λc X=>by
 have t:1<=2^a.length:=sw (by simp);have p:2^a.length<=2^10:=tN (aX _ _) h;have u:(2:af)^((a.length:ah):af).toNat=((2^a.length:ah):af):=by rw[lA];push_cast;rfl
 have e:(a.map cz).length=a.length:=aI ..;refine⟨aS (m:=10) (by rw[e];exact h) aa,bl _,by rw[e];exact ay [_] 0x10f084e2e4efe010ca80 aa (bD.2 h),aX _ _,?_⟩
 rw[e,u];refine⟨aS (m:=3) (by rw[aI];exact j) aa,aa,aa,d.length,by rw[aI],aS j aa,?_⟩
 rw[(bA (λi=>[cJ i]) (Yo t).symm:[cJ (((2^a.length:ah):af)-1)]=cy [2^a.length-1])];refine Za X v h j o (c0:=2^a.length-1) (λr A B=>?_) d [] .u .u aa (cO _);refine⟨aS (m:=10) (by rw[e];exact h) aa,bl _,by rw[e];exact ay [_] 0x10f084e2e4efe010ca80 aa (bD.2 h),aX _ _,?_⟩
 rw[e,u];refine⟨aa,aa,2^a.length,aa,aj [_] 0x10f084e2e4efe010c080e4e0 aa p,Ze h w l p (λC=>?_) (2^a.length) 0 .u (dZ _)⟩
 refine⟨by unfold cy;rw[aI,aI];exact aj [_,_] 0x10f08ae6e8e1e110c0110c785e1e0 aa r (tN (aX _ _) j:7^d.length<=7^3),kM (f0:=λc:ah=>cJ c) (mO a f g) aa (λc s K k=>⟨_,dW (mO a f g) (uV ((XJ λc z=>by rw[bZ.mp z];exact aj [_,_] 315628871324032 aa (dt (aj [_] 18623381946392 aa t:1<=2^a.length)):∀c∈iG a 0 d [2^a.length-1],c<2^a.length) c s)) (by rw[lR];exact aj [_] 0x10f084e2e4efe010c080e4e0 aa p),k⟩) λx=>q⟩
def JF:=(az (ue (eg (ai (aO 0) (ai (aO 1) (ai (aO 0) (ai (aO 0) (ai (aO 5) (ai (aO 0) (ai (aO 5) (ai (aO 0) (ai (aO 5) (ai (aO 1) (ai (aO 0) (ai (aO 33) (ai (aO 0) (ai (aO 0) (ai (aO 17) (ai (aO 0) (ai (aO 37) av))))))))))))))))))) aH)
theorem Zf(X:Gd c (n+1))(h:∀c,Gd c n->JF c [] G (λY G=>Q .none G) (λY Y=>aC) Q):FC c (.ref 262) [] G Q:=d7 ⟨262,30,ak,"_law_firsts","law_pq1084_01",578⟩ JF [] [] 0 ao [] [] X.B X.R (λE R=>h _ ⟨X.B,R⟩) (by kernel_rfl) (by kernel_rfl) aa (by kernel_rfl) (Ev (by kernel_rfl)) (by kernel_rfl)
def JG:=(az (ir (ag 8) (ag 9) (aT (ai (ag 10) (ai (ag 11) av)))) aH)
def JH:=(az (AK 8 [13] (bK 13) (dk (cw (ag 1) "tops")) (fi (aT (ai (aO 0) (ai (ag 13) av))))) (az (dP (ms 9 10 11) (dk (ag 6)) JG) (gj 8 (az (dR (dO eT 5 (ai (aT (ai (ag 7) (ai (ag 8) av))) av))) aH))))
def JI:=(az (eu 5 (eg av)) (az (dP (cV 6 7) (dk (ag 3)) JH) (gj 5 (az (bS 5 (cW (.ref 333) (ai (ag 5) (ai (ag 4) av)))) (az (bS 12 (cW (.ref 309) (ai (ag 0) (ai (rV (ag 5) (qp (aO 1)) mA mA) (ai (d6 (ag 0) "leaf" (ai (bf "policy") av)) av))))) (az (cE (bX .NotEq (cW (.ref 309) (ai (ag 0) (ai (rV (ag 5) mA (qp (aO 1)) mA) (ai (ag 12) av)))) (ag 2)) (az (cD (lE ax)) aH) aH) (az (cE (bX .NotEq (cW (.ref 159) (ai (ag 0) (ai (ag 12) (ai (ag 2) av)))) (bY nF (ai (g7 [14] (bK 14) (dk (bT (bT (ag 5) 0) 1)) (fi (bT (ag 14) 0))) av))) (az (cD (lE ax)) aH) aH) (az (Bv (.ref 340) (ai (ag 0) (ai (ag 1) (ai (ag 12) av)))) aH))))))))
theorem Zg(X:Gd c (n+1))(h:∀a,Gd (c.deeper a) n->JI (c.deeper a) [.v b,.v d,.v e,.v f,.v g,.u,.u,.u,.u,.u,.u,.u,.u,.u,.u] G (λY G=>Q .none G) (λY Y=>aC) Q):fe c (.ref 345) [b,d,e,f,g] G Q:=uR ⟨345,43,ak,"_law_again","law_pq1084_01",578⟩ JI ["diagrams","space","number","told","turn"] [ac "diagrams",ac "space",ac "number",ac "told",ac "turn",ac "boxes",ac "path",ac "verdict",ac "spans",ac "variable",ac "low",ac "high",ac "without_first",ak,ak] 10 ax [(355,8,ax),(356,5,ax)] [] [("top",13),("span",14),("",0)] X.B X.R (λE R=>h _ ⟨X.B,R⟩) (by kernel_rfl) (by kernel_rfl) aa (by kernel_rfl) (rz λY Y Y Y Y=>by kernel_rfl) (by kernel_rfl)
def JJ:=(az (ir (ag 1) (ag 2) (bI .Add (bO (ag 1) (ag 2)) (bO (ag 0) (ag 2)))) aH)
def JK:=(az (bS 5 (g7 [19] (bK 19) (mv (bY kJ (ai (bY dU (ai (cw (ag 3) "tops") av)) av))) (fi (cW (.ref 276) (ai (bO (ag 1) (bI .Add (bI .Add (ag 2) (aO 1)) (ag 19))) (ai (bO (cw (ag 3) "tops") (ag 19)) av)))))) (az (dR (dO eT 4 (ai (aT (ai (bO (aT (ai (bf "accept") (ai (bf "drop") av))) (bI .Mod (bO (ag 1) (ag 2)) (aO 2))) (ai (ag 5) av))) av))) aH))
def JL:=(az (xp (iT (bX .Gt (bY dU (ai (ag 16) av)) (aO 14))) (.ref 345) (ai (ag 8) (ai (ag 3) (ai (ag 9) (ai (ag 13) (ai (bT (ag 1) 4) av)))))) aH)
def JM:=(tZ 10 (az (bS 18 (cW (.ref 309) (ai (ag 8) (ai (g7 [22] (bK 22) (dk (ag 10)) (fi (bO (ag 4) (ag 22)))) (ai (d6 (ag 8) "leaf" (ai (ag 6) av)) av))))) (az (cE (bX .NotEq (cW (.ref 159) (ai (ag 8) (ai (ag 9) (ai (ag 18) av)))) (cW (.ref 302) (ai (ag 7) (ai (ag 11) (ai (cW (.ref 295) (ai (ag 4) (ai (ag 10) (ai (ag 6) (ai (ag 7) av))))) av))))) (az (cD (lE ax)) aH) aH) JL)))
def JN:=(qi 12 (az (mu (ms 13 14 15) (cW (.ref 319) (ai (ag 8) (ai (ag 3) (ai (ag 7) (ai (ag 11) (ai (ag 12) av))))))) (az (ir (ag 12) (bf "tree") (im (ai (aT (ai (aT (ai (bf "verdict") (ai (ag 15) av))) av)) av))) (az (cE (Fa (bX .NotEq (ag 9) (ag 14)) (bX .NotEq (cW (.ref 220) (ai (ag 8) (ai (ag 3) (ai (ag 9) (ai (bf "tree") av))))) (ag 12))) (az (cD (lE ax)) aH) aH) (az (bS 16 (g7 [20,21] (cV 20 21) (dk (ag 13)) (fi (cW (.ref 326) (ai (ag 3) (ai (ag 20) (ai (ag 21) av))))))) (az (cE (bX .NotEq (cW (.ref 234) (ai (ag 8) (ai (ag 3) (ai (ag 9) (ai (bf "tree") (ai (bY dU (ai (ag 16) av)) av)))))) (kL (qo (bf "tree") (ag 16)))) (az (cD (lE ax)) aH) aH) (az (cE (bX .Gt (bY dU (ai (ag 4) av)) (aO 1)) (az (bS 17 (bI .Mod (bT (ag 1) 3) (bI .Sub (bY dU (ai (ag 4) av)) (aO 1)))) (az (Au (ag 10) (ag 17) (ag 10) (bI .Add (ag 17) (aO 1)) (aT (ai (bI .Add (ag 17) (aO 1)) (ai (ag 17) av)))) aH)) aH) JM)))))))
def JO:=(az (bS 1 (cW (.ref 262) av)) (az (dP (bK 2) (mv (bY kJ (ai (bY oH (ai (bY dU (ai (ag 0) av)) (ai (bY dU (ai (ag 1) av)) av))) av))) JJ) (tZ 1 (az (uP 3 (.ref 269) (ai (bT (ag 1) 0) av)) (az (eu 4 (eg av)) (az (dP (bK 2) (qh (bY qe (ai (aO 5) (ai (bI .Add (bI .Mult (aO 4) (bI .Mod (bT (ag 1) 1) (aO 3))) (aO 9)) (ai (aO 4) av))))) JK) (gj 4 (az (bS 6 (bO (aT (ai (bf "accept") (ai (bf "drop") av))) (bI .Mod (bT (ag 1) 2) (aO 2)))) (az (bS 7 (g7 [19] (bK 19) (mv (bY kJ (ai (bY dU (ai (cw (ag 3) "tops") av)) av))) (fi (cW (.ref 283) (ai (ag 4) (ai (ag 19) (ai (bO (cw (ag 3) "tops") (ag 19)) av))))))) (az (uP 8 (.ref 117) (ai (cw (ag 3) "tops") av)) (az (bS 9 (cW (.ref 309) (ai (ag 8) (ai (ag 4) (ai (d6 (ag 8) "leaf" (ai (ag 6) av)) av))))) (az (eu 10 (Ao (bY kJ (ai (bY dU (ai (ag 4) av)) av)))) (qi 10 (az (uP 11 (.ref 295) (ai (ag 4) (ai (ag 10) (ai (ag 6) (ai (ag 7) av))))) (az (eu 12 wH) JN)))))))))))))))
theorem Zh(X:Gd c (n+1))(h:∀a,Gd (c.deeper a) n->JO (c.deeper a) [.v b,.u,.u,.u,.u,.u,.u,.u,.u,.u,.u,.u,.u,.u,.u,.u,.u,.u,.u,.u,.u,.u,.u] G (λY G=>Q .none G) (λY Y=>aC) Q):fe c (.ref 350) [b] G Q:=uR ⟨350,44,ak,"law","law_pq1084_01",578⟩ JO ["script"] [ac "script",ac "told",ac "k",ac "space",ac "boxes",ac "spans",ac "rest",ac "few",ac "diagrams",ac "number",ac "sequence",ac "table",ac "chains",ac "ways_told",ac "due",ac "verdict",ac "rules",ac "at",ac "changed",ak,ak,ak,ak] 22 ao [(367,101,ax),(372,4,ax),(377,10,ao),(379,12,ao),(389,110,ax)] [367,374,377] [("variable",19),("path",20),("said",21),("k",22)] X.B X.R (λE R=>h _ ⟨X.B,R⟩) (by kernel_rfl) (by kernel_rfl) aa (by kernel_rfl) (nu λY=>by kernel_rfl) (by kernel_rfl)
theorem Zi:∀{pr:ae (af×ah)}{p:af×ah}{r:ae (af×ah)}{z:af×ah}{a:af},eh a (pr++p::r)->pr.getLast?=ac z->z∈pr++p::r/\z.1<p.1
 |pr,p,r,z,a,h,b=>⟨gg _ (List.mem_of_getLast? b),((Ic h).2 z b).2⟩
theorem JP(g:bW T E N):∀(n),n<N.length->∀w∈b9 N n,(∀e∈w.1,bt T N n<=e.1/\(e.2.1=0\/e.2.1∈E e.1)/\∀d,T[e.1]?=ac d->e.2.2=d\/e.2.2+1∈E e.1)/\(w.1.map (·.1)).Nodup:=by
 intro n;induction n using mF with
 |_ n I=>
  intro t w l
  have e:=cr t
  cases u:N[n] with
  |leaf v=>rw[u] at e;rw[mI e] at l;simp at l;subst l;exact aF (by simp) (by constructor)
  |br k x=>
   rw[u] at e;rw[mJ g e] at l;refine xQ (Ib k _ x 0 w l) ?_;rintro J p r q lo f L rfl M Q;have y:=g.br e;refine cP y.top λd m A U B=>?_;have o:p∈x:=by rw[f];simp
   refine aw (y.ch p o) λC D=>aw (I p.2 C (aj [_,_,_] 80803185763097616 aa C t) q L) λG W=>?_;rw[mG e];refine aF (λz c=>?_) ?_
   ·refine aB (bj.mp c) ?_ (λc=>?_);rintro rfl
    ·refine ca (cO _) ?_ λH h=>?_
     ·cases i:J.getLast? with
      |none=>exact .inl (M (Bo.mp i))
      |some z=>
       right;refine aw (Zi (f▸A) i) λc s=>?_;rw[<-f] at c;refine aB (B z c) (λj=>?_) (λj=>?_)
       ·have:=((uO A U).2 p o).2;exact(ay [_,_,_] 0x16f080811c2010c1215c10 aa s this j:aC).elim
       ·simp only;rw[Q z i];exact j
     ·simp only at h;rw[m] at h;cases h;exact B p o
    ·refine aw (G z c) λa b=>aF (aj [_,_,_] 76299586135723024 aa D a) b
   ·rw[c9,nk];refine aF (λY=>?_) W;refine au (bV.mp Y) λz c j=>?_;simp only at j;exact aj [_,_,_] 0x16f080811c2110c0212c10 aa D ((G z c).1) j
def xD(a:ae af)(p:ek):=p.foldl (λsp e=>sp.set e.1 (e.2.1,e.2.2)) (a.map λt=>(0,t))
def lc(a:ae af)(w:ek×aA):Bx:=⟨w.2,xD a w.1⟩
theorem Zj(p:ek):∀(sp:ae (af×af)),(p.foldl (λsp e=>sp.set e.1 (e.2.1,e.2.2)) sp).length=sp.length:=by
 induction p with
 |nil=>intro sp;rfl
 |cons e r a=>intro sp;rw[jw,a,sF]
theorem Zk:∀(p:ek)(sp:ae (af×af))(v:ah),v<sp.length->(p.map (·.1)).Nodup->
 (∀e∈p,e.1=v->(p.foldl (λsp e=>sp.set e.1 (e.2.1,e.2.2)) sp)[v]?=ac (e.2.1,e.2.2))/\((∀e∈p,e.1≠v)->(p.foldl (λsp e=>sp.set e.1 (e.2.1,e.2.2)) sp)[v]?=sp[v]?):=by
 intro p;induction p with
 |nil=>intro sp v Y Y;exact aF (λe h=>by simp at h) λY=>rfl
 |cons e r j=>
  intro sp v f a;rw[c9,nk] at a;refine aw (j (sp.set e.1 (e.2.1,e.2.2)) v (by rw[sF];exact f) a.2) λk g=>aF (λz b c=>?_) λi=>?_
  ·rw[jw];refine aB (bj.mp b) ?_ (λb=>?_);rintro rfl
   ·rw[g λy d l=>a.1 (bV.mpr ⟨y,d,by rw[l,c]⟩),c,List.getElem?_set_self f]
   ·exact k z b c
  ·rw[jw,g λy d=>i y (ba _ d),List.getElem?_set_ne (i e aP)]
theorem BV(d:a[v]?=ac b)(c:(w.1.map (·.1)).Nodup):
 (∀e∈w.1,e.1=v->(lc a w).lo v=e.2.1/\(lc a w).hi v=e.2.2)/\((∀e∈w.1,e.1≠v)->(lc a w).lo v=0/\(lc a w).hi v=b):=by
 refine aw (Zk w.1 (a.map λt=>(0,t)) v (by simpa using((dF.mp d).1)) c) λf g=>?_;delta Bx.lo Bx.hi lc xD;simp only[cY];refine aF (λe h i=>?_) λj=>?_
 ·rw[f e h i];exact aF aa rfl
 ·rw[g j,fH,d];exact aF aa rfl
theorem Zl(g:bW T E N)(l:n<N.length)(o:w∈b9 N n)(d:∀t∈T,0<=t):mP T E (lc T w):=by
 refine bu (nS g n l w o) λr H f=>au f λm I s=>aw (JP g n l w o) λu x=>⟨by delta lc xD;rw[Zj,aI],g.ok _ (dw s),λv i b=>?_⟩
 refine aw (BV (w:=w) b x) λy z=>?_;by_cases h:∃e∈w.1,e.1=v
 ·refine au h λe a c=>aw (y e a c) λj k=>mU (r e a) λp q A B C Y=>bu (u e a) λY D G=>?_;subst c;rw[b] at q;cases q;rw[j,k];exact li A B C D (G _ b)
 ·refine aw (z λe a c=>h ⟨e,a,c⟩) λj k=>?_;rw[j,k];exact li (ay [] 17762312 aa) (ay [_] 18623113510920 aa (d i (dw b))) (ay [_] 69376 aa) (.inl aa) (.inl aa)
theorem xE(g:bW T E N)(f:n<N.length)(i:w∈b9 N n)(o:b6 T x):eP 0 T.length (lc T w) x=ao↔nW w.1 x:=by
 refine aw (nS g n f w i) λp Y=>aw (JP g n f w i) λu j=>?_;rw[qN];constructor
 ·intro h e a;refine au (p e a) λq k Y=>?_;have:=h e.1 (eX _) (dF.mp k).1;refine aw ((BV (w:=w) k j).1 e a aa) λb c=>?_;rw[b,c] at this;exact this
 ·intro h v Y r;have l:=cr r;refine aw (BV (w:=w) l j) λs t=>?_;by_cases m:∃e∈w.1,e.1=v
  ·refine au m λe a d=>aw (s e a d) λb c=>?_;rw[b,c,<-d];exact h e a
  ·refine aw (t λe a d=>m ⟨e,a,d⟩) λb c=>?_;rw[b,c];exact o v _ l
theorem Zm:∀{e},(∀b∈e,eP 0 n b x=ao->b.vd=v)->(∃b∈e,eP 0 n b x=ao)->gl n e d x=v:=by
 intro k;induction k with
 |nil=>exact@λY h=>by refine au h λb l Y=>?_;cases l
 |cons b r f=>
  exact@λi m=>by
   rw[gl.q2];by_cases c:eP 0 n b x=ao
   ·rw[aR c];exact i b aP c
   ·rw[aQ c];refine f (λg a=>i g (ba _ a))<|au m λg a j=>aB (bj.mp a) ?_ (λa=>?_);rintro rfl
    ·exact bv j c
    ·exact bi g a j
theorem JQ:∀{e},(∀b∈e,¬eP 0 n b x=ao)->gl n e d x=d:=by
 intro f;induction f with
 |nil=>exact@λY=>rfl
 |cons b r a=>exact@λh=>by rw[gl.q2];rw[aQ (h b aP)];exact a λg c=>h g (ba _ c)
theorem Zn:∀{bs},gl n bs d x=d\/∃b∈bs,gl n bs d x=b.vd:=by
 intro c;induction c with
 |nil=>exact .inl aa
 |cons b r a=>
  exact by
   rw[gl.q2];split
   ·exact .inr ⟨b,aP,aa⟩
   ·exact(a).imp id λ⟨f,h,e⟩=>⟨f,ba _ h,e⟩
theorem BW(g:bW T E N)(d:b6 T x):∀(n),n<N.length->∃m,dy N n m/\N[m]?=ac (.leaf (bU N x n)):=by
 intro n;induction n using mF with
 |_ n f=>
  intro h
  have e:=cr h
  cases c:N[n] with
  |leaf v=>rw[c] at e;exact bi n .here (by rw[g8 e];exact e)
  |br k q=>rw[c] at e;refine mU (g.step d e) λm i a Y j b=>au (f m a b) λz l o=>au (qC i) λr p Y=>bi z (dy.trans (dy.here.step e p) l) (by rw[j];exact o)
theorem BX(g:bW T E N)(q:b6 T r):∀(n),n<N.length->∀m v,dy N n m->N[m]?=ac (.leaf v)->∃y,b6 T y/\bU N y n=v:=by
 intro n;induction n using mF with
 |_ n s=>
  intro t m v c j;refine aB (BN c) ?_ ?_;rotate_left;intro d;refine dz d λk B p e l f=>?_;rotate_right;rintro rfl
  ·exact bi r q (g8 j)
  ·refine aw ((g.br e).ch p l) λh u=>au (s p.2 h (aj [_,_,_] 80803185763097616 rfl h t) m v f j) λy i w=>cP (g.br e).top λx b c a Y=>bu (Hk c p l) λz A o=>?_;rw[a] at o;refine bi (i9 y k p.1) (i.set b (ay [_] 76280273209792520 aa A) o) ?_;rw[uA e (by rw[(by simp[i9]:i9 y k p.1 k=p.1)];exact z) h,uB g k p.1 p.2 y u];exact w
noncomputable abbrev eJ:aA:=.str (aD "policy")
theorem DB.up'(S:DB T D G)(F:dv (cx D G a b M) c):DB T D (bH (cx D G a b M) c):=⟨F.get S.gx,F.get S.gd,S.xn,S.xb,S.xm,S.dn,S.db,S.dm,S.nb,S.nm,S.bm⟩
theorem DB.eq'(S:DB T D G)(F:dv (cx D G a b M) c):bH (cx D G a b M) c=cx D (bH (cx D G a b M) c) a b M:=by show _=aE (aE (aE _ _ _) _ _) _ _;rw[qG (F.get S.gn),qG (F.get S.gb),qG (F.get S.gm)]
theorem DZ.up'(S:DZ T D W Z G)(F:dv (cx D G a b M) c):DZ T D W Z (bH (cx D G a b M) c):=⟨S.toDB.up' F,⟨F.get S.ss.x,F.get S.ss.d,F.get S.ss.l,F.get S.ss.p⟩,S.o⟩
theorem DB.frk(S:DB T D G):qM (cx D G i j M) (cx D G b c k):=λa o e=>by
 have f:a≠D.an:=λq=>by rw[q,S.gn] at e;cases e
 have g:a≠D.ab:=λq=>by rw[q,S.gb] at e;cases e
 have h:a≠D.am:=λq=>by rw[q,S.gm] at e;cases e
 rw[S.other f g h] at e⊢;exact e
theorem iU.deep(f:iU A G)(k:qM G i)(m:Bt (A.deeper a) L)(n:i L=ac (.fr o)):iU (A.deeper a) i:=by
 refine au f λl e h=>?_;have j:(A.deeper a).frames=ac (a::l):=by show A.frames.map (a::·)=_;rw[e];rfl
 refine dD (m _ j) λY Y p b c=>?_;cases p;refine⟨_,j,λz d=>?_⟩
 refine aB (bj.mp d) ?_ (λd=>?_);rintro rfl
 ·exact aF b ⟨L,o,c,n⟩
 ·refine aw (h z d) λb g=>cQ g λL o c q=>aF b ⟨L,o,c,k _ _ q⟩
def sG E D W Z:=∀{A:cq}{n:ah}{G:AH}{N:ae Nd}{M:ae (aA×aA)}{r:ah}{Q:V->AH->Prop},cA A (n+8)->iU A (dg D G N M)->DZ W.tops D W Z G->bW W.tops E N->r<N.length->N.length<=90000->
 (∀m,dy N r m->∀v,N[m]?=ac (.leaf v)->eC v\/v=eJ)->(∃m,dy N r m/\N[m]?=ac (.leaf eJ))->(∀a,cZ (dg D G N M) a->Q (.bool ao) a)->fe A (.ref 340) [.ref D.x,.ref Z.x,.int r] (dg D G N M) Q
theorem Zo{K:Sg->AH->Prop}:∀(r:ek)(d:ae (af×af))(f a b:LV),(∀e∈r,e.1<d.length)->d.length<=1000->
 (∀f a b,K [k,l,n,o,p,s,t,u,.o (.list ((r.foldl (λsp e=>sp.set e.1 (e.2.1,e.2.2)) d).map hO)),f,a,b,g,.u,.u] G)->
 dj (ms 9 10 11) (dP.b JG c Q) ((r.map kZ).map V.d) [k,l,n,o,p,s,t,u,.o (.list (d.map hO)),f,a,b,g,.u,.u] G K:=by
 intro r;induction r with
 |nil=>exact λd f a b Y Y q=>q _ _ _
 |cons e r v=>intro d f a b h i q;have j:=v (d.set e.1 (e.2.1,e.2.2)) (.v (.int e.1)) (.v (.int e.2.1)) (.v (.int e.2.2)) (λz w=>by rw[sF];exact h z (ba _ w)) (by rw[sF];exact i) q;rw[BY] at j;exact⟨aS (m:=1000) (by rw[aI];exact i) aa,by rw[aI];exact h e aP,j⟩
theorem Zq{K:Sg->AH->Prop}(X:Gd c (n+1))(S:SS W Z G)(s:W.tops.length<=1000)(v:g.length<=1000)(o:∀w∈g,∀e∈w.1,e.1<W.tops.length)
 (q:∀i j l h b f,K [y,.v (.ref Z.x),A,B,C,.o (.list ((g.map (lc W.tops)).map cz)),i,j,l,h,b,f,p,.u,.u] G):
 ∀(r d:ae (ek×aA))(i j l h b f:LV),g=d++r->dj (cV 6 7) (dP.b JH c Q) ((r.map iH).map V.d) [y,.v (.ref Z.x),A,B,C,.o (.list ((d.map (lc W.tops)).map cz)),i,j,l,h,b,f,p,.u,.u] G K:=by
 intro r;induction r with
 |nil=>intro d i j l h b f e;rw[c8] at e;subst e;exact q _ _ _ _ _ _
 |cons w r D=>
  intro d i j l h b f e;refine pj X S ⟨by rw[aI,aI];exact aj [_] 0x10f08ae6e8e1e010c88ee3e0 aa s,kM (λt=>hO (0,t)) aa (λa Y K k=>k) λx=>?_⟩;rw[(by rw[eI];rfl:[]++W.tops.map (λt=>hO (0,t))=(W.tops.map λt=>((0:af),t)).map hO)];refine Zo (c:=c) (Q:=Q) w.1 (W.tops.map λt=>((0:af),t)) _ _ _ (λz E=>by rw[aI];exact o w (by rw[e];simp) z E) (by rw[aI];exact s) λh b f=>⟨aS (m:=1000) (by rw[aI,aI];have:=bA tI e;rw[b7] at this;exact aj [_,_,_] 0x10f88ee3e115c921010c88ee3e0 aa this v) aa,?_⟩
  have u:=D (d++[w]) (.v (.d (.tuple (w.1.map kZ)))) (.v (.d w.2)) (.v (.d (.list ((xD W.tops w.1).map hO)))) h b f (by rw[e,cs];rfl);rw[ck,ck] at u;exact u
theorem Zr(X:Gd c (n+12))(hE:∀k,(E k).length<=7)(fr:iU c (dg D G N M))(S:DZ W.tops D W Z G)(g:bW W.tops E N)(mm:iB W.tops N M)(x0)(b0:b6 W.tops x0)(x2:∀t∈W.tops,0<=t)(hT:W.tops.length<=3)(C:f<N.length)
 (hv:∀m,dy N f m->ki N m)(I:(b9 N f).length<=14)(hN:N.length<=60000)(hM:M.length<=60000)(e6:sG E D W Z)(q:∀G',qM (dg D G N M) G'->Q (.bool ao) G'):
 fe c (.ref 345) [.ref D.x,.ref Z.x,.int (f:ah),.d (.list ((b9 N f).map iH)),.int k4] (dg D G N M) Q:=Zg X λk5 X=>by
 have x5:∀b∈(b9 N f).map (lc W.tops),mP W.tops E b:=λb H=>by refine au (bV.mp H) ?_;rintro wy e2 rfl;exact Zl g C e2 x2
 refine Zq (n:=n+10) X S.ss (aj [_] 0x10f88ee3e010c380 aa hT) (aj [_] 0x10f88ee3e010ce80 aa I) (λwy hw e he=>eU ((nS g f C wy hw).1 e he).choose_spec.1) (λh6 h7 h8 h9 k6 k7=>?_) (b9 N f) [] _ _ _ _ _ _ aa;refine YG (n:=n+10) X (λb H=>(x5 b H).vd) (by rw[aI];exact aj [_] 0x10f88ee3e010ce80 aa I) λbs s=>?_;have J:=s.length_eq;rw[aI] at J;have e3:=λb H=>x5 b (s.mem_iff.mp H);obtain⟨u,U,rfl⟩:∃b U,bs=b::U:=by
  cases bs with
  |nil=>refine aw (xz g b0 f C) λe4=>au e4 λwy e2 Y=>?_;intro Y;rw[jH] at J;exact(aj [_] 0x16f080811c00815c008 aa (Hy e2) J:aC).elim
  |cons b U=>exact lj b U aa
 have h3:∀x,b6 W.tops x->∀d,gl W.tops.length (u::U) d x=bU N x f:=λx l d=>(by refine aw (xz g l f C) λe4=>au e4 λw hw x3=>λe7=>Zm (λb H hc=>?_) ⟨lc W.tops w,s.mem_iff.mpr (nr hw),(xE g C hw l).mpr x3⟩;refine au (bV.mp (s.mem_iff.mp H)) ?_;rintro w' e8 rfl;exact e7 w' e8 ((xE g C e8 l).mp hc))
 have h4:=Zs.mp ((by
  refine(s.symm.pairwise (R:=λa b=>∀x,b6 W.tops x->eP 0 W.tops.length a x=ao->eP 0 W.tops.length b x=ao->aC) ?_ (λ{a b}h x l h1 h2=>h x l h2 h1))
  rw[XZ];refine(X4 g f C).imp_of_mem λ{a b}a5 H h x l h1 h2=>h x ((xE g C a5 l).mp h1) ((xE g C H l).mp h2)))
 have r:U.length<=13:=by rw[cG] at J;exact aj [_,_] 0x10fd8112c0918110ce80 aa J I
 have x6:gw eJ=ao:=by decide+kernel
 refine iJ (qD g x6) λl1 l2 l3 l4 l5=>⟨aS (m:=14) (by rw[aI];exact aj [_,_] 0x10fe8112c0110ce80 aa J I) aa,(λe=>nomatch e),?_⟩
 rw[c9,Jb (iP _ _),List.tail_cons];refine⟨_,_,qx X S.toDB,qy (n:=n+9) X S.toDB x6 (aj [_] 0x10f08aebebede010c086eaeee0 aa hN) ?_⟩
 generalize(d8 N (.leaf eJ)).1=N4 at l1 l2 l3 l4 l5⊢;generalize(d8 N (.leaf eJ)).2=p4 at l3 l5⊢;have a6:=gE C l2.len;refine xC (n:=n+2) X S.toDB hE x2 hT l1 (mm.pre l2) (λb H=>e3 b (ba _ H)) (aj [_] 4772459749363072 aa r) l3 (aj [_,_,_] 0x10f088e8e3e1e94b6e1210c9180240c6ed8110c086eaeee0 aa l4 r hN) (aj [_,_] 0x10f088e8e3e1e94b6e0110c086eaeee140c6ed80 aa hM r) λN5 M5 r5 o5=>?_;have o1:=o5.nl;refine⟨aS (m:=14) (by rw[cG,aI];exact aj [_] 76535430305074560 aa r) aa,(λe=>nomatch e),?_⟩
 have e1:kF (cz u::U.map cz) ak (ac 1) ak=[u].map cz:=by
  rw[BK (a:=0) (b:=1) (eX _) (by rw[cG];exact aj [_] 4556161048 aa)]
  ·rfl
  ·unfold mh;simp only[Jc,show((1:af)>0) by exact bl _,vG,show¬((1:af)<0) by exact aW aa,pJ];have:((cz u::U.map cz).length:af)>=1:=by rw[cG];exact ay [_] 76439698034180104 aa (bl _)
   rw[show max 0 (lm (1:af) ((cz u::U.map cz).length:af))=1 by rw[mZ this];rfl];rfl
 rw[e1];refine xC (n:=n+2) X S.toDB hE x2 hT o5.good o5.memo (boxes:=[u]) (λb H=>e3 b (by rw[bZ.mp H];exact aP)) (by rw[ea];exact aj [] 4551372312 aa) o5.lt (by rw[ea];exact aj [_,_,_,_] 0x10f088e8e3e1e94b6e18310c94b6e21340c6ed8210c9180110c086eaeee0 aa o1 r l4 hN) (by rw[ea];exact aj [_,_,_] 0x10f088e8e3e1e94b6e18210c94b6e01210c086eaeee140c6ed80 aa o5.ml hM r) λN6 M6 r6 o6=>?_;have o3:=o6.nl;rw[ea] at o3;have h5:=(l2.trans o5.pre).trans o6.pre;have g6:=o6.good;have x1:=gE C h5.len;have x4:=gE o5.lt o6.pre.len;have a7:=g6.canon x0 b0 _ r6 f (cO _) o6.lt x1 λx l=>by rw[o6.val x l,h5.val f x C,<-h3 x l eJ,gl.q2,gl.q1,gl.q2,o5.val x l,g8 l5]
 subst a7;refine oQ aa ?_;have A:∀x,b6 W.tops x->bU N6 x r5=gl W.tops.length U eJ x:=λx l=>by rw[o6.pre.val r5 x o5.lt,o5.val x l,g8 l5]
 have x3:∀x,b6 W.tops x->eP 0 W.tops.length u x=ao->bU N6 x r5=eJ/\eC (bU N6 x r6):=λx l B=>by
  refine aF ?_ ?_
  ·rw[A x l];exact JQ λb H hc=>h4.1 b H x l B hc
  ·rw[h5.val r6 x C];refine au (BW g l r6 C) λm hm hl=>hv m hm _ hl
 have x7:∀x,b6 W.tops x->¬eP 0 W.tops.length u x=ao->bU N6 x r5=bU N6 x r6:=λx l B=>by rw[A x l,(λx l=>by rw[h5.val r6 x C,h3 x l eJ]:∀x,b6 W.tops x->bU N6 x r6=gl W.tops.length (u::U) eJ x) x l];exact(aQ B).symm
 have x8:∀x,b6 W.tops x->eP 0 W.tops.length u x=ao->bU N6 x r5≠bU N6 x r6:=λx l B e=>by refine aw (x3 x l B) λh1 h2=>?_;rw[h1] at e;rw[<-e] at h2;refine aB h2 ?_ ?_<;>intro h2<;>exact bv (Iv h2) (by decide+kernel)
 have T:=e3 u aP;obtain⟨y,e5,hy⟩:∃y,b6 W.tops y/\eP 0 W.tops.length u y=ao:=by
  refine bi (λv=>u.lo v) (λk e9 hk=>?_) (qN.mpr λv Y hv=>?_)
  ·refine lh (T.sp k e9 hk) λa0 a1 a2 Y=>aF a0 (eD a1 a2)
  ·refine lh (T.sp v _ (cr hv)) λa0 a1 a2 Y=>?_;exact aF (fB _) a1
 refine HQ (n:=n+6) X S.toDB hE x2 (aj [_] 0x10f88ee3e010c380 aa hT) x0 b0 g6 x4 x1 (aj [_,_,_,_,_] 0x10f084e2e4efe410c94b6e183410c94b6e02310c9181210c086eaeee140c6ed80 aa o3 o1 l4 hN r) (λe=>bv e (λe=>x8 y e5 hy (by rw[e]):r5≠r6)) λY p po=>?_;have hp:p=u.sp.map (·.1):=(by
  have bp:b6 W.tops (dq p):=λk e9 hk=>by refine cP (po.grid k (by rw[po.len];exact(dF.mp hk).1)) λt e h1 h2 Y=>?_;rw[hk] at e;cases e;exact aF h1 h2
  have x9:=qN.mp (vx λh=>po.unlike (x7 _ bp h):eP 0 W.tops.length u (dq p)=ao);have a8:=λi B=>by
   refine aw (x9 i (eX _) B) λh1 h2=>aB (JR h1) (λh=>?_) (λh=>?_)
   ·exfalso;have ht:=cr B;refine lh (T.sp i _ ht) λa0 a1 a2 Y=>?_;have l:=bp.set ht a0 (ay [_,_,_] 76314975036050448 aa a2 a1);refine x8 _ l (qN.mpr λv a9 k1=>?_) (po.least _ l i (by rw[po.len];exact B) (λj hj=>?_) ?_)
    ·by_cases e:v=i
     ·subst e;simp only[i9,aR];exact aF (ay [_] 69376 aa) (ay [_,_] 72762854416 aa a1)
     ·simp only[i9,aQ e];exact x9 v a9 k1
    ·simp only[i9];rw[aQ (by exact aj [_,_] 0x16f080811c1015c10 aa hj)]
    ·simp only[i9,aR];exact h
   ·exact h.symm
  apply xy;intro i;by_cases B:i<W.tops.length
  ·have:=a8 i B;unfold dq Bx.lo at this;rw[cY,cY] at this;rw[fH];rw[cr (by rw[po.len];exact B:i<p.length),cr (by rw[T.len];exact B:i<u.sp.length)] at this⊢;exact bA _ ‹_›
  ·rw[nV (by rw[po.len];exact aj [_,_] 72747142160 aa B),nV (by rw[aI,T.len];exact aj [_,_] 72747142160 aa B)])
 have a3:u.sp.length<=3:=by rw[T.len];exact hT
 refine⟨by rw[aI,aI];exact aj [_] 0x10f08ae6e8e1e010c380 aa a3,kM (λp:af×af=>cJ p.1) aa (λa Y K k=>k) λx=>?_⟩
 rw[jG,show u.sp.map (λp=>cJ p.1)=p.map .int by rw[hp,eI];rfl];have ft:bE 60 (.tuple (p.map cJ)):=(bE.tup (n:=4) λx hx=>by refine au (bV.mp hx) ?_;rintro z Y rfl;exact bE.int _).le (aX _ _);refine⟨aS (m:=3) (by rw[hp,aI,aI];exact a3) aa,ft,ft,oQ aa λφ L o F tp=>?_⟩
 have kf:qM (dg D G N M) (bH (dg D G N6 M6) ((L,.fr o)::φ)):=λa o e=>F.get (S.toDB.frk a o e);rw[S.toDB.eq' F];rw[S.toDB.eq' F] at kf;refine e6 (n:=n+3) X.R (fr.deep kf tp ((congrFun (S.toDB.eq' F) L).symm.trans (bG ..))) (S.up' F) g6 x4 (aj [_,_,_,_,_] 0x10f089efe5e1e410c94b6e183410c94b6e02310c9181210c086eaeee140c6ed80 aa o3 o1 l4 hN r) (λm hm v hl=>?_) ?_ λG' k2=>⟨λa o e=>k2 a _ trivial e,λG2 k=>q G2 λa o e=>k a o (S.toDB.frk a o e)⟩
 ·refine au (BX g6 b0 r5 x4 m v hm hl) λz bz hz=>?_;rw[A z bz] at hz;by_cases B:eP 0 W.tops.length u z=ao
  ·right;rw[<-hz];exact JQ λb H hc=>h4.1 b H z bz B hc
  ·left;have e1:=x7 z bz B;rw[A z bz,hz,h5.val r6 z C] at e1;refine au (BW g bz r6 C) λm' k3 a4=>?_;rw[<-e1] at a4;exact hv m' k3 _ a4
 ·refine au (BW g6 e5 r5 x4) λm hm hl=>?_;rw[(x3 y e5 hy).1] at hl;exact bi m hm hl
theorem BZ(d:0<=k)(hk:k<2^63)(e:f[k.toNat]?=ac x)(q:Q x G):FS c (.tup f) (.int k) G Q:=λh F a b g=>Xw d hk e (jD F q) λY Y=>g _ _
theorem Zt(X:Gd c (n+1))(h:G x=ac (.inst 117 g))(j:G g=ac (.attrs []))(q:∀D k,D.x=x->DS T D [] [] k->lB [g] G k->Q .none k):fe c (.ref 79) [.ref x,.d (.tuple (T.map .int))] G Q:=WY X λy X=>by
 have i:=fL h j (by simp);refine⟨x,117,g,[],aa,h,j,EW,aX _ _,aa,λm f=>?_⟩
 have p:=oR f;have f:=qw f;have l:=qv f h;rw[jy p.symm];refine⟨x,117,g,_,aa,?_,bG ..,EY,aX _ _,aa,λab d=>?_⟩
 ·rw[aU i,aU l.symm];exact h
 rw[ij] at d⊢;have r:=oR d;have d:=qw d;have z:=oR d;have d:=qw d;have s:=qv d h;rw[jy r.symm];refine⟨x,117,g,_,aa,?_,bG ..,EZ,aX _ _,aa,λt b=>?_⟩
 ·rw[aU i,aU s.symm,aU l.symm];exact h
 rw[ij] at b⊢;have u:=oR b;have b:=qw b;have v:=oR b;have b:=qw b;have A:=oR b;have b:=qw b;have B:=qv b h;rw[jy u.symm];have w:∀{o:Internal.O},(aE (aE (aE (aE G m (.list [])) ab (.tab [])) t (.tab [])) g o) x=ac (.inst 117 g):=λ{_}=>by rw[aU i,aU B.symm,aU s.symm,aU l.symm];exact h
 refine⟨x,117,g,_,aa,w,bG ..,E0,aX _ _,aa,?_⟩
 rw[ij];refine q ⟨x,g,m,ab,t⟩ _ aa ⟨w,bG ..,(aU p).trans ((aU A.symm).trans ((aU z.symm).trans (bG ..))),(aU r).trans ((aU v.symm).trans (bG ..)),(aU u).trans (bG ..),v.symm⟩ λa o C e=>?_;have E:=lJ f e;have H:=lJ d e;have I:=lJ b e;exact(aU (λq=>C (bZ.mpr q):a≠g)).trans ((aU I).trans ((aU H).trans ((aU E).trans e)))
theorem Zu(X:Gd c (n+2))(q:∀D b,DS T D [] [] b->lB [] G b->Q (.ref D.x) b):cF c (.ref 117) [.d (.tuple (T.map .int))] G Q:=by
 refine DR X.B X.R Qd Qi Qj λx k h f i d g=>Zt (c:=h) (n:=n) ⟨X.B,f⟩ (bG ..) ((aU g.symm).trans (bG ..)) λD b j S u=>⟨aa,?_⟩
 rw[<-j];refine q D b S λa o Y e=>u a o (λm=>?_) ?_
 ·rw[bZ.mp m,d] at e;cases e
 ·rw[aU (lJ i e),aU (lJ d e)];exact e
theorem Zv(X:Gd c (n+1))(l:G x=ac (.inst 251 b))(g:G b=ac (.attrs []))(w:G i=ac (.stab W.legal))(m:W.names.Nodup)(E:W.names.length<=1000)(q:∀Z y,Z.x=x->SS W Z y->lB [b] G y->Q .none y):
 fe c (.ref 248) [.ref x,.d (.tuple (W.names.map .str)),.d (.tuple (W.tops.map .int)),.ref i] G Q:=WZ X λz X=>by
 have s:=fL l g (by simp);have t:∀{o:Internal.O},aE G b o x=ac (.inst 251 b):=λ{_}=>(aU s).trans l;refine⟨x,251,b,[],aa,l,g,E1,aX _ _,aa,x,251,b,_,aa,t,bG ..,E2,aX _ _,aa,?_⟩
 rw[ij];refine⟨x,251,b,_,aa,t,bG ..,E3,aX _ _,aa,?_⟩
 rw[ij];intro j d;have v:=oR d;have d:=qw d;have H:=qv d l;have I:=qv d w;rw[jy v.symm];have A:∀{o p:Internal.O},aE (aE G j p) b o x=ac (.inst 251 b):=λ{_ _}=>(aU s).trans ((aU H.symm).trans l);refine⟨x,251,b,_,aa,A,bG ..,zR,aX _ _,aa,?_⟩
 rw[ij];suffices J:∀(r f)(B C)(K),W.names=f++r->(∀L,K L (aE (aE G j (.stab (iD 0 W.names))) b (.attrs (A1 (.ref j) (.ref i) (.d (.tuple (W.tops.map .int))) (.d (.tuple (W.names.map .str)))))))->
  dj (cV 4 5) (dP.b It (c.deeper z) Q) (jW f.length (r.map .str)) [.v (.ref x),.v (.d (.tuple (W.names.map .str))),.v (.d (.tuple (W.tops.map .int))),.v (.ref i),B,C] (aE (aE G j (.stab (iD 0 f))) b (.attrs (A1 (.ref j) (.ref i) (.d (.tuple (W.tops.map .int))) (.d (.tuple (W.names.map .str)))))) K from
  J W.names [] _ _ _ aa λY=>q ⟨x,b,i,j⟩ _ aa ⟨A,bG ..,(aU (fL w g (by simp):i≠b)).trans ((aU I.symm).trans w),(aU v).trans (bG ..)⟩ λa o M e=>by have N:=lJ d e;exact(aU λh=>M (bZ.mpr h)).trans ((aU N).trans e)
 intro r;induction r with
 |nil=>intro f B C K e k;rw[c8] at e;rw[<-e];exact k _
 |cons u r T=>intro f B C K e k;have D:=T (f++[u]) (.v (.int f.length)) (.v (.str u)) K (by rw[e,cs];rfl) k;rw[b7,ea,Xx,dZ] at D;refine nK X.B A (bG ..) (by rfl) tS E4 zR (AU ((aU v).trans (bG ..)) (by rw[WK];exact aj [_,_] 0x10f084e2e4efe110c0110c88ee3e0 aa (by rw[e,b7];exact aj [_,_] 17797376 aa:f.length<=W.names.length) E) ?_);rw[jy v.symm,ij,xl (Xy (λh=>by rw[e] at m;exact(jV.mp m).2.2 u h u aP aa:u∉f))];exact D
theorem B1(X:Gd c (n+2))(f:G p=ac (.stab W.legal))(g:W.names.Nodup)(r:W.names.length<=1000)(q:∀Z d,SS W Z d->lB [] G d->Q (.ref Z.x) d):cF c (.ref 251) [.d (.tuple (W.names.map .str)),.d (.tuple (W.tops.map .int)),.ref p] G Q:=by
 refine DR X.B X.R Qh Qk Ql λx w s h l b i=>?_;have j:=lJ b f;have k:=lJ l f;refine Zv (c:=s) (n:=n) ⟨X.B,h⟩ (bG ..) ((aU i.symm).trans (bG ..)) ((aU k).trans ((aU j).trans f)) g r λZ d t v u=>⟨aa,?_⟩
 rw[<-t];refine q Z d v λa o Y e=>u a o (λm=>?_) ?_
 ·rw[bZ.mp m,b] at e;cases e
 ·rw[aU (lJ l e),aU (lJ b e)];exact e
theorem Zw(X:Gd c (n+3))(q:∀Z h,SS (jd x) Z h->lB [] G h->Q (.ref Z.x) h):fe c (.ref 269) [.int x] G Q:=WX X λw X=>by
 have s:=lQ x (show(0:af)<3 by exact bl _);have y:=kX x (show(0:af)<3 by exact bl _);have f:=xX (k:=3) (P:=λz=>z=0\/z=1\/z=2) s y (by decide+kernel);refine⟨bl _,bl _,aX _ _,λL0 t=>⟨bl _,bl _,aX _ _,λL1 i=>⟨bl _,bl _,aX _ _,λL2 g=>?_⟩⟩⟩
 have j:L0≠L1:=λe=>by rw[<-e,bG] at i;cases i
 have l:L1≠L2:=λe=>by rw[<-e,bG] at g;cases g
 have m:L0≠L2:=λe=>by rw[<-e,aU j,bG] at g;cases g
 rw[aU j.symm] at i;rw[aU l.symm,aU m.symm] at g;have v:∀{a b d:Internal.O},lB [] G (aE (aE (aE G L0 a) L1 b) L2 d):=λ{_ _ _}=>((lB.upd (.inr t)).trans (lB.upd (.inr (by rw[aU j.symm];exact i)))).trans (lB.upd (.inr (by rw[aU l.symm,aU m.symm];exact g)));refine aB f ?_ ?_;rotate_left;intro o;refine aB o (λf=>?_) (λf=>?_)<;>clear o;rotate_right;intro f
 ·have p:jd x=W0:=aR f;rw[p] at q;exact BZ (x:=.tup [.d (.tuple (W0.names.map .str)),.d (.tuple (W0.tops.map .int)),.ref L0]) s (ay [_] 0x11f080e0e0e0e0e0e0e0e0e0e0e0e0e0e8e012c080 aa f) (by rw[f];rfl) (B1 (W:=W0) (n:=n) X ((aU m).trans ((aU j).trans (bG ..))) (by decide+kernel) (aX _ _) λZ h r u=>q Z h r (v.trans u))
 ·have p:jd x=W1:=by unfold jd;rw[aQ (by exact ay [_] 0x16f080815c18012c080 aa f),aR f]
  rw[p] at q;exact BZ (x:=.tup [.d (.tuple (W1.names.map .str)),.d (.tuple (W1.tops.map .int)),.ref L1]) s (ay [_] 0x11f080e0e0e0e0e0e0e0e0e0e0e0e0e0e8e012c180 aa f) (by rw[f];rfl) (B1 (W:=W1) (n:=n) X ((aU l).trans (bG ..)) (by decide+kernel) (aX _ _) λZ h r u=>q Z h r (v.trans u))
 ·have p:jd x=W2:=by unfold jd;rw[aQ (by exact ay [_] 0x16f080815c28012c080 aa f),aQ (by exact ay [_] 0x16f080815c28012c180 aa f)]
  rw[p] at q;exact BZ (x:=.tup [.d (.tuple (W2.names.map .str)),.d (.tuple (W2.tops.map .int)),.ref L2]) s (ay [_] 0x11f080e0e0e0e0e0e0e0e0e0e0e0e0e0e8e012c280 aa f) (by rw[f];rfl) (B1 (W:=W2) (n:=n) X (bG ..) (by decide+kernel) (aX _ _) λZ h r u=>q Z h r (v.trans u))
theorem B2:y∈iF b x↔y∈b\/y=x:=by
 unfold iF;split
 ·rename_i h;constructor
  ·exact .inl
  ·intro a;refine aB a (λc=>?_) ?_<;>clear a;rotate_left;rintro rfl;rotate_right
   ·exact c
   ·exact h
 ·simp
theorem B3(h:d.Nodup):(iF d x).Nodup:=by
 unfold iF;split
 ·exact h
 ·rename_i f;rw[jV];exact ca h (aW aa) λa g b c e=>by simp at c;subst c;subst e;exact f g
theorem Zx:y∈jJ v f g b↔y∈g\/y=b.lo v\/(b.hi v<f/\y=b.hi v+1):=by
 unfold jJ;split
 ·rename_i h;rw[B2,B2];constructor
  ·intro a;refine aB a ?_ (λc=>?_)<;>clear a;intro d;refine aB d (λc=>?_) (λc=>?_)<;>clear d
   ·exact .inl c
   ·exact .inr (.inl c)
   ·exact .inr (.inr ⟨h,c⟩)
  ·intro a;refine aB a (λc=>?_) ?_<;>clear a;rotate_left;intro d;refine aB d (λc=>?_) ?_<;>clear d;rotate_left;intro e;refine aw e λ_ c=>?_;rotate_right;rotate_right
   ·exact .inl (.inl c)
   ·exact .inl (.inr c)
   ·exact .inr c
 ·rename_i h;rw[B2];constructor
  ·intro a;refine aB a (λc=>?_) (λc=>?_)<;>clear a
   ·exact .inl c
   ·exact .inr (.inl c)
  ·intro a;refine aB a (λc=>?_) ?_<;>clear a;rotate_left;intro d;refine aB d (λc=>?_) ?_<;>clear d;rotate_left;intro e;refine aw e λi _=>?_;rotate_right;rotate_right
   ·exact .inl c
   ·exact .inr c
   ·exact bv i h
theorem Zy:∀{c:ae Bx}{f:ae af},y∈c.foldl (jJ v g) f↔y∈f\/∃b∈c,y=b.lo v\/(b.hi v<g/\y=b.hi v+1):=by
 intro k;induction k with
 |nil=>exact@λf=>by simp
 |cons b r i=>
  exact@λf=>by
   rw[jw,i,Zx];constructor
   ·intro d;refine aB d ?_ ?_<;>clear d;rotate_left;intro a;refine au a λj e h=>?_;rotate_right;intro a;refine aB a (λh=>?_) (λh=>?_)<;>clear a
    ·exact .inl h
    ·exact .inr ⟨b,aP,h⟩
    ·exact .inr ⟨j,ba _ e,h⟩
   ·intro d;refine aB d (λh=>?_) ?_<;>clear d;rotate_left;intro a;refine au a λj e h=>?_;rotate_right
    ·exact .inl (.inl h)
    ·refine aB (bj.mp e) ?_ (λe=>?_);rintro rfl
     ·exact .inl (.inr h)
     ·exact .inr ⟨j,e,h⟩
theorem Zz:∀{a:ae Bx}{c:ae af},c.Nodup->(a.foldl (jJ v e) c).Nodup:=by
 intro f;induction f with
 |nil=>exact@λY h=>h
 |cons b r d=>
  exact@λc h=>by
   rw[jw];refine d ?_;unfold jJ;split
   ·exact B3 (B3 h)
   ·exact B3 h
theorem uZ:y∈je boxes v top↔y=0\/∃b∈boxes,y=b.lo v\/(b.hi v<top/\y=b.hi v+1):=by delta je sB;rw[List.mem_mergeSort,Zy];simp
theorem ZA:(je boxes v top).Pairwise (·<·):=by
 have d:(je boxes v top).Nodup:=(YE (sB boxes v top) _).nodup_iff.mpr (Zz (aW aa));have f:(je boxes v top).Pairwise (·<=·):=by exact(YC (le:=λa b=>decide (a<=b)) (by intro a b c;simp;exact λd f=>eD d f) (by intro a b;simp;exact YD a b) (sB boxes v top)).imp (by simp)
 exact(d.and f).imp λ{a b}h=>by have d:=h.1;have:=h.2;exact(Hi d).elim (λe=>ay [_,_] 77057825808 aa e) λe=>ay [_,_] 80784558488886288 aa this e
theorem ZB(z:0<=d)(s:∀b∈c,0<=b.lo v/\b.lo v<=b.hi v/\b.hi v<=d)(A:E v=je c v d):hR E v (je c v d) d:=by
 have t:=ZA (boxes:=c) (v:=v) (top:=d);have u:=λy=>uZ (boxes:=c) (v:=v) (top:=d) (y:=y);have e:∀a∈je c v d,0<=a/\a<=d:=λa f=>by
  refine aB ((u a).mp f) ?_ ?_;rotate_left;intro k;refine au k λb g j=>aB j ?_ ?_<;>clear j;rotate_left;intro l;refine aw l ?_;rintro m rfl;rotate_right;rintro rfl;rotate_right;rintro rfl
  ·exact aF (ay [] 17762312 rfl) z
  ·have:=s b g;exact aF (ay [_] 18623113510920 aa this.1) (ay [_,_,_] 76299581840755728 aa this.2.1 this.2.2)
  ·have:=s b g;exact aF (ay [_,_] 0x10f91810810c1010c008 aa this.2.1 this.1) (ay [_,_] 298075428035600 aa m)
 have w:=(u 0).mpr (.inl aa);generalize je c v d=n at*
 refine⟨?_,λi a b f o=>?_,e,λa f=>A▸f⟩
 ·cases n with
  |nil=>cases w
  |cons x r=>
   refine aB (bj.mp w) (λh=>?_) (λh=>?_)
   ·rw[<-h];rfl
   ·have m:=((Zs.mp t).1) 0 h;exact bv m (hU.2 ((e x aP).1))
 ·have B:=(dF.mp f)
  refine aK B ?_;rintro p rfl;refine aK ((dF.mp o)) ?_;rintro q rfl;exact List.pairwise_iff_getElem.mp t i (i+1) p q (aj [_] 301537280 aa)
theorem JS(u:hR E k e l)(v:e[i]?=ac a)(h:t<(fO e l).getD i 0)(w:z∈e)(n:z<=t):z<=a:=by
 have g:∀(d i:ah)(a b:af),e[i]?=ac a->e[i+d]?=ac b->a<=b:=by
  intro d;induction d with
  |zero=>intro i a b o m;rw[xF,o] at m;cases m;exact fB _
  |succ d x=>
   intro i a b o m
   obtain⟨c,r⟩:∃c,e[i+d]?=ac c:=⟨_,cr (by have:=(dF.mp m).1;exact aj [_,_,_] 0x11f291011c2991810 aa this)⟩
   have:=x i a c o r
   have:=u.up (i+d) c b r m
   (rename_i p;exact ay [_,_,_] 76299581840759824 aa p this)
 refine aK (lb w) λj q=>?_;refine aB (BU i j) (λf=>?_) (λf=>?_)
 ·exfalso;obtain⟨b,s⟩:∃b,e[i+1]?=ac b:=⟨_,cr (by have:=(dF.mp q).1;exact aj [_,_,_] 0x11f1918211c0211c10 aa f this)⟩
  rw[cY,(Jd (top:=l) s)] at h;exact ay [_,_,_] 0x16f080811c2110c0210c10 aa (h:t<b) (g (j-(i+1)) (i+1) b z s (by rw[show i+1+(j-(i+1))=j by exact bQ (aj [_,_,_] 0x10f290918112c2991810 aa (dt (aj [_,_] 298075428035600 aa f:i+1<=j))) (aj [_,_,_] 0x10f909181215c2991810 aa (dt (aj [_,_] 298075428035600 aa f:i+1<=j)))];exact q)) n
 ·exact g (i-j) j z a q (by rw[show j+(i-j)=i by exact bQ (aj [_,_,_] 4770300204689680 aa (dt (aj [_,_] 72762854416 aa f:j<=i))) (aj [_,_,_] 4777382877341968 aa (dt (aj [_,_] 72762854416 aa f:j<=i)))];exact v)
theorem ZC:∀{a}{k}{j}{b},a[j]?=ac b->(gk k a v n).testBit (k+j)=decide (b.lo v<=n/\n<=b.hi v):=by
 intro o;induction o with
 |nil=>exact@λY Y Y h=>by trivial
 |cons b r g=>
  exact@λk j s h=>by
   have d:∀(i)(m),∃z,gk m i v n=2^m*z:=by
    intro i;induction i with
    |nil=>intro m;exact ew 0 (by rfl)
    |cons c t p=>
     intro m;refine aK (p (m+1)) λz f=>?_;rw[gk.q2];rw[f];by_cases q:c.lo v<=n/\n<=c.hi v
     ·exact ew (1+2*z) (by rw[aR q,Jx,ZD,sx,uW])
     ·exact ew (2*z) (by rw[aQ q,dZ,sx,uW])
   refine aK (d r (k+1)) λz f=>?_;cases j with
   |zero=>
    simp only[List.getElem?_cons_zero,uz] at h;subst h;rw[gk.q2];rw[f,show k+0=k from rfl,BC];have l:0<2^k:=sw (by simp);congr 1;rw[eq_iff_iff];by_cases q:b.lo v<=n/\n<=b.hi v
    ·rw[aR q,show 2^k+2^(k+1)*z=2^k*(1+2*z) by rw[Jx,ZD,sx,uW],JT _ l];simp[q]
    ·rw[aQ q,show 0+2^(k+1)*z=2^k*(2*z) by rw[dZ,sx,uW],JT _ l];simp[q]
   |succ j=>
    simp only[List.getElem?_cons_succ] at h;rw[<-(g (k:=k+1) h),show k+(j+1)=k+1+j by exact bQ (aj [_,_] 76439772802390032 aa) (aj [_,_] 76448047324828032 aa)];show((if b.lo v<=n/\n<=b.hi v then 2^k else 0)+gk (k+1) r v n).testBit (k+1+j)=_;by_cases q:b.lo v<=n/\n<=b.hi v
    ·rw[aR q,f,BC,BC];have e:(2^k+2^(k+1)*z)/2^(k+1+j)=(2^(k+1)*z)/2^(k+1+j):=by rw[Nat.pow_add 2 (k+1) j,<-ZE,<-ZE,JT _ (sw (by simp))];congr 1;rw[Nat.add_mul_div_left _ _ (sw (by simp)),Nat.div_eq_of_lt (by rw[sx];have:0<2^k:=sw (by simp);exact aj [_,_] 0x11f1015c2b0111c008 aa (pi (2^k) (2)) this),dZ]
     rw[e]
    ·rw[aQ q,dZ]
theorem ZF(f:b[j]?=ac c)(h:a[i]?=ac n):(kl e v a b)[j*a.length+i]?=ac (c&&&gk 0 e v n):=by
 unfold kl;induction b generalizing j with
 |nil=>trivial
 |cons d l k=>
  have g:=(dF.mp h).1
  rw[Bj]
  cases j with
  |zero=>simp at f;subst f;rw[Jq,dZ,jv (by simpa using g),fH,h];rfl
  |succ j=>rw[oX (by simp;rw[xk];exact aj [_,_,_] 1166395158544 aa),aI,xk,Jr,show j*a.length+a.length+i-a.length=j*a.length+i by exact bQ (aj [_,_,_,_] 0x10f932012c93912910 aa (dt (aj [_,_,_] 4556230672 aa:a.length<=j*a.length+a.length+i))) (aj [_,_,_,_] 0x10f093215c93912910 aa (dt (aj [_,_,_] 4556230672 aa:a.length<=j*a.length+a.length+i)))];exact k (by simpa using f)
theorem ZG(L:b6 T x):∀(h:ae (ae af))(v j:ah)(d:ae ah)(c:ah),d[j]?=ac c->(∀u e,h[u]?=ac e->∃g,T[v+u]?=ac g/\hR E (v+u) e g/\∀b∈f,b.lo (v+u)∈e/\(b.hi (v+u)=g\/b.hi (v+u)+1∈e)/\b.hi (v+u)<=g)->
 ∃s,(iG f v h d)[gA h v j x]?=ac s/\∀k b,f[k]?=ac b->s.testBit k=(c.testBit k&&(cC h.length).all λu=>decide (b.lo (v+u)<=x (v+u))&&decide (x (v+u)<=b.hi (v+u))):=λM=>M.rec
 (λv j d c y Y=>⟨c,y,λk b t=>by simp⟩)
 (λe r z v j d c y D=>by
 refine aL (D 0 e aa) λg i o p=>?_;rw[xF] at i o p;refine aw (L v g i) λN G=>aL (Jl G (row:=e) (λa H=>by rw[o.zero] at H;cases H;exact N) (by rintro rfl;have:=o.zero;trivial:e≠[])) λa A I J=>au (z (v+1) (j*e.length+kn e (x v)) (kl f v e d) _ (ZF y A) (λu q Q=>by rw[show v+1+u=v+(u+1) by exact bQ (aj [_,_] 76448047324828032 aa) (aj [_,_] 76439772802390032 aa)];exact(D (u+1) q (Q)))) λs U W=>bi s U λk b t=>?_;have l:=ZC (v:=v) (n:=a) (k:=0) t;rw[dZ] at l;rw[W k b t,Nat.testBit_and,l,cG,Ad,Sv,List.all_map,Bool.and_assoc,xF];congr 1;refine bu (p b (dw t)) λm1 w m3=>?_;have e1:decide (b.lo v<=a/\a<=b.hi v)=(decide (b.lo v<=x v)&&decide (x v<=b.hi v)):=by
  rw[Bool.eq_iff_iff,BE,fD,BE,BE];constructor
  ·intro m;refine aw m λB C=>?_;refine aF (ay [_,_,_] 76299581840755728 aa B I)<|aB w ?_ ?_<;>intro w
   ·exact ay [_,_,_] 76281989671509008 aa G w
   ·exact hU.mp λh5=>by exact ay [_,_] 0x16f080810c0918110c10 aa (JS o A J w (ay [_,_] 298075428035600 aa h5)) C
  ·intro m;refine aw m λB C=>?_;exact aF (JS o A J m1 B) (ay [_,_,_] 76299581840755728 aa I C)
 rw[e1];congr 1;congr 1;funext u;simp only[xt];rw[show v+1+u=v+(u+1) by exact bQ (aj [_,_] 76448047324828032 aa) (aj [_,_] 76439772802390032 aa)])
theorem ZH(h:∀k b,d[k]?=ac b->c.testBit k=eP 0 n b x):∀{a}{f},a.length=f.length->(∀(i k:ah),a[i]?=ac k->d[k]?=f[i]?)->mO d a g c=gl n f g x
 :=by
  intro a;induction a with
  |nil=>intro f e Y;cases f with
   |nil=>rfl
   |cons _ _=>cases e
  |cons k a j=>intro f e l;cases f with
   |nil=>cases e
   |cons b f=>
    have m:=l 0 k aa;have o:=j (f:=f) (pY e) λi z r=>l (i+1) z r;have p:=h k b m;rw[gl.q2];unfold mO at o⊢;by_cases q:eP 0 n b x=ao
    ·rw[aR q,Zc (by rw[p];exact q),c9,mq,List.headD_cons];unfold kY;rw[m];rfl
    ·rw[aQ q,Zd (by rw[p];exact q)];exact o
theorem ZI(h:d.length=T.length)(m:∀u c,d[u]?=ac c->∃e,T[u]?=ac e/\hR E u c e/\∀b∈a,b.lo u∈c/\(b.hi u=e\/b.hi u+1∈c)/\b.hi u<=e)
 (n:f.length=j.length)(o:∀(i k:ah),f[i]?=ac k->a[k]?=j[i]?)(p:b6 T x):(gS a f g d)[gA d 0 0 x]?=ac (gl T.length j g x):=by refine au (ZG (E:=E) p d 0 0 [2^a.length-1] (2^a.length-1) aa (λu c q=>by rw[dZ];exact m u c q)) λt r s=>?_;unfold gS;rw[fH,r,rt];congr 1;refine ZH (λk b l=>?_) n o;rw[s k b l,Nat.testBit_two_pow_sub_one,hW ((dF.mp l).1),LH,h];unfold eP;congr 1;funext u;simp
def u0(d:ae (ae af)):=
 (∀c∈d,c≠[])/\
 ∀c∈d,∀(i)(a b),c[i]?=ac a->c[i+1]?=ac b->a<b
def u0.ne(a:u0 b):=a.1
def u0.up(a:u0 b):=a.2
theorem B4:∀{d}{i}{a},(∀(i)(a b),d[i]?=ac a->d[i+1]?=ac b->a<b)->d[i]?=ac a->kn d a=i
 :=by
  intro d;induction d with
  |nil=>intro i a _ h;cases h
  |cons x r n=>intro i a f h;cases r with
   |nil=>cases i with
    |zero=>rfl
    |succ i=>cases h
   |cons y r=>
    rw[kn.q3]
    have g:=f 0 x y aa rfl
    cases i with
    |zero=>simp at h;subst h;rw[aR g]
    |succ i=>
     have o:∀(j:ah)(b),(y::r)[j]?=ac b->y<=b:=by
      intro j;induction j with
      |zero=>intro b e;simp at e;exact ay [_,_] 72762862608 aa e
      |succ j k=>
       intro b e
       obtain⟨c,m⟩:∃c,(y::r)[j]?=ac c:=⟨_,cr (by have:=(dF.mp e).1;exact aj [_,_] 315628854546816 aa this)⟩
       have:=k c m
       have:=f (j+1) c b m e
       (rename_i l;exact ay [_,_,_] 76299581840759824 aa l this)
     rw[aQ (by exact ay [_,_] 89926994960 aa (o i a h)),n (λi a b p q=>f (i+1) a b p q) h]
theorem ZJ(b)(x):∀(a:ae (ae af))(v j:ah),gA (a++[b]) v j x=gA a v j x*b.length+kn b (x (v+a.length)):=λd=>d.rec
 (λv j=>by rfl)
 (λr a c v j=>by rw[mq,gA.q2,c (v+1),gA.q2,cG,show v+1+a.length=v+(a.length+1) by exact bQ (aj [_,_] 76448047324828032 aa) (aj [_,_] 76439772802390032 aa)])
theorem ZK:∀(a:ae (ae af))(v j:ah),(∀u,u<a.length->x (v+u)=y (v+u))->gA a v j x=gA a v j y:=λc=>c.rec
 (λY Y Y=>rfl)
 (λr a b v j h=>by rw[gA.q2,gA.q2,show x v=y v from h 0 (aX _ _)];exact b (v+1) _ λu d=>by rw[show v+1+u=v+(u+1) by exact bQ (aj [_,_] 76448047324828032 aa) (aj [_,_] 76439772802390032 aa)];exact(h (u+1) (Uv d)))
theorem ZL:∀{a:ae (ae af)}{v j d:ah},(∀b∈a,b≠[])->j<d->gA a v j x<gA a v d y:=by
 intro g;induction g with
 |nil=>exact@λY Y Y Y h=>h
 |cons r a e=>exact@λv j d c h=>by rw[gA.q2,gA.q2];refine e (λb i=>c b (ba _ i)) ?_;have f:(j+1)*r.length<=d*r.length:=kQ _ h;rw[xk,Jr] at f;exact aj [_,_,_,_,_] 0x11f94390210c391211c10 aa f (Yq (c r aP) (x v))
theorem ZM:∀{b:ae (ae af)}{v j d:ah},(∀a∈b,a≠[])->d<b.length->(∀u,u<d->x (v+u)=y (v+u))->(∀a,b[d]?=ac a->kn a (x (v+d))<kn a (y (v+d)))->gA b v j x<gA b v j y
 :=by
  intro b;induction b with
  |nil=>exact λY h=>bv h (Ba _)
  |cons r b g=>intro v j d c i f h;cases d with
   |zero=>rw[gA.q2,gA.q2];have:=h r aa;rw[xF] at this;exact ZL (λa e=>c a (ba _ e)) (aj [_,_,_] 5058932726897680 aa this)
   |succ d=>
    rw[gA.q2,gA.q2,show x v=y v from f 0 (aj [_] 4824596488 aa)];refine g (d:=d) (λa e=>c a (ba _ e)) (Nat.lt_of_succ_lt_succ i) (λu k=>?_) λa e=>?_
    ·have:=f (u+1) (aj [_,_] 0x11f9181918011c10 aa k);rw[show v+1+u=v+(u+1) by exact bQ (aj [_,_] 76448047324828032 aa) (aj [_,_] 76439772802390032 aa)];exact this
    ·have:=h a (e);rw[show v+1+d=v+(d+1) by exact bQ (aj [_,_] 76448047324828032 aa) (aj [_,_] 76439772802390032 aa)];exact this
theorem ZN:∀(c:ae (ae af))(i:ah)(a:ae af),sC c i a=sC c i []++a:=λd=>d.rec
 (λY a=>rfl)
 (λe r b i a=>by rw[sC.q2,sC.q2,b _ (_::a),b _ [_],cs];rfl)
theorem ZO(b)(a)(i):gz (b++[a]) i=gz b (i/a.length)++[a.getD (i%a.length) 0]:=by unfold gz;rw[HV,qX,List.reverse_nil,jG,mq,jG,sC.q2,ZN]
theorem ZP{P:ae d->Prop}(h0:P [])(hs:∀l a,P l->P (l++[a])):∀l,P l:=λl=>by
 have:∀n(l:ae d),l.length=n->P l:=by
  intro n;induction n with
  |zero=>intro l b;rw[rv.mp b];exact h0
  |succ n e=>
   intro l b;refine aB (A4 l) ?_ ?_;rotate_left;intro c;refine fz c ?_;rintro r a rfl;rotate_right;rintro rfl
   ·exact h0
   ·rw[w4] at b⊢;exact hs r a (e r (by simp at b;exact bQ (aj [_,_] 72762862608 aa b) (aj [_,_] 72747146256 aa b)))
 exact this _ l aa
theorem JU:∀(b:ae (ae af)),u0 b->∀i,i<iI b->(gz b i).length=b.length/\(∀(v)(a),b[v]?=ac a->dq (gz b i) v∈a)/\gA b 0 0 (dq (gz b i))=i:=by
 intro b;induction b using ZP with
 |h0=>intro Y i k;simp[iI.q1] at k;subst k;exact ca aa (λv a h=>by trivial) aa
 |hs b a q=>
  intro n i k;rw[Jo] at k;have l:a∈b++[a]:=by simp
  refine bu (q ⟨λr c=>n.ne r (gg _ c),λr c=>n.up r (gg _ c)⟩ _ (Nat.div_lt_of_lt_mul (by rw[pi];exact k):i/a.length<iI b)) λo s t=>?_;have p:=YO i (kO.mpr (n.ne a l));have d:a[i%a.length]?=ac (a.getD (i%a.length) 0):=by rw[cY,cr p];rfl
  rw[ZO];have f:dq (gz b (i/a.length)++[a.getD (i%a.length) 0]) b.length=a.getD (i%a.length) 0:=by rw[<-o];exact xe
  have g:∀v,v<b.length->dq (gz b (i/a.length)++[a.getD (i%a.length) 0]) v=dq (gz b (i/a.length)) v:=λv j=>sm (by rw[o];exact j);refine ca (by simp[o]) (λv r c=>?_) ?_
  ·refine aB (BU v b.length) (λj=>?_) (λj=>?_)
   ·rw[jv j] at c;rw[g v j];exact s v r c
   ·have m:=(dF.mp c).1;simp at m;have e:v=b.length:=bQ (aj [_,_] 298036668995600 aa m) (aj [_,_] 72762854416 aa j);subst e;rw[oX (cO _)] at c;simp at c;subst c;rw[f];exact dw d
  ·rw[ZJ,dZ,f,B4 (n.up a l) d,ZK (y:=dq (gz b (i/a.length))) b 0 0 λu w=>by rw[dZ];exact g u w,t];rw[pi];exact(Nat.div_add_mod i a.length)
theorem B5:(gS c e d b).length=iI b:=by
 have:∀(b:ae (ae af))(v:ah)(a:ae ah),(iG c v b a).length=a.length*iI b:=by
  intro b;induction b with
  |nil=>intro v a;simp[iG.q1,iI.q1]
  |cons r f g=>intro v a;rw[iG.q2,g,I3,iI.q2,uW]
 unfold gS;rw[aI,this];simp
theorem ZQ(U:u0 g)(m:g.length=T.length)(D:∀(v)(f),g[v]?=ac f->f=E v/\(0:af)∈f/\∃o,T[v]?=ac o/\∀a∈f,0<=a/\a<=o){M W:ae aA}(r:∀x,b6 T x->M[gA g 0 0 x]?=ac (bU N x a))(n:∀x,b6 T x->W[gA g 0 0 x]?=ac (bU N x b))(Y:M.length=iI g)(q:pd T E N a b p)(Q:M[i]?=ac u)(hv:W[i]?=ac v)(h3:u≠v)(y:∀j,j<i->M[j]?=W[j]?):gz g i=p:=by
 refine bu (JU g U i (by rw[<-Y];exact(dF.mp Q).1)) λd1 d2 d3=>?_;have bq:b6 T (dq (gz g i)):=λk o hk=>by
  obtain⟨f,z⟩:∃f,g[k]?=ac f:=⟨_,cr (by rw[m];exact(dF.mp hk).1)⟩
  refine bu (D k f z) λ_ _ l=>au l λx2 G hb=>?_;rw[hk] at G;cases G;exact hb _ (d2 k f z)
 have bp:b6 T (dq p):=λk o hk=>by refine cP (q.grid k (by rw[q.len];exact(dF.mp hk).1)) λt e r n _=>?_;rw[hk] at e;cases e;exact aF r n
 have hq:bU N (dq (gz g i)) a≠bU N (dq (gz g i)) b:=by have e1:=r _ bq;have e2:=n _ bq;rw[d3] at e1 e2;rw[Q] at e1;rw[hv] at e2;intro e;exact h3 (by rw[jP e1,jP e2,e])
 have h4:=NF.mp λA=>by have e:=y _ A;rw[r _ bp,n _ bp] at e;exact q.unlike (jP e)
 have h5:∀d,d<=T.length->∀j,j<d->dq (gz g i) j=dq p j:=by
  intro d;induction d with
  |zero=>intro _ j hj;exact(aj [_] 403555262513280 aa hj:aC).elim
  |succ d B=>
   intro H j hj;have B:=B (aj [_,_] 298036651725184 aa H);refine aB (BU j d) (λh=>?_) (λh=>?_)
   ·exact B j h
   ·have e:j=d:=bQ (aj [_,_] 298036668995600 aa hj) (aj [_,_] 72762854416 aa h);subst e;refine aB (VK (dq (gz g i) j) (dq p j)) (λA=>?_) ?_;rotate_left;intro l;refine aB l (λheq=>?_) (λh6=>?_)<;>clear l;rotate_right
    ·exact bv (q.least _ bq j (by rw[q.len];exact aj [_,_] 315628837769600 aa H) B A) hq
    ·exact heq
    ·exfalso;obtain⟨f,z⟩:∃f,g[j]?=ac f:=⟨_,cr (aj [_,_,_] 0x11f0210c1918215c10 rfl H m)⟩
     refine bu (D j f z) λh7 hz _=>?_;have h8:dq p j∈f:=by
      refine cP (q.grid j (by rw[q.len];exact aj [_,_] 315628837769600 aa H)) λ_ _ _ _ l=>aB l (λh=>?_) (λh=>?_)<;>clear l
      ·rw[h];exact hz
      ·rw[h7];exact h
     refine aK (lb h8) λs hs=>?_;refine aK (lb (d2 j f z)) λt G=>?_;have C:=U.up f (dw z);have h9:=Ed.mp λI=>by
      have J:∀(d i:ah)(a b),f[i]?=ac a->f[i+d]?=ac b->a<=b:=by
       intro d;induction d with
       |zero=>intro i a b r n;rw[xF,r] at n;cases n;exact fB _
       |succ d B=>
        intro i a b r n
        obtain⟨c,hc⟩:∃c,f[i+d]?=ac c:=⟨_,cr (by have:=(dF.mp n).1;exact aj [_,_,_] 0x11f291011c2991810 aa this)⟩
        have:=B i a c r hc
        have:=C (i+d) c b hc n
        (rename_i x1;exact ay [_,_,_] 76299581840759824 aa x1 this)
      exact ay [_,_] 0x16f080811c0110c10 aa h6 (J (s-t) t _ _ G (by rw[show t+(s-t)=s by exact bQ (aj [_,_,_] 4770300204689680 aa (dt (aj [_,_] 72762854416 aa I:t<=s))) (aj [_,_,_] 4777382877341968 aa (dt (aj [_,_] 72762854416 aa I:t<=s)))];exact hs))
     have w:gA g 0 0 (dq p)<gA g 0 0 (dq (gz g i)):=ZM (d:=j) U.ne (aj [_,_,_] 0x11f0210c1918215c10 aa H m) (λu Q=>by rw[dZ];exact(B u Q).symm) λx3 L=>by rw[z] at L;cases L;rw[dZ,B4 C hs,B4 C G];exact h9
     rw[d3] at w;exact aj [_,_] 0x16f080811c0110c10 aa w h4
 apply xy;intro k;by_cases hk:k<T.length
 ·have:=(h5 T.length (cO _)) k hk;unfold dq at this;rw[cY,cY] at this;rw[cr (by exact aj [_,_,_,_] 0x11f0311c2315c2115c10 aa hk m d1:k<(gz g i).length),cr (by rw[q.len];exact hk:k<p.length)] at this⊢;exact bA _ ‹_›
 ·rw[nV (by exact aj [_,_,_,_] 0x10f0312c2312c1214c10 aa d1 m hk),nV (by rw[q.len];exact aj [_,_] 72747142160 aa hk)]
theorem ZR(x):fj (jd x)/\hF (jd x)/\(∀t∈(jd x).tops,0<=t/\(t<16\/22<=t))/\(jd x).tops.length<=3/\∀d∈(jd x).names,gT d=ao:=by
 have b:sy W0:=by
  intro k d e a i;match k with
  |0=>cases a;exact .inl (by decide+kernel)
  |1=>cases a;cases i;exact .inr ⟨[.int 1,.int 2,.int 4,.int 8,.int 64],by rfl,by rfl,aX _ _⟩
  |2=>cases a;exact .inl (by decide+kernel)
  |k+3=>trivial
 have c:sy W2:=by
  intro k d e a i;match k with
  |0=>cases a;cases i;exact .inr ⟨[.int 2,.int 10],by rfl,by rfl,aX _ _⟩
  |1=>cases a;exact .inl (by decide+kernel)
  |2=>cases a;exact .inl (by decide+kernel)
  |k+3=>trivial
 have f:∀(W)(j)(g),W.legal=[(g,.tuple j)]->(∀y∈j,bE 50 y)->hF W:=by
  intro W j g l m d n h x o;rw[l,ez] at h;split at h
  ·cases h;exact m x o
  ·cases h
 unfold jd;split
 ·refine li ⟨WH,b,aa,aX _ _⟩ (f W0 _ _ aa ?_) ?_ (cO _) ?_
  ·exact cp (bE.int _) (cp (bE.int _) (cp (bE.int _) (cp (bE.int _) (cp (bE.int _) iz))))
  ·exact cp (aW aa) (cp (aW aa) (cp (aW aa) iz))
  ·exact cp (by decide+kernel) (cp (by decide+kernel) (cp (by decide+kernel) iz))
 ·split
  ·refine li ⟨WI,(by intro k d e a i;exact .inl aa:sy W1),aa,aX _ _⟩ ?_ ?_ (aX _ _) ?_
   ·intro d n h;cases h
   ·exact cp (aW aa) (cp (aW aa) iz)
   ·exact cp (by decide+kernel) (cp (by decide+kernel) iz)
  ·refine li ⟨WJ,c,aa,aX _ _⟩ (f W2 _ _ aa ?_) ?_ (cO _) ?_
   ·exact cp (bE.int _) (cp (bE.int _) iz)
   ·exact cp (aW aa) (cp (aW aa) (cp (aW aa) iz))
   ·exact cp (by decide+kernel) (cp (by decide+kernel) (cp (by decide+kernel) iz))
noncomputable def qQ(t:af):aA:=if t.fmod 2=0 then .str (aD "accept") else .str (aD "drop")
theorem JV(t):eC (qQ t):=by unfold qQ;split<;>first|exact .inl aa|exact .inr aa
theorem eC.leaf(h:eC v):gw v=ao:=by refine aB h ?_ ?_<;>clear h<;>rintro rfl<;>decide+kernel
theorem JW(t):[pk (aD "accept"),pk (aD "drop")][(t.fmod 2).toNat]?=ac (qQ t):=by have a:=lQ t (show(0:af)<2 by exact bl _);have b:=kX t (show(0:af)<2 by exact bl _);unfold qQ;have:=xX (k:=2) (P:=λz=>z=0\/z=1) a b (by decide+kernel);refine aB this (λh=>?_) (λh=>?_)<;>rw[h]<;>rfl
def pt(a:ae af)(T:ae af)(i:ah):Bx:=⟨qQ (a.getD (5+4*i) 0),(cC T.length).map λv=>kj (a.getD (5+4*i+1+v) 0) (T.getD v 0)⟩
def va a T m:=(cC m).map (pt a T)
def gJ(T:ae af)a v:=je a v (T.getD v 0)
def eK T a:=(cC T.length).map (gJ T a)
theorem B6(h:(eK T d)[v]?=ac a):∃b,T[v]?=ac b/\a=je d v b/\a=gJ T d v:=by have c:=(dF.mp h).1;unfold eK at h c;simp at c;rw[fH,uV c] at h;cases h;refine cf _ (cr c) ?_ aa;unfold gJ;rw[cY,cr c];rfl
def lg(T:ae af)(c:ae Bx):=
 c.length<=3/\
 (∀b∈c,b.sp.length=T.length/\eC b.vd/\∀(v)(a),T[v]?=ac a->0<=b.lo v/\b.lo v<=b.hi v/\b.hi v<=a)/\
 ∀t∈T,0<=t
def lg.len(a:lg T b):=a.1
def lg.box(a:lg T b):=a.2.1
def lg.top(a:lg T b):=a.2.2
theorem ZS(f:m<=3)(e:∀t∈T,0<=t/\(t<16\/22<=t)):lg T (va c T m):=by
 refine⟨by simp[va];exact f,λb g=>?_,λt d=>(e t d).1⟩
 refine au (bV.mp g) ?_;rintro i Y rfl;refine ca (by simp[pt]) (JV _) λv a h=>aw ((by
  have d:T.getD v 0=a:=by rw[cY,h];rfl
  delta Bx.lo Bx.hi pt;simp only[cY,fH,uV ((dF.mp h).1),rt,I4];rw[cY] at d;rw[d];exact aF aa rfl:(pt c T i).lo v=(kj (c.getD (5+4*i+1+v) 0) a).1/\(pt c T i).hi v=(kj (c.getD (5+4*i+1+v) 0) a).2)) λj k=>?_
 rw[j,k];refine aw (e a (dw h)) λl n=>XB _ _ l n
theorem xG(b:lg T a)(k):(gJ T a k).length<=7:=by unfold gJ;exact aj [_,_] 0x10f78110c92b018120c380 aa ((by delta je sB;rw[List.length_mergeSort];exact I2 k (T.getD k 0) a [0])) b.len
theorem n0(d:lg T g)(h:(eK T g)[v]?=ac c):∃a,T[v]?=ac a/\hR (gJ T g) v c a/\c.length<=7:=by refine aL (B6 h) λa f e i=>cf a f ?_ (by rw[i];exact xG d v);rw[e];exact ZB (d.top a (dw f)) (λb j=>(d.box b j).2.2 v a f) (by rw[<-e,i])
theorem JX(i:lg T c)(d:b∈c):mP T (gJ T c) b:=by
 refine bu (i.box b d) λj k l=>⟨j,k.leaf,λv a f=>?_⟩
 refine bu (l v a f) λm n g=>?_;have e:gJ T c v=je c v a:=by unfold gJ;rw[cY,f];rfl
 refine li m n g (.inr ?_) ?_
 ·rw[e];exact uZ.mpr (.inr ⟨b,d,.inl aa⟩)
 ·refine aB (JR g) (λh=>?_) (λh=>?_)
  ·right;rw[e];exact uZ.mpr (.inr ⟨b,d,.inr ⟨h,aa⟩⟩)
  ·exact .inl h
theorem vb:(eK T bs).length=T.length:=by simp[eK]
theorem JY(g:lg T d)(i:T.length<=3):iI (eK T d)<=343:=by
 have:∀(a:ae (ae af)),(∀b∈a,b.length<=7)->iI a<=7^a.length:=by
  intro a;induction a with
  |nil=>intro Y;exact cO _
  |cons r f j=>intro h;rw[iI.q2,cG,sx,pi];exact zu (j λb c=>h b (ba _ c)) (h r aP)
 have e:=this (eK T d) λb c=>by refine aK (lb c) λv k=>?_;refine aL (n0 g k) λY Y Y h=>h
 rw[vb] at e;exact aj [_,_] 0x10f785e1e110c0110c785e1e0 aa e (tN (aX _ _) i:7^T.length<=7^3)
theorem JZ(g:∀b∈f,eC b.vd)(i:eC a):eC (gl n f a x):=by
 refine aB (Zn (n:=n) (d:=a) (x:=x) (bs:=f)) (λh=>?_) ?_;rotate_left;intro c;refine au c λb e h=>?_;rotate_right
 ·rw[h];exact i
 ·rw[h];exact g b e
theorem B7(g:∀b∈a,eC b.vd)(i:eC e)(j:∀k∈d,k<a.length):∀v∈gS a d e few,eC v:=λv l=>by
 refine au (bV.mp l) ?_;rintro c Y rfl;unfold mO;cases h:(d.filter λk=>c.testBit k).map (kY a) with
 |nil=>exact i
 |cons y r=>refine au (bV.mp (by rw[h];exact aP:y∈(d.filter λk=>c.testBit k).map (kY a))) ?_;rintro k hk rfl;have f:=j k (List.mem_filter.mp hk).1;unfold kY;rw[cr f];exact g _ (Xf f)
theorem J1(m:ah)(h:m<=2):kC 5 (4*(m:af)+9) 4=ao/\ie 5 (4*(m:af)+9) 4=((m+1:ah):af):=by have:=(by decide+kernel:∀m,m<3->m=0\/m=1\/m=2) m (KQ h);(refine aB this ?_ ?_;rotate_left;intro a;refine aB a ?_ ?_<;>clear a<;>rintro rfl;rotate_right;rintro rfl)<;>exact aF (by rfl) (by rfl)
theorem B8(T:ae af):fI b (T.map .int):=fI.of λy a=>by refine au (bV.mp a) ?_;rintro i Y rfl;rw[EC];trivial
theorem ZT(h:qu d=ao):fu f (d0 d):=by
 cases d with
 |leaf v=>
  unfold d0 fu;refine fI.of λy a=>?_;simp only[bj,iV,mK] at a;refine aB a ?_ (λc=>?_);rintro rfl
  ·unfold fu;trivial
  ·rw[c];cases v<;>simp[qu,gw] at h<;>(unfold fu;trivial)
 |br k g=>
  unfold d0 fu;refine fI.of λy a=>?_;simp only[bj,iV,mK] at a;refine aB a ?_ ?_<;>rintro rfl
  ·unfold fu;trivial
  ·unfold fu;refine fI.of λz e=>au (bV.mp e) ?_;rintro p Y rfl;unfold dp fu;refine fI.of λu b=>?_;simp only[bj,iV,mK] at b;refine aB b ?_ ?_<;>rintro rfl<;>(unfold fu;trivial)
theorem ZU:∀(i)(N),∀p∈gF i N,∃j,p.2=.int j:=by
 intro a c;induction c generalizing a with
 |nil=>revert a;exact@λY p h=>by simp[gF.q1] at h
 |cons d r b=>
  revert a;exact@λi p h=>by
   rw[gF.q2] at h;refine aB (bj.mp h) ?_ (λh=>?_);rintro rfl
   ·exact ew _ rfl
   ·exact b (i+1) p h
theorem ZV:bW T E []:=⟨λ{i j d}h=>by trivial,λd h=>by simp at h,λ{i k a}h=>by trivial⟩
theorem ZW:iB T [] []:=⟨λc y n v h=>(by cases h),λp h=>(by simp at h)⟩
theorem ZX:∀{C},m∈C->(cK W N C).lookup (ff m)=ac (.list [kT W N m])
 :=by
  intro C;induction C with
  |nil=>intro h;cases h
  |cons x r a=>
   intro h;unfold cK;rw[c9,ez];by_cases e:m=x
   ·subst e;rw[vI]
   ·rw[pQ.mpr λh=>e (zG h)];refine aB (bj.mp h) (λh=>?_) (λh=>?_)
    ·exact bv h e
    ·exact a h
theorem J2:∀{C},(cK W N C).lookup (aD "tree")=ak:=by
 intro b;induction b with
 |nil=>exact rfl
 |cons x r a=>exact by unfold cK;rw[c9,ez,pQ.mpr λh=>zH x h.symm];exact a
theorem mR(c:bE n a)(d:bE n b):bE (n+1) (.tuple [a,b]):=bE.tup (cp c (cp d iz))
theorem J3(d:bE n a)(e:bE n b)(f:bE n c):bE (n+1) (.tuple [a,b,c]):=bE.tup (cp d (cp e (cp f iz)))
theorem J5(e:bE n a)(f:bE n b)(g:bE n c)(h:bE n d):bE (n+1) (.tuple [a,b,c,d]):=bE.tup (cp e (cp f (cp g (cp h iz))))
theorem J6(h:eC v):bE (n+1) (uN v):=mR (xB h.leaf) (bE.str (by decide+kernel))
theorem J7(h:ki N i):bE (n+1) (cU N i):=by
 unfold cU;split
 ·rename_i v e;exact J6 (h v e)
 ·exact mR (bE.str (by decide+kernel)) (bE.str (OI i))
theorem ZY(b:hF W){lo c:af}:∀s∈iE W d lo c,bE 51 s:=λs a=>by
 unfold iE at a;split at a
 ·rename_i f e;refine au (bV.mp a) ?_;rintro x g rfl;have:=b d f e x (JA (Y3 g));exact mR this this
 ·rw[bZ.mp a];exact mR (bE.int _) (bE.int _)
theorem ZZ(f:hF W):∀(c:ae (af×ah))(a:af),(∀p∈c,bE 52 (g p.2))->∀e∈fx W m g a c,bE 53 e:=λi=>i.rec
 (λY Y e h=>by simp[fx.q1] at h)
 (λp r b a d e h=>by
 rw[fx.q2] at h;refine aB (ed.mp h) (λh=>?_) (λh=>?_)
 ·refine au (bV.mp h) ?_;rintro s j rfl;exact J5 (bE.tup λx k=>by rw[bZ.mp k];exact ZY f s j) (d p aP) (bE.int _) (bE.str (by decide+kernel))
 ·exact b _ (λq l=>d q (ba _ l)) e h)
theorem Z0(b:gT c=ao)(h:∀e∈a,bE 53 e):bE 57 (qL c a):=bE.tup λx d=>by
 rw[bZ.mp d];refine J3 (bE.str (by decide+kernel)) ?_ ?_
 ·exact(mR (n:=2) (bE.str (by decide+kernel)) (bE.str b)).le (aX _ _)
 ·exact mR (bE.str (by decide+kernel)) (bE.tup h)
theorem Z7(c:hF W)(d:∀b∈W.names,gT b=ao)(h:∀k a,N[m]?=ac (.br k a)->∀p∈a,ki N p.2):bE 58 (.list [kT W N m]):=by
 refine bE.lst λx f=>?_;rw[bZ.mp f];unfold kT;split
 ·rename_i k a e;refine Z0 ?_ (ZZ c a 0 λp g=>J7 (h k a e p g));rw[cY];cases i:W.names[k]? with
  |none=>decide+kernel
  |some b=>exact d b (dw i)
 ·exact bE.none
noncomputable def vc n a:=((cC n).set a (a+1)).set (a+1) a
theorem Z8(n a):(vc n a).length=n:=by simp[vc]
theorem Z9(d:pK Bh L e){k:ah}(f:e[k]?=ac x)(hk:k<=1000000)(q:Q (.int x) G):FS c (.ref L) (.int k) G Q:=λh F a b g=>PJ d (bl k) (rP (bD.2 hk) (bl _)) (by rw[lA];exact f) (jD F q) λY Y=>g _ _
theorem B9{G:AH}(b:G a=ac (.list d))(e:d.length<=1000000)(hk:k<d.length)(q:P (aE G a (.list (d.set k x)))):rL c (.ref a) (.int k) (.d x) G P:=λf F=>yW (F.get b) e (bl k) (by rw[lA];exact hk) ⟨_,(kH F (F.off b) _).2.symm,(kH F (F.off b) _).1,q⟩
theorem J8(X:Gd c n)(f:G a=ac (.stab d))(g:G b=ac (.stab e))(h:d.length=e.length)(i:∀p∈d,e.lookup p.1=ac p.2)(j:∀p∈d,bE 60 p.2)(q:Q ax G):rM c .NotEq (.ref a) (.ref b) G Q:=λk F=>NJ X.R (F.get f) (F.get g) h i j (jD F ⟨_,aa,q⟩)
def n4(D:DA)(Z:nQ)L:=
 (L≠D.an/\L≠D.ab/\L≠D.am)/\
 L∉[D.x,D.dx,Z.x,Z.dx,Z.al,Z.ap]
def n4.o(a:n4 D Z L):=a.1
def n4.z(a:n4 D Z L):=a.2
theorem DZ.fresh(S:DZ T D W Z G)(h:cx D G f g M L=ak):n4 D Z L:=by
 refine⟨⟨λe=>?_,λe=>?_,λe=>?_⟩,λm=>?_⟩
 ·rw[e,S.toDB.gn] at h;cases h
 ·rw[e,S.toDB.gb] at h;cases h
 ·rw[e,S.toDB.gm] at h;cases h
 ·simp only[bj,iV,mK] at m;have z:=S.ss (ns:=f) (bk:=g) (M:=M);refine aB m (λe=>?_) ?_;rotate_left;intro a;refine aB a (λe=>?_) ?_<;>clear a;rotate_left;intro b;refine aB b (λe=>?_) ?_<;>clear b;rotate_left;intro c;refine aB c (λe=>?_) ?_<;>clear c;rotate_left;intro d;refine aB d (λe=>?_) (λe=>?_)<;>clear d;rotate_right;rotate_right;rotate_right;rotate_right
  ·rw[e,S.toDB.gx] at h;cases h
  ·rw[e,S.toDB.gd] at h;cases h
  ·rw[e,z.x] at h;cases h
  ·rw[e,z.d] at h;cases h
  ·rw[e,z.l] at h;cases h
  ·rw[e,z.p] at h;cases h
theorem n4.at(h:n4 D Z L):cx D G a b M L=G L:=by unfold cx;rw[aU h.o.2.2,aU h.o.2.1,aU h.o.1]
theorem n4.upd(h:n4 D Z L){o:O}:aE (cx D G a b M) L o=cx D (aE G L o) a b M:=Jz h.o
theorem n4.del(h:n4 D Z L):cL (cx D G a b M) L=cx D (cL G L) a b M:=by unfold cx;rw[tU h.o.2.2,tU h.o.2.1,tU h.o.1]
theorem DZ.delL(S:DZ T D W Z G)(h:n4 D Z L):DZ T D W Z (cL G L):=by have k:∀a∈[D.x,D.dx,Z.x,Z.dx,Z.al,Z.ap],cL G L a=G a:=λa m=>ku λe=>h.z (e▸m);exact⟨⟨(k _ (aP)).trans S.toDB.x,(k _ (.tail _ (.head _))).trans S.toDB.d,S.toDB.xn,S.toDB.xb,S.toDB.xm,S.toDB.dn,S.toDB.db,S.toDB.dm,S.toDB.nb,S.toDB.nm,S.toDB.bm⟩,⟨(k _ (.tail _ (.tail _ (.head _)))).trans S.s.x,(k _ (.tail _ (.tail _ (.tail _ (.head _))))).trans S.s.d,(k _ (.tail _ (.tail _ (.tail _ (.tail _ (.head _)))))).trans S.s.l,(k _ (.tail _ (.tail _ (.tail _ (.tail _ (.tail _ (.head _))))))).trans S.s.p⟩,S.o⟩
theorem iU.top(a:A.frames=ac [b])(c:Bt A L)(d:e L=ac (.fr o)):iU A e:=by refine dD (c _ a) λY Y f g h=>?_;cases f;exact⟨_,a,λz i=>by rw[bZ.mp i];exact aF g ⟨L,o,h,d⟩⟩
theorem aaa{d:ae af}(X:Gd c (n+12))(l:c.frames=ac [p])(s:∀k,(E k).length<=7)(S:DZ W.tops D W Z G)(g:bW W.tops E N)(u:iB W.tops N M)(j)(w:b6 W.tops j)(e:∀t∈W.tops,0<=t)(x:W.tops.length<=3)(y:r<N.length)
 (A:∀m,dy N r m->ki N m)(B:N.length<=60000)(C:M.length<=60000)(a:sG E D W Z)(f:d.length=17)(H:(b9 N r).length<=512)(q:∀b,Q (.bool ao) b):
 JL c [a0,.v (.d (.list (d.map .int))),a2,.v (.ref Z.x),a4,a5,a6,a7,.v (.ref D.x),.v (.int r),a10,a11,a12,.v (.d (.list ((b9 N r).map iH))),a14,a15,.v (.d (.list ((b9 N r).map (kW W)))),a17,a18,a19,a20,a21,a22] (dg D G N M) Nn Cc Q:=by
 refine⟨aS (m:=512) (by rw[aI];exact H) aa,?_⟩
 rw[aI];refine vB.d (λY=>q _) λh=>aK (dc (xs:=d) (i:=4) (aj [_] 5049266997395936 aa f)) λt I=>oP (z:=.int t) (by rw[fH,I];rfl) λJ L o F T=>?_;rw[S.toDB.eq' F];exact Bw (Q:=λv b=>v=.bool ao/\qM (dg D (bH (cx D G (N.map d0) (gF 0 N) M) ((L,.fr o)::J)) N M) b) (Zr (n:=n) X s (iU.top l T ((congrFun (S.toDB.eq' F) L).symm.trans (bG ..))) (S.up' F) g u j w e x y A (bD.1 (ay [_] 18685256581352 aa h)) B C a λb k=>⟨aa,k⟩) λv b k=>⟨k.2,λU Y=>by rw[k.1];exact q U⟩
theorem xH(c:lg T h)(p:m.length=d.length)(q:∀(i k:ah),m[i]?=ac k->h[k]?=d[i]?)(s:b6 T x):(gS h m rest (eK T h))[gA (eK T h) 0 0 x]?=ac (gl T.length d rest x):=
 ZI vb (λu t a=>(by
  refine aL (n0 c a) λf j r Y=>aL (B6 a) λn g e Y=>?_;rw[j] at g;cases g;refine cf f j r λb l=>bu ((c.box b l).2.2 u f j) λv w o=>?_;rw[e];refine ca (uZ.mpr (.inr ⟨b,l,.inl aa⟩)) ?_ o;refine aB (JR o) (λa=>?_) (λa=>?_)
  ·right;exact uZ.mpr (.inr ⟨b,l,.inr ⟨a,aa⟩⟩)
  ·exact .inl a)) p q s
theorem Ca{a:ae Bx}:∀(i k:ah),(cC a.length)[i]?=ac k->a[k]?=a[i]?:=λi k h=>by have b:=eU h;rw[lR] at b;rw[uV b] at h;cases h;rfl
theorem aab{ts:ae af}(X:Gd c (n+12))(hA:c.frames=ac [a3])(j:lg W.tops f)(S:DZ W.tops D W Z G)(g:bW W.tops (gJ W.tops f) N)(mm:iB W.tops N M)(hT:W.tops.length<=3)(l:eC d)(U:r<N.length)
 (hN:N.length<=3000)(hM:M.length<=1000)(x7:sG (gJ W.tops f) D W Z)(e5:ts.length=17)(hw:(b9 N r).length<=512)(x8:∀x,b6 W.tops x->bU N x r=gl W.tops.length f d x)(hs:∀k∈s,k<f.length)(u:s.length<=3)(hJ:G J=ac (.list (cy s)))(bJ:n4 D Z J)(q:∀G',Q (.bool ao) G'):
 JM c [a0,.v (.d (.list (ts.map .int))),a2,.v (.ref Z.x),.v (.d (.list (f.map cz))),a5,.v (.d d),.v (.d (.list ((eK W.tops f).map fN))),.v (.ref D.x),.v (.int r),.v (.ref J),.v (.d (.list (gS f (cC f.length) d (eK W.tops f)))),a12,.v (.d (.list ((b9 N r).map iH))),a14,a15,.v (.d (.list ((b9 N r).map (kW W)))),a17,a18,a19,a20,a21,.u] (dg D G N M) Nn Cc Q:=by
 refine⟨J,cy s,aa,bJ.at.trans hJ,?_⟩
 rw[bJ.del];have S2:=S.delL bJ;generalize cL G J=G2 at S2⊢;have x9:=j.len;refine⟨by unfold cy;rw[aI,aI];exact aj [_] 0x10f08ae6e8e1e010c380 aa u,kM (α:=ah) (f0:=λk=>.int k) (λk=>cz (f.getD k ⟨.none,[]⟩)) aa (λk hk K kk=>?_) λx=>?_⟩
 ·refine aK (dc (hs k hk)) λb w=>?_;rw[cY,w] at kk;exact⟨_,dW cz w (aS x9 aa),kk⟩
 refine aw ((⟨(aI ..).symm,λi k h=>by have hk:=hs k (dw h);rw[fH,h,cr hk,rt,cY,cr hk];rfl⟩:s.length=(s.map λk=>f.getD k ⟨.none,[]⟩).length/\∀(i k),s[i]?=ac k->f[k]?=(s.map λk=>f.getD k ⟨.none,[]⟩)[i]?)) λb1 b2=>?_;rw[jG,show s.map (λk=>cz (f.getD k ⟨.none,[]⟩))=(s.map λk=>f.getD k ⟨.none,[]⟩).map cz by rw[eI];rfl];generalize(s.map λk=>f.getD k ⟨.none,[]⟩)=e3 at b1 b2⊢;have e6:∀b∈e3,b∈f:=λb w=>by refine aK (lb w) λi hi=>?_;refine aK (dc (xs:=s) (i:=i) (by have:=eU hi;exact aj [_,_,_] 80785593593846800 aa this b1)) λk hk=>?_;have:=b2 i k hk;rw[hi] at this;exact dw this
 refine iJ (qD g l.leaf) λz1 z2 z3 z4 z5=>⟨_,_,qx X S2.toDB,qy (n:=n+10) X S2.toDB l.leaf (aj [_] 0x10f08aebebede010c88bebe0 aa hN) ?_⟩
 generalize(d8 N (.leaf d)).1=N4 at z1 z2 z3 z4 z5⊢;generalize(d8 N (.leaf d)).2=p4 at z3 z5⊢;have h2:=j.top;have hE:=xG j;have h4:b6 W.tops (λY=>0):=λk E hk=>⟨fB _,h2 E (dw hk)⟩
 refine xC (n:=n+3) X S2.toDB hE h2 hT z1 (mm.pre z2) (λb w=>JX j (e6 b w)) (aj [_,_] 0x10f486e115c1010c380 aa b1 u) z3 (bn (uE z4 (ur 100 (b1▸u))) (bn (qP (qP hN 1) 300) (by decide))) (bn (uE hM (ur 100 (b1▸u))) (by decide)) λN5 M5 ch o=>?_;have o1:=o.nl;have o2:=o.ml;have p5:=z2.trans o.pre;have h5:=gE U p5.len;have h6:∀x,b6 W.tops x->bU N5 x r=gl W.tops.length f d x:=λx t=>by rw[p5.val r x U,x8 x t]
 have x4:∀x,b6 W.tops x->bU N5 x ch=gl W.tops.length e3 d x:=λx t=>by rw[o.val x t,g8 z5]
 have A:=λx(t:b6 W.tops x)=>xH (rest:=d) j (by rw[lR]) Ca t;have B:=λx(t:b6 W.tops x)=>xH (rest:=d) j b1 b2 t;have H:∀s,(gS f s d (eK W.tops f)).length=iI (eK W.tops f):=λs=>B5;have I:=vb (T:=W.tops) (bs:=f);have C:=(by
  constructor
  ·intro h7 U e;refine aK (lb U) λv hv=>?_;refine aL (n0 j hv) λE Y r Y=>?_;rw[e] at r;have:=r.zero;trivial
  ·intro h7 U;refine aK (lb U) λv hv=>?_;refine aL (n0 j hv) λE Y r Y=>r.up:u0 (eK _ _))
 have L:∀ns∈eK W.tops f,ns.length<=7:=λns h8=>by refine aK (lb h8) λv hv=>?_;refine aL (n0 j hv) λY Y Y h=>h
 have x2:∀{s:ae ah},(∀k∈s,k<f.length)->∀x∈gS f s d (eK W.tops f),bE 60 x:=λhs x hx=>xB (B7 (λb w=>(j.box b w).2.1) l hs x hx).leaf;have e4:=BJ p5 g o.good r U;have x5:=λa18=>aaa (a0:=a0) (a2:=a2) (a4:=.v (.d (.list (f.map cz)))) (a5:=a5) (a6:=.v (.d d)) (a7:=.v (.d (.list ((eK W.tops f).map fN)))) (a10:=.v (.d (.list (cy s)))) (a11:=.v (.d (.list (gS f (cC f.length) d (eK W.tops f))))) (a12:=a12) (a14:=a14) (a15:=a15) (a17:=a17) (a18:=a18) (a19:=a19) (a20:=a20) (a21:=a21) (a22:=.u) (Nn:=Nn) (Cc:=Cc) X hA hE S2 o.good o.memo _ h4 h2 hT h5
  (λm hm v hl=>by refine au (BX o.good h4 r h5 m v hm hl) λy e7 hy=>?_;rw[h6 y e7] at hy;rw[<-hy];exact JZ (λb w=>(j.box b w).2.1) l) (bn o1 (bn (uE z4 (ur 100 (b1▸u))) (bn (qP (qP hN 1) 300) (by decide)))) (bn o2 (bn (uE hM (ur 100 (b1▸u))) (by decide))) x7 e5 (by rw[e4];exact hw) q
 rw[e4] at x5;have e8:∀(i:ah)(a b:aA),(gS f (cC f.length) d (eK W.tops f))[i]?=ac a->(gS f s d (eK W.tops f))[i]?=ac b->a≠b->r≠ch:=λi a b ha w h9 e=>by
  refine bu (JU _ C i (by rw[<-H (cC f.length)];exact eU ha)) λd1 d2 d3=>?_;have bq:b6 W.tops (dq (gz (eK W.tops f) i)):=λk E hk=>by refine aK (dc (xs:=eK W.tops f) (i:=k) (by rw[I];exact eU hk)) λh7 U=>aL (n0 j U) λa1 ht x1 Y=>?_;rw[hk] at ht;cases ht;exact x1.le _ (d2 k h7 U)
  have e1:=A _ bq;have e2:=B _ bq;rw[d3,ha] at e1;rw[d3,w] at e2;have h3:=h6 _ bq;rw[e,x4 _ bq] at h3;exact h9 (by rw[jP e1,jP e2,h3])
 refine HQ (n:=n+7) X S2.toDB hE h2 (aj [_] 0x10f88ee3e010c380 aa hT) _ h4 o.good h5 o.lt (bn o1 (bn (uE z4 (ur 100 (b1▸u))) (bn (qP (qP hN 1) 300) (by decide)))) (λe=>?_) λe9 p po=>?_;all_goals
  refine JE (n:=n+10) X (λb w=>by rw[I,(j.box b w).1];exact aF (cO _) (aj [_] 0x10f88ee3e010c380 aa hT)) (aj [_] 18668076450688 aa x9) hs (aj [_] 4772459749360512 aa u) (aj [_,_] 0x10f38112c0110c380 aa I hT) L<|YQ (n:=n+11) X (by rw[H,H]) (x2 λk hk=>kS.mp hk) (x2 hs) (by rw[H];exact aj [_] 0x10f08ae6e8e1e010c785e1e0 aa (JY j hT)) (aj [_,_] 0x10f486e112c0110c380 aa I hT) (λns h8=>⟨C.ne ns h8,by have:=L ns h8;exact aj [_] 0x10f88ee3e010c780 aa this⟩) (λe'=>?_) λi a b ha w h9 x6=>?_
 ·exact⟨bE.none,bE.none,oQ aa (x5 _)⟩
 ·exact bv e (e8 i a b ha w h9)
 ·exact bv (o.good.canon _ h4 _ r ch (cO _) h5 o.lt λx t=>by have h1:=A x t;rw[e',B x t] at h1;rw[h6 x t,x4 x t,jP h1]) e9
 ·have:=ZQ C I (λv h7 x3=>by refine aL (n0 j x3) λE ht x1 Y=>aL (B6 x3) λY Y Y e=>ca e (dw x1.zero) ⟨E,ht,x1.le⟩) (λx t=>by rw[A x t,h6 x t]) (λx t=>by rw[B x t,x4 x t]) (H _) po ha w h9 x6;rw[this];have fp:bE 60 (.tuple (p.map cJ)):=(bE.tup (n:=4) λx hx=>by refine au (bV.mp hx) ?_;rintro z Y rfl;exact bE.int _).le (aX _ _);exact⟨fp,fp,oQ aa (x5 _)⟩
theorem aac{f:ae Bx}{j:aA}{ts:ae af}{e9:dK}{a0 a2 a5:LV}{Nn Cc:Sg->AH->Prop}(X:Gd c (n+14))(hA:c.frames=ac [e9])(w:lg W.tops f)(S:DZ W.tops D W Z G)(g:bW W.tops (gJ W.tops f) N)(mm:iB W.tops N M)(wt:fj W)(lf:hF W)(h8:∀nm∈W.names,gT nm=ao)(hT:W.tops.length<=3)(B:eC j)(u:a<N.length)
 (hN:N.length<=400)(hM:M.length<=400)(x7:sG (gJ W.tops f) D W Z)(x8:ts.length=17)(x9:∀x,b6 W.tops x->bU N x a=gl W.tops.length f j x)(hJ:G J=ac (.list (cy (cC f.length))))(bJ:n4 D Z J)(q:∀G',Q (.bool ao) G'):
 JN c [a0,.v (.d (.list (ts.map .int))),a2,.v (.ref Z.x),.v (.d (.list (f.map cz))),a5,.v (.d j),.v (.d (.list ((eK W.tops f).map fN))),.v (.ref D.x),.v (.int a),.v (.ref J),.v (.d (.list (gS f (cC f.length) j (eK W.tops f)))),.o (.stab []),.u,.u,.u,.u,.u,.u,.u,.u,.u,.u] (dg D G N M) Nn Cc Q:=by
 refine λL hL=>?_;have bL:=S.fresh hL;replace hL:=bL.at.symm.trans hL;have a1:J≠L:=λe=>by rw[<-e,hJ] at hL;cases hL
 rw[bL.upd];have U:=w.len;have hE:=xG w;have x1:b6 W.tops (λ_=>0):=λk a3 hk=>⟨fB _,w.top a3 (dw hk)⟩
 have e1:=λb hb=>(w.box b hb).2.1;refine Y6 (n:=n+8) X (S.upL bL.z) g hE wt _ x1 hT bL.o bL.z (bG ..) (vb (T:=W.tops) (bs:=f)) (λv k7 h=>n0 w h) B5 (by rw[B5];exact aj [_] 0x10f089e1e010c785e1e0 aa (JY w hT)) (B7 e1 B λk hk=>kS.mp hk) (aj [_] 0x10f087e1e1e1e010c089e1e0 aa hN) λd r C du a4 nl=>?_;rw[ij];have g9:=du.g;have A:=(du.lv.num r aP).1;have E:∀x,b6 W.tops x->bU d x a=gl W.tops.length f j x:=λx bx=>by rw[du.p.val a x u,x9 x bx]
 have a6:=g9.canon _ x1 _ r a (cO _) A (gE u du.p.len:a<d.length) λx bx=>by have h1:=du.lv.val 0 r aa x bx;rw[OM,(λx(bx:b6 W.tops x)=>xH (rest:=j) w (by rw[lR]) Ca bx) x bx] at h1;rw[jP h1,E x bx]
 subst a6;have l:∀m,dy d r m->ki d m:=λm hm v hl=>by refine au (BX g9 x1 r A m v hm hl) λy a7 hy=>?_;rw[E y a7] at hy;rw[<-hy];exact JZ e1 B
 have h9:(cK W d C).length=C.length:=aI ..;have e2:=Bq hE g9 r A 3 (aj [_,_] 4777618810389376 aa hT);have h6:=e2.2;refine AU (bL.at.trans (bG ..)) (by rw[h9];exact aj [_,_,_] 0x10f084e2e4efe210c1210c908de7e0110c089e1e0 aa (qI _ _ du.Cn du.Cl:C.length<=d.length) nl hN) ?_;rw[bL.upd,ij,xl J2,show(PyData.list [.tuple [.tuple [.str (aD "verdict"),cU d r]]])=kU (cU d r) from rfl];have S2:DZ W.tops D W Z (aE G L (.stab (cK W d C++[(aD "tree",kU (cU d r))]))):=S.upL bL.z;have x2:(aE G L (.stab (cK W d C++[(aD "tree",kU (cU d r))]))) L=_:=bG ..;have x3:(aE G L (.stab (cK W d C++[(aD "tree",kU (cU d r))]))) J=_:=(aU a1).trans hJ;generalize aE G L (.stab (cK W d C++[(aD "tree",kU (cU d r))]))=G2 at S2 x2 x3⊢;refine oQ aa<|Xi (n:=n+10) X S2 g9 hE wt A (aj [_,_] 0x10f089efe5e1e110c908de7e0110c089e1e0 aa nl hN) zH l λh4 L2 a8 e3 H=>?_
 have b2:=S2.fresh H;replace H:=b2.at.symm.trans H;have e4:L≠L2:=λe=>by rw[<-e,x2] at H;cases H
 have e5:J≠L2:=λe=>by rw[<-e,x3] at H;cases H
 have I:∀m,m∈h4↔m∈C:=λm=>by rw[e3,(λm=>(a4 m).trans ⟨λ⟨z,hz,h1,h2⟩=>⟨bZ.mp hz▸h1,h2⟩,λ⟨h1,h2⟩=>⟨r,bZ.mpr aa,h1,h2⟩⟩:∀m,m∈C↔dy d r m/\kg d m)]
 refine J8 X (bG ..) ((aU e4).trans (bL.at.trans x2)) (by rw[b7,h9,cG,ea,cK,aI,(bQ (Bk _ _ a8 λm h=>(I m).mp h) (Bk _ _ du.Cn λm h=>(I m).mpr h):h4.length=C.length)]) (λp Y=>?_) (λp Y=>?_) ?_
 ·refine aB (bj.mp Y) ?_ (λY=>?_);rintro rfl
  ·rw[aad,J2];rfl
  ·refine au (bV.mp Y) ?_;rintro m hm rfl;rw[aad,ZX ((I m).mp hm)];rfl
 ·refine aB (bj.mp Y) ?_ (λY=>?_);rintro rfl
  ·refine(bE.lst (n:=10) λx hx=>?_).le (by exact aX _ _);rw[bZ.mp hx];refine bE.tup (n:=9) λy hy=>?_;rw[bZ.mp hy];exact mR (n:=8) (bE.str (by decide+kernel)) (J7 (l r .here))
  ·refine au (bV.mp Y) ?_;rintro m hm rfl;refine(Z7 lf h8 λk ps e p Y=>?_).le (by exact aX _ _);exact l _ (((e3 m).mp hm).1.step e Y)
 rw[b2.upd];have S3:=S2.upL (o:=.stab ((aD "tree",kU (cU d r))::cK W d h4)) b2.z;have x4:=(aU (o:=.stab ((aD "tree",kU (cU d r))::cK W d h4)) e5).trans x3;generalize aE G2 L2 (.stab ((aD "tree",kU (cU d r))::cK W d h4))=G3 at S3 x4⊢;refine⟨by rw[aI,aI];exact aj [_] 0x10f08ae6e8e1e010c080e2e0 aa h6,fK.map (α:=ek×aA) (β:=LV×LV) iH (kW W) (λwy=>(.v (.d (.tuple (wy.1.map kZ))),.v (.d wy.2)))
  (λs=>[a0,.v (.d (.list (ts.map .int))),a2,.v (.ref Z.x),.v (.d (.list (f.map cz))),a5,.v (.d j),.v (.d (.list ((eK W.tops f).map fN))),.v (.ref D.x),.v (.int r),.v (.ref J),.v (.d (.list (gS f (cC f.length) j (eK W.tops f)))),.v (.ref L),.v (.d (.list ((b9 d r).map iH))),.v (.int r),.v (.d (cU d r)),.u,.u,.u,.u,s.1,s.2,.u])
  (λwy x5 s K k=>?_) (.u,.u) λs=>?_⟩
 ·refine bu (nS g9 r A wy x5) λst a9 _=>YL (n:=n+13) X S3.ss wt lf st (by exact aj [_,_,_] 0x10f88ee3e110c092110c380 aa a9 hT) k
 rw[jG];refine⟨aS (m:=512) (by rw[aI];exact h6) aa,?_⟩
 refine Xk (n:=n+10) X S3 g9 hE wt lf A (by exact aj [_,_] 0x10f089efe5e1e110c908de7e0110c089e1e0 aa nl hN) (by exact aj [_] 0x10f488e3e010c380 aa hT) (by rw[aI];exact fB _) (by exact aj [_] 0x10f08ae6e8e1e010c080e2e0 aa h6) (by exact aj [_,_] 0x10f08ae6e8e1e110c0112c984e2e0 aa e2.1 (by rfl:pf 3=585)) l λL3 h5 L4 h3=>?_;have b3:=S3.fresh h5;rw[b3.upd] at h3⊢;replace h5:=b3.at.symm.trans h5;have S4:=S3.upL (o:=.stab [(aD "tree",.list ((b9 d r).map (kW W)))]) b3.z;have b4:=S4.fresh h3;have e6:J≠L3:=λe=>by rw[<-e,x4] at h5;cases h5
 have e7:=(aU (o:=.stab [(aD "tree",.list ((b9 d r).map (kW W)))]) e6).trans x4;rw[b4.upd];refine J8 X (b3.at.trans ((aU (λe=>by rw[<-e] at h3;cases(b3.at.trans (bG ..)).symm.trans h3:L3≠L4)).trans (bG ..))) (b4.at.trans (bG ..)) aa (λp Y=>?_) (λp Y=>?_) ?_
 ·rw[bZ.mp Y];rfl
 ·rw[bZ.mp Y];refine(bE.lst (n:=54) λx hx=>?_).le (by exact aX _ _);refine au (bV.mp hx) ?_;rintro wy x5 rfl;refine bu (nS g9 r A wy x5) λ_ _ k1=>au k1 λm hm hl=>(bE.tup λx hx=>by
   refine aB (ed.mp hx) (λhx=>?_) (λhx=>?_)
   ·refine au (bV.mp hx) ?_;rintro e _ rfl;exact(by
     have k2:gT (W.names.getD e.1 (aD ""))=ao:=by
      rw[cY];cases hg:W.names[e.1]? with
      |none=>decide+kernel
      |some nm=>exact h8 nm (dw hg)
     have u:∀i,bE 50 (hK W (W.names.getD e.1 (aD "")) i):=λi=>by
      unfold hK;split
      ·rename_i xs h;rw[cY];cases hg:xs[i.toNat]? with
       |none=>exact bE.none
       |some y=>exact lf _ xs h y (dw hg)
      ·exact bE.int _
     delta nU mL;refine J5 (bE.str (by decide+kernel)) ?_ (bE.str (by decide+kernel)) ?_
     ·exact(mR (n:=2) (bE.str (by decide+kernel)) (bE.str k2)).le (by exact aX _ _)
     ·unfold xo;split
      ·exact(mR (n:=50) (bE.str (by decide+kernel)) (u _)).le (by exact aX _ _)
      ·exact(J3 (n:=50) (bE.str (by decide+kernel)) (u _) (u _)).le (by exact aX _ _))
   ·rw[bZ.mp hx];exact(mR (n:=5) (bE.str (by decide+kernel)) (J6 (l m hm _ hl))).le (by exact aX _ _))
 have S5:=S4.upL (o:=.stab [(aD "tree",.list ((b9 d r).map (kW W)))]) b4.z;have x6:=(aU (o:=.stab [(aD "tree",.list ((b9 d r).map (kW W)))]) (λe=>by rw[<-e] at h3;cases(bJ.at.trans e7).symm.trans h3:J≠L4)).trans e7;generalize aE (aE G3 L3 _) L4 _=G5 at S5 x6⊢;have e8:=λ{G6:AH}{sq:ae ah}(S6:DZ W.tops D W Z G6)(hs:∀k∈sq,k<f.length)(k3:sq.length<=3)(k4:G6 J=ac (.list (cy sq)))(k5:LV)=>aab (a0:=a0) (a2:=a2) (a5:=a5) (a12:=.v (.ref L)) (a14:=.v (.int r)) (a15:=.v (.d (cU d r))) (a17:=k5) (a18:=.u) (a19:=.u) (a20:=.u) (a21:=.u) (Nn:=Nn) (Cc:=Cc) (n:=n+2) X hA w S6 g9 (mm.pre du.p) hT B A (by exact aj [_,_] 0x10f88bebe110c908de7e0110c089e1e0 aa nl hN) (by exact aj [_] 0x10f88ee3e010c089e1e0 aa hM) x7 x8 h6 E hs k3 k4 bJ q;refine⟨aS (m:=3) (by rw[aI];exact U) aa,?_⟩
 rw[aI];refine vB.d (λh=>?_) λh=>e8 S5 (λk hk=>kS.mp hk) (by rw[lR];exact U) x6 _;refine aK (dc (xs:=ts) (i:=3) (by exact aj [_] 5049198277919200 aa x8)) λt ht=>oP (z:=.int t) (by rw[fH,ht];rfl) ⟨aS (m:=3) (by rw[aI];exact U) aa,?_⟩;rw[aI];refine vB.n (by exact ay [_] 0x16f080811c01812c08a180 aa h) ?_;have f1:=kX t (show(0:af)<(f.length:af)-1 by exact ay [_] 80960889579225112 aa h);obtain⟨i,hi⟩:∃i:ah,t.fmod ((f.length:af)-1)=(i:af):=⟨_,(dh (lQ t (show(0:af)<(f.length:af)-1 by exact ay [_] 80960889579225112 aa h))).symm⟩
 rw[hi] at f1⊢;have f2:(i:af)<(f.length:af)+-1:=f1;have h7:(cy (cC f.length)).length=f.length:=by unfold cy;rw[aI,lR]
 refine B9 (k:=i) (bJ.at.trans x6) (by exact aj [_,_] 0x10f084e2e4efe112c0110c380 aa h7 U) (by exact eL.1 (ay [_,_,_] 0x11f0211ca181215c10 aa f2 (gW.2 h7))) ?_;rw[bJ.upd];refine B9 (k:=i+1) (bJ.at.trans (bG ..)) (by rw[sF];exact aj [_,_] 0x10f084e2e4efe112c0110c380 aa h7 U) (by rw[sF];exact eL.1 (ay [_,_,_] 0x11f0918211ca181215c10 aa f2 (gW.2 h7))) ?_;rw[bJ.upd,ij];have k6:((cy (cC f.length)).set i (.int ((i:af)+1))).set (i+1) (.int (i:ah))=cy (vc f.length i):=by delta cy vc;rw[BY,BY];rfl
 exact e8 (S5.upL bJ.z) ((λk hk=>by
  unfold vc at hk;refine aB (aae hk) (λhk=>?_) (λhk=>?_)
  ·refine aB (aae hk) (λhk=>?_) (λhk=>?_)
   ·exact kS.mp hk
   ·exact aj [_,_,_] 0x11f1212c9180211c19180 aa hk (by exact eL.1 (ay [_,_] 0x11f1918011ca1810 aa f2))
  ·exact aj [_,_,_] 0x11f1212c0211c19180 aa hk (by exact eL.1 (ay [_,_] 0x11f1918011ca1810 aa f2)))) (by rw[Z8];exact U) ((bG ..).trans (bA (λx=>ac (O.list x)) k6)) _
theorem aaf(X:Gd c (n+1))(q:∀j,G j=ak->Q (.ref j) (aE G j (.list (uT.map .int)))):FC c (.ref 262) [] G Q:=Zf X λc X=>q
theorem fK.rng{K:ae aA->Sg->AH->Prop}(f){m k:ah}(hk:rN k a.length=ao)(ee:∀i,i<m->∀K,K [f i] (ef a k (.v (.int i))) G->d (ef a k (.v (.int i))) G K)
 (b:∀x,K (c++(cC m).map f) (ef a k x) G):fK (bK k) d (iZ 0 m) c a G K:=by
 have e:iZ 0 m=((cC m).map λ(i:ah)=>cJ i).map V.d:=by rw[Ac,eI];exact i7 λi Y=>bA V.int ((vi _).trans (Cq _))
 rw[e];exact kM (f0:=λ(i:ah)=>.int i) f hk (λi g=>ee i (kS.mp g)) b
theorem J9:(iZ i m).length=m:=by rw[Ac,aI,lR]
theorem aag{K:Sg->AH->Prop}(o:pK Bh L g)(v:g.length<=1000)(d:l<=17)(p:l<=g.length)(q:∀(a:ae af)b,b.nO=ao->a.length=17->K (.v (.ref L)::.v (.ref J)::b::r) (aE G J (.list (a.map .int)))):
 ∀(m i)(a:ae af)(b),b.nO=ao->i+m=l->a.length=17->dj (bK 2) (dP.b JJ c Q) (iZ i m) (.v (.ref L)::.v (.ref J)::b::r) (aE G J (.list (a.map .int))) K:=by
 intro m;induction m with
 |zero=>exact λi a b h Y f=>q a b h f
 |succ m s=>intro i a b Y e f;refine aK (dc (xs:=a) (i:=i) (aj [_,_,_,_] 0x11f0212c199183210c181e115c181e0 aa e d f)) λt j=>aK (dc (xs:=g) (i:=i) (aj [_,_,_,_] 0x11f1212c099183210c10 aa e p)) λz u=>AT (bG ..) (dW cJ j (aS (m:=17) (fT f) aa)) (Z9 o u (aj [_,_,_] 0x10f084e2e4efe112c099182110c181e0 aa e d) (B9 (k:=i) (bG ..) (aS (m:=17) (by rw[aI];exact fT f) aa) (by rw[aI];exact aj [_,_,_,_] 0x11f0212c199183210c181e115c181e0 aa e d f) ?_));rw[ij];have n:=s (i+1) (a.set i (t+z)) (.v (.int i)) aa (bQ (aj [_,_,_] 0x10f291918012c2991810 aa e) (aj [_,_,_] 0x10f919180215c2991810 aa e)) (by rw[sF];exact f);rw[BY] at n;exact n
theorem aah{K:Sg->AH->Prop}(X:Gd c (n+2))(S:SS W Z G)(h:W.tops.length<=3)(j:∀t∈W.tops,0<=t/\(t<16\/22<=t))(p:a.length=17)(y:m<=2)
 (q:∀b f,b.nO=ao->f.nO=ao->K [C,.v (.d (.list (a.map .int))),b,.v (.ref Z.x),.o (.list ((va a W.tops (m+1)).map cz)),f,.u,.u,.u,.u,.u,.u,.u,.u,.u,.u,.u,.u,.u,.u,.u,.u,.u] G):
 ∀(r d:ae ah)(b f:LV),b.nO=ao->f.nO=ao->cC (m+1)=d++r->dj (bK 2) (dP.b JK c Q) (r.map λ(i:ah)=>V.int (5+(i:af)*4))
  [C,.v (.d (.list (a.map .int))),b,.v (.ref Z.x),.o (.list ((d.map (pt a W.tops)).map cz)),f,.u,.u,.u,.u,.u,.u,.u,.u,.u,.u,.u,.u,.u,.u,.u,.u,.u] G K:=by
 intro r
 induction r with
 |nil=>intro d b f s u e;rw[c8] at e;rw[<-e];exact q _ _ s u
 |cons i r D=>
  intro d b f Y Y e;have A:i<=2:=by have:=kS.mp (e▸iY d aP:i∈cC (m+1));exact aj [_,_] 0x10f28111c9180110c280 aa this y
  refine pj X S ⟨aS (m:=3) (by rw[aI];exact h) aa,aa,aa,W.tops.length,(by rw[aI]:((W.tops.map cJ).length:af)=(W.tops.length:ah)),aS (m:=3) h aa,by rw[J9];exact aj [_] 0x10f08ae6e8e1e010c380 aa h,fK.rng (λv=>hO (kj (a.getD (5+4*i+1+v) 0) (W.tops.getD v 0))) aa (λv B K k=>?_) λx=>?_⟩
  ·refine aK (dc (xs:=W.tops) B) λt g=>aK (dc (xs:=a) (i:=5+4*i+1+v) (aj [_,_,_,_] 0x11f09291894b35840c28311c1210c38115c181e0 aa A B h p)) λx l=>?_;rw[cY,cY,g,l] at k;refine⟨_,?_,pj X S ⟨_,dW cJ g (aS (m:=3) h aa),Yy (n:=n+1) X (j t (dw g)).1 k⟩⟩
   rw[show(5+(i:af)*4+1+(v:af))=((5+4*i+1+v:ah):af) from bA (λz=>((5+z+1+v:ah):af)) (pi i 4)];exact(dW cJ l (aS (m:=17) (fT p) aa))
  refine aK (dc (xs:=a) (i:=5+4*i) (aj [_,_] 0x11f094b15840c28115c181e0 aa A p)) λx l=>?_;have o:=dW cJ l (aS (m:=17) (fT p) aa);rw[show((5+4*i:ah):af)=5+(i:af)*4 from bA (λz=>((5+z:ah):af)) (pi 4 i)] at o;have E:=kX x (show(0:af)<2 by exact bl _);refine⟨_,o,_,⟨(lQ x (show(0:af)<2 by exact bl _)),Jw E (by decide),JW x⟩,aS (m:=3) (by rw[aI,aI];exact(by have:=bA tI e;rw[lR,b7] at this;exact aj [_,_,_] 0x10f38115c921918010c280 aa this y:d.length<=3)) aa,?_⟩
  have w:=λb f s u=>D (d++[i]) b f s u (by rw[e,cs];rfl);rw[ck,ck] at w;have H:cz (pt a W.tops i)=.tuple [qQ x,.list ((cC W.tops.length).map λv=>hO (kj (a.getD (5+4*i+1+v) 0) (W.tops.getD v 0)))]:=by delta cz pt;rw[eI,(by rw[cY,l];rfl:a.getD (5+4*i) 0=x)];rfl
  rw[aai,aai,H] at w;exact w _ _ aa rfl
theorem aaj(T:ae aN):fI b (T.map .str):=fI.of λy a=>by refine au (bV.mp a) ?_;rintro i Y rfl;rw[ED];trivial
theorem Cb{a:ae (d×aA)}(h:∀p∈a,∃i,p.2=.int i):fI f (a.map (·.2)):=fI.of λy b=>by refine au (bV.mp b) ?_;rintro p c rfl;refine aK (h p c) λi e=>?_;rw[e];rw[EC];trivial
theorem aak:∀(i)(N),∀p∈iD i N,∃j,p.2=.int j:=by
 intro a c;induction c generalizing a with
 |nil=>revert a;exact@λY p h=>by simp[iD.q1] at h
 |cons d r b=>
  revert a;exact@λi p h=>by
   rw[iD.q2] at h;refine aB (bj.mp h) ?_ (λh=>?_);rintro rfl
   ·exact ew _ rfl
   ·exact b (i+1) p h
theorem aal(x)(c):fI c ((jd x).legal.map (·.2)):=by
 unfold jd;have a:∀(b:ae af),fI c [.tuple (b.map .int)]:=λb=>fI.of λy d=>by rw[bZ.mp d];rw[fu.q2];exact B8 b
 split
 ·exact a [1,2,4,8,64]
 ·split
  ·unfold W1;simp only[gN];rw[fI.q1];trivial
  ·exact a [2,10]
theorem aam(m:G J=ac (.list r))(E:fu r d)(hk:∀a o,G a=ac o->a≠J->rB r o)(H:Pk J r I L)
 (h:cF A f L (cL G J) λv M=>v=.d d/\M=cL G J)(q:Q (.d d) G):cF A f I G Q:=λt s N S i=>by
 refine aw (S.drop J) λz Y=>aM (h t s N z (Pk.all (S.list_read m) H i)) λv s' p=>p _ λB u G1 y e w x T p=>aw p ?_;rintro rfl rfl;refine cQ (S.objs J _ m) λws n U C=>?_;have c:=(x J _ U (n9 G J) iV).1;have j:=bb.ext z x.any C.del;have k:∀b,b≠J->cL G J b=ak->G b=ak:=λb W l=>(ku W).symm.trans l;have D:bh [] G s.heap G B:=λb o e g Y=>⟨(x b o e (na g) iV).1,g⟩
 refine(.mk B u G (.d d) e ⟨λb o e=>?_,λa o e=>?_,λb l=>⟨(S.own b l).1,(w.own b l).2⟩⟩ D (Rd.back c j k T E) q)
 ·refine bu (S.base b o e) λY q2 q3=>ca (w.base b o e).1 q2 q3
 ·by_cases q:a=J
  ·subst q;rw[m] at e;cases e;exact⟨ws,n,c,C.ext S D.any⟩
  ·exact(w.objs a o ((ku q).trans e)).back c j k (hk a o e q)
noncomputable def pv(D:DA)(Z:nQ):=[D.x,D.dx,D.an,D.ab,D.am,Z.x,Z.dx,Z.al,Z.ap]
theorem n5(h:x=ac p)(e:x=ac o)(k:rB a p):rB a o:=jP (h.symm.trans e)▸k
theorem aan{b:ae aA}(S:DZ W.tops D W Z G)(g:bW W.tops E N)(j:iB W.tops N M)(c:∀b,fI b (W.legal.map (·.2)))(k:∀a o,G a=ac o->a∈pv D Z)(a:aZ)(o:O)(e:dg D G N M a=ac o):rB b o:=by
 have m:a∈pv D Z:=by
  by_cases f:a=D.an
  ·rw[f];exact .tail _ (.tail _ (.head _))
  by_cases h:a=D.ab
  ·rw[h];exact .tail _ (.tail _ (.tail _ (.head _)))
  by_cases i:a=D.am
  ·rw[i];exact .tail _ (.tail _ (.tail _ (.tail _ (.head _))))
  exact k a o ((S.toDB.other f h i).symm.trans e)
 have z:=S.ss (ns:=N.map d0) (bk:=gF 0 N) (M:=M);exact(cp (λe=>n5 S.toDB.gx e trivial) (cp (λe=>n5 S.toDB.gd e (cp trivial (cp trivial (cp trivial (cp (show fu b _ by rw[fu.q2];exact B8 _) iz)))))
  (cp (λe=>n5 S.toDB.gn e (fI.of λy l=>by refine au (bV.mp l) ?_;rintro d n rfl;exact ZT (g.ok d n)))
  (cp (λe=>n5 S.toDB.gb e (Cb (ZU 0 N))) (cp (λe=>n5 S.toDB.gm e (Cb j.2)) (cp (λe=>n5 z.x e trivial)
  (cp (λe=>n5 z.d e (cp trivial (cp trivial (cp (show fu b _ by rw[fu.q2];exact B8 _) (cp (show fu b _ by rw[fu.q2];exact aaj _) iz)))))
  (cp (λe=>n5 z.l e (c b)) (cp (λe=>n5 z.p e (Cb (aak 0 W.names))) iz)))))))):∀a∈pv D Z,dg D G N M a=ac o->rB b o) a m e
theorem aao(j:∀b∈l,eC b.vd)(c:eC a)(o:∀k∈g,k<l.length)(m:gS l g a d≠[]):fu (cy g) (.list (gS l g a d)):=by
 have n:=B7 (few:=d) j c o;rw[fu.q1];refine aF (λe=>?_) (fI.of λy i=>?_)
 ·refine fz (qE m) λy p i=>?_;have f:=n y (by rw[i];exact aP);rw[i] at e;cases g with
  |nil=>cases e
  |cons z r=>cases e;refine aB f (λh=>?_) (λh=>?_)<;>clear f<;>cases h
 ·refine aB (n y i) ?_ ?_<;>rintro rfl<;>(rw[ED];trivial)
theorem aap(S:DS W.tops D [] [] G)(z:SS W Z G):∃H,j6 (dg D H [] []) G/\DZ W.tops D W Z H/\∀a o,H a=ac o->a∈pv D Z:=by
 have b:∀a∈pv D Z,(λa=>if a∈pv D Z then G a else ak:AH) a=G a:=λa m=>aR m;have c:DS W.tops D [] [] (λa=>if a∈pv D Z then G a else ak:AH):=⟨(b _ (aP)).trans S.x,(b _ (.tail _ (.head _))).trans S.d,(b _ (.tail _ (.tail _ (.head _)))).trans S.n,(b _ (.tail _ (.tail _ (.tail _ (.head _))))).trans S.b,(b _ (.tail _ (.tail _ (.tail _ (.tail _ (.head _)))))).trans S.m,S.ne⟩
 refine cf _ ?_ ⟨c.db,⟨(b _ (.tail _ (.tail _ (.tail _ (.tail _ (.tail _ (.head _))))))).trans z.x,(b _ (.tail _ (.tail _ (.tail _ (.tail _ (.tail _ (.tail _ (.head _)))))))).trans z.d,(b _ (.tail _ (.tail _ (.tail _ (.tail _ (.tail _ (.tail _ (.tail _ (.head _))))))))).trans z.l,(b _ (.tail _ (.tail _ (.tail _ (.tail _ (.tail _ (.tail _ (.tail _ (.tail _ (.head _)))))))))).trans z.p⟩,?_⟩ λa o e=>abV λm=>?_
 ·rw[c.eq];exact λa=>by
   by_cases m:a∈pv D Z
   ·exact .inl (b a m)
   ·exact .inr (aQ m)
 ·exact cp ⟨fL z.x S.n (by simp),fL z.x S.b (by simp),fL z.x S.m (by simp)⟩ (cp ⟨fL z.d S.n (by simp),fL z.d S.b (by simp),fL z.d S.m (by simp)⟩ (cp ⟨fL z.l S.n (by simp),fL z.l S.b (by simp),fL z.l S.m (by simp)⟩ (cp ⟨fL z.p S.n (by simp),fL z.p S.b (by simp),fL z.p S.m (by simp)⟩ iz)))
 ·rw[aQ m] at e;cases e
theorem aaq(b:pK Bh L a)(d:a.length<=1000000)(q:Q (.int a.length) G):FC c (.builtin "len") [.ref L] G Q:=λe F=>PI b d (jD F q)
theorem aar{k:ah}:∃m:ah,(if(((uT.map cJ).length:ah):af)<(k:af) then(((uT.map cJ).length:ah):af) else(k:af))=(m:ah)/\m<=17/\m<=k:=by
 rw[(by rfl:(uT.map cJ).length=17)];by_cases c:((17:ah):af)<k
 ·exact cf 17 (by rw[aR c]) (cO _) (bD.1 (ay [_] 0x10f0181e11c0181e aa c))
 ·exact cf k (by rw[aQ c]) (bD.1 (ay [_] 0x10f181e014c0181e aa c)) (cO _)
theorem aas(X:Gd c (n+15))(hA:c.frames=ac []){L0:aZ}(hS:pK Bh L0 is)(hl:is.length<=1000)(h3:∀(D:DA)(Z:nQ)(W:Wd)(p:ae Bx),fj W->hF W->(∀k,(gJ W.tops p k).length<=7)->W.tops.length<=3->sG (gJ W.tops p) D W Z)
 (q:∀G',Q (.bool ao) G'):fe c (.ref 350) [.ref L0] G Q:=Zh X λh4 X=>by
 refine aaf (n:=n+13) X λJ0 x3=>aaq hS (aj [_] 0x10f084e2e4efe010c88ee3e0 aa hl) (GI (bG ..) (aX _ _) ?_);refine aL (aar (k:=is.length)) λm0 hm h6 x4=>⟨aa,aa,m0,hm,aS h6 aa,aag (c:=(c.deeper h4)) hS hl h6 x4 (λts h2 g2 w=>?_) m0 0 uT _ aa (dZ _) (by rfl)⟩
 refine⟨J0,_,aa,bG ..,?_⟩
 rw[Ez x3];refine aK (dc (xs:=ts) (i:=0) (aj [_] 5048992119488992 aa w)) λt0 x5=>aK (dc (xs:=ts) (i:=1) (aj [_] 5049060838965728 aa w)) λC x6=>aK (dc (xs:=ts) (i:=2) (aj [_] 5049129558442464 aa w)) λU x7=>oP (z:=.int t0) (by rw[fH,x5];rfl) (vT (eV.mpr ⟨g2,aa⟩:(LV.nO h2&&ao)=ao) (yx (Zw (n:=n+11) X λZ G1 s Y=>?_)));refine iJ (ZR t0) λwt lf y u I=>?_;have L:=aal t0;generalize jd t0=W at s wt lf y u I L;obtain⟨m,hm,A⟩:∃m:ah,C.fmod 3=(m:af)/\m<=2:=by have h1:=lQ C (show(0:af)<3 by exact bl _);exact bi (C.fmod 3).toNat (by exact fC (ay [_,_] 72747146256 aa (dh (ay [C.fmod 3] 18623113510920 aa h1))) (ay [_,_] 72762862608 aa (dh (ay [C.fmod 3] 18623113510920 aa h1)))) (by exact bD.1 (ay [_,_] 0x10f28112c0111c380 aa (dh (ay [C.fmod 3] 18623113510920 aa h1)) (kX C (show(0:af)<3 by exact bl _))))
 refine oP (z:=.int C) (by rw[fH,x6];rfl) ?_;refine⟨.of_left (by exact aX _ _),by exact aW aa,by exact aX _ _,m+1,by rw[hm];exact(J1 m A).1,by rw[hm];exact(J1 m A).2,aah (n:=n+12) X s u y w A (λh2 h5 g2 g5=>?_) _ [] _ _ g2 aa rfl⟩
 have g:lg W.tops (va ts W.tops (m+1)):=ZS (by exact aj [_] 76341916258583168 aa A) y;generalize va ts W.tops (m+1)=p at g⊢;have f:=g.len;have f1:=kX U (show(0:af)<2 by exact bl _);refine oP (z:=.int U) (by rw[fH,x7];rfl) ?_;refine⟨_,⟨(lQ U (show(0:af)<2 by exact bl _)),Jw f1 (by decide),JW U⟩,?_⟩
 have j:=JV U;generalize qQ U=r at j⊢;refine pj X s ⟨aS (m:=3) (by rw[aI];exact u) aa,aa,aa,W.tops.length,(by rw[aI]:((W.tops.map cJ).length:af)=(W.tops.length:ah)),aS (m:=3) u aa,by rw[J9];exact aj [_] 0x10f08ae6e8e1e010c380 aa u,fK.rng (λv=>fN (gJ W.tops p v)) aa (λv hv K k=>?_) λx=>?_⟩
 ·refine aK (dc (xs:=W.tops) hv) λt h7=>?_;unfold gJ at k;rw[cY,h7] at k;exact pj X s ⟨_,dW cJ h7 (aS (m:=3) u aa),YB (n:=n+13) X (λb N=>by rw[(g.box b N).1];exact aF hv (by exact aj [_] 0x10f88ee3e010c380 aa u)) (by exact aj [_] 4783433390801792 aa f) k⟩
 rw[jG,show(cC W.tops.length).map (λv=>fN (gJ W.tops p v))=(eK W.tops p).map fN by unfold eK;rw[eI];rfl];refine pj X s (vT ?_ (cF.less (Zu (n:=n+12) X λD G3 S3 u3=>?_)))
 ·show(LV.nO h2&&(LV.nO h5&&ao))=ao;rw[g2,g5];rfl
 refine aL (aap S3 (s.upto u3 (by exact aW aa))) λH l S hH=>bi (dg D H [] []) l ?_;have hE:=xG g;have h8:=g.top;refine iJ (qD (ZV (T:=W.tops) (E:=gJ W.tops p)) j.leaf) λl1 l2 l3 l4 l5=>⟨_,_,qx X S.toDB,qy (n:=n+12) X S.toDB j.leaf (by exact eX _) ?_⟩
 generalize(d8 [] (.leaf r)).1=N4 at l1 l2 l3 l4 l5⊢;generalize(d8 [] (.leaf r)).2=p4 at l3 l5⊢;rw[jH] at l4;refine xC (n:=n+5) X S.toDB hE h8 u l1 (ZW.pre l2) (λb N=>JX g N) (by exact aj [_] 4772459749360512 aa f) l3 (by exact aj [_,_] 0x10f088e8e3e1e94b6e0110c91808140c6e380 aa l4 f) (by rw[jH];exact aj [_] 0x10f088e8e3e1e94b6e00840c6e380 aa f) λN5 M5 B M=>?_;have o2:=M.ml;rw[jH] at o2;refine⟨aS (m:=3) (by rw[aI];exact f) aa,p.length,?_,?_,aS f aa,λJ hJ=>?_⟩
 ·rw[aI];exact(Aa _ (by exact aj [_] 0x10f084e2e4efe010c380 aa f)).1
 ·rw[aI];exact(Aa _ (by exact aj [_] 0x10f084e2e4efe010c380 aa f)).2
 have bJ:=S.fresh hJ;rw[bJ.upd,show((cC p.length).map λ(i:ah)=>cJ (0+(i:af)*1))=cy (cC p.length) from i7 λi Y=>bA cJ ((vi _).trans (Cq _))];have h9:aE H J (.list (cy (cC p.length))) J=ac (.list (cy (cC p.length))):=bG ..;have x1:=vb (T:=W.tops) (bs:=p);have x2:∀k∈cC p.length,k<p.length:=λk hk=>kS.mp hk;refine vT ?_ (aam (d:=.list (gS p (cC p.length) r (eK W.tops p))) (bJ.at.trans h9) (aao (λb N=>(g.box b N).2.1:∀b∈p,eC b.vd) j x2 λe=>?_) (λa o e n=>?_) (.same (.lent (.same (.same .nil)))) (U2 (JE (n:=n+12) X (λb N=>by rw[x1,(g.box b N).1];exact aF (cO _) (by exact aj [_] 0x10f88ee3e010c380 aa u)) (by exact aj [_] 18668076450688 aa f) x2 (by rw[lR];exact aj [_] 4772459749360512 aa f) (by exact aj [_,_] 0x10f38112c0110c380 aa x1 u) (λns x8=>?_) ⟨aa,aa⟩)) ?_)
 ·show(LV.nO h2&&(LV.nO h5&&ao))=ao;rw[g2,g5];rfl
 ·have:=xH (rest:=r) g (by rw[lR]) Ca (x:=λY=>0) λk x9 hk=>⟨fB _,h8 x9 (dw hk)⟩
  rw[e] at this;cases this
 ·exact aan S M.good M.memo L hH a o (by rw[<-e,<-bJ.upd,aU n])
 ·refine aK (lb x8) λv hv=>?_;refine aL (n0 g hv) λY Y Y h=>h
 ·exact aac (n:=n) X (by show c.frames.map (h4::·)=_;rw[hA];rfl) g (S.upL (o:=.list (cy (cC p.length))) bJ.z) M.good M.memo wt lf I u j M.lt (by exact aj [_,_,_] 0x10f089e1e210c94b6e10240c6e38110c918080 aa M.nl f l4) (by exact aj [_,_] 0x10f089e1e110c94b6e008140c6e380 aa o2 f) (h3 D Z W p wt lf hE u) w (λx bx=>by rw[M.val x bx,g8 l5]:∀x,b6 W.tops x->bU N5 x B=gl W.tops.length p r x) h9 bJ q
theorem qR:mn (KK P) 44:=⟨⟨_,_,_,_,[.ref 31,.type "Exception",.type "BaseException",.type "object"],_,_,_,_,_,_,_,_,_,_,aa,by decide+kernel,by decide+kernel,by decide+kernel,by decide+kernel,by decide+kernel⟩,⟨_,aa,(λa=>by rw[aat,aat];exact(by kernel_rfl)),by decide+kernel,by decide+kernel,aa⟩,by rfl⟩
theorem i44:ec (KK P) (.ref 44) "__init__"=ac (ac (.ref 28)):=by rfl
theorem aav(d:cn df Bh)(r:cA A (n+1))(s:G x=ac (.exc 44 ak #[t,.none,.none,.none,.bool ax,.none]))
 (q:∀b k j,G b=ak->b≠x->(∀a o,a≠x->G a=ac o->j a=ac o)->j x=ac (.exc 44 (ac b) #[k,.none,.none,.none,.bool ax,.none])->j b=ac (.attrs [(aD "at",.int (-1)),(aD "why",.str g)])->Q .none j):
 fe A (.ref 28) [.ref x,.str g] G Q:=by
 refine zE [(aD "self",.ref x),(aD "why",.str g)] [aD "self",aD "why"] d r aa (tc d (by kernel_rfl)) aa rfl (jx λY Y=>rfl) (by decide+kernel) (by decide+kernel) (λl O w R z y=>?_) aa rfl rfl;have m:∀{v u:V},([(aD "self",v),(aD "why",u)]:Ls).lookup (aD "self")=ac v:=λ{v u}=>ni;have l2:∀{v u:V},([(aD "self",v),(aD "why",u)]:Ls).lookup (aD "why")=ac u:=λ{v u}=>rfl;refine nj (vO (hs:=by rfl) O (tn (hm:=by rfl) (he:=by rfl) (hplain:=by rfl) d (yu (hn:=by decide+kernel) (hd:=by decide+kernel) d O (w.kind _ _ (by decide+kernel) (aW aa):l.kindOf (aD "Exception")=ac .globalImplicit) PP PQ (O8 d (fF (he:=by rfl) (fQ (hd:=by decide+kernel) (hn:=by decide+kernel) O m (fF (he:=by rfl) (fQ (hd:=by decide+kernel) (hn:=by decide+kernel) O l2 (kz (Pb d qR s (aX _ _) λk=>⟨aa,?_⟩))))))))));refine nj (O6 (hs:=by rfl) d (fQ (hd:=by decide+kernel) (hn:=by decide+kernel) O l2 (fQ (hd:=by decide+kernel) (hn:=by decide+kernel) O m ⟨x,44,_,aa,bG ..,qR,(by rfl),aa,λb h c=>?_⟩)));have f:G b=ak:=by rw[aU c] at h;exact h
 refine nj (O4 (hs:=by rfl) d (yE (pL ⟨1,aa,fQ (hd:=by decide+kernel) (hn:=by decide+kernel) O m ⟨x,44,b,_,_,aa,bG ..,by rw[aU c,bG],qR,(by rfl),aX _ _,aa,vM (q b (.ref k) _ f c (λa o p e=>?_) (by rw[aU (λq=>c q.symm),bG];rfl) (bG ..))⟩⟩)));have i:a≠b:=λq=>by rw[q,f] at e;cases e
 rw[aU i,aU p,aU i,aU p];exact e
noncomputable def lw:=aD "a leaf that is no verdict"
abbrev TR:=cq->AH->Sg->AH->Prop
def FX c f vs G:=∀a,dv G a->iU c (bH G a)->p8 c 44 lw f vs (bH G a)
def FMk c vs G:=∀a,dv G a->cF c (.ref 44) vs (bH G a) λv b=>∃x,v=.ref x/\lC 44 lw b x (λvs=>vs[1]?=ac .none)/\cZ (bH G a) b
def sH f(t:TL):=λc a b G=>t c b G λws b G=>j0 ws λvs=>G=a/\FX c f vs a
def Ka(t:TL):=λc a b G=>t c b G λws b G=>j0 ws λvs=>G=a/\FMk c vs a
def sI(a:TE)(x:TR):=λc d b G=>a c b G λY b G=>x c d b G
def Cd k(x:TR):=λc b a G=>eS (.s k) a λY d=>iq d λY=>x c b a G
def kp(s:TS)(x:TR):=λc b a G=>s c a G (λa G=>x c b a G) (λY Y=>aC) (λY Y=>aC)
def xI(t:TB)(x:TR):=λc d a G=>t c a G λb a G=>vB b (x c d a G) aC
def px(st:fv)(b:Sg->AH->(Sg->AH->Prop)->Prop)(c:Sg->AH->Prop):ae V->Sg->AH->Prop
 |[],_,_=>aC
 |x::r,a,G=>st x a λa=>b a G (px st b c r)\/c a G
def ve st(b:TI)d(e:TR):=λc f a G=>b c a G λg a G=>px st (dP.b d c λY Y=>aC) (e c f) g a G
theorem Kb(F:dv G (Z++b)):cZ (bH G b) (bH G (Z++b)):=by
 induction Z with
 |nil=>exact wh
 |cons q Z c=>exact λa o p e=>(aU λn=>by have:=c F.2 a o p e;rw[n] at this;cases F.1.symm.trans this).trans (c F.2 a o p e)
section
variable{S:dM}(X:bR S)
def mS(t:TR)e:=∀a r Z b G c,jX X.c X.env (bH b a)->Re r Z a G c->t X.c b (ab r) G->EX X.c 44 lw X.env X.own e (bo (lo S.nm r)) c (cZ (bH b a))
def xJ(t:TR)d:=∀a r Z b G c,jX X.c X.env (bH b a)->Re r Z a G c->t X.c b (ab r) G->rE X.c 44 lw X.env X.own d (bo (lo S.nm r)) c (cZ (bH b a))
def pz(t:TR)st:=∀a r Z b G c,jX X.c X.env (bH b a)->Re r Z a G c->t X.c b (ab r) G->XX X.c 44 lw X.env X.own st (lo S.nm r) c (cZ (bH b a))
def sJ(t:TR)b:=∀a r Z c G d,jX X.c X.env (bH c a)->Re r Z a G d->t X.c c (ab r) G->SX X.c 44 lw X.env X.own b (lo S.nm r) d (cZ (bH c a))
end
theorem aax(h:xJ X t a):mS X t (.Tuple a k b):=λc r Z d G e fo R q=>Pj (h c r Z d G e fo R q)
theorem aay(h:xJ X t a):mS X t (.List a b):=λc r Z d G e fo R q=>Pl (h c r Z d G e fo R q)
theorem aaz(c:dE X a k)(h:mS X t v):mS X (sI a t) (.Dict [ac k] [v] d):=λe r Z f G o fo R q=>PC (ci c R q (λv g j l b w m n i q=>by have:=h e g j f l b fo m q;rw[b5 n] at this;exact this) aa)
theorem aaA{S:dM}{X:bR S}(hk:S.nm[k]?=ac (ac n))(l:bN (.Call (.Attribute (.Name n c) (aD "append") d) (e::b) [] a) X.env=(do
 let g<-bN (.Name n c) X.env
 eE d.atName
 let(f,first)<-gq [g] (ma g (aD "append") w)
 lp a f first (dY a (bM (e::b) X.env)) []))
 (m:bM (e::b) X.env=(ax,bN e X.env)::bM b X.env)(o:(dY a (bM b X.env)).any (·.1)=ax)(h:xJ X t (e::b)):mS X (Cd k t) (.Call (.Attribute (.Name n c) (aD "append") d) (e::b) [] a):=λp r Z s G u fo R q=>by have i:=p9.at X.db (dw hk);refine sO (z9 q) ?_;rintro A j B x rfl v q;refine au (iq.o q) ?_;rintro y rfl q;refine Pn X.hB (fQ X.O (oF X.nd (by rw[v];exact hk) aa) (ri tw wG R.own aa (h p _ Z s G u fo R q)) i.1 i.2) l m o
theorem aaB(h:mS X t e):pz X t (.Return (ac e) a):=λb r Z c G d fo R q=>Po (h b r Z c G d fo R q)
theorem aaC(b:gf e (ac (.Name n p)) a.line X.env=bg ax)(h:mS X t e):pz X t (.Assign [.Name n p] e a):=λc r Z d G f fo R q=>Pp (h c r Z d G f fo R q) b
theorem aaD(b:gf e ak a.line X.env=bg ax)(h:mS X t e):pz X t (.Expr e a):=λc r Z d G f fo R q=>Pq X.O (h c r Z d G f fo R q) b
theorem aaE(b:gf e (ac (.Subscript l m p)) a.line X.env=bg ax)(h:mS X t e):pz X t (.Assign [.Subscript l m p] e a):=λc r Z d G f fo R q=>PA (h c r Z d G f fo R q) b
theorem aaF(c:rF X b e)(h:sJ X t l):pz X (xI b t) (.If e l m d):=λf r Z g G p fo R q=>
 Pr (mo c R q (λv i j k a n o q=>by
  rw[<-b5 o];cases v with
  |true=>exact aF (λY=>h f i j g k a fo n q) λe=>nomatch e
  |false=>exact q.elim) aa)
theorem aaG{st:fb}{b:ae fb}(h:pz X t st):sJ X t (st::b):=λa r Z c G d fo R q=>Ps (h a r Z c G d fo R q)
theorem aaH{st:fb}{b:ae fb}(n:ik X s st)(h:sJ X t b):sJ X (kp s t) (st::b):=λg r Z o G p fo R q=>by
 refine Pt (XV.mono (n g r Z G p _ _ _ R q) (λl a k=>?_) (λl a k=>?_) λv a k=>?_)
 ·refine k _ λi c d j m q=>ER m (h g i c o d a fo j q)
 ·refine k _ λi c d j m q=>q
 ·refine k _ λc d e f q=>q
theorem aaI{S:dM}{X:bR S}{st:fv}{y:TI}{m:TS}{n:TR}{u d:Expr}{g:ae fb}{v:cT}(w:S.lv=ao)(C:∀x,gh d X.env x=bg x)(D:Ab X st u)(E:oI X y u d)(H:zT X m g)(I:sJ X n g):pz X (ve st y m n) (.For u d g [] v):=λj r Z p G c fo R h=>by
 refine Px X.hB X.O (X.ei w).1.frame X.hh fo (pZ (E j r Z G c _ R h) λU J q=>?_) C;refine q _ λz L M N Q q=>cf (λb l c=>∃r Z G,Internal.Re r Z j G c/\l=lo S.nm r/\px st (dP.b m X.c λY Y=>aC) (n X.c p) b (ab r) G) ⟨lo S.nm z,b5 Q▸fJ X.nd,z,L,M,N,aa,q⟩ ?_ ?_
 ·intro x b l c i;refine dz i ?_;rintro r Z G t rfl h;refine jf (D t h) λo A a s B q=>bi o a (q.imp (λq=>?_) λq=>ER (s.sub X.nd) (I j A Z p G c fo B q));have conv:∀l c,KS S.nm j (px st (dP.b m X.c λY Y=>aC) (n X.c p) b) l c->Wk (λl c=>∃r Z G,Internal.Re r Z j G c/\l=lo S.nm r/\px st (dP.b m X.c λY Y=>aC) (n X.c p) b (ab r) G) l c:=λl c k=>by refine k _ λr Z G t T q=>⟨_,T,r,Z,G,t,aa,q⟩
  exact pS (s.sub X.nd) (SV.mono (H j A Z G c _ _ _ B q) conv conv λY Y k=>by refine k _ λW G' e f q=>q)
 ·intro l c i;refine dz i ?_;rintro r Z G t rfl h;exact h
section
variable{S:dM}(p:qn S)(ds:bP)
abbrev mT S e:=bB {t:TR//∀X:bR S,mS X t e}
abbrev sK S st:=bB {t:TR//∀X:bR S,pz X t st}
abbrev Kc S b:=bB {t:TR//∀X:bR S,sJ X t b}
def Ce(f:∀e,mT S e)(b:ae Expr):bB {t:TR//∀X:bR S,xJ X t b}:=b.rec ak
 λe b R=>aJ (eN e) λh=>((p.E e).bind λa=>R.map λt=>⟨sI a.1 t.1,λX=>(λc r Z d G j fo R q=>Ph (ci (a.2 X) R q (λv k l m g w n o i q=>by have:=(t.2 X) c k l d m g fo n q;rw[b5 o] at this;exact this) aa) (fh h))⟩).or ((f e).map λt=>⟨t.1,λX=>(λc r Z d G j fo R q=>(λs u x y=>CW (gO (((t.2 X) c r Z d G j fo R q) s x y) λY Y p=>p) (fh h)))⟩)
def aaJ(x)(k)(a)(b):mT S (.Call (.Name x k) a [] b):=match a with
 |e::a=>aJ S.lv λf=>aJ (S.names.lookup x==ac .globalImplicit) λl=>aJ ((x==("__debug__":aN))==ax) λm=>aJ (eN e) λn=>aJ (a.all eN) λq=>(p.L (e::a)).bind λt=>match s:eW df eM x with
  |some (ac u)=>aJ (em df u) λhk=>ac ⟨sH u t.1,λX=>(λv r Z A G B fo R h=>Pm X.hB X.O (pR.k X.k (bC l)) (s) (hk) (iX (t.2 X) R h (λvs C w y g ws c D z h=>by refine aw (j0.o h z) ?_;rintro rfl h;have d:=c.e▸Kb c.f;refine aF d λo Y i=>?_;have j:=(fo.off d).lend (o:=o) X.O.kind (X.ei f).1.frame i;rw[(by rw[c.e];rfl:aE g X.env.locals (.fr o)=bH y ((X.env.locals,.fr o)::(w++v)))] at j⊢;exact h _ ⟨by rw[<-c.e];exact i,c.f⟩ j) aa) (bC m) (fh n) (j8 q b))⟩
  |_=>ak
 |[]=>ak
def aaK(f:∀e,mT S e)(x n)(g d)(a)(q):mT S (.Call (.Attribute (.Name x g) n d) a [] q):=
 aJ (d.endLine==q.line) λi=>aJ (a.all eN) λb=>aJ (fA a.length 20) λc=>aJ (n==aD "append") λh=>(eB S.nm x).bind λk=>(Ce p f a).bind λt=>match a,b,c,t with
 |e::r,b,c,t=>ac ⟨Cd k.1 t.1,λX=>by rw[bC h];exact aaA k.2 (ql b i c aa) (fh (eV.mp b).1) (j8 (eV.mp b).2 q) (t.2 X)⟩
 |[],_,_,_=>ak
def pA:ah->(e:Expr)->mT S e
 |0,_=>ak
 |n+1,e=>rR e (λg b q=>fg (C:=λg=>mT S (.Call g b [] q)) g (λx c=>aaJ p x c b q)
  λg=>uc (C:=λg=>mT S (.Call g b [] q)) g (λo m f=>fg (C:=λo=>mT S (.Call (.Attribute o m f) b [] q)) o (λx c=>aaK p (pA n) x m c f b q) λY=>ak) λY=>ak)
  λe=>j7 e (λb k q=>(Ce p (pA n) b).map λt=>⟨t.1,λX=>aax (t.2 X)⟩)
  λe=>t9 e (λb q=>(Ce p (pA n) b).map λt=>⟨t.1,λX=>aay (t.2 X)⟩)
  λe=>rS e (λd vs q=>iw (C:=λd=>mT S (.Dict d vs q)) d (λk=>match k with
   |some k=>iw (C:=λvs=>mT S (.Dict [ac k] vs q)) vs (λv=>(p.E k).bind λa=>(pA n v).map λt=>⟨sI a.1 t.1,λX=>aaz (a.2 X) (t.2 X)⟩) λY=>ak
   |none=>ak) λY=>ak) λY=>ak
def aaL(a b)(c):sK S (.Raise a b c):=match a,b with
 |some e,ak=>uQ (C:=λe=>sK S (.Raise (ac e) ak c)) e (λx B d q=>match d with
  |e::d=>aJ (S.names.lookup x==ac .globalImplicit) λj=>aJ ((x==("__debug__":aN))==ax) λk=>aJ (eN e) λl=>aJ (d.all eN) λm=>(p.L (e::d)).bind λt=>match n:eW df eM x with
   |some (ac u)=>aJ (u==.ref 44) λo=>ac ⟨Ka t.1,λX=>(λs r Z D G E fo R h=>Pw X.hB X.hh qR (vC X.hB X.O (pR.k X.k (bC j)) ((n).trans (bA (λz=>ac (ac z)) (bC o))) (by rfl) (iX (t.2 X) R h (λvs H I w g ws f J y h=>by refine aw (j0.o h y) ?_;rintro rfl h;have h:=h _ f.f;rw[<-f.e] at h;exact p0 h λv L q=>by refine aL q λx e A i=>cf x e A ((f.e▸Kb f.f:cZ (bH w s) g).trans i)) aa) (bC k) (fh l) (j8 m q)))⟩
   |_=>ak
  |[]=>ak) λY=>ak
 |_,_=>ak
def cRx(r:∀b,rW S b)(k:∀b,Kc S b)(st):=
 wN (C:=λst=>sK S st) st (λY=>ak)
 (λg e c=>iw (C:=λg=>sK S (.Assign g e c)) g (λd=>aJ (fU e) λh=>fg (C:=λd=>sK S (.Assign [d] e c)) d (λn q=>(pA p 9 e).map λt=>⟨t.1,λX=>aaC (my h) (t.2 X)⟩)
  λd=>qk (C:=λd=>sK S (.Assign [d] e c)) d (λl m q=>(pA p 9 e).map λt=>⟨t.1,λX=>aaE (my h) (t.2 X)⟩) λY=>ak) λY=>ak)
 (λY Y Y Y=>ak) (λe c=>aJ (fU e) λh=>(pA p 9 e).map λt=>⟨t.1,λX=>aaD (my h) (t.2 X)⟩) (λe c=>match e with
  |some e=>(pA p 9 e).map λt=>⟨t.1,λX=>aaB (t.2 X)⟩
  |none=>ak) (λt a b c=>(p.B t).bind λt=>(k a).map λx=>⟨xI t.1 x.1,λX=>aaF (t.2 X) (x.2 X)⟩)
 (λd o f s c=>match s with
  |[]=>aJ S.lv λj=>aJ (fU o) λh=>(AB d).bind λst=>(rX p d o).bind λi=>(r f).bind λb=>(k f).map λx=>⟨ve st.1 i.1 b.1 x.1,λX=>aaI j (oM h) (st.2 X) (i.2 X) (b.2 X) (x.2 X)⟩
  |_=>ak) (λY Y Y Y=>ak) (λY=>ak) (λa b c=>aaL p a b c)
def cR(a:ae ah):ah->(b:ae fb)->Kc S b
 |0,_=>ak
 |_+1,[]=>ak
 |n+1,st::r=>match a.contains st.pos.line with
  |true=>(cRx p (uu p ds [] n) (cR a n) st).map λt=>⟨t.1,λX=>aaG (t.2 X)⟩
  |false=>(AQ p ds (uu p ds [] n) st).bind λs=>(cR a n r).map λt=>⟨kp s.1 t.1,λX=>aaH (s.2 X) (t.2 X)⟩
end
theorem sL{c:cq}{n:ah}(r:jL)(t:TR)(a:ae aN)(m:ae (bB aN))(k:ah)(o:bP)(H:ae ah)(I:ae (aN×ah))(u:cn df Bh)(M:cA c (n+1)){b:ae V}{G:AH}
 (h:∀d,cA (c.deeper d) n->t (c.deeper d) G (b.map .v++dX k .u) G)
 (N:df.lookup r.a=ac (fo r))(Q:(m8.any λq=>eQ (r.a-1)==.ref (q.a-1)&&aD r.q==.ofString q.q)=ao)(f:a.length=b.length)(g:r.ok a m=ao)
 (j:∀v:ae aV,v.length=a.length->oo r.fn ⟨v,[]⟩=bg (a.zip v))
 (s:(cR (S:=⟨m,r.sc.names,ao,I⟩) (cM o 30) o H 60 r.body).map (·.1)=ac t):FX c (.ref r.a) b G:=λT F U=>by
 unfold jL.ok at g;simp only[fD,sU,jq] at g;refine aw g λw=>aw w λy=>aw y λz=>aw z λA=>aw A λB=>aw B λC=>aw C λD=>aw D λW h2=>?_;intro h3 h4 h5 h6 h7 h8 h9;cases e:cR (S:=⟨m,r.sc.names,ao,I⟩) (cM o 30) o H 60 r.body with
 |none=>rw[e] at s;cases s
 |some x=>
  rw[e] at s;cases s;refine Pz (a.zip b) a u U M (N.trans (bA ac (AR W))) (tc u Q) (by rw[RI (fT f.symm)]) (by rw[RJ (fT f)]) j (AS h9) h5 (λd O E R hh x1 fo=>?_) h2 h3 h4;have J:et (b.map RV.v++dX k .u)=[]:=by rw[lD,FN,wC];exact c8 _
  have l:=x.2 (bR.mk (c.deeper d) d (hX d) O E.kind u ⟨_,R⟩ h6 h7 E.bnd λY=>⟨E,aa⟩) T (b.map RV.v++dX k .u) [] G G _ fo ⟨aa,F,λp L=>(by rw[J] at L;cases L),by rw[J];exact t7⟩
   (by rw[show ab (b.map RV.v++dX k RV.u)=b.map LV.v++dX k LV.u by rw[ab,ck,eI,RK];rfl];exact h d R)
  rw[FL (r:=[]) f (λi n e=>by rw[show m=_ from h8,jv (by rw[aI];exact(dF.mp e).1),fH,e];rfl) _ (wC k) λx hx=>(RL hx)] at l;exact l
def Kd:=(xI (bX .NotIn (ag 0) (aT (ai (bf "accept") (ai (bf "drop") av)))) (Ka (ai (bf "a leaf that is no verdict") av)))
theorem aaN(X:Gd c (n+1))(h:∀c,Gd c n->Kd c G [.v a] G):FX c (.ref 194) [a] G:=sL ⟨194,20,ak,"verdict_of_leaf","siftwall.retext",434⟩ Kd ["value"] [ac "value"] 0 ax [172,173] [] X.B X.R (λE R=>h _ ⟨X.B,R⟩) (by kernel_rfl) (by kernel_rfl) aa (by kernel_rfl) (nu λY=>by kernel_rfl) (by kernel_rfl)
def Ke:=(kp (bS 2 (d6 (ag 0) "node" (ai (ag 1) av))) (xI (bX .Eq (bT (ag 2) 0) (bf "leaf")) (sH (.ref 194) (ai (bT (ag 2) 1) av))))
theorem aaO(X:Gd c (n+1))(h:∀c,Gd c n->Ke c G [.v a,.v b,.u] G):FX c (.ref 201) [a,b] G:=sL ⟨201,21,ak,"verdict_to","siftwall.retext",434⟩ Ke ["diagrams","number"] [ac "diagrams",ac "number",ac "node"] 1 ax [177,178] [] X.B X.R (λE R=>h _ ⟨X.B,R⟩) (by kernel_rfl) (by kernel_rfl) aa (by kernel_rfl) (jx λY Y=>by kernel_rfl) (by kernel_rfl)
def Kf:=(sH (.ref 201) (ai (ag 0) (ai (bT (ag 6) 1) av)))
def Kg:=(kp (wL 3 4 5 (bO (cw (ag 1) "names") (bT (ag 2) 0)) (aO 0) (eg av)) (ve (bK 6) (dk (bT (ag 2) 1)) uI Kf))
theorem aaP(X:Gd c (n+1))(h:∀c,Gd c n->Kg c G [.v a,.v b,.v d,.u,.u,.u,.u,.u,.u] G):FX c (.ref 213) [a,b,d] G:=sL ⟨213,23,ak,"node_rule","siftwall.retext",434⟩ Kg ["diagrams","space","node"] [ac "diagrams",ac "space",ac "node",ac "name",ac "low",ac "elements",ac "part",ac "verdict",ac "span"] 6 ax [186,187] [] X.B X.R (λE R=>h _ ⟨X.B,R⟩) (by kernel_rfl) (by kernel_rfl) aa (by kernel_rfl) (iS λY Y Y=>by kernel_rfl) (by kernel_rfl)
def Kh:=(kp (dR (cW (.ref 180) (ai (ag 1) av))) (sI (ag 3) (sI (bf "verdict") (sH (.ref 201) (ai (ag 0) (ai (ag 2) av))))))
theorem aaQ(X:Gd c (n+1))(h:∀c,Gd c n->Kh c G [.v a,.v b,.v d,.v e,.u,.u,.u] G):FX c (.ref 220) [a,b,d,e] G:=sL ⟨220,24,ak,"chains_of_node","siftwall.retext",434⟩ Kh ["diagrams","space","number","base"] [ac "diagrams",ac "space",ac "number",ac "base",ac "chains",ac "one",ac "name"] 3 ao [194] [] X.B X.R (λE R=>h _ ⟨X.B,R⟩) (by kernel_rfl) (by kernel_rfl) aa (by kernel_rfl) (ox λY Y Y Y=>by kernel_rfl) (by kernel_rfl)
def Ki:=(kp (bS 6 (bI .Add (bf "n") (bY qf (ai (ag 5) av)))) (kp (cE (bX .In (ag 6) (ag 4)) (az kK aH) aH) (sH (.ref 213) (ai (ag 0) (ai (ag 1) (ai (d6 (ag 0) "node" (ai (ag 5) av)) av))))))
def Kj:=(kp (dR (cW (.ref 180) (ai (ag 1) av))) (kp (eu 4 (qo (ag 3) (im (ai (aT (ai (aT (ai (bf "verdict") (ai (cW (.ref 201) (ai (ag 0) (ai (ag 2) av))) av))) av)) av)))) (ve (bK 5) (dk (cW (.ref 187) (ai (ag 0) (ai (ag 2) av)))) uJ Ki)))
theorem aaR(X:Gd c (n+1))(h:∀c,Gd c n->Kj c G [.v a,.v b,.v d,.v e,.u,.u,.u] G):FX c (.ref 220) [a,b,d,e] G:=sL ⟨220,24,ak,"chains_of_node","siftwall.retext",434⟩ Kj ["diagrams","space","number","base"] [ac "diagrams",ac "space",ac "number",ac "base",ac "chains",ac "one",ac "name"] 3 ao [195,199] [] X.B X.R (λE R=>h _ ⟨X.B,R⟩) (by kernel_rfl) (by kernel_rfl) aa (by kernel_rfl) (ox λY Y Y Y=>by kernel_rfl) (by kernel_rfl)
def Kk:=(kp (eu 7 (eg av)) (kp (dP (bK 8) (dk (bT (ag 6) 0)) Bn) (Cd 7 (sI (bf "verdict") (sH (.ref 194) (ai (bT (ag 6) 1) av))))))
def Kl:=(kp (dR (cW (.ref 180) (ai (ag 1) av))) (kp (eu 5 (eg av)) (ve (bK 6) (dk (cW (.ref 166) (ai (ag 0) (ai (ag 2) (ai (ag 4) av))))) uK Kk)))
theorem aaS(X:Gd c (n+1))(h:∀c,Gd c n->Kl c G [.v a,.v b,.v d,.v e,.v f,.u,.u,.u,.u,.u] G):FX c (.ref 234) [a,b,d,e,f] G:=sL ⟨234,26,ak,"rules_of_ways","siftwall.retext",434⟩ Kl ["diagrams","space","number","base","most"] [ac "diagrams",ac "space",ac "number",ac "base",ac "most",ac "rules",ac "way",ac "statements",ac "asked",ac "statement"] 5 ao [212,218] [] X.B X.R (λE R=>h _ ⟨X.B,R⟩) (by kernel_rfl) (by kernel_rfl) aa (by kernel_rfl) (rz λY Y Y Y Y=>by kernel_rfl) (by kernel_rfl)
theorem aaT:¬eC eJ:=by unfold eC;(intro a;refine aB a (λh=>?_) (λh=>?_)<;>clear a)<;>·injection h with h;exact bv h (by decide+kernel)
theorem Km(X:Gd c (n+3)):FX c (.ref 194) [.d eJ] G:=aaN X λc X=>by
 refine aw (Bz (a:=.str "accept") (b:=.str "drop") (bE.str (by decide+kernel)) (bE.str (by decide+kernel)) (bE.str (by decide+kernel):bE 60 eJ)) λj k=>⟨j,k,GR (λh=>aaT ((bj.mp h).imp id bZ.mp)) ⟨aa,λy F=>?_⟩⟩
 refine au ((⟨_,aa,aa⟩:∃d,(KK wd.params).lookup 28=ac d/\d.cls=.type "function")) λd l f=>Pd X.B X.R qR (aX _ _) i44 l f λx t z g m=>aav X.B g (bG ..) λq A B r s u v w=>⟨aa,x,aa,⟨q,_,_,v,w,by rfl,aX _ _,by rfl⟩,λa o p e=>?_⟩
 have i:=lJ m e;exact u a o i ((aU i).trans e)
theorem Kn(X:Gd c (n+4))(S:DB T D G)(a:N[i]?=ac (.leaf eJ))(b:N.length<=100000):FX c (.ref 201) [.ref D.x,.int (i:ah)] (dg D G N M):=aaO X λc X=>⟨_,_,oS X S,oT (n:=n+2) X S a (aS b aa) ⟨bE.str (by decide+kernel),bE.str (by decide+kernel),lG aa ⟨aa,Km (n:=n) X⟩⟩⟩
theorem aaU(X:Gd c (n+4))(S:DZ T D W Z G)(x:N.length<=100000)(i:∀y:af,y<=j->W.legal.lookup k=ak\/∃l,W.legal.lookup k=ac (.tuple l)/\y<l.length/\l.length<=1000):
 ∀(r:ae (af×ah))(a:af)(b:ae aA)(m o f:LV),-1<=a->eh a r->(∀p∈r,(p.1<=j/\p.2<N.length)/\∀v,N[p.2]?=ac (.leaf v)->eC v\/v=eJ)->b.length+(fx W k (cU N) (a+1) r).length<=100000->(∃p∈r,N[p.2]?=ac (.leaf eJ))->
 px (bK 6) (dP.b uI c λY Y=>aC) (Kf c (dg D G N M)) ((r.map dp).map V.d) [.v (.ref D.x),.v (.ref Z.x),H,.v (.str k),.v (.int (a+1)),.o (.list b),m,o,f] (dg D G N M):=by
 intro r;induction r with
 |nil=>intro a b m o f Y Y Y Y s;refine au s λp h Y=>?_;cases h
 |cons p r B=>
  intro a b m o f z t A g d;refine aw (A p aP) λC E=>?_;by_cases u:N[p.2]?=ac (.leaf eJ)
  ·exact .inr ⟨aa,Kn (n:=n) X S.toDB u x⟩
  rw[fx.q2] at g;refine .inl (Ix (n:=n+2) X S x i z t.1 C (λv h=>(E v h).resolve_right λe=>u (e▸h)) g λf=>?_);rw[b7] at g;refine B p.1 _ _ _ _ (by have:=t.1;exact ay [_,_,_] 76299581840759824 aa z this) t.2 (λp h=>A p (ba _ h)) (by rw[b7];exact aj [_,_,_] 0x10f08ae6e8e1e9291010c08ae6e8e1e99210 aa g)<|au d λq w h=>aB (bj.mp w) ?_ (λw=>?_);rintro rfl
  ·exact bv h u
  ·exact bi q w h
theorem aaV(X:Gd c (n+5))(S:DZ T D W Z G)(t:N.length<=100000)(u:W.names.length<=1000)(hk:W.names[k]?=ac o)(w:W.tops[k]?=ac e)(x:sy W)(s:eh (-1) d)(y:eZ (-1) d=e)(q:d.length<=100)
 (f:∀p∈d,p.2<N.length/\∀v,N[p.2]?=ac (.leaf v)->eC v\/v=eJ)(g:∃p∈d,N[p.2]?=ac (.leaf eJ)):FX c (.ref 213) [.ref D.x,.ref Z.x,.d (d0 (.br k d))] (dg D G N M):=aaP X λc X=>by
 have i:∀r:af,r<=e->W.legal.lookup o=ak\/∃j:ae aA,W.legal.lookup o=ac (.tuple j)/\r<j.length/\j.length<=1000:=λr h=>(x k o e hk w).imp_right λ⟨j,a,b,c⟩=>⟨j,a,ay [_,_,_] 0x11f0210c1215c91810 aa h b,c⟩
 have l:=uO s y;exact sA X S.ss ⟨_,dW pk hk (aS u aa),aaU X S t i d (-1) [] _ _ _ (fB _) s (λp m=>⟨⟨(l.2 p m).2,(f p m).1⟩,(f p m).2⟩) (by rw[jH,dZ];exact(bn (Br d 0 λp m=>i p.1 (l.2 p m).2) (kQ 1000 q):(fx W o (cU N) 0 d).length<=100000)) g⟩
def Cf(N:ae Nd)(m:ah):=∃k a,N[m]?=ac (.br k a)/\∃p∈a,N[p.2]?=ac (.leaf eJ)
theorem aaW(X:Gd c (n+6))(S:DZ W.tops D W Z G)(g:bW W.tops E N)(hE:∀k,(E k).length<=7)(A:fj W)(ha:a<N.length)(f:N.length<=90000)(hb:∀i,ff i≠b)(L:∀m,dy N a m->∀v,N[m]?=ac (.leaf v)->eC v\/v=eJ)
 (B:∃m,dy N a m/\N[m]?=ac (.leaf eJ)):FX c (.ref 220) [.ref D.x,.ref Z.x,.int (a:ah),.str b] (dg D G N M):=by
 by_cases s:N[a]?=ac (.leaf eJ)
 ·exact aaQ X λc X=>uS (n:=n+3) X S.ss A.ok ⟨aa,Kn (n:=n+1) X S.toDB s (bn f (aX _ _))⟩
 refine aaR X λc X=>uS (n:=n+3) X S.ss A.ok (BA (n:=n+3) X S.toDB ha (bn f (aX _ _)) (λv e=>(L a .here v e).resolve_right λq=>s (q▸e)) (HZ (n:=n+3) X S.toDB g ha (aS f aa) λC h1 Q=>?_));have T:=qI _ _ h1 λm J=>by refine aw ((Q m).mp J) λY t=>fz t λk U h=>eU h
 have h7:∃m∈C,Cf N m:=by
  refine au B λm h3 h4=>?_;cases h3 with
  |here=>exact bv h4 s
  |step q1 q2 q3=>exact bi _ ((Q _).mpr ⟨q1,_,_,q2⟩) ⟨_,_,q2,_,q3,h4⟩
 suffices go:∀(r d)(h5 h6),(d++r).Nodup->(∀m∈r,dy N a m/\kg N m)->(d++r).length<=90000->(∃m∈r,Cf N m)->
  px (bK 5) (dP.b uJ c λY Y=>aC) (Ki c (dg D G N M)) ((cy r).map V.d) [.v (.ref D.x),.v (.ref Z.x),.v (.int a),.v (.str b),.o (.stab ((b,kU (cU N a))::cK W N d)),h5,h6] (dg D G N M) from go C [] _ _ h1 (λm h=>(Q m).mp h) (bn T f) h7
 intro r;induction r with
 |nil=>intro d h5 h6 Y Y Y t;refine au t λY h Y=>?_;cases h
 |cons m r ih=>
  intro d h5 h6 H J hl h8;have e0:d++m::r=d++[m]++r:=by rw[cs];rfl
  have l:=λh=>(jV.mp H).2.2 m h m aP aa;refine aw (J m aP) λhr hi=>?_;by_cases u:Cf N m
  ·refine cQ u λk U j h9=>?_;have w:=eU j;refine cP (g.br j).top λx2 o x y Y=>aK (dc (xs:=W.names) (i:=k) (by rw[A.len];exact eU o)) λnm x1=>.inr ⟨tM (aj [_,_] 0x11f08ae6e8e1e111c0110c089efe5e1e0 aa w f),aS (m:=6) (pn (wa (aj [_,_] 0x11f08ae6e8e1e111c0110c089efe5e1e0 aa w f)) 1) aa,?_⟩;show vB ((((b,kU (cU N a))::cK W N d).lookup (aD "n"++aD (mg (m:af)))).isSome) _ _;rw[show(((b,kU (cU N a))::cK W N d).lookup (aD "n"++aD (mg (m:af))))=ak from Bs hb l];exact⟨_,_,oS X S.toDB,oT (n:=n+4) X S.toDB j (aS f aa) ⟨aa,aaV (n:=n) X S (bn f (aX _ _)) A.le x1 o A.leg x y (bn (Ih hE g j) (aX _ _)) (λp I=>⟨kB ((g.br j).ch p I).1 w,L _ (hr.step j I)⟩) h9⟩⟩
  ·refine .inl (Iz (n:=n+2) X S g hE A f hb l hi (by rw[b7,cG] at hl;exact aj [_,_] 0x10f089efe5e1e918010c089efe5e1e991810 aa hl) (λk U j p I v e=>(L _ (hr.step j I) v e).resolve_right λq=>u ⟨k,U,j,p,I,q▸e⟩) ?_);refine ih (d++[m]) (.v (.int m)) (.v (.str (ff m))) (e0▸H) (λm h=>J m (ba _ h)) (e0▸hl)<|au h8 λz hz h=>aB (bj.mp hz) ?_ (λhz=>?_);rintro rfl
   ·exact bv h u
   ·exact bi z hz h
theorem aaX(e:w∈f p.2):∀(d:ae (af×ah))(a:af),p∈d->∃b∈wl k f a d,b.2=w.2:=λg=>g.rec
 (λY h=>by simp at h)
 (λq r c a h=>by
 refine aB (bj.mp h) ?_ (λh=>?_);rintro rfl
 ·exact bi ((k,a,p.1)::w.1,w.2) (by rw[wl.q2];exact gg _ (bV.mpr ⟨w,e,aa⟩)) rfl
 ·refine au (c (q.1+1) h) λb i j=>bi b (by rw[wl.q2];exact iY _ i) j)
theorem aaY(g:bW T E N)(h:dy N a m):(∃w∈b9 N m,w.2=v)->∃w∈b9 N a,w.2=v:=by
 induction h with
 |here=>exact id
 |step o c d f=>intro b;refine au b λw i e=>?_;obtain⟨j,l,n⟩:=aaX (k:=_) i _ 0 d;exact f ⟨j,by rw[mJ g c];exact l,n.trans e⟩
theorem aaZ(X:Gd c (n+6))(S:DZ W.tops D W Z G)(g:bW W.tops E N)(U:∀k,(E k).length<=7)(u:fj W)(I:hF W)(J:a<N.length)(hN:N.length<=90000)(hT:W.tops.length<=900)(hm:((b9 N a).length:af)<=f)(j:(b9 N a).length<=100000)(l:sz N a<=100000)
 (hv:∀m,dy N a m->∀v,N[m]?=ac (.leaf v)->eC v\/v=eJ)(o:∃m,dy N a m/\N[m]?=ac (.leaf eJ)):FX c (.ref 234) [.ref D.x,.ref Z.x,.int (a:ah),.str p,.int f] (dg D G N M):=aaS X λc X=>by
 refine uS (n:=n+3) X S.ss u.ok (HW (n:=n+3) X S.toDB g J (aS hN aa) hm j l U ?_);have x:∃w∈b9 N a,w.2=eJ:=by refine au o λm y A=>aaY g y ⟨_,by rw[mI A];exact aP,aa⟩
 suffices go:∀(r:ae (ek×aA))(d:ae aA)(B t q s:LV),(∀w∈r,((∀e∈w.1,qK W.tops e)/\w.1.length<=900)/\(eC w.2\/w.2=eJ))->d.length+r.length<=100000->(∃w∈r,w.2=eJ)->
  px (bK 6) (dP.b uK c λY Y=>aC) (Kk c (dg D G N M)) ((r.map nP).map V.d) [.v (.ref D.x),.v (.ref Z.x),.v (.int a),.v (.str p),.v (.int f),.o (.list d),B,t,q,s] (dg D G N M) from go _ [] _ _ _ _ (λw h=>by refine bu (nS g a J w h) λy A b=>au b λm h3 h4=>aF ⟨y,aj [_,_,_] 0x10f488e3e110c092110c488e3e0 aa A hT⟩ (hv m h3 _ h4)) (by rw[jH,dZ];exact j) x
 intro r;induction r with
 |nil=>intro d B t q s Y Y b;refine au b λY h Y=>?_;cases h
 |cons w r ih=>
  intro d B t q s L C H;refine aw (L w aP) λb=>aw b λQ T=>?_;intro w3;rw[cG] at C;by_cases i:w.2=eJ
  ·refine .inr (IA (n:=n+3) X S.ss u I w.1 [] _ _ Q (by rw[jH,dZ];exact bn T (aX _ _)) λq s=>⟨aa,?_⟩);rw[i];exact Km (n:=n+2) X
  ·refine .inl (IB (n:=n+3) X S.ss u I Q T (w3.resolve_right i) (aj [_,_] 0x10f08ae6e8e1e010c08ae6e8e1e991810 aa C) λt q s=>ih _ _ _ _ _ (λw h=>L w (ba _ h)) (by rw[b7,ea];exact aj [_,_] 0x10f08ae6e8e1e91918010c08ae6e8e1e991810 aa C) ?_);refine au H λz l h=>aB (bj.mp l) ?_ (λl=>?_);rintro rfl
   ·exact bv h i
   ·exact bi z l h
theorem g44:ec (KK P) (.ref 44) "__getattribute__"=ac (ac (.builtin "BaseException.__getattribute__")):=by rfl
theorem aa1:mroIn (KK P) 44 (.type "BaseException")=ac ao:=by rfl
theorem w44:ec (KK P) (.ref 44) (aD "why")=ac ak:=by rfl
theorem Ko(n:cn df Bh)(o:oA 44 c G x)(q:Q (.str c) G):ti A (.ref x) (aD "why") G Q:=by refine jK o λp vs U t d v Y Y=>aK ((⟨_,aa⟩:∃r,ec (KK wd.params) (.ref 44) "__getattr__"=ac r)) λr w=>au ((⟨_,aa,aa⟩:∃f,zj (KK wd.params) 44=ac f/\f.hasDict=ao)) λf y z=>(λB s u S i=>by obtain rfl:u=.ref x:=i;refine cP (S.objs x _ t) λC e g h j=>aL (S.objs p _ d) λm b D E=>jK (id b) λH W ep k I J L M=>?_;have l:=E (aD "why");rw[v] at l;refine aL l λu N T a=>PD (n.kin.keeps S.keep) (⟨e,g,by unfold notCls;rw[j],by rw[h];exact k⟩:InstAt s.heap x C ((44:aZ)) (ac H)) g44 w aa1 ?_ a (PV.here S T q);unfold ES;rw[y,zo,w44];unfold UZ;rw[z,aR aa];dsimp-zeta-zetaHave only;rw[yX k b.ns,N];rfl)
theorem Kp(h:G J=ak)(k:cZ G b):cZ G (aE b J o):=λa p pp e=>(aU λq=>by rw[q,h] at e;cases e).trans (k a p pp e)
theorem DZ.offx(S:DZ T D W Z G)(k:cZ (dg D G N M) a):DZ T D W Z a/\dg D a N M=a:=by
 have b:DS T D N M a:=⟨k _ _ trivial S.toDB.gx,k _ _ trivial S.toDB.gd,k _ _ trivial S.toDB.gn,k _ _ trivial S.toDB.gb,k _ _ trivial S.toDB.gm,S.toDB.bm⟩
 have z:=S.ss (ns:=N.map d0) (bk:=gF 0 N) (M:=M);exact aF ⟨b.db,⟨k _ _ trivial z.x,k _ _ trivial z.d,k _ _ trivial z.l,k _ _ trivial z.p⟩,S.o⟩ b.eq
theorem aa3(d:cn df Bh)(wt:fj W)(lf:hF W)(C:∀k,(E k).length<=7)(hT:W.tops.length<=3):sG E D W Z:=by
 intro A n G N M r Q RA fr S g H hN hv i q;refine zE [(aD "diagrams",.ref D.x),(aD "space",.ref Z.x),(aD "number",.int (r:ah))] [aD "diagrams",aD "space",aD "number"] d RA aa (tc d (by kernel_rfl)) aa rfl (iS λY Y Y=>rfl) (by decide+kernel) (by decide+kernel) (λb O j R hh h2=>?_) aa rfl rfl;have fo:jX (A.deeper b) b (dg D G N M):=jX.of fr;have X:Gd (A.deeper b) (n+7):=⟨d,R⟩
 have m:=Bq C g r H 3 (aj [_,_] 4777618810389376 aa hT);have v:pf 3=585:=by rfl
 have bw:jR b (hX b) (aD "words"):=j.bnd _ (by decide+kernel);have km:b.kindOf (aD "Misused")=ac .globalImplicit:=j.kind _ _ (by decide+kernel) (aW aa);have kf:b.kindOf (aD "fault")=ac .local:=j.kind _ _ (by decide+kernel) (aW aa);have run:∀{f:aV}{vs:ae V}{s:AH},cZ (dg D G N M) s->(∀t,DZ W.tops D W Z t->FX (A.deeper b) f vs (dg D t N M))->cZ s s/\∀o,dJ o->s b.locals=ak->p8 (A.deeper b) 44 lw f vs (aE s b.locals (.fr o)):=λ{f vs s}o1 h=>by refine aw (S.offx o1) λS1 e1=>aF wh λo no hL=>?_;have:=h s S1;rw[e1] at this;exact this [(b.locals,.fr o)] ⟨hL,trivial⟩ ((fo.off o1).lend O.kind j.frame hL)
 refine nj (vN (hs:=by rfl) O bw (Db (kz ⟨[],.nil,eX _,λJ I=>?_⟩)));have o1:cZ (dg D G N M) (aE (dg D G N M) J (.list [])):=(λa p Y e=>(aU λq=>by rw[q,I] at e;cases e).trans e)
 let L:Ls->AH->Prop:=λl w=>d5 [(aD "words",.ref J),(aD "diagrams",.ref D.x),(aD "space",.ref Z.x),(aD "number",.int (r:ah))] l/\cZ (dg D G N M) w/\w J=ac (.list [.str lw]);refine Dt L (ET (hs:=by rfl) (hd:=by decide+kernel) (hd':=by decide+kernel) (he:=by rfl) (hplain:=by rfl) (why:=lw) d O j.frame (G0:=aE (dg D G N M) J (.list [])) (fo.off o1) qR (j.kind _ _ (by decide+kernel) (aW aa)) PK PM km EU kf ?_ λx t o2 T=>?_) ?_
 ·exact fF (he:=by rfl) (fQ (hd:=by decide+kernel) (hn:=by decide+kernel) O aa (fF (he:=by rfl) (fQ (hd:=by decide+kernel) (hn:=by decide+kernel) O aa (fF (he:=by rfl) (fQ (hd:=by decide+kernel) (hn:=by decide+kernel) O aa (fF (he:=by rfl) (vz (kz (run o1 λt U=>aaW (n:=n+1) X U g C wt H hN zH hv i)))))))))
 ·have c:=o2 J (.list []) trivial (bG ..);refine nj (vO (hs:=by rfl) O (tn (hm:=by rfl) (he:=by rfl) (hplain:=by rfl) d (fQ (hd:=by decide+kernel) (hn:=by decide+kernel) O aa (ri tw wG c aa (fF (he:=by rfl) (yA (he:=by with_unfolding_all rfl) (fQ (hd:=by decide+kernel) (hn:=by decide+kernel) O ni (Ko d T (kz (tv c (eX _) ⟨aa,?_⟩))))))))));exact vM ⟨[(aD "words",.ref J),(aD "diagrams",.ref D.x),(aD "space",.ref Z.x),(aD "number",.int (r:ah))],d5.cons aa (d5.cons aa (d5.cons aa (d5.cons aa d5.nil))),by rfl,d5.cons aa (d5.cons aa (d5.cons aa (d5.cons aa d5.nil))),Kp I (o1.trans o2),bG ..⟩
 intro l t u;refine bu u λhs o2 z=>?_;refine pS hs ?_;let h1:Ls->AH->Prop:=λl w=>d5 [(aD "words",.ref J)] l/\cZ (dg D G N M) w/\w J=ac (.list [.str lw,.str lw]);refine Dt h1 (ET (hs:=by rfl) (hd:=by decide+kernel) (hd':=by decide+kernel) (he:=by rfl) (hplain:=by rfl) (why:=lw) d O j.frame (G0:=t) (fo.off o2) qR (j.kind _ _ (by decide+kernel) (aW aa)) PN PO km EU kf ?_ λx G3 o3 T=>?_) ?_
 ·exact fF (he:=by rfl) (fQ (hd:=by decide+kernel) (hn:=by decide+kernel) O aa (fF (he:=by rfl) (fQ (hd:=by decide+kernel) (hn:=by decide+kernel) O aa (fF (he:=by rfl) (fQ (hd:=by decide+kernel) (hn:=by decide+kernel) O aa (fF (he:=by rfl) (vz (fF (he:=by rfl) (pL (kz (run o2 λt U=>aaZ (n:=n+1) X U g C wt lf H hN (aj [_] 0x10f488e3e010c380 aa hT) (bD.mpr (m.2:(b9 N r).length<=512)) (bn (m.2:(b9 N r).length<=512) (by decide)) (aj [_,_] 0x10f08ae6e8e1e110c0112c984e2e0 aa m.1 v) hv i)))))))))))
 ·have c:=o3 J (.list [.str lw]) trivial z;refine nj (vO (hs:=by rfl) O (tn (hm:=by rfl) (he:=by rfl) (hplain:=by rfl) d (fQ (hd:=by decide+kernel) (hn:=by decide+kernel) O aa (ri tw wG c aa (fF (he:=by rfl) (yA (he:=by with_unfolding_all rfl) (fQ (hd:=by decide+kernel) (hn:=by decide+kernel) O ni (Ko d T (kz (tv c (aX _ _) ⟨aa,?_⟩))))))))));exact vM ⟨[(aD "words",.ref J)],d5.cons aa d5.nil,by rfl,d5.cons aa d5.nil,Kp I (o2.trans o3),bG ..⟩
 intro l G3 u;refine bu u λhs o3 B=>?_;have hf:bE 60 (.list [.str lw,.str lw]):=by refine(bE.lst (n:=1) λy hy=>?_).le (aX _ _);simp only[bj,iV,mK,or_self] at hy;rw[hy];exact bE.str (by decide+kernel)
 refine pS hs (nj (vP (CV (hm:=by with_unfolding_all rfl) (fQ (hd:=by decide+kernel) (hn:=by decide+kernel) O ni (yv (yD (fF (he:=by rfl) (vz (kz ⟨_,.cons .nil,aX _ _,pL (NG (aX _ _) (bl _) (bl _) (LJ R B hf hf ?_))⟩)))))))));have:=q G3 o3;simpa[lw] using this
theorem tP(kx:WalkO qq loose (XL qq []) hk.says Kq.row.toRowW dd.1 dd.2 λf vs=>PySem.call f vs):Kq.Holds:=by
 refine holds_law (by kernel_rfl) λa=>?_;refine holds_open (q:=qq) (loose:=loose) (Xt:=λs=>xlAt qq [] s&&recOk [] s) (XP:=XL qq []) (Yf:=Ld hk) (Ya:=Le hk) (YP:=Hook.says hk) (N:=4910) Lc (Hook.of hk) (Hook.keeps hk)
  (λs e=>xl_of s (eV.mp e).1) XL.keeps (Option.some_get CR).symm (by kernel_rfl) (by kernel_rfl) (λs e=>recFacts_of (eV.mp e).2) (by kernel_rfl) a (by kernel_rfl) ⟨aa,aa,aa,aa,aa,by kernel_rfl⟩ ?_ kx
 w_witness2
theorem aa4:te tf:=λs L I Q E d j k l q=>by
 have d:s.heap=Bh:=d;have m:cA CS (0+15):=⟨aa,by decide+kernel,by decide+kernel⟩
 have S:St [] (λY=>ak) s.heap:=⟨λb o e=>⟨d▸e,aa,by simp⟩,λa o e=>by trivial,λb t=>by simp at t⟩
 have u:=aas (c:=CS) (n:=0) (G:=λY=>ak) ⟨j,m⟩ aa k l (λD Z W J w y z A=>aa3 j w y z A) (Q:=λv Y=>v=.bool ao) λY=>rfl;refine pM (oh (u [] s [.ref L] S (.cons (Is.raw _) .nil)) λr M p=>?_);rcases r with e|(_|_|_|v)<;>first|exact p.elim|skip
 refine p _ ?_;clear p;intro B f N x g C T i h;subst g;subst h;have H:=i;cases H;exact q B f λb o e=>(C.base b o (d▸e)).1
theorem pw:Kq.Holds:=by
 refine tP ?_;intro w k a f r G Y l o Q U s W kV t u v hD g x m n as c d h b i;have p:=Y.kin;have X:=(aa5 G).1;have V:=(aa5 G).2;refine Ground.open G ?_;intro T B D TE TW;have j:l=350:=by have y:f (aD "law")=ac (.ref 350):=mg_of p T.g (by rfl);have q:f (aD "law")=ac (.ref l):=g;rw[y] at q;exact(abW (jP q)).symm
 subst j;have z:cn (KK w.params) a.heap:=⟨p,⟨f,T.g⟩,⟨r,T.b,T.builtins⟩,T.nolimit,⟨350,o,t,by decide+kernel⟩,T.nodigits,Y.codes⟩
 wrow_args c d h b i;rename_i is A h1 h2 h3 h4 C E L ws H I ra w1 r0 J hr e ht;refine Lf aa4 (_,w,a.heap) a _ _ _ _ aa z ⟨_,I,J⟩ (bD.1 (ay [_] 0x10f88ee3e014c0f83e aa e)) λh' M d8=>GoodW.toG ⟨.inl ⟨_,_,_,aa,?_,.bool ao,?_,?_⟩,d8,aa,x⟩
 ·intro N;rfl
 ·wrow_post
 ·exact λ_=>⟨t7,aW aa⟩
end
end Mine.Internal
theorem PySem.Challenge.cw_pq1084_01_holds : PySem.Challenge.rw_pq1084_01.Holds :=
 Mine.Internal.pw
