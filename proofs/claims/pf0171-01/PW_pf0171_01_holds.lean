import PyProof.Rows.All
import OpenK.AllK
import Wide.All
import Open.Tops
import Lean
import PySem.Challenge.RW_pf0171_01
set_option maxRecDepth 100000
set_option linter.all false
set_option autoImplicit true
set_option relaxedAutoImplicit true
set_option Elab.async false
set_option genCtorIdx false
set_option tactic.hygienic false
set_option backward.match.sparseCases false
set_option genSizeOf false
set_option genSizeOfSpec false
set_option genInjectivity false
set_option bootstrap.genMatcherCode false
open And renaming imp->iL,imp_left->cP,imp_right->aH,intro->Ru,left->JI
open Array renaming any_toList->Ms,eq_empty_of_size_eq_zero->iI,forIn_toList->fZ,getD_eq_getD_getElem?->m5,getElem?_eq_getElem->g8,getElem?_eq_none->iW,getElem?_eq_some_iff->zU,getElem?_toList->bw,isEmpty_iff->LI,length_toList->aM,replicate->QL,toList_push->LH
open Bool renaming and_eq_true->dU,and_eq_true_iff->bW,and_false->VC,and_true->mo,eq_iff_iff->je,false_and->VB,false_eq_true->dI,false_ne_true->bh,noConfusion->ae,not_eq_true'->wb,or_eq_true->jd,or_eq_true_iff->fH,true_and->pd
open Eq renaming ndrec->iU,refl->de,symm->cG
open Exists renaming imp->aD
open ForInStep renaming yield->eh
open Iff renaming rfl->QK
open Int renaming fdiv->wM,fmod->n8,le_of_lt->Fx,le_trans->cO,lt_of_le_of_lt->kG,lt_of_not_ge->Rm,lt_trans->Fw,min_eq_left->zS,natCast_nonneg->kF,natCast_pos->Vx,not_le->Mq,not_lt->qH,ofNat_inj->pn,ofNat_le->gN,ofNat_lt->nN,toNat->Rk,toNat_eq_zero->QJ,toNat_le->Fv,toNat_lt->wL,toNat_natCast->ly,toNat_of_nonneg->j9
open List renaming Perm->di,all_append->qF,all_eq_true->ba,any_cons->mi,any_eq_false->Mp,any_eq_true->xd,append_assoc->aO,append_nil->bj,contains_iff_mem->gX,dropLast_eq_take->Fu,drop_append_of_le_length->xQ,drop_drop->Vw,drop_eq_getElem_cons->eF,drop_eq_nil_of_le->qt,drop_left->sN,drop_length->p7,drop_zero->jN,eq_nil_of_length_eq_zero->xO,ext_getElem->xc,ext_getElem?->fC,filterMap_cons->fG,filterMap_map->LG,filter_cons_of_neg->C8,filter_cons_of_pos->C7,find?_some->qE,findIdx?_cons->eu,findIdx?_eq_none_iff->bU,findIdx?_eq_some_iff_getElem->bA,findIdx?_isSome->sM,findIdx?_map->jx,findIdx?_toArray->Ft,flatMap_append->j7,foldl_append->jw,foldl_map->Vv,foldr_append->Mn,foldr_map->Vu,forIn_cons->cA,forIn_nil->iK,getD_eq_getElem?_getD->jM,getElem?_append_left->aL,getElem?_append_right->aA,getElem?_eq_getElem->ay,getElem?_eq_none->gW,getElem?_eq_some_iff->af,getElem?_inj->jv,getElem?_map->ai,getElem?_of_mem->il,getElem?_range'->HQ,getElem?_range->bJ,getElem?_set->wa,getElem?_set_ne->bV,getElem?_set_self->eB,getElem?_take_of_lt->dT,getElem?_toArray->Fq,getElem?_zipIdx->mA,getElem_map->l6,getElem_mem->l5,getElem_range->cq,getElem_reverse->sL,isEmpty_iff->bt,length->HP,length_append->aj,length_cons->cZ,length_drop->f9,length_eq_zero_iff->C6,length_filter_le->rH,length_map->ag,length_range'->LF,length_range->au,length_replicate->lT,length_reverse->fF,length_set->fP,length_take->cm,length_zip->Rj,length_zipIdx->u4,lookup_append->LD,lookup_cons->ck,map_append->bf,map_congr_left->iH,map_cons->cS,map_drop->uc,map_eq_nil_iff->tW,map_fst_zip->p6,map_map->jW,map_nil->nG,map_take->mh,mem_append->ct,mem_append_left->mz,mem_append_right->jt,mem_cons->aV,mem_cons_of_mem->az,mem_cons_self->ax,mem_filter->mR,mem_flatMap->xb,mem_iff_getElem?->rG,mem_map->bI,mem_of_find?_eq_some->Bj,mem_of_getElem?->aI,mem_range->cf,mem_reverse->xa,mem_singleton->aE,mem_zipIdx_iff_getElem?->jc,modify_nil->Ri,modify_succ_cons->Fp,modify_zero_cons->Fo,nil_append->eX,noConfusion->l4,nodup_append->c9,nodup_cons->eW,nodup_nil->gq,not_mem_nil->aK,of_mem_zip->Rh,pairwise_cons->fg,perm_ext_iff_of_nodup->Ao,range'->fi,range'_succ->QI,range->ak,range_succ->eV,replicate->br,replicate_succ->tV,reverse_cons->Mm,set->Vt,set_append_right->jr,size_toArray->oE,take_add_one->ij,take_append_drop->dt,take_append_of_le_length->xN,take_left->Vs,take_length->cY,take_of_length_le->dG,take_succ_cons->tU,toList_toArray->tT,zipIdx_append->kA,zipIdx_cons->QH,zipIdx_map->Rg,zipIdx_nil->Rf,zip_cons_cons->kz
open List.Pairwise renaming nil->mB
open List.Perm renaming swap->JG
open List.cons renaming inj->iT,injEq->HR
open Nat renaming add_comm->wK,add_le_add->jS,add_le_add_left->aY,add_le_add_right->gC,add_right_comm->vn,add_sub_cancel_left->EU,blt->oZ,blt_eq->Bi,eq_of_lt_succ_of_not_lt->An,eq_or_lt_of_le->Ml,eq_zero_of_le_zero->lu,exists_eq_add_of_le->ET,exists_eq_succ_of_ne_zero->mG,le_add_left->fS,le_add_right->bc,le_antisymm->dw,le_max_left->zQ,le_max_right->xM,le_of_add_le_add_left->CT,le_of_eq->eD,le_of_lt->be,le_of_lt_succ->aT,le_of_not_lt->mf,le_of_succ_le->cL,le_of_succ_le_succ->qD,le_refl->aG,le_succ->jR,le_succ_of_le->eR,le_trans->ah,lt_add_right->Rd,lt_irrefl->cp,lt_of_add_right_lt->qC,lt_of_le_of_lt->aF,lt_of_le_of_ne->i8,lt_of_lt_of_eq->Mk,lt_of_lt_of_le->a9,lt_of_succ_lt->QG,lt_of_succ_lt_succ->Fl,lt_or_ge->nM,lt_succ_of_le->eQ,lt_succ_of_lt->eP,lt_succ_self->cJ,lt_trans->qB,min_eq_left->fc,min_eq_right->qn,min_le_left->ig,min_le_right->dW,min_self->Fk,mod_lt->vm,mul_le_mul_left->gL,ne_of_gt->cN,ne_of_lt->bZ,ne_zero_of_lt->QF,noConfusion->Vq,not_le_of_lt->Rc,not_lt->vk,not_lt_of_le->me,not_lt_zero->gF,not_succ_le_self->JF,not_succ_le_zero->s8,pos_of_ne_zero->vj,sub_add_cancel->vh,sub_le->Mj,sub_le_of_le_add->JE,sub_self->bF,sub_succ_lt_self->JD,sub_zero->wJ,succ->kr,succ_add_eq_add_succ->gj,succ_le_succ->jY,succ_lt_succ->xK,succ_ne_self->Rb,succ_ne_zero->gc,succ_pos->qA,zero_add->cz,zero_le->eO,zero_lt_of_lt->QE,zero_lt_succ->xJ
open Nat.succ renaming inj->ku
open Ne renaming symm->gp
open Option renaming any_eq_true->HO,bind_eq_bind->Fj,bind_eq_some_iff->gB,bind_some->oY,isNone_iff_eq_none->bM,isSome_iff_exists->ie,isSome_none->tR,map->HN,map_eq_some_iff->bq,map_some->my,noConfusion->HM,pure_def->Mh,some_ne_none->cb
open Option.some renaming inj->aa,injEq->sy
open Prod renaming ext->Vo,fst->kf,snd->sJ
open Prod.mk renaming inj->gH,injEq->jX
open PyProof renaming noPylong_small->Bh
open PyProof.Rows renaming IntsAre->ml,IntsAre->oX,IsTup->pk,Subscript_->Fh,args_tupleiter_next->Vl,assignInOrder_cons->xH,entry_tupleiter_next->Q7,exec_Assign->Q6,iter_tuple->wH,slot_tuple_getitem->ph,slot_tupleiter_next->ox,sortedHeap->E6,tail_any->ko
open PyProof.Rows.F renaming entry_set_update_loop->HT,plain_set_update_loop->qI
open PyProof.Rows.IntsAre renaming int_at->qm,length->qG
open PyProof.Rows.LCg renaming NsObj->tX,ns_obj->mj
open PySem renaming Arguments->fh,Around->bD,Builtin->eY,Expr->ao,Fin->CS,IsPair->xR,IsZip->zR,NameKind->cF,Operator->zP,OsState->v9,Params->kE,Reads->kY,ReadsAll->nL,Sem->Al,Slot->Mf,Stmt->zO,World->cU,ZipApart->sq,argsOk->m4,assign->qz,assignEach->xI,attributeBase->JB,backTo->vg,beq_builtin_none->Bd,binaryOp->pj,builtinLookup_eq_fast->b9,builtinsNs->hU,cStatics->Fg,call_meets->xG,cellOf->Bc,checkBuiltinCall->Bb,checkTypeCall->JA,codeAmong->oW,codeAny->km,codeAny_builtin->k8,codeAny_call_builtin->Q9,codeAny_of_tree->C5,compEnvC->sm,compPost->Ff,compTurn->Fe,compareOp->eH,dictFind->Fd,dictGet->zN,dictSet->Md,entryFor->md,entryFor_alias->Fc,entryFor_of_tree->g7,evalEach->E9,evalPart_none->Jz,evalPart_some->Jy,firstArgMember->vf,foldedSetIterable->zM,getItem->qq,hashInt->iG,holding->k7,importedModules->k6,intKind->fW,intKind_is->m3,intText?->Ra,isSubtype_type->dZ,letOwnedTupleGo->iF,mainGlobals->cE,plainId_quiet->w8,pyIter->lq,pyNext->s6,rawInt->gV,recursionLimit->E8,relayAll->ve,setAttr->Vm,setItem->lZ,setWalkUnseen->w7,signature?_of->kX,sizeLine_eq->jo,slicePicked->CR,sliceRange->E7,slot_dict_contains->xF,slot_dict_getitem->zL,slot_list_getitem->qp,spliced->v7,standAt->ma,starEach->kW,storeSet->Q5,strKind->oB,swappedStores->kU,swapsWith->LB,swapsWithSole->Jw,table->zK,treeTable->lK,truthy->ql,typeLookup->mZ,typeLookup_type->dy,wpAny->av,wpAny_Constant_str->xE,wpAny_Name->E4,wpAny_Slice->Q4,wpAny_alloc->nJ,wpAny_askSetting->i6,wpAny_attempt->w6,wpAny_binaryOp_same->Vk,wpAny_bind->aJ,wpAny_call->sZ,wpAny_callSpecial?_slot->cT,wpAny_callSpecialUnlessNone?_slot->zA,wpAny_call_entry->bz,wpAny_comprehension_free->Jv,wpAny_execs_nil->C4,wpAny_field->dO,wpAny_getItem_str_slice->LA,wpAny_holding->aR,wpAny_isInstance->dh,wpAny_isTrue_BoolOp->Vj,wpAny_ite_split->tQ,wpAny_loadName_cell->Vi,wpAny_loadName_free->Vh,wpAny_loadName_local->Q3,wpAny_mono->eS,wpAny_newFunctionEnv->Q2,wpAny_newObj_type->ej,wpAny_notOrdered_dict->ub,wpAny_of_eq->nH,wpAny_onRaise->Ju,wpAny_pure->ab,wpAny_pyIter_list->zJ,wpAny_pyIter_slot->zI,wpAny_richCompare_same_room->ES,wpAny_rule->dA,wpAny_seqItems->fV,wpAny_sequenceKey->qo,wpAny_setField->pf,wpAny_setField_rec->ju,wpAny_setState_of->bH,wpAny_specialOf->iE,wpAny_standAt->dF,wpAny_truthy_bool->fU,wpAny_typeOf->l9,wpAny_updateDictKeys->Q1,wpAny_updateSeq_pair->Q0
open PySem.Around renaming under_of_weight->gI,under_plainId->jF
open PySem.Builtin.Dict renaming missed->zT
open PySem.Builtin.Frozenset renaming newClass->Rt,oneOther->Rr,sizeOf->Rq,updateFrom->Rp
open PySem.Builtin.Int renaming intBits->Ap
open PySem.Builtin.List renaming listLengthHint->ue
open PySem.Builtin.Range renaming rangeFitsLong->lz,rangeSize->dQ,small->jm
open PySem.Builtin.Slice renaming sliceAdjust->u5,slicePlaces->mn
open PySem.Builtin.SmallTypes renaming nextOf->sC
open PySem.Builtin.Str renaming strSliceIndices->c7
open PySem.Builtin.Tuple renaming tupleHashOf->ft,tupleItemsOf->ud
open PySem.Code renaming body->qc,builtin->lg,compLoop->CU,compStart->VA
open PySem.F renaming args_zip_next_1->Am,called_set->ka,entry_zip_next->Bg,plainAttrs_dict->Vz,plainAttrs_list->p9,slot_dict_get->Bk,slot_dict_setdefault->JH,slot_list_extend->Ro,slot_list_index->Vy,slot_str_getitem->Rn,slot_tuple_hash->p8,slot_zip_next->k9,sub_list_frozenset->Mr
open PySem.Heap renaming SameBut->dH,get?_push_of_some->ar,get?_push_size->bB,get?_update_other->qu,get?_update_self->du,lt_size->cg,size_push->gR
open PySem.Heap.Ns renaming of_isNs->wQ
open PySem.Heap.SameBut renaming refl->mH,update->cK
open PySem.NameKind renaming cell->sA,free->c8,noConfusion->cV
open PySem.Obj renaming cls_mapFields->wI,data_mapFields->i7,isFreed_of_fields->sz,mapDictKeys->Vp,mapFields->kq,mapSeq->Mi
open PySem.PyData renaming canLayAll0->jl,depthAll->mx,eqv->bp,int->lL,keyHash->nF,list->rF,noConfusion->iS,str->HL,strOk->dC,tuple->Vn
open PySem.SetTable renaming below->w9,bits->sx,fill->zB,fits->nT,grown->jq,laid->nS,layClean->Fi,leap->su,road->Mg,runEnd->iR,sizeAbove->dz,turns->qr
open PySem.SetTable.layClean renaming free->dp
open PySem.Str renaming ofString->lr
open PySem.Value renaming builtin->Bf,int->jb,isInt->oy,isStrOf->Be,none->nK,ref->nE,type->lS
open PySem.Value.ref renaming inj->rE
open PySem.W renaming boot_heap->v8,copiedNames->Q8,emptyDict->sk,findIn->dK,instObj->nB,lookIn->Mc,putL->Jx,specialIn->LC,tabObj->pg,topFrame->E5
open PySem.W.FB renaming owner_frozenset->kT,slot_frozenset_contains->oz
open PySem.W.Looks renaming ld->Fm,of_pure->Vr
open PySem.W.WData renaming int->sI
open PySem.W.WShape renaming hasItems->Me
open PySem.Walks renaming list->JC
open PySem.pickOrder renaming go->s7
open PySem PySem.W PySem.Calls PyProof.Rows PySem.SeqAt PySem.Builtin.Frozenset PySem.Spec
noncomputable section
namespace Internal.Mine
theorem KL{α:Type}:∀{l:List α},l.length<=1->l=[]\/∃x,l=[x]:=λ{l} h=>by
 cases l with
 |nil=>exact .inl rfl
 |cons x r=>cases r with
  |nil=>exact .inr ⟨x,rfl⟩
  |cons y r=>exact absurd (qD h)<|s8 _
theorem OD{α:Type}{l:List α}(h:l.length=1):∃x,l=[x]:=(KL<|eD h).elim (λe=>by rw[e] at h;exact absurd h.symm<|gc 0) id
theorem V1{α:Type}{l:List α}(h:l.length=2):∃x y,l=[x,y]:=by
 cases l with
 |nil=>exact absurd h.symm<|gc _
 |cons x r=>obtain⟨y,e⟩:=OD<|ku h;exact⟨x,y,by rw[e]⟩
theorem BZ{α:Type}{b x y:α}(h:b∈[x,y]):b=x\/b=y:=(aV.mp h).imp id aE.mp
theorem ajw{α:Type}{b x y z:α}(h:b∈[x,y,z]):b=x\/b=y\/b=z:=(aV.mp h).imp id BZ
section
variable{A B C D E F P:Prop}
theorem kg(r:A/\B)(k:A->B->P):P:=k r.1 r.2
theorem qe(r:A/\B/\C)(k:A->B->C->P):P:=kg r.2<|k r.1
theorem x04(r:A/\B/\C/\D)(k:A->B->C->D->P):P:=qe r.2<|k r.1
theorem x05(r:A/\B/\C/\D/\E)(k:A->B->C->D->E->P):P:=x04 r.2<|k r.1
theorem LJ(r:A)(a:B)(b:C)(c:D):A/\B/\C/\D:=⟨r,a,b,c⟩
end
section
variable{α:Type}{A B C D E F:α->Prop}{P:Prop}
theorem fT(r:∃a,A a)(k:∀a,A a->P):P:=r.elim k
theorem dS(r:∃a,A a/\B a)(k:∀a,A a->B a->P):P:=r.elim λa r=>kg r<|k a
theorem u6(r:∃a,A a/\B a/\C a)(k:∀a,A a->B a->C a->P):P:=r.elim λa r=>qe r<|k a
theorem LK(r:∃a,A a/\B a/\C a/\D a)(k:∀a,A a->B a->C a->D a->P):P:=r.elim λa r=>x04 r<|k a
theorem x15(r:∃a,A a/\B a/\C a/\D a/\E a)(k:∀a,A a->B a->C a->D a->E a->P):P:=r.elim λa r=>x05 r<|k a
theorem x16(r:∃a,A a/\B a/\C a/\D a/\E a/\F a)(k:∀a,A a->B a->C a->D a->E a->F a->P):P:=r.elim λa r=>x05 r.2<|k a r.1
theorem Aw(a:α)(r:A a)(b:B a)(c:C a):∃a,A a/\B a/\C a:=⟨a,r,b,c⟩
theorem y14(a:α)(r:A a)(b:B a)(c:C a)(d:D a):∃a,A a/\B a/\C a/\D a:=⟨a,r,b,c,d⟩
theorem y16(a:α)(r:A a)(b:B a)(c:C a)(d:D a)(e:E a)(f:F a):∃a,A a/\B a/\C a/\D a/\E a/\F a:=⟨a,r,b,c,d,e,f⟩
end
section
variable{α β:Type}{A B C D E F:α->β->Prop}{P:Prop}
theorem zC(r:∃a b,A a b)(k:∀a b,A a b->P):P:=r.elim λa r=>fT r<|k a
theorem rJ(r:∃a b,A a b/\B a b)(k:∀a b,A a b->B a b->P):P:=r.elim λa r=>dS r<|k a
theorem jG(r:∃a b,A a b/\B a b/\C a b)(k:∀a b,A a b->B a b->C a b->P):P:=r.elim λa r=>u6 r<|k a
theorem RK(r:∃a b,A a b/\B a b/\C a b/\D a b)(k:∀a b,A a b->B a b->C a b->D a b->P):P:=r.elim λa r=>LK r<|k a
theorem x25(r:∃a b,A a b/\B a b/\C a b/\D a b/\E a b)(k:∀a b,A a b->B a b->C a b->D a b->E a b->P):P:=r.elim λa r=>x15 r<|k a
theorem x26(r:∃a b,A a b/\B a b/\C a b/\D a b/\E a b/\F a b)(k:∀a b,A a b->B a b->C a b->D a b->E a b->F a b->P):P:=r.elim λa r=>x16 r<|k a
theorem y22(a:α)(b:β)(r:A a b)(c:B a b):∃a b,A a b/\B a b:=⟨a,b,r,c⟩
theorem Av(a:α)(b:β)(r:A a b)(c:B a b)(d:C a b):∃a b,A a b/\B a b/\C a b:=⟨a,b,r,c,d⟩
theorem VG(a:α)(b:β)(r:A a b)(c:B a b)(d:C a b)(e:D a b):∃a b,A a b/\B a b/\C a b/\D a b:=⟨a,b,r,c,d,e⟩
theorem y25(a:α)(b:β)(r:A a b)(c:B a b)(d:C a b)(e:D a b)(f:E a b):∃a b,A a b/\B a b/\C a b/\D a b/\E a b:=⟨a,b,r,c,d,e,f⟩
end
section
variable{α β γ:Type}{A B C D E F:α->β->γ->Prop}{P:Prop}
theorem VH(r:∃a b c,A a b c)(k:∀a b c,A a b c->P):P:=r.elim λa r=>zC r<|k a
theorem uk(r:∃a b c,A a b c/\B a b c)(k:∀a b c,A a b c->B a b c->P):P:=r.elim λa r=>rJ r<|k a
theorem qv(r:∃a b c,A a b c/\B a b c/\C a b c)(k:∀a b c,A a b c->B a b c->C a b c->P):P:=r.elim λa r=>jG r<|k a
theorem x34(r:∃a b c,A a b c/\B a b c/\C a b c/\D a b c)(k:∀a b c,A a b c->B a b c->C a b c->D a b c->P):P:=r.elim λa r=>RK r<|k a
theorem x35(r:∃a b c,A a b c/\B a b c/\C a b c/\D a b c/\E a b c)(k:∀a b c,A a b c->B a b c->C a b c->D a b c->E a b c->P):P:=r.elim λa r=>x25 r<|k a
theorem x36(r:∃a b c,A a b c/\B a b c/\C a b c/\D a b c/\E a b c/\F a b c)(k:∀a b c,A a b c->B a b c->C a b c->D a b c->E a b c->F a b c->P):P:=r.elim λa r=>x26 r<|k a
theorem y31(a:α)(b:β)(c:γ)(r:A a b c):∃a b c,A a b c:=⟨a,b,c,r⟩
theorem QM(a:α)(b:β)(c:γ)(r:A a b c)(d:B a b c):∃a b c,A a b c/\B a b c:=⟨a,b,c,r,d⟩
theorem Z2(a:α)(b:β)(c:γ)(r:A a b c)(d:B a b c)(e:C a b c):∃a b c,A a b c/\B a b c/\C a b c:=⟨a,b,c,r,d,e⟩
theorem y35(a:α)(b:β)(c:γ)(r:A a b c)(d:B a b c)(e:C a b c)(f:D a b c)(g:E a b c):∃a b c,A a b c/\B a b c/\C a b c/\D a b c/\E a b c:=⟨a,b,c,r,d,e,f,g⟩
end
section
variable{α β γ δ:Type}{A B C D E F:α->β->γ->δ->Prop}{P:Prop}
theorem x41(r:∃a b c d,A a b c d)(k:∀a b c d,A a b c d->P):P:=r.elim λa r=>VH r<|k a
theorem x42(r:∃a b c d,A a b c d/\B a b c d)(k:∀a b c d,A a b c d->B a b c d->P):P:=r.elim λa r=>uk r<|k a
theorem RJ(r:∃a b c d,A a b c d/\B a b c d/\C a b c d)(k:∀a b c d,A a b c d->B a b c d->C a b c d->P):P:=r.elim λa r=>qv r<|k a
theorem x44(r:∃a b c d,A a b c d/\B a b c d/\C a b c d/\D a b c d)(k:∀a b c d,A a b c d->B a b c d->C a b c d->D a b c d->P):P:=r.elim λa r=>x34 r<|k a
theorem x45(r:∃a b c d,A a b c d/\B a b c d/\C a b c d/\D a b c d/\E a b c d)(k:∀a b c d,A a b c d->B a b c d->C a b c d->D a b c d->E a b c d->P):P:=r.elim λa r=>x35 r<|k a
theorem x46(r:∃a b c d,A a b c d/\B a b c d/\C a b c d/\D a b c d/\E a b c d/\F a b c d)(k:∀a b c d,A a b c d->B a b c d->C a b c d->D a b c d->E a b c d->F a b c d->P):P:=r.elim λa r=>x36 r<|k a
theorem y41(a:α)(b:β)(c:γ)(d:δ)(r:A a b c d):∃a b c d,A a b c d:=⟨a,b,c,d,r⟩
theorem y42(a:α)(b:β)(c:γ)(d:δ)(r:A a b c d)(e:B a b c d):∃a b c d,A a b c d/\B a b c d:=⟨a,b,c,d,r,e⟩
theorem y43(a:α)(b:β)(c:γ)(d:δ)(r:A a b c d)(e:B a b c d)(f:C a b c d):∃a b c d,A a b c d/\B a b c d/\C a b c d:=⟨a,b,c,d,r,e,f⟩
theorem y44(a:α)(b:β)(c:γ)(d:δ)(r:A a b c d)(e:B a b c d)(f:C a b c d)(g:D a b c d):∃a b c d,A a b c d/\B a b c d/\C a b c d/\D a b c d:=⟨a,b,c,d,r,e,f,g⟩
theorem y45(a:α)(b:β)(c:γ)(d:δ)(r:A a b c d)(e:B a b c d)(f:C a b c d)(g:D a b c d)(h:E a b c d):∃a b c d,A a b c d/\B a b c d/\C a b c d/\D a b c d/\E a b c d:=⟨a,b,c,d,r,e,f,g,h⟩
end
section
variable{α β γ δ ε ζ:Type}{A B C D E F:α->β->γ->δ->ε->ζ->Prop}{P:Prop}
theorem x61(r:∃a b c d e f,A a b c d e f)(k:∀a b c d e f,A a b c d e f->P):P:=r.elim λa r=>r.elim λb r=>x41 r<|k a b
theorem y61(a:α)(b:β)(c:γ)(d:δ)(e:ε)(f:ζ)(r:A a b c d e f):∃a b c d e f,A a b c d e f:=⟨a,b,c,d,e,f,r⟩
end
section
variable{α:Type}{M:Model}{A:bD}{Q:α->Shared->Prop}{E:Value->Shared->Prop}{s:Shared}{a b:Al α}
theorem vp(h:av M A b Q E s):av M A (if(false=true) then a else b) Q E s:=h
theorem MJ{_:Decidable c}(H:c)(h:av M A a Q E s):av M A (if c then a else b) Q E s:=by rw[if_pos H];exact h
theorem u7{_:Decidable c}(H:¬c)(h:av M A b Q E s):av M A (if c then a else b) Q E s:=by rw[if_neg H];exact h
theorem Z3{_:Decidable c}(H:c->av M A a Q E s)(d:¬c->av M A b Q E s):av M A (if c then a else b) Q E s:=by
 by_cases h:c
 ·exact MJ h<|H h
 ·exact u7 h<|d h
theorem MI(h:av M A a Q E s):av M A (if(true=true) then a else b) Q E s:=h
end
def Aft{α c:Type}(M:Model)(A:bD)(k:α->Al c)(Q:c->Shared->Prop)(E:Value->Shared->Prop)(a:α)(s:Shared):Prop:=av M A (k a) Q E s
theorem aX{α c:Type}{M:Model}{A:bD}{m:Al α}{k:α->Al c}{Q:c->Shared->Prop}{E:Value->Shared->Prop}{s:Shared}(h:av M A m (Aft M A k Q E) E s):av M A (m>>=k) Q E s:=aJ h
theorem Z9:((n0+(n1+1))=((n0+1)+n1)):=cG<|gj n0 n1
theorem Z8{n0:Nat}{n1:Nat}{n:Nat}(h:(n<=n1))(H:(n0=n)):(n0<=n1):=cG H▸h
theorem ar2:(((n0+1)+n1)=(n0+(n1+1))):=gj n0 n1
theorem ar3(h:(n0<=1000)):(n0<=4000):=ah h<|of_decide_eq_true<|id<|de true
theorem ar4(h:(n0<=n1)):(n0<(n1+1)):=eQ h
theorem ar5(h:(n0<n1))(H:(¬((n0+1)=n1))):((n0+1)<n1):=i8 h H
theorem ar7{n0:Nat}{n1:Nat}(h:(¬(n1<=n0))):(n0<=n1):=Nat.le_of_not_ge h
theorem ar8{n0:Nat}{n1:Nat}(h:(¬(n1<n0))):(n0<=n1):=mf h
theorem ar9(h:(n0<=32)):(n0<=40):=ah h<|of_decide_eq_true<|id<|de true
theorem ZN(h:((n0+1)=n1)):(¬((n0+1)<n1)):=h▸me (cJ n0)
theorem afe(h:((n0+1)<(n1+1))):(n0<n1):=aT h
theorem ZM(H:(0<n0))(h:(n0<=40)):(n0<=4000):=ah h<|of_decide_eq_true<|id<|de true
theorem ZL(h:(n0<=40)):(n0<=4000):=ah h<|of_decide_eq_true<|id<|de true
theorem ZI(h:(n0<n1)):(n0<(n1+1)):=eR h
theorem ZH(h:(n0<=100)):(n0<=4000):=ah h<|of_decide_eq_true<|id<|de true
theorem ZG:(((n0+1)-n0)=1):=Nat.add_sub_self_left n0 1
theorem aeP{n0:Nat}{n1:Nat}{n:Nat}(h:(n=n1))(H:(n0<n)):(n0<n1):=h▸H
theorem ZE(h:(n0<=4000)):(n0<=16777216):=ah h<|of_decide_eq_true<|id<|de true
theorem ZD(h:((n1+4)<n0)):((n0<(n1+4))\/((n1+4)<n0)):=Or.inr h
theorem aeo:(0<(n0+2)):=be<|fS (kr 0).succ n0
theorem aem:(1<(n0+2)):=aT<|fS (kr 1).succ n0
theorem aeh(h:((n1+1)=n))(H:(n0<n)):(n0<=n1):=iU (motive:=λ{n}=>n0<n->n0<=n1) aT h H
theorem aee:(¬((n0+1)<=n0)):=me<|aG n0
theorem aeb(h:((n0+(n+1))=n1)):(n0<n1):=h▸eQ (bc n0 n)
theorem ad4{n0:Nat}{n1:Nat}(h:(n0<n1)):(n0<=n1):=be h
theorem adX:((0+n0)=n0):=cz n0
theorem adT(H:(0<n0))(h:(n0<=40)):(n0<1000):=aF h<|of_decide_eq_true<|id<|de true
theorem adQ:(1≠0):=of_decide_eq_true<|id<|de true
theorem adG{n0:Nat}{n1:Nat}(h:(n1<n0)):(n0≠n1):=cN h
theorem adv(h:(¬(n0<n1)))(H:(n0<(n1+1))):(n0=n1):=An H h
theorem adt(h:(n0<=100)):((n0+1)<=4000):=aF h<|of_decide_eq_true<|id<|de true
theorem ads{n0:Nat}{n1:Nat}(h:(n1<n0)):(¬(n0=n1)):=cN h
theorem adq:(n0<(n0+(n1+1))):=eQ<|bc n0 n1
theorem adm(h:(0<n0)):(0<((n0:Nat):Int)):=Vx.mpr h
theorem adl(h:(n0<2)):(n0<=4000):=ah (be h)<|of_decide_eq_true<|id<|de true
theorem adk(h:(n0<=63)):(n0<=4000):=ah h<|of_decide_eq_true<|id<|de true
theorem adi(H:(n<(n1+1)))(h:(n0=(n1-n))):(n0<=n1):=cG h▸Mj n1 n
theorem adh(h:(n1<=1)):(p0->(n1<=1)):=λa=>h
theorem adf:((n0-0)=(n0-0)):=de<|n0-0
theorem ade{n0:Nat}{n1:Nat}{n:Nat}(h:(n1=n))(H:(n0<n)):(n0<n1):=cG h▸H
theorem ah8(h:(n0<64)):(n0<=16777216):=ah (be h)<|of_decide_eq_true<|id<|de true
theorem ada(h:((n0+65)<n1)):((n0+64)<n1):=be h
theorem ac7(h:(n0<=1)):(n0<64):=aF h<|of_decide_eq_true<|id<|de true
theorem ah7(h:((n0+1)<=(n1+1))):(n0<=n1):=aT h
theorem Qu{n:Int}(h:n.natAbs<=m): -(m:Int)<=n/\n<=m:=⟨Int.neg_le_of_neg_le<|cO (Int.natAbs_neg n▸Int.le_natAbs)<|gN.mpr h,cO Int.le_natAbs<|gN.mpr h⟩
theorem ac5{n0:Nat}{n1:Nat}{n:Nat}(H:(n0<=(n+n1)))(a:(n1<=n0)):(((n0-n1)+((n+n1)-n0))=n):=by obtain⟨k,rfl⟩:=ET a;have h:=CT<|wK n n1▸H;rw[EU,wK n n1,Nat.add_sub_add_left];exact Nat.add_sub_cancel' h
theorem ac3(h:(n0<=0)):(n0=0):=lu h
theorem ac2(h:(0<=i))(H:(i<32)):((Rk i)<32):=(wL h).mpr H
theorem ah2(h:((n1+1)=n))(H:(n0<n)):(n0<=(n1+1)):=iU (motive:=λ{n}=>n0<n->n0<=n1+1) be h H
theorem ahP(H:(1=n0))(h:(1<n0)):False:=iU (motive:=λ{n0}=>1<n0->False) (λh=>cp 1 h) H h
theorem afg{n0:Nat}{n1:Nat}{n:Nat}(H:(n0=n1))(h:(n0<n))(a:(n1=n)):False:=iU (motive:=λ{n0}=>n0<n->False) (λh=>iU (motive:=λ{n1}=>n1<n->False) (λh=>cp n h) (cG a) h) (cG H) h
theorem aff{n0:Nat}{n1:Nat}(h:(n0<n1))(H:(n0=n1)):False:=iU (motive:=λ{n0}=>n0<n1->False) (λh=>cp n1 h) (cG H) h
theorem afc(h:(n0<64)):(n0<=4000):=ah (be h)<|of_decide_eq_true<|id<|de true
theorem ae3(h:(n1=(4+(2*n))))(H:(n0=n1)):(n0<=(n1+1)):=cG H▸cG h▸be (cJ<|4+2*n)
theorem ae0(h:((n0+1)<=n1))(H:(n0=n1)):False:=iU (motive:=λ{n0}=>n0+1<=n1->False) (λh=>cp n1 h) (cG H) h
theorem aeU(h:(n1=(n+1)))(H:(n=(4+(2*n0)))):((4+(2*n0))<=n1):=cG h▸cG H▸be (cJ<|4+2*n0)
theorem aeT(a:(n1<=30))(h:(n0=(n+1)))(H:(n=(4+(2*n1))))(b:(N=(n1+1))):(3<n0):=cG h▸cG H▸eR (bc (kr 3)<|2*n1)
theorem aeR(h:(n0<=30)):((n0+1)<=1000):=aF h<|of_decide_eq_true<|id<|de true
theorem aeO(H:(0<n0))(h:(n0<=8)):((Int.natAbs ((n0:Nat):Int))<1073741824):=aF h<|of_decide_eq_true<|id<|de true
theorem aeN(h:(n0<8)):(n0<=4000):=ah (be h)<|of_decide_eq_true<|id<|de true
theorem aeA(h:(n0=(n1+1))):(0<n0):=cG h▸aT (fS (kr 0).succ n1)
theorem aey(H:(n0=n1))(h:((n0+1)<=n1)):False:=iU (motive:=λ{n0}=>n0+1<=n1->False) (λh=>cp n1 h) (cG H) h
theorem aeu(H:(n=n0))(h:(n0=0)):(n0<=n1):=iU (motive:=λ{n0}=>n0=0->n0<=n1) (λh=>cG h▸aT (xJ n1)) H h
theorem aes(h:(n0=n1))(H:(n1=1)):(n0<=1):=cG h▸cG H▸aT (cJ 1)
theorem aer(h:(n0=n1))(H:(n1=1)):(0<n0):=cG h▸cG H▸aT (cJ<|kr 0)
theorem aef(h:(n0<=67)):((n0+1)<=(16777216+1)):=aF h<|of_decide_eq_true<|id<|de true
theorem aec(h:(n0<64))(H:(n1=n0))(a:(n=n0)):(n0<=16777216):=ah (be h)<|of_decide_eq_true<|id<|de true
theorem ad2{n0:Nat}{n1:Nat}{N:Nat}{n:Nat}{c:Nat}(h:(N<=n))(H:(n0=N))(a:(n=n1))(b:(c=n)):(n0<=n1):=cG H▸a▸iU (motive:=λ{n}=>N<=n->N<=n) (λh=>h) b h
theorem ad1{n0:Nat}{n1:Nat}{b:Nat}{n:Nat}{N:Nat}{a:Nat}{f:Nat}(h:(n<=(N+a)))(H:(n1=N))(c:(b=a))(d:(n=n0))(e:(f=n)):(n0<=(n1+b)):=d▸cG H▸cG c▸iU (motive:=λ{n}=>n<=N+a->n<=N+a) (λh=>h) e h
theorem ad0{n0:Nat}{n1:Nat}{N:Nat}{n:Nat}{c:Nat}(H:(n0=N))(a:(n=n1))(b:(c=n))(h:(N<=n)):(n0<=n1):=cG H▸a▸iU (motive:=λ{n}=>N<=n->N<=n) (λh=>h) b h
theorem adZ{n0:Nat}{n1:Nat}{n:Nat}{N:Nat}(H:(n=N))(a:(n0=n))(h:(n<=n1)):(n0<=n1):=cG a▸iU (motive:=λ{n}=>n<=n1->n<=n1) (λh=>h) (cG H) h
theorem adY{n0:Nat}{n1:Nat}{N:Nat}{n:Nat}(H:(n1=N))(h:(n=n1))(a:(n0<n)):(n0<n1):=iU (motive:=λ{n1}=>n=n1->n0<n1) (λh=>h▸a) (cG H) h
theorem adK(h:(n=(n1+1)))(H:(n0<n)):(n0<=n1):=iU (motive:=λ{n}=>n0<n->n0<=n1) aT (cG h) H
theorem adI(h:(n0<=63)):(n0<64):=aF h<|of_decide_eq_true<|id<|de true
theorem adE(h:(n0<=32)):(n0<4096):=aF h<|of_decide_eq_true<|id<|de true
theorem ZJ(h:(n0<(n1+1)))(H:(¬(n0=n1))):(n0<n1):=i8 (aT h) H
theorem ZC(h:((n1+4)<n0)):((n0<(n1+3))\/((n1+3)<n0)):=.inr<|QG h
theorem ZA(h:((n1+4)<n0)):((n0<n1)\/(n1<n0)):=.inr<|aF (bc n1 4) h
theorem Zz(h:((n1+4)<n0)):((n0<(n1+1))\/((n1+1)<n0)):=.inr<|aF (aY (by decide) n1) h
theorem Zy(h:((n+4)<n1))(H:(n0<n)):((n0<n1)\/(n1<n0)):=.inl<|qB H<|aF (bc _ 4) h
theorem aev(h:(n1<=1000)):((min n0 n1)<=4000):=ah (dW _ _)<|ah h<|by decide
theorem ael(H:(n0≠(n1+1)))(a:(¬(n0<=n1))):(¬(n0<=(n1+1))):=λh=>a<|aT<|i8 h H
theorem ah9(h:((n0+(n1+1))=n)):(((n0+1)+n1)=n):=(gj n0 n1).trans h
theorem adL(h:(4<=n0)):(1≠n0):=bZ<|a9 (by decide) h
theorem adA(H:(n1<=1000))(h:(n0<=1000)):((min n0 n1)<=4000):=ah (ig _ _)<|ah h<|by decide
theorem adu(h:(n0<n1))(H:(¬((n0+1)<n1))):((n0+1)=n1):=dw h<|mf H
theorem adp(h:(n0<((n1+1)+n))):(n0<(n1+(n+1))):=a9 h<|eD<|gj n1 n
theorem ado(h:(n1<=30))(H:((n0+n)<=n1)):(n0<=100):=ah (ah (bc _ _) H)<|ah h<|by decide
theorem adn(h:(n1<=30))(H:((n+n0)<=n1)):(n0<=100):=ah (ah (fS _ _) H)<|ah h<|by decide
theorem adj(h:(n1<=40))(H:((n0+1)<n1)):((n0+1)<=4000):=ah (be H)<|ah h<|by decide
theorem adg(h:((n1+n)=0))(H:((n1=n0)/\p)):(n0=0):=H.1.symm.trans (Nat.eq_zero_of_add_eq_zero h).1
theorem adb(h:((n0+65)<n1)):(((n0+1)+8)<n1):=aF (aY (show 9<=65 by decide) n0) h
theorem ac9{n0:Nat}{n1:Nat}{n:Nat}{N:Nat}{a:Nat}(h:((min n1 n)<=a))(H:((n0+a)<N)):((n0+(min n1 n))<N):=aF (aY h n0) H
theorem ac8(h:(((n0+1)+a)<N))(H:(n<=a)):(((n0+1)+(min n1 n))<N):=aF (aY (ah (dW _ _) H) _) h
theorem ac6(h:((n0+64)<n))(H:(n1<=8)):(((n0+(4*n1))+4)<n):=aF (gC (aY (gL 4 H) n0) 4)<|aF (aY (show 36<=64 by decide) n0) h
theorem ac4{n0:Nat}{n1:Nat}{n:Nat}(h:(n0<(min n1 n))):(n0<n1):=a9 h<|ig _ _
theorem ah6(h:(n<=n1))(H:(n0=(n+N)))(a:(N<=1)):(n0<=(n1+1)):=H▸jS h a
theorem ah5(h:(n0<=3)):((n0+2)<=4000):=ah (gC h 2) (by decide)
theorem ah4(h:((n0=0)\/((n0=1)\/(n0=2)))):((n0+2)<=4):=by rcases h with rfl|rfl|rfl<;>decide
theorem ah3(h:((n0=0)\/((n0=1)\/(n0=2)))):(n0<=4):=by rcases h with rfl|rfl|rfl<;>decide
theorem ah1(H:(n0≠0)):(¬(n0<=0)):=λh=>H<|lu h
theorem ah0(h:(n0<n1))(H:(n1<=40)):((n0+1)<=4000):=ah h<|ah H<|by decide
theorem ahZ(h:(n0<n))(H:(n1<=1000))(a:(n<=40)):((n0<=4000)/\((n1+1)<=4000)):=⟨ah (be h)<|ah a<|by decide,ah (jY H)<|by decide⟩
theorem ahY(h:(n0<n))(H:((n+1)<=n1)):(n0<=n1):=be<|qB h H
theorem ahX{n0:Nat}{n1:Nat}(h:(n0<=n1))(H:(¬(n0<n1))):(n0=n1):=dw h<|mf H
theorem ahW(h:(n1<=(N+1)))(H:((n0+(N+1))<=n)):((n0+n1)<=n):=ah (aY h n0) H
theorem ahU(h:(n1<=1000))(H:(n0<=n1)):(n0<=4000):=ah H<|ah h<|by decide
theorem ahT(h:(n0<(n1+1))):((min n0<|n1+1)=n0):=fc<|be h
theorem ahS(h:(n1<=40))(H:(n0<n1)):(n0<=4000):=ah (be H)<|ah h<|by decide
theorem ahR(h:(4<=n0)):(n0≠1):=cN<|a9 (by decide) h
theorem ahQ(h:(4<=n0)):(n0≠2):=cN<|a9 (by decide) h
theorem afh(h:(3<n0)):(n0≠1):=cN<|qB (by decide) h
theorem afd(h:(n0=0))(H:(4<=n0)):False:=absurd (h▸H) (by decide)
theorem afb{n0:Nat}{n1:Nat}{n:Nat}(h:(n<=n1))(H:(n0<n)):(n0<=n1):=be<|a9 H h
theorem afa{n0:Nat}{n1:Nat}{n:Nat}:((min n0<|n1-n)<=n1):=ah (dW _ _)<|Mj _ _
theorem ae9(h:((n0+n)<=n1)):(((n0+1)+0)<=(n1+1)):=jY<|ah (bc _ _) h
theorem ae8(h:((n+n0)<=n1)):(n0<=(n1+1)):=eR<|ah (fS _ _) h
theorem ae7(h:(n1<=30))(H:((n0+n)<=n1)):((n0+1)<=40):=ah (jY<|ah (ah (bc _ _) H) h) (by decide)
theorem ae6(h:(n1<=30))(H:(n0<=n1)):(n0<=1000):=ah H<|ah h<|by decide
theorem ae5(h:(n1<=30))(H:((n+n0)<=n1)):(n0<=1000):=ah (ah (fS _ _) H)<|ah h<|by decide
theorem ae4{p0:Prop}(a:(n1=(n+1)))(h:(N<n))(H:((N+1)=(n+1))):p0:=absurd (ku H)<|bZ h
theorem ae2(h:(n0=(4+(2*n1)))):(2≠n0):=bZ<|h▸a9 (by decide) (bc 4 _)
theorem ae1(h:(n0=(4+(2*n1)))):(2≠(n0+1)):=bZ<|eP<|h▸a9 (by decide) (bc 4 _)
theorem aeZ{n0:Nat}{n1:Nat}{n:Nat}{N:Nat}(h:((n0+n1)<=(min N n))):((n0+n1)<=n):=ah h<|dW _ _
theorem aeY:((0+(1*n0))=n0):=(cz _).trans<|Nat.one_mul _
theorem aeJ:((0+(1*(n0+1)))=(n0+1)):=(cz _).trans<|Nat.one_mul _
theorem aeX(H:(n0<2)):((n0=0)\/(n0=(0+1))):=(nM n0 1).elim (λh=>.inl<|Nat.lt_one_iff.mp h) λh=>.inr<|dw (aT H) h
theorem aeW(H:(n=(n1+1)))(h:(n0<(0+(n1+1)))):(n0<(n1+1)):=a9 h<|eD<|cz _
theorem aeV(h:(n0<=30))(H:(n1=(n0+1))):(((n0+1)+5)<44):=aF (gC h 6) (by decide)
theorem aeS(h:(n1<=30))(H:((n0+n)<=n1)):(n0<=30):=ah (ah (bc _ _) H) h
theorem aeQ(h:(n0<=30)):((n0+1)<64):=aF (jY h) (by decide)
theorem aeM(h:(n1<8))(H:(n0<=(1+(2+n1)))):(n0<=10):=ah H<|aY (aY (aT h) 2) 1
theorem aeL(h:(n0<8)):((2+n0)<=4000):=ah (aY (be h) 2) (by decide)
theorem aeK(h:(n<=1000))(H:(n0<=n))(a:(n1<=n)):((n0+n1)<=4000):=ah (jS H a)<|ah (jS h h)<|by decide
theorem aeI(a:(0<n1))(h:(n1<=40))(H:((n0+1)<n1)):((n0+1)<=4000):=ah (be H)<|ah h<|by decide
theorem aeH(H:(0<n0))(h:(n0<=40)):((n0+1)<49):=aF (jY h) (by decide)
theorem aeG(h:((n1+n0)<=n1)):(n0=0):=lu<|CT h
theorem aeF(a:(0<n1))(h:(n1<=40))(H:((n0+1)<=n1)):(n0<=4000):=ah (cL H)<|ah h<|by decide
theorem aeE(a:(0<n1))(h:(n1<=40))(H:((n0+1)<=n1)):((n0+1)<=4000):=ah H<|ah h<|by decide
theorem aeD(h:(n0<=64)):(¬(n0>16777216)):=me<|ah h<|by decide
theorem aeC(h:((n+n1)<=31))(H:(n0=n)):(((n0+n1)*2)<=63):=H▸ah (Nat.mul_le_mul_right 2 h) (by decide)
theorem aeB(h:(n1=n0)):(n0<=((n1+n)*2)):=h▸ah (bc _ _) (Nat.le_mul_of_pos_right _<|by decide)
theorem aez(h:(n1<=12))(H:(n0<=12)):((n0+n1)<=31):=ah (jS H h) (by decide)
theorem aex{i:Int}{I:Int}(h:(i<I))(H:(I<i)):(i=I):=absurd (Fw h H)<|Int.lt_irrefl _
theorem aew(h:((n1-n0)=0))(H:(n0<=n1)):(n0=n1):=dw H<|Nat.le_of_sub_eq_zero h
theorem aet(h:(n0<=1))(a:(n1=n0))(H:(¬(n0=0))):(n0=1):=dw h<|vj H
theorem aeq(h:(n0<=1))(H:(¬(n0=0))):(n0=1):=dw h<|vj H
theorem aep(h:(n1<=1))(H:(n0<n1)):(n0<=1):=be<|a9 H h
theorem aen(h:(n1<=1))(H:(n0<n1)):(n0=0):=Nat.lt_one_iff.mp<|a9 H h
theorem aiQ(h:((-4000)<=i))(H:(i<=4000)):((-(2^63))<=i):=cO (by decide) h
theorem aiP(H:((-4000)<=i))(h:(i<=4000)):(i<(2^63)):=kG h (by decide)
theorem aek(h:((n0+65)<n1)):((n0+8)<n1):=aF (aY (show 8<=65 by decide) n0) h
theorem aej(h:(((n0+(100*n))+100)<n1)):((n0+65)<n1):=aF (jS (bc n0<|100*n) (show 65<=100 by decide)) h
theorem aeg{n0:Nat}{n1:Nat}{n:Nat}:((min (n0-n1)<|n-n1)<=n):=ah (dW _ _)<|Mj _ _
theorem aed(h:(n1<64))(H:(n0=n1)):(n0<=16777216):=H▸ah (be h) (by decide)
theorem aea(h:(((n0+(4*n))+4)<n1)):(n0<n1):=aF (ah (bc n0<|4*n)<|bc _ 4) h
theorem aiO(h:(((n0+(4*(max n1 N)))+4)<n))(H:(n1<=(max n1 N))):(((n0+(4*n1))+4)<n):=aF (gC (aY (gL 4 H) n0) 4) h
theorem aiN(h:(((n0+(4*(max N n1)))+4)<n))(H:(n1<=(max N n1))):(((n0+(4*n1))+4)<n):=aF (gC (aY (gL 4 H) n0) 4) h
theorem ad9(h:((n0+64)<N))(H:(n1<=8))(a:((min n1 n)<=n1)):((n0+(min n1 n))<N):=aF (aY (ah a<|ah H<|by decide) n0) h
theorem ad8(h:(n0<=n1)):((0+n0)<=n1):=ah (eD<|cz _) h
theorem ad7(h:(n0<(0+n1))):(n0<n1):=a9 h<|eD<|cz _
theorem ad6(h:(((n0+(8*(n1+1)))+8)<n)):(((n0+(8*n1))+10)<n):=aF (aY (show 10<=16 by decide)<|n0+8*n1) h
theorem ad5(h:(((n0+(100*(n1+1)))+100)<n)):(((n0+(100*n1))+110)<n):=aF (aY (show 110<=200 by decide)<|n0+100*n1) h
theorem ad3(h:(((n0+(8*n))+10)<n1)):(n0<n1):=aF (ah (bc n0<|8*n)<|bc _ 10) h
theorem adV{i:Int}(h:(i<=1000)):(i<=1000000):=cO h (by decide)
theorem adU(h:(n1<=4000))(H:(n0=n1)):(((n0:Nat):Int)<(2^63)):=kG (gN.mpr<|H▸h) (by decide)
theorem adS(h:((-((4000:Nat):Int))<=i)):((-(2^63))<=i):=cO (by decide) h
theorem adR(h:(i<=((4000:Nat):Int)))(H:((-(2^63))<=i)):(i<(2^63)):=kG h (by decide)
theorem adP(H:(0<=i))(h:(i<=((4000:Nat):Int))):(i<(2^63)):=kG h (by decide)
theorem adO(h:(n1=n))(H:(((n0:Nat):Int)<((n:Nat):Int))):(n0<n1):=h▸nN.mp H
theorem adN(h:(n1<=4000))(H:(n=n1))(a:(n0<n)):(((n0:Nat):Int)<((2^63)-1)):=Int.lt_of_lt_of_le (nN.mpr a)<|cO (gN.mpr<|H▸h)<|by decide
theorem adM(h:(n1<=n0)):(0<((n0+1)-n1)):=Nat.sub_pos_of_lt<|eQ h
theorem adJ(h:((n0+(n1+1))<=(n+1))):(((n0+1)+n1)<=(n+1)):=ah (eD<|gj n0 n1) h
theorem adH(h:((0<=i)/\(i<32))):((Rk i)<32):=(wL h.1).mpr h.2
theorem adF(h:((0<=i)/\(i<32))):((((Rk i):Nat):Int)=i):=j9 h.1
theorem adD(h:(((n0+(100*n))+100)<n1)):((n0+70)<n1):=aF (jS (bc n0<|100*n) (show 70<=100 by decide)) h
theorem adC{p0:Prop}(h:((n1+2)<n1)):p0:=absurd h<|me<|bc _ _
theorem adz(h:((n1+4)<n0)):(¬(n0<n1)):=me<|be<|aF (bc _ 4) h
theorem ady(h:((n0+70)<n1)):((((n0+1)+1)+64)<n1):=aF (aY (show 66<=70 by decide) n0) h
theorem adx(h:((n0+4)<n1)):((n0<n1)\/(n1<n0)):=.inl<|aF (bc _ 4) h
theorem adw(h:((n0+4)<n1)):(((n0+1)<n1)\/(n1<(n0+1))):=.inl<|aF (aY (by decide) n0) h
theorem arA{a d n:Nat}(h:a<=n)(H:n<=a+d):a+(d-(a+d-n))=n:=(Nat.add_sub_assoc (Nat.sub_le_iff_le_add.mpr<|wK a d▸aY h d) a).symm.trans<|Nat.sub_sub_self H
theorem arB{p d v:Nat}(a:v<=p)(h:p<=v+d)(H:d<=p):p-d+(v+d-p)=v:=ac5 h H
set_option genCtorIdx false in
inductive SV where
 |none
 |bool (b:Bool)
 |int (i:Int)
 |str (s:Str)
 |raw (v:Value)
 |tup (xs:List SV)
 |lst (xs:List SV)
 |hH (ks vs:List SV)
 |dx (xs:List Int)
 |inst (c:Addr) (as:List Nat) (vs:List SV)
 |t5 (f:Addr) (self:SV)
 |LR (k:Nat) (cs:List Nat)
 |h (k:Nat)
 deriving Inhabited
def SV.ctorIdx(x:SV):Nat:=@SV.casesOn (λz=>Nat) x (nat_lit 0) (λz=>nat_lit 1) (λz=>nat_lit 2) (λz=>nat_lit 3) (λz=>nat_lit 4) (λz=>nat_lit 5) (λz=>nat_lit 6) (λz z=>nat_lit 7) (λz=>nat_lit 8) (λz z z=>nat_lit 9) (λz z=>nat_lit 10) (λz z=>nat_lit 11) λz=>nat_lit 12
set_option genCtorIdx false in
inductive SO where
 |list (xs:List SV)
 |dict (ks vs:List SV)
 |inst (c:Addr) (as:List Nat) (vs:List SV)
 |cell (v:Option SV)
 |gone
 deriving Inhabited
def SO.ctorIdx(x:SO):Nat:=@SO.casesOn (λz=>Nat) x (λz=>nat_lit 0) (λz z=>nat_lit 1) (λz z z=>nat_lit 2) (λz=>nat_lit 3)<|nat_lit 4
set_option genCtorIdx false in
inductive LV where
 |un
 |val (v:SV)
 |cell (k:Nat)
 deriving Inhabited
def LV.ctorIdx(x:LV):Nat:=@LV.casesOn (λz=>Nat) x (nat_lit 0) (λz=>nat_lit 1) λz=>nat_lit 2
set_option genCtorIdx false in
structure bo where
 loc:List LV
 st:List SO
 deriving Inhabited
set_option genCtorIdx true in
inductive BI where
 |len|list|tuple|sorted|kh|dx|int|max|min|lP|tC
 deriving DecidableEq
set_option genCtorIdx true in
inductive IK where
 |over|gO|pJ|enum|zip
 deriving DecidableEq
set_option genCtorIdx true in
inductive OP where
 |add|sub|mul|fdiv|mod|pow|bor
 deriving DecidableEq
set_option genCtorIdx true in
inductive CM where
 |eq|ne|lt|le|gt|ge|is|kN|isIn|kL
 deriving DecidableEq
set_option genCtorIdx false in
inductive TN where
 |one (i:Nat)
 |many (is:List Nat)
def TN.ctorIdx(x:TN):Nat:=@TN.casesOn (λz=>Nat) x (λz=>nat_lit 0) λz=>nat_lit 1
set_option genCtorIdx false in
inductive E where
 |none
 |bool (b:Bool)
 |int (i:Int)
 |str (s:Str)
 |glob (v:Value)
 |Ad
 |loc (i:Nat)
 |tup (es:List E)
 |list (m:Bool) (es:List E)
 |gU (m:Bool)
 |Es (k v:Str)
 |rl (i:Nat)
 |attr (e:E) (a:Nat)
 |sub (e i:E)
 |kc (e i:E)
 |kb (e i:E)
 |yp (e:E)
 |bin (op:OP) (l r:E)
 |and (es:List E)
 |or (es:List E)
 |not (e:E)
 |neg (e:E)
 |cmp (op:CM) (l r:E)
 |CC (o1 o2:CM) (l m r:E)
 |ite (c t e:E)
 |bi (b:BI) (es:List E)
 |rep (m:Bool) (e n:E)
 |call (f:E) (es:List E)
 |bx (o:E) (a:Nat) (es:List E)
 |comp (m:Bool) (fr:List (Option Nat)) (elt:E) (t:TN) (ik:IK) (its:List E) (cs:List E)
 |Ez (fr:List (Option Nat)) (elt:E) (t:TN) (ik:IK) (its:List E) (t2:TN) (e2:E)
 |AX (fr:List (Option Nat)) (k v:E) (t:TN) (e:E)
 |bad
 deriving Inhabited
def E.ctorIdx(x:E):Nat:=@E.casesOn (λz=>Nat) x (nat_lit 0) (λz=>nat_lit 1) (λz=>nat_lit 2) (λz=>nat_lit 3) (λz=>nat_lit 4) (nat_lit 5) (λz=>nat_lit 6) (λz=>nat_lit 7) (λz z=>nat_lit 8) (λz=>nat_lit 9) (λz z=>nat_lit 10) (λz=>nat_lit 11) (λz z=>nat_lit 12) (λz z=>nat_lit 13) (λz z=>nat_lit 14) (λz z=>nat_lit 15) (λz=>nat_lit 16) (λz z z=>nat_lit 17) (λz=>nat_lit 18) (λz=>nat_lit 19) (λz=>nat_lit 20) (λz=>nat_lit 21) (λz z z=>nat_lit 22) (λz z z z z=>nat_lit 23) (λz z z=>nat_lit 24) (λz z=>nat_lit 25) (λz z z=>nat_lit 26) (λz z=>nat_lit 27) (λz z z=>nat_lit 28) (λz z z z z z z=>nat_lit 29) (λz z z z z z z=>nat_lit 30) (λz z z z z=>nat_lit 31)<|nat_lit 32
set_option genCtorIdx false in
inductive T where
 |nm (i:Nat)
 |at (o:E) (a:Nat)
 |ix (o i:E)
 |tp (ts:List T)
 deriving Inhabited
set_option genCtorIdx false in
inductive S where
 |expr (e:E)
 |asg (t:T) (e:E)
 |ifs (c:E) (a b:List S)
 |for (t:TN) (ik:IK) (its:List E) (body:List S)
 |wg (c:E) (body:List S)
 |ret (e:E)
 |defn (i:Nat) (k:Nat) (cs:List Nat)
 |bad
 deriving Inhabited
set_option genCtorIdx false in
inductive FL where
 |next
 |ret (v:SV)
 deriving Inhabited
def FL.ctorIdx(x:FL):Nat:=@FL.casesOn (λz=>Nat) x (nat_lit 0) λz=>nat_lit 1
noncomputable abbrev b0:E:=.loc 0
noncomputable abbrev bK:E:=.loc 1
noncomputable abbrev dq:E:=.loc 2
noncomputable abbrev dR:E:=.loc 3
noncomputable abbrev fu:E:=.loc 4
noncomputable abbrev jf:E:=.loc 5
noncomputable abbrev jZ:E:=.loc 6
noncomputable abbrev qM:E:=.loc 7
noncomputable abbrev zX:E:=.loc 8
noncomputable abbrev FJ:E:=.loc 9
noncomputable abbrev Bs:E:=.loc 10
noncomputable abbrev xW:E:=.loc 11
noncomputable abbrev tg:E:=.loc 12
noncomputable abbrev RG:E:=.loc 13
noncomputable abbrev ai9:E:=.loc 14
noncomputable abbrev ai8:E:=.loc 15
noncomputable abbrev ai7:E:=.loc 16
noncomputable abbrev ai6:E:=.loc 17
noncomputable abbrev ai5:E:=.loc 18
noncomputable abbrev ai4:E:=.loc 19
noncomputable abbrev cQ(e:E)(k:Int):E:=.sub e<|.int k
noncomputable abbrev WQ(a:Addr):E:=.glob<|.ref a
noncomputable abbrev d6(a:Addr)(es:List E):E:=.call (.glob<|.ref a) es
noncomputable abbrev gu(a:Addr):SV:=.raw<|.ref a
noncomputable abbrev fj(i:Nat)(e:E):S:=.asg (.nm i) e
noncomputable abbrev iJ(a b:E):E:=.cmp .eq a b
noncomputable abbrev fL(n:Nat):E:=.attr b0 n
noncomputable abbrev kH(e:E):E:=.bi .len [e]
noncomputable abbrev zo0:TN:=.one 0
noncomputable abbrev td:TN:=.one 1
noncomputable abbrev MB:TN:=.one 2
noncomputable abbrev EX:TN:=.one 3
noncomputable abbrev RF:TN:=.one 4
noncomputable abbrev VF:TN:=.one 5
noncomputable abbrev EW:TN:=.one 6
noncomputable abbrev zo7:TN:=.one 7
noncomputable abbrev RE:TN:=.one 8
noncomputable abbrev zo9:TN:=.one 9
noncomputable abbrev ai3:TN:=.one 10
noncomputable abbrev ai2:TN:=.one 11
noncomputable abbrev MC:TN:=.one 12
noncomputable abbrev Dd:TN:=.one 13
noncomputable abbrev ai1:TN:=.one 14
noncomputable abbrev ai0:TN:=.one 15
noncomputable def gd{α:Type}(c:Bool)(x:α):Option α:=match c with|true=>some x|false=>none
noncomputable def one{α:Type}:List α->Option α|[x]=>some x|_=>none
noncomputable def zV{α:Type}:List α->Option (α×α)|[x,y]=>some (x,y)|_=>none
noncomputable def VD{α:Type}:List α->Option (α×α×α)|[x,y,z]=>some (x,y,z)|_=>none
noncomputable def kS:SV->Option Int|.int i=>some i|_=>none
noncomputable def zm:SV->Option (List SV)|.tup xs=>some xs|_=>none
noncomputable def Wp:SV->Option (List SV)|.lst xs=>some xs|_=>none
noncomputable def tJ:SV->Option (List Int)|.dx xs=>some xs|_=>none
noncomputable def Wn:SV->Option Str|.str s=>some s|_=>none
noncomputable def UL:SV->Option Nat|.h k=>some k|_=>none
noncomputable def gE:SO->Option (List SV)|.list xs=>some xs|_=>none
noncomputable def pC:SO->Option (List SV×List SV)|.dict ks vs=>some (ks,vs)|_=>none
noncomputable def lD:SO->Option (Addr×List Nat×List SV)|.inst c as vs=>some (c,as,vs)|_=>none
noncomputable def pD:SO->Option (Option SV)|.cell v=>some v|_=>none
noncomputable def jg(a b:Str):Bool:=a.cps.toList==b.cps.toList
noncomputable def fo(x:Str):List (Str×cF)->Nat->Option (Nat×cF)
 |[],_=>none
 |p::r,i=>match jg p.1 x with
  |true=>some (i,p.2)
  |false=>fo x r<|i+1
mutual
def m6:SV->Option PyData
 |.none=>some .none
 |.bool b=>some<|.bool b
 |.int i=>some<|.int i
 |.str s=>gd (dC s)<|.str s
 |.tup xs=>(fR xs).map .tuple
 |.lst xs=>(fR xs).map .list
 |_=>none
def fR:List SV->Option (List PyData)
 |[]=>some []
 |x::xs=>(m6 x).bind λd=>(fR xs).map λds=>d::ds
end
noncomputable abbrev cw:Nat:=8
mutual
noncomputable def fD:PyData->Bool
 |.int _=>true
 |.str s=>dC s
 |.tuple xs=>tE xs
 |_=>false
noncomputable def tE:List PyData->Bool
 |[]=>true
 |x::xs=>fD x&&tE xs
end
noncomputable def gY:PyData->Nat
 |.int _=>0
 |.str _=>1
 |_=>2
def cW(k:SV)(ks:List SV):Option (Option Nat):=(m6 k).bind λd=>(fR ks).bind λds=>
 gd (fD d&&ds.all (λx=>fD x&&gY x==gY d)&&decide (d.depth<=cw)) (ds.findIdx? λx=>bp x d)
def s9(k:SV)(xs:List SV):Option (Option Nat):=(m6 k).bind λd=>(fR xs).bind λds=>gd (decide<|d.depth<=cw)<|ds.findIdx? λx=>bp x d
noncomputable def uE(xs:List Int):Bool:=xs.all (λi=>decide (0<=i)&&decide (i<32))&&decide (xs.length<=12)
noncomputable abbrev eA:Nat:=4000
def SV.free:SV->Bool
 |.h _=>false
 |.LR _ _=>false
 |.tup xs=>go xs
 |.t5 _ s=>s.free
 |_=>true
where go:List SV->Bool
 |[]=>true
 |x::xs=>x.free&&go xs
def b8(vs:List SV):Bool:=SV.free.go vs
def uy{α:Type}(xs:List α)(i:Int):Option α:=(gd (decide<|i.natAbs<=eA) ()).bind λz=>if 0<=i then xs[i.toNat]? else if -(xs.length:Int)<=i then xs[(i+xs.length).toNat]? else none
noncomputable def dX(n:Nat)(i:Int):Nat:=if 0<=i then min i.toNat n else(i+n).toNat
noncomputable def mN(i:Int):List Int->List Int
 |[]=>[i]
 |x::xs=>if i<x then i::x::xs else if i=x then x::xs else x::mN i xs
def gx(xs:List Int):List Int:=xs.foldr mN []
noncomputable def ji(i:Int):List Int->List Int
 |[]=>[i]
 |x::xs=>if i<=x then i::x::xs else x::ji i xs
def iX(xs:List Int):List Int:=xs.foldr ji []
noncomputable def jT:List SV->Option (List Int)
 |[]=>some []
 |x::xs=>(kS x).bind λi=>(jT xs).map (i::·)
def jy(st:List SO):SV->Option (List SV)
 |.lst xs=>some xs
 |.h k=>st[k]?.bind gE
 |_=>none
def jk(st:List SO):SV->Option (List SV×List SV)
 |.hH ks vs=>some (ks,vs)
 |.h k=>st[k]?.bind pC
 |_=>none
def q9(st:List SO):SV->Option (Addr×List Nat×List SV)
 |.inst c as vs=>some (c,as,vs)
 |.h k=>st[k]?.bind lD
 |_=>none
noncomputable def iu(a:Nat):List Nat->Nat->Option Nat
 |[],_=>none
 |x::xs,i=>if x==a then some i else iu a xs (i+1)
def vE:SV->Option (List SV)
 |.tup xs=>some xs
 |.lst xs=>some xs
 |.dx xs=>gd (decide<|xs.length<=1)<|xs.map .int
 |.hH ks _=>(jT ks).map λz=>ks
 |_=>none
def lH:IK->List SV->Option (List SV)
 |.over,vs=>(one vs).bind vE
 |.gO,vs=>(one vs).bind λv=>(kS v).bind λn=>gd (decide<|n.natAbs<=eA)<|(ak n.toNat).map λ(i:Nat)=>SV.int (i:Int)
 |.pJ,vs=>(VD vs).bind λv=>(kS v.1).bind λa=>(kS v.2.1).bind λb=>(kS v.2.2).bind λc=>
   gd (c== -1&&decide (a.natAbs<=eA)&&decide (b.natAbs<=eA)) ((ak (a-b).toNat).map λ(i:Nat)=>SV.int<|a-(i:Int))
 |.enum,vs=>(one vs).bind λv=>(Wp v).map λxs=>xs.zipIdx.map λp=>.tup [.int p.2,p.1]
 |.zip,vs=>(zV vs).bind λv=>(zm v.1).bind λxs=>(zm v.2).bind λys=>gd (xs.isEmpty&&ys.isEmpty) []
noncomputable def XW:TN->Bool
 |.many is=>is.length==2
 |_=>false
noncomputable def Og:IK->String
 |.over=>""|.gO=>"range"|.pJ=>"range"|.enum=>"enumerate"|.zip=>"zip"
noncomputable def nIK:IK->Nat
 |.over=>0|.gO=>1|.pJ=>3|.enum=>1|.zip=>2
noncomputable def xm:IK->Bool
 |.enum=>true
 |.zip=>true
 |_=>false
def qX(ik:IK)(t:TN):Bool:=!xm ik||XW t
def iy(i:Nat)(v:SV)(σ:bo):Option bo:=σ.loc[i]?.bind λ
 |.cell k=>(σ.st[k]?.bind pD).map λz=>{σ with st:=σ.st.set k<|.cell<|some v}
 |_=>some {σ with loc:=σ.loc.set i<|.val v}
noncomputable def pG:List Nat->List SV->bo->Option bo
 |[],[],σ=>some σ
 |i::is,v::vs,σ=>(iy i v σ).bind<|pG is vs
 |_,_,_=>none
def dm(t:TN)(v:SV)(σ:bo):Option bo:=match t with
 |.one i=>iy i v σ
 |.many is=>(zm v).bind λxs=>pG is xs σ
def alloc(o:SO)(σ:bo):SV×bo:=(.h σ.st.length,{σ with st:=σ.st++[o]})
noncomputable def gh:SV->Option Bool
 |.bool b=>some b
 |_=>none
noncomputable def acZ:SV->Option Int
 |.int i=>some i
 |.bool b=>some (if b then 1 else 0)
 |_=>none
def LN(f:Int->Int->Option Int)(a b:SV):Option SV:=(kS a).bind λi=>(kS b).bind λj=>(f i j).map .int
def Z5(f:List Int->List Int->Option (List Int))(a b:SV):Option SV:=(tJ a).bind λi=>(tJ b).bind λj=>(f i j).map .dx
noncomputable def wX:SV->Bool
 |.dx _=>true
 |_=>false
def m7:OP->SV->SV->Option SV
 |.add,a,b=>LN (λi j=>some<|i+j) a b
 |.sub,a,b=>match wX a with
  |true=>Z5 (λx y=>gd (decide (x.length/4<=y.length)||y.isEmpty)<|x.filter λi=>!y.contains i) a b
  |false=>LN (λi j=>some<|i-j) a b
 |.mul,a,b=>(kS a).bind λi=>(acZ b).bind λj=>gd (decide (i.natAbs<2^64)||decide (j.natAbs<2^64))<|.int<|i*j
 |.fdiv,a,b=>LN (λi j=>gd (j != 0&&decide (j.natAbs<1073741824))<|wM i j) a b
 |.mod,a,b=>LN (λi j=>gd (j != 0)<|n8 i j) a b
 |.pow,a,b=>LN (λi j=>gd (decide (0<=j)&&decide (j<=1000)&&decide (i.natAbs<2^64))<|i^j.toNat) a b
 |.bor,a,b=>Z5 (λx y=>gd (uE<|gx<|x++y)<|gx<|x++y) a b
def nc(st:List SO):SV->Option (List SV)
 |.tup xs=>some xs
 |v=>jy st v
def pA(st:List SO):SV->Option PyData
 |.h k=>(st[k]?.bind gE).bind λxs=>(fR xs).map .list
 |v=>m6 v
def Ul(st:List SO)(a b:SV):Option Bool:=match wX a with
 |true=>(tJ a).bind λx=>(tJ b).map λy=>x==y
 |false=>(pA st a).bind λda=>(pA st b).bind λdb=>gd (decide<|min da.depth db.depth<=cw)<|bp da db
def GY(st:List SO)(a b:SV):Option Bool:=match wX b with
 |true=>(tJ b).bind λxs=>(kS a).map λi=>xs.contains i
 |false=>match jk st b with
  |some p=>(cW a p.1).map (·.isSome)
  |none=>(nc st b).bind λxs=>(s9 a xs).map (·.isSome)
noncomputable def Bp:SV->Option Bool
 |.none=>some true
 |.raw _=>none
 |_=>some false
noncomputable def isN(b:SV):Bool:=match b with
 |.none=>true
 |_=>false
def OY(f:Int->Int->Bool)(a b:SV):Option Bool:=(kS a).bind λi=>(kS b).map λj=>f i j
def jB(st:List SO):CM->SV->SV->Option Bool
 |.eq,a,b=>Ul st a b
 |.ne,a,b=>(Ul st a b).map (!·)
 |.lt,a,b=>OY (λi j=>decide<|i<j) a b
 |.le,a,b=>OY (λi j=>decide<|i<=j) a b
 |.gt,a,b=>OY (λi j=>decide<|j<i) a b
 |.ge,a,b=>OY (λi j=>decide<|j<=i) a b
 |.is,a,b=>(gd (isN b) ()).bind λz=>Bp a
 |.kN,a,b=>(gd (isN b) ()).bind λz=>(Bp a).map (!·)
 |.isIn,a,b=>GY st a b
 |.kL,a,b=>(GY st a b).map (!·)
def gi(st:List SO)(v i:SV):Option SV:=match jk st v with
 |some p=>(cW i p.1).bind λr=>r.bind λj=>p.2[j]?
 |none=>(nc st v).bind λxs=>(kS i).bind λi=>uy xs i
def dN(m:Bool)(xs:List SV)(σ:bo):SV×bo:=match m||!b8 xs with
 |true=>alloc (.list xs) σ
 |false=>(.lst xs,σ)
def uX(n:Nat)(i:Int):Bool:=decide (n<=eA)&&decide (i.natAbs<=eA)
def kb(σ:bo)(v i:SV):Option (SV×bo):=(kS i).bind λi=>match v with
 |.tup xs=>gd (uX xs.length i) (.tup<|xs.take<|dX xs.length i,σ)
 |.str s=>gd (uX s.cps.size i) (.str ⟨(s.cps.toList.take<|dX s.cps.toList.length i).toArray⟩,σ)
 |v=>(jy σ.st v).bind λxs=>gd (uX xs.length i)<|dN false (xs.take<|dX xs.length i) σ
def kc(σ:bo)(v i:SV):Option (SV×bo):=(kS i).bind λi=>match v with
 |.str s=>gd (uX s.cps.size i) (.str ⟨(s.cps.toList.drop<|dX s.cps.toList.length i).toArray⟩,σ)
 |v=>(jy σ.st v).bind λxs=>gd (uX xs.length i)<|dN false (xs.drop<|dX xs.length i) σ
def aaG(s:Str):Option Int:=(one s.cps.toList).bind λc=>gd (decide (48<=c)&&decide (c<=57))<|(c:Int)-48
def OT(st:List SO)(v:SV):Option (List Int):=((jy st v).orElse λz=>(jk st v).map (·.1)).bind jT
def acX:SV->Option SV
 |.int i=>some<|.int i
 |.bool b=>some<|.int (if b then 1 else 0)
 |.str s=>(aaG s).map .int
 |_=>none
def builtin(st:List SO):BI->List SV->Option SV
 |.len,vs=>(one vs).bind λv=>(nc st v).bind λxs=>gd (decide<|xs.length<=eA)<|.int xs.length
 |.tuple,vs=>(one vs).bind λv=>(nc st v).bind λxs=>gd (decide<|xs.length<=eA)<|.tup xs
 |.sorted,vs=>(one vs).bind λv=>match wX v with
  |true=>(tJ v).bind λxs=>gd (decide<|xs.length<=1)<|.lst<|xs.map .int
  |false=>(OT st v).bind λis=>gd (decide<|is.length<64)<|.lst<|(iX is).map .int
 |.kh,vs=>(one vs).bind λv=>((jy st v).bind jT).bind λis=>gd (decide ((gx is).length<=1)&&uE (gx is))<|.lst<|(gx is).map .int
 |.dx,vs=>match vs with
  |[]=>some<|.dx []
  |v::r=>(gd r.isEmpty ()).bind λz=>((jy st v).bind jT).bind λis=>gd (uE<|gx is)<|.dx<|gx is
 |.int,vs=>(one vs).bind acX
 |.max,vs=>(zV vs).bind λv=>LN (λa b=>some (if a<b then b else a)) v.1 v.2
 |.min,vs=>(zV vs).bind λv=>LN (λa b=>some (if b<a then b else a)) v.1 v.2
 |.lP,vs=>(zV vs).bind λv=>(zm v.1).bind λxs=>(zm v.2).bind λys=>match xs with
  |[]=>gd ys.isEmpty<|.hH [] []
  |x::r=>(gd r.isEmpty ()).bind λz=>(Wn x).bind λs=>(one ys).bind λy=>gd (dC s&&y.free)<|.hH [.str s] [y]
 |_,_=>none
noncomputable abbrev iY:Nat:=67
noncomputable abbrev fz:Nat:=50
def mq(i:Nat)(σ:bo):Option SV:=σ.loc[i]?.bind λ
 |.val v=>some v
 |.cell k=>(σ.st[k]?.bind pD).bind id
 |.un=>none
mutual
noncomputable def freeze:Nat->SV->List SO->Option (SV×List SO)
 |0,_,_=>none
 |n+1,v,st=>match v with
  |.h k=>st[k]?.bind λ
   |.list xs=>(b4 n xs<|st.set k .gone).map λr=>(.lst r.1,r.2)
   |.dict ks vs=>(gd (b8 ks) ()).bind λz=>(b4 n vs<|st.set k .gone).map λr=>(.hH ks r.1,r.2)
   |.inst c as vs=>(b4 n vs<|st.set k .gone).map λr=>(.inst c as r.1,r.2)
   |_=>none
  |.tup xs=>(b4 n xs st).map λr=>(.tup r.1,r.2)
  |v=>gd v.free (v,st)
noncomputable def b4:Nat->List SV->List SO->Option (List SV×List SO)
 |0,_,_=>none
 |n+1,vs,st=>match b8 vs with
  |true=>some (vs,st)
  |false=>match vs with
   |[]=>some ([],st)
   |v::r=>(freeze n v st).bind λp=>(b4 n r p.2).map λq=>(p.1::q.1,q.2)
end
noncomputable def SO.live:SO->Bool
 |.gone=>false
 |_=>true
noncomputable def lX:List SO->List SO
 |[]=>[]
 |o::r=>match (lX r).isEmpty&&!o.live with
  |true=>[]
  |false=>o::lX r
noncomputable abbrev xr:Nat:=0
noncomputable abbrev US:Nat:=1
noncomputable abbrev aia:Nat:=2
noncomputable abbrev ZT:Nat:=3
noncomputable abbrev afk:Nat:=4
noncomputable abbrev n5:Nat:=5
noncomputable def yU(r:Option Nat)(vs:List SV)(d:SV):Option SV:=match r with
 |some j=>vs[j]?
 |none=>some d
noncomputable def wi(r:Option Nat)(ks:List SV)(key:SV):List SV:=match r with
 |some _=>ks
 |none=>ks++[key]
noncomputable def wh(r:Option Nat)(vs:List SV)(val:SV):List SV:=match r with
 |some j=>vs.set j val
 |none=>vs++[val]
def vJ(st:List SO)(o:SV)(args:List SV):Option SV:=(one args).bind λv=>(jy st o).bind λxs=>(gd (decide<|xs.length<=eA) ()).bind λz=>(s9 v xs).bind λr=>r.map λi=>.int i
noncomputable def HW:List SV->Option (SV×SV)
 |[x]=>some (x,.none)
 |[x,d]=>some (x,d)
 |_=>none
def Td(st:List SO)(o:SV)(args:List SV):Option SV:=(HW args).bind λp=>(jk st o).bind λq=>(cW p.1 q.1).bind λr=>yU r q.2 p.2
def B1(k:Nat)(v:SV)(σ:bo):Option bo:=(σ.st[k]?.bind gE).bind λxs=>gd (decide<|xs.length<=eA) {σ with st:=σ.st.set k<|.list<|xs++[v]}
def B0(k:Nat)(v:SV)(σ:bo):Option bo:=(σ.st[k]?.bind gE).bind λxs=>(jy σ.st v).bind λys=>gd (decide<|xs.length+ys.length<=eA) {σ with st:=σ.st.set k<|.list<|xs++ys}
def XH(k:Nat)(σ:bo):Option (SV×bo):=(σ.st[k]?.bind gE).bind λxs=>xs.getLast?.bind λv=>gd (decide<|xs.length<=eA) (v,{σ with st:=σ.st.set k<|.list xs.dropLast})
def Gn(k:Nat)(x d:SV)(p:List SV×List SV)(r:Option Nat)(σ:bo):bo:=match r with
 |some _=>σ
 |none=>{σ with st:=σ.st.set k<|.dict (p.1++[x])<|p.2++[d]}
def nV(k:Nat)(x d:SV)(σ:bo):Option (SV×bo):=(σ.st[k]?.bind pC).bind λp=>(cW x p.1).bind λr=>
 (gd (x.free&&decide (p.1.length<=eA)) ()).bind λz=>(yU r p.2 d).map λv=>(v,Gn k x d p r σ)
def qV(st:List SO)(o:SV)(a:Nat):Bool:=if a==afk||a==n5 then(jk st o).isSome else(jy st o).isSome
def iA(o:SV)(a:Nat)(args:List SV)(σ:bo):Option (SV×bo):=match a with
 |0=>(UL o).bind λk=>(one args).bind λv=>(B1 k v σ).map λτ=>(.none,τ)
 |1=>(UL o).bind λk=>(one args).bind λv=>(B0 k v σ).map λτ=>(.none,τ)
 |2=>(UL o).bind λk=>(gd args.isEmpty ()).bind λz=>XH k σ
 |3=>(vJ σ.st o args).map (·,σ)
 |4=>(Td σ.st o args).map (·,σ)
 |5=>(UL o).bind λk=>(zV args).bind λp=>nV k p.1 p.2 σ
 |_=>none
abbrev bT:=SV->List SV->List SO->Option (SV×List SO)
abbrev b6:=Addr->Nat->Option Addr
noncomputable def i4(fr:List (Option Nat))(loc:List LV):List LV:=fr.map λ
 |.none=>.un
 |.some j=>(loc[j]?).getD .un
def Hs(M:b6)(st:List SO)(o:SV)(a:Nat):Option SV:=(q9 st o).bind λi=>match iu a i.2.1 0 with
 |some j=>i.2.2[j]?
 |none=>(M i.1 a).map λf=>.t5 f o
def uB(i:Addr×List Nat×List SV)(a:Nat)(v:SV):Option SO:=match iu a i.2.1 0 with
 |some j=>some<|.inst i.1 i.2.1<|i.2.2.set j v
 |none=>gd (decide<|a<iY)<|.inst i.1 (i.2.1++[a])<|i.2.2++[v]
def Bm(o:SV)(a:Nat)(v:SV)(σ:bo):Option bo:=(UL o).bind λk=>(σ.st[k]?.bind lD).bind λi=>(uB i a v).map λso=>{σ with st:=σ.st.set k so}
def pz(o i v:SV)(σ:bo):Option bo:=(UL o).bind λk=>match σ.st[k]?.bind gE with
 |some xs=>(kS i).bind λi=>gd (decide (0<=i)&&decide (i<xs.length)&&decide (i<=eA)) {σ with st:=σ.st.set k<|.list<|xs.set i.toNat v}
 |none=>(σ.st[k]?.bind pC).bind λp=>(gd (i.free&&decide (p.1.length<=eA)) ()).bind λz=>(cW i p.1).map λr=>{σ with st:=σ.st.set k<|.dict (wi r p.1 i)<|wh r p.2 v}
noncomputable def uR(f:SV->bo->Option (SV×SV×bo)):List SV->List SV->List SV->bo->Option (List SV×List SV×bo)
 |ks,vs,[],σ=>some (ks,vs,σ)
 |ks,vs,x::r,σ=>(f x σ).bind λq=>(cW q.1 ks).bind λo=>(gd (q.1.free&&decide (ks.length<=eA)) ()).bind λz=>uR f (wi o ks q.1) (wh o vs q.2.1) r q.2.2
def Pl(i:Nat)(σ:bo):Option (SV×bo):=(mq i σ).bind λv=>match UL v with
 |some _=>(freeze fz v σ.st).bind λp=>(iy i p.1 {σ with st:=p.2}).map λτ=>(p.1,τ)
 |none=>some (v,σ)
noncomputable def gM(f:SV->bo->Option (List SV×bo)):List SV->List SV->bo->Option (List SV×bo)
 |acc,[],σ=>some (acc,σ)
 |acc,x::r,σ=>(f x σ).bind λq=>gM f (acc++q.1) r q.2
def zj(b:BI)(vs:List SV)(σ:bo):Option (SV×bo):=match b with
 |.tC=>(one vs).bind λv=>(kS v).bind λn=>gd (decide<|n.natAbs<=eA)<|alloc (.list<|(ak n.toNat).map λ(i:Nat)=>SV.int (i:Int)) σ
 |.list=>(one vs).bind λv=>(jy σ.st v).bind λxs=>gd (decide<|xs.length<=eA)<|alloc (.list xs) σ
 |b=>(builtin σ.st b vs).map (·,σ)
def WN(σ:bo)(r:SV×List SO):SV×bo:=(r.1,{σ with st:=r.2})
mutual
def cj(C:bT)(M:b6):E->bo->Option (SV×bo)
 |.none,σ=>some (.none,σ)
 |.bool b,σ=>some (.bool b,σ)
 |.int i,σ=>some (.int i,σ)
 |.str s,σ=>some (.str s,σ)
 |.glob v,σ=>some (.raw v,σ)
 |.Ad,σ=>some (.dx [],σ)
 |.loc i,σ=>(mq i σ).map λv=>(v,σ)
 |.rl i,σ=>Pl i σ
 |.tup es,σ=>(iq C M es σ).bind λp=>gd (decide<|p.1.length<=eA) (.tup p.1,p.2)
 |.list m es,σ=>(iq C M es σ).bind λp=>gd (decide<|p.1.length<=eA)<|dN m p.1 p.2
 |.gU m,σ=>some (match m with|true=>alloc (.dict [] []) σ|false=>(.hH [] [],σ))
 |.Es k v,σ=>gd (dC k) (.hH [.str k] [.str v],σ)
 |.attr e a,σ=>(cj C M e σ).bind λp=>(Hs M p.2.st p.1 a).map (·,p.2)
 |.sub e i,σ=>(cj C M e σ).bind λp=>(cj C M i p.2).bind λq=>(gi q.2.st p.1 q.1).map (·,q.2)
 |.kc e i,σ=>(cj C M e σ).bind λp=>(cj C M i p.2).bind λq=>kc q.2 p.1 q.1
 |.kb e i,σ=>(cj C M e σ).bind λp=>(cj C M i p.2).bind λq=>kb q.2 p.1 q.1
 |.yp e,σ=>(cj C M e σ).bind λp=>(jy p.2.st p.1).bind λxs=>gd (decide<|xs.length<=eA)<|dN false xs.reverse p.2
 |.bin op l r,σ=>(cj C M l σ).bind λp=>(cj C M r p.2).bind λq=>(m7 op p.1 q.1).map (·,q.2)
 |.and es,σ=>kP C M es σ
 |.or es,σ=>En C M es σ
 |.not e,σ=>(cj C M e σ).bind λp=>(gh p.1).map λb=>(.bool !b,p.2)
 |.neg e,σ=>(cj C M e σ).bind λp=>(kS p.1).map λi=>(.int<|-i,p.2)
 |.cmp op l r,σ=>(cj C M l σ).bind λp=>(cj C M r p.2).bind λq=>(jB q.2.st op p.1 q.1).map λx=>(.bool x,q.2)
 |.CC o1 o2 l m r,σ=>(cj C M l σ).bind λp=>(cj C M m p.2).bind λq=>(jB q.2.st o1 p.1 q.1).bind λb=>match b with
  |true=>(cj C M r q.2).bind λt=>(jB t.2.st o2 q.1 t.1).map λx=>(.bool x,t.2)
  |false=>some (.bool false,q.2)
 |.ite c t e,σ=>(cj C M c σ).bind λp=>(gh p.1).bind λb=>match b with
  |true=>cj C M t p.2
  |false=>cj C M e p.2
 |.bi b es,σ=>(iq C M es σ).bind λp=>zj b p.1 p.2
 |.rep m e n,σ=>(cj C M e σ).bind λp=>(cj C M n p.2).bind λq=>(kS q.1).bind λk=>gd (decide<|k.natAbs<=eA)<|dN m (br k.toNat p.1) q.2
 |.call f es,σ=>(cj C M f σ).bind λp=>(iq C M es p.2).bind λq=>(C p.1 q.1 q.2.st).map<|WN q.2
 |.bx o a es,σ=>(cj C M o σ).bind λp=>match q9 p.2.st p.1 with
  |some i=>(gd (iu a i.2.1 0).isNone ()).bind λu=>(M i.1 a).bind λf=>(iq C M es p.2).bind λq=>(C (.raw<|.ref f) (p.1::q.1) q.2.st).map<|WN q.2
  |none=>(gd (qV p.2.st p.1 a) ()).bind λu=>(iq C M es p.2).bind λq=>iA p.1 a q.1 q.2
 |.comp m fr elt t ik its cs,σ=>(iq C M its σ).bind λp=>(lH ik p.1).bind λitems=>(gd (qX ik t) ()).bind λu=>
   (gM (λx τ=>(dm t x τ).bind λτ=>(kP C M cs τ).bind λq=>(gh q.1).bind λb=>match b with
    |true=>(cj C M elt q.2).map λr=>([r.1],r.2)
    |false=>some ([],q.2)) [] items ⟨i4 fr p.2.loc,p.2.st⟩).bind λz=>gd (decide<|z.1.length<=eA)<|dN m z.1 {p.2 with st:=z.2.st}
 |.Ez fr elt t ik its t2 e2,σ=>(iq C M its σ).bind λp=>(lH ik p.1).bind λitems=>(gd (qX ik t) ()).bind λu=>
   (gM (λx τ=>(dm t x τ).bind λτ=>(cj C M e2 τ).bind λq=>(vE q.1).bind λitems2=>
    gM (λy τ=>(dm t2 y τ).bind λτ=>(cj C M elt τ).map λr=>([r.1],r.2)) [] items2 q.2) [] items ⟨i4 fr p.2.loc,p.2.st⟩).bind λz=>
     gd (decide<|z.1.length<=eA) (dN false z.1 {p.2 with st:=z.2.st})
 |.AX fr k v t e,σ=>(cj C M e σ).bind λp=>(vE p.1).bind λitems=>
   (uR (λx τ=>(dm t x τ).bind λτ=>(cj C M k τ).bind λq=>(cj C M v q.2).map λr=>(q.1,r.1,r.2)) [] [] items ⟨i4 fr p.2.loc,p.2.st⟩).bind λz=>
    gd (b8 z.2.1) (.hH z.1 z.2.1,{p.2 with st:=z.2.2.st})
 |.bad,_=>none
def iq(C:bT)(M:b6):List E->bo->Option (List SV×bo)
 |[],σ=>some ([],σ)
 |e::es,σ=>(cj C M e σ).bind λp=>(iq C M es p.2).map λr=>(p.1::r.1,r.2)
def kP(C:bT)(M:b6):List E->bo->Option (SV×bo)
 |[],σ=>some (.bool true,σ)
 |e::es,σ=>(cj C M e σ).bind λp=>(gh p.1).bind λb=>match b with
  |true=>kP C M es p.2
  |false=>some (.bool false,p.2)
def En(C:bT)(M:b6):List E->bo->Option (SV×bo)
 |[],σ=>some (.bool false,σ)
 |e::es,σ=>(cj C M e σ).bind λp=>(gh p.1).bind λb=>match b with
  |false=>En C M es p.2
  |true=>some (.bool true,p.2)
end
noncomputable def FN:SV->Option (List SV)
 |.tup xs=>some xs
 |.lst xs=>some xs
 |_=>none
mutual
def BS(C:bT)(M:b6):T->SV->bo->Option bo
 |.nm i,v,σ=>iy i v σ
 |.at o a,v,σ=>(cj C M o σ).bind λp=>Bm p.1 a v p.2
 |.ix o i,v,σ=>(cj C M o σ).bind λp=>(cj C M i p.2).bind λq=>pz p.1 q.1 v q.2
 |.tp ts,v,σ=>(FN v).bind λxs=>yB C M ts xs σ
def yB(C:bT)(M:b6):List T->List SV->bo->Option bo
 |[],[],σ=>some σ
 |t::ts,v::vs,σ=>(BS C M t v σ).bind<|yB C M ts vs
 |_,_,_=>none
end
noncomputable def cR(f:SV->bo->Option (FL×bo)):List SV->bo->Option (FL×bo)
 |[],σ=>some (.next,σ)
 |x::r,σ=>(f x σ).bind λq=>match q.1 with
  |.next=>cR f r q.2
  |.ret v=>some (.ret v,q.2)
noncomputable def i3(c:bo->Option (SV×bo))(f:bo->Option (FL×bo)):Nat->bo->Option (FL×bo)
 |0,_=>none
 |n+1,σ=>(c σ).bind λp=>(gh p.1).bind λb=>match b with
  |false=>some (.next,p.2)
  |true=>(f p.2).bind λq=>match q.1 with
   |.next=>i3 c f n q.2
   |.ret v=>some (.ret v,q.2)
noncomputable def Ox:LV->Option Nat
 |.cell k=>some k
 |_=>none
mutual
def kB(C:bT)(M:b6):S->bo->Option (FL×bo)
 |.expr e,σ=>(cj C M e σ).map λr=>(.next,r.2)
 |.asg t e,σ=>(cj C M e σ).bind λp=>(BS C M t p.1 p.2).map λτ=>(.next,τ)
 |.ifs c a b,σ=>(cj C M c σ).bind λp=>(gh p.1).bind λx=>match x with
  |true=>cX C M a p.2
  |false=>cX C M b p.2
 |.for t ik its body,σ=>(iq C M its σ).bind λp=>(lH ik p.1).bind λitems=>(gd (qX ik t) ()).bind λz=>cR (λx τ=>(dm t x τ).bind λτ=>cX C M body τ) items p.2
 |.wg c body,σ=>i3 (cj C M c) (cX C M body) 1000 σ
 |.ret e,σ=>(cj C M e σ).map λr=>(.ret r.1,r.2)
 |.defn i k cs,σ=>(cs.mapM λj=>σ.loc[j]?.bind Ox).bind λhs=>(iy i (.LR k hs) σ).map λτ=>(.next,τ)
 |.bad,_=>none
def cX(C:bT)(M:b6):List S->bo->Option (FL×bo)
 |[],σ=>some (.next,σ)
 |s::r,σ=>(kB C M s σ).bind λq=>match q.1 with
  |.next=>cX C M r q.2
  |.ret v=>some (.ret v,q.2)
end
set_option genCtorIdx false in
inductive NK where
 |loc|sD|Z6 (i:Nat)
noncomputable abbrev jP(n:Nat):List NK:=br n .loc
def NK.ctorIdx(x:NK):Nat:=@NK.casesOn (λz=>Nat) x (nat_lit 0) (nat_lit 1) λz=>nat_lit 2
set_option genCtorIdx false in
structure Fn where
 np:Nat
 wz:List SV
 kinds:List NK
 body:List S
 keep:Bool
set_option genCtorIdx false in
inductive Pol where
 |freeze|keep|some (as:List Nat)
def Pol.ctorIdx(x:Pol):Nat:=@Pol.casesOn (λz=>Nat) x (nat_lit 0) (nat_lit 1) λz=>nat_lit 2
set_option genCtorIdx false in
structure Cls where
 init:Addr
 N5:Pol
set_option genCtorIdx false in
structure FC where
 fns:Addr->Option Fn
 nest:Nat->Option Fn
 cls:Addr->Option Cls
 meths:b6
mutual
def SV.low(n:Nat):SV->Bool
 |.h k=>oZ k n
 |.LR _ cs=>cs.all λk=>oZ k n
 |.tup xs=>SV.lows n xs
 |.t5 _ s=>s.low n
 |_=>true
def SV.lows(n:Nat):List SV->Bool
 |[]=>true
 |x::xs=>x.low n&&SV.lows n xs
end
def SO.low(n:Nat):SO->Bool
 |.list xs=>SV.lows n xs
 |.dict _ vs=>SV.lows n vs
 |.inst _ _ vs=>SV.lows n vs
 |.cell (some v)=>v.low n
 |_=>true
noncomputable def V9(vs:List SV):LV:=match vs with
 |[]=>.un
 |v::_=>.val v
noncomputable def cM:List NK->List SV->List Nat->List SO->List LV×List SO
 |[],_,_,st=>([],st)
 |.loc::ks,vs,cs,st=>let r:=cM ks vs.tail cs st;(V9 vs::r.1,r.2)
 |.sD::ks,vs,cs,st=>let r:=cM ks vs.tail cs<|st++[.cell vs.head?];(.cell st.length::r.1,r.2)
 |.Z6 i::ks,vs,cs,st=>let r:=cM ks vs cs st;((match cs[i]? with|some k=>.cell k|none=>.un)::r.1,r.2)
def tK(fn:Fn)(args:List SV):Option (List SV):=
 gd (decide (args.length<=fn.np)&&decide (fn.np<=args.length+fn.wz.length)) (args++fn.wz.drop (args.length+fn.wz.length-fn.np))
noncomputable def YX:FL->SV
 |.ret v=>v
 |.next=>.none
def qg(C:bT)(M:b6)(fn:Fn)(args:List SV)(cs:List Nat)(st:List SO):Option (SV×List SO):=
 (tK fn args).bind λas=>(cX C M fn.body ⟨(cM fn.kinds as cs st).1,(cM fn.kinds as cs st).2⟩).map λq=>(YX q.1,q.2.st)
def ll(n:Nat)(st:List SO):Option (List SO):=match decide (st.length<=n) with
 |true=>some st
 |false=>gd ((st.take n).all<|SO.low n)<|st.take n
def kR(C:bT)(M:b6)(fn:Fn)(args:List SV)(cs:List Nat)(st:List SO):Option (SV×List SO):=match fn.keep with
 |true=>qg C M fn args cs st
 |false=>match b8 args&&cs.isEmpty with
  |true=>(qg C M fn args cs []).bind λp=>(freeze fz p.1 p.2).map λr=>(r.1,st)
  |false=>(qg C M fn args cs st).bind λp=>(freeze fz p.1 p.2).bind λr=>(ll st.length r.2).map λs=>(r.1,s)
noncomputable def gK(k:Nat):List Nat->List SO->Option (List SO)
 |[],st=>some st
 |a::r,st=>(st[k]?.bind lD).bind λo=>(iu a o.2.1 0).bind λj=>o.2.2[j]?.bind λv=>(freeze fz v st).bind λp=>
   (p.2[k]?.bind lD).bind λo'=>(gd (o'.1==o.1) ()).bind λz=>gK k r<|p.2.set k<|.inst o.1 o'.2.1<|o'.2.2.set j p.1
def nX(C:bT)(M:b6)(a:Addr)(fn:Fn)(args:List SV)(st:List SO):Option (List SO):=(qg C M fn (.h st.length::args) []<|st++[.inst a [] []]).bind λp=>gd (isN p.1) p.2
def pT(C:bT)(M:b6)(a:Addr)(p:Pol)(fn:Fn)(args:List SV)(st:List SO):Option (SV×List SO):=match p with
 |.freeze=>match b8 args with
  |true=>(nX C M a fn args []).bind λst'=>(freeze fz (.h 0) st').map λr=>(r.1,st)
  |false=>(nX C M a fn args st).bind λst'=>(freeze fz (.h st.length) st').bind λr=>(ll st.length r.2).map λs=>(r.1,s)
 |.keep=>(nX C M a fn args st).map λst'=>(.h st.length,st')
 |.some as=>(nX C M a fn args st).bind λst'=>(gK st.length as st').bind λst''=>(ll (lX st'').length st'').map λs=>(.h st.length,s)
noncomputable def Wo:Value->Option Addr
 |.ref a=>some a
 |_=>none
noncomputable def rn(P:FC):Nat->bT
 |0=>λz z z=>none
 |d+1=>λf args st=>match f with
  |.raw v=>(Wo v).bind λa=>match P.fns a with
   |some fn=>kR (rn P d) P.meths fn args [] st
   |none=>(P.cls a).bind λc=>(P.fns c.init).bind λfn=>pT (rn P d) P.meths a c.N5 fn args st
  |.t5 a self=>(P.fns a).bind λfn=>kR (rn P d) P.meths fn (self::args) [] st
  |.LR k cs=>(P.nest k).bind λfn=>kR (rn P d) P.meths fn args cs st
  |_=>none
theorem lvV(h:LV.val a=LV.val b):a=b:=by injection h
theorem lvC(h:LV.cell a=LV.cell b):a=b:=by injection h
theorem svB(h:SV.bool a=SV.bool b):a=b:=by injection h
section
variable{α β γ:Type}{P:Prop}
theorem aW(e:(none:Option α)=some x):P:=HM rfl<|heq_of_eq e
theorem jO{x:α}(e:some x=none):P:=aW e.symm
theorem aw{x:Option α}{b:β}(e:x.bind f=some b)(k:∀a,x=some a->f a=some b->P):P:=by
 cases x with
 |none=>exact aW e
 |some a=>exact k a rfl e
theorem dj{x:Option α}{b:β}(e:x.map f=some b)(k:∀a,x=some a->f a=b->P):P:=by
 cases x with
 |none=>exact aW e
 |some a=>exact k a rfl<|aa e
theorem j8{c:Bool}(e:gd c x=some y)(k:c=true->x=y->P):P:=by
 cases c with
 |false=>exact aW e
 |true=>exact k rfl<|aa e
theorem r7{c:Bool}{b:β}(e:(gd c ()).bind f=some b)(k:c=true->f ()=some b->P):P:=by
 cases c with
 |false=>exact aW e
 |true=>exact k rfl e
theorem kK(e:one l=some x)(k:l=[x]->P):P:=k (by rcases l with _|⟨a,_|_⟩<;>first|exact congrArg (λz=>[z]) (aa e)|exact aW e)
theorem Bx{l:List α}{x:α×α}(e:zV l=some x)(k:l=[x.1,x.2]->P):P:=k (by rcases l with _|⟨a,_|⟨b,_|_⟩⟩<;>first|exact congrArg (λz:α×α=>[z.1,z.2]) (aa e)|exact aW e)
theorem W6{l:List α}{x:α×α×α}(e:VD l=some x)(k:l=[x.1,x.2.1,x.2.2]->P):P:=k (by rcases l with _|⟨a,_|⟨b,_|⟨c,_|_⟩⟩⟩<;>first|exact congrArg (λz:α×α×α=>[z.1,z.2.1,z.2.2]) (aa e)|exact aW e)
theorem cI{a b:Bool}(e:(a&&b)=true)(k:a=true->b=true->P):P:=k (bW.mp e).1 (bW.mp e).2
theorem fX[Decidable p](e:decide p=true):p:=of_decide_eq_true e
theorem sO{l:List α}{r:List β}{a x:α}{b y:β}(hl:r.length=l.length)(h1:(l++[a])[i]? =some x)(h2:(r++[b])[i]? =some y)(k1:l[i]? =some x->r[i]? =some y->P)(k2:i=l.length->a=x->b=y->P):P:=by
 rcases Nat.lt_trichotomy i l.length with q|q|q
 ·rw[aL q] at h1;rw[aL<|hl▸q] at h2;exact k1 h1 h2
 ·subst q;rw[aA<|aG _,bF] at h1;rw[<-hl,aA<|aG _,bF] at h2;exact k2 rfl (aa h1)<|aa h2
 ·rw[gW (by rw[aj];exact q)] at h1;cases h1
end
section
variable{P:Prop}{v:SV}{o:SO}
theorem iD(e:kS v=some i)(k:v=.int i->P):P:=k (by cases v<;>first|exact congrArg SV.int (aa e)|exact aW e)
theorem zl(e:zm v=some i)(k:v=.tup i->P):P:=k (by cases v<;>first|exact congrArg SV.tup (aa e)|exact aW e)
theorem Zw(e:Wp v=some i)(k:v=.lst i->P):P:=k (by cases v<;>first|exact congrArg SV.lst (aa e)|exact aW e)
theorem sf(e:tJ v=some i)(k:v=.dx i->P):P:=k (by cases v<;>first|exact congrArg SV.dx (aa e)|exact aW e)
theorem Zu(e:Wn v=some i)(k:v=.str i->P):P:=k (by cases v<;>first|exact congrArg SV.str (aa e)|exact aW e)
theorem Lq(e:UL v=some i)(k:v=.h i->P):P:=k (by cases v<;>first|exact congrArg SV.h (aa e)|exact aW e)
theorem Bz(e:gh v=some i)(k:v=.bool i->P):P:=k (by cases v<;>first|exact congrArg SV.bool (aa e)|exact aW e)
theorem R5(e:gE o=some xs)(k:o=.list xs->P):P:=k (by cases o<;>first|exact congrArg SO.list (aa e)|exact aW e)
theorem R7(e:pC o=some p)(k:o=.dict p.1 p.2->P):P:=k (by cases o<;>first|exact congrArg (λp:List SV×List SV=>SO.dict p.1 p.2) (aa e)|exact aW e)
theorem R6(e:lD o=some p)(k:o=.inst p.1 p.2.1 p.2.2->P):P:=k (by cases o<;>first|exact congrArg (λp:Addr×List Nat×List SV=>SO.inst p.1 p.2.1 p.2.2) (aa e)|exact aW e)
theorem R8(e:pD o=some p)(k:o=.cell p->P):P:=k (by cases o<;>first|exact congrArg SO.cell (aa e)|exact aW e)
variable{st:List SO}{j:Nat}
theorem vU(e:st[j]?.bind gE=some xs):st[j]? =some (.list xs):=aw e λy h q=>R5 q λz=>z▸h
theorem Ht(e:st[j]?.bind pC=some p):st[j]? =some (.dict p.1 p.2):=aw e λy h q=>R7 q λz=>z▸h
theorem CG(e:st[j]?.bind lD=some p):st[j]? =some (.inst p.1 p.2.1 p.2.2):=aw e λy h q=>R6 q λz=>z▸h
theorem Qo(e:st[j]?.bind pD=some p):st[j]? =some (.cell p):=aw e λy h q=>R8 q λz=>z▸h
theorem agn(e:jy st v=some xs)(k1:v=.lst xs->P)(k2:∀k,v=.h k->st[k]? =some (.list xs)->P):P:=by cases v<;>first|exact k1 (congrArg SV.lst<|aa e)|exact k2 _ rfl (vU e)|exact aW e
theorem ag0(e:jk st v=some p)(k1:v=.hH p.1 p.2->P)(k2:∀k,v=.h k->st[k]? =some (.dict p.1 p.2)->P):P:=by cases v<;>first|exact k1 (congrArg (λp:List SV×List SV=>SV.hH p.1 p.2)<|aa e)|exact k2 _ rfl (Ht e)|exact aW e
theorem agq(e:q9 st v=some p)(k1:v=.inst p.1 p.2.1 p.2.2->P)(k2:∀k,v=.h k->st[k]? =some (.inst p.1 p.2.1 p.2.2)->P):P:=by cases v<;>first|exact k1 (congrArg (λp:Addr×List Nat×List SV=>SV.inst p.1 p.2.1 p.2.2)<|aa e)|exact k2 _ rfl (CG e)|exact aW e
theorem aa0(e:nc st v=some xs)(k1:v=.tup xs->P)(k2:jy st v=some xs->P):P:=by cases v<;>first|exact k1 (congrArg SV.tup<|aa e)|exact k2 e
end
section
variable{C:bT}{M:b6}{σ bk:bo}{v:SV}{P:Prop}{a b c:E}{es:List E}
theorem eI{α β:Type}{a a':α}{b b':β}(e:(a,b)=(a',b'))(k:a=a'->b=b'->P):P:=Prod.noConfusion rfl rfl (heq_of_eq e) λx y=>k (eq_of_heq x)<|eq_of_heq y
theorem NN{α:Type}{x:Option α}{b:α×bo}(e:x.map (·,τ)=some b)(k:x=some b.1->τ=b.2->P):P:=dj e λa h q=>by subst q;exact k h rfl
theorem GW(e:LN f x y=some v)(k:∀i j c,x=.int i->y=.int j->f i j=some c->.int c=v->P):P:=aw e λi hi e=>aw e λj hj e=>dj e λc hc e=>iD hi λh1=>iD hj λh2=>k i j c h1 h2 hc e
theorem Xg(e:Z5 f x y=some v)(k:∀i j c,x=.dx i->y=.dx j->f i j=some c->.dx c=v->P):P:=aw e λi hi e=>aw e λj hj e=>dj e λc hc e=>sf hi λh1=>sf hj λh2=>k i j c h1 h2 hc e
theorem DR(h:(m||!b8 xs)=true):dN m xs σ=alloc (.list xs) σ:=by unfold dN;rw[h]
theorem yM(h:(m||!b8 xs)=false):dN m xs σ=(.lst xs,σ)/\SV.free.go xs=true:=by
 refine⟨by unfold dN;rw[h],?_⟩;cases q:b8 xs with
 |true=>exact q
 |false=>rw[q] at h;cases m<;>cases h
theorem xk(e:mq i σ=some v)(k1:σ.loc[i]? =some (.val v)->P)(k2:∀j,σ.loc[i]? =some (.cell j)->σ.st[j]? =some (.cell<|some v)->P):P:=aw e λlv h e=>by
 cases lv with
 |un=>exact aW e
 |val w=>exact k1<|h.trans<|congrArg (λz=>some<|LV.val z)<|aa e
 |cell j=>exact aw e λo ho e=>k2 j h<|(Qo ho).trans<|congrArg (λz=>some<|SO.cell z) e
theorem BM(e:iy i v σ=some bk)(k1:∀j ov,σ.loc[i]? =some (.cell j)->σ.st[j]? =some (.cell ov)->{σ with st:=σ.st.set j<|.cell<|some v}=bk->P)(k2:∀lv,σ.loc[i]? =some lv->(∀j,lv≠.cell j)->{σ with loc:=σ.loc.set i<|.val v}=bk->P):P:=aw e λlv h e=>by
 cases lv with
 |un=>exact k2 _ h (λy z=>LV.noConfusion z)<|aa e
 |val w=>exact k2 _ h (λy z=>LV.noConfusion z)<|aa e
 |cell j=>exact dj e λo ho e=>k1 j o h (Qo ho) e
theorem oN:jg x y=true↔x=y:=⟨λh=>by have h:=beq_iff_eq.mp h;obtain⟨⟨l⟩⟩:=x;obtain⟨⟨l'⟩⟩:=y;exact congrArg (λz=>Str.mk ⟨z⟩) h,λh=>h▸beq_self_eq_true _⟩
theorem oO{a b:Str}(h:jg a b=true):a=b:=oN.mp h
theorem M1{a b:Str}(h:jg a b=false):a≠b:=λe=>bh<|h.symm.trans<|oN.mpr e
end
section
variable{C:bT}{M:b6}{σ bk:bo}{v:SV}{P:Prop}{a b c:E}{es:List E}
theorem pI(e:some (x,τ)=some (v,bk))(k:x=v->τ=bk->P):P:=eI (aa e) k
theorem DW{α:Type}{x:Option α}{f:α->SV}(e:x.map (λy=>(f y,τ))=some (v,bk))(k:∀y,x=some y->f y=v->τ=bk->P):P:=dj e λy h q=>eI q<|k y h
theorem gd1{b:Bool}(e:gd b (x,τ)=some (v,bk))(k:b=true->x=v->τ=bk->P):P:=j8 e λh q=>eI q<|k h
theorem abK(ev:cj C M (.loc i) σ=some (v,bk))(k:mq i σ=some v->σ=bk->P):P:=DW ev λy h e1 e2=>k (e1▸h) e2
theorem abG(ev:cj C M (.tup es) σ=some (v,bk))(k:∀vs,iq C M es σ=some (vs,bk)->vs.length<=eA->.tup vs=v->P):P:=aw ev λp h ev=>gd1 ev λq e1 e2=>k p.1 (e2▸h) (fX q) e1
theorem Yc(ev:cj C M (.list m es) σ=some (v,bk))(k:∀vs τ,iq C M es σ=some (vs,τ)->vs.length<=eA->dN m vs τ=(v,bk)->P):P:=aw ev λp h ev=>j8 ev λq e=>k p.1 p.2 h (fX q) e
theorem TQ(ev:cj C M (.Es x y) σ=some (v,bk))(k:dC x=true->.hH [.str x] [.str y]=v->σ=bk->P):P:=gd1 ev k
theorem Ye(ev:cj C M (.attr a i) σ=some (v,bk))(k:∀o,cj C M a σ=some (o,bk)->Hs M bk.st o i=some v->P):P:=aw ev λp h ev=>DW ev λy h2 e1 e2=>k p.1 (e2▸h)<|e1▸e2▸h2
theorem abH(ev:cj C M (.sub a b) σ=some (v,bk))(k:∀o aq j,cj C M a σ=some (o,aq)->cj C M b aq=some (j,bk)->gi bk.st o j=some v->P):P:=
 aw ev λp h ev=>aw ev λq h2 ev=>DW ev λy h3 e1 e2=>k p.1 p.2 q.1 h (e2▸h2)<|e1▸e2▸h3
theorem X8(ev:cj C M (.kb a b) σ=some (v,bk))(k:∀o aq j aU,cj C M a σ=some (o,aq)->cj C M b aq=some (j,aU)->kb aU o j=some (v,bk)->P):P:=aw ev λp h ev=>aw ev λq h2 ev=>k p.1 p.2 q.1 q.2 h h2 ev
theorem OZ(ev:cj C M (.kc a b) σ=some (v,bk))(k:∀o aq j aU,cj C M a σ=some (o,aq)->cj C M b aq=some (j,aU)->kc aU o j=some (v,bk)->P):P:=aw ev λp h ev=>aw ev λq h2 ev=>k p.1 p.2 q.1 q.2 h h2 ev
theorem TM(ev:cj C M (.yp a) σ=some (v,bk))(k:∀o aq xs,cj C M a σ=some (o,aq)->jy aq.st o=some xs->xs.length<=eA->dN false xs.reverse aq=(v,bk)->P):P:=aw ev λp h ev=>aw ev λxs h2 ev=>j8 ev λq e=>k p.1 p.2 xs h h2 (fX q) e
theorem abM(ev:cj C M (.bin op a b) σ=some (v,bk))(k:∀x aq y,cj C M a σ=some (x,aq)->cj C M b aq=some (y,bk)->m7 op x y=some v->P):P:=
 aw ev λp h ev=>aw ev λq h2 ev=>DW ev λy h3 e1 e2=>k p.1 p.2 q.1 h (e2▸h2)<|e1▸h3
theorem V6(ev:cj C M (.not a) σ=some (v,bk))(k:∀x d,cj C M a σ=some (x,bk)->gh x=some d->.bool (!d)=v->P):P:=aw ev λp h ev=>DW ev λd h2 e1 e2=>k p.1 d (e2▸h) h2 e1
theorem abJ(ev:cj C M (.neg a) σ=some (v,bk))(k:∀i,cj C M a σ=some (.int i,bk)->.int (-i)=v->P):P:=aw ev λp h ev=>DW ev λi h2 e1 e2=>iD h2 λh3=>k i (by rw[h,<-e2,<-h3]) e1
theorem V8(ev:cj C M (.cmp op a b) σ=some (v,bk))(k:∀x aq y d,cj C M a σ=some (x,aq)->cj C M b aq=some (y,bk)->jB bk.st op x y=some d->.bool d=v->P):P:=
 aw ev λp h ev=>aw ev λq h2 ev=>DW ev λd h3 e1 e2=>k p.1 p.2 q.1 d h (e2▸h2) (e2▸h3) e1
theorem O0(ev:cj C M (.CC o1 o2 a b c) σ=some (v,bk))(k1:∀x aq y aU z d,cj C M a σ=some (x,aq)->cj C M b aq=some (y,aU)->jB aU.st o1 x y=some true->cj C M c aU=some (z,bk)->jB bk.st o2 y z=some d->.bool d=v->P)
  (k2:∀x aq y,cj C M a σ=some (x,aq)->cj C M b aq=some (y,bk)->jB bk.st o1 x y=some false->.bool false=v->P):P:=
 aw ev λp h ev=>aw ev λq h2 ev=>aw ev λd h3 ev=>by
  cases d with
  |true=>exact aw ev λt h4 ev=>DW ev λd h5 e1 e2=>k1 p.1 p.2 q.1 q.2 t.1 d h h2 h3 (e2▸h4) (e2▸h5) e1
  |false=>exact pI ev λe1 e2=>k2 p.1 p.2 q.1 h (e2▸h2) (e2▸h3) e1
theorem V7(ev:cj C M (.ite a b c) σ=some (v,bk))(k:∀x aq d,cj C M a σ=some (x,aq)->gh x=some d->cj C M (match d with|true=>b|false=>c) aq=some (v,bk)->P):P:=
 aw ev λp h ev=>aw ev λd h2 ev=>k p.1 p.2 d h h2 (by cases d<;>exact ev)
theorem O1(ev:cj C M (.bi f es) σ=some (v,bk))(k:∀vs τ,iq C M es σ=some (vs,τ)->zj f vs τ=some (v,bk)->P):P:=aw ev λp h ev=>k p.1 p.2 h ev
theorem abI(ev:cj C M (.rep m a b) σ=some (v,bk))(k:∀x aq i aU,cj C M a σ=some (x,aq)->cj C M b aq=some (.int i,aU)->i.natAbs<=eA->dN m (br i.toNat x) aU=(v,bk)->P):P:=
 aw ev λp h ev=>aw ev λq h2 ev=>aw ev λi h3 ev=>j8 ev λhl e=>iD h3 λh3=>k p.1 p.2 i q.2 h (by rw[h2,<-h3]) (fX hl) e
theorem Wl{x:Option (SV×List SO)}(e:x.map (WN τ)=some (v,bk))(k:∀st,x=some (v,st)->{τ with st:=st}=bk->P):P:=dj e λr h q=>eI q λe1 e2=>k r.2 (by rw[h,<-e1]) e2
theorem Yd(ev:cj C M (.call a es) σ=some (v,bk))(k:∀f aq vs aU st,cj C M a σ=some (f,aq)->iq C M es aq=some (vs,aU)->C f vs aU.st=some (v,st)->{aU with st:=st}=bk->P):P:=
 aw ev λp h ev=>aw ev λq h2 ev=>Wl ev λst h3 e=>k p.1 p.2 q.1 q.2 st h h2 h3 e
theorem Yb(ev:cj C M (.bx a i es) σ=some (v,bk))(k1:∀o aq z f vs aU st,cj C M a σ=some (o,aq)->q9 aq.st o=some z->iu i z.2.1 0=none->M z.1 i=some f->iq C M es aq=some (vs,aU)->C (.raw<|.ref f) (o::vs) aU.st=some (v,st)->{aU with st:=st}=bk->P)
  (k2:∀o aq vs aU,cj C M a σ=some (o,aq)->q9 aq.st o=none->qV aq.st o i=true->iq C M es aq=some (vs,aU)->iA o i vs aU=some (v,bk)->P):P:=
 aw ev λp h ev=>by
  cases hi:q9 p.2.st p.1 with
  |some z=>rw[hi] at ev;exact r7 ev λhn ev=>aw ev λf hf ev=>aw ev λq h2 ev=>Wl ev λst h3 e=>k1 p.1 p.2 z f q.1 q.2 st h hi (bM.mp hn) hf h2 h3 e
  |none=>rw[hi] at ev;exact r7 ev λhn ev=>aw ev λq h2 ev=>k2 p.1 p.2 q.1 q.2 h hi hn h2 ev
theorem abL(ev:iq C M (a::es) σ=some (vs,bk))(k:∀x aq xs,cj C M a σ=some (x,aq)->iq C M es aq=some (xs,bk)->x::xs=vs->P):P:=aw ev λp h ev=>dj ev λr h2 e=>eI e λe1 e2=>k p.1 p.2 r.1 h (by rw[h2,<-e2]) e1
theorem IS(ev:kP C M (a::es) σ=some (v,bk))(k1:∀x aq,cj C M a σ=some (x,aq)->gh x=some true->kP C M es aq=some (v,bk)->P)(k2:∀x,cj C M a σ=some (x,bk)->gh x=some false->.bool false=v->P):P:=
 aw ev λp h ev=>aw ev λd h2 ev=>by
  cases d with
  |true=>exact k1 p.1 p.2 h h2 ev
  |false=>exact pI ev λe1 e2=>k2 p.1 (e2▸h) h2 e1
theorem X9(ev:En C M (a::es) σ=some (v,bk))(k1:∀x aq,cj C M a σ=some (x,aq)->gh x=some false->En C M es aq=some (v,bk)->P)(k2:∀x,cj C M a σ=some (x,bk)->gh x=some true->.bool true=v->P):P:=
 aw ev λp h ev=>aw ev λd h2 ev=>by
  cases d with
  |false=>exact k1 p.1 p.2 h h2 ev
  |true=>exact pI ev λe1 e2=>k2 p.1 (e2▸h) h2 e1
end
abbrev FH:=Addr->Option Obj
abbrev eE:=List<|Addr×Addr
structure nz where
 name:Str
 qual:Str
 params:fh
 body:List zO
 scope:Scope
 free:List Str
structure dM where
 prog:Program
 w:cU
 nm:Nat->Str
 VT:∀a b,nm a=nm b->a=b
 uM:Addr->Bool
 nest:Nat->Option nz
 base:FH
 tab:Addr->Bool
 n9:Heap->Prop
 mI:∀h h',n9 h->(∀b o,h.get? b=some o->tab b=true->h'.get? b=some o)->(∀b o,base b=some o->h'.get? b=some o)->n9 h'
 Dm:∀h b,n9 h->tab b=true->∃o,h.get? b=some o
 lQ:Heap->Addr->Str->Prop
 A0:∀h h',n9 h->(∀b o,h.get? b=some o->tab b=true->h'.get? b=some o)->∀c q,lQ h' c q->lQ h c q
 s₀:Shared
mutual
noncomputable def eM(w:cU):PyData->Int
 |.int i=>iG i
 |.str s=>hashStr w s
 |.tuple xs=>reduceHash<|ft<|mO w xs
 |_=>0
noncomputable def mO(w:cU):List PyData->List Int
 |[]=>[]
 |x::xs=>eM w x::mO w xs
end
structure pW(w:cU)(ks:List SV)(ds:List PyData)(hs:List Int):Prop where
 py:fR ks=some ds
 key:∀d∈ds,fD d=true
 deep:∀d∈ds,d.depth<=cw
 nodup:ds.Nodup
 aiA:∀d∈ds,∀d'∈ds,gY d=gY d'
 hash:hs=ds.map (eM w)
theorem pW.nil(w:cU):pW w [] [] []:=⟨rfl,λz h=>(absurd h aK),λz h=>(absurd h aK),gq,λz h=>(absurd h aK),rfl⟩
def SG.T1(es:Array (Int×Value))(p:Int->Prop):Prop:=∀e∈es.toList,∃i tk,e=(iG i,jb i tk)/\p i
def SG.T2(es:Array (Int×Value))(p:Int->Prop):Prop:=∀i,p i->∃tk,(iG i,jb i tk)∈es.toList
structure SG(w:cU)(es:Array (Int×Value))(t:SetTable)(p:Int->Prop):Prop where
 each:SG.T1 es p
 all:SG.T2 es p
 nodup:(es.toList.map (·.1)).Nodup
 low:∀i,p i->0<=i/\i<32
 fits:t.fits es.size=true
 K8:t.dummies=#[]
 led:w.params.followText "set-order"=true\/t.led=true
structure EM(w:cU)(es:Array (Int×Value))(t:SetTable)(xs:List Int):Prop where
 g:SG w es t (·∈xs)
 sorted:xs.Pairwise (·<·)
 small:uE xs=true
structure HF(Z:dM)(c:Addr)(as:List Nat):Prop where
 nodup:as.Nodup
 low:∀a∈as,a<iY
 cls:Z.uM c=true
def f7(nm:Nat->Str):List Nat->List DictEntry->Prop
 |[],[]=>True
 |a::as,e::es=>(∃t,e.key=.str (nm a) t)/\f7 nm as es
 |_,_=>False
inductive ER(Z:dM)(g:FH)(k:Nat)(cells:List Addr)(a:Addr):Prop
 |mk (fd:FuncData) (ni:nz) (c:Addr) (oc:Obj) (vs:Array Value) (t:Tok) (h1:g a=some {cls:=.type "function",data:=.func fd}) (h2:Z.nest k=some ni) (h3:fd.qualname=ni.qual) (h4:fd.params=ni.params) (h5:fd.body=.stmts ni.body) (h6:fd.scope=ni.scope)
  (h7:fd.globals=cE) (h8:fd.builtins=hU) (h9:fd.defaults=.none) (h10:fd.kwdefaults=.none) (h11:fd.closure.map (·.2)=cells) (h12:fd.closure.map (·.1)=ni.free)
  (h13:fd.code=.ref c) (h14:g c=some oc) (h15:oc.data=.fields vs) (h16:vs[1]? =some (.str ni.qual t))
noncomputable abbrev nO(vs:Array Value)(n:Nat):Obj:={cls:=.type "list",data:=.seq vs n}
noncomputable abbrev RS(vs:Array Value)(n:Nat):Obj:={cls:=.type "tuple",data:=.seq vs n}
noncomputable abbrev zF(c:String)(es:Array (Int×Value))(n:Nat)(t:SetTable):Obj:={cls:=.type c,data:=.set es n t}
abbrev yV(es:Array (Int×Value))(n:Nat)(t:SetTable):Obj:=zF "frozenset" es n t
noncomputable abbrev acJ(v:Option Value):Obj:={cls:=.type "cell",data:=.cell v}
mutual
def RV(Z:dM)(g:FH)(ρ:eE):SV->Value->Prop
 |.none,v=>v=.none
 |.bool b,v=>v=.bool b
 |.int i,v=>∃t,v=.int i t
 |.str s,v=>∃t,v=.str s t
 |.raw x,v=>v=x/\handedIn x=true
 |.tup xs,v=>∃a vs n,v=.ref a/\g a=some (RS vs n)/\ei Z g ρ xs vs.toList
 |.lst xs,v=>∃a vs n,v=.ref a/\g a=some (nO vs n)/\ei Z g [] xs vs.toList
 |.hH ks vs,v=>∃a es n,v=.ref a/\g a=some (dictOf es n)/\ei Z g [] ks (es.map (·.key))/\ei Z g [] vs (es.map (·.val))/\(∃ds,pW Z.w ks ds<|es.map (·.hash))/\a≠sysModules
 |.dx xs,v=>∃a es n t,v=.ref a/\g a=some (yV es n t)/\EM Z.w es t xs
 |.inst c as vs,v=>∃a d es n,v=.ref a/\g a=some (nB c d)/\g d=some (dictOf es n)/\f7 Z.nm as es/\HF Z c as/\ei Z g [] vs (es.map (·.val))
 |.t5 f s,v=>∃a sv,v=.ref a/\g a=some (methodObj (.ref f) sv)/\RV Z g ρ s sv
 |.LR k cs,v=>∃a cells,v=.ref a/\cs.map (λc=>(ρ[c]?).map (·.1))=cells.map some/\ER Z g k cells a
 |.h k,v=>∃p,ρ[k]? =some p/\v=.ref p.1
def ei(Z:dM)(g:FH)(ρ:eE):List SV->List Value->Prop
 |[],vs=>vs=[]
 |x::xs,vs=>∃v vs',vs=v::vs'/\RV Z g ρ x v/\ei Z g ρ xs vs'
end
def RO(Z:dM)(g:FH)(ρ:eE)(h:Heap):SO->Addr×Addr->Prop
 |.list xs,p=>p.1=p.2/\∃vs n,h.get? p.1=some (nO vs n)/\ei Z g ρ xs vs.toList
 |.dict ks vs,p=>p.1=p.2/\∃es n,h.get? p.1=some (dictOf es n)/\ei Z g [] ks (es.map (·.key))/\ei Z g ρ vs (es.map (·.val))/\(∃ds,pW Z.w ks ds<|es.map (·.hash))/\p.1≠sysModules
 |.inst c as vs,p=>p.1≠p.2/\∃es n,h.get? p.1=some (nB c p.2)/\h.get? p.2=some (dictOf es n)/\f7 Z.nm as es/\HF Z c as/\ei Z g ρ vs (es.map (·.val))
 |.cell v,p=>p.1=p.2/\∃o ov,h.get? p.1=some o/\o.data=.cell ov/\match v with|none=>ov=none|some x=>∃y,ov=some y/\RV Z g ρ x y
 |.gone,_=>True
structure ey(g:FH)(ρ:eE)(g':FH)(bQ:eE):Prop where
 g:∀b o,g b=some o->g' b=some o
 ρ:∃more,bQ=ρ++more
theorem ey.refl(g:FH)(ρ:eE):ey g ρ g ρ:=⟨λz z e=>e,[],by simp⟩
theorem ey.trans{g g' g'':FH}{ρ bQ aac:eE}(x:ey g ρ g' bQ)(y:ey g' bQ g'' aac):ey g ρ g'' aac:=by refine fT x.ρ λm hm=>fT y.ρ λm' hm'=>?_;exact⟨λb o e=>y.g b o<|x.g b o e,m++m',by rw[hm',hm,aO]⟩
theorem ey.at{g g':FH}{ρ bQ:eE}(x:ey g ρ g' bQ){k:Nat}{p:Addr×Addr}(h:ρ[k]? =some p):bQ[k]? =some p:=by refine fT x.ρ λm hm=>?_;rw[hm,aL (af.mp h).1];exact h
theorem ey.nil{g g':FH}{ρ bQ:eE}(x:ey g ρ g' bQ):ey g [] g' []:=⟨x.g,[],rfl⟩
theorem ER.mono{Z:dM}{g g':FH}(x:∀b o,g b=some o->g' b=some o):ER Z g k cells a->ER Z g' k cells a:=
 λh=>by
  cases h with
  |mk fd ni c oc vs t h1 h2 h3 h4 h5 h6 h7 h8 h9 h10 h11 h12 h13 h14 h15 h16=>exact .mk fd ni c oc vs t (x _ _ h1) h2 h3 h4 h5 h6 h7 h8 h9 h10 h11 h12 h13 (x _ _ h14) h15 h16
theorem SD{ρ bQ:eE}(h:∀(k:Nat)(p:Addr×Addr),ρ[k]? =some p->bQ[k]? =some p):∀{cs:List Nat}{cells:List Addr},cs.map (λc=>(ρ[c]?).map (·.1))=cells.map some->cs.map (λc=>(bQ[c]?).map (·.1))=cells.map some:=λ{cs}=>by
 induction cs with
 |nil=>exact λe=>e
 |cons c cs ih=>
  intro cells e;cases cells with
  |nil=>exact nomatch e
  |cons b cells=>have e:=iT e;exact List.cons_eq_cons.mpr ⟨dj e.1 λp hp hb=>by show(bQ[c]?).map _=_;rw[h _ _ hp,<-hb];rfl,ih e.2⟩
mutual
theorem RV.qU{Z:dM}{g g':FH}{ρ bQ:eE}(x:ey g ρ g' bQ):∀(sv:SV)(v:Value),RV Z g ρ sv v->RV Z g' bQ sv v
 |.none,_=>id
 |.bool _,_=>id
 |.int _,_=>id
 |.str _,_=>id
 |.raw _,_=>id
 |.tup xs,_=>aD λz=>aD λz=>aD λz=>aH<|iL (x.g _ _)<|ei.qU x xs _
 |.lst xs,_=>aD λz=>aD λz=>aD λz=>aH<|iL (x.g _ _)<|ei.qU x.nil xs _
 |.hH ks vs,_=>aD λz=>aD λz=>aD λz=>aH<|iL (x.g _ _)<|iL (ei.qU x.nil ks _)<|cP<|ei.qU x.nil vs _
 |.dx _,_=>aD λz=>aD λz=>aD λz=>aD λz=>aH<|cP<|x.g _ _
 |.inst _ _ vs,_=>aD λz=>aD λz=>aD λz=>aD λz=>aH<|iL (x.g _ _)<|iL (x.g _ _)<|aH<|aH<|ei.qU x.nil vs _
 |.t5 _ s,_=>aD λz=>aD λz=>aH<|iL (x.g _ _)<|RV.qU x s _
 |.LR _ _,_=>aD λz=>aD λz=>aH<|iL (SD λz z=>x.at)<|ER.mono x.g
 |.h _,_=>aD λz=>cP x.at
theorem ei.qU{Z:dM}{g g':FH}{ρ bQ:eE}(x:ey g ρ g' bQ):∀(xs:List SV)(vs:List Value),ei Z g ρ xs vs->ei Z g' bQ xs vs
 |[],_=>id
 |y::ys,_=>aD λz=>aD λz=>aH<|iL (RV.qU x y _)<|ei.qU x ys _
end
theorem RV.mono{Z:dM}{g g':FH}{ρ bQ:eE}(x:ey g ρ g' bQ):RV Z g ρ sv v->RV Z g' bQ sv v:=RV.qU x sv v
theorem ei.mono{Z:dM}{g g':FH}{ρ bQ:eE}(x:ey g ρ g' bQ):ei Z g ρ xs vs->ei Z g' bQ xs vs:=ei.qU x xs vs
theorem ey.ke(g:FH)(ρ:eE):ey g [] g ρ:=⟨λz z e=>e,ρ,rfl⟩
mutual
theorem RV.yZ{Z:dM}{g:FH}{ρ bQ:eE}:∀(sv:SV)(v:Value),sv.free=true->RV Z g ρ sv v->RV Z g bQ sv v
 |.none,_,_=>id
 |.bool _,_,_=>id
 |.int _,_,_=>id
 |.str _,_,_=>id
 |.raw _,_,_=>id
 |.tup xs,_,f=>aD λz=>aD λz=>aD λz=>aH<|aH<|ei.yZ xs _ f
 |.lst _,_,_=>id
 |.hH _ _,_,_=>id
 |.dx _,_,_=>id
 |.inst _ _ _,_,_=>id
 |.t5 _ s,_,f=>aD λz=>aD λz=>aH<|aH<|RV.yZ s _ f
 |.LR _ _,_,f=>absurd f bh
 |.h _,_,f=>absurd f bh
theorem ei.yZ{Z:dM}{g:FH}{ρ bQ:eE}:∀(xs:List SV)(vs:List Value),SV.free.go xs=true->ei Z g ρ xs vs->ei Z g bQ xs vs
 |[],_,_=>id
 |y::ys,_,f=>aD λz=>aD λz=>aH<|iL (RV.yZ y _<|cI f λa z=>a)<|ei.yZ ys _<|cI f λz b=>b
end
theorem RV.free{Z:dM}{g:FH}{ρ bQ:eE}{sv:SV}:sv.free=true->RV Z g ρ sv v->RV Z g bQ sv v:=RV.yZ sv v
theorem ei.free{Z:dM}{g:FH}{ρ bQ:eE}:SV.free.go xs=true->ei Z g ρ xs vs->ei Z g bQ xs vs:=ei.yZ xs vs
theorem RO.mono{Z:dM}{g g':FH}{ρ bQ:eE}{h h':Heap}(x:ey g ρ g' bQ){p:Addr×Addr}(hk:∀b o,b=p.1\/b=p.2->h.get? b=some o->h'.get? b=some o)(r:RO Z g ρ h so p):RO Z g' bQ h' so p:=by
 revert r;cases so with
 |list xs=>exact aH<|aD λz=>aD λz=>iL (hk _ _<|.inl rfl)<|ei.mono x
 |dict ks vs=>exact aH<|aD λz=>aD λz=>iL (hk _ _<|.inl rfl)<|iL (ei.mono x.nil)<|cP<|ei.mono x
 |inst c as vs=>exact aH<|aD λz=>aD λz=>iL (hk _ _<|.inl rfl)<|iL (hk _ _<|.inr rfl)<|aH<|aH<|ei.mono x
 |cell v=>
  refine aH<|aD λz=>aD λz=>iL (hk _ _<|.inl rfl)<|aH ?_;cases v with
  |none=>exact id
  |some v=>exact aD λz=>aH<|RV.mono x
 |gone=>exact id
def b7.T1(fx:FH)(s:Shared):Prop:=∀b o,fx b=some o->s.heap.get? b=some o
def b7.T2(Z:dM)(st:List SO)(g:FH)(ρ:eE)(s:Shared):Prop:=∀(k:Nat)(o:SO)(p:Addr×Addr),st[k]? =some o->ρ[k]? =some p->RO Z g ρ s.heap o p
def b7.T3(st:List SO)(ρ:eE):Prop:=∀(i j:Nat)(x:Addr)(oi oj:SO)(p q:Addr×Addr),st[i]? =some oi->oi.live=true->ρ[i]? =some p->st[j]? =some oj->oj.live=true->ρ[j]? =some q->(x=p.1\/x=p.2)->(x=q.1\/x=q.2)->i=j
def b7.T4(Z:dM)(st:List SO)(g:FH)(fx:FH)(ρ:eE):Prop:=∀(k:Nat)(o:SO)(p:Addr×Addr)(x:Addr),st[k]? =some o->o.live=true->ρ[k]? =some p->(x=p.1\/x=p.2)->g x=none/\fx x=none/\Z.tab x=false
def b7.T5(Z:dM)(g:FH)(fx:FH):Prop:=∀b,Z.tab b=true->g b=none/\fx b=none
def b7.T6(Z:dM)(g:FH)(s:Shared):Prop:=∀c q,Z.lQ s.heap c q->∃o vs t,g c=some o/\o.data=.fields vs/\vs[1]? =some (.str q t)
structure b7(Z:dM)(st:List SO)(g:FH)(fx:FH)(ρ:eE)(s:Shared):Prop where
 keep:∀b o,g b=some o->s.heap.get? b=some o
 fix:b7.T1 fx s
 len:ρ.length=st.length
 objs:b7.T2 Z st g ρ s
 uniq:b7.T3 st ρ
 off:b7.T4 Z st g fx ρ
 top:∀b o,Z.base b=some o->g b=some o
 tabs:Z.n9 s.heap
 hW:b7.T5 Z g fx
 tY:∀b o,fx b=some o->g b=none
 same:s.gens=Z.s₀.gens/\s.drawn=Z.s₀.drawn/\s.os=Z.s₀.os
 codes:b7.T6 Z g s
section
variable{Z:dM}{st:List SO}{g fx:FH}{ρ:eE}{s:Shared}
theorem b7.fy(S:b7 Z st g fx ρ s):∀b o,Z.base b=some o->s.heap.get? b=some o:=λb o e=>S.keep b o<|S.top b o e
theorem b7.lR(S:b7 Z st g fx ρ s){g':FH}{h':Heap}(X:∀b o,g b=some o->g' b=some o)(k:∀b o,s.heap.get? b=some o->Z.tab b=true->h'.get? b=some o):
  ∀c q,Z.lQ h' c q->∃o vs t,g' c=some o/\o.data=.fields vs/\vs[1]? =some (.str q t):=λc q hc=>
 (S.codes c q<|Z.A0 _ _ S.tabs k c q hc).imp λz=>aD λz=>aD λz=>cP<|X _ _
theorem b7.rho(S:b7 Z st g fx ρ s){k:Nat}{o:SO}(h:st[k]? =some o):∃p,ρ[k]? =some p:=by have:=(af.mp h).1;rw[<-S.len] at this;exact⟨_,ay this⟩
theorem RO.there(r:RO Z g ρ h so p)(hl:so.live=true)(hx:x=p.1\/x=p.2):∃o,h.get? x=some o:=by
 cases so with
 |list xs=>obtain⟨e,vs,n,a,_⟩:=r;rcases hx with rfl|rfl;exact⟨_,a⟩;exact⟨_,e▸a⟩
 |dict ks vs=>obtain⟨e,es,n,a,_⟩:=r;rcases hx with rfl|rfl;exact⟨_,a⟩;exact⟨_,e▸a⟩
 |inst c as vs=>obtain⟨e,es,n,a,b,_⟩:=r;rcases hx with rfl|rfl;exact⟨_,a⟩;exact⟨_,b⟩
 |cell v=>obtain⟨e,o,ov,a,_⟩:=r;rcases hx with rfl|rfl;exact⟨_,a⟩;exact⟨_,e▸a⟩
 |gone=>exact ae hl
def eG(Z:dM)(g:FH)(h h':Heap)(ex:Addr->Bool):FH:=λb=>match g b with
 |some o=>some o
 |none=>if(h.get? b).isNone&&!ex b&&!Z.tab b then h'.get? b else none
theorem cv(e:g b=some o):eG Z g h h' ex b=some o:=by unfold eG;rw[e]
theorem gz(S:b7 Z st g fx ρ s){h':Heap}(n:s.heap.get? b=none)(e:h'.get? b=some o)(x:ex b=false)(t:Z.tab b=false):eG Z g s.heap h' ex b=some o:=by
 unfold eG;cases q:g b with
 |some o'=>rw[S.keep b o' q] at n;exact jO n
 |none=>simp[n,x,t,e]
theorem lU(e:eG Z g h h' ex b=some o):g b=some o\/(h.get? b=none/\ex b=false/\Z.tab b=false/\h'.get? b=some o):=by
 unfold eG at e;cases q:g b with
 |some o'=>rw[q] at e;exact .inl e
 |none=>
  rw[q] at e;dsimp only at e;split at e
  ·rename_i c
   simp only[dU,bM,wb] at c;exact .inr ⟨c.1.1,c.1.2,c.2,e⟩
  ·exact aW e
theorem dc{h h':Heap}(e:h.get? b=some o)(hg:g b=none):eG Z g h h' ex b=none:=by unfold eG;rw[hg,e];rfl
theorem b7.rL(S:b7 Z st g fx ρ s)(h:Z.tab b=true):∃o,s.heap.get? b=some o:=Z.Dm _ _ S.tabs h
theorem b7.fresh(S:b7 Z st g fx ρ s)(h:s.heap.get? b=none):g b=none/\fx b=none/\Z.tab b=false:=by
 refine⟨?_,?_,?_⟩
 ·cases q:g b with
  |none=>rfl
  |some o=>rw[S.keep b o q] at h;exact jO h
 ·cases q:fx b with
  |none=>rfl
  |some o=>rw[S.fix b o q] at h;exact jO h
 ·cases q:Z.tab b with
  |false=>rfl
  |true=>obtain⟨o,e⟩:=S.rL q;rw[e] at h;exact jO h
theorem b7.jU(S:b7 Z st g fx ρ s){k:Nat}{o:SO}{p:Addr×Addr}{x:Addr}(ho:st[k]? =some o)(hl:o.live=true)(hp:ρ[k]? =some p)(hx:x=p.1\/x=p.2):∃ob,s.heap.get? x=some ob:=
 (S.objs k o p ho hp).there hl hx
theorem ey.grown:ey g ρ (eG Z g h h' ex) ρ:=⟨λz z e=>cv e,[],by simp⟩
theorem b7.grow(S:b7 Z st g fx ρ s){h':Heap}(t':Nat)(hk:∀b o,s.heap.get? b=some o->h'.get? b=some o):
  b7 Z st (Mine.eG Z g s.heap h' λz=>false) fx ρ {s with heap:=h',toks:=t'} where
 keep b o e:=by
  rcases lU e with q|q
  ·exact hk _ _<|S.keep _ _ q
  ·exact q.2.2.2
 fix b o e:=hk _ _ (S.fix b o e)
 len:=S.len
 objs k o p ho hp:=(S.objs k o p ho hp).mono ey.grown λb ob z e=>hk _ _ e
 uniq:=S.uniq
 off k o p x ho hl hp hx:=by refine qe (S.off k o p x ho hl hp hx) λa b c=>⟨?_,b,c⟩;refine fT (S.jU ho hl hp hx) λob e=>?_;unfold eG;rw[a,e];rfl
 top b o e:=cv (S.top b o e)
 tabs:=Z.mI _ _ S.tabs (λb o e z=>hk b o e) λb o e=>hk _ _ (S.fy b o e)
 hW b hb:=by refine⟨?_,(S.hW b hb).2⟩;unfold eG;rw[(S.hW b hb).1,hb];simp
 tY b o e:=dc (S.fix b o e) (S.tY b o e)
 same:=S.same
 codes:=S.lR (λz z e=>cv e) λb o e z=>hk b o e
theorem O9(e:g b=none)(x:ex b=true):eG Z g h h' ex b=none:=by unfold eG;rw[e,x];simp
theorem b7.alloc(S:b7 Z st g fx ρ s){h':Heap}(t':Nat)(hk:∀b o,s.heap.get? b=some o->h'.get? b=some o)(so:SO)(p:Addr×Addr)(h1:s.heap.get? p.1=none)(h2:s.heap.get? p.2=none)
  (r:RO Z (Mine.eG Z g s.heap h' λb=>b==p.1||b==p.2) (ρ++[p]) h' so p):
  b7 Z (st++[so]) (Mine.eG Z g s.heap h' λb=>b==p.1||b==p.2) fx (ρ++[p]) {s with heap:=h',toks:=t'}:=by
 have X:ey g ρ (eG Z g s.heap h' λb=>b==p.1||b==p.2) (ρ++[p]):=⟨λy y e=>cv e,[p],rfl⟩
 have old:∀{i:Nat}{o:SO}{q:Addr×Addr}{x:Addr},st[i]? =some o->o.live=true->ρ[i]? =some q->(x=q.1\/x=q.2)->¬(x=p.1\/x=p.2):=λho hl hq hx=>by
  refine fT (S.jU ho hl hq hx) λob e=>?_;rintro(z|z)
  ·exact aW<|h1.symm.trans<|z▸e
  ·exact aW<|h2.symm.trans<|z▸e
 refine⟨λb o e=>?_,λb o e=>hk _ _<|S.fix b o e,by rw[aj,aj,S.len];rfl,λk o q ho hq=>?_,λi j x oi oj q q' hoi hli hqi hoj hlj hqj hx hx'=>?_,λk o q x ho hl hq hx=>?_,λb o e=>cv<|S.top b o e,Z.mI _ _ S.tabs (λb o e y=>hk b o e) λb o e=>hk _ _<|S.fy b o e,λb hb=>⟨?_,(S.hW b hb).2⟩,λb o e=>dc (S.fix b o e)<|S.tY b o e,S.same,S.lR (λy y e=>cv e) λb o e y=>hk b o e⟩
 ·rcases lU e with q|q
  ·exact hk _ _<|S.keep _ _ q
  ·exact q.2.2.2
 ·exact sO S.len ho hq (λho hq=>(S.objs k o q ho hq).mono X λb ob y e=>hk _ _ e) λy a b=>a▸b▸r
 ·exact sO S.len hoi hqi (λho hq=>sO S.len hoj hqj (λho' hq'=>S.uniq i j x oi oj q q' ho hli hq ho' hlj hq' hx hx') λy y b=>absurd (b▸hx')<|old ho hli hq hx)
   λhi y b=>sO S.len hoj hqj (λho' hq'=>absurd (b▸hx)<|old ho' hlj hq' hx') λhj y y=>hi.trans hj.symm
 ·refine sO S.len ho hq (λho hq=>?_) λy y b=>?_
  ·refine fT (S.jU ho hl hq hx) λob e=>⟨dc e (S.off k o q x ho hl hq hx).1,(S.off k o q x ho hl hq hx).2⟩
  ·have hx:=b▸hx;have f:=S.fresh<|hx.elim (λz=>z▸h1) λz=>z▸h2;exact⟨O9 f.1 (by simpa using hx),f.2⟩
 ·unfold eG;rw[(S.hW b hb).1,hb];simp
theorem rR(e:(st.set k so')[i]? =some o):(i=k/\o=so'/\k<st.length)\/(i≠k/\st[i]? =some o):=by
 rw[wa] at e;split at e
 ·rename_i q
  split at e
  ·exact .inl ⟨q.symm,(aa e).symm,by assumption⟩
  ·exact aW e
 ·rename_i q
  exact .inr ⟨λz=>q z.symm,e⟩
theorem b7.upd(S:b7 Z st g fx ρ s){h':Heap}(t':Nat){k:Nat}{so so':SO}{p:Addr×Addr}(ho:st[k]? =some so)(hl:so.live=true)(hp:ρ[k]? =some p)
  (hk:∀b o,b≠p.1->b≠p.2->s.heap.get? b=some o->h'.get? b=some o) (r:RO Z (Mine.eG Z g s.heap h' λy=>false) ρ h' so' p):
  b7 Z (st.set k so') (Mine.eG Z g s.heap h' λy=>false) fx ρ {s with heap:=h',toks:=t'}:=by
 have ne:∀{b:Addr}{o:Obj},(g b=some o\/fx b=some o)->b≠p.1/\b≠p.2:=by
  intro b o e;refine⟨λz=>?_,λz=>?_⟩
  ·refine qe (S.off k so p b ho hl hp<|.inl z) λa c y=>?_;rcases e with e|e
   ·rw[a] at e;exact aW e
   ·rw[c] at e;exact aW e
  ·refine qe (S.off k so p b ho hl hp<|.inr z) λa c y=>?_;rcases e with e|e
   ·rw[a] at e;exact aW e
   ·rw[c] at e;exact aW e
 have net:∀{b:Addr},Z.tab b=true->b≠p.1/\b≠p.2:=by
  intro b hb;refine⟨λz=>?_,λz=>?_⟩
  ·have:=(S.off k so p b ho hl hp<|.inl z).2.2;rw[hb] at this;exact ae this
  ·have:=(S.off k so p b ho hl hp<|.inr z).2.2;rw[hb] at this;exact ae this
 have keep':=λb o e=>hk b o (ne<|.inl e).1 (ne<|.inl e).2<|S.keep b o e
 refine⟨?_,λb o e=>hk b o (ne<|.inr e).1 (ne<|.inr e).2<|S.fix b o e,by simp[S.len],?_,?_,?_,λb o e=>cv<|S.top b o e,Z.mI _ _ S.tabs (λb o e hb=>hk b o (net hb).1 (net hb).2 e) λb o e=>keep' _ _<|S.top b o e,?_,λb o e=>dc (S.fix b o e)<|S.tY b o e,S.same,S.lR (λy y e=>cv e) λb o e hb=>hk b o (net hb).1 (net hb).2 e⟩
 ·intro b o e;rcases lU e with q|q
  ·exact keep' _ _ q
  ·exact q.2.2.2
 ·intro i o q hoi hqi;rcases rR hoi with ⟨rfl,rfl,_⟩|⟨hne,hoi⟩
  ·rw[hp] at hqi;obtain rfl:=aa hqi;exact r
  ·by_cases hli:o.live=true
   ·refine(S.objs i o q hoi hqi).mono ey.grown λb ob hb e=>hk b ob (λz=>hne ?_) (λz=>hne ?_) e
    ·exact S.uniq i k b o so q p hoi hli hqi ho hl hp hb<|.inl z
    ·exact S.uniq i k b o so q p hoi hli hqi ho hl hp hb<|.inr z
   ·cases o<;>first|exact absurd rfl hli|trivial
 ·intro i j x oi oj q q' hoi hli hqi hoj hlj hqj hx hx';have get:∀{i:Nat}{o:SO},(st.set k so')[i]? =some o->o.live=true->∃o',st[i]? =some o'/\o'.live=true:=by
   intro i o e l;rcases rR e with ⟨rfl,rfl,_⟩|⟨_,e⟩
   ·exact⟨so,ho,hl⟩
   ·exact⟨o,e,l⟩
  refine dS (get hoi hli) λoi' hoi' hli'=>dS (get hoj hlj) λoj' hoj' hlj'=>?_;exact S.uniq i j x oi' oj' q q' hoi' hli' hqi hoj' hlj' hqj hx hx'
 ·intro i o q x hoi hli hqi hx;have:∃o',st[i]? =some o'/\o'.live=true:=by
   rcases rR hoi with ⟨rfl,rfl,_⟩|⟨_,e⟩
   ·exact⟨so,ho,hl⟩
   ·exact⟨o,e,hli⟩
  refine dS this λo' ho' hl'=>qe (S.off i o' q x ho' hl' hqi hx) λa b c=>?_;refine⟨?_,b,c⟩;refine fT (S.jU ho' hl' hqi hx) λob e=>?_;unfold eG;rw[a,e];rfl
 ·intro b hb;refine⟨?_,(S.hW b hb).2⟩;unfold eG;rw[(S.hW b hb).1,hb];simp
noncomputable def frozen(g:FH)(h:Heap)(p:Addr×Addr):FH:=λb=>if b=p.1\/b=p.2 then h.get? b else g b
theorem ey.frozen(S:b7 Z st g fx ρ s){k:Nat}{so:SO}{p:Addr×Addr}(ho:st[k]? =some so)(hl:so.live=true)(hp:ρ[k]? =some p):ey g ρ (frozen g s.heap p) ρ:=by refine⟨λb o e=>?_,[],by simp⟩;unfold Mine.frozen;rw[if_neg (λz=>by rw[(S.off k so p b ho hl hp z).1] at e;exact aW e)];exact e
theorem b7.freeze(S:b7 Z st g fx ρ s){k:Nat}{so:SO}{p:Addr×Addr}(ho:st[k]? =some so)(hl:so.live=true)(hp:ρ[k]? =some p):b7 Z (st.set k .gone) (Mine.frozen g s.heap p) fx ρ s:=by
 have X:=ey.frozen S ho hl hp;have get:∀{i:Nat}{o:SO},(st.set k .gone)[i]? =some o->o.live=true->i≠k/\st[i]? =some o:=by
  intro i o e l;rcases rR e with ⟨rfl,rfl,_⟩|⟨n,e⟩
  ·exact ae l
  ·exact⟨n,e⟩
 refine⟨?_,S.fix,by simp[S.len],?_,?_,?_,λb o e=>X.g _ _<|S.top b o e,S.tabs,?_,?_,S.same,S.lR X.g λy y e y=>e⟩
 ·intro b o e;unfold frozen at e;split at e
  ·exact e
  ·exact S.keep b o e
 ·intro i o q hoi hqi;by_cases hli:o.live=true
  ·exact(S.objs i o q (get hoi hli).2 hqi).mono X λy y y e=>e
  ·cases o<;>first|exact absurd rfl hli|trivial
 ·intro i j x oi oj q q' hoi hli hqi hoj hlj hqj hx hx';exact S.uniq i j x oi oj q q' (get hoi hli).2 hli hqi (get hoj hlj).2 hlj hqj hx hx'
 ·intro i o q x hoi hli hqi hx;refine kg (get hoi hli) λn hoi=>qe (S.off i o q x hoi hli hqi hx) λa b c=>?_;refine⟨?_,b,c⟩;unfold frozen;rw[if_neg λz=>n<|S.uniq i k x o so q p hoi hli hqi ho hl hp hx z];exact a
 ·intro b hb;refine⟨?_,(S.hW b hb).2⟩;unfold frozen;rw[if_neg (λz=>by have:=(S.off k so p b ho hl hp z).2.2;rw[hb] at this;exact ae this)];exact(S.hW b hb).1
 ·intro b o e;unfold frozen;rw[if_neg (λz=>by have:=(S.off k so p b ho hl hp z).2.1;rw[e] at this;exact jO this)];exact S.tY b o e
noncomputable def i9(fx:FH)(a:Addr)(o:Obj):FH:=λb=>if b=a then some o else fx b
theorem dg{fx:FH}:i9 fx a o a=some o:=by simp[i9]
theorem cH{fx:FH}(h:b≠a):i9 fx a o b=fx b:=by simp[i9,h]
theorem b7.weaken(S:b7 Z st g fx ρ s)(h:∀b o,fx' b=some o->fx b=some o):b7 Z st g fx' ρ s where
 keep:=S.keep
 fix b o e:=S.fix b o (h b o e)
 len:=S.len
 objs:=S.objs
 uniq:=S.uniq
 off k o p x ho hl hp hx:=by
  refine qe (S.off k o p x ho hl hp hx) λa b c=>⟨a,?_,c⟩;cases q:fx' x with
  |none=>rfl
  |some o'=>rw[h x o' q] at b;exact jO b
 top:=S.top
 tabs:=S.tabs
 hW b hb:=by
  refine⟨(S.hW b hb).1,?_⟩;cases q:fx' b with
  |none=>rfl
  |some o'=>have:=(S.hW b hb).2;rw[h b o' q] at this;exact jO this
 tY b o e:=S.tY b o (h b o e)
 same:=S.same
 codes:=S.codes
theorem b7.Ha(S:b7 Z st g fx ρ s){h':Heap}(t':Nat)(hk:∀b o,s.heap.get? b=some o->h'.get? b=some o)(a:Addr)(o:Obj)(hn:s.heap.get? a=none)(ho:h'.get? a=some o):
  b7 Z st (Mine.eG Z g s.heap h' λb=>b==a) (i9 fx a o) ρ {s with heap:=h',toks:=t'} where
 keep b ob e:=by
  rcases lU e with q|q
  ·exact hk _ _<|S.keep _ _ q
  ·exact q.2.2.2
 fix b ob e:=by
  unfold i9 at e;split at e
  ·rename_i q;obtain rfl:=aa e;rw[q];exact ho
  ·exact hk _ _ (S.fix b ob e)
 len:=S.len
 objs k o p ho hp:=(S.objs k o p ho hp).mono ⟨λy y e=>cv e,[],by simp⟩ λb ob y e=>hk _ _ e
 uniq:=S.uniq
 off k so p x hso hl hp hx:=by refine qe (S.off k so p x hso hl hp hx) λq1 q2 q3=>fT (S.jU hso hl hp hx) λob e=>?_;refine⟨dc e q1,?_,q3⟩;rw[cH (λz=>by rw[z,hn] at e;exact aW e)];exact q2
 top b o e:=cv (S.top b o e)
 tabs:=Z.mI _ _ S.tabs (λb o e y=>hk b o e) λb o e=>hk _ _ (S.fy b o e)
 hW b hb:=by refine fT (S.rL hb) λob e=>⟨dc e (S.hW b hb).1,?_⟩;rw[cH (λz=>by rw[z,hn] at e;exact aW e)];exact(S.hW b hb).2
 tY b ob e:=by
  unfold i9 at e;split at e
  ·rename_i q;unfold eG;rw[(S.fresh<|q▸hn).1];simp[q]
  ·exact dc (S.fix b ob e) (S.tY b ob e)
 same:=S.same
 codes:=S.lR (λy y e=>cv e) λb o e y=>hk b o e
theorem b7.G9(S:b7 Z st g fx ρ s){h':Heap}(t':Nat){a:Addr}{o o':Obj}(ha:fx a=some o)(hk:∀b ob,b≠a->s.heap.get? b=some ob->h'.get? b=some ob)(ha':h'.get? a=some o'):
  b7 Z st (Mine.eG Z g s.heap h' λy=>false) (i9 fx a o') ρ {s with heap:=h',toks:=t'}:=by
 have ga:=S.tY a o ha
 have keep':=λb ob e=>hk b ob (λz=>by rw[z,ga] at e;exact aW e)<|S.keep b ob e
 have offa:∀{k:Nat}{so:SO}{p:Addr×Addr}{x:Addr},st[k]? =some so->so.live=true->ρ[k]? =some p->(x=p.1\/x=p.2)->x≠a:=by intro k so p x hso hl hp hx z;have:=(S.off k so p x hso hl hp hx).2.1;rw[z,ha] at this;exact jO this
 refine⟨?_,?_,S.len,?_,S.uniq,?_,λb o e=>cv<|S.top b o e,Z.mI _ _ S.tabs (λb ob e hb=>hk b ob (λz=>by have:=(S.hW b hb).2;rw[z,ha] at this;exact jO this) e) λb o e=>keep' _ _<|S.top b o e,?_,?_,S.same,S.lR (λy y e=>cv e) λb ob e hb=>hk b ob (λz=>by have:=(S.hW b hb).2;rw[z,ha] at this;exact jO this) e⟩
 ·intro b ob e;rcases lU e with q|q
  ·exact keep' _ _ q
  ·exact q.2.2.2
 ·intro b ob e;unfold i9 at e;split at e
  ·rename_i q;obtain rfl:=aa e;rw[q];exact ha'
  ·rename_i q;exact hk _ _ q<|S.fix b ob e
 ·intro k so p hso hp;by_cases hl:so.live=true
  ·exact(S.objs k so p hso hp).mono ⟨λy y e=>cv e,[],by simp⟩ λb ob hb e=>hk b ob (offa hso hl hp hb) e
  ·cases so<;>first|exact absurd rfl hl|trivial
 ·intro k so p x hso hl hp hx;refine qe (S.off k so p x hso hl hp hx) λq1 q2 q3=>fT (S.jU hso hl hp hx) λob e=>?_;refine⟨dc e q1,?_,q3⟩;rw[cH<|offa hso hl hp hx];exact q2
 ·intro b hb;refine fT (S.rL hb) λob e=>⟨dc e (S.hW b hb).1,?_⟩;rw[cH (λz=>by have:=(S.hW b hb).2;rw[z,ha] at this;exact jO this)];exact(S.hW b hb).2
 ·intro b ob e;unfold i9 at e;split at e
  ·rename_i q;rw[q];exact dc (S.fix a o ha) ga
  ·exact dc (S.fix b ob e)<|S.tY b ob e
theorem b7.settle{a:Addr}{o:Obj}(S:b7 Z st g (i9 fx a o) ρ s)(hn:fx a=none):b7 Z st (i9 g a o) fx ρ s:=by
 have ga:=S.tY a o dg;have ne:∀{b:Addr}{ob:Obj},fx b=some ob->b≠a:=λe z=>by rw[z,hn] at e;exact aW e
 have X:ey g ρ (i9 g a o) ρ:=⟨λb ob e=>by rw[cH (λz=>by rw[z,ga] at e;exact aW e)];exact e,[],by simp⟩;refine⟨?_,λb ob e=>S.fix b ob (by rw[cH<|ne e];exact e),S.len,λk so p hso hp=>(S.objs k so p hso hp).mono X λy y y e=>e,S.uniq,?_,λb ob e=>X.g _ _<|S.top b ob e,S.tabs,?_,?_,S.same,S.lR X.g λy y e y=>e⟩
 ·intro b ob e;unfold i9 at e;split at e
  ·rename_i q;obtain rfl:=aa e;rw[q];exact S.fix a o dg
  ·exact S.keep b ob e
 ·intro k so p x hso hl hp hx;refine qe (S.off k so p x hso hl hp hx) λq1 q2 q3=>?_;have hxa:x≠a:=λz=>by rw[z,dg] at q2;exact jO q2
  rw[cH hxa] at q2;exact⟨by rw[cH hxa];exact q1,q2,q3⟩
 ·intro b hb;have q:=S.hW b hb;have hba:b≠a:=λz=>by rw[z,dg] at q;cases q.2
  rw[cH hba] at q;exact⟨by rw[cH hba];exact q.1,q.2⟩
 ·intro b ob e;rw[cH<|ne e];exact S.tY b ob (by rw[cH<|ne e];exact e)
theorem b7.adopt(S:b7 Z st g (i9 fx a o) ρ s)(hn:fx a=none)(so:SO)(r:RO Z g (ρ++[(a,a)]) s.heap so (a,a)):b7 Z (st++[so]) g fx (ρ++[(a,a)]) s:=by
 have ga:=S.tY a o dg;have X:ey g ρ g (ρ++[(a,a)]):=⟨λy y e=>e,[(a,a)],rfl⟩;have up:∀{b:Addr}{ob:Obj},fx b=some ob->i9 fx a o b=some ob:=λ{b ob} e=>(cH λz=>aW<|hn.symm.trans<|z▸e).trans e;have dn:∀{b:Addr},i9 fx a o b=none->b≠a/\fx b=none:=λ{b} e=>by have hb:b≠a:=λz=>aW<|(show i9 fx a o a=none from z▸e).symm.trans dg;exact⟨hb,(cH hb).symm.trans e⟩
 have zV:∀{x:Addr},x=a\/x=a->x=a:=λh=>h.elim id id;have old:∀{i:Nat}{so:SO}{q:Addr×Addr}{x:Addr},st[i]? =some so->so.live=true->ρ[i]? =some q->(x=q.1\/x=q.2)->x≠a:=λh1 h2 h3 h4=>(dn (S.off _ _ _ _ h1 h2 h3 h4).2.1).1;refine⟨S.keep,λb ob e=>S.fix b ob<|up e,by rw[aj,aj,S.len];rfl,λk so' p hso hp=>?_,λi j x oi oj q q' hoi hli hqi hoj hlj hqj hx hx'=>?_,λk so' p x hso hl hp hx=>?_,S.top,S.tabs,λb hb=>⟨(S.hW b hb).1,(dn (S.hW b hb).2).2⟩,λb ob e=>S.tY b ob<|up e,S.same,S.codes⟩
 ·exact sO S.len hso hp (λh1 h2=>(S.objs k so' p h1 h2).mono X λy y y e=>e) λy a b=>a▸b▸r
 ·exact sO S.len hoi hqi (λho hq=>sO S.len hoj hqj (λho' hq'=>S.uniq i j x oi oj q q' ho hli hq ho' hlj hq' hx hx') λy y b=>absurd (zV (by subst b;exact hx'))<|old ho hli hq hx)
   λhi y b=>sO S.len hoj hqj (λho' hq'=>absurd (zV (by subst b;exact hx))<|old ho' hlj hq' hx') λhj y y=>hi.trans hj.symm
 ·refine sO S.len hso hp (λh1 h2=>?_) λy y b=>?_
  ·have q:=S.off k so' p x h1 hl h2 hx;exact⟨q.1,(dn q.2.1).2,q.2.2⟩
  ·have hxa:x=a:=zV (by subst b;exact hx);subst hxa;refine⟨ga,hn,?_⟩;cases q:Z.tab x with
   |false=>rfl
   |true=>exact aW<|(S.hW x q).2.symm.trans dg
open Classical in
def uN(st:List SO)(ρ:eE)(h:Heap)(fx:FH):FH:=λb=>if ∃(k:Nat)(o:SO)(p:Addr×Addr),st[k]? =some o/\o.live=true/\ρ[k]? =some p/\(b=p.1\/b=p.2) then h.get? b else fx b
theorem D9(S:b7 Z st g fx ρ s)(e:fx b=some o):uN st ρ s.heap fx b=some o:=by
 unfold uN;rw[if_neg]
 ·exact e
 ·rintro⟨k,so,p,h1,h2,h3,h4⟩;have:=(S.off k so p b h1 h2 h3 h4).2.1;rw[e] at this;exact jO this
theorem b7.hide(S:b7 Z st g fx ρ s):b7 Z [] g (uN st ρ s.heap fx) [] s:=by
 refine⟨S.keep,?_,rfl,λk o p h=>by simp at h,λi j x oi oj p q h=>by simp at h,λk o p x h=>by simp at h,S.top,S.tabs,?_,?_,S.same,S.codes⟩
 ·intro b o e;unfold uN at e;split at e
  ·exact e
  ·exact S.fix b o e
 ·intro b hb;refine⟨(S.hW b hb).1,?_⟩;unfold uN;rw[if_neg]
  ·exact(S.hW b hb).2
  ·rintro⟨k,so,p,h1,h2,h3,h4⟩;have:=(S.off k so p b h1 h2 h3 h4).2.2;rw[hb] at this;exact ae this
 ·intro b o e;unfold uN at e;split at e
  ·rename_i q
   refine x34 q λk so p h1 h2 h3 h4=>(S.off k so p b h1 h2 h3 h4).1
  ·exact S.tY b o e
theorem b7.MO{g':FH}{st':List SO}{bQ:eE}{s':Shared}(S:b7 Z st g fx ρ s)(X:∀b o,g b=some o->g' b=some o)(S':b7 Z st' g' (uN st ρ s.heap fx) bQ s'):b7 Z st g' fx ρ s':=by
 have held:∀{k:Nat}{so:SO}{p:Addr×Addr}{b:Addr},st[k]? =some so->so.live=true->ρ[k]? =some p->(b=p.1\/b=p.2)->uN st ρ s.heap fx b=s.heap.get? b:=by intro k so p b h1 h2 h3 h4;unfold uN;rw[if_pos ⟨k,so,p,h1,h2,h3,h4⟩]
 refine⟨S'.keep,λb o e=>S'.fix b o<|D9 S e,S.len,?_,S.uniq,?_,λb o e=>X _ _<|S.top b o e,S'.tabs,?_,λb o e=>S'.tY b o<|D9 S e,S'.same,S'.codes⟩
 ·intro k so p hso hp;by_cases hl:so.live=true
  ·exact(S.objs k so p hso hp).mono ⟨X,[],by simp⟩ λb ob hb e=>S'.fix b ob (by rw[held hso hl hp hb];exact e)
  ·cases so<;>first|exact absurd rfl hl|trivial
 ·intro k so p x hso hl hp hx;refine qe (S.off k so p x hso hl hp hx) λq1 q2 q3=>fT (S.jU hso hl hp hx) λob e=>?_;exact⟨S'.tY x ob (by rw[held hso hl hp hx];exact e),q2,q3⟩
 ·intro b hb;refine⟨(S'.hW b hb).1,(S.hW b hb).2⟩
end
abbrev bX:=List<|Str×cF
structure zr(Z:dM)(mg mb:Str->Option Value):Prop where
 g:∃o,Z.base cE=some o/\tX o mg
 b:∃o,Z.base hU=some o/\tX o mb
 st:∃o mc,Z.base Fg=some o/\tX o mc/\mc "sys.recursionlimit"=none/\mc "sys.int_max_str_digits"=none
def d8.T1(ns:bX)(env:Env):Prop:=∀n,ns.lookup n=some .local->env.kindOf n=some .local
def d8.T2(ns:bX)(env:Env):Prop:=∀n,ns.lookup n=some .cell->env.kindOf n=some .cell
def d8.T3(ns:bX)(env:Env):Prop:=∀n,ns.lookup n=some .free->env.kindOf n=some .cell\/env.kindOf n=some .free
def d8.T4(ns:bX)(env:Env):Prop:=∀n,ns.lookup n=some .globalImplicit->env.kindOf n=some .globalImplicit
def d8.T5(ns:bX):Prop:=∀p∈ns,(p.1==("__debug__":Str))=false/\(p.1==("__classdict__":Str))=false
structure d8(ns:bX)(env:Env):Prop where
 kind:env.scope.kind=.function
 loc:d8.T1 ns env
 cell:d8.T2 ns env
 free:d8.T3 ns env
 glob:d8.T4 ns env
 globals:env.globals=cE
 builtins:env.builtins=hU
 nodup:(ns.map (·.1)).Nodup
 pM:d8.T5 ns
def mE.T1(Z:dM)(g:FH)(ρ:eE)(ns:bX)(lo:List LV)(m:Str->Option Value):Prop:=∀(i:Nat)(n:Str),ns[i]? =some (n,cF.local)->∃lv,lo[i]? =some lv/\(lv=LV.un\/∃v y,lv=LV.val v/\m n=some y/\RV Z g ρ v y)
def mE.T2(ρ:eE)(env:Env)(ns:bX)(lo:List LV):Prop:=∀(i:Nat)(n:Str)(k:cF),ns[i]? =some (n,k)->(k=.cell\/k=.free)->∃c p,lo[i]? =some (LV.cell c)/\ρ[c]? =some p/\env.cells.lookup n=some p.1
structure mE(Z:dM)(g:FH)(ρ:eE)(env:Env)(ns:bX)(lo:List LV)(m:Str->Option Value):Prop where
 loc:mE.T1 Z g ρ ns lo m
 sD:mE.T2 ρ env ns lo
structure rB(Z:dM)(g:FH)(ρ:eE)(env:Env)(ns:bX)(loc:List LV)(fx:FH):Prop where
 is:∃o m,fx env.locals=some o/\tX o m/\mE Z g ρ env ns loc m
structure dE(Z:dM)(ns:bX)(env:Env)(σ:bo)(g fx:FH)(ρ:eE)(s:Shared):Prop where
 fM:b7 Z σ.st g fx ρ s
 AS:rB Z g ρ env ns σ.loc fx
structure t6(n:Nat)(A:bD):Prop where
 handled:A.handled=none
 depth:A.depth+8*n+8<E8
 units:A.units+100*n+100<cLine
abbrev Mo(Z:dM):Model:=model Z.prog Z.w
def bE(Z:dM)(A:bD)(t:Al Value)(st':List SO)(v:SV)(g fx:FH)(ρ:eE)(s:Shared):Prop:=
 ∀(E:Value->Shared->Prop)(Q:Value->Shared->Prop),(∀g' bQ s' y,ey g ρ g' bQ->b7 Z st' g' fx bQ s'->RV Z g' bQ v y->Q y s')->av (Mo Z) A t Q E s
def sg(Z:dM)(A:bD)(t:Al Unit)(st':List SO)(g fx:FH)(ρ:eE)(s:Shared):Prop:=
 ∀(E:Value->Shared->Prop)(Q:Unit->Shared->Prop),(∀g' bQ s',ey g ρ g' bQ->b7 Z st' g' fx bQ s'->Q () s')->av (Mo Z) A t Q E s
section
variable{Z:dM}{st st':List SO}{g g' fx:FH}{ρ bQ:eE}{s:Shared}{env:Env}{ns:bX}{σ:bo}{A:bD}{E:Value->Shared->Prop}
theorem b7.tok(S:b7 Z st g fx ρ s)(t:Nat):b7 Z st g fx ρ {s with toks:=t}:=⟨S.keep,S.fix,S.len,S.objs,S.uniq,S.off,S.top,S.tabs,S.hW,S.tY,S.same,S.codes⟩
theorem mE.mono{loc:List LV}{m:Str->Option Value}(x:ey g ρ g' bQ)(L:mE Z g ρ env ns loc m):mE Z g' bQ env ns loc m where
 loc i n h:=by refine dS (L.loc i n h) λlv a b=>⟨lv,a,b.imp id ?_⟩;rintro⟨v,y,e,e',r⟩;exact Av v y e e' (r.mono x)
 sD i n k h hk:=(L.sD i n k h hk).imp λz=>aD λz=>aH<|cP x.at
theorem rB.mono(x:ey g ρ g' bQ)(F:rB Z g ρ env ns loc fx):rB Z g' bQ env ns loc fx:=⟨F.is.imp λz=>aD λz=>aH<|aH λc=>c.mono x⟩
theorem rB.abe(F:rB Z g ρ env ns loc fx)(S:b7 Z st g fx ρ s):∃m,s.heap.Ns env.locals m/\mE Z g ρ env ns loc m:=
 F.is.elim λy z=>z.imp λy z=>⟨z.2.1.ns<|S.fix _ _ z.1,z.2.2⟩
theorem SK{ns:bX}:∀{j:Nat},fo x ns j=some r->∃d,r.1=j+d/\ns[d]? =some (x,r.2)/\ns.lookup x=some r.2:=by
 induction ns with
 |nil=>intro _ h;exact aW h
 |cons p ns ih=>
  intro j h;unfold fo at h;cases q:jg p.1 x with
  |true=>
   rw[q] at h;have hx:=oO q;have hr:=aa h;refine Aw 0 (hr▸rfl) ?_ ?_
   ·rw[<-hr,<-hx];rfl
   ·rw[<-hr,<-hx,ck,beq_self_eq_true]
  |false=>rw[q] at h;refine u6 (ih h) λd h1 h2 h3=>Aw (d+1) (h1.trans<|gj j d) h2 ?_;rw[ck,beq_eq_false_iff_ne.mpr<|gp<|M1 q];exact h3
theorem iz(h:fo x ns 0=some (i,k)):ns[i]? =some (x,k)/\ns.lookup x=some k:=by refine dS (SK h) λd h1 h2=>?_;have h1:i=d:=h1.trans<|cz d;subst h1;exact h2
theorem KH(hp:fo x ns 0=some (i,k))(hk:k=.local\/k=.cell\/k=.free)
  (he:mq i σ=some v) (V:d8 ns env) (G:dE Z ns env σ g fx ρ s) (h:∀y,RV Z g ρ v y->Q y s):
  av (Mo Z) A (eval (.Name x pos) env) Q E s:=by
 refine kg (iz hp) λhi hl=>dS (G.AS.abe G.fM) λm hn L=>?_
 have hd:=V.pM _<|aI hi
 have cellcase:(k=.cell\/k=.free)->(env.kindOf x=some .cell\/env.kindOf x=some .free)->av (Mo Z) A (eval (.Name x pos) env) Q E s:=by intro hk' hkind;refine jG (L.sD i x k hi hk') λc p h1 h2 h3=>xk he (λh=>LV.noConfusion<|aa<|h1.symm.trans h) λj hj hc=>?_;obtain rfl:=lvC<|aa<|h1.symm.trans hj;obtain⟨_,o,ov,ho,hd',y,rfl,r⟩:=G.fM.objs _ _ p hc h2;exact E4 (hkind.elim (λhk=>Vi V.kind hk h3 ⟨_,ho,hd'⟩<|h y r) λhk=>Vh V.kind hk h3 ⟨_,ho,hd'⟩ (h y r) hd.2) hd.1
 rcases hk with rfl|rfl|rfl
 ·refine dS (L.loc i x hi) λlv h1 h2=>?_;rcases h2 with rfl|⟨v',y,rfl,h3,r⟩
  ·exact xk he (λh=>LV.noConfusion<|aa<|h1.symm.trans h) λj hj z=>LV.noConfusion<|aa<|h1.symm.trans hj
  ·refine xk he (λh'=>?_) λj hj z=>LV.noConfusion<|aa<|h1.symm.trans hj;obtain rfl:=lvV<|aa<|h1.symm.trans h';exact E4 (Q3 V.kind (V.loc _ hl) hn h3<|h y r) hd.1
 ·exact cellcase (.inl rfl)<|.inl<|V.cell _ hl
 ·exact cellcase (.inr rfl)<|V.free _ hl
theorem mE.store{loc:List LV}{m:Str->Option Value}(L:mE Z g ρ env ns loc m)(V:d8 ns env)(hi:ns[i]? =some (x,.local))(r:RV Z g ρ v y):
  mE Z g ρ env ns (loc.set i<|.val v) (λn=>if n=x then some y else m n) where
 loc j n hj:=by
  refine dS (L.loc j n hj) λlv h1 h2=>?_;by_cases hji:j=i
  ·subst hji;obtain⟨rfl,-⟩:=gH<|aa<|hi.symm.trans hj;refine⟨.val v,?_,.inr ⟨v,y,rfl,by simp,r⟩⟩;rw[eB (af.mp h1).1]
  ·refine⟨lv,by rw[bV<|gp hji];exact h1,h2.imp id ?_⟩;rintro⟨v',y',e,e',r'⟩;refine Av v' y' e ?_ r';have hnx:n≠x:=by
    rintro rfl;have e1:(ns.map (·.1))[j]? =some n:=by rw[ai,hj];rfl
    have e2:(ns.map (·.1))[i]? =some n:=by rw[ai,hi];rfl
    exact hji<|(jv (af.mp e1).1 V.nodup).mp<|e1.trans e2.symm
   exact(if_neg hnx).trans e'
 sD j n k hj hk:=by
  refine rJ (L.sD j n k hj hk) λc p h1 h2=>y22 c p ?_ h2;have hji:j≠i:=by rintro rfl;obtain⟨rfl,rfl⟩:=gH<|aa<|hi.symm.trans hj;rcases hk with hk|hk<;>exact cV hk
  rw[bV<|gp hji];exact h1
theorem lB{k:cF}{bk:bo}{Q:Unit->Shared->Prop}(hp:fo x ns 0=some (i,k))(hk:k=.local\/k=.cell)
  (he:iy i v σ=some bk) (V:d8 ns env) (G:dE Z ns env σ g fx ρ s) (r:RV Z g ρ v y)
  (h:∀g' o s',ey g ρ g' ρ->dE Z ns env bk g' (i9 fx env.locals o) ρ s'->Q () s'):
  av (Mo Z) A (storeName env x y) Q E s:=by
 refine kg (iz hp) λhi hl=>jG G.AS.is λoL m hL hO L=>?_
 have hn:=hO.ns<|G.fM.fix _ _ hL
 have hkind:(env.scope.kind==.class||(env.scope.kind==.module&&env.locals != env.globals))=false:=by rw[V.kind];rfl
 rcases hk with rfl|rfl
 ·refine dS (L.loc i x hi) λlv h1 h2=>BM he (λj ov hj z z=>?_) λlv' z z e=>?_
  ·rcases h2 with rfl|⟨_,_,rfl,_⟩<;>exact LV.noConfusion<|aa<|h1.symm.trans hj
  subst e;refine wpAny_storeName_local (V.loc _ hl) hn (λh' hn' hs'=>?_) hkind;refine dS (mj hn') λo' ho' hO'=>h _ o' _ ⟨λz z e=>cv e,[],by simp⟩ ⟨G.fM.G9 _ hL (λb ob hb e=>(hs'.2 b hb).trans e) ho',⟨o',_,dg,hO',?_⟩⟩;exact(L.store V hi r).mono ⟨λz z e=>cv e,[],by simp⟩
 ·refine jG (L.sD i x _ hi<|.inl rfl) λc p h1 h2 h3=>BM he (λj ov hj hc e=>?_) λlv hj hn z=>absurd (aa<|hj.symm.trans h1)<|hn c;obtain rfl:=lvC<|aa<|h1.symm.trans hj;subst e
  ·obtain⟨hpp,o,ov',ho,hd',_⟩:=G.fM.objs c _ p hc h2;refine wpAny_storeName_cell V.kind (V.cell _ hl) h3 ⟨_,ho,hd'⟩ λh' hc' hs'=>?_;have hX:ey g ρ (eG Z g s.heap h' λz=>false) ρ:=⟨λz z e=>cv e,[],by simp⟩;have S':=G.fM.upd s.toks (so':=.cell<|some v) hc rfl h2 (λb o hb z e=>(hs'.2 b hb).trans e) ?_
   ·refine h _ oL _ hX ⟨S'.weaken ?_,⟨oL,m,dg,hO,L.mono hX⟩⟩;intro b o e;unfold i9 at e;split at e
    ·rename_i q;rw[q];obtain rfl:=aa e;exact hL
    ·exact e
   ·refine dS hc' λo' ho' hd'=>⟨hpp,o',some y,ho',hd',y,rfl,r.mono hX⟩
end
section
section
variable{Z:dM}{g:FH}{ρ:eE}{h:Heap}
mutual
theorem yd{P:SV->PyData->Prop}{Q:List SV->List PyData->Prop}(n:P .none .none)(b:∀b,P (.bool b)<|.bool b)(i:∀i,P (.int i)<|.int i)(s:∀s,dC s=true->P (.str s) (.str s))(t:∀xs ds,Q xs ds->P (.tup xs) (.tuple ds))(l:∀xs ds,Q xs ds->P (.lst xs) (.list ds))(z:Q [] [])(c:∀x xs d ds,P x d->Q xs ds->Q (x::xs) (d::ds)):∀{sv:SV}{d:PyData},m6 sv=some d->P sv d
 |.none,_,e=>aa e▸n
 |.bool x,_,e=>aa e▸b x
 |.int x,_,e=>aa e▸i x
 |.str x,_,e=>j8 e λq e=>e▸s x q
 |.tup xs,_,e=>dj e λds e hd=>hd▸t xs ds (oJ n b i s t l z c e)
 |.lst xs,_,e=>dj e λds e hd=>hd▸l xs ds (oJ n b i s t l z c e)
 |.raw _,_,e=>aW e
 |.hH _ _,_,e=>aW e
 |.dx _,_,e=>aW e
 |.inst _ _ _,_,e=>aW e
 |.t5 _ _,_,e=>aW e
 |.LR _ _,_,e=>aW e
 |.h _,_,e=>aW e
theorem oJ{P:SV->PyData->Prop}{Q:List SV->List PyData->Prop}(n:P .none .none)(b:∀b,P (.bool b)<|.bool b)(i:∀i,P (.int i)<|.int i)(s:∀s,dC s=true->P (.str s) (.str s))(t:∀xs ds,Q xs ds->P (.tup xs) (.tuple ds))(l:∀xs ds,Q xs ds->P (.lst xs) (.list ds))(z:Q [] [])(c:∀x xs d ds,P x d->Q xs ds->Q (x::xs) (d::ds)):∀{xs:List SV}{ds:List PyData},fR xs=some ds->Q xs ds
 |[],_,e=>aa e▸z
 |x::xs,_,e=>aw e λd h1 e=>dj e λds h2 hd=>hd▸c x xs d ds (yd n b i s t l z c h1) (oJ n b i s t l z c h2)
end
abbrev UU(Z:dM)(g:FH)(h:Heap)(sv:SV)(d:PyData):Prop:=∀{ρ:eE}{v:Value},RV Z g ρ sv v->∃as,kY h v d as
abbrev Qv(Z:dM)(g:FH)(h:Heap)(xs:List SV)(ds:List PyData):Prop:=∀{ρ:eE}{vs:List Value},ei Z g ρ xs vs->∃as,nL h vs ds as
theorem Ik:UU Z g h .none .none:=λ{_ _} r=>by obtain rfl:=r;exact⟨_,.none⟩
theorem Im(b:Bool):UU Z g h (.bool b) (.bool b):=λ{_ _} r=>by obtain rfl:=r;exact⟨_,.bool b⟩
theorem NV(i:Int):UU Z g h (.int i) (.int i):=λ{_ _} r=>by obtain⟨t,rfl⟩:=r;exact⟨_,.int i t⟩
theorem NS(s:Str)(_:dC s=true):UU Z g h (.str s) (.str s):=λ{_ _} r=>by obtain⟨t,rfl⟩:=r;exact⟨_,.str s t⟩
theorem NR(k:∀b o,g b=some o->h.get? b=some o)(xs:List SV)(ds:List PyData)(q:Qv Z g h xs ds):UU Z g h (.tup xs) (.tuple ds):=λ{_ _} r=>by refine qv r λa vs n zz3 ho hs=>?_;subst zz3;exact(q hs).elim λz r=>⟨_,.tuple (k _ _ ho) rfl rfl r⟩
theorem NU(k:∀b o,g b=some o->h.get? b=some o)(xs:List SV)(ds:List PyData)(q:Qv Z g h xs ds):UU Z g h (.lst xs) (.list ds):=λ{_ _} r=>by refine qv r λa vs n zz3 ho hs=>?_;subst zz3;exact(q hs).elim λz r=>⟨_,.list (k _ _ ho) rfl rfl r⟩
theorem NT:Qv Z g h [] []:=λ{_ _} r=>by obtain rfl:=r;exact⟨_,.nil⟩
theorem Il(x:SV)(xs:List SV)(d:PyData)(ds:List PyData)(q1:UU Z g h x d)(q2:Qv Z g h xs ds):Qv Z g h (x::xs) (d::ds):=λ{_ _} r=>by refine jG r λv vs' zz2 r1 r2=>?_;subst zz2;exact(q1 r1).elim λz a=>(q2 r2).elim λz b=>⟨_,.cons a b⟩
theorem RV.reads(k:∀b o,g b=some o->h.get? b=some o){ρ:eE}(e:m6 sv=some d)(r:RV Z g ρ sv v):∃as,kY h v d as:=
 yd (P:=λa b=>UU Z g h a b) Ik Im NV NS (NR k) (NU k) NT Il e r
theorem ei.reads(k:∀b o,g b=some o->h.get? b=some o){ρ:eE}(e:fR xs=some ds)(r:ei Z g ρ xs vs):∃as,nL h vs ds as:=
 oJ (P:=λa b=>UU Z g h a b) Ik Im NV NS (NR k) (NU k) NT Il e r
theorem IF{d:PyData}(a:d.canLay0=true)(b:jl ds=true):jl (d::ds)=true:=bW.mpr ⟨a,b⟩
theorem yc(e:m6 sv=some d):d.canLay0=true:=
 yd (Q:=λz ds=>jl ds=true) rfl (λz=>rfl) (λz=>rfl) (λz h=>h) (λz z h=>h) (λz z h=>h) rfl (λz z z z=>IF) e
theorem vt(e:fR xs=some ds):jl ds=true:=
 oJ (Q:=λz ds=>jl ds=true) rfl (λz=>rfl) (λz=>rfl) (λz h=>h) (λz z h=>h) (λz z h=>h) rfl (λz z z z=>IF) e
theorem ei.length:∀{vs:List Value}{ρ:eE},ei Z g ρ xs vs->vs.length=xs.length:=by
 induction xs with
 |nil=>intro vs ρ r;obtain rfl:=r;rfl
 |cons x xs ih=>intro vs ρ r;obtain⟨v,vs',rfl,_,r2⟩:=r;exact congrArg (·+1)<|ih r2
theorem ei.get{ρ:eE}:∀{vs:List Value}{i:Nat},ei Z g ρ xs vs->xs[i]? =some x->∃v,vs[i]? =some v/\RV Z g ρ x v:=by
 induction xs with
 |nil=>intro vs i _ e;exact aW e
 |cons y xs ih=>
  intro vs i r e;refine jG r λv vs' zz2 r1 r2=>?_;subst zz2;cases i with
  |zero=>obtain rfl:=aa e;exact⟨v,rfl,r1⟩
  |succ i=>exact ih (i:=i) r2 e
theorem ei.append{ρ:eE}(r:ei Z g ρ xs vs)(r':ei Z g ρ ys ws):ei Z g ρ (xs++ys) (vs++ws):=by
 induction xs generalizing vs with
 |nil=>obtain rfl:=r;exact r'
 |cons x xs ih=>obtain⟨v,vs',rfl,r1,r2⟩:=r;exact⟨v,_,rfl,r1,ih r2⟩
theorem ei.set{ρ:eE}(r:ei Z g ρ xs vs)(r':RV Z g ρ x v):ei Z g ρ (xs.set i x) (vs.set i v):=by
 induction xs generalizing vs i with
 |nil=>obtain rfl:=r;rfl
 |cons y xs ih=>
  refine jG r λw vs' zz2 r1 r2=>?_;subst zz2;cases i with
  |zero=>exact Av v vs' rfl r' r2
  |succ i=>exact Av w _ rfl r1<|ih r2
theorem ei.take{ρ:eE}:∀{vs:List Value}(n:Nat),ei Z g ρ xs vs->ei Z g ρ (xs.take n) (vs.take n):=by
 induction xs with
 |nil=>intro vs n r;obtain rfl:=r;cases n<;>rfl
 |cons x xs ih=>
  intro vs n r;cases n with
  |zero=>rfl
  |succ n=>obtain⟨v,vs',rfl,r1,r2⟩:=r;exact⟨v,_,rfl,r1,ih n r2⟩
theorem ei.drop{ρ:eE}:∀{vs:List Value}(n:Nat),ei Z g ρ xs vs->ei Z g ρ (xs.drop n) (vs.drop n):=by
 induction xs with
 |nil=>intro vs n r;obtain rfl:=r;cases n<;>rfl
 |cons x xs ih=>
  intro vs n r;cases n with
  |zero=>exact r
  |succ n=>obtain⟨v,vs',rfl,r1,r2⟩:=r;exact ih n r2
theorem ei.reverse{ρ:eE}:∀{vs:List Value},ei Z g ρ xs vs->ei Z g ρ xs.reverse vs.reverse:=by
 induction xs with
 |nil=>intro vs r;obtain rfl:=r;rfl
 |cons x xs ih=>intro vs r;refine jG r λv vs' zz2 r1 r2=>?_;subst zz2;rw[Mm,Mm];exact(ih r2).append ⟨v,[],rfl,r1,rfl⟩
theorem ei.one{ρ:eE}(r:RV Z g ρ x v):ei Z g ρ [x] [v]:=⟨v,[],rfl,r,rfl⟩
theorem ei.ke{ρ:eE}(r:ei Z g [] xs vs):ei Z g ρ xs vs:=r.mono<|ey.ke g ρ
end
section
variable{Z:dM}{st:List SO}{g fx:FH}{ρ:eE}{s:Shared}{A:bD}
set_option tactic.hygienic true in
theorem mP(S:b7 Z st g fx ρ s)(e:pA st sv=some d)(r:RV Z g ρ sv v):(∃as,kY s.heap v d as)/\d.canLay0=true:=by
 have base:m6 sv=some d->(∃as,kY s.heap v d as)/\d.canLay0=true:=λe=>⟨RV.reads S.keep e r,yc e⟩;cases sv<;>try exact base e
 rename_i k
 refine aw e λxs hk e=>dj e λds e' hd=>?_;subst hd;refine dS r λp hp zz2=>?_;subst zz2;obtain⟨_,vs,n,ho,hs⟩:=S.objs k _ p (vU hk) hp;refine fT (ei.reads S.keep e' hs) λas q=>⟨⟨_,.list ho rfl rfl q⟩,by simpa[PyData.canLay0] using vt e'⟩
theorem RC(S:b7 Z st g fx ρ s)(ea:pA st a=some da)(eb:pA st b=some db)(ra:RV Z g ρ a va)(rb:RV Z g ρ b vb)
  (hd:min da.depth db.depth<=cw) (hu:A.units+cw<cLine):bE Z A (eH .Eq va vb) st (.bool<|bp da db) g fx ρ s:=by
 obtain⟨⟨as,qa⟩,la⟩:=mP S ea ra
 obtain⟨⟨bs,qb⟩,lb⟩:=mP S eb rb
 intro E Q h
 exact compareEq_reads qa qb la lb (ac9 hd hu)<|h g ρ s _ (.refl _ _) S rfl
theorem Rz(S:b7 Z st g fx ρ s)(ea:pA st a=some da)(eb:pA st b=some db)(ra:RV Z g ρ a va)(rb:RV Z g ρ b vb)
  (hd:min da.depth db.depth<=cw) (hu:A.units+cw<cLine):bE Z A (eH .NotEq va vb) st (.bool<|!bp da db) g fx ρ s:=by
 obtain⟨⟨as,qa⟩,la⟩:=mP S ea ra
 obtain⟨⟨bs,qb⟩,lb⟩:=mP S eb rb
 intro E Q h
 exact neOverData Z.prog Z.w A E s va vb da db as bs Q qa qb la lb (ac9 hd hu)<|h g ρ s _ (.refl _ _) S rfl
theorem om(S:b7 Z st g fx ρ s)(e:jy st sv=some xs)(r:RV Z g ρ sv v):∃a vs n,v=.ref a/\s.heap.get? a=some (nO vs n)/\ei Z g ρ xs vs.toList:=by
 refine agn e (λh=>?_) λk h hk=>?_
 ·subst h;refine qv r λa vs n zz3 ho hs=>?_;subst zz3;exact Z2 a vs n rfl (S.keep _ _ ho) hs.ke
 ·subst h;refine dS r λp hp zz2=>?_;subst zz2;obtain⟨_,vs,n,ho,hs⟩:=S.objs _ _ p hk hp;exact Z2 _ vs n rfl ho hs
theorem Gi(S:b7 Z st g fx ρ s)(e:nc st sv=some xs)(r:RV Z g ρ sv v):∃a vs n,v=.ref a/\(s.heap.get? a=some (nO vs n)\/s.heap.get? a=some (RS vs n))/\ei Z g ρ xs vs.toList:=by
 refine aa0 e (λh=>?_) λe=>?_
 ·subst h;refine qv r λa vs n zz3 ho hs=>?_;subst zz3;exact Z2 a vs n rfl (.inr<|S.keep _ _ ho) hs
 ·refine qv (om S e r) λa vs n e1 e2 e3=>Z2 a vs n e1 (.inl e2) e3
theorem El(p:α->Bool)(xs:List α):(xs.findIdx? p).isSome=xs.any p:=by
 induction xs with
 |nil=>exact rfl
 |cons x xs ih=>rw[eu,mi];cases h:p x<;>simp[ih]
theorem X5(S:b7 Z st g fx ρ s)(eb:nc st b=some xs)(he:(s9 a xs).map (·.isSome)=some r)(ra:RV Z g ρ a va)(rb:RV Z g ρ b vb)
  (hu:A.units+1+cw<cLine):bE Z A (eH .In va vb) st (.bool r) g fx ρ s/\bE Z A (eH .NotIn va vb) st (.bool<|!r) g fx ρ s:=by
 refine dj he λo ho hr=>aw ho λd h1 ho=>aw ho λds h2 ho=>j8 ho λhd ho=>?_
 subst ho hr
 have hd':=of_decide_eq_true hd
 refine qv (Gi S eb rb) λl vs n zz3 hl hs=>?_
 subst zz3
 refine fT (ei.reads S.keep h2 hs) λas qs=>fT (RV.reads S.keep h1 ra) λbs qa=>?_
 have lx:=vt h2
 have la:=yc h1
 have hu':A.units+1+min (mx ds) d.depth<cLine:=ac8 hu hd'
 rw[El]
 rcases hl with hl|hl
 ·have rc:kY s.heap (.ref l) (.list ds) (l::as):=.list hl rfl rfl qs;exact⟨λE Q h=>in_list_reads rc qa lx la hu'<|h g ρ s _ (.refl _ _) S rfl,λE Q h=>notIn_list_reads rc qa lx la hu'<|h g ρ s _ (.refl _ _) S rfl⟩
 ·have rc:kY s.heap (.ref l) (.tuple ds) as:=.tuple hl rfl rfl qs;exact⟨λE Q h=>in_tuple_reads rc qa lx la hu'<|h g ρ s _ (.refl _ _) S rfl,λE Q h=>notIn_tuple_reads rc qa lx la hu'<|h g ρ s _ (.refl _ _) S rfl⟩
theorem abx:∀{ds:List PyData},tE ds=true->∀d∈ds,fD d=true:=λ{ds}=>by
 induction ds with
 |nil=>exact λz z h=>absurd h aK
 |cons x xs ih=>exact λh d hd=>(aV.mp hd).elim (λe=>e▸(bW.mp h).1)<|ih (bW.mp h).2 d
mutual
theorem rX{P:PyData->Prop}(hi:∀i,P<|.int i)(hs:∀s,dC s=true->P (.str s))(ht:∀ds,tE ds=true->(∀d∈ds,P d)->P (.tuple ds)):∀d,fD d=true->P d
 |.int i,_=>hi i
 |.str s,h=>hs s h
 |.tuple ds,h=>ht ds h<|D3 hi hs ht ds h
 |.none,h=>ae h
 |.bool _,h=>ae h
 |.list _,h=>ae h
 |.dict _,h=>ae h
theorem D3{P:PyData->Prop}(hi:∀i,P<|.int i)(hs:∀s,dC s=true->P (.str s))(ht:∀ds,tE ds=true->(∀d∈ds,P d)->P (.tuple ds)):∀ds,tE ds=true->∀d∈ds,P d
 |[],_,_,m=>absurd m aK
 |x::xs,h,d,m=>(aV.mp m).elim (λe=>e▸rX hi hs ht x (bW.mp h).1)<|D3 hi hs ht xs (bW.mp h).2 d
end
abbrev Wt(a:PyData):Prop:=∀b,fD b=true->(bp a b=true↔a=b)
theorem Kx(h:bp a b=false)(k:a≠b):bp a b=true↔a=b:=⟨λe=>ae<|h.symm.trans e,λe=>absurd e k⟩
theorem OM:∀{a:List PyData},(∀d∈a,Wt d)->∀b:List PyData,tE b=true->(PyData.eqvAll a b=true↔a=b):=λ{a}=>by
 induction a with
 |nil=>
  intro _ b _;cases b with
  |nil=>exact⟨λz=>rfl,λz=>rfl⟩
  |cons y ys=>exact⟨λe=>ae e,λe=>l4 rfl<|heq_of_eq e⟩
 |cons x xs ih=>
  intro h b h';cases b with
  |nil=>exact⟨λe=>ae e,λe=>l4 rfl<|heq_of_eq e⟩
  |cons y ys=>have h':=bW.mp h';have h1:=h x (ax ..) y h'.1;have h2:=ih (λd m=>h d<|az _ m) ys h'.2;exact⟨λe=>(bW.mp e).elim λe1 e2=>(h1.mp e1)▸(h2.mp e2)▸rfl,λe=>iT e |>.elim λe1 e2=>bW.mpr ⟨h1.mpr e1,h2.mpr e2⟩⟩
theorem rY(ha:fD a=true):fD b=true->(bp a b=true↔a=b):=
 rX (P:=Wt) (λi b hb=>by
  cases b with
  |int j=>exact⟨λe=>congrArg lL<|eq_of_beq e,λe=>beq_iff_eq.mpr<|lL.inj e⟩
  |str _=>exact Kx rfl λe=>iS e
  |tuple _=>exact Kx rfl λe=>iS e
  |_=>exact ae hb) (λs z b hb=>by
  cases b with
  |str j=>exact⟨λe=>congrArg HL<|eq_of_beq e,λe=>beq_iff_eq.mpr<|HL.inj e⟩
  |int _=>exact Kx rfl λe=>iS e
  |tuple _=>exact Kx rfl λe=>iS e
  |_=>exact ae hb) (λds hd ih b hb=>by
  cases b with
  |tuple ys=>exact(OM ih ys hb).trans ⟨λe=>congrArg Vn e,Vn.inj⟩
  |int _=>exact Kx rfl λe=>iS e
  |str _=>exact Kx rfl λe=>iS e
  |_=>exact ae hb) a ha b
theorem OL:∀{ds:List PyData},(∀d∈ds,d.canLay0=true)->jl ds=true:=λ{ds}=>by
 induction ds with
 |nil=>exact λz=>rfl
 |cons x xs ih=>exact λh=>bW.mpr ⟨h x (ax ..),ih λd m=>h d<|az _ m⟩
theorem B5:∀{d:PyData},fD d=true->d.canLay0=true:=λ{d} h=>
 rX (λz=>rfl) (λz h=>h) (λz z ih=>OL ih) d h
mutual
noncomputable def xo:PyData->Nat
 |.tuple xs=>uU xs+1
 |_=>1
noncomputable def uU:List PyData->Nat
 |[]=>0
 |x::xs=>xo x+uU xs
end
end
end
section
variable{prog:Program}{w:cU}
theorem rdI(r:kY h v (.int i) as):∃t,v=.int i t/\as=[]:=by cases r with|int _ t=>exact⟨t,rfl,rfl⟩
theorem rdS(r:kY h v (.str i) as):∃t,v=.str i t/\as=[]:=by cases r with|str _ t=>exact⟨t,rfl,rfl⟩
theorem rdT{ds:List PyData}(r:kY h v (.tuple ds) as):∃a o vs n,v=.ref a/\h.get? a=some o/\o.cls=.type "tuple"/\o.data=.seq vs n/\nL h vs.toList ds as:=by cases r with|tuple h1 h2 h3 h4=>exact⟨_,_,_,_,rfl,h1,h2,h3,h4⟩
theorem rdN(r:nL h vs [] as):vs=[]/\as=[]:=by cases r;exact⟨rfl,rfl⟩
theorem rdC{ds:List PyData}(r:nL h vs (d::ds) as):∃v vs' a1 a2,vs=v::vs'/\as=a1++a2/\kY h v d a1/\nL h vs' ds a2:=by cases r with|cons r1 r2=>exact⟨_,_,_,_,rfl,rfl,r1,r2⟩
theorem Ea(ds:List PyData):mO w ds=ds.map (eM w):=by
 induction ds with
 |nil=>rfl
 |cons d ds ih=>exact congrArg (eM w d::·) ih
theorem Z7{ds:List PyData}(h:d∈ds):d.depth<=mx ds:=by
 induction ds with
 |nil=>exact absurd h aK
 |cons x xs ih=>
  rcases aV.mp h with rfl|h
  ·exact zQ _ _
  ·exact ah (ih h)<|xM _ _
theorem Xq(b:Array Int)(x:Int)(l:List Int):b.push x++l.toArray=b++(x::l).toArray:=by simp
theorem Zx(h:a+4*(m+1)+4<cLine):a+1+4*m+4<cLine:=aF (by omega) h
abbrev vZ(prog:Program)(w:cU)(d:PyData):Prop:=∀{A:bD}{E:Value->Shared->Prop}{s:Shared}{v:Value}{as:List Addr}{Q:Int->Shared->Prop},kY s.heap v d as->A.units+4*d.depth+4<cLine->
  Q (eM w d) {s with toks:=s.toks+xo d}->av (model prog w) A (pyHash v) Q E s
theorem O7(i:Int):vZ prog w (.int i):=λr z h=>by refine dS (rdI r) λt zz1 z=>?_;subst zz1;exact(fW prog w).pyHash (by simp[fW,oy]) h
theorem O6(x:Str)(_:dC x=true):vZ prog w (.str x):=λr z h=>by refine dS (rdS r) λt zz1 z=>?_;subst zz1;exact(strKind prog w).pyHash (by simp[oB,Be]) h
section
variable{A:bD}{E:Value->Shared->Prop}
theorem G4(hf:∀v b,f v b=(do let h<-pyHash v;pure (.yield<|b.push h)))(hu:A.units+4*m+4<cLine){ds:List PyData}:∀{s:Shared}{vs:List Value}{as:List Addr}{b:Array Int}{Q:Array Int->Shared->Prop},(∀d∈ds,vZ prog w d)->nL s.heap vs ds as->
  mx ds<=m->Q (b++(ds.map<|eM w).toArray) {s with toks:=s.toks+uU ds}->av (model prog w) A (forIn vs b f) Q E s:=by
 induction ds with
 |nil=>intro s vs as b Q _ r _ h;refine kg (rdN r) λzz0 zz1=>?_;subst zz0;subst zz1;rw[iK];have h:Q (b++#[]) s:=h;rw[Array.append_empty] at h;exact ab h
 |cons d ds ih=>intro s vs as b Q hk r hm h;refine x44 (rdC r) λz z z z zz4 zz5 r1 r2=>?_;subst zz4;subst zz5;rw[cA,hf];refine aX<|aX<|hk d (ax ..) r1 (aF (gC (aY (gL 4<|ah (zQ ..) hm) _) _) hu)<|ab ?_;refine ih (λd m=>hk d<|az _ m) r2 (ah (xM ..) hm) ?_;rw[Xq,Nat.add_assoc];exact h
end
theorem O5(ds:List PyData)(ih:∀d∈ds,vZ prog w d):vZ prog w (.tuple ds):=λ{A E s v as Q} r hu h=>by
 refine x45 (rdT r) λa o vs n zz4 ho hc hd hr=>?_;subst zz4;have hT:s.TypeIs (.ref a) "tuple":=⟨o,ho,hc⟩;refine aX<|wpAny_cRoomFor_or (.inr<|aea hu) ?_;refine aX<|iE hT p8.lookup ?_;show av _ _ (if(some (Bf "tuple.__hash__")==some nK)=true then _ else _) Q E s;rw[Bd];refine vp<|aX<|iE hT p8.lookup ?_;show av _ _ (callSpecialIfBoundUnlessNone? (.ref a) "__hash__" _>>=_) Q E s;refine aX<|wpAny_callSpecialIfBoundUnlessNone?_slot hT p8<|bz p8 hT F.entry_tuple_hash ?_<|F.args_tuple_hash_1 _;show av _ _ (ud (.ref a)>>=_) _ _ s;refine aX<|wpAny_tupleItemsOf ho hd ?_;refine aJ ?_;rw[<-fZ];refine G4 (λz z=>rfl) (Zx hu) ih hr (aG _) ?_;have hm:((#[]:Array Int)++(ds.map<|eM w).toArray).toList=mO w ds:=by simp[Ea]
 dsimp only;rw[hm];refine wpAny_ret_mkInt ?_;show av _ _ (if(decide (-(2:Int)^63<=ft (mO w ds))&&decide (ft (mO w ds)<2^63))=true then _ else _) Q E _;change Q (reduceHash<|ft<|mO w ds) {s with toks:=s.toks+uU ds+1} at h;unfold reduceHash at h;by_cases hr:(decide (-(2:Int)^63<=ft (mO w ds))&&decide (ft (mO w ds)<2^63))=true
 ·rw[if_pos hr] at h ⊢;exact ab h
 ·rw[if_neg hr] at h ⊢;exact aX<|dA<|ab h
theorem yA(hd:fD d=true):vZ prog w d:=rX O7 O6 (λds z=>O5 ds) d hd
abbrev sh(prog:Program)(w:cU)(d:PyData):Prop:=∀{n:Nat}{A:bD}{E:Value->Shared->Prop}{s:Shared}{v:Value}{as:List Addr}{Q:Bool->Shared->Prop},kY s.heap v d as->d.depth<=n->Q true s->av (model prog w) A (eqIsQuiet n v) Q E s
theorem Ko(i:Int):sh prog w (.int i):=λ{n _ _ _ _ _ _} r _ h=>by refine dS (rdI r) λt zz1 z=>?_;subst zz1;rw[eqIsQuiet_byValue n rfl];exact ab h
theorem Km(x:Str)(_:dC x=true):sh prog w (.str x):=λ{n _ _ _ _ _ _} r _ h=>by refine dS (rdS r) λt zz1 z=>?_;subst zz1;rw[eqIsQuiet_byValue n rfl];exact ab h
theorem DI{A:bD}{E:Value->Shared->Prop}{s:Shared}{n:Nat}{Q:β->Shared->Prop}
  (hf:∀v,(∀(Wz:Bool->Shared->Prop)(aaC:Value->Shared->Prop),Wz true s->av (model prog w) A (eqIsQuiet n v) Wz aaC s)->av (model prog w) A (f v b) (λx s'=>s'=s/\x=.yield b) E s) (h:Q b s) {ds:List PyData}:∀{vs:List Value}{as:List Addr},(∀d∈ds,sh prog w d)->nL s.heap vs ds as->mx ds<=n->av (model prog w) A (forIn vs b f) Q E s:=by
 induction ds with
 |nil=>intro vs as _ r _;refine kg (rdN r) λzz0 zz1=>?_;subst zz0;subst zz1;exact ab h
 |cons d ds ih=>intro vs as hk r hn;refine x44 (rdC r) λz z z z zz4 zz5 r1 r2=>?_;subst zz4;subst zz5;rw[cA];refine aX<|eS (hf _ λWz aaC mX=>hk d (ax ..) r1 (ah (zQ ..) hn) mX) ?_ λz z e=>e;rintro x s' ⟨rfl,rfl⟩;exact ih (λd m=>hk d<|az _ m) r2<|ah (xM ..) hn
theorem Kl(ds:List PyData)(ih:∀d∈ds,sh prog w d):sh prog w (.tuple ds):=λ{n A E s v as Q} r hn h=>by
 refine x45 (rdT r) λa o vs m zz4 ho hc hd hr=>?_;subst zz4;have hT:s.TypeIs (.ref a) "tuple":=⟨o,ho,hc⟩;cases n with
 |zero=>exact absurd hn<|s8 _
 |succ n=>
  unfold eqIsQuiet;refine aX<|iE hT F.slot_tuple_eq.lookup ?_;refine aX<|dh hT isSubtype_tuple_tuple ?_;refine vp<|aX<|fV ho hd ?_;refine aX ?_;rw[<-fZ];refine DI (λv h'=>?_) ?_ ih hr<|qD hn
  ·refine aX<|h' _ _ ?_;refine vp<|ab ⟨rfl,rfl⟩
  ·exact ab h
theorem Kn(hd:fD d=true):sh prog w d:=rX Ko Km (λds z=>Kl ds) d hd
abbrev HA(h h':Heap)(d:PyData):Prop:=∀{v:Value}{as:List Addr},kY h v d as->kY h' v d as
theorem DE{ds:List PyData}:∀{vs:List Value}{as:List Addr},(∀d∈ds,HA h h' d)->nL h vs ds as->nL h' vs ds as:=by
 induction ds with
 |nil=>intro vs as _ r;obtain⟨rfl,rfl⟩:=rdN r;exact .nil
 |cons d ds ih=>
  intro vs as k r;cases r with
  |cons r1 r2=>exact .cons (k d (ax ..) r1)<|ih (λd m=>k d<|az _ m) r2
theorem B4{h h':Heap}(k:∀b o,h.get? b=some o->o.cls=.type "tuple"->(∃vs n,o.data=.seq vs n)->h'.get? b=some o)(hd:fD d=true):HA h h' d:=
 rX (P:=λd=>HA h h' d) (λi z z r=>by obtain⟨t,rfl,rfl⟩:=rdI r;exact .int _ t) (λs z z z r=>by obtain⟨t,rfl,rfl⟩:=rdS r;exact .str _ t)
  (λds z ih z z r=>by refine x45 (rdT r) λz z z z zz4 h1 h2 h3 h4=>?_;subst zz4;exact .tuple (k _ _ h1 h2 ⟨_,_,h3⟩) h2 h3<|DE ih h4) d hd
noncomputable instance aiK:DecidableEq PyData:=λa b=>Classical.propDecidable<|a=b
theorem Hf(ha:fD a=true)(hb:fD b=true):bp a b=decide (a=b):=by
 by_cases h:a=b
 ·rw[decide_eq_true h];exact(rY ha hb).mpr h
 ·rw[decide_eq_false h];cases q:bp a b with
  |false=>rfl
  |true=>exact absurd ((rY ha hb).mp q) h
def WE(prog:Program)(w:cU):HeapKind prog w PyData where
 is h k a:=(∃xs,k=.tuple xs)/\fD k=true/\k.depth<=cw/\∃as,kY h (.ref a) k as
 hash:=eM w
 draws:=xo
 room A:=A.units+64<cLine
 inj:=λ{h a x y} hx hy=>by obtain⟨_,k1,_,as,r1⟩:=hx;obtain⟨_,k2,_,bs,r2⟩:=hy;exact Reads.unique x y _ _ _ (B5 k1) r1 r2
 keeps:=λ{h h' k a d o es ep} x ho hd hs=>by
  obtain⟨t,k1,k2,as,r⟩:=x;refine⟨t,k1,k2,as,B4 (λb ob e hc hq=>?_) k1 r⟩;have hne:b≠d:=by rintro rfl;rw[ho] at e;obtain rfl:=aa e;refine zC hq λvs n hq=>?_;rw[hd] at hq;cases hq
  exact(hs.2 b hne).trans e
 pyHash:=λ{A E s k a Q} hu x h=>by obtain⟨_,k1,k2,as,r⟩:=x;exact yA k1 r (by simp only[cw] at k2;exact ac6 hu k2) h
 eqBool:=λ{A E s x y a b Q} hu hx hy h=>by obtain⟨_,k1,k2,as,r1⟩:=hx;obtain⟨_,k3,k4,bs,r2⟩:=hy;refine eqBoolOverData prog w A E s _ _ x y as bs Q r1 r2 (B5 k1) (B5 k3) (by simp only[cw] at k2;have:=ig x.depth y.depth;exact ad9 hu k2 this) ?_;rw[Hf k1 k3];exact h
 quiet:=λ{A E s k a Q} x h=>by obtain⟨_,k1,k2,as,r⟩:=x;exact Kn (n:=8) k1 r k2 h
end
def FG(h:Heap)(w:cU):List PyData->List DictEntry->Prop
 |[],es=>es=[]
 |d::ds,es=>∃e es',es=e::es'/\(∃as,kY h e.key d as)/\e.hash=eM w d/\FG h w ds es'
theorem FG.of{h:Heap}{w:cU}(k:∀b o,g b=some o->h.get? b=some o):∀{ds:List PyData}{es:List DictEntry},fR ks=some ds->ei Z g [] ks (es.map (·.key))->es.map (·.hash)=ds.map (eM w)->FG h w ds es:=by
 induction ks with
 |nil=>intro ds es e r _;obtain rfl:=aa e;exact tW.mp r
 |cons x xs ih=>
  intro ds es e r hh;refine aw e λd h1 e=>dj e λds' h2 hd=>?_;subst hd;refine jG r λv vs' e1 r1 r2=>?_;cases es with
  |nil=>exact l4 rfl<|heq_of_eq e1
  |cons en es'=>refine kg (iT e1) λzz0 zz1=>?_;subst zz0;subst zz1;have hh:=iT hh;exact VG en es' rfl (RV.reads k h1 r1) hh.1<|ih h2 r2 hh.2
theorem FG.mem{w:cU}{ds:List PyData}:∀{es:List DictEntry},FG h w ds es->∀e∈es,∃d∈ds,(∃as,kY h e.key d as)/\e.hash=eM w d:=by
 induction ds with
 |nil=>intro _ r e he;rw[r] at he;exact absurd he aK
 |cons d ds ih=>
  intro es r e he;obtain⟨e',es',rfl,q,hh,r⟩:=r;rcases aV.mp he with rfl|he
  ·exact Aw d ax q hh
  ·obtain⟨d',hd,q'⟩:=ih r e he;exact⟨d',az _ hd,q'⟩
theorem FG.findIdx{w:cU}{p:Value->Bool}{q:PyData->Bool}{ds:List PyData}:∀{es:List DictEntry},FG h w ds es->(∀d∈ds,∀v as,kY h v d as->p v=q d)->es.findIdx? (λe=>p e.key)=ds.findIdx? q:=by
 induction ds with
 |nil=>intro _ r _;rw[r];rfl
 |cons d ds ih=>intro es r hp;obtain⟨e,es',rfl,⟨as,r1⟩,_,r⟩:=r;rw[eu,eu,hp d ax _ _ r1,ih r λd' hd=>hp d'<|az _ hd]
theorem rZ(h:fD x=true):(∃j,x=.int j)\/(∃s,x=.str s)\/∃ys,x=.tuple ys:=by
 cases x with
 |int j=>exact .inl ⟨j,rfl⟩
 |str s=>exact .inr<|.inl ⟨s,rfl⟩
 |tuple ys=>exact .inr<|.inr ⟨ys,rfl⟩
 |_=>exact ae h
theorem TA(h:fD x=true)(k:gY x=0):∃j,x=.int j:=by
 rcases rZ h with h|⟨s,rfl⟩|⟨ys,rfl⟩
 ·exact h
 ·exact absurd k<|gc 0
 ·exact absurd k<|gc 1
theorem Tz(h:fD x=true)(k:gY x=1):∃j,x=.str j:=by
 rcases rZ h with ⟨j,rfl⟩|h|⟨ys,rfl⟩
 ·exact absurd k.symm<|gc 0
 ·exact h
 ·exact absurd (ku k)<|gc 0
theorem Tx(h:fD x=true)(k:gY x=2):∃ys,x=.tuple ys:=by
 rcases rZ h with ⟨j,rfl⟩|⟨s,rfl⟩|h
 ·exact absurd k.symm<|gc 1
 ·exact absurd (ku k).symm<|gc 0
 ·exact h
theorem tw(r:kY h v (.int i) as):∃t,v=.int i t:=(rdI r).imp λz=>JI
theorem tu(r:kY h v (.str i) as):∃t,v=.str i t:=(rdS r).imp λz=>JI
theorem yx(r:kY h v (.tuple i) as):∃a,v=.ref a:=(rdT r).imp λy z=>z.elim λy z=>z.elim λy z=>z.elim λy z=>z.1
theorem FG.heap{prog:Program}{w:cU}{ds:List PyData}:∀{es:List DictEntry},FG h w ds es->(∀d∈ds,fD d=true/\d.depth<=cw/\gY d=2)->
  ∃xs:List (PyData×Addr×Value),es=xs.map (entryOfKey<|WE prog w)/\xs.map (·.1)=ds/\∀x∈xs,(WE prog w).is h x.1 x.2.1:=by
 induction ds with
 |nil=>intro _ r _;exact⟨[],r,rfl,λz h=>absurd h aK⟩
 |cons d ds ih=>
  intro es r hp;obtain⟨e,es',rfl,⟨as,r1⟩,hh,r⟩:=r;refine u6 (ih r λd' hd=>hp d'<|az _ hd) λxs h1 h2 h3=>qe (hp d ax) λk1 k2 k3=>?_;refine fT (Tx k1 k3) λys zz1=>?_;subst zz1;refine fT (yx r1) λa hk=>Aw ((.tuple ys,a,e.val)::xs) ?_ (congrArg (_::·) h2) λx hx=>?_
  ·obtain⟨hash,key,val⟩:=e;have hh:hash=_:=hh;have hk:key=_:=hk;rw[h1,hh,hk];rfl
  ·rcases aV.mp hx with rfl|hx
   ·exact⟨⟨ys,rfl⟩,k1,k2,as,hk▸r1⟩
   ·exact h3 x hx
theorem Ek{ds:List PyData}(hk:fD d=true)(hks:∀x∈ds,fD x=true)(hn:ds.Nodup)(hj:ds[j]? =some d):ds.findIdx? (λx=>bp x d)=some j:=by
 induction ds generalizing j with
 |nil=>simp at hj
 |cons x xs ih=>
  rw[eu];have hx:=hks x ax;rw[eW] at hn;cases j with
  |zero=>simp at hj;subst hj;rw[(rY hx hk).mpr rfl];rfl
  |succ j=>
   simp at hj;have hne:x≠d:=by rintro rfl;exact hn.1<|aI hj
   have:bp x d=false:=by
    cases q:bp x d with
    |false=>rfl
    |true=>exact absurd ((rY hx hk).mp q) hne
   rw[this,ih (λy hy=>hks y<|az _ hy) hn.2 hj];rfl
theorem vM{ds:List PyData}(hk:fD d=true)(hks:∀x∈ds,fD x=true)(hj:∀j:Nat,ds[j]?≠some d):ds.findIdx? (λx=>bp x d)=none:=by
 rw[bU];intro x hx;cases q:bp x d with
 |false=>rfl
 |true=>have:=(rY (hks x hx) hk).mp q;subst this;refine fT (rG.mp hx) λj hj'=>absurd hj'<|hj j
theorem xi{es:List α}(h:e∈es.toArray):e∈es:=by simpa using h
theorem OQ(prog:Program)(w:cU)(j:Int)(t:Tok):(fW prog w).is j (.int j t)=true:=by simp[fW,oy]
theorem OO(prog:Program)(w:cU)(j:Str)(t:Tok):(oB prog w).is j (.str j t)=true:=by simp[oB,Be]
theorem TG(prog:Program)(w:cU)(i j:Int)(t:Tok):(fW prog w).is i (.int j t)=bp (.int j) (.int i):=by simp[fW,oy,bp]
theorem R0(prog:Program)(w:cU)(i j:Str)(t:Tok):(oB prog w).is i (.str j t)=bp (.str j) (.str i):=by simp[oB,Be,bp]
section
variable{prog:Program}{w:cU}{A:bD}{E:Value->Shared->Prop}{s:Shared}{D:Addr}{n:Nat}{es:List DictEntry}{ds:List PyData}{Q:Option Nat->Shared->Prop}
theorem PC(X:FG s.heap w ds es)(hD:s.heap.get? D=some (dictOf es n))(key:∀x∈ds,∃j,x=.int j)(h:Q (ds.findIdx? λx=>bp x<|.int i) s):av (model prog w) A (Fd D (.int i t)<|eM w<|.int i) Q E s:=by
 refine wpAny_dictFind_of (OQ ..) hD rfl (λe he=>?_) ?_
 ·obtain⟨d,hd,⟨as,q⟩,hh⟩:=X.mem e<|xi he;refine fT (key d hd) λj zz1=>?_;subst zz1;refine fT (tw q) λt hk=>⟨j,hk▸OQ ..,hh⟩
 ·rw[Ft,X.findIdx λd hd v as q=>?_]
  ·exact h
  ·refine fT (key d hd) λj zz1=>?_;subst zz1;refine fT (tw q) λt zz1=>?_;subst zz1;exact TG ..
theorem PB(X:FG s.heap w ds es)(hD:s.heap.get? D=some (dictOf es n))(key:∀x∈ds,∃j,x=.str j)(h:Q (ds.findIdx? λx=>bp x<|.str i) s):av (model prog w) A (Fd D (.str i t)<|eM w<|.str i) Q E s:=by
 refine wpAny_dictFind_of (OO ..) hD rfl (λe he=>?_) ?_
 ·obtain⟨d,hd,⟨as,q⟩,hh⟩:=X.mem e<|xi he;refine fT (key d hd) λj zz1=>?_;subst zz1;refine fT (tu q) λt hk=>⟨j,hk▸OO ..,hh⟩
 ·rw[Ft,X.findIdx λd hd v as q=>?_]
  ·exact h
  ·refine fT (key d hd) λj zz1=>?_;subst zz1;refine fT (tu q) λt zz1=>?_;subst zz1;exact R0 ..
theorem PA(X:FG s.heap w ds es)(hD:s.heap.get? D=some (dictOf es n))(hk:fD (.tuple ys)=true)(hks:∀x∈ds,fD x=true/\x.depth<=cw/\gY x=2)(hn:ds.Nodup)(hd:(Vn ys).depth<=cw)
  (r:kY s.heap (.ref a) (.tuple ys) as) (hu:A.units+64<cLine) (h:Q (ds.findIdx? λx=>bp x<|.tuple ys) s):av (model prog w) A (Fd D (.ref a)<|eM w<|.tuple ys) Q E s:=by
 refine u6 (FG.heap (prog:=prog) X hks) λxs h1 h2 h3=>wpAny_dictFind_heap (knd:=WE prog w) (k:=.tuple ys) hu ⟨⟨ys,rfl⟩,hk,hd,as,r⟩ hD rfl h1 h3 (by rw[h2];exact hn) (λhno=>?_) λj p hj=>?_
 ·rw[vM hk (λx hx=>(hks x hx).1) λj hj=>?_] at h
  ·exact h
  ·rw[<-h2,ai,bq] at hj;refine dS hj λx hx e=>hno j x.2 (by rw[hx,<-e])
 ·rw[Ek hk (λx hx=>(hks x hx).1) hn (by rw[<-h2,ai,hj];rfl)] at h;exact h
theorem Cy(X:FG s.heap w ds es)(hD:s.heap.get? D=some (dictOf es n))(hk:fD d=true)(hks:∀x∈ds,fD x=true/\x.depth<=cw/\gY x=gY d)(hn:ds.Nodup)(hd:d.depth<=cw)
  (r:kY s.heap v d as) (hu:A.units+64<cLine) (h:Q (ds.findIdx? λx=>bp x d) s):av (model prog w) A (Fd D v<|eM w d) Q E s:=by
 rcases rZ hk with ⟨i,rfl⟩|⟨i,rfl⟩|⟨ys,rfl⟩
 ·refine fT (tw r) λt zz1=>?_;subst zz1;exact PC X hD (λx hx=>TA (hks x hx).1 (hks x hx).2.2) h
 ·refine fT (tu r) λt zz1=>?_;subst zz1;exact PB X hD (λx hx=>Tz (hks x hx).1 (hks x hx).2.2) h
 ·refine fT (yx r) λa zz1=>?_;subst zz1;exact PA X hD hk hks hn hd r hu h
end
structure hV(Z:dM)(g:FH)(ρ:eE)(s:Shared)(D:Addr)(ks vs:List SV)(es:List DictEntry)(n:Nat):Prop where
 at_:s.heap.get? D=some (dictOf es n)
 keys:ei Z g [] ks (es.map (·.key))
 vals:ei Z g ρ vs (es.map (·.val))
 ok:∃ds,pW Z.w ks ds (es.map (·.hash))
 no:D≠sysModules
section
variable{Z:dM}{st:List SO}{g fx:FH}{ρ:eE}{s:Shared}{A:bD}{E:Value->Shared->Prop}{D:Addr}{ks vs:List SV}{es:List DictEntry}{n:Nat}
theorem vP(S:b7 Z st g fx ρ s)(e:jk st sv=some (ks,vs))(r:RV Z g ρ sv v):∃D es n,v=.ref D/\hV Z g ρ s D ks vs es n:=by
 refine ag0 e (λh=>?_) λk h hk=>?_
 ·subst h;refine x36 r λa es n zz3 ho h1 h2 h3 h4=>?_;subst zz3;exact⟨a,es,n,rfl,S.keep _ _ ho,h1,h2.ke,h3,h4⟩
 ·subst h;refine dS r λp hp zz2=>?_;subst zz2;obtain⟨_,es,n,ho,h1,h2,h3,h4⟩:=S.objs _ _ p hk hp;exact⟨_,es,n,rfl,ho,h1,h2,h3,h4⟩
theorem rm(e:cW k ks=some r):∃d ds,m6 k=some d/\fR ks=some ds/\fD d=true/\(∀x∈ds,fD x=true/\gY x=gY d)/\d.depth<=cw/\r=ds.findIdx? (λx=>bp x d):=
 aw e λd h1 e=>aw e λds h2 e=>j8 e λhc hr=>cI hc λhc h5=>cI hc λh3 h4=>⟨d,ds,h1,h2,h3,λx hx=>cI (ba.mp h4 x hx) λa b=>⟨a,beq_iff_eq.mp b⟩,fX h5,hr.symm⟩
theorem hV.len(X:hV Z g ρ s D ks vs es n):es.length=ks.length/\es.length=vs.length:=by have h1:=X.keys.length;have h2:=X.vals.length;simp only[ag] at h1 h2;exact⟨h1,h2⟩
theorem hV.typeIs(X:hV Z g ρ s D ks vs es n):s.TypeIs (.ref D) "dict":=⟨_,X.at_,rfl⟩
theorem vO(k:∀b o,g b=some o->s.heap.get? b=some o)(X:hV Z g ρ s D ks vs es n)(e:cW key ks=some r)(rk:RV Z g ρ key kv)(hu:A.units+64<cLine):
  ∃d tk,m6 key=some d/\(∀(E:Value->Shared->Prop)(Q:Int->Shared->Prop),Q (eM Z.w d) {s with toks:=tk}->av (Mo Z) A (pyHash kv) Q E s)/\
   (∀(E:Value->Shared->Prop)(Q:Option Nat->Shared->Prop)(t:Nat),Q r {s with toks:=t}->av (Mo Z) A (Fd D kv<|eM Z.w d) Q E {s with toks:=t}):=by
 refine x26 (rm e) λd ds h1 h2 h3 h4 h5 zz7=>?_
 subst zz7
 refine fT X.ok λds' K=>?_
 have:=K.py
 rw[h2] at this
 obtain rfl:=aa this
 refine fT (RV.reads k h1 rk) λas q=>Av d (s.toks+xo d) h1 (λE Q h=>yA h3 q (by simp only[cw] at h5;exact ac6 hu h5) h) λE Q t h=>?_
 exact Cy (FG.of k h2 X.keys K.hash) X.at_ h3 (λx hx=>⟨(h4 x hx).1,K.deep x hx,(h4 x hx).2⟩) K.nodup h5 q hu h
theorem tI(k:∀b o,g b=some o->s.heap.get? b=some o)(X:hV Z g ρ s D ks vs es n)(e:cW key ks=some r)(rk:RV Z g ρ key kv)(hu:A.units+64<cLine)
  (h:∀t,Q (r.bind λj=>(es[j]?).map (·.val)) {s with toks:=t}):av (Mo Z) A (zN D kv) Q E s:=by
 refine jG (vO k X e rk hu) λd tk h1 hh hf=>?_
 unfold zN
 try with_reducible refine aR ?_
 refine aX<|hh _ _<|aX<|hf _ _ _ ?_
 cases r with
 |none=>exact ab<|h _
 |some j=>refine aJ<|wpAny_dictEntries X.at_ rfl ?_;have:=h tk;simp only[oY] at this;simp only[Fq];exact ab this
theorem Hc{xs:List α}(h:xs.findIdx? p=some j):j<xs.length:=by obtain⟨hj,_⟩:=bA.mp h;exact hj
theorem Hb(e:cW k ks=some (some j)):j<ks.length:=by
 refine x26 (rm e) λd ds h1 h2 h3 h4 h5 hr=>?_;have:=Hc hr.symm;have hl:∀{xs:List SV}{ys:List PyData},fR xs=some ys->ys.length=xs.length:=by
  intro xs;induction xs with
  |nil=>intro ys e;obtain rfl:=aa e;rfl
  |cons x xs ih=>intro ys e;exact aw e λz z e=>dj e λz q2 hd=>by rw[<-hd];simp[ih q2]
 rw[hl h2] at this;exact this
theorem BA:∀{ys:List SV}{ds es:List PyData},fR xs=some ds->fR ys=some es->fR (xs++ys)=some (ds++es):=by
 induction xs with
 |nil=>intro _ _ _ e e';obtain rfl:=aa e;exact e'
 |cons x xs ih=>intro _ _ _ e e';exact aw e λd h1 e=>dj e λds h2 hd=>by rw[<-hd];show(m6 x).bind (λd=>(fR<|xs++_).map λds=>d::ds)=_;rw[h1,ih h2 e'];rfl
theorem pW.push(K:pW w ks ds hs)(e:cW k ks=some none)(h1:m6 k=some d):pW w (ks++[k]) (ds++[d]) (hs++[eM w d]):=by
 refine x26 (rm e) λd' ds' e1 e2 e3 e4 e5 e6=>?_;rw[h1] at e1;cases e1;have:=K.py;rw[e2] at this;cases this;have h1':fR [k]=some [d]:=by show(m6 k).bind _=_;rw[h1];rfl
 refine⟨BA e2 h1',λx hx=>?_,λx hx=>?_,?_,λx hx y hy=>?_,by simp[K.hash]⟩
 ·rcases ct.mp hx with hx|hx
  ·exact K.key x hx
  ·obtain rfl:=aE.mp hx;exact e3
 ·rcases ct.mp hx with hx|hx
  ·exact K.deep x hx
  ·obtain rfl:=aE.mp hx;exact e5
 ·rw[c9];refine⟨K.nodup,by simp,λx hx y hy=>?_⟩;simp only[aE] at hy;subst hy;rintro rfl;have:=bU.mp e6.symm x hx;rw[(rY e3 e3).mpr rfl] at this;exact ae this
 ·have kx:∀x∈ds++[d],gY x=gY d:=λx hx=>by
   rcases ct.mp hx with hx|hx
   ·exact(e4 x hx).2
   ·obtain rfl:=aE.mp hx;rfl
  rw[kx x hx,kx y hy]
noncomputable def qh(r:Option Nat)(hsh:Int)(kv v:Value)(es:List DictEntry):List DictEntry:=match r with
 |some j=>es.modify j λe=>{e with val:=v}
 |none=>es++[⟨hsh,kv,v⟩]
theorem pR(k:∀b o,g b=some o->s.heap.get? b=some o)(X:hV Z g ρ s D ks vs es n)(e:cW key ks=some r)(rk:RV Z g ρ key kv)(hu:A.units+64<cLine)(hl:ks.length<=eA)
  (h:∀d h' t n',m6 key=some d->h'.get? D=some (dictOf (qh r (eM Z.w d) kv v es) n')->dH D s.heap h'->Q () {s with heap:=h',toks:=t}):av (Mo Z) A (Md D kv v) Q E s:=by
 refine jG (vO k X e rk hu) λd tk h1 hh hf=>?_
 have hsz:es.length<=sizeLine:=by rw[X.len.1];unfold eA at hl;rw[jo];exact ZE hl
 unfold Md
 try with_reducible refine aR ?_
 refine aJ<|hh _ _ ?_
 unfold dictSetHashed
 try with_reducible refine aR ?_
 refine aJ<|hf _ _ _ ?_
 cases r with
 |none=>refine aX (dA<|Q1 (s:={s with toks:=tk}) X.at_ rfl (h d _ _ (n+1) h1 ?_ (cK ..)) (by simpa using hsz)<|by simp);rw[du _ X.at_ rfl];exact congrArg (λx=>some<|({cls:=.type "dict",data:=.dict x<|n+1}:Obj)) (List.push_toArray ..)
 |some j=>refine aX (dA<|aX<|wpAny_updateDict (s:={s with toks:=tk}) X.at_ rfl (wpAny_point<|h d _ _ n h1 ?_ (cK ..))<|by simp);rw[du _ X.at_ rfl];exact congrArg (λx=>some<|({cls:=.type "dict",data:=.dict x n}:Obj)) List.modify_toArray
theorem mmS{g:α->β}(h:∀x,g (f x)=g x):∀(l:List α)(j:Nat),(l.modify j f).map g=l.map g:=λl=>by
 induction l with
 |nil=>intro j;rw[Ri]
 |cons x l ih=>
  intro j;cases j with
  |zero=>rw[Fo,cS,h,cS]
  |succ j=>rw[Fp,cS,ih,cS]
theorem mmV{g:α->β}(h:∀x,g (f x)=v):∀(l:List α)(j:Nat),(l.modify j f).map g=(l.map g).set j v:=λl=>by
 induction l with
 |nil=>intro j;rw[Ri];rfl
 |cons x l ih=>
  intro j;cases j with
  |zero=>rw[Fo,cS,h,cS,List.set_cons_zero]
  |succ j=>rw[Fp,cS,ih,cS,List.set_cons_succ]
theorem BR{s':Shared}(x:ey g ρ g' bQ)(X:hV Z g ρ s D ks vs es n)(e:cW key ks=some r)(h1:m6 key=some d)(rk:RV Z g ρ key kv)(hfree:key.free=true)(rv:RV Z g' bQ val v)
  (ho:s'.heap.get? D=some (dictOf (qh r (eM Z.w d) kv v es) n')):hV Z g' bQ s' D (wi r ks key) (wh r vs val) (qh r (eM Z.w d) kv v es) n':=by
 refine fT X.ok λds K=>?_
 cases r with
 |some j=>
  refine⟨ho,?_,?_,⟨ds,?_⟩,X.no⟩
  ·rw[show(qh (some j) (eM Z.w d) kv v es).map (·.key)=es.map (·.key) from mmS (f:=λe=>{e with val:=v}) (λz=>rfl) es j];exact X.keys.mono x.nil
  ·rw[show(qh (some j) (eM Z.w d) kv v es).map (·.val)=(es.map (·.val)).set j v from mmV (f:=λe=>{e with val:=v}) (λz=>rfl) es j];exact(X.vals.mono x).set rv
  ·rw[show(qh (some j) (eM Z.w d) kv v es).map (·.hash)=es.map (·.hash) from mmS (f:=λe=>{e with val:=v}) (λz=>rfl) es j];exact K
 |none=>
  refine⟨ho,?_,?_,⟨ds++[d],?_⟩,X.no⟩
  ·rw[show(qh none (eM Z.w d) kv v es).map (·.key)=es.map (·.key)++[kv] from bf];exact(X.keys.mono x.nil).append<|.one<|(rk.free hfree).mono x.nil
  ·rw[show(qh none (eM Z.w d) kv v es).map (·.val)=es.map (·.val)++[v] from bf];exact(X.vals.mono x).append<|.one rv
  ·rw[show(qh none (eM Z.w d) kv v es).map (·.hash)=es.map (·.hash)++[eM Z.w d] from bf];exact K.push e h1
end
section
variable{Z:dM}{st:List SO}{g fx:FH}{ρ:eE}{s:Shared}{A:bD}{E:Value->Shared->Prop}
abbrev oR(Z:dM)(g:FH)(h h':Heap):FH:=eG Z g h h' λz=>false
theorem a7:ey g ρ (eG Z g h h' ex) ρ:=⟨λz z e=>cv e,[],by simp⟩
theorem b7.S0(S:b7 Z st g fx ρ s){h':Heap}(t':Nat)(hk:∀b o,s.heap.get? b=some o->h'.get? b=some o)(hn:s.heap.get? a=none)(ho:h'.get? a=some o):
  b7 Z st (oR Z g s.heap h') fx ρ {s with heap:=h',toks:=t'}/\oR Z g s.heap h' a=some o:=
 ⟨S.grow t' hk,gz S hn ho rfl (S.fresh hn).2.2⟩
theorem bL(h:Heap):h.get? h.objs.size=none:=by
 cases e:h.get? h.objs.size with
 |none=>rfl
 |some o=>exact absurd (cg e)<|cp _
theorem ez{h:Heap}{o:Obj}(ho:o.isFreed=false:=by rfl):(h.push o).get? h.objs.size=some o:=bB _ ho
theorem cx{h:Heap}:∀b ob,h.get? b=some ob->(h.push o).get? b=some ob:=λz z e=>ar _ e
theorem b7.SY(S:b7 Z st g fx ρ s){h':Heap}(t':Nat)(hk:∀b o,s.heap.get? b=some o->h'.get? b=some o)(hn:s.heap.get? a=none)(so:SO)(r:∀g' bQ,ey g ρ g' bQ->RO Z g' bQ h' so (a,a)):
  ∃g',b7 Z (st++[so]) g' fx (ρ++[(a,a)]) {s with heap:=h',toks:=t'}/\ey g ρ g' (ρ++[(a,a)])/\RV Z g' (ρ++[(a,a)]) (.h st.length) (.ref a):=by
 have X:ey g ρ (eG Z g s.heap h' λb=>b==a||b==a) (ρ++[(a,a)]):=⟨λz z e=>cv e,[(a,a)],rfl⟩
 exact⟨_,S.alloc t' hk so (a,a) hn hn<|r _ _ X,X,(a,a),by rw[<-S.len];simp,rfl⟩
theorem yI(S:b7 Z st g fx ρ s){h':Heap}(t':Nat)(hk:∀b o,s.heap.get? b=some o->h'.get? b=some o){vs:Array Value}{n:Nat}(hn:s.heap.get? a=none)(ho:h'.get? a=some (nO vs n))
  (rs:ei Z g ρ xs vs.toList) (m:Bool) (σ:bo) (QX:σ.st=st):∃g' bQ,b7 Z (dN m xs σ).2.st g' fx bQ {s with heap:=h',toks:=t'}/\ey g ρ g' bQ/\RV Z g' bQ (dN m xs σ).1 (.ref a)/\(dN m xs σ).2.loc=σ.loc:=by
 subst QX
 cases hf:m||!b8 xs with
 |true=>rw[DR hf];refine u6 (S.SY t' hk hn (.list xs) λg' bQ x=>⟨rfl,vs,n,ho,rs.mono x⟩) λg' h1 h2 h3=>VG g' _ h1 h2 h3 rfl
 |false=>rw[(yM hf).1];refine kg (S.S0 t' hk hn ho) λh1 h2=>VG _ ρ h1 a7 ⟨a,vs,n,rfl,h2,(rs.free (yM (σ:=σ) hf).2).mono (a7 (ρ:=ρ)).nil⟩ rfl
theorem vG(S:b7 Z st g fx ρ s){h':Heap}(t':Nat)(hk:∀b o,s.heap.get? b=some o->h'.get? b=some o){vs:Array Value}{n:Nat}(hn:s.heap.get? a=none)(ho:h'.get? a=some (RS vs n))
  (rs:ei Z g ρ xs vs.toList):b7 Z st (oR Z g s.heap h') fx ρ {s with heap:=h',toks:=t'}/\RV Z (oR Z g s.heap h') ρ (.tup xs) (.ref a):=by
 refine kg (S.S0 t' hk hn ho) λh1 h2=>⟨h1,a,vs,n,rfl,h2,rs.mono a7⟩
variable{D:Addr}{ks vs:List SV}{es:List DictEntry}{n:Nat}
theorem vF(X:hV Z g ρ s D ks vs es n):(D==sysModules)=false:=by
 cases h:D==sysModules with
 |false=>rfl
 |true=>exact absurd (beq_iff_eq.mp h) X.no
theorem hV.val(X:hV Z g ρ s D ks vs es n){j:Nat}{v:SV}(h:vs[j]? =some v):∃e,es[j]? =some e/\RV Z g ρ v e.val:=by refine dS (X.vals.get h) λy h1 h2=>?_;rw[ai,bq] at h1;refine dS h1 λe h3 zz2=>?_;subst zz2;exact⟨e,h3,h2⟩
theorem RB(S:b7 Z st g fx ρ s)(eb:jk st b=some (ks,vs))(he:(cW a ks).map (·.isSome)=some r)(ra:RV Z g ρ a va)(rb:RV Z g ρ b vb)
  (hu:A.units+65<cLine):bE Z A (eH .In va vb) st (.bool r) g fx ρ s/\bE Z A (eH .NotIn va vb) st (.bool<|!r) g fx ρ s:=by
 refine dS (bq.mp he) λo ho zz2=>?_
 subst zz2
 refine uk (vP S eb rb) λD es n zz3 X=>?_
 subst zz3
 have hlt:=λj (h:o=some j)=>Hb<|h▸ho
 have main:∀(E:Value->Shared->Prop) Q,(∀t,Q o.isSome {s with toks:=t})->av (Mo Z) A (contains (.ref D) va) Q E s:=by
  intro E Q h;unfold contains;try with_reducible refine aR ?_
  refine aX<|iE X.typeIs xF.lookup ?_;show av _ _ (if(some (Bf "dict.__contains__")==some nK)=true then _ else _) _ E s;refine u7 (by rw[Bd];exact bh)<|aX<|zA X.typeIs xF
   (bz xF X.typeIs entry_dict_contains ?_<|args_dict_contains _ _)
  show av _ _ (zN D va>>=_) _ _ s;refine aX (tI S.keep X ho ra (by simpa -iota using hu) λt=>?_);cases o with
  |some j=>have hj:=hlt j rfl;rw[<-X.len.1] at hj;simp -iota only[oY,ay hj,my];exact ab ⟨_,rfl,fU<|h t⟩
  |none=>exact aX<|wpAny_pendingKey_other (vF X)<|ab ⟨_,rfl,fU<|h t⟩
 refine⟨λE Q h=>?_,λE Q h=>?_⟩
 ·show av _ _ (do return .bool (<-contains (.ref D) va)) Q E s;exact aX<|main _ _ λt=>ab<|h g ρ _ _ (.refl _ _) (S.tok t) rfl
 ·show av _ _ (do return .bool (!(<-contains (.ref D) va))) Q E s;exact aX<|main _ _ λt=>ab<|h g ρ _ _ (.refl _ _) (S.tok t) rfl
theorem Cf(S:b7 Z st g fx ρ s){a b v:SV}{va vb:Value}{j:Nat}(eb:jk st b=some (ks,vs))(he:cW a ks=some (some j))(hv:vs[j]? =some v)(ra:RV Z g ρ a va)(rb:RV Z g ρ b vb)
  (hu:A.units+65<cLine):bE Z A (qq vb va) st v g fx ρ s/\s.TypeIs vb "dict":=by
 refine uk (vP S eb rb) λD es n zz3 X=>?_
 subst zz3
 refine⟨λE Q h=>?_,X.typeIs⟩
 refine dS (X.val hv) λe h1 h2=>?_
 unfold qq
 try with_reducible refine aR ?_
 refine aX<|qo X.typeIs (by decide) ?_
 refine aX<|cT X.typeIs zL
  (bz zL X.typeIs entry_dict_getitem ?_<|args_dict_getitem _ _)
 show av _ _ (zN D va>>=_) _ _ s
 refine aX<|tI S.keep X he ra (by simpa -iota using hu) λt=>?_
 simp -iota only[oY,h1,my]
 exact ab ⟨_,rfl,ab<|h g ρ _ _ (.refl _ _) (S.tok t) h2⟩
theorem uW(S:b7 Z st g fx ρ s)(X:hV Z g ρ s D ks vs es n){a:SV}{va:Value}{r:Option Nat}(he:cW a ks=some r)(ra:RV Z g ρ a va)(hu:A.units+64<cLine){d v:SV}{dv:Value}(rd:RV Z g ρ d dv)
  (hv:yU r vs d=some v) {Q:Option Value->Shared->Prop} (h:∀t o,(∀y,o=some y->RV Z g ρ v y)->(o=none->v=d)->Q o {s with toks:=t}):av (Mo Z) A (zN D va) Q E s:=by
 refine tI S.keep X he ra hu λt=>?_
 cases r with
 |none=>exact h t none (λy e=>aW e) λz=>(aa hv).symm
 |some j=>refine dS (X.val hv) λe q1 q2=>?_;simp -iota only[oY,q1,my];exact h t _ (λy e=>by obtain rfl:=aa e;exact q2) λe=>jO e
theorem KU(S:b7 Z st g fx ρ s)(eb:jk st b=some (ks,vs))(he:cW a ks=some r)(ra:RV Z g ρ a va)(rb:RV Z g ρ b vb)
  (hv:yU r vs SV.none=some v) (hu:A.units+65<cLine):bE Z A (call (.builtin "dict.get") [vb,va]) st v g fx ρ s:=by
 refine uk (vP S eb rb) λD es n zz3 X=>?_
 subst zz3
 intro E Q h
 refine bz Bk X.typeIs F.entry_dict_get ?_<|F.args_dict_get_2 _ _
 show av _ _ (zN D va>>=_) _ _ s
 refine aX<|uW (d:=.none) S X he ra (by simpa -iota using hu) rfl hv λt o h1 h2=>?_
 cases o with
 |some y=>exact ab ⟨y,rfl,h g ρ _ _ (.refl _ _) (S.tok t)<|h1 y rfl⟩
 |none=>show av _ _ (zT D va>>=_) _ _ _;rw[h2 rfl] at h;exact aX<|wpAny_missed_other (vF X)<|ab ⟨.none,rfl,h g ρ _ _ (.refl _ _) (S.tok t) rfl⟩
theorem KR(S:b7 Z st g fx ρ s)(eb:jk st b=some (ks,vs))(he:cW a ks=some r)(ra:RV Z g ρ a va)(rb:RV Z g ρ b vb)(rd:RV Z g ρ d dv)
  (hv:yU r vs d=some v) (hu:A.units+65<cLine):bE Z A (call (.builtin "dict.get") [vb,va,dv]) st v g fx ρ s:=by
 refine uk (vP S eb rb) λD es n zz3 X=>?_
 subst zz3
 intro E Q h
 refine bz Bk X.typeIs F.entry_dict_get ?_<|F.args_dict_get_3 _ _ _
 show av _ _ (zN D va>>=_) _ _ s
 refine aX<|uW S X he ra (by simpa -iota using hu) rd hv λt o h1 h2=>?_
 cases o with
 |some y=>exact ab ⟨y,rfl,h g ρ _ _ (.refl _ _) (S.tok t)<|h1 y rfl⟩
 |none=>show av _ _ (zT D va>>=_) _ _ _;rw[h2 rfl] at h;exact aX<|wpAny_missed_other (vF X)<|ab ⟨dv,rfl,h g ρ _ _ (.refl _ _) (S.tok t) rd⟩
theorem AE(S:b7 Z st g fx ρ s)(hk:st[k]? =some (.dict ks vs))(hp:ρ[k]? =some p)(X:hV Z g ρ s p.1 ks vs es n)(e:cW key ks=some r)(h1:m6 key=some d)(rk:RV Z g ρ key kv)(hfree:key.free=true)(rv:RV Z g ρ val v)
  {h':Heap} (ho:h'.get? p.1=some (dictOf (qh r (eM Z.w d) kv v es) n')) (hs:dH p.1 s.heap h'):
  b7 Z (st.set k<|.dict (wi r ks key)<|wh r vs val) (oR Z g s.heap h') fx ρ {s with heap:=h',toks:=t'}:=by
 refine kg (S.objs k _ p hk hp) λhpp z=>S.upd t' hk rfl hp (λb o hb z e=>(hs.2 b hb).trans e) ?_
 have Y:=BR (s':={s with heap:=h',toks:=t'}) (g':=oR Z g s.heap h') a7 X e h1 rk hfree (rv.mono a7) ho
 exact⟨hpp,_,_,Y.at_,Y.keys,Y.vals,Y.ok,Y.no⟩
theorem O8(S:b7 Z st g fx ρ s)(hk:st[k]? =some (.dict ks vs))(r:RV Z g ρ (.h k) v):∃p es n,ρ[k]? =some p/\v=.ref p.1/\hV Z g ρ s p.1 ks vs es n:=by refine dS r λp hp zz2=>?_;subst zz2;obtain⟨_,es,n,ho,h1,h2,h3,h4⟩:=S.objs _ _ p hk hp;exact⟨p,es,n,hp,rfl,ho,h1,h2,h3,h4⟩
theorem BO(S:b7 Z st g fx ρ s)(hk:st[k]? =some (.dict ks vs))(he:cW a ks=some r)(hf:a.free=true)(ra:RV Z g ρ a va)(rb:RV Z g ρ (.h k) vb)(rv:RV Z g ρ v vv)(hl:ks.length<=eA)
  (hu:A.units+65<cLine):sg Z A (lZ vb va vv) (st.set k<|.dict (wi r ks a)<|wh r vs v) g fx ρ s:=by
 refine qv (O8 S hk rb) λp es n hp zz4 X=>?_
 subst zz4
 intro E Q h
 unfold lZ
 try with_reducible refine aR ?_
 refine aX<|qo X.typeIs (by decide) ?_
 refine aX<|cT X.typeIs slot_dict_setitem
  (bz slot_dict_setitem X.typeIs entry_dict_setitem ?_<|args_dict_setitem _ _ _)
 show av _ _ (eY.Dict.notOrdered "__setitem__" ⟨[.ref p.1,va,vv],[]⟩>>=_) _ _ s
 refine aX<|ub X.typeIs ?_
 show av _ _ (Md p.1 va vv>>=_) _ _ s
 refine aX<|pR S.keep X he ra (by simpa -iota using hu) hl λd h' t n' h1 ho hs=>ab ⟨.none,rfl,ab ?_⟩
 exact h _ ρ _ a7<|AE S hk hp X he h1 ra hf rv ho hs
theorem wV(S:b7 Z st g fx ρ s){k:Nat}{a d v:SV}{va vb dv:Value}{r:Option Nat}(hk:st[k]? =some (.dict ks vs))(he:cW a ks=some r)(hf:a.free=true)(ra:RV Z g ρ a va)(rb:RV Z g ρ (.h k) vb)(rd:RV Z g ρ d dv)(hl:ks.length<=eA)
  (hv:yU r vs d=some v)
  (hu:A.units+65<cLine):∀{lc:List LV},bE Z A (call (.builtin "dict.setdefault") [vb,va,dv]) (Gn k a d (ks,vs) r ⟨lc,st⟩).st v g fx ρ s:=by
 obtain⟨p,es,n,hp,rfl,X⟩:=O8 S hk rb
 intro lc E Q h
 refine bz JH X.typeIs F.entry_dict_setdefault ?_<|F.args_dict_setdefault_3 _ _ _
 refine aX<|aX<|ub X.typeIs ?_
 refine ab<|u7 (by rw[vF X];exact bh) ?_
 refine aX ?_
 obtain⟨dd,tk,h1,hh,hfind⟩:=vO (A:=A.in1) S.keep X he ra (by simpa using hu)
 unfold dictSetDefault
 try with_reducible refine aR ?_
 refine aX<|hh _ _<|aX<|hfind _ _ _ ?_
 cases r with
 |some j=>obtain⟨e,q1,q2⟩:=X.val hv;refine aJ<|wpAny_dictEntries X.at_ rfl ?_;simp only[Fq,q1];exact aX<|dA<|ab<|ab ⟨_,rfl,h g ρ _ _ (.refl _ _) (S.tok tk) q2⟩
 |none=>
  have hsz:es.length<=sizeLine:=by rw[X.len.1];unfold eA at hl;rw[jo];exact ZE hl
  refine aX (dA<|aX<|Q1 X.at_ rfl (ab<|ab ⟨_,rfl,?_⟩) (by simpa using hsz)<|by simp);have ho:(s.heap.update p.1<|Vp λx=>x.push ⟨eM Z.w dd,va,dv⟩).get? p.1=some (dictOf (qh none (eM Z.w dd) va dv es)<|n+1):=by rw[du _ X.at_ rfl];simp[Vp,qh]
  obtain rfl:=aa hv;exact h _ ρ _ _ a7 (AE S hk hp X he h1 ra hf rd ho (cK ..))<|rd.mono a7
end
section
variable{Z:dM}{st:List SO}{g fx:FH}{ρ:eE}{s:Shared}{A:bD}{E:Value->Shared->Prop}
theorem iC(h:n<=eA):n<=sizeLine:=by unfold eA at h;rw[jo];exact ZE h
theorem bE.of(S:b7 Z st g fx ρ s)(r:RV Z g ρ v y)(h:∀(E:Value->Shared->Prop)(Q:Value->Shared->Prop),(∀tk,Q y {s with toks:=tk})->av (Mo Z) A t Q E s):bE Z A t st v g fx ρ s:=
 λE Q hq=>h E Q λtk=>hq g ρ _ _ (.refl _ _) (S.tok tk) r
theorem bE.ofInt(S:b7 Z st g fx ρ s)(h:∀(E:Value->Shared->Prop)(Q:Value->Shared->Prop),(∀tk u,Q (.int i u) {s with toks:=tk})->av (Mo Z) A t Q E s):bE Z A t st (.int i) g fx ρ s:=
 λE Q hq=>h E Q λtk u=>hq g ρ _ _ (.refl _ _) (S.tok tk) ⟨u,rfl⟩
theorem bE.ofBool(S:b7 Z st g fx ρ s)(h:∀(E:Value->Shared->Prop)(Q:Value->Shared->Prop),(∀tk,Q (.bool b) {s with toks:=tk})->av (Mo Z) A t Q E s):bE Z A t st (.bool b) g fx ρ s:=
 bE.of S rfl h
theorem bE.AI(S:b7 Z st g fx ρ s)(h:∀(E:Value->Shared->Prop)(Q:Value->Shared->Prop),(∀h' tk y,(∀b o,s.heap.get? b=some o->h'.get? b=some o)->RV Z (oR Z g s.heap h') ρ v y->Q y {s with heap:=h',toks:=tk})->av (Mo Z) A t Q E s):bE Z A t st v g fx ρ s:=
 λE Q hq=>h E Q λh' tk y hk r=>hq _ ρ _ _ a7 (S.grow tk hk) r
theorem Qj{a:Int}(h:a.natAbs<2^64):Ap a<=64:=by
 unfold Ap;by_cases h0:a.natAbs=0
 ·have:a=0:=Int.natAbs_eq_zero.mp h0;subst this;decide
 ·have:=(Nat.log2_lt h0).mpr h;split<;>omega
noncomputable def N8:OP->zP
 |.add=>.Add|.sub=>.Sub|.mul=>.Mult|.fdiv=>.FloorDiv|.mod=>.Mod|.pow=>.Pow|.bor=>.BitOr
theorem D6(S:b7 Z st g fx ρ s)(he:LN f a b=some v)(ra:RV Z g ρ a x)(rb:RV Z g ρ b y)
  (h:∀i j c t u,f i j=some c->∀(E:Value->Shared->Prop)(Q:Value->Shared->Prop),(∀tk u,Q (.int c u) {s with toks:=tk})->av (Mo Z) A (pj op (.int i t)<|.int j u) Q E s):bE Z A (pj op x y) st v g fx ρ s:=
 GW he λi j c ha hb hc hv=>by subst ha hb hv;refine fT ra λt zz1=>?_;subst zz1;refine fT rb λu zz1=>?_;subst zz1;exact .ofInt S<|h i j c t u hc
theorem abk(S:b7 Z st g fx ρ s)(he:m7 .mul a b=some v)(ra:RV Z g ρ a x)(rb:RV Z g ρ b y):bE Z A (pj .Mult x y) st v g fx ρ s:=
 aw he λi hi he=>aw he λj hj he=>j8 he λhb hv=>iD hi λha=>by
  subst ha hv;refine fT ra λt zz1=>?_;subst zz1;cases b<;>first|exact aW hj|skip
  ·obtain rfl:=rb;obtain rfl:=aa hj;exact .ofInt S λE Q h=>IntBool.mul_int_bool<|h _ _
  ·refine fT rb λu zz1=>?_;subst zz1;obtain rfl:=aa hj;exact .ofInt S λE Q h=>P.mul_int (h _ _)<|((jd _ _).mp hb).elim (λq=>.of_left<|Qj<|fX q) λq=>.of_right<|Qj<|fX q
theorem Ln(S:b7 Z st g fx ρ s)(he:m7 op a b=some v)(ra:RV Z g ρ a x)(rb:RV Z g ρ b y)(hf:wX a=false):
  bE Z A (pj (N8 op) x y) st v g fx ρ s:=by
 cases op with
 |add=>exact D6 S he ra rb λi j c t u hc E Q h=>by obtain rfl:=aa hc;exact P.add_int<|h _ _
 |sub=>
  have he:LN (λi j=>some<|i-j) a b=some v:=by
   have:m7 .sub a b=match wX a with|true=>Z5 _ a b|false=>LN (λi j=>some<|i-j) a b:=rfl
   rw[this,hf] at he;exact he
  exact D6 S he ra rb λi j c t u hc E Q h=>by obtain rfl:=aa hc;exact P.sub_int<|h _ _
 |mul=>exact abk S he ra rb
 |fdiv=>exact D6 S he ra rb λi j c t u hc E Q h=>j8 hc λhb hc=>cI hb λh1 h2=>by subst hc;exact floordiv_int (bne_iff_ne.mp h1) (h _ _)<|.inl<|Bh<|fX h2
 |mod=>exact D6 S he ra rb λi j c t u hc E Q h=>j8 hc λhb hc=>by subst hc;exact PyProof.Rows.mod_int (bne_iff_ne.mp hb)<|h _ _
 |pow=>exact D6 S he ra rb λi j c t u hc E Q h=>j8 hc λhb hc=>cI hb λhb h3=>cI hb λh1 h2=>by subst hc;exact pow_int_small (fX h1) (by have:=fX h2;exact adV this) (fX h3)<|h _ _
 |bor=>exact Xg he λz z z ha z z z=>absurd (ha▸hf) ae
theorem XD(S:b7 Z st g fx ρ s)(r:RV Z g ρ (.int i) x):bE Z A (unaryOp .USub x) st (.int<|-i) g fx ρ s:=by refine fT r λt zz1=>?_;subst zz1;exact .ofInt S λE Q h=>neg_int<|h _ _
theorem IC(S:b7 Z st g fx ρ s)(ra:RV Z g ρ (.int i) x)(rb:RV Z g ρ (.int j) y):
  bE Z A (eH .Lt x y) st (.bool<|decide<|i<j) g fx ρ s/\bE Z A (eH .LtE x y) st (.bool<|decide<|i<=j) g fx ρ s/\
  bE Z A (eH .Gt x y) st (.bool<|decide<|j<i) g fx ρ s/\bE Z A (eH .GtE x y) st (.bool<|decide<|j<=i) g fx ρ s:=by
 obtain⟨t,rfl⟩:=ra;obtain⟨u,rfl⟩:=rb
 exact LJ (.ofBool S λE Q h=>P.lt_int<|h _) (.ofBool S λE Q h=>P.le_int<|h _) (.ofBool S λE Q h=>P.gt_int<|h _)<|.ofBool S λE Q h=>P.ge_int<|h _
theorem KP(e:Bp a=some b)(r:RV Z g ρ a x):(x==nK)=b:=by
 cases a<;>first|exact aW e|skip
 all_goals obtain rfl:=aa e
 ·obtain rfl:=r;rfl
 ·obtain rfl:=r;rfl
 ·obtain⟨_,rfl⟩:=r;rfl
 ·obtain⟨_,rfl⟩:=r;rfl
 all_goals obtain⟨_,r⟩:=r
 ·obtain⟨_,_,rfl,_⟩:=r;rfl
 ·obtain⟨_,_,rfl,_⟩:=r;rfl
 ·obtain⟨_,_,rfl,_⟩:=r;rfl
 ·obtain⟨_,_,_,rfl,_⟩:=r;rfl
 ·obtain⟨_,_,_,rfl,_⟩:=r;rfl
 ·obtain⟨_,rfl,_⟩:=r;rfl
 ·obtain⟨_,rfl,_⟩:=r;rfl
 ·obtain⟨_,rfl⟩:=r;rfl
theorem V3(S:b7 Z st g fx ρ s)(e:Bp a=some b)(ra:RV Z g ρ a x)(rb:RV Z g ρ .none y):bE Z A (eH .Is x y) st (.bool b) g fx ρ s/\bE Z A (eH .IsNot x y) st (.bool<|!b) g fx ρ s:=by obtain rfl:=rb;have hb:=KP e ra;refine⟨.ofBool S λE Q h=>is_none (by rw[hb];exact h _),.ofBool S λE Q h=>?_⟩;show av _ _ (do return .bool (!(<-isSame x .none))) Q E s;rw[isSame_none];exact aX<|ab<|ab (by rw[hb];exact h _)
theorem Er:∀c:Fin 10,Ra (⟨#[48+c.val]⟩:PySem.Str)=some (c.val:Int):=by decide+kernel
theorem Hi(c:Nat)(h1:48<=c)(h2:c<=57):Ra (⟨#[c]⟩:PySem.Str)=some ((c:Int)-48):=by refine fT (ET h1) λd zz1=>?_;subst zz1;exact(Er ⟨d,by omega⟩).trans<|congrArg some (by rw[Int.natCast_add];show(d:Int)=_;exact cG<|(λ{b a c}=>Int.sub_eq_iff_eq_add'.mpr) rfl)
set_option tactic.hygienic true in
theorem X0(S:b7 Z st g fx ρ s)(e:acX a=some v)(r:RV Z g ρ a x):bE Z A (call (.type "int") [x]) st v g fx ρ s:=by
 cases a<;>first|exact aW e|skip
 ·obtain rfl:=r;obtain rfl:=aa e;exact .ofInt S λE Q h=>call_int_bool<|h _ _
 ·refine fT r λt zz1=>?_;subst zz1;obtain rfl:=aa e;exact .ofInt S λE Q h=>call_int_int<|h _ _
 ·rename_i q
  refine fT r λt zz1=>?_;subst zz1;refine dj e λi e hv=>aw e λc hc e=>j8 e λhb hi=>cI hb λh1 h2=>kK hc λhx=>?_;subst hv hi;obtain rfl:q=(⟨#[c]⟩:Str):=by obtain⟨⟨l⟩⟩:=q;exact congrArg (λz=>Str.mk ⟨z⟩) hx
  exact .ofInt S λE Q h=>KIN.call_text (Hi c (fX h1)<|fX h2) (by simp[Str.length])<|h _ _
theorem Ov(hh:A.handled=none)(S:b7 Z st g fx ρ s)(ra:RV Z g ρ (.int i) x)(rb:RV Z g ρ (.int j) y):
  bE Z A (call (.builtin "max") [x,y]) st (.int (if i<j then j else i)) g fx ρ s/\bE Z A (call (.builtin "min") [x,y]) st (.int (if j<i then j else i)) g fx ρ s:=by
 obtain⟨t,rfl⟩:=ra;obtain⟨u,rfl⟩:=rb
 refine⟨.AI S λE Q h=>max_two_ints hh λh' tk hk=>h h' tk _ hk ?_,.AI S λE Q h=>min_two_ints hh λh' tk hk=>h h' tk _ hk ?_⟩
 ·by_cases c:i<j
  ·simp only[c,gt_iff_lt,if_true];exact⟨u,rfl⟩
  ·simp only[c,gt_iff_lt,if_false];exact⟨t,rfl⟩
 ·by_cases c:j<i
  ·simp only[c,if_true];exact⟨u,rfl⟩
  ·simp only[c,if_false];exact⟨t,rfl⟩
theorem XJ(S:b7 Z st g fx ρ s)(e:nc st a=some xs)(hl:xs.length<=eA)(r:RV Z g ρ a x):bE Z A (call (.builtin "len") [x]) st (.int xs.length) g fx ρ s:=by
 refine qv (Gi S e r) λl vs n zz3 ho rs=>?_;subst zz3;have hlen:=rs.length;simp only[aM] at hlen;have hsz:(vs.size:Int)<2^63:=by unfold eA at hl;exact adU hl hlen
 refine .ofInt S λE Q h=>?_;rcases ho with ho|ho
 ·refine call_len_list ⟨_,ho,rfl,n,rfl⟩ hsz ?_;rw[hlen];exact h _ _
 ·refine P.len_tuple ho (Mq.mpr hsz) ?_;rw[hlen];exact h _ _
theorem Ke(e:uy xs i=some x):∃k,seqIndex? i xs.length=some k/\xs[k]? =some x/\ -(eA:Int)<=i/\i<=eA/\(0<=i->k=i.toNat)/\(¬0<=i->k=(i+xs.length).toNat/\ -(xs.length:Int)<=i):=by
 refine r7 e λhb e=>?_;have hb:=fX hb;by_cases h0:0<=i
 ·rw[if_pos h0] at e;have hlt:=(af.mp e).1;exact y16 i.toNat (seqIndex_of h0<|(wL h0).mp hlt) e ((Qu hb).1) ((Qu hb).2) (λz=>rfl) λh=>absurd h0 h
 ·rw[if_neg h0] at e;by_cases hn: -(xs.length:Int)<=i
  ·rw[if_pos hn] at e;exact y16 _ (seqIndex_neg (Rm h0) hn) e ((Qu hb).1) ((Qu hb).2) (λh=>absurd h h0) λz=>⟨rfl,hn⟩
  ·rw[if_neg hn] at e;exact aW e
theorem Ec(S:b7 Z st g fx ρ s)(e:nc st a=some xs)(hv:uy xs k=some v)(r:RV Z g ρ a x)(ri:RV Z g ρ (.int k) i):
  bE Z A (qq x i) st v g fx ρ s/\(s.TypeIs x "list"\/s.TypeIs x "tuple"):=by
 refine qv (Gi S e r) λl vs n zz3 ho rs=>?_
 subst zz3
 refine fT ri λt zz1=>?_
 subst zz1
 refine x16 (Ke hv) λj h1 h2 h3 h4 h5 h6=>?_
 have hlen:=rs.length
 simp only[aM] at hlen
 refine dS (rs.get h2) λy h7 h8=>?_
 rw[bw] at h7
 have hl3: -(2:Int)^63<=k:=by unfold eA at h3;exact adS h3
 have hl4:k<2^63:=by unfold eA at h4;exact adR h4 hl3
 rcases ho with ho|ho
 ·refine⟨.of S h8 λE Q h=>?_,.inl ⟨_,ho,rfl⟩⟩;by_cases h0:0<=k
  ·have:=h5 h0;subst this;exact wpAny_getItem_list ⟨_,ho,rfl,n,rfl⟩ h0 hl4 h7<|h _
  ·refine kg (h6 h0) λhj hneg=>wpAny_getItem_list_neg ⟨_,ho,rfl,n,rfl⟩ (Rm h0) (by rw[hlen];exact hneg) hl3 (by rw[hlen,<-hj];exact h7)<|h _
 ·refine⟨.of S h8 λE Q h=>?_,.inr ⟨_,ho,rfl⟩⟩;exact P.getItem_tuple ho hl3 hl4 (by rw[hlen];exact h1) h7<|h _
theorem Ce(S:b7 Z st g fx ρ s)(hk:st[k]? =some (.list xs))(r:RV Z g ρ (.h k) v):∃p vs n,ρ[k]? =some p/\p.1=p.2/\v=.ref p.1/\s.heap.get? p.1=some (nO vs n)/\ei Z g ρ xs vs.toList:=by refine dS r λp hp zz2=>?_;subst zz2;obtain⟨hpp,vs,n,ho,hs⟩:=S.objs _ _ p hk hp;exact y35 p vs n hp hpp rfl ho hs
theorem pN(S:b7 Z st g fx ρ s)(hk:st[k]? =some (.list xs))(hp:ρ[k]? =some p)(hpp:p.1=p.2)(hs:dH p.1 s.heap h')(ho:h'.get? p.1=some (nO vs n))(rs:ei Z g ρ ys vs.toList):
  b7 Z (st.set k<|.list ys) (oR Z g s.heap h') fx ρ {s with heap:=h',toks:=t'}:=
 S.upd t' hk rfl hp (λb o hb z e=>(hs.2 b hb).trans e) ⟨hpp,vs,n,ho,rs.mono a7⟩
theorem wt(f:Array Value->Array Value)(vs:Array Value)(n:Nat):∃n',Mi f (nO vs n)=nO (f vs) n':=⟨_,rfl⟩
theorem Lr(S:b7 Z st g fx ρ s){σ bk:bo}(QX:σ.st=st)(e:B1 k v σ=some bk)(r:RV Z g ρ (.h k) x)(rv:RV Z g ρ v y):bE Z A (call (.builtin "list.append") [x,y]) bk.st .none g fx ρ s/\bk.loc=σ.loc:=by subst QX;refine aw e λxs hk e=>j8 e λhl e=>?_;have hk:=vU hk;have hl:=fX hl;subst e;refine x35 (Ce S hk r) λp vs n hp hpp zz5 ho rs=>?_;subst zz5;have hlen:=rs.length;simp only[aM] at hlen;refine⟨λE Q h=>append_at ho (λh' hs ho'=>?_)<|iC<|Z8 hl hlen,rfl⟩;exact h _ ρ _ _ a7 (pN S hk hp hpp hs ho'<|by simpa using rs.append (.one rv)) rfl
theorem Xv(S:b7 Z st g fx ρ s){σ bk:bo}(QX:σ.st=st)(e:XH k σ=some (v,bk))(r:RV Z g ρ (.h k) x):bE Z A (call (.builtin "list.pop") [x]) bk.st v g fx ρ s/\bk.loc=σ.loc:=by
 subst QX;refine aw e λxs hk e=>aw e λv' hv e=>j8 e λhl e=>eI e λe1 e=>?_;have hk:=vU hk;have hl:=fX hl;subst e e1;refine x35 (Ce S hk r) λp vs n hp hpp zz5 ho rs=>?_;subst zz5;have hlen:=rs.length;simp only[aM] at hlen;rw[List.getLast?_eq_getElem?] at hv;refine dS (rs.get hv) λy h1 h2=>?_;rw[bw,<-hlen] at h1;refine⟨λE Q h=>Copied.pop_at ho h1 (λh' hs ho'=>?_)<|iC<|Z8 hl hlen,rfl⟩;refine h _ ρ _ _ a7 (pN S hk hp hpp hs ho' ?_)<|h2.mono a7;have hp2:vs.pop.toList=vs.toList.take (xs.length-1):=by rw[Array.toList_pop,Fu,rs.length]
 have hp3:xs.dropLast=xs.take (xs.length-1):=Fu;rw[hp2,hp3];exact rs.take<|xs.length-1
theorem K5(S:b7 Z st g fx ρ s){σ bk:bo}(QX:σ.st=st)(e:B0 k v σ=some bk)(r:RV Z g ρ (.h k) x)(rv:RV Z g ρ v y):bE Z A (call (.builtin "list.extend") [x,y]) bk.st .none g fx ρ s/\bk.loc=σ.loc:=by
 subst QX;refine aw e λxs hk e=>aw e λys hy e=>j8 e λhl e=>?_;have hk:=vU hk;have hl:=fX hl;subst e;refine x35 (Ce S hk r) λp vs n hp hpp zz5 ho rs=>?_;subst zz5;refine qv (om S hy rv) λb ws n2 zz3 hb rs2=>?_;subst zz3;have hlen:=rs.length;have hlen2:=rs2.length;simp only[aM] at hlen hlen2;have hz:=iC hl;refine⟨λE Q h=>xG Ro ⟨_,ho,rfl⟩ F.entry_list_extend (F.args_list_extend_2 _ _)
  (AutoSeq1.list_extend_list_list_0 p.1 vs n b ws n2 (extend_door (by rw[hlen,hlen2];exact hz)) (iC<|by omega) (by rw[hlen,hlen2];exact eR hz)) ⟨ho,hb,?_⟩,rfl⟩
 refine fT (wt (λxs=>xs++ws) vs n) λn' hn=>h _ ρ _ _ a7 (pN (vs:=vs++ws) (n:=n') S hk hp hpp (cK ..) ?_<|by simpa using rs.append rs2) rfl;rw[du _ ho rfl];exact congrArg some hn
theorem BN(S:b7 Z st g fx ρ s){k:Nat}{xs:List SV}{i:Int}{v:SV}{x vi y:Value}(hk:st[k]? =some (.list xs))(h0:0<=i)(h1:i<xs.length)(h2:i<=eA)(r:RV Z g ρ (.h k) x)(ri:RV Z g ρ (.int i) vi)(rv:RV Z g ρ v y):
  sg Z A (lZ x vi y) (st.set k<|.list<|xs.set i.toNat v) g fx ρ s:=by
 refine x35 (Ce S hk r) λp vs n hp hpp zz5 ho rs=>?_
 subst zz5
 refine fT ri λt zz1=>?_
 subst zz1
 have hlen:=rs.length
 simp only[aM] at hlen
 intro E Q h
 have hl:s.heap.IsList p.1 vs:=⟨_,ho,rfl,n,rfl⟩
 unfold lZ
 try with_reducible refine aR ?_
 first|refine aX (ab ?_)|skip
 refine aX<|qo hl.typeIs (by decide) ?_
 refine aX<|cT hl.typeIs slot_list_setitem
  (bz slot_list_setitem hl.typeIs entry_list_setitem ?_<|args_list_setitem _ _ _)
 show av _ _ (eY.List.listSubscript? (.int i t)>>=_) _ _ s
 refine aX<|wpAny_listSubscript_int (fitsIndex_of h0 (by unfold eA at h2;exact adP h0 h2)) ?_
 refine fT (Int.eq_ofNat_of_zero_le h0) λj zz1=>?_
 subst zz1
 have hj:j<vs.size:=adO hlen h1
 have hx':=g8 hj
 refine aX<|aX<|wpAny_seqItemAt ho rfl<|ab ?_
 rw[hx']
 refine fT (wt (·.setIfInBounds j y) vs n) λn' hn=>?_
 have hfin:(s.heap.update p.1<|Mi (·.setIfInBounds j y)).get? p.1=some (nO (vs.setIfInBounds j y) n'):=by rw[du _ ho rfl];exact congrArg some hn
 have key:Q () {s with heap:=s.heap.update p.1<|Mi (·.setIfInBounds j y)}:=by refine h _ ρ _ a7<|pN S hk hp hpp (cK ..) hfin ?_;have:=rs.set (i:=j) rv;simpa using this
 refine aX<|wpAny_setSeqItemAt ho rfl ?_
 first
  |exact aX<|ab<|ab ⟨.none,rfl,ab key⟩
  |exact ab ⟨.none,rfl,ab key⟩
theorem OW(S:b7 Z st g fx ρ s)(hx:jy st o=some xs)(hl:xs.length<=eA)(hf:s9 v xs=some (some j))(r:RV Z g ρ o x)(rv:RV Z g ρ v y)(hu:A.units+1+cw<cLine):bE Z A (call (.builtin "list.index") [x,y]) st (.int j) g fx ρ s:=by
 refine qv (om S hx r) λl vs n zz3 ho rs=>?_;subst zz3;refine aw hf λd h1 hf=>aw hf λds h2 hf=>j8 hf λhd hf=>?_;have hd':=fX hd;refine fT (ei.reads S.keep h2 rs) λas qs=>fT (RV.reads S.keep h1 rv) λbs qa=>?_;have lx:=vt h2;have la:=yc h1;have hlen:=rs.length;simp only[aM] at hlen;have hds:=(readsAll_map _ _ _ lx qs).symm;have hfi:=hf;rw[hds,jx] at hfi;obtain⟨hj,hit,hno⟩:=bA.mp hfi;have hj':j<vs.size:=by simpa using hj
 have hu':A.units+1+min (mx ds) d.depth<cLine:=ac8 hu hd';exact .ofInt S λE Q h=>xG Vy ⟨_,ho,rfl⟩ F.entry_list_index (F.args_list_index_2 _ _)
  (list_indexAt l vs n none #[] y (λz=>bp (readOf s.heap z) d) j hj' (by unfold eA at hl;exact adN hl hlen hj') (by simpa using hit) λm hm hlt=>by simpa using hno m hlt) ⟨ho,items_eqAt qs qa lx la hu',h _ _⟩
theorem MR(S:b7 Z st g fx ρ s)(e:nc st a=some xs)(hl:xs.length<=eA)(r:RV Z g ρ a x):bE Z A (call (.type "tuple") [x]) st (.tup xs) g fx ρ s:=by
 refine aa0 e (λha=>?_) λhx=>?_
 ·subst ha;refine qv r λt vs n zz3 ho rs=>?_;subst zz3;exact .of S ⟨t,vs,n,rfl,ho,rs⟩ λE Q h=>call_tuple_same ⟨_,S.keep _ _ ho,rfl,n,rfl⟩<|h _
 ·refine qv (om S hx r) λl vs n zz3 ho rs=>?_;subst zz3;have hlen:=rs.length;simp only[aM] at hlen;refine .AI S λE Q h=>call_tuple_list ⟨_,ho,rfl,n,rfl⟩ (λh' hk=>?_)<|iC<|Z8 hl hlen;have hn:s.heap.get? h'.objs.size=none:=by
   cases q:s.heap.get? h'.objs.size with
   |none=>rfl
   |some o=>exact absurd (cg<|hk _ _ q)<|cp _
  have hk':∀b o,s.heap.get? b=some o->(h'.push<|RS vs 0).get? b=some o:=λb o q=>cx _ _<|hk b o q;exact h _ _ _ hk' (vG S s.toks hk' hn ez rs).2
end
theorem He(h:l[i]? =some x):di l (x::l.eraseIdx i):=by
 obtain⟨hi,rfl⟩:=af.mp h;rw[List.eraseIdx_eq_take_drop_succ];have:l=l.take i++l[i]::l.drop (i+1):=by rw[List.getElem_cons_drop,dt]
 exact(di.of_eq this).trans List.perm_middle
theorem SN(next:Nat->Nat)(fuel:Nat):∀(k:Nat)(left:List α)(out:Array α),left.length<=fuel->di (s7 next fuel k left out).toList (out.toList++left):=by
 induction fuel with
 |zero=>intro k left out h;have:left=[]:=C6.mp (by exact ac3 h);subst this;show di out.toList (out.toList++[]);rw[bj]
 |succ fuel ih=>
  intro k left out h;cases left with
  |nil=>show di out.toList (out.toList++[]);rw[bj]
  |cons a r=>
   have hlt:next k%(a::r).length<(a::r).length:=vm _<|qA _
   have hx:=ay hlt;rw[show s7 next (fuel+1) k (a::r) out=@Option.rec α (λz=>Array α) out (λx=>s7 next fuel (k+1) ((a::r).eraseIdx<|next k%(a::r).length)<|out.push x) ((a::r)[next k%(a::r).length]?) from by kernel_rfl,hx];refine(ih (k+1) _ _ ?_).trans ?_
   ·rw[List.length_eraseIdx_of_lt hlt];exact JE h
   ·rw[LH,aO];exact di.append_left _ (He hx).symm
theorem Kt(next:Nat->Nat)(xs:Array α):di (pickOrder next xs).toList xs.toList:=by
 have:=SN next xs.size 0 xs.toList #[] (by simp)
 show di (s7 next xs.size 0 xs.toList #[]).toList xs.toList;simpa using this
theorem SJ(m:Nat):0<m+1:=qA m
noncomputable def rV(m:Nat):Nat->Nat->Nat->Bool
 |0,_,_=>false
 |k+1,i,j=>i==j||rV m k ((i*5+1)%(m+1)) j
def zo(m:Nat):Bool:=(ak<|m+1).all λi=>(ak<|m+1).all λj=>rV m (m+1) i j
theorem agr:zo 7=true:=by decide+kernel
theorem abP:zo 15=true:=by decide+kernel
theorem abO:zo 31=true:=by decide+kernel
theorem abN:zo 63=true:=by decide+kernel
def j6(m:Nat):Prop:=m=7\/m=15\/m=31\/m=63
theorem af7(h:j6 m)(hi:i<=m)(hj:j<=m):rV m (m+1) i j=true:=by
 have key:zo m=true->rV m (m+1) i j=true:=λa=>by have:=ba.mp a i (cf.mpr<|by exact ar4 hi);exact ba.mp this j<|cf.mpr<|by exact ar4 hj
 rcases h with rfl|rfl|rfl|rfl
 ·exact key agr
 ·exact key abP
 ·exact key abO
 ·exact key abN
theorem Kj(h:i<=m):i<=iR m i/\iR m i<=m:=by unfold iR;split<;>omega
theorem Bq(owner:Array (Option Nat))(fuel i p:Nat):dp m owner (fuel+1) i p=@Option.rec Nat (λz=>Option Nat) (dp m owner fuel (su m i p).1 (su m i p).2) (λk=>some<|i+k) ((ak<|iR m i+1-i).find? λk=>(owner.getD (i+k)<|some 0).isNone):=by kernel_rfl
theorem KX(owner:Array (Option Nat))(fuel:Nat):∀(i:Nat),i<=m->dp m owner fuel i 0=none->∀n,n<=fuel->∀j,rV m n i j=true->(owner.getD j<|some 0).isNone=false:=by
 induction fuel with
 |zero=>intro i hi h n hn j hj;obtain rfl:=ac3 hn;exact ae hj
 |succ fuel ih=>
  intro i hi h n hn j hj;rw[Bq] at h;cases hf:(ak<|iR m i+1-i).find? λk=>(owner.getD (i+k)<|some 0).isNone with
  |some k=>rw[hf] at h;cases h
  |none=>
   rw[hf] at h;cases n with
   |zero=>exact ae hj
   |succ n=>
    rcases fH.mp (show(i==j||rV m n ((i*5+1)%(m+1)) j)=true from hj) with hj|hj;obtain rfl:=eq_of_beq hj
    ·rw[List.find?_eq_none] at hf;have:=hf 0 (cf.mpr (by have:=(Kj hi).1;exact adM this));simpa[Option.isSome_iff_ne_none] using this
    ·have h':dp m owner fuel ((i*5+1)%(m+1)) 0=none:=by
      simpa[su] using h
     exact ih _ (by have:=vm (i*5+1)<|SJ m;exact aT this) h' n (by exact ah7 hn) j hj
theorem Uc(owner:Array (Option Nat))(fuel:Nat):∀(i p j:Nat),dp m owner fuel i p=some j->(owner.getD j<|some 0).isNone=true:=by
 induction fuel with
 |zero=>intro i p j h;cases h
 |succ fuel ih=>
  intro i p j h;rw[Bq] at h;cases hk:(ak<|iR m i+1-i).find? λk=>(owner.getD (i+k)<|some 0).isNone with
  |some k=>rw[hk] at h;obtain rfl:=aa h;have:=qE hk;exact this
  |none=>rw[hk] at h;exact ih _ _ j h
theorem Au{owner:Array (Option Nat)}:(owner.getD j<|some 0).isNone=true↔owner[j]? =some none:=by
 rw[m5];cases h:owner[j]? with
 |none=>simp
 |some x=>cases x<;>simp
theorem Hq(h0:0<=h)(h1:h<32):sx h<32:=by unfold sx;exact nN.mp (by rw[j9<|Int.emod_nonneg _<|by decide,Int.emod_eq_of_lt h0<|Fw h1<|by decide];exact h1)
theorem KW{m:Nat}(hm:j6 m){owner:Array (Option Nat)}{j:Nat}(hj:owner[j]? =some none)(hs:owner.size=m+1){b:Nat}(hb:b<32):
  ∃k,dp m owner (qr m) (b%(m+1)) b=some k/\owner[k]? =some none:=by
 have hjm:j<=m:=by obtain⟨q,_⟩:=zU.mp hj;exact adK hs q
 have hbm:b%(m+1)<=m:=by have:=vm b<|SJ m;exact aT this
 cases e:dp m owner (qr m) (b%(m+1)) b with
 |some k=>exact⟨k,rfl,Au.mp<|Uc owner _ _ _ k e⟩
 |none=>
  exfalso;have e0:=e;unfold qr at e;rw[show m+15=(m+14)+1 from rfl] at e;rw[Bq] at e;cases hf:(ak<|iR m (b%(m+1))+1-b%(m+1)).find? λk=>(owner.getD (b%(m+1)+k)<|some 0).isNone with
  |some k=>rw[hf] at e;cases e
  |none=>
   rw[hf] at e;have h1:dp m owner (m+14) ((b%(m+1)*5+1)%(m+1)) 0=none:=by have:b/32=0:=Nat.div_eq_of_lt hb;simpa[su,this] using e
   have:=KX owner (m+14) _ (by have:=vm (b%(m+1)*5+1)<|SJ m;omega) h1 (m+1) (by omega) j (af7 hm (by have:=vm (b%(m+1)*5+1)<|SJ m;omega) hjm);rw[Au.mpr hj] at this;exact ae this
theorem z5{l:List (Option Nat)}:∀{j:Nat},l[j]? =some none->di ((l.set j<|some k).filterMap id) (k::l.filterMap id):=by
 induction l with
 |nil=>intro j h;exact HM rfl<|heq_of_eq h
 |cons x l ih=>
  intro j h;cases j with
  |zero=>obtain rfl:=aa h;exact .rfl
  |succ j=>
   have ih:=ih (j:=j) h;cases x with
   |none=>exact ih
   |some y=>exact(ih.cons y).trans<|JG _ _ _
theorem Aa{l:List (Option Nat)}(h:(l.filterMap id).length<l.length):∃j:Nat,l[j]? =some none:=by
 induction l with
 |nil=>simp at h
 |cons x l ih=>
  cases x with
  |none=>exact⟨0,rfl⟩
  |some y=>simp only[fG,id,cZ] at h;refine fT (ih<|by exact afe h) λj hj=>?_;exact⟨j+1,by simpa using hj⟩
noncomputable def xl(m:Nat)(acc:Option (Array (Option Nat)×Nat))(h:Int):Option (Array (Option Nat)×Nat):=do
 let(owner,k)<-acc;let j<-dp m owner (qr m) (sx h%(m+1)) (sx h)
 pure (owner.setIfInBounds j<|some k,k+1)
theorem D1(m:Nat)(hs:Array Int):Fi m hs=(hs.foldl (xl m)<|some (QL (m+1) none,0)).map (·.1):=rfl
theorem OF{m:Nat}(hm:j6 m)(hs:List Int):∀(owner:Array (Option Nat))(k:Nat),(∀h∈hs,0<=h/\h<32)->owner.size=m+1->di (owner.toList.filterMap id) (ak k)->k+hs.length<=m+1->
  ∃owner',hs.foldl (xl m) (some (owner,k))=some (owner',k+hs.length)/\owner'.size=m+1/\di (owner'.toList.filterMap id) (ak<|k+hs.length):=by
 induction hs with
 |nil=>exact λowner k z h1 h2 z=>⟨owner,rfl,h1,h2⟩
 |cons h hs ih=>
  intro owner k h0 h1 h2 h3;have hlen:(owner.toList.filterMap id).length<owner.toList.length:=by rw[h2.length_eq,au,aM,h1];simp only[cZ] at h3;exact qC h3
  refine fT (Aa hlen) λj hj=>?_;rw[bw] at hj;refine dS (KW hm hj h1<|Hq (h0 h ax).1 (h0 h ax).2) λq hq hq'=>?_;have hstep:xl m (some (owner,k)) h=some (owner.setIfInBounds q<|some k,k+1):=by unfold xl;simp[hq]
  rw[List.foldl_cons,hstep];have hp:di ((owner.setIfInBounds q<|some k).toList.filterMap id) (ak<|k+1):=by rw[Array.toList_setIfInBounds];refine(z5 (by rw[bw];exact hq')).trans ?_;refine(h2.cons k).trans ?_;rw[eV];exact(List.perm_append_singleton _ _).symm
  obtain⟨o',e1,e2,e3⟩:=ih (owner.setIfInBounds q<|some k) (k+1) (λx hx=>h0 x<|az _ hx) (by simpa using h1) hp (by simp only[cZ] at h3;exact adJ h3);rw[show k+(h::hs).length=k+1+hs.length by rw[cZ];exact Z9];exact Aw o' e1 e2 e3
theorem D0(hm:j6 m){hs:Array Int}(h0:∀h∈hs.toList,0<=h/\h<32)(hn:hs.size<=m+1):∃owner,Fi m hs=some owner/\owner.size=m+1/\di (owner.toList.filterMap id) (ak hs.size):=by
 obtain⟨o,e1,e2,e3⟩:=OF hm hs.toList (QL (m+1) none) 0 h0 (by simp) (by
  rw[Array.toList_replicate];have:∀n:Nat,(br n (none:Option Nat)).filterMap id=[]:=by
   intro n;induction n with
   |zero=>rfl
   |succ n ih=>simpa[tV] using ih
  rw[this];simp) (by simpa using hn)
 refine Aw o ?_ e2 (by simpa using e3);rw[D1,<-Array.foldl_toList,e1];rfl
theorem Tv{led plain:Bool}(hm:j6 m){hs:Array Int}(h0:∀h∈hs.toList,0<=h/\h<32)(hn:hs.size<=m):
  ∃t order,nS m finger moves led plain hs=some (t,order)/\di order.toList (ak hs.size)/\t.fits hs.size=true/\t.dummies=#[]/\t.led=led:=by
 refine u6 (D0 hm h0<|eR hn) λo e1 e2 e3=>?_
 have hl:∀(l:List (Option Nat)),((ak l.length).filterMap λj=>(l[j]?.getD none).map (j,·)).map (·.2)=l.filterMap id:=by
  intro l;rw[List.map_filterMap];have:(λj:Nat=>HN (λx:Nat×Nat=>x.2)<|(l[j]?.getD none).map (j,·))=λj=>l[j]?.getD none:=by funext j;cases l[j]?.getD none<;>rfl
  rw[this];induction l with
  |nil=>rfl
  |cons x l ih=>
   rw[cZ,List.range_succ_eq_map,fG,LG];have e:((λj:Nat=>(x::l)[j]?.getD none)∘kr)=λj=>l[j]?.getD none:=by funext j;simp
   rw[e,ih (by funext j;cases l[j]?.getD none<;>rfl)];cases x<;>simp
 have hlive:((ak<|m+1).filterMap λj=>(o.getD j none).map (j,·)).map (·.2)=o.toList.filterMap id:=by rw[<-hl o.toList,aM,e2];congr 2;funext j;rw[m5,bw]
 have hlen:((ak<|m+1).filterMap λj=>(o.getD j none).map (j,·)).length=hs.size:=by rw[<-ag (f:=(·.2)),hlive,e3.length_eq,au]
 refine y25 _ _ (by unfold nS;rw[e1];rfl) ?_ ?_ rfl rfl
 ·rw[tT,hlive];exact e3
 ·simp only[nT,zB,oE,ag,hlen,beq_self_eq_true,pd,Array.size_empty,Nat.add_zero,decide_eq_true_eq];exact hn
theorem Gz{es:Array (Int×Value)}{order:Array Nat}(h:di order.toList (ak es.size)):di (order.filterMap (es[·]?)).toList es.toList:=by rw[Array.toList_filterMap];exact(h.filterMap _).trans (by rw[filterMap_getElem?_range])
theorem BK(h:n<=63):j6 (dz n-1)/\n<=dz n-1/\dz n<=64:=by
 have:∀k:Fin 64,(dz k-1=7\/dz k-1=15\/dz k-1=31\/dz k-1=63)/\k.val<=dz k-1/\dz k<=64:=by decide+kernel
 exact this ⟨n,by exact adI h⟩
theorem ia(h0:0<=i)(h1:i<32):iG i=i:=by
 have:∀k:Fin 32,iG k.val=k.val:=by decide+kernel
 have:=this ⟨i.toNat,ac2 h0 h1⟩;rw[show((⟨i.toNat,ac2 h0 h1⟩:Fin 32).val:Int)=i by simp;exact Int.max_eq_left h0] at this;exact this
section
variable{w:cU}{es es':Array (Int×Value)}{t t':SetTable}{p p':Int->Prop}
theorem SG.perm(G:SG w es t p)(h:di es'.toList es.toList)(hf:t'.fits es'.size=true)(hd:t'.dummies=#[])(hl:w.params.followText "set-order"=true\/t'.led=true):SG w es' t' p:=
 ⟨λe he=>G.each e<|h.mem_iff.mp he,λi hi=>(G.all i hi).imp λz q=>h.mem_iff.mpr q,(h.map _).nodup_iff.mpr G.nodup,G.low,hf,hd,hl⟩
theorem SG.congr(G:SG w es t p)(h:∀i,p i↔p' i):SG w es t p':=
 ⟨λe he=>(G.each e he).imp λi q=>q.imp λtk q=>⟨q.1,(h i).mp q.2⟩,λi hi=>G.all i<|(h i).mpr hi,G.nodup,λi hi=>G.low i<|(h i).mpr hi,G.fits,G.K8,G.led⟩
theorem SG.push{x:Value}(G:SG w es t p)(hn:¬p i)(h0:0<=i/\i<32)(h:di es'.toList (es.toList++[(iG i,.int i tk)]))(hf:t'.fits es'.size=true)(hd:t'.dummies=#[])(hl:w.params.followText "set-order"=true\/t'.led=true):SG w es' t' (λj=>p j\/j=i) where
 each e he:=by
  rcases ct.mp (h.mem_iff.mp he) with he|he
  ·refine rJ (G.each e he) λj tk q r=>y22 j tk q<|.inl r
  ·rw[aE] at he;exact y22 i tk he (.inr rfl)
 all j hj:=by
  rcases hj with hj|rfl
  ·refine fT (G.all j hj) λtk q=>⟨tk,h.mem_iff.mpr<|mz _ q⟩
  ·exact⟨tk,h.mem_iff.mpr<|jt _<|aE.mpr rfl⟩
 nodup:=by rw[(h.map _).nodup_iff,bf,c9];refine⟨G.nodup,by simp,λa ha b hb=>?_⟩;simp only[cS,nG,aE] at hb;subst hb;refine dS (bI.mp ha) λe he zz2=>?_;subst zz2;refine rJ (G.each e he) λj tk' zz2 hj=>?_;subst zz2;intro hh;dsimp only at hh;rw[ia (G.low j hj).1 (G.low j hj).2,ia h0.1 h0.2] at hh;exact hn (hh▸hj)
 low j hj:=by
  rcases hj with hj|rfl
  ·exact G.low j hj
  ·exact h0
 fits:=hf
 K8:=hd
 led:=hl
theorem SG.hashes(G:SG w es t p):∀h∈(es.map (·.1)).toList,0<=h/\h<32:=by intro h hh;rw[Array.toList_map] at hh;refine dS (bI.mp hh) λe he zz2=>?_;subst zz2;refine rJ (G.each e he) λi tk zz2 hi=>?_;subst zz2;have:=G.low i hi;rw[ia this.1 this.2];exact this
theorem SG.size(G:SG w es t p){xs:List Int}(hn:xs.Nodup)(hx:∀i,p i↔i∈xs):es.size=xs.length:=by
 have hs:∀i,i∈es.toList.map (·.1)↔i∈xs:=by
  intro i;rw[<-hx];constructor
  ·intro hi;refine dS (bI.mp hi) λe he zz2=>?_;subst zz2;refine rJ (G.each e he) λj tk zz2 hj=>?_;subst zz2;rw[ia (G.low j hj).1 (G.low j hj).2];exact hj
  ·intro hi;refine fT (G.all i hi) λtk q=>bI.mpr ⟨_,q,ia (G.low i hi).1 (G.low i hi).2⟩
 have h1:=G.nodup.length_le_of_subset λi hi=>(hs i).mp hi;have h2:=hn.length_le_of_subset λi hi=>(hs i).mpr hi;simp at h1 h2;exact dw h1 h2
theorem SG.OE(G:SG w es t p):es.size<=32:=by
 have h1:=G.nodup.length_le_of_subset λi hi=>by have:=G.hashes i (by simpa using hi);exact bI.mpr ⟨i.toNat,cf.mpr<|adH this,adF this⟩
 simpa using h1
theorem SG.elems{prog:Program}(G:SG w es t p):ElemsOf (fW prog w) es.toList:=λe he=>by refine rJ (G.each e he) λi tk zz2 z=>?_;subst zz2;exact⟨⟨i,m3 _ _ _ _,rfl⟩,rfl⟩
theorem SG.scan{x:Value}(G:SG w es t p)(hx:x.scannable=true):byScan x es=true:=
 byScan_of (prog:=default) hx (by have:=G.OE;unfold scanBound;exact adE this) G.elems
theorem SG.empty{led:Bool}(hl:w.params.followText "set-order"=true\/led=true):SG w #[] (.fresh 0 0 led) λz=>False:=
 ⟨λe he=>by simp at he,λz h=>h.elim,by simp,λz h=>h.elim,rfl,rfl,hl⟩
end
section
variable{c:String}{prog:Program}{w:cU}{A:bD}{E:Value->Shared->Prop}{s:Shared}
def w3(c:String)(w:cU)(h:Heap)(a:Addr)(p:Int->Prop):Prop:=∃es ep t,h.get? a=some (zF c es ep t)/\SG w es t p
theorem w3.congr{p p':Int->Prop}(F:w3 c w h a p)(e:∀i,p i↔p' i):w3 c w h a p':=F.imp λz=>aD λz=>aD λz=>aH λG=>G.congr e
theorem w3.typeIs{p:Int->Prop}(F:w3 c w s.heap a p):s.TypeIs (.ref a) c:=F.elim λz F=>F.elim λz F=>F.elim λz F=>⟨_,F.1,rfl⟩
abbrev FS(w:cU)(h:Heap)(a:Addr)(p:Int->Prop):Prop:=w3 "frozenset" w h a p
theorem Cp{p:Int->Prop}(F:w3 c w s.heap a p)(h:∀r:Option Nat,(r.isSome=true↔p i)->Q r s):av (model prog w) A (setFind a (.int i tk)<|iG i) Q E s:=by
 refine uk F λes ep t ho G=>?_;have hmem:(∃e∈es.toList,(fW prog w).is i e.2=true)↔p i:=by
  constructor
  ·rintro⟨e,he,hi⟩;refine rJ (G.each e he) λj tk' zz2 hj=>?_;subst zz2;have:j=i:=by simpa[fW,oy] using hi.symm
   exact this▸hj
  ·intro hi;refine fT (G.all i hi) λtk' q=>⟨_,q,m3 _ _ _ _⟩
 refine aJ<|bH ho rfl G.fits ?_;dsimp only;rw[G.scan rfl];simp only[↓reduceIte];refine aX<|dA ?_;refine aX<|wpAny_setScan_of (m3 _ _ _ _) ho rfl G.fits G.elems ?_;cases hr:List.findIdx? (λe=>(fW prog w).is i e.2) es.toList with
 |none=>refine ab<|h none ?_;rw[<-hmem];simp only[tR,dI,false_iff];rintro⟨e,he,hp⟩;have:=bU.mp hr e he;rw[hp] at this;exact ae this
 |some j=>refine ab<|h (some<|0+j) ?_;rw[<-hmem];obtain⟨hj,hpj,_⟩:=bA.mp hr;simp only[Option.isSome_some,true_iff];exact⟨es.toList[j],l5 hj,hpj⟩
theorem mJ(t:SetTable)(n:Nat):(t.standIn n).dummies=#[]/\(t.standIn n).led=t.led:=⟨rfl,rfl⟩
theorem yE{t:SetTable}(n:Nat)(h:t.dummies=#[]):(t.orStandIn n).dummies=#[]/\(t.orStandIn n).led=t.led:=by
 unfold SetTable.orStandIn;split
 ·exact⟨h,rfl⟩
 ·exact mJ t n
theorem NY{t:SetTable}(j:Nat)(h:t.dummies=#[]):(t.put j).1.dummies=#[]/\(t.put j).1.led=t.led:=by unfold SetTable.put;refine⟨?_,rfl⟩;dsimp only;rw[h];rfl
set_option tactic.hygienic true in
theorem DZ{t:SetTable}{es:Array (Int×Value)}(hd:t.dummies=#[]):(layNew t es h x).2.1.dummies=#[]/\(layNew t es h x).2.1.led=t.led:=by
 unfold layNew;split
 ·rename_i slot wd _
  have:=NY slot hd;have q:=yE (SetTable.insertAt es (t.put slot).2 (h,x)).size this.1;exact⟨q.1,q.2.trans this.2⟩
 ·exact mJ t _
set_option tactic.hygienic true in
theorem z6{t:SetTable}{es:Array (Int×Value)}:(ve t es n).2.1.dummies=#[]/\(ve t es n).2.1.led=t.led:=by
 unfold ve;split
 ·rename_i t' order hr
  have:t'.dummies=#[]/\t'.led=t.led:=by unfold SetTable.relaid nS at hr;simp only[Fj,gB,Mh,sy,jX] at hr;refine u6 hr λo z zz2 z=>?_;subst zz2;exact⟨rfl,rfl⟩
  dsimp only;split
  ·exact this
  ·exact mJ t _
 ·exact mJ t _
theorem qP{es es':Array (Int×Value)}{t t':SetTable}(ho:s.heap.get? a=some (zF c es ep t))(hz:es'.size<=40)
  (h:∀h',dH a s.heap h'->h'.get? a=some (zF c es' (ep+1) t')->Q () {s with heap:=h'}):av (model prog w) A (Q5 a es' t') Q E s:=by
 refine wpAny_storeSet_of ho rfl (h _ (cK ..) ?_) (by rw[jo];exact ah hz<|of_decide_eq_true<|id<|de true)
 have:=du (Obj.putSet es' t') ho rfl
 exact this
theorem H7{g:Bool->Al Unit}(hg:∀(b:Bool)(aC:Shared)(Q':Unit->Shared->Prop),Q' () aC->av (model prog w) A (g b) Q' E aC)
  {es es1:Array (Int×Value)} {t t2:SetTable} {p:Int->Prop} (ho:s.heap.get? a=some (zF c es ep t)) (G1:SG w es1 t2 p) {R:Option Bool->Shared->Prop}
  (h:∀h',dH a s.heap h'->w3 c w h' a p->R (some true) {s with heap:=h'}):
  av (model prog w) A (do
    Q5 a es1 t2
    if(!wasDummy&&t2.tooFull)=true then do
      g (ve t2 es1<|jq es1.size).2.2
      Q5 a (ve t2 es1<|jq es1.size).1 (ve t2 es1<|jq es1.size).2.1
      pure (some true)
     else pure (some true)) R E s:=by
 have hz1:es1.size<=40:=by have:=G1.OE;exact ar9 this
 refine aX<|qP ho hz1 λh1 hs1 ho1=>?_
 split
 ·have hp:=relayAll_perm t2 es1<|jq es1.size;have hfr:=relayAll_fits t2 es1<|jq es1.size;have hdr:=z6 (t:=t2) (es:=es1) (n:=jq es1.size);generalize hRl:ve t2 es1 (jq es1.size)=Rl at hp hfr hdr ⊢;obtain⟨es2,t3,gave2⟩:=Rl;dsimp only at hp hfr hdr ⊢;have hz2:es2.size<=40:=by rw[<-aM,hp.length_eq,aM];exact hz1
  refine aX<|hg _ _ _ ?_;refine aX<|qP ho1 hz2 λh2 hs2 ho2=>?_;exact ab<|h _ (hs1.trans hs2) ⟨_,_,_,ho2,G1.perm hp hfr hdr.1<|G1.led.imp id λq=>hdr.2.trans q⟩
 ·exact ab<|h _ hs1 ⟨_,_,_,ho1,G1⟩
theorem Hx{p:Int->Prop}(F:w3 c w s.heap a p)(hi:0<=i/\i<32){Q:Bool->Shared->Prop}
  (h:∀h' b,dH a s.heap h'->w3 c w h' a (λj=>p j\/j=i)->Q b {s with heap:=h'}):av (model prog w) A (setAddHashed a (.int i tk)<|iG i) Q E s:=by
 refine uk F λes ep t ho G=>?_
 have hmem:(∃e∈es.toList,(fW prog w).is i e.2=true)↔p i:=by
  constructor
  ·rintro⟨e,he,hi⟩;refine rJ (G.each e he) λj tk' zz2 hj=>?_;subst zz2;have:j=i:=by simpa[fW,oy] using hi.symm
   exact this▸hj
  ·intro hi;refine fT (G.all i hi) λtk' q=>⟨_,q,m3 _ _ _ _⟩
 refine aR<|aJ<|bH ho rfl G.fits ?_
 dsimp only
 rw[G.scan rfl]
 simp only[↓reduceIte]
 refine aX<|aX<|dA ?_
 refine aX<|wpAny_setScan_of (m3 _ _ _ _) ho rfl G.fits G.elems ?_
 cases hr:List.findIdx? (λe=>(fW prog w).is i e.2) es.toList with
 |some j=>obtain⟨hj,hpj,_⟩:=bA.mp hr;have hpi:=hmem.mp ⟨es.toList[j],l5 hj,hpj⟩;refine ab<|ab ?_;refine h s.heap _ (mH a s.heap) ⟨es,ep,t,ho,G.congr λj=>⟨.inl,λq=>q.elim id λe=>e▸hpi⟩⟩
 |none=>
  have hnp:¬p i:=λhpi=>by refine dS (hmem.mpr hpi) λe he hp=>?_;have:=bU.mp hr e he;rw[hp] at this;exact ae this
  have hgw:∀(b:Bool){aC:Shared}{Q':Unit->Shared->Prop},Q' () aC->av (model prog w) A (match b with|true=>rule "set.scan.the-table-gave-way"|false=>pure ()) Q' E aC:=
   λb aC Q' hq=>by cases b<;>first|exact ab hq|exact dA hq
  have hperm:=layNew_perm t es (iG i)<|.int i tk;have hfits:=layNew_fits t es (iG i)<|.int i tk;have hdumm:=DZ (es:=es) (h:=iG i) (x:=.int i tk) G.K8;generalize hL:layNew t es (iG i) (.int i tk)=L at hperm hfits hdumm ⊢;obtain⟨es1,t1,wasDummy,gave⟩:=L;dsimp only at hperm hfits hdumm ⊢;have G1:=G.push (x:=.none) hnp hi (by simpa using hperm) hfits hdumm.1<|G.led.imp id λq=>hdumm.2.trans q;refine aX<|hgw _ ?_;have fin:=λh' x y=>h h' true x y;split
  ·refine aX ?_;rw[hashByValue_scannable 8 rfl];refine ab<|H7 ?_ ho G1 λh' x y=>ab<|fin h' x y;intro b aC Q' hq;cases b<;>first|exact ab hq|exact dA hq
  ·refine aJ<|ab ?_;simp only[↓reduceIte];refine H7 ?_ ho G1 λh' x y=>ab<|fin h' x y;intro b aC Q' hq;cases b<;>first|exact ab hq|exact dA hq
end
section
variable{c:String}{prog:Program}{w:cU}{A:bD}{E:Value->Shared->Prop}{s:Shared}
theorem se(I:List α->Shared->Prop)(step:∀x r s,I (x::r) s->∀Q':ForInStep β->Shared->Prop,(∀s',I r s'->Q' (.yield b) s')->av (model prog w) A (f x b) Q' E s)(l:List α):∀(s:Shared),I l s->(∀s',I [] s'->Q b s')->av (model prog w) A (forIn l b f) Q E s:=by
 induction l with
 |nil=>intro s h hq;rw[iK];exact ab<|hq s h
 |cons x r ih=>intro s h hq;rw[cA];exact aX<|step x r s h _ λs' h'=>ih s' h' hq
theorem gQ(ho:s.heap.get? a=some (zF c es ep t))(G:SG w es t p)(h:Q es s):av (model prog w) A (setEntries a) Q E s:=
 wpAny_setEntries_of ho rfl G.fits h
theorem rK(h:Q (w.params.followText "set-order") s):av (model prog w) A setsByText Q E s:=by unfold setsByText;exact aX<|i6<|ab h
theorem DJ(h:∀b∈sets,∃q,w3 c w s.heap b q)(hq:Q true s):av (model prog w) A (setsQuiet sets) Q E s:=by
 unfold setsQuiet;refine aX<|se (λl s'=>s'=s/\∀b∈l,b∈sets) (λa r s' hI Q' hQ'=>?_) sets s ⟨rfl,λz q=>q⟩ ?_
 ·refine kg hI λzz0 hr=>?_;subst zz0;refine x42 (h a<|hr a ax) λq es ep t ho G=>aX<|gQ ho G<|aX ?_;rw[<-fZ];refine se (λl s''=>s''=s'/\∀e∈l,e∈es.toList) (λe r' s'' hJ Q'' hQ''=>?_) es.toList s' ⟨rfl,λz q=>q⟩ ?_
  ·refine kg hJ λzz0 hr'=>?_;subst zz0;refine rJ (G.each e<|hr' e ax) λi tk zz2 z=>?_;subst zz2;exact ab<|hQ'' _ ⟨rfl,λx hx=>hr' x<|az _ hx⟩
  ·rintro s'' ⟨rfl,_⟩;exact ab<|hQ' _ ⟨rfl,λx hx=>hr x<|az _ hx⟩
 ·rintro s' ⟨rfl,_⟩;exact ab hq
theorem xX(ho:s.heap.get? a=some (zF c es ep t))(G:SG w es t p)(hc:(w.params.followText "set-order"||t.led&&t.plain||decide (es.size<=1))=true)
  (h:∀l:Array (Int×Value),di l.toList es.toList->Q l s):av (model prog w) A (setWalk a) Q E s:=by
 unfold setWalk
 refine aX<|bH ho rfl G.fits ?_
 dsimp only
 refine aX<|rK ?_
 cases hb:w.params.followText "set-order" with
 |true=>refine MI<|aX<|i6<|ab<|h _<|Kt _ _
 |false=>
  rw[hb] at hc;simp -iota only[Bool.false_or,jd,dU,decide_eq_true_eq] at hc;refine vp ?_;have hd:(!t.plain&&decide (es.size>1))=false:=by
   rcases hc with hc|hc
   ·simp -iota [hc.2]
   ·simp;exact adh hc
  have hm:(!t.led&&decide (es.size>1))=false:=by
   rcases hc with hc|hc
   ·simp -iota [hc.1]
   ·simp;exact adh hc
  show av _ _ (if(!t.plain&&decide (es.size>1))=true then _ else _) Q E s;rw[hd];refine vp<|aX ?_;show av _ _ (if(!t.led&&decide (es.size>1))=true then _ else _) _ E s;rw[hm];refine vp<|ab<|ab<|h _ .rfl
theorem MK(ho:s.heap.get? a=some (zF c es ep t))(G:SG w es t p)(hot:∀b∈others,∃q,w3 c w s.heap b q)
  (h:∀l:Array (Int×Value),di l.toList es.toList->Q l s):av (model prog w) A (w7 a others none) Q E s:=by
 unfold w7
 refine aX<|bH ho rfl G.fits ?_
 dsimp only
 refine aJ<|rK ?_
 split
 ·rename_i hc
  exact xX ho G hc h
 ·refine aX<|DJ (c:=c) (λb hb=>?_) ?_
  ·rcases aV.mp hb with rfl|hb
   ·exact y42 p es ep t ho G
   ·exact hot b hb
  ·refine vp<|aX<|dA<|ab<|h _ .rfl
theorem De(ho:s.heap.get? a=some (zF c es ep t))(G:SG w es t p)(hot:∀b∈others,∃q,w3 c w s.heap b q)(F:w3 c w s.heap f q)
  (h:∀(l:Array (Int×Value)) h',di l.toList es.toList->dH f s.heap h'->w3 c w h' f q->Q l {s with heap:=h'}):av (model prog w) A (w7 a others<|some f) Q E s:=by
 have h0:=λl hl=>h l s.heap hl (mH _ _) F
 unfold w7
 refine aX<|bH ho rfl G.fits ?_
 dsimp only
 refine aJ<|rK ?_
 split
 ·rename_i hc
  exact xX ho G hc h0
 ·rename_i hc
  refine aX<|DJ (c:=c) (λb hb=>?_) ?_
  ·rcases aV.mp hb with rfl|hb
   ·exact y42 p es ep t ho G
   ·exact hot b hb
  ·refine vp<|aX<|dA ?_;refine uk F λef epf tf hof Gf=>aJ<|bH hof rfl Gf.fits ?_;dsimp only;split
   ·refine aX (qP hof (by have:=Gf.OE;exact ar9 this) λh' hs' ho'=>ab<|h _ _ .rfl hs' ⟨_,_,_,ho',?_⟩);have hb:w.params.followText "set-order"=false:=by
     cases hb:w.params.followText "set-order" with
     |false=>rfl
     |true=>rw[hb] at hc;simp at hc
    refine⟨Gf.each,Gf.all,Gf.nodup,Gf.low,Gf.fits,Gf.K8,.inr ?_⟩;have h1:=Gf.led;have h2:=G.led;rw[hb] at h1 h2;simp at h1 h2;simp -iota [h1,h2]
   ·exact ab<|h0 _ .rfl
theorem yt{es:Array (Int×Value)}{t0:SetTable}{p:Int->Prop}(G:SG w es t0 p){led plain:Bool}(hm:j6 m)(hn:es.size<=m)(hl:w.params.followText "set-order"=true\/led=true):
  ∃t order,nS m finger moves led plain (es.map (·.1))=some (t,order)/\(order.filterMap (es[·]?)).size=es.size/\SG w (order.filterMap (es[·]?)) t p:=by
 refine x25 (Tv (finger:=finger) (moves:=moves) (led:=led) (plain:=plain) hm G.hashes<|by simpa -iota using hn) λt order e1 e2 e3 e4 e5=>?_
 rw[Array.size_map] at e2 e3
 have hp:=Gz e2
 have hz:(order.filterMap (es[·]?)).size=es.size:=by rw[<-aM,hp.length_eq,aM]
 exact Av t order e1 hz<|G.perm hp (by rw[hz];exact e3) e4<|hl.imp id λq=>e5.trans q
theorem NP{p:Int->Prop}(F:w3 c w s.heap a p)(hn:n<=63)(hs:∀es ep t,s.heap.get? a=some (zF c es ep t)->es.size<=n){Q:Unit->Shared->Prop}
  (h:∀h',dH a s.heap h'->(∃es ep t,h'.get? a=some (zF c es ep t)/\SG w es t p/\j6 t.mask/\n<=t.mask)->Q () {s with heap:=h'}):av (model prog w) A (setRelay a n) Q E s:=by
 refine uk F λes ep t ho G=>?_
 have hsz:=hs _ _ _ ho
 refine qe (BK hn) λhm hnm h64=>?_
 unfold setRelay
 refine aJ<|bH ho rfl G.fits ?_
 dsimp only
 refine u7 (by rw[jo];exact aeD h64)<|jG (yt (finger:=t.finger) (moves:=t.movedTo<|dz n-1) (plain:=t.plain) G hm (ah hsz hnm) G.led) λt' order e1 e2 G'=>?_
 have hmask:t'.mask=dz n-1:=by unfold nS at e1;simp -iota only[Fj,gB,Mh,sy,jX] at e1;refine u6 e1 λo z zz2 z=>?_;subst zz2;rfl
 have hre:t.relaid (es.map (·.1)) n=some (t',order):=e1
 rw[hre]
 refine aX ?_
 show av _ _ (if((order.filterMap (es[·]?)).size != es.size)=true then _ else _) _ E s
 refine u7 (by rw[e2];simp)<|ab ?_
 refine qP ho (by rw[e2];have:=G.OE;exact ah this<|of_decide_eq_true<|id<|de true) λh' hs' ho'=>h h' hs' ⟨_,_,_,ho',G',hmask▸hm,hmask▸hnm⟩
theorem IW{c:String}(h:zF c es ep t=zF c es' ep' t'):es=es'/\ep=ep'/\t=t':=by
 have h1:=congrArg Obj.data h;injection h1 with a b d
 exact⟨a,b,d⟩
set_option tactic.hygienic true in
theorem Sz(ho:s.heap.get? a=some (zF c es ep t))(G:SG w es t p)(hn:es.size+n<=31)
  (h:∀h',dH a s.heap h'->(∃es' ep' t',h'.get? a=some (zF c es' ep' t')/\SG w es' t' p/\((t'=t/\(t.fill+n)*5<t.mask*3)\/(j6 t'.mask/\n<=t'.mask)))->Q () {s with heap:=h'}):av (model prog w) A (setRoomFor a n) Q E s:=by
 unfold setRoomFor
 refine aJ<|bH ho rfl G.fits ?_
 dsimp only
 have hf:t.place.size=es.size:=by have:=G.fits;simp -iota only[nT,dU,beq_iff_eq] at this;exact this.1
 unfold SetTable.roomFor
 split
 ·rename_i wanted hw
  split at hw
  ·obtain rfl:=aa hw;refine NP ⟨es,ep,t,ho,G⟩ (aeC hn hf) (λes' ep' t' ho'=>?_) λh' hs' z=>h h' hs' (z.imp λy=>aD λy=>aD λy z=>⟨z.1,z.2.1,.inr ⟨z.2.2.1,by have:=z.2.2.2;omega⟩⟩);rw[show es'=es from(IW<|aa<|ho'.symm.trans ho).1];exact aeB hf
  ·exact aW hw
 ·rename_i hw
  have:=λz=>hw _<|if_pos z;exact ab<|h s.heap (mH _ _) ⟨_,_,_,ho,G,.inl ⟨rfl,Nat.lt_of_not_le this⟩⟩
theorem DT{p q:Int->Prop}{es eo:Array (Int×Value)}{t to:SetTable}(hab:a≠b)(ho:s.heap.get? a=some (zF c es ep t))(G:SG w es t p)(hb:s.heap.get? b=some (zF c eo epo to))(Go:SG w eo to q)
  (hn:es.size+eo.size<=31) (hm:es.size=0->t.mask=7) {each:Al Unit} (heach:∀s' (Q':Unit->Shared->Prop),s'.heap.get? b=s.heap.get? b->Q' () s'->av (model prog w) A each Q' E s') {Q:Unit->Shared->Prop}
  (h:∀h',dH a s.heap h'->w3 c w h' a (λi=>p i\/q i)->(eo.size=0->h'=s.heap)->Q () {s with heap:=h'}):av (model prog w) A (setMerge a b each) Q E s:=by
 unfold setMerge
 refine u7 (by simpa -iota using hab)<|aJ<|bH hb rfl Go.fits ?_
 dsimp only
 split
 ·rename_i he
  have hq:∀i,¬q i:=λi hi=>by refine fT (Go.all i hi) λtk hx=>?_;rw[LI.mp he] at hx;simp at hx
  exact ab<|h s.heap (mH _ _) ⟨_,_,_,ho,G.congr λi=>⟨.inl,λz=>z.elim id λz=>(hq i z).elim⟩⟩ λu=>rfl
 ·rename_i he
  have hne:∀h':Heap,eo.size=0->h'=s.heap:=λu z=>absurd (LI.mpr<|iI z) he;refine aX (Sz ho G (by omega) λh1 hs1 hh1=>?_);refine qv hh1 λes1 ep1 t1 ho1 G1 ht1=>?_;have hb1:=(hs1.2 b<|gp hab).trans hb;refine aJ<|bH ho1 rfl G1.fits ?_;dsimp only;have hled:w.params.followText "set-order"=true\/(t1.led&&to.led)=true:=by
   rcases G1.led with z|z
   ·exact .inl z
   ·rcases Go.led with z'|z'
    ·exact .inl z'
    ·exact .inr (by simp -iota [z,z'])
  have hp1:t1.fill=0->∀i,¬p i:=λhf i hi=>by
   refine fT (G1.all i hi) λtk hx=>?_;have:es1.size=0:=by have:=G1.fits;simp -iota only[nT,dU,beq_iff_eq] at this;unfold zB at hf;exact adg hf this
   rw[iI this] at hx;simp at hx
  have hset:∀{es2:Array (Int×Value)}{t2:SetTable},t1.fill=0->SG w es2 t2 q->es2.size<=40->av (model prog w) A (Q5 a es2 t2) Q E {s with heap:=h1}:=by intro es2 t2 hf G2 hz;refine qP ho1 hz λh2 hs2 ho2=>h h2 (hs1.trans hs2) ⟨_,_,_,ho2,G2.congr λi=>⟨.inr,λz=>z.elim (λz=>(hp1 hf i z).elim) id⟩⟩<|hne _
  have hle:=Go.OE;cases hr:t1.road to with
  |slotForSlot=>
   have hf:t1.fill=0:=by
    unfold Mg at hr;split at hr
    ·cases hr
    ·rename_i z;simpa -iota using z
   exact hset hf (Go.perm .rfl Go.fits Go.K8 hled)<|ar9 hle
  |clean=>
   have hf:t1.fill=0:=by
    unfold Mg at hr;split at hr
    ·cases hr
    ·rename_i z;simpa -iota using z
   have hgm:j6 t1.mask/\eo.size<=t1.mask:=by
    rcases ht1 with ⟨rfl,ht1⟩|ht1
    ·have hz:es.size=0:=by
      have:=G.fits
      simp -iota only[nT,dU,beq_iff_eq] at this
      unfold zB at hf
      exact adg hf this
     have h7:=hm hz
     rw[h7]
     exact⟨.inl rfl,by rw[h7,hf] at ht1;omega⟩
    ·exact ht1
   refine jG (yt (finger:=t1.finger) (moves:=t1.moves) (plain:=t1.plain&&to.plain) Go hgm.1 hgm.2 hled) λt' order e1 e2 G'=>?_;dsimp only;rw[e1];refine aX ?_;show av _ _ (if((order.filterMap (eo[·]?)).size != eo.size)=true then _ else _) _ E _;refine u7 (by rw[e2];simp)<|ab ?_;exact hset hf G' (by rw[e2];exact ah hle<|of_decide_eq_true<|id<|de true)
  |oneByOne=>
   dsimp only;refine aJ<|De hb1 Go (λc hc=>?_) ⟨_,_,_,ho1,G1⟩ λl h2 hl hs2 F2=>?_
   ·obtain rfl:=aE.mp hc;exact⟨p,_,_,_,ho1,G1⟩
   ·rw[<-fZ];have hsub:=λe he=>Go.each e<|hl.mem_iff.mp he;refine aX<|se (λr s'=>(∃h',s'={s with heap:=h'}/\dH a s.heap h')/\(∀e∈r,e∈l.toList)/\∃p',w3 c w s'.heap a p'/\∀i,(p i\/q i)↔(p' i\/∃tk,(iG i,jb i tk)∈r))
     (λe r s' hI Q' hQ'=>?_) l.toList _ ⟨⟨h2,rfl,hs1.trans hs2⟩,λu z=>z,p,F2,λi=>⟨λz=>z.imp id λz=>(Go.all i z).imp λu y=>hl.mem_iff.mpr y,λz=>z.imp id λtky=>by
      refine fT tky λtk y=>rJ (hsub _ y) λj tk' e' hj=>?_;obtain rfl:i=j:=by injection e' with _ e';injection e'
      exact hj⟩⟩ ?_
    ·obtain⟨⟨h',rfl,hs'⟩,hr',p',F',hp'⟩:=hI;refine rJ (hsub e<|hr' e ax) λi tk zz2 hi=>?_;subst zz2;refine aX<|aR<|Hx F' (Go.low i hi) λh3 b' hs3 F3=>?_;have hb3:=((hs'.trans hs3).2 b<|gp hab).trans hb;refine aX<|heach _ _ (hb3.trans hb.symm) ?_;refine aJ<|bH hb3 rfl Go.fits ?_;dsimp only;refine u7 (by simp -iota)<|ab<|hQ' _ ⟨⟨h3,rfl,hs'.trans hs3⟩,λx hx=>hr' x<|az _ hx,_,F3,λj=>?_⟩;rw[hp' j];constructor
     ·rintro(z|⟨tk',z⟩)
      ·exact .inl<|.inl z
      ·rcases aV.mp z with z|z
       ·refine .inl<|.inr ?_;injection z with _ z;injection z
       ·exact .inr ⟨tk',z⟩
     ·rintro((z|rfl)|⟨tk',z⟩)
      ·exact .inl z
      ·exact .inr ⟨tk,ax⟩
      ·exact .inr ⟨tk',az _ z⟩
    ·rintro s' ⟨⟨h',rfl,hs'⟩,_,p',F',hp'⟩;exact ab<|h h' hs' (F'.congr λi=>by rw[hp' i];simp)<|hne _
end
section
variable{prog:Program}{w:cU}{A:bD}{E:Value->Shared->Prop}{s:Shared}
theorem KY(I:List α->Shared->Prop)(D:β->Shared->Prop)(step:∀x r s,I (x::r) s->∀Q':ForInStep β->Shared->Prop,(∀s',I r s'->Q' (.yield b) s')->(∀y s',D y s'->Q' (.done y) s')->av (model prog w) A (f x b) Q' E s)(l:List α):∀(s:Shared),I l s->(∀s',I [] s'->Q b s')->(∀y s',D y s'->Q y s')->av (model prog w) A (forIn l b f) Q E s:=by
 induction l with
 |nil=>intro s h hq hd;rw[iK];exact ab<|hq s h
 |cons x r ih=>intro s h hq hd;rw[cA];exact aX<|step x r s h _ (λs' h'=>ih s' h' hq hd) λy s' h'=>ab<|hd y s' h'
theorem y0{α β:Type}{f:α->β->Al (ForInStep β)}{b:β}{Q:β->Shared->Prop}(h:Q b s){l:List α}(step:∀e∈l,∀Q':ForInStep β->Shared->Prop,Q' (.yield b) s->av (model prog w) A (f e b) Q' E s):av (model prog w) A (forIn l b f) Q E s:=by
 induction l with
 |nil=>exact ab h
 |cons x r ih=>rw[cA];exact aX<|step x (ax ..) _<|ih λe he=>step e<|az _ he
theorem nY{α β:Type}{f:α->β->Al (ForInStep β)}{b:β}{Q:β->Shared->Prop}(h:Q b s){l:Array α}(step:∀e∈l.toList,∀Q':ForInStep β->Shared->Prop,Q' (.yield b) s->av (model prog w) A (f e b) Q' E s):av (model prog w) A (forIn l b f) Q E s:=by rw[<-fZ];exact y0 h step
theorem yg:isSubtype (.type "frozenset") (.type "set")=pure false:=by rw[dZ];kernel_rfl
theorem oM:isSubtype (.type "frozenset") (.type "frozenset")=pure true:=by rw[dZ];kernel_rfl
theorem jL(h:s.TypeIs v "frozenset")(hq:Q true s):av (model prog w) A (isAnySet v) Q E s:=by refine aX<|dh h yg ?_;exact dh h oM hq
theorem Jg(h:s.TypeIs (.ref a) "frozenset")(hq:Q (.type "frozenset") s):av (model prog w) A (baseOf a) Q E s:=by refine aJ<|dh h yg ?_;simp only[dI,if_false];exact ab hq
theorem AK
  (h:∀h' t,(∀b o,s.heap.get? b=some o->h'.get? b=some o)->h'.get? s.heap.objs.size=some (yV #[] 0 t)->SG w #[] t (λz=>False)->t.mask=7->Q (.ref s.heap.objs.size) {s with heap:=h'}):
  av (model prog w) A (newSet<|.type "frozenset") Q E s:=by
 refine aX<|rK ?_
 simp only[newObj]
 refine aX<|nJ<|ab ?_
 refine h _ _ cx ez (SG.empty ?_) rfl
 cases w.params.followText "set-order"<;>simp
theorem SG.pL(G:SG w es t p)(h:es.size=0):∀i,¬p i:=λi hi=>by refine fT (G.all i hi) λtk hx=>?_;rw[iI h] at hx;simp at hx
theorem SG.BJ(G:SG w es t p)(h:∀i,¬p i):es.size=0:=by
 cases hs:es.size with
 |zero=>rfl
 |succ n=>have:=g8<|aeA hs;refine rJ (G.each es[0]<|Array.getElem_mem_toList _) λi tk z hi=>(h i hi).elim
theorem I6(ho:s.heap.get? a=some (yV es ep t))(G:SG w es t p)(hn:es.size<=12)
  (h:∀h' es' ep' t',(∀b o,s.heap.get? b=some o->h'.get? b=some o)->h'.get? s.heap.objs.size=some (yV es' ep' t')->SG w es' t' p->(es'.size=0->t'.mask=7)->Q (.ref s.heap.objs.size) {s with heap:=h'}):
  av (model prog w) A (copyOf a) Q E s:=by
 refine aX<|Jg ⟨_,ho,rfl⟩ ?_
 refine aX<|AK λh1 t1 hk1 ho1 G1 hm1=>?_
 refine aX<|ab ?_
 have hne:s.heap.objs.size≠a:=λe=>by have:=bL s.heap;rw[e,ho] at this;exact jO this
 refine aX<|DT hne ho1 G1 (hk1 _ _ ho) G (by simp;exact ah hn<|of_decide_eq_true<|id<|de true) (λy=>hm1) (λs' Q' y hq=>ab hq) λh2 hs2 F2 hz=>ab ?_
 have hk2:=λb o e=>(hs2.2 b (λz=>by rw[z,bL] at e;exact aW e)).trans<|hk1 b o e
 by_cases hes:es.size=0
 ·have hh:=hz hes;dsimp only at hh;subst hh;exact h _ _ _ _ hk2 ho1 (G1.congr λi=>⟨λz=>z.elim,λz=>(G.pL hes i z).elim⟩) λy=>hm1
 ·refine uk F2 λes' ep' t' ho' G'=>?_;have G':=G'.congr (p':=p) λi=>by simp
  refine h _ _ _ _ hk2 ho' G' λz=>absurd (G.BJ<|G'.pL z) hes
theorem Nq(name:String)(a b:Value):slot1 name ⟨[a,b],[]⟩=pure (a,b):=rfl
theorem uw(h:Q (a,b) s):av (model prog w) A (slot1 name ⟨[a,b],[]⟩) Q E s:=by rw[Nq];exact ab h
theorem qJ{h:Heap}(e:h.get? b=some o):h.objs.size≠b:=λz=>by rw[<-z,bL] at e;exact aW e
theorem abb(ho:s.heap.get? a=some (yV es ep t))(G:SG w es t p)(hn:es.size<=12)(hb:s.heap.get? b=some (yV eo epo to))(Go:SG w eo to q)(hno:eo.size<=12)
  (h:∀h',(∀b o,s.heap.get? b=some o->h'.get? b=some o)->FS w h' s.heap.objs.size (λi=>p i\/q i)->Q (.done<|.ret<|.ref s.heap.objs.size) {s with heap:=h'}):
  av (model prog w) A (eY.«frozenset.__or__» ⟨[.ref a,.ref b],[]⟩) Q E s:=by
 have hTa:s.TypeIs (.ref a) "frozenset":=⟨_,ho,rfl⟩
 have hTb:s.TypeIs (.ref b) "frozenset":=⟨_,hb,rfl⟩
 refine aX<|uw<|aX<|aX<|jL hTa<|jL hTb<|vp<|aX ?_
 refine ab<|aX ?_
 refine aX<|I6 ho G hn λh1 es1 ep1 t1 hk1 ho1 G1 hm1=>?_
 have fin:∀h',(∀b o,s.heap.get? b=some o->h'.get? b=some o)->FS w h' s.heap.objs.size (λi=>p i\/q i)->av (model prog w) A (ret<|.ref s.heap.objs.size) Q E {s with heap:=h'}:=
  λh' x y=>ab<|h h' x y
 by_cases hab:b=a
 ·subst hab;obtain⟨rfl,rfl,rfl⟩:=IW<|aa<|hb.symm.trans ho;refine u7 (by simp)<|ab<|fin _ hk1 ⟨_,_,_,ho1,G1.congr λi=>⟨.inl,λz=>z.elim id λz=>?_⟩⟩;refine fT (Go.all i z) λtk hx=>rJ (G.each _ hx) λj tk' e hj=>?_;injection e with _ e;injection e with e
  exact e▸hj
 ·have hne:(nE b != nE a)=true:=by simpa using hab
  refine MJ hne ?_;have hrb:s.heap.objs.size≠b:=λe=>by have:=bL s.heap;rw[e,hb] at this;exact jO this
  have hb1:=hk1 _ _ hb;refine aX<|ab ?_;refine aX<|aR ?_;refine aX<|jL ⟨_,hb1,rfl⟩ ?_;refine MI<|aX ?_;refine ab<|aX ?_;refine aX<|bH hb1 rfl Go.fits<|ab ?_;have hes1:es1.size<=12:=by
   by_cases z:es1.size=0
   ·exact cG z▸be (xJ 11)
   ·have:(es1.toList.map (·.1)).length<=(es.toList.map (·.1)).length:=G1.nodup.length_le_of_subset λi hi=>by
     refine dS (bI.mp hi) λe he zz2=>?_
     subst zz2
     refine rJ (G1.each e he) λj tk zz2 hj=>?_
     subst zz2
     refine fT (G.all j hj) λtk' hx=>bI.mpr ⟨_,hx,rfl⟩
    simp at this
    exact ah this hn
  refine DT hrb ho1 G1 hb1 Go (aez hno hes1) hm1 (λs' Q' hbs hq=>?_) λh2 hs2 F2 u=>ab<|fin _ (λc o e=>?_) F2
  ·delta unchanged setEpoch;refine aJ<|aJ<|bH (hbs.trans hb1) rfl Go.fits<|ab ?_;refine u7 (by simp)<|ab hq
  ·exact(hs2.2 c (λz=>by rw[z,bL] at e;exact aW e)).trans<|hk1 c o e
theorem lM(ho:s.heap.get? a=some (yV es ep t))(G:SG w es t p)(h:Q es.size s):av (model prog w) A (Rq a) Q E s:=by exact aX<|gQ ho G<|ab h
theorem Bw{id:String}{es:Array (Int×Value)}{t:SetTable}{p:Int->Prop}(ho:s.heap.get? a=some (yV es ep t))(G:SG w es t p){Q:Unit->Shared->Prop}(h:Q () s):av (model prog w) A (unchanged id a ep) Q E s:=by refine aJ<|aJ<|bH ho rfl G.fits<|ab ?_;refine u7 (by simp)<|ab h
theorem PR{id:String}{er eo:Array (Int×Value)}{t to:SetTable}{p q:Int->Prop}(ho:s.heap.get? r=some (yV er ep t))(G:SG w er t p)(hb:s.heap.get? b=some (yV eo epo to))(Go:SG w eo to q)(hz:eo.size=0)(hne:b≠r){Q:Unit->Shared->Prop}(h:Q () s):av (model prog w) A (differenceUpdate id r<|.ref b) Q E s:=by
 refine u7 (by simpa using hne)<|aX<|jL ⟨_,hb,rfl⟩<|MI<|aX ?_;refine ab (aX<|lM hb Go<|aX<|lM ho G<|u7 (by rw[hz];simp) ?_);refine aX<|aX<|bH hb rfl Go.fits<|ab<|aX<|aR<|aX<|MK hb Go (λc hc=>?_) λl hl=>?_
 ·obtain rfl:=aE.mp hc;exact⟨p,_,_,_,ho,G⟩
 ·have hl0:l.toList=[]:=by
   rw[iI hz] at hl
   exact List.perm_nil.mp hl
  show av _ _ (forIn l _ _>>=_) _ _ _
  rw[<-fZ,hl0,iK]
  refine aX<|ab<|ab ?_
  refine aJ<|bH ho rfl G.fits ?_
  refine u7 ?_<|ab h
  delta SetTable.tooManyDummies;rw[G.K8];simp
def af8(q:Int->Prop)(r:List (Int×Value))(j:Int):Prop:=¬q j/\∃tk,(iG j,jb j tk)∈r
def zt(p q p':Int->Prop)(r:List (Int×Value)):Prop:=∀i,(p i/\¬q i)↔(p' i\/af8 q r i)
theorem Cs(e:(iG i,jb i t)=(iG j,jb j u)):i=j:=by injection e with _ e;injection e
theorem zt.add(h:zt p q p' ((iG i,jb i t)::r))(hq:¬q i):zt p q (λj=>p' j\/j=i) r:=λj=>(h j).trans ⟨λz=>z.elim (λz=>.inl<|.inl z) λyz=>yz.2.elim λt' z=>(aV.mp z).elim (λz=>.inl<|.inr<|Cs z) λz=>.inr ⟨yz.1,t',z⟩,
 λz=>z.elim (λz=>z.elim .inl λe=>.inr ⟨e▸hq,t,e▸ax⟩) λyz=>.inr ⟨yz.1,yz.2.imp λy z=>az _ z⟩⟩
theorem zt.skip(h:zt p q p' ((iG i,jb i t)::r))(hq:q i):zt p q p' r:=λj=>(h j).trans ⟨λz=>z.elim .inl λyz=>yz.2.elim λt' z=>(aV.mp z).elim (λz=>absurd (Cs z▸hq) yz.1) λz=>.inr ⟨yz.1,t',z⟩,
 λz=>z.elim .inl λyz=>.inr ⟨yz.1,yz.2.imp λy z=>az _ z⟩⟩
theorem zt.start(G:SG w es t p)(hl:di l es.toList):zt p q (λu=>False) l:=λi=>⟨λz=>.inr ⟨z.2,(G.all i z.1).imp λu y=>hl.mem_iff.mpr y⟩,λz=>z.elim (λf=>f.elim) λzy=>⟨by obtain⟨z,tk,y⟩:=zy;refine rJ (G.each _<|hl.mem_iff.mp y) λj tk' e' hj=>Cs e'▸hj,zy.1⟩⟩
theorem zt.done(h:zt p q p' [])(i:Int):p' i↔(p i/\¬q i):=((h i).trans ⟨λz=>z.elim id λz=>z.2.elim λy z=>absurd z aK,.inl⟩).symm
def afl(w:cU)(s:Shared)(h1:Heap)(p q:Int->Prop)(l:List (Int×Value))(r:List (Int×Value))(s':Shared):Prop:=(∃h',s'={s with heap:=h'}/\dH s.heap.objs.size h1 h')/\(∀e∈r,e∈l)/\∃p',FS w s'.heap s.heap.objs.size p'/\zt p q p' r
theorem Ag{id:String}{es eo:Array (Int×Value)}{t to:SetTable}{p q:Int->Prop}(ho:s.heap.get? a=some (yV es ep t))(G:SG w es t p)(hn:es.size<=12)(hb:s.heap.get? b=some (yV eo epo to))(Go:SG w eo to q)(hno:es.size/4<=eo.size\/eo.size=0){Q:Value->Shared->Prop}
  (h:∀h',(∀b o,s.heap.get? b=some o->h'.get? b=some o)->FS w h' s.heap.objs.size (λi=>p i/\¬q i)->Q (.ref s.heap.objs.size) {s with heap:=h'}):
  av (model prog w) A (difference id a<|.ref b) Q E s:=by
 have hTa:s.TypeIs (.ref a) "frozenset":=⟨_,ho,rfl⟩
 have hTb:s.TypeIs (.ref b) "frozenset":=⟨_,hb,rfl⟩
 refine aX<|jL hTb<|vp<|aX ?_
 refine ab<|vp<|MI<|aX<|lM hb Go<|aX<|lM ho G<|Z3 (λhc=>?_) λhc=>?_
 ·have hz:eo.size=0:=by omega
  refine aX<|dA<|aX<|I6 ho G hn λh1 es1 ep1 t1 hk1 ho1 G1 hm1=>aX ?_;exact ab<|aX<|aR<|PR ho1 G1 (hk1 _ _ hb) Go hz (qJ hb).symm<|ab<|h _ hk1 ⟨_,_,_,ho1,G1.congr λi=>⟨λz=>⟨z,Go.pL hz i⟩,λz=>z.1⟩⟩
 ·refine aX<|Jg hTa<|aX<|AK λh1 t1 hk1 ho1 G1 hm1=>aX ?_;refine ab ?_;have hb1:=hk1 _ _ hb;have ha1:=hk1 _ _ ho;refine aX<|aX<|bH ha1 rfl G.fits<|ab<|aX<|aR<|aX<|MI<|De ha1 G (λc hc=>?_) ⟨_,_,_,ho1,G1⟩ λl h2 hl hs2 F2=>?_
  ·rcases aV.mp hc with rfl|hc
   ·exact y42 q _ _ _ hb1 Go
   ·obtain rfl:=aE.mp hc;exact⟨_,_,_,_,ho1,G1⟩
  ·show av _ _ (forIn l _ _>>=_) _ _ _;rw[<-fZ];refine aX<|se (afl w s h1 p q l.toList) (λe r s' hI Q' hQ'=>?_) l.toList _ ⟨⟨h2,rfl,hs2⟩,λy z=>z,_,F2,.start G hl⟩ ?_
   ·obtain⟨⟨h',rfl,hs'⟩,hr',p',F',hp'⟩:=hI;refine rJ (G.each e<|hl.mem_iff.mp<|hr' e ax) λi tk zz2 hi=>?_;subst zz2;have hr:=λx hx=>hr' x<|az _ hx;have ha':=(hs'.2 a (qJ ho).symm).trans ha1;refine aX<|aR<|MI<|aX<|Cp ⟨_,_,_,(hs'.2 b (qJ hb).symm).trans hb1,Go⟩ λfound hfound=>aX<|ab<|Z3 (λhnf=>?_) λhnf=>?_
    ·refine aX<|Hx F' (G.low i hi) λh3 b' hs3 F3=>ab<|aX<|Bw (s:={s with heap:=h3}) ((hs3.2 a (qJ ho).symm).trans ha') G<|ab<|hQ' _ ⟨⟨h3,rfl,hs'.trans hs3⟩,hr,_,F3,hp'.add λz=>?_⟩;rw[hfound.mpr z] at hnf;exact ae hnf
    ·exact ab<|aX<|Bw ha' G<|ab<|hQ' _ ⟨⟨h',rfl,hs'⟩,hr,_,F',hp'.skip<|hfound.mp (by cases found with|none=>exact absurd rfl hnf|some _=>rfl)⟩
   ·rintro s' ⟨⟨h',rfl,hs'⟩,_,p',F',hp'⟩;exact ab<|ab<|h h' (λc o e=>(hs'.2 c (qJ e).symm).trans<|hk1 c o e)<|F'.congr hp'.done
theorem Xd{es eo:Array (Int×Value)}{t to:SetTable}{p q:Int->Prop}(ho:s.heap.get? a=some (yV es ep t))(G:SG w es t p)(hn:es.size<=12)(hb:s.heap.get? b=some (yV eo epo to))(Go:SG w eo to q)(hno:es.size/4<=eo.size\/eo.size=0){Q:CS->Shared->Prop}
  (h:∀h',(∀b o,s.heap.get? b=some o->h'.get? b=some o)->FS w h' s.heap.objs.size (λi=>p i/\¬q i)->Q (.done<|.ret<|.ref s.heap.objs.size) {s with heap:=h'}):
  av (model prog w) A (eY.«frozenset.__sub__» ⟨[.ref a,.ref b],[]⟩) Q E s:=by
 have hTa:s.TypeIs (.ref a) "frozenset":=⟨_,ho,rfl⟩
 have hTb:s.TypeIs (.ref b) "frozenset":=⟨_,hb,rfl⟩
 refine aX<|uw<|aX<|aX<|jL hTa<|jL hTb<|vp<|aX ?_
 exact ab<|aX<|Ag ho G hn hb Go hno λh' x y=>ab<|h h' x y
theorem nf(h:Q true s):av (model prog w) A (quietEq<|.int i tk) Q E s:=ab h
theorem Az{id:String}{es eo:Array (Int×Value)}{t to:SetTable}{p q:Int->Prop}(ho:s.heap.get? a=some (yV es ep t))(G:SG w es t p)(hb:s.heap.get? b=some (yV eo epo to))(Go:SG w eo to q)(hsz:es.size=eo.size){Q:Bool->Shared->Prop}
  (h:∀r,(r=true↔∀i,p i->q i)->Q r s):av (model prog w) A (subsetOf id a b) Q E s:=by
 refine aJ<|lM ho G<|aJ<|lM hb Go ?_
 refine u7 (by omega)<|aX<|aX<|bH ho rfl G.fits<|ab ?_
 refine aX<|aX<|gQ ho G<|aX<|gQ hb Go<|aX ?_
 refine y0 ?_ λe he Q' hQ'=>?_
 ·obtain⟨s',rfl⟩:∃s',s'=s:=⟨s,rfl⟩;refine ab<|aX<|KY (λr s''=>s''=s'/\(∀e∈r,e∈es.toList)/\∀i,p i->q i\/∃tk,(iG i,jb i tk)∈r) (λy s''=>s''=s'/\y=(some false,())/\¬∀i,p i->q i) (λe r s'' hI Q' hQ' hD'=>?_) es.toList _ ⟨rfl,λu z=>z,λi hi=>.inr<|G.all i hi⟩ ?_ ?_
  ·refine qe hI λzz0 hr hall=>?_;subst zz0;refine rJ (G.each e<|hr e ax) λi tk zz2 hi=>?_;subst zz2;refine aJ<|aR<|Cp ⟨_,_,_,hb,Go⟩ λfound hfound=>?_;split
   ·rename_i hnf
    refine ab<|hD' _ _ ⟨rfl,rfl,λz=>?_⟩;have:=hfound.mpr<|z i hi;rw[bM] at hnf;rw[hnf] at this;exact ae this
   ·rename_i hnf
    have hq:=hfound.mp (by cases found with|none=>exact absurd rfl hnf|some _=>rfl);refine aX<|Bw ho G<|ab<|hQ' _ ⟨rfl,λx hx=>hr x<|az _ hx,λj hj=>?_⟩;rcases hall j hj with z|⟨tk',z⟩
    ·exact .inl z
    ·rcases aV.mp z with z|z
     ·have:j=i:=by injection z with _ z;injection z
      exact .inl<|this▸hq
     ·exact .inr ⟨tk',z⟩
  ·rintro s'' ⟨rfl,_,hall⟩;refine ab<|h true ⟨λu i hi=>(hall i hi).elim (λz=>z) λz=>z.elim λu z=>absurd z aK,λu=>rfl⟩
  ·rintro y s'' ⟨rfl,rfl,hn⟩;exact ab<|h false ⟨λz=>ae z,λz=>absurd z hn⟩
 ·have:=(ct.mp he).elim (λhe=>(G.each e he).imp λu=>aD λu=>JI) λhe=>(Go.each e he).imp λu=>aD λu=>JI;refine zC this λi tk zz2=>?_;subst zz2;exact aX<|nf<|vp<|ab hQ'
theorem r8(G:SG w es t p)(i:Int):i∈es.toList.map (·.1)↔p i/\(0<=i/\i<32):=by
 constructor
 ·intro hi;refine dS (bI.mp hi) λe he zz2=>?_;subst zz2;refine rJ (G.each e he) λj tk zz2 hj=>?_;subst zz2;have:=G.low j hj;rw[ia this.1 this.2];exact⟨hj,this⟩
 ·rintro⟨hi,h1⟩;refine fT (G.all i hi) λtk hx=>bI.mpr ⟨_,hx,ia h1.1 h1.2⟩
theorem Mu(G:SG w es t p)(Go:SG w eo to q)(hsz:es.size=eo.size)(h:∀i,p i->q i)(i:Int)(hq:q i):p i:=by
 apply Classical.byContradiction;intro hn;have hl:=Go.low i hq;have h1:=eW.mpr ⟨λz=>hn ((r8 G i).mp z).1,G.nodup⟩;have h2:=h1.length_le_of_subset λj hj=>by
  rcases aV.mp hj with rfl|hj
  ·exact(r8 Go j).mpr ⟨hq,hl⟩
  ·have:=(r8 G j).mp hj;exact(r8 Go j).mpr ⟨h j this.1,this.2⟩
 simp at h2;exact aey hsz h2
theorem IU(G:SG w es t p)(Go:SG w eo to q)(z:∀i,p i↔q i):di (es.toList.map (·.1)) (eo.toList.map (·.1)):=
 (Ao G.nodup Go.nodup).mpr λi=>(r8 G i).trans<|(and_congr (z i) QK).trans (r8 Go i).symm
theorem Wa(G:SG w es t p)(Go:SG w eo to q)(h:(es.size != eo.size)=true):¬∀i,p i↔q i:=λz=>by have:=(IU G Go z).length_eq;rw[ag,ag,aM,aM] at this;rw[this,bne_self_eq_false] at h;exact ae h
theorem IV(G:SG w es t p)(Go:SG w eo to q)(h:(hashOf (es.toList.map (·.1)) != hashOf (eo.toList.map (·.1)))=true):¬∀i,p i↔q i:=λz=>by rw[hashOf_perm<|IU G Go z,bne_self_eq_false] at h;exact ae h
theorem Ci(h:¬P):false=true↔P:=⟨λz=>ae z,λz=>absurd z h⟩
theorem acy{es eo:Array (Int×Value)}{t to:SetTable}{p q:Int->Prop}(ho:s.heap.get? a=some (yV es ep t))(G:SG w es t p)(hb:s.heap.get? b=some (yV eo epo to))(Go:SG w eo to q){Q:CS->Shared->Prop}
  (h:∀r:Bool,(r=true↔∀i,p i↔q i)->Q (.done<|.ret<|.bool r) s):av (model prog w) A (eY.«frozenset.__eq__» ⟨[.ref a,.ref b],[]⟩) Q E s:=by
 have hTa:s.TypeIs (.ref a) "frozenset":=⟨_,ho,rfl⟩
 have hTb:s.TypeIs (.ref b) "frozenset":=⟨_,hb,rfl⟩
 refine aX<|uw<|aX<|jL hTb<|vp<|aX ?_
 refine ab<|aX ?_
 refine ab<|aX<|lM ho G<|aX<|lM hb Go<|aX<|Z3 (λhsz=>ab<|ab<|h false<|Ci<|Wa G Go hsz) λhsz=>?_
 have hsz:es.size=eo.size:=by simpa using hsz
 refine aX<|aX<|dh hTa oM<|dh hTb oM<|MI<|aJ<|gQ ho G<|aJ<|gQ hb Go ?_
 refine Z3 ?_ ?_
 intro hh
 refine aX<|nY ?_ λe he Q' hQ'=>?_
 ·refine aX<|nY ?_ λe he Q' hQ'=>?_
  ·exact aX<|dA<|ab<|ab<|h false<|Ci<|IV G Go hh
  refine rJ (Go.each e he) λi tk zz2 y=>?_;subst zz2;exact aX<|nf<|vp<|ab hQ'
 ·refine rJ (G.each e he) λi tk zz2 y=>?_;subst zz2;exact aX<|nf<|vp<|ab hQ'
 ·intro _;exact Az ho G hb Go hsz λr hr=>ab<|h r<|hr.trans ⟨λz i=>⟨z i,Mu G Go hsz z i⟩,λz i hi=>(z i).mp hi⟩
theorem abi{es eo:Array (Int×Value)}{t to:SetTable}{p q:Int->Prop}(ho:s.heap.get? a=some (yV es ep t))(G:SG w es t p)(hb:s.heap.get? b=some (yV eo epo to))(Go:SG w eo to q){Q:CS->Shared->Prop}
  (h:∀r:Bool,(r=true↔∀i,p i↔q i)->Q (.done<|.ret<|.bool !r) s):av (model prog w) A (eY.«frozenset.__ne__» ⟨[.ref a,.ref b],[]⟩) Q E s:=by
 have hTa:s.TypeIs (.ref a) "frozenset":=⟨_,ho,rfl⟩
 have hTb:s.TypeIs (.ref b) "frozenset":=⟨_,hb,rfl⟩
 refine aX<|uw<|aX<|jL hTb<|vp<|aX ?_
 refine ab<|aX ?_
 refine ab<|aX<|lM ho G<|aX<|lM hb Go<|aX<|Z3 (λhsz=>ab<|ab<|h false<|Ci<|Wa G Go hsz) λhsz=>?_
 have hsz:es.size=eo.size:=by simpa using hsz
 refine aX<|aX<|dh hTa oM<|dh hTb oM<|MI<|aJ<|gQ ho G<|aJ<|gQ hb Go ?_
 refine Z3 ?_ ?_
 intro hh
 refine aX<|nY ?_ λe he Q' hQ'=>?_
 ·refine aX<|nY ?_ λe he Q' hQ'=>?_
  ·exact aX<|dA<|ab<|ab<|h false<|Ci<|IV G Go hh
  refine rJ (Go.each e he) λi tk zz2 y=>?_;subst zz2;exact aX<|nf<|vp<|ab hQ'
 ·refine rJ (G.each e he) λi tk zz2 y=>?_;subst zz2;exact aX<|nf<|vp<|ab hQ'
 ·intro _;exact Az ho G hb Go hsz λr hr=>ab<|h r<|hr.trans ⟨λz i=>⟨z i,Mu G Go hsz z i⟩,λz i hi=>(z i).mp hi⟩
end
namespace FF
theorem ym:Mf "frozenset" "__sub__" "frozenset.__sub__":=
 .of (owner:="frozenset") (n:="__sub__") (by rw[dy,b9];kernel_rfl) (by decide+kernel) (by decide+kernel) (by decide+kernel)
  (by first|exact .inl (by decide+kernel)|exact .inr<|by decide+kernel) (by rw[dZ];kernel_rfl)
theorem BG:Mf "frozenset" "__or__" "frozenset.__or__":=
 .of (owner:="frozenset") (n:="__or__") (by rw[dy,b9];kernel_rfl) (by decide+kernel) (by decide+kernel) (by decide+kernel)
  (by first|exact .inl (by decide+kernel)|exact .inr<|by decide+kernel) (by rw[dZ];kernel_rfl)
theorem Ih:Mf "frozenset" "__eq__" "frozenset.__eq__":=
 .of (owner:="frozenset") (n:="__eq__") (by rw[dy,b9];kernel_rfl) (by decide+kernel) (by decide+kernel) (by decide+kernel)
  (by first|exact .inl (by decide+kernel)|exact .inr<|by decide+kernel) (by rw[dZ];kernel_rfl)
theorem Ig:Mf "frozenset" "__ne__" "frozenset.__ne__":=
 .of (owner:="frozenset") (n:="__ne__") (by rw[dy,b9];kernel_rfl) (by decide+kernel) (by decide+kernel) (by decide+kernel)
  (by first|exact .inl (by decide+kernel)|exact .inr<|by decide+kernel) (by rw[dZ];kernel_rfl)
theorem entry_sub:md zK "frozenset.__sub__"=some eY.«frozenset.__sub__»:=g7<|rfl
theorem PJ:md zK "frozenset.__or__"=some eY.«frozenset.__or__»:=g7<|rfl
theorem entry_eq:md zK "frozenset.__eq__"=some eY.«frozenset.__eq__»:=g7<|rfl
theorem PK:md zK "frozenset.__ne__"=some eY.«frozenset.__ne__»:=g7<|rfl
theorem Qr(a b:Value):m4 "frozenset.__sub__" ⟨[a,b],[]⟩:=by delta m4;rw[kX (n:=['_','_','b','u','s','_','_']) (rfl) kT];kernel_rfl
theorem UM(a b:Value):m4 "frozenset.__or__" ⟨[a,b],[]⟩:=by delta m4;rw[kX (n:=['_','_','r','o','_','_']) (rfl) kT];kernel_rfl
theorem args_eq(a b:Value):m4 "frozenset.__eq__" ⟨[a,b],[]⟩:=by delta m4;rw[kX (n:=['_','_','q','e','_','_']) (rfl) kT];kernel_rfl
theorem UO(a b:Value):m4 "frozenset.__ne__" ⟨[a,b],[]⟩:=by delta m4;rw[kX (n:=['_','_','e','n','_','_']) (rfl) kT];kernel_rfl
theorem PD:fillsNumberSlot (.type "frozenset") "sub"=pure true:=by
 have h:mZ (.type "frozenset") (dunderR "sub")=pure (some<|.builtin "frozenset.__rsub__"):=by rw[dy,b9];kernel_rfl
 exact fillsNumberSlot_of ym.lookup (by decide+kernel) h
theorem Ud:fillsNumberSlot (.type "frozenset") "or"=pure true:=by
 have h:mZ (.type "frozenset") (dunderR "or")=pure (some<|.builtin "frozenset.__ror__"):=by rw[dy,b9];kernel_rfl
 exact fillsNumberSlot_of BG.lookup (by decide+kernel) h
end FF
theorem wq:j∈mN i xs↔j=i\/j∈xs:=by
 induction xs with
 |nil=>simp[mN]
 |cons x xs ih=>
  unfold mN;split
  ·simp
  ·split
   ·rename_i h;subst h;simp
   ·simp only[aV,ih];constructor
    ·rintro(h|h|h)
     ·exact .inr<|.inl h
     ·exact .inl h
     ·exact .inr<|.inr h
    ·rintro(h|h|h)
     ·exact .inr<|.inl h
     ·exact .inl h
     ·exact .inr<|.inr h
theorem yi{xs:List Int}:xs.Pairwise (·<·)->(mN i xs).Pairwise (·<·):=by
 induction xs with
 |nil=>intro _;simp[mN]
 |cons x xs ih=>
  intro h;rw[fg] at h;unfold mN;split
  ·rename_i hi
   rw[fg,fg];refine⟨λy hy=>?_,h⟩;rcases aV.mp hy with rfl|hy
   ·exact hi
   ·have:=h.1 y hy;exact Fw hi this
  ·split
   ·rw[fg];exact h
   ·rename_i h1 h2
    rw[fg];refine⟨λy hy=>?_,ih h.2⟩;rcases wq.mp hy with rfl|hy
    ·omega
    ·exact h.1 y hy
theorem j0:j∈gx xs↔j∈xs:=by
 induction xs with
 |nil=>simp[gx]
 |cons x xs ih=>show j∈mN x (gx xs)↔_;rw[wq,ih,aV]
theorem lC(xs:List Int):(gx xs).Pairwise (·<·):=by
 induction xs with
 |nil=>exact mB
 |cons x xs ih=>exact yi<|ih
theorem kM{xs:List Int}(h:xs.Pairwise (·<·)):xs.Nodup:=h.imp λh=>Int.ne_of_lt h
theorem mS:uE xs=true↔(∀i∈xs,0<=i/\i<32)/\xs.length<=12:=by delta uE;simp[ba]
theorem F7{xs ys:List Int}(hx:xs.Pairwise (·<·))(hy:ys.Pairwise (·<·))(h:∀i,i∈xs↔i∈ys):xs=ys:=
 ((Ao (kM hx)<|kM hy).mpr h).eq_of_pairwise (λa b z z h1 h2=>aex h1 h2) hx hy
section
variable{Z:dM}{st:List SO}{g fx:FH}{ρ:eE}{s:Shared}{A:bD}{E:Value->Shared->Prop}
theorem EM.size(S:EM w es t xs):es.size=xs.length:=S.g.size (kM S.sorted) λz=>QK
theorem EM.XM(S:EM w es t xs):es.size<=12:=by rw[S.size];exact(mS.mp S.small).2
theorem abR{xs:List Int}(F:FS Z.w h' a p)(hg:∀o,h'.get? a=some o->g' a=some o)(hs:xs.Pairwise (·<·))(hx:∀i,p i↔i∈xs)(ho:uE xs=true):RV Z g' ρ (.dx xs) (.ref a):=by refine uk F λes ep t e G=>⟨a,es,ep,t,rfl,hg _ e,G.congr hx,hs,ho⟩
theorem bE.Iv(S:b7 Z st g fx ρ s){xs:List Int}(hs:xs.Pairwise (·<·))(hx:∀i,p i↔i∈xs)(ho:uE xs=true)
  (h:∀(E:Value->Shared->Prop)(Q:Value->Shared->Prop),(∀h' tk,(∀b o,s.heap.get? b=some o->h'.get? b=some o)->FS Z.w h' s.heap.objs.size p->Q (.ref s.heap.objs.size) {s with heap:=h',toks:=tk})->av (Mo Z) A t Q E s):bE Z A t st (.dx xs) g fx ρ s:=
 .AI S λE Q hq=>h E Q λh' tk hk F=>hq h' tk _ hk<|abR F (λo e=>gz S (bL _) e rfl (S.fresh<|bL _).2.2) hs hx ho
theorem Yi(S:b7 Z st g fx ρ s){a b:List Int}(hc:(decide (a.length/4<=b.length)||b.isEmpty)=true)(ra:RV Z g ρ (.dx a) x)(rb:RV Z g ρ (.dx b) y):bE Z A (pj .Sub x y) st (.dx<|a.filter λi=>!b.contains i) g fx ρ s:=by refine RJ ra λl es n t zz4 ho Sa=>?_;subst zz4;refine RJ rb λm eo no to zz4 hb Sb=>?_;subst zz4;have ho:=S.keep _ _ ho;have hb:=S.keep _ _ hb;refine bE.Iv (p:=λi=>i∈a/\¬i∈b) S (Sa.sorted.filter _) (λi=>by simp[mR]) (mS.mpr ⟨λi hi=>(mS.mp Sa.small).1 i (mR.mp hi).1,ah (rH _ _) (mS.mp Sa.small).2⟩) λE Q h=>Vk ⟨_,ho,rfl⟩ ⟨_,hb,rfl⟩ FF.PD FF.ym<|bz FF.ym ⟨_,ho,rfl⟩ FF.entry_sub ?_<|FF.Qr _ _;refine Xd ho Sa.g Sa.XM hb Sb.g ?_ λh' hk F=>⟨_,rfl,(λz=>nomatch z),h h' _ hk F⟩;rw[Sa.size,Sb.size];exact((jd _ _).mp hc).imp fX λh=>C6.mpr<|bt.mp h
theorem YY(S:b7 Z st g fx ρ s)(hc:uE (gx<|a++b)=true)(ra:RV Z g ρ (.dx a) x)(rb:RV Z g ρ (.dx b) y):bE Z A (pj .BitOr x y) st (.dx<|gx<|a++b) g fx ρ s:=by refine RJ ra λl es n t zz4 ho Sa=>?_;subst zz4;refine RJ rb λm eo no to zz4 hb Sb=>?_;subst zz4;have ho:=S.keep _ _ ho;have hb:=S.keep _ _ hb;refine bE.Iv S (lC _) (λi=>by rw[j0,ct]) hc λE Q h=>Vk ⟨_,ho,rfl⟩ ⟨_,hb,rfl⟩ FF.Ud FF.BG<|bz FF.BG ⟨_,ho,rfl⟩ FF.PJ ?_<|FF.UM _ _;exact abb ho Sa.g Sa.XM hb Sb.g Sb.XM λh' hk F=>⟨_,rfl,(λz=>nomatch z),h h' _ hk F⟩
theorem UJ(S:b7 Z st g fx ρ s)(he:m7 op a b=some v)(ra:RV Z g ρ a x)(rb:RV Z g ρ b y):bE Z A (pj (N8 op) x y) st v g fx ρ s:=by
 cases hf:wX a with
 |false=>exact Ln S he ra rb hf
 |true=>
  have no:∀{i:Int},a=.int i->bE Z A (pj (N8 op) x y) st v g fx ρ s:=λh=>absurd (h▸hf) ae;cases op with
  |sub=>
   have he:Z5 (λx y=>gd (decide (x.length/4<=y.length)||y.isEmpty)<|x.filter λi=>!y.contains i) a b=some v:=by
    have:m7 .sub a b=match wX a with|true=>Z5 (λx y=>gd (decide (x.length/4<=y.length)||y.isEmpty)<|x.filter λi=>!y.contains i) a b|false=>LN (λi j=>some<|i-j) a b:=rfl
    rw[this,hf] at he;exact he
   exact Xg he λi j c h1 h2 hc hv=>j8 hc λhb hc=>by subst h1 h2 hv hc;exact Yi S hb ra rb
  |bor=>exact Xg he λi j c h1 h2 hc hv=>j8 hc λhb hc=>by subst h1 h2 hv hc;exact YY S hb ra rb
  |mul=>exact aw he λi hi z=>iD hi no
  |add=>exact GW he λi j c h1 z z z=>no h1
  |fdiv=>exact GW he λi j c h1 z z z=>no h1
  |mod=>exact GW he λi j c h1 z z z=>no h1
  |pow=>exact GW he λi j c h1 z z z=>no h1
theorem Uk(S:b7 Z st g fx ρ s)(ra:RV Z g ρ (.dx a) x)(rb:RV Z g ρ (.dx b) y)(hu:A.units<cLine):
  bE Z A (eH .Eq x y) st (.bool<|a==b) g fx ρ s/\bE Z A (eH .NotEq x y) st (.bool<|!(a==b)) g fx ρ s:=by
 refine RJ ra λl es n t zz4 ho Sa=>?_
 subst zz4
 refine RJ rb λm eo no to zz4 hb Sb=>?_
 subst zz4
 have ho:=S.keep _ _ ho
 have hb:=S.keep _ _ hb
 have key:∀r:Bool,(r=true↔∀i,i∈a↔i∈b)->r=(a==b):=λr hr=>by
  cases r with
  |true=>rw[F7 Sa.sorted Sb.sorted<|hr.mp rfl];simp
  |false=>symm;rw[beq_eq_false_iff_ne];rintro rfl;have:=hr.mpr λi=>QK;exact ae this
 refine⟨.ofBool S λE Q h=>?_,.ofBool S λE Q h=>?_⟩
 ·show av _ _ (richCompare .Eq (.ref l)<|.ref m) Q E s;refine ES ⟨_,ho,rfl⟩ ⟨_,hb,rfl⟩ FF.Ih (bz FF.Ih ⟨_,ho,rfl⟩ FF.entry_eq ?_<|FF.args_eq _ _) hu;exact acy ho Sa.g hb Sb.g λr hr=>⟨_,rfl,(λz=>nomatch z),by rw[<-key r hr] at h;exact h _⟩
 ·show av _ _ (richCompare .NotEq (.ref l)<|.ref m) Q E s;refine ES ⟨_,ho,rfl⟩ ⟨_,hb,rfl⟩ FF.Ig (bz FF.Ig ⟨_,ho,rfl⟩ FF.PK ?_<|FF.UO _ _) hu;exact abi ho Sa.g hb Sb.g λr hr=>⟨_,rfl,(λz=>nomatch z),by rw[<-key r hr] at h;exact h _⟩
theorem TH(S:b7 Z st g fx ρ s)(ra:RV Z g ρ (.int i) x)(rb:RV Z g ρ (.dx b) y):
  bE Z A (eH .In x y) st (.bool<|b.contains i) g fx ρ s/\bE Z A (eH .NotIn x y) st (.bool<|!b.contains i) g fx ρ s:=by
 obtain⟨tk,rfl⟩:=ra
 refine RJ rb λm eo no to zz4 hb Sb=>?_
 subst zz4
 have hb:=S.keep _ _ hb
 have hT:s.TypeIs (.ref m) "frozenset":=⟨_,hb,rfl⟩
 have main:∀(E:Value->Shared->Prop) Q,(∀t,Q (b.contains i) {s with toks:=t})->av (Mo Z) A (contains (.ref m)<|.int i tk) Q E s:=by
  intro E Q h;delta contains;try with_reducible refine aR ?_
  refine aX<|iE hT oz.lookup ?_;refine u7 (by rw[Bd];exact bh)<|aX<|zA hT oz
   (bz oz hT FB.entry_frozenset_contains ?_<|FB.args_frozenset_contains_2 _ _)
  delta eY.«frozenset.__contains__» Rr;simp only[List.isEmpty_nil,bind_assoc];refine aX<|ab ?_;refine aX<|ab ?_;refine aX<|wpAny_tryCatch ?_;refine aR<|aX<|(fW Z.prog Z.w).pyHash (m3 _ _ _ _) ?_;refine aX<|Cp ⟨_,_,_,hb,Sb.g⟩ λr hr=>?_;refine ab ?_;have:r.isSome=b.contains i:=by
   cases hc:b.contains i with
   |true=>exact hr.mpr (by simpa using hc)
   |false=>
    cases hq:r.isSome with
    |false=>rfl
    |true=>have:=hr.mp hq;simp at hc;exact absurd this hc
  rw[this];exact ab ⟨_,rfl,fU<|h _⟩
 refine⟨λE Q h=>?_,λE Q h=>?_⟩
 ·show av _ _ (do return .bool (<-contains (.ref m)<|.int i tk)) Q E s;exact aX<|main _ _ λt=>ab<|h g ρ _ _ (.refl _ _) (S.tok t) rfl
 ·show av _ _ (do return .bool (!(<-contains (.ref m)<|.int i tk))) Q E s;exact aX<|main _ _ λt=>ab<|h g ρ _ _ (.refl _ _) (S.tok t) rfl
end
namespace FF
theorem Ol:mroOf (.type "frozenset")=pure [.type "frozenset",.type "object"]:=by rw[mroOf_type];kernel_rfl
theorem Ab:mZ (.type "frozenset") "__new__"=pure (some<|.builtin "frozenset.__new__"):=by rw[dy,b9];kernel_rfl
theorem vB:Mf "frozenset" "__init__" "object.__init__":=
 .of (owner:="object") (n:="__init__") (by rw[dy,b9];kernel_rfl) (by decide+kernel) (by decide+kernel) (by decide+kernel)
  (by first|exact .inl (by decide+kernel)|exact .inr<|by decide+kernel) (by rw[dZ];kernel_rfl)
theorem mW:TypeCalled "frozenset" "frozenset.__new__" "object.__init__":=
 ⟨by decide+kernel,by decide+kernel,⟨_,_,Ol⟩,madeBy_type Ol Ab (by decide+kernel),by decide+kernel,by rw[dZ];kernel_rfl,vB⟩
theorem FT:JA "frozenset" ⟨[],[]⟩=pure ():=by kernel_rfl
theorem Kw:Bb "frozenset.__new__" ⟨[.type "frozenset"],[]⟩=pure ():=by kernel_rfl
theorem FQ(a:Value):JA "frozenset" ⟨[a],[]⟩=pure ():=by kernel_rfl
theorem Kv(a:Value):Bb "frozenset.__new__" ⟨[.type "frozenset",a],[]⟩=pure ():=by kernel_rfl
theorem K6:md zK "frozenset.__new__"=some eY.«frozenset.__new__»:=g7 (by kernel_rfl)
end FF
section
variable{prog:Program}{w:cU}{A:bD}{R:Result->Shared->Prop}{I:Addr}{fp wr:List Addr}{G:Array GenState->Array GenState->Prop}{n:Nat}{P:Nat->Value->Prop}{St:Nat->Shared->Prop}
theorem ID(W:WalksS prog w A.in1 I fp wr G n P St)(S:Addr)(hSf:S∉fp)(val:Nat->Int)(hval:∀i v,P i v->∃t,v=.int (val i) t)(hlow:∀i,i<n->0<=val i/\val i<32):
  ∀(k i:Nat)(s:Shared),n-i=k->i<=n->St i s->w3 c w s.heap S (λj=>∃m,m<i/\val m=j)->
   (∀s',Moved (S::wr) G s s'->w3 c w s'.heap S (λj=>∃m,m<n/\val m=j)->R (.ok<|.ret .none) s')->
   km (model prog w) A (.builtin "set.update.loop" ⟨[.ref S,.ref I],[]⟩) R s:=by
 have hSw:S∉wr:=λh=>hSf<|W.sub _ h
 have hsub:∀b∈wr,b∈S::wr:=λb hb=>az _ hb
 intro k
 induction k with
 |zero=>
  intro i s hk hi hst hS hR;have hin:i=n:=by exact aew hk hi
  subst hin;refine k8 HT ?_;rw[jF qI _];refine aX<|W.done s _ _ hst λs' hm=>?_;exact ab<|hR s' (hm.mono hsub) (by refine uk hS λes ep t ho rest=>?_;exact⟨es,ep,t,hm.heap S _ hSw ho,rest⟩)
 |succ k ih=>
  intro i s hk hi hst hS hR;have hlt:i<n:=by exact Nat.lt_of_sub_eq_succ hk
  refine k8 HT ?_;rw[jF qI _];refine aX<|W.item i s _ _ hlt hst λv s' hP hst' hm=>?_;obtain⟨t,rfl⟩:=hval i v hP;have hS':w3 c w s'.heap S (λj=>∃m,m<i/\val m=j):=by refine uk hS λes ep tb ho rest=>?_;exact QM es ep tb (hm.heap S _ hSw ho) rest
  refine aX<|aR ?_;refine aR ?_;refine aX<|(fW prog w).pyHash (k:=val i) (m3 _ _ _ _) ?_;refine Hx (s:={s' with toks:=s'.toks+1}) hS' (hlow i hlt) λh' b hsb hS2=>?_;have hSi:w3 c w h' S (λj=>∃m,m<i+1/\val m=j):=hS2.congr λj=>by
   constructor
   ·rintro(⟨m,h1,h2⟩|rfl)
    ·exact⟨m,by exact ZI h1,h2⟩
    ·exact⟨i,by omega,rfl⟩
   ·rintro⟨m,h1,h2⟩;by_cases hmi:m=i
    ·exact .inr (by rw[<-h2,hmi])
    ·exact .inl ⟨m,by exact ZJ h1 hmi,h2⟩
  refine ab ⟨w8 qI _,ih (i+1) _ (by omega) hlt (W.frame _ s' _ _ hst' (jR _) λb hb o e=>?_) hSi λs'' hm'' hS''=>?_⟩
  ·rw[hsb.2 b (λh:b=S=>hSf (by rw[<-h];exact hb))];exact e
  ·refine hR s'' (Moved.trans W.gtrans ((hm.mono hsub).then_heap (jR _) λb o hb e=>?_) hm'') hS'';rw[hsb.2 b (λh:b=S=>hb (by rw[h];exact ax))];exact e
end
section
variable{prog:Program}{w:cU}{A:bD}{E:Value->Shared->Prop}{s:Shared}
theorem Pg:MeetsIn prog w (eY.«frozenset.__new__» ⟨[.type "frozenset"],[]⟩)
  (λA R s=>∀h',(∀b o,s.heap.get? b=some o->h'.get? b=some o)->FS w h' s.heap.objs.size (λz=>False)->R (.ok<|.ret<|.ref s.heap.objs.size) {s with heap:=h'}):=
 .of_wp λA R s h=>by
  have hsub:=FF.mW.sub;have hinit:=FF.vB.lookup;delta eY.«frozenset.__new__» Rt;obtain⟨hp,g,d,tk,os⟩:=s;dsimp only
  wp_walk
  refine i6<|ab ?_;dsimp only;simp only[newObj];refine aX<|nJ<|ab<|ab ⟨_,rfl,h _ cx ⟨_,_,_,ez,SG.empty ?_⟩⟩;show _\/(!w.params.followText "set-order")=true;cases w.params.followText "set-order"<;>simp
theorem Pf:MeetsIn prog w (eY.«frozenset.__new__» ⟨[.type "frozenset",.ref l],[]⟩)
  (λA R s=>A.handled=none/\s.heap.IsList l items/\ml items.toList ns/\(∀i∈ns,0<=i/\i<32)/\∀h' tk,(∀b o,s.heap.get? b=some o->h'.get? b=some o)->FS w h' s.heap.objs.size (λj=>j∈ns)->R (.ok<|.ret<|.ref s.heap.objs.size) {s with heap:=h',toks:=tk}):=
 .of_wp λA R s h=>by
  refine x05 h λhh hl hi hlow h=>?_;have hsub:=FF.mW.sub;have hinit:=FF.vB.lookup;have hsls:=F.sub_list_set;have hslf:=Mr;have hne:(lS "list"==lS "dict")=false:=by decide
  have hne2:(lS "list"==lS "frozenset")=false:=by decide
  have hT:=hl.typeIs;obtain⟨hp,g,d,tk,os⟩:=s;dsimp only at hl hT h
  wp_walk
  refine i6<|ab ?_;simp only[newObj];refine aX<|nJ<|ab ?_;refine aX ?_;refine ab ?_;generalize hled:(!(model prog w).w.params.followText "set-order")=led;have hled:(!w.params.followText "set-order")=led:=hled;have hS:(hp.push {cls:=.type "frozenset",data:=.set #[] 0 (.fresh 0 0 led)}).get? hp.objs.size=some (yV #[] 0 (.fresh 0 0 led)):=ez;have hlS:l<hp.objs.size:=by obtain⟨o,ho,_⟩:=hl;exact cg ho
  have hl1:(hp.push {cls:=.type "frozenset",data:=.set #[] 0 (.fresh 0 0 led)}).IsList l items:=hl.push _;have hFS:FS w (hp.push {cls:=.type "frozenset",data:=.set #[] 0 (.fresh 0 0 led)}) hp.objs.size (λy=>False):=⟨_,_,_,hS,SG.empty (by rw[<-hled];cases w.params.followText "set-order"<;>simp)⟩;refine aX<|aR ?_;refine aX ?_;refine aX<|dh (s:={heap:=hp.push {cls:=.type "frozenset",data:=.set #[] 0 (.fresh 0 0 led)},gens:=g,drawn:=d,toks:=tk,os:=os}) hl1.typeIs hsls ?_;refine dh (s:={heap:=hp.push {cls:=.type "frozenset",data:=.set #[] 0 (.fresh 0 0 led)},gens:=g,drawn:=d,toks:=tk,os:=os}) hl1.typeIs hslf ?_;refine vp ?_;refine aJ<|l9 (s:={heap:=hp.push {cls:=.type "frozenset",data:=.set #[] 0 (.fresh 0 0 led)},gens:=g,drawn:=d,toks:=tk,os:=os}) hl1.typeIs ?_;rw[hne];refine vp ?_;refine aX<|zJ hl1 ?_;refine aX<|wpAny_runValue ?_;have hh3:A.in1.in1.handled=none:=by simp[hh]
  have hneI:l≠(hp.push {cls:=.type "frozenset",data:=.set #[] 0 (.fresh 0 0 led)}).objs.size:=by rw[gR];exact bZ<|eP hlS
  have hSf:hp.objs.size∉[(hp.push {cls:=.type "frozenset",data:=.set #[] 0 (.fresh 0 0 led)}).objs.size,l]:=by rw[gR];simp only[aV,aE,aK,or_false,not_or];exact⟨bZ<|cJ _,cN hlS⟩
  have hval:∀(i:Nat)(v:Value),items[i]? =some v->∃t,v=.int ((λi=>ns.getD i 0) i) t:=λi v hv=>
   qm hi i v (by rw[bw];exact hv)
  have hlen:=qG hi;rw[aM] at hlen;have hget:∀i,i<items.size->ns.getD i 0∈ns:=λi h=>by rw[jM,ay<|by exact aeP hlen h];exact l5 _
  refine ID (c:="frozenset") ((JC hh3 _ l hneI items).toS) hp.objs.size hSf (λi=>ns.getD i 0) hval (λi h=>hlow _<|hget i h) (items.size-0) 0 _ (by exact adf) (eO _)
   ⟨⟨_,bB _ rfl,rfl,rfl⟩,hl1.push _⟩ ?_ ?_
  ·refine uk hFS λes ep t ho G=>?_;exact QM es ep t (ar _ ho)<|G.congr λj=>⟨λf=>f.elim,λz=>z.elim λy z=>absurd z.1<|gF _⟩
  ·intro s' hm hS';obtain⟨h',g',d',tk',os'⟩:=s';have eg:g'=g:=hm.gens;have ed:d'=d:=hm.drawn;have eo:os'=os:=hm.os;subst eg;subst ed;subst eo;refine ab<|ab<|ab ⟨_,rfl,h h' tk' (λb o e=>?_)<|hS'.congr λj=>?_⟩
   ·have hb:=cg e;have hb1:b≠hp.objs.size:=bZ hb;have hb2:b≠(hp.push {cls:=.type "frozenset",data:=.set #[] 0 (.fresh 0 0 led)}).objs.size:=by rw[gR];exact bZ<|eP hb
    exact hm.heap b o (by simp only[aV,aE,aK,or_false,not_or];exact⟨hb1,hb2⟩)<|ar _<|ar _ e
   ·constructor
    ·rintro⟨m,h1,rfl⟩;exact hget m h1
    ·intro hj;obtain⟨m,hm⟩:=rG.mp hj;have:=(af.mp hm).1;exact⟨m,by exact ade hlen this,by rw[jM,hm];rfl⟩
end
section
variable{prog:Program}{w:cU}{A:bD}{E:Value->Shared->Prop}{s:Shared}
theorem vS(a:Value)
  (h:Q₁ (.ref s.heap.objs.size) {s with heap:=s.heap.push {cls:=.type "set",dict:=none,data:=.set #[] 0 (.fresh 0 0<|!w.params.followText "set-order")}}):
  km (model prog w) A (.call (.builtin "set.__new__") ⟨[.type "set",a],[]⟩) (wants Q₁ E) s:=by
 refine C5 ?_
 refine aX<|nH (F.newCall_set_1 a)<|ab ⟨w8 F.plain_set_new _,k8 F.entry_set_new ?_⟩
 rw[jF F.plain_set_new _]
 have hsub:=sub_set_self
 obtain⟨hp,g,d,tk,os⟩:=s
 wp_walk
 refine i6<|ab ?_
 simp only[newObj]
 refine aX<|nJ<|ab ?_
 exact ab h
noncomputable abbrev NB(led:Bool):Obj:={cls:=.type "set",dict:=none,data:=.set #[] 0 (.fresh 0 0 led)}
theorem GK{items:Array Value}(hi:oX items.toList ns):(∀(i:Nat)(v:Value),items[i]? =some v->∃t,v=.int (ns.getD i 0) t)/\(∀i,i<items.size->ns.getD i 0∈ns)/\∀j,(∃m,m<items.size/\ns.getD m 0=j)↔j∈ns:=by
 have hlen:=qG hi;rw[aM] at hlen;have hget:∀i,i<items.size->ns.getD i 0∈ns:=λi h=>by rw[jM,ay<|by exact aeP hlen h];exact l5 _
 refine⟨λi v hv=>qm hi i v (by rw[bw];exact hv),hget,λj=>⟨λz=>z.elim λm z=>z.2▸hget m z.1,λhj=>?_⟩⟩;obtain⟨m,hm⟩:=rG.mp hj;exact⟨m,by have:=(af.mp hm).1;exact ade hlen this,by rw[jM,hm];rfl⟩
set_option maxHeartbeats 3200000 in
theorem Dy{S l:Addr}{items:Array Value}{ns:List Int}{led:Bool}{R:CS->Shared->Prop}
  (hh:A.handled=none) (hS:s.heap.get? S=some (NB led)) (hG:SG w #[] (.fresh 0 0 led) λy=>False) (hl:s.heap.IsList l items) (hi:oX items.toList ns) (hlow:∀i∈ns,0<=i/\i<32) (hne:l≠S)
  (h:∀(h':Heap)(tk:Nat),w3 "set" w h' S (λj=>j∈ns)->(∀b o,b≠S->s.heap.get? b=some o->h'.get? b=some o)->R (.done<|.ret .none) {s with heap:=h',toks:=tk}):
  av (model prog w) A (eY.«set.__init__» ⟨[.ref S,.ref l],[]⟩) R E s:=by
 refine qe (GK hi) λhval hget hall=>?_
 have hl1:=hl
 obtain⟨ol,hol,hcl,nl,hdl⟩:=hl
 obtain⟨ocls,odict,odata,oslots⟩:=ol
 simp only at hcl hdl
 subst hcl;subst hdl
 have hT:s.TypeIs (.ref S) "set":=⟨_,hS,rfl⟩
 have hsls:=F.sub_list_set
 have hslf:=Mr
 have hnd:(lS "list"==lS "dict")=false:=by decide
 have hsub:=sub_set_self
 have hlS:l<s.heap.objs.size:=cg hol
 have hSS:S<s.heap.objs.size:=cg hS
 have hSf:S∉[s.heap.objs.size,l]:=λhm=>(BZ hm).elim (bZ hSS)<|gp hne
 unfold eY.«set.__init__» noKeywords Rp
 generalize hPI:lq=PI
 wp_walk
 subst hPI
 refine zJ hl1 ?_
 refine aX<|wpAny_runValue ?_
 refine ID (c:="set") ((JC (by simp[hh]) _ l (bZ hlS) items).toS) S hSf (λi=>ns.getD i 0) hval (λi h=>hlow _<|hget i h) (items.size-0) 0 _ (by exact adf) (eO _)
  ⟨⟨_,bB _ rfl,rfl,rfl⟩,hl1.push _⟩ ⟨_,_,_,ar _ hS,hG.congr λj=>⟨λf=>f.elim,λz=>z.elim λy z=>absurd z.1<|gF _⟩⟩ λs' hm hS'=>?_
 obtain⟨h',g',d',tk',os'⟩:=s'
 have eg:g'=s.gens:=hm.gens
 have ed:d'=s.drawn:=hm.drawn
 have eo:os'=s.os:=hm.os
 subst eg;subst ed;subst eo
 refine ab ?_
 exact ab<|h h' tk' (hS'.congr hall) λb o hb e=>hm.heap b o (λhm=>(aV.mp hm).elim hb λhm=>bZ (cg e)<|aE.mp hm)<|ar _ e
set_option maxHeartbeats 3200000 in
theorem ED{l:Addr}{items:Array Value}{ns:List Int}{Q:Value->Shared->Prop}
  (hh:A.handled=none) (hl:s.heap.IsList l items) (hi:oX items.toList ns) (hlow:∀i∈ns,0<=i/\i<32)
  (h:∀(h':Heap)(tk:Nat),w3 "set" w h' s.heap.objs.size (λj=>j∈ns)->
   (∀b o,s.heap.get? b=some o->h'.get? b=some o)->Q (.ref s.heap.objs.size) {s with heap:=h',toks:=tk}):
  av (model prog w) A (call (.type "set") [.ref l]) Q E s:=by
 refine zC ka.mro λc tl hmro=>?_
 have hmade:=ka.made
 have hsub:=ka.sub
 have h1:=ka.notType
 have h2:=ka.canCreate
 have hct:=F.typeCall_set_1<|.ref l
 refine sZ<|C5 ?_
 refine ab ⟨Code.quiet_builtin _ (by decide+kernel),k8 F.entry_type_call ?_⟩
 rw[bD.under_plain (weight_type_call_type "set" [.ref l] []) rfl]
 repeat (any_goals (first|assumption|wp_step))
 refine codeAny_mono (vS (.ref l) (E:=E) (Q₁:=λobj aC=>obj=.ref s.heap.objs.size/\aC={s with heap:=s.heap.push<|NB<|!w.params.followText "set-order"}) ⟨rfl,rfl⟩) λr aC hr=>?_
 cases r with
 |error e=>exact hr
 |ok fl=>
  cases fl with
  |ret obj=>
   obtain⟨rfl,rfl⟩:=hr;have hS:(s.heap.push<|NB<|!w.params.followText "set-order").get? s.heap.objs.size=some (NB<|!w.params.followText "set-order"):=bB _ rfl;have hT:Shared.TypeIs {s with heap:=s.heap.push<|NB<|!w.params.followText "set-order"} (.ref s.heap.objs.size) "set":=⟨_,hS,rfl⟩;have hli:=ka.init.lookup;have hbi:=ka.init.bind<|.ref s.heap.objs.size;repeat (any_goals (first|assumption|wp_step))
   refine codeAny_mono (Q9 (R:=wants (λr dJ=>r=.none/\∃h' tk,dJ={s with heap:=h',toks:=tk}/\w3 "set" w h' s.heap.objs.size (λj=>j∈ns)/\
     (∀b o,s.heap.get? b=some o->h'.get? b=some o)) E) ka.init.plain F.entry_set_init<|check_set_init_1 hT ?_) λiM dJ LZ=>?_
   ·refine Dy (by simp[hh]) hS (SG.empty<|by cases w.params.followText "set-order"<;>simp) (hl.push _) hi hlow ?_ λh' tk hF hk=>⟨rfl,h',tk,rfl,hF,λb o e=>hk b o (bZ<|cg e)<|ar _ e⟩;refine dS hl λol hol z=>?_;exact bZ<|cg hol
   ·cases iM with
    |error e=>exact LZ
    |ok aaw=>
     cases aaw with
     |ret r=>
      obtain⟨rfl,h',tk,rfl,hS',hk'⟩:=LZ;repeat (any_goals (first|assumption|wp_step))
      exact h _ _ hS' hk'
     |_=>exact LZ.elim
  |_=>exact hr.elim
namespace FF
theorem uv:Mf "frozenset" "__iter__" "frozenset.__iter__":=
 .of (owner:="frozenset") (n:="__iter__") (by rw[dy,b9];kernel_rfl) (by decide+kernel) (by decide+kernel) (by decide+kernel)
  (by first|exact .inl (by decide+kernel)|exact .inr<|by decide+kernel) (by rw[dZ];kernel_rfl)
theorem Af:md zK "frozenset.__iter__"=some eY.«frozenset.__iter__»:=g7 (by kernel_rfl)
theorem za:md zK "set.__iter__"=some eY.«frozenset.__iter__»:=
 Fc (id':="frozenset.__iter__") (by kernel_rfl) rfl (by decide+kernel) (by kernel_rfl)
theorem CI(a:Value):m4 "frozenset.__iter__" ⟨[a],[]⟩:=by unfold m4;rw[kX (id:="frozenset.__iter__") (n:=['_','_','r','e','t','i','_','_']) (o:=['t','e','s','n','e','z','o','r','f']) (by kernel_rfl) kT];kernel_rfl
theorem jK:Mf "set_iterator" "__next__" "set_iterator.__next__":=
 .of (owner:="set_iterator") (n:="__next__") (by rw[dy,b9];kernel_rfl) (by decide+kernel) (by decide+kernel) (by decide+kernel)
  (by first|exact .inl (by decide+kernel)|exact .inr<|by decide+kernel) (by rw[dZ];kernel_rfl)
theorem sS:md zK "set_iterator.__next__"=some eY.«set_iterator.__next__»:=g7 (by kernel_rfl)
end FF
end
namespace FF
theorem DM:Manifest.owners.lookup (String.ofList ['r','o','t','a','r','e','t','i','_','t','e','s'].reverse)=some Manifest.sig_set_iterator:=by kernel_rfl
theorem u0(a:Value):m4 "set_iterator.__next__" ⟨[a],[]⟩:=by unfold m4;rw[kX (id:="set_iterator.__next__") (n:=['_','_','t','x','e','n','_','_']) (o:=['r','o','t','a','r','e','t','i','_','t','e','s']) (by kernel_rfl) DM];kernel_rfl
theorem uu:Mf "set_iterator" "__iter__" "set_iterator.__iter__":=
 .of (owner:="set_iterator") (n:="__iter__") (by rw[dy,b9];kernel_rfl) (by decide+kernel) (by decide+kernel) (by decide+kernel)
  (by first|exact .inl (by decide+kernel)|exact .inr<|by decide+kernel) (by rw[dZ];kernel_rfl)
theorem CH(a:Value):m4 "set_iterator.__iter__" ⟨[a],[]⟩:=by unfold m4;rw[kX (id:="set_iterator.__iter__") (n:=['_','_','r','e','t','i','_','_']) (o:=['r','o','t','a','r','e','t','i','_','t','e','s']) (by kernel_rfl) DM];kernel_rfl
theorem Ae:md zK "set_iterator.__iter__"=some eY.«dict_keyiterator.__iter__»:=
 Fc (id':="dict_keyiterator.__iter__") (by kernel_rfl) rfl (by decide+kernel) (by kernel_rfl)
end FF
section
variable{c:String}{prog:Program}{w:cU}{A:bD}{E:Value->Shared->Prop}{s:Shared}
def Lx(h:Heap)(it a:Addr)(slot i n ep:Nat):Prop:=∃o,h.get? it=some o/\o.cls=.type "set_iterator"/\o.data=.fields #[.int slot 0,.int i 0,.ref a,.int n 0,.int ep 0]
theorem Lx.typeIs(x:Lx s.heap it a slot i n ep):s.TypeIs (.ref it) "set_iterator":=x.imp λz h=>⟨h.1,h.2.1⟩
theorem Lx.at{h h':Heap}(x:Lx h it a slot i n ep)(e:∀o,h.get? it=some o->h'.get? it=some o):Lx h' it a slot i n ep:=x.imp λz=>cP<|e _
theorem Zp(xs:Array Nat)(h:xs.size<=1):w9 xs 0=0:=by obtain⟨l⟩:=xs;rcases KL h with rfl|⟨j,rfl⟩<;>rfl
theorem Zo(xs:Array Nat)(h:xs.size=1):w9 xs (xs.getD 0 0+1)=1:=by obtain⟨l⟩:=xs;obtain⟨j,rfl⟩:=OD h;exact(show w9 ⟨[j]⟩ (j+1)=(if j<j+1 then 1 else 0) by kernel_rfl).trans<|if_pos<|cJ j
theorem Gx{l es:Array (Int×Value)}(hp:di l.toList es.toList)(h:es.size<=1):l=es:=by
 have hl:l.toList=es.toList:=by
  rw[<-aM] at h;revert hp h;generalize es.toList=ys;intro hp h;rcases KL h with rfl|⟨y,rfl⟩
  ·exact List.perm_nil.mp hp
  ·exact List.perm_singleton.mp hp
 exact Array.toList_inj.mp hl
theorem yq(ho:s.heap.get? a=some (zF c es ep t))(G:SG w es t p)(h1:es.size<=1)
  (hi:i<=1) (hs:w.params.followText "set-order"=true\/(i=0->slot=0)/\(i=1->slot=t.place.getD 0 0+1))
  (h:∀next:Nat,(w.params.followText "set-order"=true\/(i=0->next=t.place.getD 0 0+1))->Q ((es[i]?).map λe=>(e.2,next)) s):av (model prog w) A (setNext a slot i ep) Q E s:=by
 have hpl:t.place.size=es.size:=by have:=G.fits;simp -iota only[nT,dU,beq_iff_eq] at this;exact this.1
 refine aX<|bH ho rfl G.fits ?_
 refine aX<|rK ?_
 cases hb:w.params.followText "set-order" with
 |true=>simp -iota only[if_true,bne_self_eq_false,dI,if_false];refine aX (xX ho G (by rw[hb];rfl) λl hl=>ab ?_);rw[Gx hl h1];exact h slot<|.inl hb
 |false=>
  rw[hb] at hs;simp -iota only[dI,false_or] at hs;refine vp ?_;have hd:(!t.plain&&decide (es.size>1))=false:=by simp;exact λa=>h1
  show av _ _ (if(!t.plain&&decide (es.size>1))=true then _ else _) Q E s;rw[hd];refine vp ?_;have hled:t.led=true:=by
   rcases G.led with z|z
   ·rw[hb] at z;exact ae z
   ·exact z
  refine aX ?_;show av _ _ (if(!t.led&&!es.isEmpty)=true then _ else _) _ E s;rw[hled];simp -iota only[Bool.not_true,VB,dI,if_false];refine ab<|ab ?_;by_cases hz:es.size=0
  ·have e1:∀k:Nat,es[k]? =none:=λk=>iW (by exact aeu hpl hz);rw[e1];have:=h 0;rw[e1] at this;by_cases i0:i=0
   ·have:=h (t.place.getD 0 0+1)<|.inr λy=>rfl;rw[e1] at this;exact this
   ·have:=h 0<|.inr λz=>absurd z i0;rw[e1] at this;exact this
  ·have hz1:es.size=1:=by exact aet h1 hpl hz
   by_cases i0:i=0
   ·subst i0;rw[hs.1 rfl,Zp _<|by exact aes hpl hz1];have e1:es[0]? =some es[0]:=g8 (by exact eD<|id<|cG hz1);have e2:t.place[0]? =some t.place[0]:=g8 (by exact aer hpl hz1);have:=h (t.place.getD 0 0+1)<|.inr λy=>rfl;rw[e1] at this ⊢;rw[m5,e2] at this;rw[e2];exact this
   ·have i1:i=1:=by exact aeq hi i0
    subst i1;rw[hs.2 rfl,Zo _<|by exact cG hpl▸cG hz1▸de 1];have e1:es[1]? =none:=iW (by omega);have:=h 0<|.inr λz=>absurd z i0;rw[e1] at this ⊢;exact this
theorem AD(hc:c="frozenset"\/c="set")(ho:s.heap.get? a=some (zF c es ep t))(G:SG w es t p)(h1:es.size<=1)
  (h:Q (.ref s.heap.objs.size) {s with heap:=s.heap.push {cls:=.type "set_iterator",data:=.fields #[.int 0 0,.int 0 0,.ref a,.int es.size 0,.int ep 0]}}):av (model prog w) A (lq<|.ref a) Q E s:=by
 have hT:s.TypeIs (.ref a) c:=⟨_,ho,rfl⟩
 have body:∀{A':bD},av (model prog w) A' (eY.«frozenset.__iter__» ⟨[.ref a],[]⟩) (λfin s'=>∃v,fin=.done (.ret v)/\∃T r,s'.TypeIs v T/\mZ (.type T) "__next__"=pure (some r)/\Q v s') E s:=by
  intro A';refine aX ?_;refine aX<|ab ?_;refine ab ?_;refine aX<|aX<|gQ ho G<|ab ?_;refine aX<|aX<|bH ho rfl G.fits<|aX<|rK<|ab ?_;have hd:(!w.params.followText "set-order"&&(!t.plain&&decide (es.size>1)))=false:=by simp;exact λa a_1=>h1
  show av _ _ (if(!w.params.followText "set-order"&&(!t.plain&&decide (es.size>1)))=true then _ else _) _ _ s;rw[hd];refine vp ?_;refine aX<|ab ?_;refine aX<|aX<|bH ho rfl G.fits<|ab ?_;refine aX<|ej<|ab ⟨_,rfl,"set_iterator",_,⟨_,bB _ rfl,rfl⟩,FF.jK.lookup,?_⟩;exact h
 rcases hc with rfl|rfl
 ·exact zI hT FF.uv<|bz FF.uv hT FF.Af body<|FF.CI _
 ·exact zI hT F.slot_set_iter<|bz F.slot_set_iter hT FF.za body<|F.args_set_iter_1 _
theorem Walks.fs(hh:A.handled=none)(hc:c="frozenset"\/c="set")(I a:Addr)(hne:a≠I)(G:SG w es t p)(h1:es.size<=1):
  Walks prog w A I [I,a] [I] es.size (λi v=>(es[i]?).map (·.2)=some v) (λi h=>i<=es.size/\h.get? a=some (zF c es ep t)/\∃slot,Lx h I a slot i es.size ep/\(w.params.followText "set-order"=true\/(i=0->slot=0)/\(i=1->slot=t.place.getD 0 0+1))) where
 sub:=λb hb=>by simp at hb;simp -iota [hb]
 frame:=λy y y st hk=>⟨st.1,hk a (by simp -iota) _ st.2.1,st.2.2.imp λy=>cP λx=>x.at λo e=>hk I (by simp -iota) o e⟩
 item:=λi s Q E hi st hQ=>by
  obtain⟨_,ho,slot,x,hs⟩:=st;refine u6 (id x) λoi hoi hci hdi=>?_;have e1:es[i]? =some es[i]:=g8 hi;refine aX<|w6<|cT (name:=lr "__next__") x.typeIs FF.jK
   (bz FF.jK x.typeIs FF.sS ?_<|FF.u0 _)
  refine aX<|ab ?_;refine aX<|wpAny_fieldsOf hoi hdi ?_;refine aJ<|gQ ho G ?_;refine u7 (by simp -iota) ?_;refine aX ?_;simp -iota only[ly];refine yq ho G h1 (by exact aep h1 hi) hs λnext hnext=>?_
  rw[e1];refine aX (pf hoi hdi (by simp -iota) ?_);have ho1:(s.heap.update I<|kq (·.setIfInBounds 0 (.int next 0))).get? I=some (kq (·.setIfInBounds 0 (.int next 0)) oi):=du _ hoi<|sz<|i7 hdi _;have hd1:(kq (·.setIfInBounds 0 (.int next 0)) oi).data=.fields #[.int next 0,.int i 0,.ref a,.int es.size 0,.int ep 0]:=by rw[i7 hdi];simp
  refine aX (pf (s:={s with heap:=s.heap.update I<|kq (·.setIfInBounds 0 (.int next 0))}) ho1 hd1 (by simp -iota) ?_);refine ab ⟨_,rfl,?_⟩;have hs2:dH I s.heap ((s.heap.update I<|kq (·.setIfInBounds 0 (.int next 0))).update I<|kq (·.setIfInBounds 1 (.int ((i:Int)+1) 0))):=
   (cK ..).trans (cK ..)
  have ho2:=du (kq (·.setIfInBounds 1 (.int ((i:Int)+1) 0))) ho1<|sz<|i7 hd1 _;refine ab<|hQ _ _ s.toks (by rw[e1];rfl) ⟨hi,(hs2.2 a hne).trans ho,next,⟨_,ho2,?_,?_⟩,hnext.imp id λz=>⟨λq=>absurd q<|gc i,λq=>z<|by exact cG<|(λ{a b}=>Nat.succ_inj.mp)<|id<|cG q⟩⟩ λb o hb e=>(hs2.2 b λq=>hb<|by simp -iota [q]).trans e
  ·rw[wI,wI];exact hci
  ·rw[i7 hd1];simp
 done:=λs Q E st hQ=>by
  obtain⟨_,ho,slot,x,hs⟩:=st;refine u6 (id x) λoi hoi hci hdi=>?_;have e1:es[es.size]? =none:=iW<|aG _;refine aX<|w6<|cT (name:=lr "__next__") x.typeIs FF.jK
   (bz FF.jK x.typeIs FF.sS ?_<|FF.u0 _)
  refine aX<|ab ?_;refine aX<|wpAny_fieldsOf hoi hdi ?_;refine aJ<|gQ ho G ?_;refine u7 (by simp -iota) ?_;refine aX ?_;simp -iota only[ly];refine yq ho G h1 (by omega) hs λnext hnext=>?_
  rw[e1];refine aX (pf hoi hdi (by simp -iota) ?_);refine aX ?_;simp -iota only[newExc,newTuple];refine aX (ej ?_<|by size_fits);refine aJ (m:=vf _ _) (nH (a:=nK) (by first|rfl|(simp -iota only[vf];rfl)) ?_);refine ej ?_ (by size_fits);simp -iota only[raiseNew];refine aX<|wpAny_handled ?_;rw[show A.in1.handled=none from hh];refine aX<|ab<|wpAny_throw ?_;refine aX<|dh (T:="StopIteration") (b:=true) ⟨_,bB _ rfl,rfl⟩ isSubtype_stop ?_;exact ab (hQ _ s.toks λb o hb e=>(((cK ..).extBut.push _).push _) b o (λh=>hb<|by simp -iota [h]) e)
 self:=λy y y y st hQ=>by obtain⟨_,ho,slot,x,hs⟩:=st;refine zI x.typeIs FF.uu<|bz FF.uu x.typeIs FF.Ae ?_<|FF.CH _;exact ab ⟨_,rfl,"set_iterator",_,x.typeIs,FF.jK.lookup,hQ⟩
end
namespace FF
theorem Dx:Mf "frozenset" "__len__" "frozenset.__len__":=
 .of (owner:="frozenset") (n:="__len__") (by rw[dy,b9];kernel_rfl) (by decide+kernel) (by decide+kernel) (by decide+kernel)
  (by first|exact .inl (by decide+kernel)|exact .inr<|by decide+kernel) (by rw[dZ];kernel_rfl)
end FF
theorem DU:j∈ji i xs↔j=i\/j∈xs:=by
 induction xs with
 |nil=>simp[ji]
 |cons x xs ih=>
  unfold ji;split
  ·simp
  ·simp only[aV,ih];constructor
   ·rintro(h|h|h)
    ·exact .inr<|.inl h
    ·exact .inl h
    ·exact .inr<|.inr h
   ·rintro(h|h|h)
    ·exact .inr<|.inl h
    ·exact .inl h
    ·exact .inr<|.inr h
theorem BV:di (ji i xs) (i::xs):=by
 induction xs with
 |nil=>exact .rfl
 |cons x xs ih=>
  unfold ji;split
  ·exact .rfl
  ·exact(ih.cons x).trans<|JG _ _ _
theorem GS{xs:List Int}:xs.Pairwise (·<=·)->(ji i xs).Pairwise (·<=·):=by
 induction xs with
 |nil=>intro _;simp[ji]
 |cons x xs ih=>
  intro h;rw[fg] at h;unfold ji;split
  ·rename_i hi
   rw[fg,fg];refine⟨λy hy=>?_,h⟩;rcases aV.mp hy with rfl|hy
   ·exact hi
   ·have:=h.1 y hy;exact cO hi this
  ·rename_i hi
   rw[fg];refine⟨λy hy=>?_,ih h.2⟩;rcases DU.mp hy with rfl|hy
   ·exact Int.le_of_not_le hi
   ·exact h.1 y hy
theorem z7(xs:List Int):di (iX xs) xs:=by
 induction xs with
 |nil=>exact .rfl
 |cons x xs ih=>show di (ji x<|iX xs) _;exact BV.trans<|(ih).cons x
theorem DY(xs:List Int):(iX xs).Pairwise (·<=·):=by
 induction xs with
 |nil=>exact mB
 |cons x xs ih=>exact GS<|ih
theorem Dr(hp:di ys xs)(h:ys.Pairwise (·<=·)):ys=iX xs:=
 (hp.trans (z7 xs).symm).eq_of_pairwise (λa b z z h1 h2=>Int.le_antisymm h1 h2) h (DY xs)
section
variable{Z:dM}{st:List SO}{g fx:FH}{ρ:eE}{s:Shared}{A:bD}{E:Value->Shared->Prop}
theorem vK:∀{is:List Int},jT xs=some is->xs=is.map .int:=by
 induction xs with
 |nil=>intro _ e;exact aa e▸rfl
 |cons x xs ih=>intro is e;exact aw e λi hi e=>dj e λjs hj h=>iD hi λhx=>by subst hx h;rw[ih hj];rfl
theorem GX{g:FH}{ρ:eE}{is:List Int}:∀{vs:List Value},ei Z g ρ (is.map .int) vs->ml vs is:=by
 induction is with
 |nil=>intro _ r;exact(show _=[] from r)▸.nil
 |cons i is ih=>intro _ r;obtain⟨v,vs',rfl,⟨t,rfl⟩,r2⟩:=r;exact .cons i t<|ih r2
theorem yS{g:FH}{ρ:eE}(e:jT xs=some is)(r:ei Z g ρ xs vs):ml vs is:=GX<|vK e▸r
theorem IM{g:FH}{ρ:eE}:∀{is:List Int}{vs:List Value},ml vs is->ei Z g ρ (is.map .int) vs:=λ{is}=>by
 induction is with
 |nil=>intro vs h;cases h;rfl
 |cons i is ih=>intro vs h;cases h with|cons n t r=>exact⟨_,_,rfl,⟨t,rfl⟩,ih r⟩
theorem Ts(h:g' a=some (nO vs n))(hi:ml vs.toList is):RV Z g' ρ (.lst<|is.map .int) (.ref a):=⟨a,vs,n,rfl,h,IM hi⟩
theorem D4(hc:c="frozenset"\/c="set")(hT:s.TypeIs (.ref r) c)(h:Q false s):av (model prog w) A (ue<|.ref r) Q E s:=by
 unfold ue;rcases hc with rfl|rfl
 ·refine aJ<|iE hT FF.Dx.lookup ?_;generalize hid:("frozenset.__len__":String)=id0
  wp_delta
  rw[show splitId id0=some ("frozenset","__len__") from by subst hid;decide+kernel];subst hid;refine aX (dh (b:=true) hT (by rw[dZ];kernel_rfl) ?_);refine tQ (λhab=>absurd hab<|by decide) λz=>?_;refine tQ (λz=>?_) (λhab=>absurd (by decide+kernel) hab);refine aX<|l9 hT ?_;exact ab h
 ·refine aJ<|iE hT F.slot_set_len.lookup ?_;generalize hid:("set.__len__":String)=id0
  wp_delta
  rw[show splitId id0=some ("set","__len__") from by subst hid;decide+kernel];subst hid;refine aX (dh (b:=true) hT (by rw[dZ];kernel_rfl) ?_);refine tQ (λhab=>absurd hab<|by decide) λz=>?_;refine tQ (λz=>?_) (λhab=>absurd (by decide+kernel) hab);refine aX<|l9 hT ?_;exact ab h
theorem XU(hc:c="frozenset"\/c="set")(G:SG w es t p)(h1:es.size<=1):
  KdlSrc prog w c a a es.size (λi v=>(es[i]?).map (·.2)=some v) (λh=>h.get? a=some (zF c es ep t)) where
 type:=λy hm=>⟨_,hm,rfl⟩
 there:=λy hm=>⟨cg hm,cg hm⟩
 keep:=λy y hm hk=>hk a (.inl rfl) _ hm
 notList:=by rcases hc with rfl|rfl<;>decide
 notTuple:=by rcases hc with rfl|rfl<;>decide
 hint:=λy y y y hm hq=>D4 hc ⟨_,hm,rfl⟩ hq
 iter:=λy y hh hm=>⟨_,_,λy y hq=>AD hc hm G h1 hq,Walks.fs hh hc _ a (bZ<|cg hm) G h1,⟨eO _,ar _ hm,0,⟨_,bB _ rfl,rfl,rfl⟩,.inr ⟨λy=>rfl,λz=>(nomatch z)⟩⟩⟩
theorem vw{h:Heap}(hb:b≠a)(e:h.get? b=some o):(E6 h a vs out).get? b=some o:=by unfold E6;rw[qu _ _<|gp hb];exact ar _<|ar _<|(qu _ _<|gp hb).trans e
theorem zW{h:Heap}{vs:List Value}(e:h.get? a=some (seqObj "list" vs.toArray n)):∃n',(E6 h a vs out).get? a=some (nO out n'):=by unfold E6;have h1:=get?_update_seq e λz=>#[];exact⟨_,get?_update_seq (ar _<|ar _ h1) λz=>out⟩
end
noncomputable def over(fx:FH)(wr:List Addr)(h:Heap):FH:=λb=>if b∈wr then h.get? b else fx b
theorem mM{fx:FH}(hb:b∈wr):over fx wr h b=h.get? b:=by simp[over,hb]
theorem eK{fx:FH}(hb:b∉wr):over fx wr h b=fx b:=by simp[over,hb]
section
variable{Z:dM}{st:List SO}{g fx:FH}{ρ:eE}{s:Shared}{A:bD}{E:Value->Shared->Prop}
theorem b7.enter(S:b7 Z st g fx ρ s){h':Heap}(t':Nat)(hk:∀b o,s.heap.get? b=some o->h'.get? b=some o)(hn:∀b∈wr,s.heap.get? b=none):
  b7 Z st (Mine.eG Z g s.heap h' λb=>decide<|b∈wr) (over fx wr h') ρ {s with heap:=h',toks:=t'} where
 keep b ob e:=by
  rcases lU e with q|q
  ·exact hk _ _<|S.keep _ _ q
  ·exact q.2.2.2
 fix b ob e:=by
  unfold over at e;split at e
  ·exact e
  ·exact hk _ _ (S.fix b ob e)
 len:=S.len
 objs k o p ho hp:=(S.objs k o p ho hp).mono ⟨λy y e=>cv e,[],by simp⟩ λb ob y e=>hk _ _ e
 uniq:=S.uniq
 off k so p x hso hl hp hx:=by refine qe (S.off k so p x hso hl hp hx) λq1 q2 q3=>fT (S.jU hso hl hp hx) λob e=>?_;refine⟨dc e q1,?_,q3⟩;rw[eK (λz=>by rw[hn x z] at e;exact aW e)];exact q2
 top b o e:=cv (S.top b o e)
 tabs:=Z.mI _ _ S.tabs (λb o e y=>hk b o e) λb o e=>hk _ _ (S.fy b o e)
 hW b hb:=by refine fT (S.rL hb) λob e=>⟨dc e (S.hW b hb).1,?_⟩;rw[eK (λz=>by rw[hn b z] at e;exact aW e)];exact(S.hW b hb).2
 tY b ob e:=by
  unfold over at e;split at e
  ·rename_i q;unfold eG;rw[(S.fresh<|hn b q).1];simp[q]
  ·exact dc (S.fix b ob e) (S.tY b ob e)
 same:=S.same
 codes:=S.lR (λy y e=>cv e) λb o e y=>hk b o e
theorem b7.turn(S:b7 Z st g (over fx wr s.heap) ρ s){h':Heap}(t':Nat)(hex:∀b∈wr,∃o,s.heap.get? b=some o)(hk:∀b o,b∉wr->s.heap.get? b=some o->h'.get? b=some o):
  b7 Z st (Mine.eG Z g s.heap h' λy=>false) (over fx wr h') ρ {s with heap:=h',toks:=t'}:=by
 have gw:=λb hb=>by refine fT (hex b hb) λo e=>S.tY b o (by rw[mM hb];exact e)
 have keep':=λb ob e=>hk b ob (λz=>by rw[gw b z] at e;exact aW e)<|S.keep b ob e
 have offw:∀{k:Nat}{so:SO}{p:Addr×Addr}{x:Addr},st[k]? =some so->so.live=true->ρ[k]? =some p->(x=p.1\/x=p.2)->x∉wr:=by intro k so p x hso hl hp hx z;have:=(S.off k so p x hso hl hp hx).2.1;refine fT (hex x z) λo e=>?_;rw[mM z,e] at this;exact jO this
 have tabw:∀b,Z.tab b=true->b∉wr:=λb hb z=>by have:=(S.hW b hb).2;refine fT (hex b z) λo e=>?_;rw[mM z,e] at this;exact jO this
 refine⟨?_,?_,S.len,?_,S.uniq,?_,λb o e=>cv<|S.top b o e,Z.mI _ _ S.tabs (λb ob e hb=>hk b ob (tabw b hb) e) λb o e=>keep' _ _<|S.top b o e,?_,?_,S.same,S.lR (λy y e=>cv e) λb ob e hb=>hk b ob (tabw b hb) e⟩
 ·intro b ob e;rcases lU e with q|q
  ·exact keep' _ _ q
  ·exact q.2.2.2
 ·intro b ob e;by_cases hb:b∈wr
  ·rw[mM hb] at e;exact e
  ·rw[eK hb] at e;exact hk b ob hb<|S.fix b ob (by rw[eK hb];exact e)
 ·intro k so p hso hp;by_cases hl:so.live=true
  ·exact(S.objs k so p hso hp).mono ⟨λy y e=>cv e,[],by simp⟩ λb ob hb e=>hk b ob (offw hso hl hp hb) e
  ·cases so<;>first|exact absurd rfl hl|trivial
 ·intro k so p x hso hl hp hx;refine qe (S.off k so p x hso hl hp hx) λq1 q2 q3=>fT (S.jU hso hl hp hx) λob e=>?_;refine⟨dc e q1,?_,q3⟩;have:=offw hso hl hp hx;rw[eK this] at q2 ⊢;exact q2
 ·intro b hb;refine fT (S.rL hb) λob e=>?_;have:=tabw b hb;have q:=S.hW b hb;refine⟨dc e q.1,?_⟩;rw[eK this] at q ⊢;exact q.2
 ·intro b ob e;by_cases hb:b∈wr
  ·refine fT (hex b hb) λo e'=>dc e'<|gw b hb
  ·rw[eK hb] at e;have e2:over fx wr s.heap b=some ob:=by rw[eK hb];exact e
   exact dc (S.fix b ob e2)<|S.tY b ob e2
theorem b7.leave(S:b7 Z st g (over fx wr s.heap) ρ s)(hn:∀b∈wr,fx b=none):b7 Z st g fx ρ s:=
 S.weaken λb o e=>by rw[eK (λz=>by rw[hn b z] at e;exact aW e)];exact e
def fY.T1(wr:List Addr)(e9:FH)(St:Nat->Heap->Prop):Prop:=∀i h h',St i h->(∀b o,(b∈wr\/e9 b=some o)->h.get? b=some o->h'.get? b=some o)->St i h'
def fY.T2(wr:List Addr)(St:Nat->Heap->Prop):Prop:=∀i h,St i h->∀b∈wr,∃o,h.get? b=some o
def fY.T3(prog:Program)(w:cU)(Z:dM)(A:bD)(I:Addr)(wr:List Addr)(items:List SV)(e9:FH)(el:eE)(tup:Bool)(St:Nat->Heap->Prop):Prop:=∀i x s (Q:Option Value->Shared->Prop) (E:Value->Shared->Prop) (tgt:Expr),items[i]? =some x->(tup=true->∃elts k p,tgt=.Tuple elts k p)->St i s.heap->
  (∀v h' tk,(∀b o,b∉wr->s.heap.get? b=some o->h'.get? b=some o)->
   (∀g' bQ,(∀b o,e9 b=some o->g' b=some o)->(∃m,bQ=el++m)->(∀b o,b∉wr->s.heap.get? b=none->h'.get? b=some o->g' b=some o)->RV Z g' bQ x v)->
   (∀b∈wr,∃o,h'.get? b=some o)->
   (∀(Q':Unit->Shared->Prop)(E':Value->Shared->Prop),(∀h'',(∀b o,b∉wr->h'.get? b=some o->h''.get? b=some o)->St (i+1) h''->Q' () {s with heap:=h'',toks:=tk})->av (model prog w) A (iF tgt (.ref I) v) Q' E' {s with heap:=h',toks:=tk})->
   Q (some v) {s with heap:=h',toks:=tk})->av (model prog w) A (s6<|.ref I) Q E s
def fY.T4(prog:Program)(w:cU)(A:bD)(I:Addr)(wr:List Addr)(items:List SV)(St:Nat->Heap->Prop):Prop:=∀s (Q:Option Value->Shared->Prop) (E:Value->Shared->Prop),St items.length s.heap->(∀h' tk,(∀b o,b∉wr->s.heap.get? b=some o->h'.get? b=some o)->Q none {s with heap:=h',toks:=tk})->av (model prog w) A (s6<|.ref I) Q E s
def fY.T5(prog:Program)(w:cU)(A:bD)(I:Addr)(St:Nat->Heap->Prop):Prop:=∀i s (Q:Value->Shared->Prop) (E:Value->Shared->Prop),St i s.heap->Q (.ref I) s->av (model prog w) A (lq<|.ref I) Q E s
structure fY(prog:Program)(w:cU)(Z:dM)(A:bD)(I:Addr)(wr:List Addr)(items:List SV)(e9:FH)(el:eE)(tup:Bool)(St:Nat->Heap->Prop):Prop where
 frame:fY.T1 wr e9 St
 there:fY.T2 wr St
 item:fY.T3 prog w Z A I wr items e9 el tup St
 done:fY.T4 prog w A I wr items St
 self:fY.T5 prog w A I St
noncomputable def rT(T:String):Bool:=!["enumerate","zip","dict_itemiterator","dict_reverseitemiterator","odict_iterator","itertools.zip_longest","itertools.pairwise"].contains T
set_option backward.match.sparseCases true in
theorem yP{prog:Program}{w:cU}{o:Obj}{T:String}(ho:s.heap.get? I=some o)(hc:o.cls=.type T)(hT:rT T=true)(tgt:Expr){Q:Unit->Shared->Prop}(h:Q () s):
  av (model prog w) A (iF tgt (.ref I) v) Q E s:=by
 have main:av (model prog w) A (do
   let(.ref r,.ref a):=(nE I,v)|return
   let o<-load r
   match o.cls,o.data with
   |.type n,.fields vs=>
    if ["enumerate","zip","dict_itemiterator","dict_reverseitemiterator","odict_iterator","itertools.zip_longest","itertools.pairwise"].contains n&&vs[0]? ==some (gV a) then
     rule "for.unpacks-the-owned-tuple"
     updateField r 0 .none
   |_,_=>pure ()) Q E s:=by
  cases v<;>try exact ab h
  dsimp only
  refine aJ<|wpAny_load ho ?_
  rw[hc]
  have hT':["enumerate","zip","dict_itemiterator","dict_reverseitemiterator","odict_iterator","itertools.zip_longest","itertools.pairwise"].contains T=false:=by simpa[rT] using hT
  cases o.data<;>dsimp only<;>try exact ab h
  rw[hT']
  simp only[VB,dI,if_false]
  exact ab h
 cases tgt<;>first|exact ab h|exact main
theorem fY.plain{prog:Program}{w:cU}{fp:List Addr}{P:Nat->Value->Prop}{St:Nat->Heap->Prop}{items:List SV}{T:String}(W:Walks prog w A I fp [I] n P St)(hn:items.length=n)
  (hT:rT T=true) (hty:∀i h,St i h->∃o,h.get? I=some o/\o.cls=.type T)
  (hI:e9 I=none) (hfp:∀b∈fp,b=I\/∃o,e9 b=some o) (hP:∀i x v,items[i]? =some x->P i v->RV Z e9 el x v):
  fY prog w Z A I [I] items e9 el false (λi h=>St i h/\∀b o,e9 b=some o->h.get? b=some o) where
 frame i h h' st hk:=⟨W.frame i h h' st.1 λb hb o e=>by
  rcases hfp b hb with rfl|⟨o',e'⟩
  ·exact hk b o (.inl<|by simp) e
  ·have:=st.2 b o' e';rw[e] at this;obtain rfl:=aa this;exact hk b o (.inr e') e,λb o e=>hk b o (.inr e)<|st.2 b o e⟩
 there i h st b hb:=by obtain rfl:=aE.mp hb;refine dS (hty i h st.1) λo ho z=>⟨o,ho⟩
 item i x s Q E tgt hx _ st hQ:=by
  refine dS (hty _ _ st.1) λoI hoI z=>W.item i s Q E (by rw[<-hn];exact(af.mp hx).1) st.1 λv h' tk hv st' hk=>?_;have hg':∀b o,e9 b=some o->h'.get? b=some o:=by
   intro b o e;by_cases hb:b=I
   ·rw[hb,hI] at e;exact aW e
   ·exact hk b o (by simpa using hb)<|st.2 b o e
  refine hQ v h' tk hk (λg' bQ hg hρ z=>(hP i x v hx hv).mono ⟨hg,hρ⟩) (λb hb=>?_) λQ' E' hq=>?_
  ·obtain rfl:=aE.mp hb;refine dS (hty _ _ st') λo ho z=>⟨o,ho⟩
  ·refine dS (hty _ _ st') λo ho hc=>yP ho hc hT tgt (hq h' (λz z z e=>e) ⟨st',hg'⟩)
 done s Q E st hQ:=W.done s Q E (hn▸st.1) hQ
 self i s Q E st hQ:=W.self i s Q E st.1 hQ
end
section
variable{Z:dM}{st:List SO}{g fx:FH}{ρ:eE}{s:Shared}{A:bD}{E:Value->Shared->Prop}
abbrev tP(Z:dM)(A:bD)(st:List SO)(items:List SV)(tup:Bool)(g fx:FH)(ρ:eE)(s:Shared)(Q:Value->Shared->Prop):Prop:=
 ∀g' h' tk I wr St,ey g ρ g' ρ->b7 Z st g' (over fx wr h') ρ {s with heap:=h',toks:=tk}->(∀b∈wr,s.heap.get? b=none)->fY Z.prog Z.w Z A I wr items g' ρ tup St->St 0 h'->Q (.ref I) {s with heap:=h',toks:=tk}
def uj(Z:dM)(A:bD)(t:Al Value)(st:List SO)(items:List SV)(tup:Bool)(g fx:FH)(ρ:eE)(s:Shared):Prop:=
 ∀E Q,tP Z A st items tup g fx ρ s Q->av (Mo Z) A t Q E s
theorem uj.plain(S:b7 Z st g fx ρ s){t:Al Value}{items:List SV}{T:String}{oI:Obj}{fp:List Addr}{P:Nat->Value->Prop}{St:Nat->Heap->Prop}
  (hp:∀(E:Value->Shared->Prop)(Q:Value->Shared->Prop),Q (.ref s.heap.objs.size) {s with heap:=s.heap.push oI}->av (Mo Z) A t Q E s)
  (W:Walks Z.prog Z.w A s.heap.objs.size fp [s.heap.objs.size] n P St) (hn:items.length=n) (hT:rT T=true) (hty:∀i h,St i h->∃o,h.get? s.heap.objs.size=some o/\o.cls=.type T)
  (hfp:∀b∈fp,b=s.heap.objs.size\/∃o,g b=some o) (hP:∀g' i x v,ey g ρ g' ρ->items[i]? =some x->P i v->RV Z g' ρ x v) (h0:St 0 (s.heap.push oI)):uj Z A t st items false g fx ρ s:=by
 intro E Q hq
 refine hp E Q ?_
 have hk:∀b o,s.heap.get? b=some o->(s.heap.push oI).get? b=some o:=cx
 have hfr:∀b∈[s.heap.objs.size],s.heap.get? b=none:=λb hb=>by obtain rfl:=aE.mp hb;exact bL _
 have S':=S.enter s.toks hk hfr
 have X:ey g ρ (eG Z g s.heap (s.heap.push oI) λb=>decide<|b∈[s.heap.objs.size]) ρ:=a7
 have hgI:(eG Z g s.heap (s.heap.push oI) λb=>decide<|b∈[s.heap.objs.size]) s.heap.objs.size=none:=by unfold eG;rw[(S.fresh<|bL _).1];simp
 refine hq _ _ s.toks _ _ _ X S' hfr (fY.plain W hn hT hty hgI (λb hb=>(hfp b hb).imp id<|aD λz=>X.g _ _) λi x v=>hP _ i x v X) ⟨h0,λb o e=>?_⟩
 exact S'.keep b o e
theorem DC(hh:A.handled=none)(S:b7 Z st g fx ρ s){xs:List SV}(r:RV Z g ρ (.tup xs) x):uj Z A (lq x) st xs false g fx ρ s:=by
 refine qv r λa vs n zz3 ho rs=>?_;subst zz3;have hl:s.heap.IsTuple a vs:=⟨_,S.keep _ _ ho,rfl,n,rfl⟩;have hlt:=cg<|S.keep _ _ ho;refine uj.plain S (λE Q h=>wpAny_pyIter_tuple hl h) (Walks.tuple hh _ a (bZ hlt) vs) (by rw[<-rs.length,aM]) (by decide) (λi h st=>st.1.imp λz h=>⟨h.1,h.2.1⟩)
  (λb hb=>by
   rcases BZ hb with rfl|rfl
   ·exact .inl rfl
   ·exact .inr ⟨_,ho⟩) (λg' i x v X hx hv=>?_) ⟨⟨_,ez,rfl,rfl⟩,hl.push _⟩
 refine dS (rs.get hx) λv' h1 h2=>?_;rw[bw,hv] at h1;obtain rfl:=aa h1;exact h2.mono X
theorem DD(hh:A.handled=none)(S:b7 Z st g fx ρ s){xs:List SV}(r:RV Z g ρ (.lst xs) x):uj Z A (lq x) st xs false g fx ρ s:=by
 refine qv r λa vs n zz3 ho rs=>?_;subst zz3;have hl:s.heap.IsList a vs:=⟨_,S.keep _ _ ho,rfl,n,rfl⟩;have hlt:=cg<|S.keep _ _ ho;refine uj.plain S (λE Q h=>zJ hl h) (JC hh _ a (bZ hlt) vs) (by rw[<-rs.length,aM]) (by decide) (λi h st=>st.1.imp λz h=>⟨h.1,h.2.1⟩)
  (λb hb=>by
   rcases BZ hb with rfl|rfl
   ·exact .inl rfl
   ·exact .inr ⟨_,ho⟩) (λg' i x v X hx hv=>?_) ⟨⟨_,ez,rfl,rfl⟩,hl.push _⟩
 refine dS (rs.get hx) λv' h1 h2=>?_;rw[bw,hv] at h1;obtain rfl:=aa h1;exact(h2.mono X.nil).mono<|ey.ke _ _
theorem Kg(hh:A.handled=none)(S:b7 Z st g fx ρ s){xs:List Int}(hl:xs.length<=1)(r:RV Z g ρ (.dx xs) x):uj Z A (lq x) st (xs.map .int) false g fx ρ s:=by
 refine RJ r λa es n t zz4 ho G=>?_;subst zz4;have ho':=S.keep _ _ ho;have hlt:=cg ho';have h1:es.size<=1:=by rw[G.size];exact hl
 refine uj.plain S (λE Q h=>AD (.inl rfl) ho' G.g h1 h) (Walks.fs hh (.inl rfl) _ a (bZ hlt) G.g h1) (by rw[ag,G.size]) (by decide) (λi h st=>st.2.2.elim λu z=>z.1.imp λu h=>⟨h.1,h.2.1⟩)
  (λb hb=>by
   rcases BZ hb with rfl|rfl
   ·exact .inl rfl
   ·exact .inr ⟨_,ho⟩) (λg' i x v X hx hv=>?_) ⟨eO _,ar _ ho',0,⟨_,ez,rfl,rfl⟩,.inr ⟨λu=>rfl,λz=>(nomatch z)⟩⟩
 rw[ai,bq] at hx;refine dS hx λj hj zz2=>?_;subst zz2;refine dS (bq.mp hv) λe he zz2=>?_;subst zz2;obtain⟨k,tk,rfl,hk⟩:=G.g.each e (by rw[<-bw] at he;exact aI he);have hi:i=0:=by have:=(af.mp hj).1;exact aen hl this
 have:k=j:=by
  rcases KL hl with e|⟨y,e⟩<;>rw[e,hi] at hj<;>rw[e] at hk
  ·exact aW hj
  ·rw[aE.mp hk];exact aa hj
 subst this;exact⟨tk,rfl⟩
theorem Mx(prog:Program)(w:cU):KeysOf (fW prog w) (#[]:Array DictEntry):=λe he=>absurd (xi he) aK
theorem JJ{en:DictEntry}{es:List DictEntry}(h:∃k,(fW prog w).is k en.key=true/\en.hash=(fW prog w).hash k)(q:KeysOf (fW prog w) es.toArray):KeysOf (fW prog w) (en::es).toArray:=λz hz=>
 (aV.mp<|xi hz).elim (λe=>e▸h) λhz=>q z (by simpa using hz)
theorem La{g:FH}:∀{is:List Int}{es:List DictEntry}{ds:List PyData},jT ks=some is->ei Z g [] ks (es.map (·.key))->fR ks=some ds->es.map (·.hash)=ds.map (eM w)->
  KeysOf (fW prog w) es.toArray/\Pairs (fW prog w) es (is.zip<|es.map (·.val))/\is.length=es.length/\ds=is.map .int:=by
 induction ks with
 |nil=>intro is es ds e r e2 hh;obtain rfl:=aa e;obtain rfl:=aa e2;obtain rfl:=tW.mp r;exact LJ (Mx prog w) (.nil) rfl rfl
 |cons x ks ih=>
  intro is es ds e r e2 hh;refine aw e λi hi e=>dj e λjs e' hj=>iD hi λhx=>aw e2 λd hd e2=>dj e2 λds' h2 hds=>?_;subst hx hj hds;obtain rfl:=aa hd;obtain⟨v,vs',e1,⟨tk,rfl⟩,r2⟩:=r;cases es with
  |nil=>exact l4 rfl<|heq_of_eq e1
  |cons en es'=>
   have e1:=iT e1;have hh:=iT hh;refine x04 (ih e' (e1.2▸r2) h2 hh.2) λq1 q2 q3 q4=>?_;have hen:(fW prog w).is i en.key=true:=by rw[show en.key=_ from e1.1];exact m3 _ _ _ _
   exact LJ (JJ ⟨i,hen,hh.1⟩ q1) (.cons hen rfl q2) (congrArg kr q3)<|congrArg _ q4
theorem GG{is:List Int}(h:(is.map lL).Nodup):is.Nodup:=by unfold List.Nodup at *;rw[List.pairwise_map] at h;exact h.imp λh e=>h (by rw[e])
theorem wy(X:hV Z g ρ s D ks vs es n)(e:jT ks=some is):s.heap.DictAt (fW Z.prog Z.w) D (is.zip<|es.map (·.val)) n/\(is.zip<|es.map (·.val)).length=is.length/\es.length=is.length:=by refine fT X.ok λds K=>x04 (La (prog:=Z.prog) e X.keys K.py K.hash) λq1 q2 q3 q4=>?_;have hz:(is.zip<|es.map (·.val)).map (·.1)=is:=p6 (by simp[q3]);refine⟨⟨_,es.toArray,X.at_,⟨rfl,rfl,rfl⟩,rfl,q1,q2,?_⟩,by rw[Rj,ag,q3,Fk],q3.symm⟩;rw[hz];have:=K.nodup;rw[q4] at this;exact GG this
set_option tactic.hygienic true in
theorem NJ(hh:A.handled=none)(S:b7 Z st g fx ρ s){ks vs:List SV}{is:List Int}(e:jT ks=some is)(r:RV Z g ρ (.hH ks vs) x):uj Z A (lq x) st ks false g fx ρ s:=by
 refine x36 r λa es n zz3 ho q1 q2 q3 q4=>?_;subst zz3;have X:hV Z g ρ s a ks vs es n:=⟨S.keep _ _ ho,q1,q2.ke,q3,q4⟩;refine qe (wy X e) λhD hl z=>?_;have hlt:=hD.lt_size;refine uj.plain S (λE Q h=>wpAny_pyIter_dict (vF X) hD h) (Walks.dictKeys hh _ a (bZ hlt) _ n) (by rw[hl,vK e,ag]) (by decide) (λi h st=>st.1.imp λz h=>⟨h.1,h.2.1⟩)
  (λb hb=>by
   rcases BZ hb with rfl|rfl
   ·exact .inl rfl
   ·exact .inr ⟨_,ho⟩) (λg' i x v X hx hv=>?_) ⟨⟨_,ez,rfl,rfl⟩,hD.push _⟩
 refine rJ hv λk y hz hk=>?_;rw[vK e,ai,bq] at hx;refine dS hx λj hj zz2=>?_;subst zz2;have:k=j:=by
  have h2:((is.zip<|es.map (·.val)).map (·.1))[i]? =some k:=by rw[ai,hz];rfl
  rw[p6 (by simp;exact eD<|id<|cG<|by assumption)] at h2;rw[hj] at h2;obtain rfl:=aa h2;rfl
 subst this;cases v<;>simp only[fW,oy] at hk<;>(try cases hk);rename_i m tk
 have:m=k:=by simpa using hk
 subst this;exact⟨tk,rfl⟩
theorem xS(a b:Int):dQ a b (-1)=if a>b then a-b else 0:=by
 unfold dQ;rw[if_neg<|by decide];split
 ·simp only[Int.neg_neg,Int.ediv_one];omega
 ·rfl
theorem yr(hh:A.handled=none)(S:b7 Z st g fx ρ s){t u v:Tok}(hr:IsRange s.heap r a b c t u v)(hs:jm a b c=true){items:List SV}(hz:(items.length:Int)=dQ a b c)
  (hit:∀(i:Nat)(x:SV),items[i]? =some x->x=SV.int (a+(i:Int)*c)):uj Z A (lq<|.ref r) st items false g fx ρ s:=by
 refine uj.plain (T:="range_iterator") S (λE Q h=>wpAny_pyIter_range hr hs h) (Walks.range hh s.heap.objs.size a c items.length) rfl (by decide) (λi h st=>?_)
  (λb hb=>by simp only[aE] at hb;exact .inl hb) (λg' i x v X hx hv=>?_) ?_
 ·exact⟨_,st,rfl⟩
 ·refine fT hv λt zz1=>?_;subst zz1;rw[hit i x hx];exact⟨t,rfl⟩
 ·have:=ez (h:=s.heap) (o:={cls:=.type "range_iterator",dict:=none,data:=.fields #[gV a,gV<|dQ a b c,gV c],slots:=#[]});rw[<-hz] at this ⊢;simpa using this
theorem Um{xs:List SV}{i:Nat}{x:SV}(h:(xs.zipIdx.map λp=>SV.tup [.int p.2,p.1])[i]? =some x):∃y,xs[i]? =some y/\x=.tup [.int i,y]:=by rw[ai,bq] at h;obtain⟨⟨y,j⟩,hj,rfl⟩:=h;rw[mA,bq] at hj;obtain⟨y',hj,e⟩:=hj;cases e;exact⟨y,hj,by simp⟩
theorem nm2(h:b∉[x,y]):b≠x/\b≠y:=⟨λe=>h (e▸ax ..),λe=>h<|e▸az _ (ax ..)⟩
theorem m22:y∈[x,y]:=az _ (ax ..)
theorem Sp{h:Heap}{wr:List Addr}(k:∀b∈wr,∃o,h.get? b=some o):h.objs.size∉wr:=λhm=>(k _ hm).elim λz e=>aW<|(bL h).symm.trans e
abbrev Z1(l it:Addr)(vs:Array Value)(n:Nat)(i:Nat)(h:Heap):Prop:=(∃old,IsEnum h (it+1) it i old)/\h.IsListIter it l i/\h.get? l=some (nO vs n)
theorem Eo(l it:Addr)(vs:Array Value)(n:Nat):fY.T2 [it+1,it] (Z1 l it vs n):=λi h st b hb=>by
 rcases BZ hb with rfl|rfl
 ·exact st.1.elim λz h=>⟨_,h⟩
 ·exact st.2.1.elim λz h=>⟨_,h.1⟩
theorem Un{l it:Addr}{vs:Array Value}{n:Nat}{e9:FH}{el:eE}{xs:List SV}(rs:ei Z e9 [] xs vs.toList)(hle:l≠it+1)(hli:l≠it):fY.T3 Z.prog Z.w Z A (it+1) [it+1,it] (xs.zipIdx.map λp=>.tup [.int p.2,p.1]) e9 el true (Z1 l it vs n):=λi x aC Q E tgt hx htup st hQ=>by
 refine VH (htup rfl) λelts k p zz3=>?_;subst zz3;refine dS (Um hx) λy hj zz2=>?_;subst zz2;refine dS (rs.get hj) λv q1 q2=>?_;rw[bw] at q1;have hT1:=Sp<|Eo l it vs n i _ st;obtain⟨⟨old,h1⟩,h2,h3⟩:=st;refine wpAny_pyNext_enum_item h1 h2 ⟨_,h3,rfl,n,rfl⟩ q1 (Rb it) λi5 Vc L4 aar af2 HJ=>hQ _ i5 (aC.toks+1) (λb o hb e=>HJ b o (nm2 hb).1 (nm2 hb).2 e) (λg' bQ hg z hnew=>?_) (λb hb=>?_) λQ' E' hq'=>?_
 ·exact⟨_,_,_,rfl,hnew _ _ hT1 (bL _) aar,_,_,rfl,⟨aC.toks,rfl⟩,_,_,rfl,(q2.mono ⟨hg,[],rfl⟩).mono<|ey.ke _ _,rfl⟩
 ·rcases BZ hb with rfl|rfl
  ·exact⟨_,Vc⟩
  ·exact L4.elim λz h=>⟨_,h.1⟩
 ·exact wpAny_letOwnedTupleGo_enum Vc λmX aap kC=>hq' mX (λb o hb e=>(kC.2 b (nm2 hb).1).trans e) ⟨⟨_,aap⟩,L4.at λo y=>(kC.2 it (Rb it).symm).trans y,(kC.2 l hle).trans<|HJ l _ hle hli h3⟩
theorem K7(hh:A.handled=none){vs:Array Value}(rs:ei Z e9 [] xs vs.toList)(hg:e9 l=some (nO vs n))(hlen:xs.length=vs.size)(hle:l≠it+1)(hli:l≠it):fY Z.prog Z.w Z A (it+1) [it+1,it] (xs.zipIdx.map λp=>.tup [.int p.2,p.1]) e9 el true (Z1 l it vs n) where
 frame:=λi h h' st hk=>⟨st.1.elim λold h1=>⟨old,hk _ _ (.inl (ax ..)) h1⟩,st.2.1.at λo x=>hk it o (.inl m22) x,hk _ _ (.inr hg) st.2.2⟩
 there:=Eo l it vs n
 item:=Un rs hle hli
 done:=λaC Q E st hQ=>by obtain⟨⟨old,h1⟩,h2,h3⟩:=st;rw[ag,u4,hlen] at h1 h2;exact wpAny_pyNext_enum_end hh h1 h2 ⟨_,h3,rfl,n,rfl⟩ (iW<|aG _) λh' hx=>hQ h' aC.toks λb o hb y=>hx b o (nm2 hb).2 y
 self:=λi aC Q E st hQ=>st.1.elim λz h1=>wpAny_pyIter_enum h1 hQ
theorem Kh(hh:A.handled=none)(S:b7 Z st g fx ρ s)(r:RV Z g ρ (.lst xs) x):
  ∀E Q,tP Z A st (xs.zipIdx.map λp=>.tup [.int p.2,p.1]) true g fx ρ s Q->av (Mo Z) A (call (.type "enumerate") [x]) (λe aC=>av (Mo Z) A (lq e) Q E aC) E s:=λE Q hq=>by
 refine qv r λl vs n zz3 ho rs=>?_
 subst zz3
 have ho':=S.keep _ _ ho
 have hlt:=cg ho'
 refine call_enumerate_1 ho' λh' he hi hsz hk=>wpAny_pyIter_enum he ?_
 have hfr:∀b∈[s.heap.objs.size+1,s.heap.objs.size],s.heap.get? b=none:=λb hb=>by
  cases q:s.heap.get? b with
  |none=>rfl
  |some o=>exact absurd (cg q)<|(BZ hb).elim (λe=>e▸vk.mpr (jR _)) λe=>e▸cp _
 have X:ey g ρ (eG Z g s.heap h' λb=>decide<|b∈[s.heap.objs.size+1,s.heap.objs.size]) ρ:=a7
 exact hq _ _ s.toks _ _ _ X (S.enter s.toks hk hfr) hfr (K7 hh (rs.mono X.nil) (X.g _ _ ho) (by rw[<-rs.length,aM]) (bZ<|eP hlt)<|bZ hlt) ⟨⟨_,he⟩,hi,hk _ _ ho'⟩
theorem tP.grow{h':Heap}(hk:∀b o,s.heap.get? b=some o->h'.get? b=some o)(hq:tP Z A st items tup g fx ρ s Q):
  tP Z A st items tup (oR Z g s.heap h') fx ρ {s with heap:=h',toks:=t'} Q:=
 λg' h'' tk I wr St X S' hfr L h0=>hq g' h'' tk I wr St (a7.trans X) S' (λb hb=>by
  cases q:s.heap.get? b with
  |none=>rfl
  |some o=>have:=hk _ _ q;rw[hfr b hb] at this;exact aW this) L h0
theorem sR(h1: -10000<=i)(h2:i<=10000):lz i=true:=by unfold lz;rw[decide_eq_true<|cO (by decide) h1,decide_eq_true<|kG h2<|by decide];rfl
theorem XE{n:Int}(h:n.natAbs<=4000): -4000<=n/\n<=4000:=Qu h
theorem agm{a b:Int}(ha:a.natAbs<=4000)(hb:b.natAbs<=4000):((a-b).toNat:Int)<=10000:=gN.mpr<|Fv.mpr<|cO (Int.sub_le_sub (XE ha).2 (XE hb).1)<|by decide
theorem Aq{n:Int}(h:n.natAbs<=eA):jm 0 n 1=true/\dQ 0 n 1=(n.toNat:Int):=by
 have hr:dQ 0 n 1=n.toNat:=by
  rw[rangeSize_one];split
  ·next q=>rw[Int.sub_zero,j9<|Fx q]
  ·next q=>rw[QJ.mpr<|qH.mp q];rfl
 refine⟨?_,hr⟩;have hn:=XE h;have fn:=sR (cO (by decide) hn.1) (cO hn.2<|by decide);have fm:=sR (cO (by decide)<|kF _) (gN.mpr<|Fv.mpr<|cO hn.2<|by decide);unfold jm;rw[hr];simp only[sR (i:=0) (by decide) (by decide),fn,sR (i:=1) (by decide) (by decide),fm,show(1:Int)>0 by decide,if_true,dU,jd,decide_eq_true_eq,beq_iff_eq,true_and,and_true];exact .inr<|sR (by rw[show n+(1-1)=n from Int.add_zero n];exact cO (by decide) hn.1) (by rw[show n+(1-1)=n from Int.add_zero n];exact cO hn.2<|by decide)
theorem Fy{a b:Int}(ha:a.natAbs<=eA)(hb:b.natAbs<=eA):jm a b (-1)=true/\dQ a b (-1)=((a-b).toNat:Int):=by
 have hr:dQ a b (-1)=((a-b).toNat:Int):=by
  rw[xS];split
  ·next q=>rw[j9<|Int.sub_nonneg_of_le<|Fx q]
  ·next q=>rw[QJ.mpr<|Int.sub_nonpos_of_le<|qH.mp q];rfl
 refine⟨?_,hr⟩;unfold eA at ha hb;have fa:=sR (cO (by decide) (XE ha).1) (cO (XE ha).2<|by decide);have fb:=sR (cO (by decide) (XE hb).1) (cO (XE hb).2<|by decide);have fn:=sR (cO (by decide)<|kF _)<|agm ha hb;have f1:lz (-1)=true:=sR (by decide) (by decide);unfold jm;rw[hr];simp only[fa,fb,fn,f1,show ¬((-1:Int)>0) by decide,if_false,dU,jd,decide_eq_true_eq,beq_iff_eq,true_and,and_true];exact .inr<|sR (by omega)<|by omega
theorem DH{f:Nat->SV}(h:((ak n).map f)[i]? =some x):x=f i:=by rw[ai] at h;exact dj h λj hj hx=>by obtain⟨hj1,hj2⟩:=af.mp hj;rw[cq] at hj2;rw[<-hx,hj2]
theorem Ki(hh:A.handled=none)(S:b7 Z st g fx ρ s)(hn:ik≠.over)(hz:ik≠.zip)(e:lH ik vs=some items)(r:ei Z g ρ vs xs):
  ∀E Q,tP Z A st items (xm ik) g fx ρ s Q->av (Mo Z) A (call (.type<|Og ik) xs) (λx aC=>av (Mo Z) A (lq x) Q E aC) E s:=by
 intro E Q hq
 cases ik with
 |over=>exact absurd rfl hn
 |zip=>exact absurd rfl hz
 |gO=>refine aw e λv h1 e=>aw e λn h2 e=>j8 e λhl hi=>kK h1 λh1=>iD h2 λh2=>?_;subst h1 h2 hi;obtain⟨x,xs',rfl,⟨t,rfl⟩,r2⟩:=r;obtain rfl:=r2;refine kg (Aq<|fX hl) λk1 k2=>call_range_1 ?_;have hk:∀b o,s.heap.get? b=some o->(s.heap.push {cls:=.type "range",data:=.fields #[.int 0 s.toks,.int n t,.int 1<|s.toks+1]}).get? b=some o:=cx;exact yr hh (S.grow (s.toks+1+1) hk) ez k1 (by rw[k2,ag,au]) (λi x hx=>(DH hx).trans<|congrArg SV.int<|by omega) E Q<|hq.grow hk
 |pJ=>refine aw e λv h1 e=>aw e λa h2 e=>aw e λb h3 e=>aw e λc h4 e=>j8 e λhl hi=>cI hl λhl hb=>cI hl λhc ha=>W6 h1 λh1=>iD h2 λh2=>iD h3 λh3=>iD h4 λh4=>?_;obtain rfl:=beq_iff_eq.mp hc;rw[h2,h3,h4] at h1;subst h1 hi;obtain⟨x,xs',rfl,⟨t,rfl⟩,y,ys',rfl,⟨u,rfl⟩,z,zs',rfl,⟨v,rfl⟩,r2⟩:=r;obtain rfl:=r2;refine kg (Fy (fX ha)<|fX hb) λk1 k2=>call_range_3 (by decide) ?_ (.inl<|Bh<|by decide);have hk:∀c o,s.heap.get? c=some o->(s.heap.push {cls:=.type "range",data:=.fields #[.int a t,.int b u,.int (-1) v]}).get? c=some o:=cx;exact yr hh (S.grow s.toks hk) ez k1 (by rw[k2,ag,au]) (λi x hx=>(DH hx).trans<|congrArg SV.int<|by omega) E Q<|hq.grow hk
 |enum=>refine aw e λv h1 e=>dj e λxs h2 hi=>kK h1 λh1=>Zw h2 λh2=>?_;subst h1 h2 hi;refine jG r λx xs' zz2 r1 r2=>?_;subst zz2;obtain rfl:=r2;exact Kh hh S r1 E Q hq
end
structure TC where
 gl:Str->Option Value
 ns:List (Str×cF)
 at_:Str->Nat
 nst:Str->Nat
 wW:Addr
noncomputable def yL:ao->Option Str|.Name x _=>some x|_=>none
noncomputable def A4:ao->Option (ao×Str×Pos)|.Attribute o a p=>some (o,a,p)|_=>none
noncomputable def Jc:ao->Option (ao×List ao×List Keyword)|.Call f args kws _=>some (f,args,kws)|_=>none
noncomputable def uK:ao->Option (List ao)|.List es _=>some es|_=>none
noncomputable def By:ao->Option (List ao)|.Tuple es _ _=>some es|_=>none
noncomputable def yo:ao->Option (Option ao×Option ao×Option ao)|.Slice l u s _=>some (l,u,s)|_=>none
noncomputable def Hl:ao->Option Const|.Constant k _ _=>some k|_=>none
noncomputable def abh:ao->Option ao|.UnaryOp .USub e _=>some e|_=>none
noncomputable def agf:Const->Option Str|.str s=>some s|_=>none
noncomputable def abC:Const->Bool|.int i=>i==1|_=>false
def yQ(e:ao):Bool:=((abh e).bind Hl).any abC
def Xe(e:ao):Option Str:=(Hl e).bind agf
noncomputable def WK:ao->Bool|.Starred ..=>true|_=>false
noncomputable def aaE:ao->Bool|.Set ..=>true|_=>false
def bP(e:ao):Bool:=!WK e
def fJ(e:ao):Bool:=!aaE e
def uG(e:ao):Bool:=(yo e).isNone
def uh(e:ao):Bool:=(A4 e).isNone
def lA(e:ao):Bool:=(yL e).isSome
def D5(e:ao):Bool:=(yL e).any λx=>x==("super":Str)
def jz(e:ao):Bool:=(Jc e).any λq=>D5 q.1&&q.2.1.isEmpty&&q.2.2.isEmpty
noncomputable def XZ:ao->Bool
 |.ListComp ..=>true
 |.SetComp ..=>true
 |.DictComp ..=>true
 |_=>false
def uH(e:ao):Bool:=!XZ e
noncomputable def qZ:cF->Bool|.local=>true|.cell=>true|.free=>true|_=>false
noncomputable def qY:cF->Bool|.local=>true|.cell=>true|_=>false
noncomputable def IJ:cF->Bool|.globalImplicit=>true|_=>false
noncomputable def IL:cF->Bool|.free=>true|_=>false
noncomputable def Ca:cF->Bool|.cell=>true|.free=>true|_=>false
noncomputable def ob:Option E->E|some t=>t|none=>.bad
noncomputable def XA:Option S->S|some t=>t|none=>.bad
def AQ(c:TC):Value->E
 |.int i _=>.int i
 |.str s _=>.str s
 |.ref a=>match a==c.wW with
  |true=>.Ad
  |false=>.glob<|.ref a
 |_=>.bad
def Eb(c:TC)(x:Str)(k:cF):Option Value:=(gd (IJ k) ()).bind λz=>c.gl x
def uI(c:TC)(x:Str):E:=ob ((fo x c.ns 0).map λp=>match qZ p.2 with
 |true=>.loc p.1
 |false=>ob<|(Eb c x p.2).map<|AQ c)
noncomputable def bOf:Value->Option (Bool×String)
 |.builtin b=>some (true,b)
 |.type b=>some (false,b)
 |_=>none
def cu(c:TC)(e:ao):Option (Bool×String):=(yL e).bind λx=>(fo x c.ns 0).bind λp=>(Eb c x p.2).bind bOf
noncomputable def opE:zP->Option OP
 |.Add=>some .add|.Sub=>some .sub|.Mult=>some .mul|.FloorDiv=>some .fdiv|.Mod=>some .mod|.Pow=>some .pow|.BitOr=>some .bor|_=>none
noncomputable def B7:zP->Bool|.Mult=>true|_=>false
noncomputable def Lg:PySem.CmpOp->CM
 |.Eq=>.eq|.NotEq=>.ne|.Lt=>.lt|.LtE=>.le|.Gt=>.gt|.GtE=>.ge|.Is=>.is|.IsNot=>.kN|.In=>.isIn|.NotIn=>.kL
def jV(c:TC)(scope:Scope):List (Option Nat):=scope.names.map λp=>match IL p.2 with
 |true=>(fo p.1 c.ns 0).map (·.1)
 |false=>none
noncomputable def Ow{α β:Type}(f:α->Option β):List α->Option (List β)
 |[]=>some []
 |a::l=>(f a).bind λb=>(Ow f l).map (b::·)
def H6(c:TC)(e:ao):Option Nat:=(yL e).bind λx=>(fo x c.ns 0).bind λp=>gd (qY p.2) p.1
def ye(c:TC)(e:ao):Option TN:=match By e with
 |some es=>(Ow (H6 c) es).map TN.many
 |none=>(H6 c e).map TN.one
noncomputable def KG:E->Option Nat|.loc i=>some i|_=>none
def qj(c:TC)(t:E)(e:ao):E:=match (yL e).bind λx=>KG (uI c x) with
 |some i=>.rl i
 |none=>t
def Ey(outer:List (Str×cF))(p:Str×cF):Bool:=match p.2 with
 |.local=>true
 |.globalImplicit=>true
 |.free=>(fo p.1 outer 0).any λq=>Ca q.2
 |_=>false
noncomputable def vD(x:Str):Bool:=!(x==("__debug__":Str))&&!(x==("__classdict__":Str))
def pS(outer names:List (Str×cF)):Bool:=names.all (Ey outer)&&decide (names.map (·.1)).Nodup&&names.all λp=>vD p.1
noncomputable def WL:ScopeKind->Bool|.function=>true|_=>false
def uz(c:TC)(scope:Scope):Bool:=pS c.ns scope.names&&WL scope.kind
def yG(t e:ao):Bool:=uH e||!lA t
def Oe(t e:ao):Bool:=((By t).isNone&&(uK t).isNone)||(By e).isNone
noncomputable def oK(vs:List ao):Bool:=vs.all (foldedForSure 8)||!vs.all (constantsAlone 8)
noncomputable def FA:BI->Bool×String
 |.len=>(true,"len")|.list=>(false,"list")|.tuple=>(false,"tuple")|.sorted=>(true,"sorted")|.kh=>(true,"sorted")|.dx=>(false,"frozenset")|.int=>(false,"int")
 |.max=>(true,"max")|.min=>(true,"min")|.lP=>(false,"dict")|.tC=>(false,"list")
noncomputable def yD:BI->Bool
 |.list=>false|.kh=>false|.lP=>false|.tC=>false|_=>true
def BU(b:Bool×String):Option BI:=[BI.len,.tuple,.dx,.int,.max,.min].find? λbi=>yD bi&&FA bi==b
def oH(c:TC)(nm:String)(e:ao):Option (List ao):=(Jc e).bind λq=>gd (q.2.2.isEmpty&&cu c q.1==some (false,nm)&&q.2.1.all bP) q.2.1
def B6(c:TC)(e:ao):Option (IK×List ao):=(Jc e).bind λq=>(gd (q.2.2.isEmpty&&q.2.1.all bP) ()).bind λz=>
 ([IK.gO,.pJ,.enum,.zip].find? λik=>cu c q.1==some (false,Og ik)&&q.2.1.length==nIK ik).map λik=>(ik,q.2.1)
noncomputable def B8:IK->Bool|.enum=>true|_=>false
noncomputable def trK:Const->E
 |.none=>.none|.bool b=>.bool b|.int i=>.int i|.str s=>.str s|_=>.bad
def Us(ks:List (Option ao))(vs:List ao):Option (Str×Str):=(one ks).bind λk=>k.bind λk=>(Xe k).bind λa=>(one vs).bind λv=>(Xe v).map λb=>(a,b)
def FX(m:Bool)(ks:List (Option ao))(vs:List ao):E:=match ks.isEmpty&&vs.isEmpty with
 |true=>.gU m
 |false=>ob<|(Us ks vs).map λp=>.Es p.1 p.2
def fw(c:TC)(scope:Scope):TC:={c with ns:=scope.names}
mutual
noncomputable def gJ:Nat->TC->Bool->ao->E
 |0,_,_,_=>.bad
 |n+1,c,m,e=>match e with
  |.Constant k _ _=>trK k
  |.Name x _=>uI c x
  |.Tuple es _ _=>ob<|gd (es.all bP)<|.tup<|es.map<|gJ n c m
  |.List es _=>ob<|gd (es.all bP)<|.list m<|es.map<|gJ n c m
  |.Dict ks vs _=>FX m ks vs
  |.Attribute o a _=>ob<|gd (!jz o&&decide (c.at_ a<iY))<|.attr (gJ n c false o)<|c.at_ a
  |.Subscript v s _=>match yo s with
   |some q=>match q.1,q.2.1,q.2.2 with
    |none,none,some e=>ob<|gd (yQ e)<|.yp<|gJ n c false v
    |none,some u,none=>.kb (gJ n c false v)<|gJ n c false u
    |some l,none,none=>.kc (gJ n c false v)<|gJ n c false l
    |_,_,_=>.bad
   |none=>.sub (gJ n c false v)<|gJ n c false s
  |.BinOp l op r _=>match (gd (B7 op) ()).bind λz=>uK l with
   |some es=>ob<|(one es).bind λx=>gd (bP x)<|.rep m (gJ n c false x)<|gJ n c false r
   |none=>ob<|(opE op).map λo=>.bin o (gJ n c false l)<|gJ n c false r
  |.BoolOp op es _=>ob<|gd (!es.isEmpty) (match op with|.And=>.and (es.map<|gJ n c false)|.Or=>.or (es.map<|gJ n c false))
  |.UnaryOp op e _=>match op with
   |.Not=>.not<|gJ n c false e
   |.USub=>.neg<|gJ n c false e
   |_=>.bad
  |.Compare l ops rs _=>match zV ops with
   |none=>ob<|(one ops).bind λo=>(one rs).bind λr=>gd (fJ r)<|.cmp (Lg o) (gJ n c false l)<|gJ n c false r
   |some o=>ob<|(zV rs).bind λr=>gd (fJ r.2)<|.CC (Lg o.1) (Lg o.2) (gJ n c false l) (gJ n c false r.1)<|gJ n c false r.2
  |.IfExp t b o _=>.ite (gJ n c false t) (gJ n c m b)<|gJ n c m o
  |.Call f args kws pos=>ob ((gd (kws.isEmpty&&args.all bP) ()).bind λz=>match A4 f with
   |some q=>(gd (!jz q.1&&decide (c.at_ q.2.1<iY)&&q.2.2.endLine==pos.line&&decide (args.length<30)) ()).bind λz=>match c.at_ q.2.1==xr with
    |true=>(one args).map λe=>.bx (gJ n c false q.1) (c.at_ q.2.1) [qj c (gJ n c true e) e]
    |false=>some<|.bx (gJ n c false q.1) (c.at_ q.2.1)<|args.map<|gJ n c<|c.at_ q.2.1==n5
   |none=>match cu c f with
    |some b=>some<|trB n c b args
    |none=>some<|.call (gJ n c false f)<|args.map<|gJ n c false)
  |.ListComp elt gens scope _=>ob ((gd (uz c scope) ()).bind λz=>match zV gens with
   |none=>(one gens).bind λg=>(gd (g.is_async==0) ()).bind λz=>(ye (fw c scope) g.target).bind λtn=>(FW n c g.iter).map λp=>
     .comp (m&&(uK elt).isSome) (jV c scope) (gJ n (fw c scope) (m&&(uK elt).isSome) elt) tn p.1 p.2 (g.ifs.map<|gJ n (fw c scope) false)
   |some g=>(gd (g.1.is_async==0&&g.2.is_async==0&&g.1.ifs.isEmpty&&g.2.ifs.isEmpty&&fJ g.2.iter) ()).bind λz=>
     (ye (fw c scope) g.1.target).bind λtn=>(ye (fw c scope) g.2.target).bind λtn2=>(FW n c g.1.iter).map λp=>
     .Ez (jV c scope) (gJ n (fw c scope) false elt) tn p.1 p.2 tn2 (gJ n (fw c scope) false g.2.iter))
  |.DictComp k v gens scope _=>ob<|(gd (uz c scope) ()).bind λz=>(one gens).bind λg=>(gd (g.is_async==0&&g.ifs.isEmpty&&fJ g.iter) ()).bind λz=>
    (ye (fw c scope) g.target).map λtn=>.AX (jV c scope) (gJ n (fw c scope) false k) (gJ n (fw c scope) false v) tn<|qj c (gJ n c false g.iter) g.iter
  |_=>.bad
noncomputable def trB:Nat->TC->Bool×String->List ao->E
 |0,_,_,_=>.bad
 |n+1,c,b,args=>match BU b with
  |some bi=>.bi bi<|args.map<|gJ n c false
  |none=>match b==(false,"list") with
   |true=>match ((one args).bind<|oH c "range").bind one with
    |some a=>.bi .tC [gJ n c false a]
    |none=>.bi .list<|args.map<|gJ n c false
   |false=>match b==(true,"sorted") with
    |true=>match ((one args).bind<|oH c "set").bind one with
     |some a=>.bi .kh [gJ n c false a]
     |none=>.bi .sorted<|args.map<|gJ n c false
    |false=>ob<|(gd (b==(false,"dict")) ()).bind λz=>(((one args).bind<|oH c "zip").bind zV).map λp=>.bi .lP [gJ n c false p.1,gJ n c false p.2]
noncomputable def FW:Nat->TC->ao->Option (IK×List E)
 |0,_,_=>none
 |n+1,c,it=>match B6 c it with
  |some q=>some (q.1,q.2.map λa=>match B8 q.1 with|true=>qj c (gJ n c false a) a|false=>gJ n c false a)
  |none=>gd (fJ it) (.over,[qj c (gJ n c false it) it])
end
noncomputable def WZ:Nat->TC->ao->Option T
 |0,_,_=>none
 |n+1,c,e=>match e with
  |.Name x _=>(fo x c.ns 0).bind λp=>gd (qY p.2)<|.nm p.1
  |.Attribute o a _=>gd (decide<|c.at_ a<iY)<|.at (gJ n c false o) (c.at_ a)
  |.Subscript o i _=>gd (uG i)<|.ix (gJ n c false o)<|gJ n c false i
  |.Tuple es _ _=>(gd (es.all bP) ()).bind λz=>(Ow (WZ n c) es).map .tp
  |_=>none
noncomputable def V5:ao->Bool|.ListComp _ g _ _=>g.length==1|_=>false
def Qq(t e:ao):Bool:=match (By t).bind λts=>(By e).map λvs=>(ts,vs) with
 |some q=>oK q.2&&(q.1.any (λe=>!lA e)||q.1.length==2)
 |none=>Oe t e&&(yG t e||V5 e)
noncomputable def Z4:Nat->TC->zO->S
 |0,_,_=>.bad
 |n+1,c,s=>match s with
  |.Expr e _=>XA<|gd (uH e)<|.expr<|gJ n c false e
  |.Assign ts v _=>XA<|(one ts).bind λt=>(gd (Qq t v&&bP t) ()).bind λz=>(WZ n c t).map λt=>.asg t<|gJ n c true v
  |.If t a b _=>.ifs (gJ n c false t) (a.map<|Z4 n c)<|b.map<|Z4 n c
  |.For t it body orelse _=>XA<|(gd orelse.isEmpty ()).bind λz=>(ye c t).bind λtn=>(FW n c it).map λp=>.for tn p.1 p.2 (body.map<|Z4 n c)
  |.While t body orelse _=>XA<|gd orelse.isEmpty<|.wg (gJ n c false t)<|body.map<|Z4 n c
  |.Return v _=>XA<|v.map λe=>.ret<|gJ n c true e
  |_=>.bad
def pK(names:List (Str×cF)):Option Str:=(one<|names.filter λp=>p.2==.free).map λp=>p.1
def VM(c:TC)(s:zO):S:=match s with
 |.FunctionDef name _ _ decs ret tps scope tscope bind _=>XA<|(gd (decs.isEmpty&&ret.isNone&&tps.isEmpty&&tscope.isNone&&jg name bind) ()).bind λz=>(fo bind c.ns 0).bind λp=>
   (pK scope.names).bind λx=>(fo x c.ns 0).bind λq=>gd (qY p.2&&Ca q.2)<|.defn p.1 (c.nst name) [q.1]
 |s=>Z4 30 c s
def f6(free:List Str)(ns:List (Str×cF)):List NK:=ns.map λp=>match p.2 with
 |.cell=>.sD
 |.free=>.Z6<|(free.findIdx? λx=>jg x p.1).getD 0
 |_=>.loc
def MT(c:TC)(keep:Bool)(params:fh)(wz:List SV)(body:List zO)(scope:Scope):Fn:=
 {np:=params.args.length,wz,kinds:=f6 ((scope.names.filter λp=>p.2==.free).map (·.1)) scope.names,body:=body.map<|VM<|fw c scope,keep}
structure jE(Z:dM)(c:TC):Prop where
 gl:∃mg mb,zr Z mg mb/\∀x v,c.gl x=some v->mg x=some v\/(mg x=none/\mb x=some v)
 wW:∃ep t,Z.base c.wW=some (yV #[] ep t)/\SG Z.w #[] t (λz=>False)
 at_:∀a,c.at_ a<iY->Z.nm (c.at_ a)=a
section
variable{Z:dM}{C:bT}{M:b6}{n:Nat}{ns:bX}{c:TC}
def vX(Z:dM)(ns:bX)(env:Env)(bk:bo)(v:SV)(g fx:FH)(ρ:eE)(Q:Value->Shared->Prop):Prop:=
 ∀g' fx' bQ s' y,ey g ρ g' bQ->(∀b,b≠env.locals->fx' b=fx b)->dE Z ns env bk g' fx' bQ s'->RV Z g' bQ v y->Q y s'
def A7(Z:dM)(ns:bX)(env:Env)(bk:bo)(b:Bool)(g fx:FH)(ρ:eE)(Q:Bool->Shared->Prop):Prop:=
 ∀g' fx' bQ s',ey g ρ g' bQ->(∀b,b≠env.locals->fx' b=fx b)->dE Z ns env bk g' fx' bQ s'->Q b s'
def zw(Z:dM)(ns:bX)(env:Env)(bk:bo)(g fx:FH)(ρ:eE)(Q:Unit->Shared->Prop):Prop:=
 ∀g' fx' bQ s',ey g ρ g' bQ->(∀b,b≠env.locals->fx' b=fx b)->dE Z ns env bk g' fx' bQ s'->Q () s'
def Jj(Z:dM)(ns:bX)(env:Env)(bk:bo)(vs:List SV)(g fx:FH)(ρ:eE)(Q:List Value->Shared->Prop):Prop:=
 ∀g' fx' bQ s' ys,ey g ρ g' bQ->(∀b,b≠env.locals->fx' b=fx b)->dE Z ns env bk g' fx' bQ s'->ei Z g' bQ vs ys->Q ys s'
theorem vX.of{env:Env}{bk:bo}{g fx bu a8:FH}{ρ aQ:eE}(X:ey g ρ bu aQ)(F:∀b,b≠env.locals->a8 b=fx b)(P:vX Z ns env bk v g fx ρ Q):vX Z ns env bk v bu a8 aQ Q:=
 λg' fx' bQ s' y X' F'=>P g' fx' bQ s' y (X.trans X') λb hb=>(F' b hb).trans<|F b hb
theorem A7.of{env:Env}{bk:bo}{g fx bu a8:FH}{ρ aQ:eE}(X:ey g ρ bu aQ)(F:∀b,b≠env.locals->a8 b=fx b)(P:A7 Z ns env bk v g fx ρ Q):A7 Z ns env bk v bu a8 aQ Q:=
 λg' fx' bQ s' X' F'=>P g' fx' bQ s' (X.trans X') λb hb=>(F' b hb).trans<|F b hb
theorem zw.of{env:Env}{bk:bo}{g fx bu a8:FH}{ρ aQ:eE}(X:ey g ρ bu aQ)(F:∀b,b≠env.locals->a8 b=fx b)(P:zw Z ns env bk g fx ρ Q):zw Z ns env bk bu a8 aQ Q:=
 λg' fx' bQ s' X' F'=>P g' fx' bQ s' (X.trans X') λb hb=>(F' b hb).trans<|F b hb
theorem Jj.of{env:Env}{bk:bo}{g fx bu a8:FH}{ρ aQ:eE}(X:ey g ρ bu aQ)(F:∀b,b≠env.locals->a8 b=fx b)(P:Jj Z ns env bk v g fx ρ Q):Jj Z ns env bk v bu a8 aQ Q:=
 λg' fx' bQ s' y X' F'=>P g' fx' bQ s' y (X.trans X') λb hb=>(F' b hb).trans<|F b hb
def fK(Z:dM)(n:Nat)(ns:bX)(C:bT)(M:b6)(t:E)(e:ao):Prop:=
 ∀σ bk v,cj C M t σ=some (v,bk)->∀env A g fx ρ s,d8 ns env->t6 n A->dE Z ns env σ g fx ρ s->∀E Q,vX Z ns env bk v g fx ρ Q->av (Mo Z) A (eval e env) Q E s
def nQ(Z:dM)(n:Nat)(ns:bX)(C:bT)(M:b6)(t:E)(e:ao):Prop:=
 ∀σ bk v b,cj C M t σ=some (v,bk)->gh v=some b->∀env A g fx ρ s,d8 ns env->t6 n A->dE Z ns env σ g fx ρ s->∀E Q,A7 Z ns env bk b g fx ρ Q->av (Mo Z) A (isTrue e env<|eval e env) Q E s
def rt(Z:dM)(n:Nat)(ns:bX)(C:bT)(M:b6)(ts:List E)(es:List ao):Prop:=
 ∀σ bk vs,iq C M ts σ=some (vs,bk)->∀env A g fx ρ s,d8 ns env->t6 n A->dE Z ns env σ g fx ρ s->∀pos E Q,Jj Z ns env bk vs g fx ρ Q->av (Mo Z) A (v7<|vg pos<|kW es env) Q E s
variable{env:Env}{A:bD}{g fx:FH}{ρ:eE}{s:Shared}{σ bk:bo}{R:Value->Shared->Prop}
theorem dE.with(G:dE Z ns env σ g fx ρ s)(X:ey g ρ g' bQ)(S:b7 Z bk.st g' fx bQ s')(hl:bk.loc=σ.loc):dE Z ns env bk g' fx bQ s':=
 ⟨S,hl▸G.AS.mono X⟩
theorem bE.post(Y:bE Z A t st' v g fx ρ s)(G:dE Z ns env σ g fx ρ s)(hs:bk.st=st')(hl:bk.loc=σ.loc)(P:vX Z ns env bk v g fx ρ Q):av (Mo Z) A t Q R s:=
 Y R Q λg' bQ s' y X S r=>P g' fx bQ s' y X (λz z=>rfl) (G.with X (hs▸S) hl) r
theorem sg.post(Y:sg Z A t st' g fx ρ s)(G:dE Z ns env σ g fx ρ s)(hs:bk.st=st')(hl:bk.loc=σ.loc)(P:zw Z ns env bk g fx ρ Q):av (Mo Z) A t Q R s:=
 Y R Q λg' bQ s' X S=>P g' fx bQ s' X (λz z=>rfl)<|G.with X (hs▸S) hl
theorem vX.now(P:vX Z ns env σ v g fx ρ Q)(G:dE Z ns env σ g fx ρ s)(t:Nat)(r:RV Z g ρ v y):Q y {s with toks:=t}:=
 P g fx ρ _ y (.refl _ _) (λz z=>rfl) (G.with (.refl _ _) (G.fM.tok t) rfl) r
theorem nQ.value(h:fK Z n ns C M t e)(he:∀env:Env,isTrue e env (eval e env)=(do let v<-eval e env;ma e.pos;k7 [v] (ql v))):nQ Z n ns C M t e:=
 λσ bk v b ev hb env A g fx ρ s V hA G E Q P=>wpAny_isTrue_value (h σ bk v ev env A g fx ρ s V hA G E _ λg' fx' bQ s' y X F G' r=>Bz hb λhv=>by subst hv;obtain rfl:=r;exact fU<|P g' fx' bQ s' X F G')<|he env
theorem M7:fK Z n ns C M .none (.Constant .none k pos):=
 λσ bk v ev env A g fx ρ s V hA G E Q P=>pI ev λe1 e2=>by subst e1 e2;exact wpAny_Constant_none<|P.now G s.toks rfl
theorem Nc:fK Z n ns C M (.bool b) (.Constant (.bool b) k pos):=
 λσ bk v ev env A g fx ρ s V hA G E Q P=>pI ev λe1 e2=>by subst e1 e2;exact wpAny_Constant_bool<|P.now G s.toks rfl
theorem Ic:fK Z n ns C M (.int i) (.Constant (.int i) k pos):=
 λσ bk v ev env A g fx ρ s V hA G E Q P=>pI ev λe1 e2=>by subst e1 e2;exact wpAny_Constant_int<|P.now G _ ⟨_,rfl⟩
theorem Se:fK Z n ns C M (.str x) (.Constant (.str x) k pos):=
 λσ bk v ev env A g fx ρ s V hA G E Q P=>pI ev λe1 e2=>by subst e1 e2;exact xE<|P.now G _ ⟨_,rfl⟩
theorem lV(T:jE Z c)(V:d8 ns env)(G:dE Z ns env σ g fx ρ s)(hp:fo x ns 0=some (i,.globalImplicit))(hv:c.gl x=some v)(h:Q v s):
  av (Mo Z) A (eval (.Name x pos) env) Q R s:=by
 refine kg (iz hp) λhi hl=>rJ T.gl λmg mb Tp hgl=>?_
 have hd:=V.pM _<|aI hi
 refine dS Tp.g λog hog ng=>dS Tp.b λob hob nb=>?_
 have h1:=ng.ns<|G.fM.fy _ _ hog
 have h2:=nb.ns<|G.fM.fy _ _ hob
 rw[<-V.globals] at h1
 rw[<-V.builtins] at h2
 exact Name_function_global V.kind (V.glob _ hl) ((hgl x v hv).elim (λhm=>loadGlobal_global h1 hm h) λhm=>loadGlobal_builtin h1 hm.1 h2 hm.2 h) hd.1
theorem Ga(h:∀t,x=some t->fK Z n ns C M t e):fK Z n ns C M (ob x) e:=by
 cases x with
 |none=>exact λσ bk v ev=>aW ev
 |some t=>exact h t rfl
theorem Pm(h:qZ k=true):k=.local\/k=.cell\/k=.free:=by cases k<;>first|exact .inl rfl|exact .inr (.inl rfl)|exact .inr (.inr rfl)|exact ae h
theorem BC(h:qY k=true):k=.local\/k=.cell:=by cases k<;>first|exact .inl rfl|exact .inr rfl|exact ae h
theorem aaF(h:IJ k=true):k=.globalImplicit:=by cases k<;>first|rfl|exact ae h
theorem Pa{P:Prop}(h:Eb c x k=some v)(f:k=.globalImplicit->c.gl x=some v->P):P:=r7 h λh1 h2=>f (aaF h1) h2
set_option tactic.hygienic true in
theorem JX(T:jE Z c)(hp:fo x ns 0=some (i,.globalImplicit))(hv:c.gl x=some v):fK Z n ns C M (AQ c v) (.Name x pos):=by
 intro σ bk u ev env A g fx ρ s V hA G E Q P;cases v<;>first|exact aW ev|skip
 ·exact pI ev λe1 e2=>by subst e1 e2;exact lV T V G hp hv<|P.now G s.toks ⟨_,rfl⟩
 ·exact pI ev λe1 e2=>by subst e1 e2;exact lV T V G hp hv<|P.now G s.toks ⟨_,rfl⟩
 ·rename_i a
  cases ha:a==c.wW with
  |true=>rw[show AQ c (.ref a)=.Ad by show(match a==c.wW with|true=>Mine.E.Ad|false=>.glob<|.ref a)=_;rw[ha]] at ev;obtain rfl:=beq_iff_eq.mp ha;refine rJ T.wW λep t hb hG=>pI ev λe1 e2=>by subst e1 e2;exact lV T V G hp hv<|P.now G s.toks ⟨_,_,_,_,rfl,G.fM.top _ _ hb,hG.congr λi=>⟨λf=>f.elim,λf=>absurd f aK⟩,mB,rfl⟩
  |false=>rw[show AQ c (.ref a)=.glob (.ref a) by show(match a==c.wW with|true=>Mine.E.Ad|false=>.glob<|.ref a)=_;rw[ha]] at ev;exact pI ev λe1 e2=>by subst e1 e2;exact lV T V G hp hv<|P.now G s.toks ⟨rfl,rfl⟩
theorem M8(T:jE Z c)(hc:c.ns=ns):fK Z n ns C M (uI c x) (.Name x pos):=by
 subst hc;refine Ga λt ht=>dj ht λp hp ht=>?_;cases hk:qZ p.2 with
 |true=>rw[hk] at ht;subst ht;exact λσ bk v ev env A g fx ρ s V hA G E Q P=>abK ev λh1 h2=>by subst h2;exact KH hp (Pm hk) h1 V G λy r=>P.now G s.toks r
 |false=>rw[hk] at ht;subst ht;exact Ga λt ht=>dj ht λv hv ht=>Pa hv λh1 h2=>by subst ht;exact JX T (hp.trans<|congrArg some<|Vo rfl h1) h2
theorem SP(h:opE o=some p):o=N8 p:=by cases o<;>first|exact aW h|(obtain rfl:=aa h;rfl)
theorem Sk(hl:fK Z n ns C M tl l)(hr:fK Z n ns C M tr r):fK Z n ns C M (.bin op tl tr) (.BinOp l (N8 op) r pos):=
 λσ bk v ev env A g fx ρ s V hA G E Q P=>abM ev λa aq b ea eb hw=>wpAny_BinOp<|hl σ aq a ea env A g fx ρ s V hA G E _ λbu a8 aQ aC y bC b5 bG cD=>
  hr aq bk b eb env A bu a8 aQ aC V hA bG E _ λfE dB dP dJ z cy fA dD iM=>(UJ dD.fM hw (cD.mono cy) iM).post dD rfl rfl<|(P.of bC b5).of cy fA
end
theorem oh(h:bP e=true):kW (e::es) env=(false,eval e env)::kW es env:=by cases e<;>first|rfl|exact ae h
theorem BX(h:fJ e=true)(op:CmpOp):behindInMarks op e=false:=by cases e<;>first|rfl|exact ae h
section
variable{Z:dM}{C:bT}{M:b6}{n:Nat}{ns:bX}{c:TC}
theorem oQ:rt Z n ns C M [] []:=λσ bk vs ev env A g fx ρ s V hA G pos E Q P=>eI (aa ev) λe1 e2=>by subst e1 e2;exact ab<|P g fx ρ s [] (.refl _ _) (λz z=>rfl) G rfl
theorem lE(hs:bP e=true)(h:fK Z n ns C M t e)(hl:rt Z n ns C M ts es):rt Z n ns C M (t::ts) (e::es):=
 λσ bk vs ev env A g fx ρ s V hA G pos E Q P=>abL ev λv aq ws e1 e2 hv=>by subst hv;rw[oh hs];show av _ _ (v7<|(false,eval e env)::vg pos (kW es env)) Q E s;unfold v7;refine aJ<|h σ aq v e1 env A g fx ρ s V hA G E _ λbu a8 aQ aC y bC b5 bG cD=>?_;refine u7 bh<|aX<|ab<|aX<|aR<|hl aq _ ws e2 env A bu a8 aQ aC V hA bG pos E _ λfE dB dP dJ ys cy fA dD iM=>ab ?_;exact(P.of bC b5) fE dB dP dJ _ cy fA dD ⟨y,ys,rfl,cD.mono cy,iM⟩
theorem R9(h:rt Z n ns C M ts es):fK Z n ns C M (.tup ts) (.Tuple es k pos):=
 λσ bk v ev env A g fx ρ s V hA G E Q P=>abG ev λvs e1 hl hv=>by subst hv;refine wpAny_Tuple (h σ _ vs e1 env A g fx ρ s V hA G pos E _ λbu a8 aQ aC ys bC b5 bG cD=>⟨by rw[cD.length];exact iC hl,?_⟩);obtain⟨S',r'⟩:=vG (vs:=ys.toArray) bG.fM aC.toks cx (bL _) ez cD;exact(P.of bC b5) _ a8 aQ _ _ a7 (λz z=>rfl) (bG.with a7 S' rfl) r'
theorem M9(h:rt Z n ns C M ts es):fK Z n ns C M (.list m ts) (.List es pos):=
 λσ bk v ev env A g fx ρ s V hA G E Q P=>Yc ev λvs aq e1 hl hv=>by refine wpAny_List (h σ _ vs e1 env A g fx ρ s V hA G pos E _ λbu a8 aQ aC ys bC b5 bG cD=>⟨by rw[cD.length];exact iC hl,?_⟩);obtain⟨g',bQ,S',X',r',hloc⟩:=yI (vs:=ys.toArray) bG.fM aC.toks cx (bL _) ez cD m aq rfl;rw[hv] at S' r' hloc;exact(P.of bC b5) _ a8 bQ _ _ X' (λz z=>rfl) (bG.with X' S' hloc) r'
theorem Ib(h:fK Z n ns C M t e):fK Z n ns C M (.neg t) (.UnaryOp .USub e pos):=
 λσ bk v ev env A g fx ρ s V hA G E Q P=>abJ ev λi e1 hv=>by subst hv;exact wpAny_UnaryOp<|h σ _ _ e1 env A g fx ρ s V hA G E _ λbu a8 aQ aC y bC b5 bG cD=>(XD bG.fM cD).post bG rfl rfl<|P.of bC b5
theorem g9(h:Mine.gh v=some b):v=.bool b:=Bz h id
theorem Nk(h:nQ Z n ns C M t e):nQ Z n ns C M (.not t) (.UnaryOp .Not e pos):=
 λσ bk v b ev hb env A g fx ρ s V hA G E Q P=>V6 ev λw d e1 h1 hv=>by subst hv;obtain rfl:=aa hb;exact wpAny_isTrue_Not<|h σ _ w d e1 h1 env A g fx ρ s V hA G E _ P
theorem Sg(h:fK Z n ns C M t e):fK Z n ns C M (.not t) (.UnaryOp .Not e pos):=
 λσ bk v ev env A g fx ρ s V hA G E Q P=>V6 ev λw d e1 h1 hv=>by subst hv;obtain rfl:=g9 h1;refine wpAny_UnaryOp<|h σ _ _ e1 env A g fx ρ s V hA G E _ λbu a8 aQ aC y bC b5 bG cD=>?_;obtain rfl:=cD;show av _ _ (do return .bool (!(<-ql<|.bool d))) Q E aC;exact aX<|fU<|ab<|(P.of bC b5).now bG aC.toks rfl
section
variable{st:List SO}{g fx:FH}{ρ:eE}{s:Shared}{A:bD}
theorem wx(S:b7 Z st g fx ρ s)(e:Ul st a b=some r)(ra:RV Z g ρ a x)(rb:RV Z g ρ b y)(hu:A.units+cw<cLine):
  bE Z A (eH .Eq x y) st (.bool r) g fx ρ s/\bE Z A (eH .NotEq x y) st (.bool<|!r) g fx ρ s:=by
 unfold Ul at e
 cases hf:wX a with
 |true=>rw[hf] at e;exact aw e λi h1 e=>dj e λj h2 er=>sf h1 λq1=>sf h2 λq2=>by subst q1 q2 er;exact Uk S ra rb<|qC hu
 |false=>rw[hf] at e;exact aw e λda h1 e=>aw e λdb h2 e=>j8 e λhd er=>by subst er;exact⟨RC S h1 h2 ra rb (fX hd) hu,Rz S h1 h2 ra rb (fX hd) hu⟩
theorem wu(S:b7 Z st g fx ρ s)(e:GY st a b=some r)(ra:RV Z g ρ a x)(rb:RV Z g ρ b y)(hu:A.units+65<cLine):
  bE Z A (eH .In x y) st (.bool r) g fx ρ s/\bE Z A (eH .NotIn x y) st (.bool<|!r) g fx ρ s:=by
 unfold GY at e
 cases hf:wX b with
 |true=>rw[hf] at e;exact aw e λi h1 e=>dj e λj h2 er=>sf h1 λq1=>iD h2 λq2=>by subst q1 q2 er;exact TH S ra rb
 |false=>
  rw[hf] at e;cases hd:jk st b with
  |some p=>rw[hd] at e;exact RB S hd e ra rb hu
  |none=>rw[hd] at e;exact aw e λxs hx e=>X5 S hx e ra rb (by simp -iota only[cw];exact adb hu)
theorem XC{x:Option Bool}(e:x.map (!·)=some r)(h:∀d,x=some d->bE Z A t st (.bool<|!d) g fx ρ s):bE Z A t st (.bool r) g fx ρ s:=dj e λd h1 h2=>by subst h2;exact h d h1
theorem jC(S:b7 Z st g fx ρ s)(e:jB st (Lg o) a b=some r)(ra:RV Z g ρ a x)(rb:RV Z g ρ b y)(hu:A.units+65<cLine):
  bE Z A (eH o x y) st (.bool r) g fx ρ s:=by
 have hu':A.units+cw<cLine:=by simp -iota only[cw];exact aek hu
 have ic:∀{f:Int->Int->Bool}{t:Al Value},OY f a b=some r->(∀i j,RV Z g ρ (.int i) x->RV Z g ρ (.int j) y->bE Z A t st (.bool<|f i j) g fx ρ s)->bE Z A t st (.bool r) g fx ρ s:=λe' k=>
  aw e' λi h1 e'=>dj e' λj h2 er=>iD h1 λq1=>iD h2 λq2=>by subst q1 q2 er;exact k i j ra rb
 have isn:∀{u:Option Bool},((gd (isN b) ()).bind λz=>u)=some r->b=.none/\u=some r:=λe=>r7 e λh1 h2=>⟨by cases b<;>first|rfl|exact ae h1,h2⟩
 cases o with
 |Eq=>exact(wx S e ra rb hu').1
 |NotEq=>exact XC e λd h1=>(wx S h1 ra rb hu').2
 |Lt=>exact ic e λi j ra rb=>(IC S ra rb).1
 |LtE=>exact ic e λi j ra rb=>(IC S ra rb).2.1
 |Gt=>exact ic e λi j ra rb=>(IC S ra rb).2.2.1
 |GtE=>exact ic e λi j ra rb=>(IC S ra rb).2.2.2
 |Is=>exact(V3 S (isn e).2 ra<|(isn e).1▸rb).1
 |IsNot=>exact XC (isn e).2 λd h1=>(V3 S h1 ra<|(isn e).1▸rb).2
 |In=>exact(wu S e ra rb hu).1
 |NotIn=>exact XC e λd h1=>(wu S h1 ra rb hu).2
end
theorem t6.u{A:bD}(h:t6 n A):A.units+65<cLine:=by have:=h.units;exact aej this
theorem bE.test{g fx:FH}{ρ:eE}{s:Shared}{A:bD}(Y:bE Z A t st' (.bool d) g fx ρ s)(h:∀g' bQ s',ey g ρ g' bQ->b7 Z st' g' fx bQ s'->Q d s'):av (Mo Z) A t (λv s'=>av (Mo Z) A (ql v) Q R s') R s:=
 Y R _ λiN ir fN aad eC vd pe=>by obtain rfl:=pe;exact fU<|h iN ir fN eC vd
theorem Sj(hl:fK Z n ns C M tl l)(hr:fK Z n ns C M tr r)(hs:fJ r=true):fK Z n ns C M (.cmp (Lg o) tl tr) (.Compare l [o] [r] pos):=
 λσ bk v ev env A g fx ρ s V hA G E Q P=>V8 ev λa aq b d ea eb hd hv=>by
  subst hv;exact wpAny_Compare1 (hl σ aq a ea env A g fx ρ s V hA G E _ λbu a8 aQ aC y bC b5 bG cD=>hr aq _ b eb env A bu a8 aQ aC V hA bG E _ λfE dB dP dJ z cy fA dD iM=>
   (jC dD.fM hd (cD.mono cy) iM hA.u).post dD rfl rfl ((P.of bC b5).of cy fA))<|BX hs _
theorem Nm(hl:fK Z n ns C M tl l)(hr:fK Z n ns C M tr r)(hs:fJ r=true):nQ Z n ns C M (.cmp (Lg o) tl tr) (.Compare l [o] [r] pos):=
 λσ bk v bb ev hb env A g fx ρ s V hA G E Q P=>V8 ev λa aq b d ea eb hd hv=>by
  subst hv;obtain rfl:=aa hb;exact wpAny_isTrue_Compare1 (hl σ aq a ea env A g fx ρ s V hA G E _ λbu a8 aQ aC y bC b5 bG cD=>hr aq _ b eb env A bu a8 aQ aC V hA bG E _ λfE dB dP dJ z cy fA dD iM=>
   (jC dD.fM hd (cD.mono cy) iM hA.u).test λiN ir fN eC vd=>((P.of bC b5).of cy fA) iN dB ir fN eC (λw w=>rfl)<|dD.with eC vd rfl)<|BX hs _
theorem pO(hs:fJ r=true):lastMarks [o1,o2] [m,r]=false:=BX hs o2
theorem Na(hl:fK Z n ns C M tl l)(hm:fK Z n ns C M tm m)(hr:fK Z n ns C M tr r)(hs:fJ r=true):
  fK Z n ns C M (.CC (Lg o1) (Lg o2) tl tm tr) (.Compare l [o1,o2] [m,r] pos):=
 λσ bk v ev env A g fx ρ s V hA G E Q P=>O0 ev
  (λa aq b aU w d ea eb hd ec hd' hv=>by subst hv;refine Compare_chain (hl σ aq a ea env A g fx ρ s V hA G E _ λbu a8 aQ aC y bC b5 bG cD=>?_)<|pO hs;refine chain_link<|hm aq aU b eb env A bu a8 aQ aC V hA bG E _ λfE dB dP dJ z cy fA dD iM=>?_;refine jC dD.fM hd (cD.mono cy) iM hA.u _ _ λiN ir fN aad eC vd pe=>?_;obtain rfl:=pe;refine fU ?_;rw[if_pos rfl];refine chain_last<|hr aU _ w ec env A iN dB ir fN V hA (dD.with eC vd rfl) E _ λqy pZ qw kj u kD sY n7 sj=>?_;exact(jC n7.fM hd' ((iM.mono eC).mono kD) sj hA.u).post n7 rfl rfl<|(((P.of bC b5).of cy fA).of eC λq q=>rfl).of kD sY)
  (λa aq b ea eb hd hv=>by subst hv;refine Compare_chain (hl σ aq a ea env A g fx ρ s V hA G E _ λbu a8 aQ aC y bC b5 bG cD=>?_)<|pO hs;refine chain_link<|hm aq _ b eb env A bu a8 aQ aC V hA bG E _ λfE dB dP dJ z cy fA dD iM=>?_;refine jC dD.fM hd (cD.mono cy) iM hA.u _ _ λiN ir fN aad eC vd pe=>?_;obtain rfl:=pe;refine fU ?_;rw[if_neg bh];exact(((P.of bC b5).of cy fA).of eC λq q=>rfl).now (dD.with eC vd rfl) fN.toks rfl)
theorem Ka(hl:fK Z n ns C M tl l)(hm:fK Z n ns C M tm m)(hr:fK Z n ns C M tr r)(hs:fJ r=true):
  nQ Z n ns C M (.CC (Lg o1) (Lg o2) tl tm tr) (.Compare l [o1,o2] [m,r] pos):=
 λσ bk v bb ev hb env A g fx ρ s V hA G E Q P=>O0 ev
  (λa aq b aU w d ea eb hd ec hd' hv=>by subst hv;obtain rfl:=aa hb;refine isTrue_chain (hl σ aq a ea env A g fx ρ s V hA G E _ λbu a8 aQ aC y bC b5 bG cD=>?_)<|pO hs;refine test_link<|hm aq aU b eb env A bu a8 aQ aC V hA bG E _ λfE dB dP dJ z cy fA dD iM=>?_;refine(jC dD.fM hd (cD.mono cy) iM hA.u).test λiN ir fN eC vd=>?_;rw[if_pos rfl];refine test_last<|hr aU _ w ec env A iN dB ir fN V hA (dD.with eC vd rfl) E _ λqy pZ qw kj u kD sY n7 sj=>?_;exact(jC n7.fM hd' ((iM.mono eC).mono kD) sj hA.u).test λC1 xw u9 vc Wy=>((((P.of bC b5).of cy fA).of eC λq q=>rfl).of kD sY) C1 pZ xw u9 vc (λq q=>rfl)<|n7.with vc Wy rfl)
  (λa aq b ea eb hd hv=>by subst hv;obtain rfl:=aa hb;refine isTrue_chain (hl σ aq a ea env A g fx ρ s V hA G E _ λbu a8 aQ aC y bC b5 bG cD=>?_)<|pO hs;refine test_link<|hm aq _ b eb env A bu a8 aQ aC V hA bG E _ λfE dB dP dJ z cy fA dD iM=>?_;refine(jC dD.fM hd (cD.mono cy) iM hA.u).test λiN ir fN eC vd=>?_;rw[if_neg bh];exact((P.of bC b5).of cy fA) iN dB ir fN eC (λq q=>rfl)<|dD.with eC vd rfl)
theorem Sh(hc:nQ Z n ns C M tc e)(ht:fK Z n ns C M tt a)(he:fK Z n ns C M te b):fK Z n ns C M (.ite tc tt te) (.IfExp e a b pos):=
 λσ bk v ev env A g fx ρ s V hA G E Q P=>V7 ev λw aq d e1 hw ev=>wpAny_IfExp (hc σ aq w d e1 hw env A g fx ρ s V hA G E _ λbu a8 aQ aC bC b5 bG=>by
  cases d with
  |true=>rw[if_pos rfl];exact ht aq bk v ev env A bu a8 aQ aC V hA bG E Q<|P.of bC b5
  |false=>rw[if_neg bh];exact he aq bk v ev env A bu a8 aQ aC V hA bG E Q<|P.of bC b5)
theorem Nl(hc:nQ Z n ns C M tc e)(ht:nQ Z n ns C M tt a)(he:nQ Z n ns C M te b):nQ Z n ns C M (.ite tc tt te) (.IfExp e a b pos):=
 λσ bk v bb ev hb env A g fx ρ s V hA G E Q P=>V7 ev λw aq d e1 hw ev=>by
  show av _ _ (do if<-isTrue e env (eval e env) then isTrue a env (eval a env) else isTrue b env (eval b env)) Q E s;refine aJ<|hc σ aq w d e1 hw env A g fx ρ s V hA G E _ λbu a8 aQ aC bC b5 bG=>?_;cases d with
  |true=>refine MJ rfl ?_;exact ht aq bk v bb ev hb env A bu a8 aQ aC V hA bG E Q<|P.of bC b5
  |false=>refine u7 bh ?_;exact he aq bk v bb ev hb env A bu a8 aQ aC V hA bG E Q<|P.of bC b5
def qL(Z:dM)(n:Nat)(ns:bX)(C:bT)(M:b6):List Mine.E->List ao->Prop
 |[],[]=>True
 |t::ts,e::es=>(fK Z n ns C M t e/\nQ Z n ns C M t e)/\qL Z n ns C M ts es
 |_,_=>False
abbrev RD(Z:dM)(n:Nat)(ns:bX)(op:BoolOp)(r:Option (SV×bo))(σ:bo)(es:List ao):Prop:=∀v bk b,r=some (v,bk)->gh v=some b->∀env A g fx ρ s,d8 ns env->t6 n A->dE Z ns env σ g fx ρ s->∀E Q,A7 Z ns env bk b g fx ρ Q->av (Mo Z) A (allTrue op es env) Q E s
theorem uS{P:List Mine.E->List ao->Prop}(z:P [] [])(k:∀t x ts es,fK Z n ns C M t x->nQ Z n ns C M t x->P ts es->P (t::ts) (x::es)):∀{es:List ao},qL Z n ns C M ts es->P ts es:=by
 induction ts with
 |nil=>
  intro es h;cases es with
  |nil=>exact z
  |cons _ _=>exact h.elim
 |cons t ts ih=>
  intro es h;cases es with
  |nil=>exact h.elim
  |cons x es=>exact k t x ts es h.1.1 h.1.2<|ih h.2
theorem EJ(h:qL Z n ns C M ts es):∀{σ:bo},RD Z n ns .And (kP C M ts σ) σ es:=
 uS (P:=λts es=>∀{σ:bo},RD Z n ns .And (kP C M ts σ) σ es) (λ{σ} v bk b ev hb env A g fx ρ s V hA G E Q P=>pI ev λe1 e2=>by subst e1 e2;obtain rfl:=aa hb;exact wpAny_allTrue_And_nil<|P g fx ρ s (.refl _ _) (λz z=>rfl) G)
 (λt x ts es _ h ih {σ} v bk b ev hb env A g fx ρ s V hA G E Q P=>wpAny_allTrue_And_cons (IS ev
  (λw aq e1 hw ev=>h σ aq w true e1 hw env A g fx ρ s V hA G E _ λbu a8 aQ aC bC b5 bG=>by rw[if_pos rfl];exact ih v bk b ev hb env A bu a8 aQ aC V hA bG E Q<|P.of bC b5)
  λw e1 hw hv=>by subst hv;obtain rfl:=aa hb;exact h σ _ w false e1 hw env A g fx ρ s V hA G E _ λbu a8 aQ aC bC b5 bG=>by rw[if_neg bh];exact P bu a8 aQ aC bC b5 bG)) h
theorem Hw(h:qL Z n ns C M ts es):∀{σ:bo},RD Z n ns .Or (En C M ts σ) σ es:=
 uS (P:=λts es=>∀{σ:bo},RD Z n ns .Or (En C M ts σ) σ es) (λ{σ} v bk b ev hb env A g fx ρ s V hA G E Q P=>pI ev λe1 e2=>by subst e1 e2;obtain rfl:=aa hb;exact wpAny_allTrue_Or_nil<|P g fx ρ s (.refl _ _) (λz z=>rfl) G)
 (λt x ts es _ h ih {σ} v bk b ev hb env A g fx ρ s V hA G E Q P=>wpAny_allTrue_Or_cons (X9 ev
  (λw aq e1 hw ev=>h σ aq w false e1 hw env A g fx ρ s V hA G E _ λbu a8 aQ aC bC b5 bG=>by rw[if_neg bh];exact ih v bk b ev hb env A bu a8 aQ aC V hA bG E Q<|P.of bC b5)
  λw e1 hw hv=>by subst hv;obtain rfl:=aa hb;exact h σ _ w true e1 hw env A g fx ρ s V hA G E _ λbu a8 aQ aC bC b5 bG=>by rw[if_pos rfl];exact P bu a8 aQ aC bC b5 bG)) h
theorem Np(h:qL Z n ns C M ts es):nQ Z n ns C M (.and ts) (.BoolOp .And es pos):=
 λσ bk v b ev hb env A g fx ρ s V hA G E Q P=>Vj<|EJ h v bk b ev hb env A g fx ρ s V hA G E Q P
theorem Sn(h:qL Z n ns C M ts es):nQ Z n ns C M (.or ts) (.BoolOp .Or es pos):=
 λσ bk v b ev hb env A g fx ρ s V hA G E Q P=>Vj<|Hw h v bk b ev hb env A g fx ρ s V hA G E Q P
set_option backward.match.sparseCases true in
theorem wB{A:bD}{s:Shared}
  (h:av (Mo Z) A (eval x env) (λv aC=>∃b,v=.bool b/\(match op,b with|.And,false|.Or,true=>Q v aC|_,_=>av (Mo Z) A (boolOp pos op<|E9 (x2::es) env) Q R aC)) R s):av (Mo Z) A (boolOp pos op<|E9 (x::x2::es) env) Q R s:=by
 show av _ _ (do
  let v<-eval x env
  ma pos
  let t<-k7 [v]<|ql v;match op,t with
  |.And,false|.Or,true=>pure v
  |_,_=>boolOp pos op<|E9 (x2::es) env) Q R s
 refine aX<|eS h (λv aC i5=>aX<|dF<|aX<|aR ?_) λy y z=>z
 obtain⟨b,rfl,i5⟩:=i5
 refine fU ?_
 cases op<;>cases b<;>first|exact i5|exact ab i5
abbrev Jn(Z:dM)(n:Nat)(ns:bX)(pos:Pos)(op:BoolOp)(r:Option (SV×bo))(σ:bo)(es:List ao):Prop:=∀v bk,r=some (v,bk)->∀env A g fx ρ s,d8 ns env->t6 n A->dE Z ns env σ g fx ρ s->∀E Q,vX Z ns env bk v g fx ρ Q->av (Mo Z) A (boolOp pos op<|E9 es env) Q E s
theorem Hp(h:qL Z n ns C M (t::ts) (x::es)):∀{σ:bo},Jn Z n ns pos .And (kP C M (t::ts) σ) σ (x::es):=
 uS (P:=λts es=>∀(t:E) x,fK Z n ns C M t x->∀{σ:bo},Jn Z n ns pos .And (kP C M (t::ts) σ) σ<|x::es) (λt x h {σ} v bk ev env A g fx ρ s V hA G E Q P=>IS ev
  (λw aq e1 hw ev=>pI ev λa b=>by subst a b;obtain rfl:=g9 hw;exact h σ _ _ e1 env A g fx ρ s V hA G E Q P)
  λw e1 hw hv=>by subst hv;obtain rfl:=g9 hw;exact h σ _ _ e1 env A g fx ρ s V hA G E Q P)
 (λt2 x2 ts es h2 _ ih t x h {σ} v bk ev env A g fx ρ s V hA G E Q P=>wB (IS ev
  (λw aq e1 hw ev=>h σ aq w e1 env A g fx ρ s V hA G E _ λbu a8 aQ aC y bC b5 bG cD=>by obtain rfl:=g9 hw;exact⟨true,cD,ih t2 x2 h2 v bk ev env A bu a8 aQ aC V hA bG E Q<|P.of bC b5⟩)
  λw e1 hw hv=>by subst hv;obtain rfl:=g9 hw;exact h σ _ _ e1 env A g fx ρ s V hA G E _ λbu a8 aQ aC y bC b5 bG cD=>⟨false,cD,P bu a8 aQ aC _ bC b5 bG cD⟩)) h.2 t x h.1.1
theorem Ll(h:qL Z n ns C M (t::ts) (x::es)):∀{σ:bo},Jn Z n ns pos .Or (En C M (t::ts) σ) σ (x::es):=
 uS (P:=λts es=>∀(t:E) x,fK Z n ns C M t x->∀{σ:bo},Jn Z n ns pos .Or (En C M (t::ts) σ) σ<|x::es) (λt x h {σ} v bk ev env A g fx ρ s V hA G E Q P=>X9 ev
  (λw aq e1 hw ev=>pI ev λa b=>by subst a b;obtain rfl:=g9 hw;exact h σ _ _ e1 env A g fx ρ s V hA G E Q P)
  λw e1 hw hv=>by subst hv;obtain rfl:=g9 hw;exact h σ _ _ e1 env A g fx ρ s V hA G E Q P)
 (λt2 x2 ts es h2 _ ih t x h {σ} v bk ev env A g fx ρ s V hA G E Q P=>wB (X9 ev
  (λw aq e1 hw ev=>h σ aq w e1 env A g fx ρ s V hA G E _ λbu a8 aQ aC y bC b5 bG cD=>by obtain rfl:=g9 hw;exact⟨false,cD,ih t2 x2 h2 v bk ev env A bu a8 aQ aC V hA bG E Q<|P.of bC b5⟩)
  λw e1 hw hv=>by subst hv;obtain rfl:=g9 hw;exact h σ _ _ e1 env A g fx ρ s V hA G E _ λbu a8 aQ aC y bC b5 bG cD=>⟨true,cD,P bu a8 aQ aC _ bC b5 bG cD⟩)) h.2 t x h.1.1
theorem Rw(h:qL Z n ns C M (t::ts) (x::es)):fK Z n ns C M (.and (t::ts)) (.BoolOp .And (x::es) pos):=λσ bk v ev env A g fx ρ s V hA G E Q P=>Hp h v bk ev env A g fx ρ s V hA G E Q P
theorem Xh(h:qL Z n ns C M (t::ts) (x::es)):fK Z n ns C M (.or (t::ts)) (.BoolOp .Or (x::es) pos):=λσ bk v ev env A g fx ρ s V hA G E Q P=>Ll h v bk ev env A g fx ρ s V hA G E Q P
end
def zx.T1(Z:dM)(K:Frag):Prop:=∀a o,K.lookup a=some o->Z.base a=some o
def zx.T2(Z:dM)(K:Frag):Prop:=∀c,Z.uM c=true->dK K (.ref c) "__getattribute__"=some (some<|.builtin "object.__getattribute__")
def zx.T3(Z:dM)(K:Frag):Prop:=∀c,Z.uM c=true->dK K (.ref c) "__getattr__"=some none
def zx.T4(Z:dM)(K:Frag):Prop:=∀c,Z.uM c=true->dK K (.ref c) "__setattr__"=some (some<|.builtin "object.__setattr__")
def zx.T5(Z:dM)(K:Frag):Prop:=∀c,Z.uM c=true->(clsIn K c).any (·.hasDict)=true
def zx.T6(Z:dM)(K:Frag)(M:b6):Prop:=∀c a,Z.uM c=true->a<iY->Q8.contains (Z.nm a)=false/\takerIn K c (Z.nm a)=some none/\
  ((dK K (.ref c) (Z.nm a)=some none/\M c a=none)\/∃f,dK K (.ref c) (Z.nm a)=some (some<|.ref f)/\M c a=some f/\typeIn K (.ref f)=some (.type "function")/\LC K (.ref f) "__get__"=some (some<|.builtin "function.__get__")/\takesIn K (.ref f)=some false)
structure zx(Z:dM)(K:Frag)(M:b6):Prop where
 inK:zx.T1 Z K
 low:∀c a f,M c a=some f->a<iY
 ga:zx.T2 Z K
 gn:zx.T3 Z K
 sa:zx.T4 Z K
 cd:zx.T5 Z K
 po:∀c,Z.uM c=true->plainOver K c=true
 at_:zx.T6 Z K M
section
variable{Z:dM}{K:Frag}{M:b6}{st:List SO}{g fx:FH}{ρ:eE}{s:Shared}{A:bD}
theorem zx.here(O:zx Z K M)(S:b7 Z st g fx ρ s):K.In s.heap:=λa o e=>S.fy _ _<|O.inK a o e
structure mQ(Z:dM)(g:FH)(ρ:eE)(h:Heap)(x d:Addr)(c:Addr)(as:List Nat)(vs:List SV)(es:List DictEntry)(n:Nat):Prop where
 obj:h.get? x=some (nB c d)
 dict:h.get? d=some (dictOf es n)
 rel:f7 Z.nm as es
 ok:HF Z c as
 vals:ei Z g ρ vs (es.map (·.val))
theorem OU(S:b7 Z st g fx ρ s)(e:q9 st sv=some i)(r:RV Z g ρ sv v):∃x d es n,v=.ref x/\mQ Z g ρ s.heap x d i.1 i.2.1 i.2.2 es n:=
 agq e (λq=>by
  subst q;refine x46 r λa d es n zz4 h1 h2 h3 h4 h5=>?_;subst zz4;exact⟨a,d,es,n,rfl,S.keep _ _ h1,S.keep _ _ h2,h3,h4,h5.ke⟩) λk q hk=>by
  subst q;refine dS r λp hp zz2=>?_;subst zz2;obtain⟨hne,es,n,h1,h2,h3,h4,h5⟩:=S.objs _ _ p hk hp;exact⟨_,_,es,n,rfl,h1,h2,h3,h4,h5⟩
theorem mQ.inst(X:mQ Z g ρ h x d c as vs es n):InstAt h x (nB c d) c (some<|dictOf es n):=⟨X.obj,rfl,rfl,X.dict⟩
theorem um{α β:Type}{P:List α->List β->Prop}(z:P [] [])(c:∀a as b bs,P as bs->P (a::as) (b::bs))(l:∀a as,P (a::as) [])(r:∀b bs,P []<|b::bs)(as:List α):∀bs,P as bs:=by
 induction as with
 |nil=>intro bs;cases bs with
  |nil=>exact z
  |cons b bs=>exact r b bs
 |cons a as ih=>intro bs;cases bs with
  |nil=>exact l a as
  |cons b bs=>exact c a as b bs<|ih bs
theorem f7.length{nm:Nat->Str}:f7 nm as es->es.length=as.length:=
 um (P:=λas es=>f7 nm as es->es.length=as.length) (λz=>rfl) (λz z z z ih h=>congrArg kr<|ih h.2) (λz z h=>h.elim) (λz z h=>h.elim) as es
theorem OR{Z:dM}:(Value.str (Z.nm b) t).isStr (Z.nm a)=(b==a):=by
 simp only[Value.isStr];by_cases h:b=a
 ·subst h;simp
 ·have:=λe=>h<|Z.VT _ _ e;rw[beq_eq_false_iff_ne.mpr this,beq_eq_false_iff_ne.mpr h]
theorem D8:∀{es:List DictEntry}{i:Nat},f7 Z.nm as es->(iu a as i=none/\es.find? (·.key.isStr (Z.nm a))=none/\es.findIdx? (·.key.isStr (Z.nm a))=none)\/∃j e,iu a as i=some (i+j)/\es[j]? =some e/\es.find? (·.key.isStr (Z.nm a))=some e/\es.findIdx? (·.key.isStr (Z.nm a))=some j:=by
 induction as with
 |nil=>
  intro es i h;cases es with
  |nil=>exact .inl ⟨rfl,rfl,rfl⟩
  |cons _ _=>exact h.elim
 |cons b as ih=>
  intro es i h;cases es with
  |nil=>exact h.elim
  |cons e es=>
   obtain⟨⟨t,ht⟩,h2⟩:=h;show((if(b==a)=true then some i else iu a as (i+1))=none/\_)\/∃j e',(if(b==a)=true then some i else iu a as (i+1))=_/\_;rw[List.find?_cons,eu,ht,OR];cases b==a with
   |true=>exact .inr ⟨0,e,rfl,rfl,rfl,rfl⟩
   |false=>
    rcases ih h2 with ⟨h3,h4,h5⟩|⟨j,e',h3,h4,h5,h6⟩
    ·exact .inl ⟨h3,h4,congrArg (HN λi=>i+1) h5⟩
    ·exact .inr ⟨j+1,e',h3.trans<|congrArg some ar2,h4,h5,congrArg (HN λi=>i+1) h6⟩
theorem C9:∀{es:List DictEntry},f7 Z.nm as es->es.any (·.refKey)=false:=by
 induction as with
 |nil=>
  intro es h;cases es with
  |nil=>rfl
  |cons _ _=>exact h.elim
 |cons b as ih=>
  intro es h;cases es with
  |nil=>exact h.elim
  |cons e es=>obtain⟨⟨t,ht⟩,h2⟩:=h;rw[mi,ih h2,Bool.or_false];unfold DictEntry.refKey;rw[ht]
theorem mQ.look(X:mQ Z g ρ h x d c as vs es n)(a:Nat):
  (iu a as 0=none/\Mc (Z.nm a) (dictOf es n)=some none)\/∃j e v,iu a as 0=some j/\es[j]? =some e/\Mc (Z.nm a) (dictOf es n)=some (some e.val)/\vs[j]? =some v/\RV Z g ρ v e.val:=by
 have hl:∀r,es.find? (·.key.isStr (Z.nm a))=r->Mc (Z.nm a) (dictOf es n)=some (r.map (·.val)):=by
  intro r hr;show(match es.toArray.toList.find? (·.key.isStr (Z.nm a)) with|some e=>some (some e.val)|none=>if es.toArray.toList.any (·.refKey) then none else some none)=_;rw[tT,hr];cases r with
  |some e=>rfl
  |none=>dsimp only;rw[C9 X.rel];rfl
 rcases D8 X.rel with ⟨h1,h2,_⟩|⟨j,e,h1,h2,h3,_⟩
 ·exact .inl ⟨h1,hl _ h2⟩
 ·have hj:j<vs.length:=by
   have hv:=X.vals.length
   rw[ag] at hv
   exact hv▸(af.mp h2).1
  refine dS (X.vals.get<|ay hj) λy h4 h5=>?_
  rw[ai,h2] at h4
  obtain rfl:=aa h4
  exact .inr ⟨j,e,_,by simpa using h1,h2,hl _ h3,ay hj,h5⟩
theorem mQ.found(O:zx Z K M)(X:mQ Z g ρ h x d c as vs es n)(ha:a<iY)(hl:Mc (Z.nm a) (dictOf es n)=some (some v)):findObj K c (some<|dictOf es n) (Z.nm a)=some (.value v):=by
 refine dS (any_some<|O.cd c X.ok.cls) λcd hcd hd=>?_;refine qe (O.at_ c a X.ok.cls ha) λz z hf=>?_;have hown:W.ownOf cd (some<|dictOf es n) (Z.nm a)=some (some v):=by unfold W.ownOf;rw[if_pos hd];exact hl
 delta findObj;rw[hcd];show(dK K (.ref c)<|Z.nm a).bind _=_;rcases hf with ⟨h1,_⟩|⟨f,h1,_,_,h4,h5⟩
 ·rw[h1];show(W.ownOf cd (some<|dictOf es n)<|Z.nm a).bind _=_;rw[hown];rfl
 ·rw[h1];show(LC K (.ref f) "__get__").bind _=_;rw[h4];show(takesIn K<|.ref f).bind _=_;rw[h5];show(W.ownOf cd (some<|dictOf es n)<|Z.nm a).bind _=_;rw[hown];rfl
theorem mQ.bound(O:zx Z K M)(X:mQ Z g ρ h x d c as vs es n)(hm:M c a=some f)(hl:Mc (Z.nm a) (dictOf es n)=some none):
  findObj K c (some<|dictOf es n) (Z.nm a)=some (.bind (.builtin "function.__get__")<|.ref f)/\dK K (.ref c) (Z.nm a)=some (some<|.ref f)/\typeIn K (.ref f)=some (.type "function"):=by
 refine dS (any_some<|O.cd c X.ok.cls) λcd hcd hd=>?_
 refine qe (O.at_ c a X.ok.cls<|O.low _ _ _ hm) λhcn z hf=>?_
 have hown:W.ownOf cd (some<|dictOf es n) (Z.nm a)=some none:=by unfold W.ownOf;rw[if_pos hd];exact hl
 rcases hf with ⟨_,h2⟩|⟨f',h1,h2,h3,h4,h5⟩
 ·rw[h2] at hm;exact aW hm
 ·rw[h2] at hm;obtain rfl:=aa hm;refine⟨?_,h1,h3⟩;delta findObj;rw[hcd];show(dK K (.ref c)<|Z.nm a).bind _=_;rw[h1];show(LC K _ "__get__").bind _=_;rw[h4];show(takesIn K _).bind _=_;rw[h5];show(W.ownOf cd (some<|dictOf es n)<|Z.nm a).bind _=_;rw[hown];show(if(Q8.contains (Z.nm a)&&_)=true then none else _)=_;rw[hcn];rfl
set_option tactic.hygienic true in
theorem RV.SU(r:RV Z g ρ sv v):handedIn v=true:=by
 cases sv;case raw x=>obtain⟨rfl,h⟩:=r;exact h
 all_goals first|(obtain rfl:=r;rfl)|(obtain⟨_,rfl⟩:=r;rfl)|(obtain⟨_,_,_,rfl,_⟩:=r;rfl)|(obtain⟨_,_,_,_,rfl,_⟩:=r;rfl)|(obtain⟨_,_,rfl,_⟩:=r;rfl)|(obtain⟨_,_,rfl⟩:=r;rfl)
theorem EE(O:zx Z K M)(S:b7 Z st g fx ρ s)(e:Hs M st ov a=some v)(r:RV Z g ρ ov x)(ha:a<iY):bE Z A (getAttr x (Z.nm a) true) st v g fx ρ s:=aw e λi hi e=>by
 refine x42 (OU S hi r) λy d es n zz4 X=>?_;subst zz4;have hX:=O.here S;rcases X.look a with ⟨h1,h2⟩|⟨j,en,w,h1,h2,h3,h4,h5⟩
 ·rw[h1] at e;exact dj e λf hm hv=>by subst hv;refine qe (X.bound O hm h2) λb1 b2 b3=>.AI S λE Q h=>get_bind hX X.inst (O.ga _ X.ok.cls) b1 (O.gn _ X.ok.cls) ?_;refine sZ<|fn_get hX b3 ?_;exact ab<|h _ _ _ cx ⟨_,_,rfl,gz S (bL _) ez rfl (S.fresh<|bL _).2.2,r.mono a7⟩
 ·rw[h1] at e;obtain rfl:=aa<|h4.symm.trans e;exact .of S h5 λE Q h=>get_value hX X.inst (O.ga _ X.ok.cls) (X.found O ha h3) h5.SU<|h _
end
theorem GJ{n:Nat}{i:Int}(h:i<0):i+n<=n:=by have:=Int.add_le_add_right (Fx h) n;rwa[Int.zero_add] at this
theorem Cz(n:Nat)(i:Int):dX n i<=n:=by
 delta dX;split
 ·exact dW _ _
 ·next h=>exact Fv.mpr<|GJ<|Mq.mp h
theorem Iy{n:Nat}{i:Int}(h:0<=i):max 0 (min i n)=min i n:=Int.max_eq_right<|Int.le_min.mpr ⟨h,kF _⟩
theorem ag1(a n:Nat):((min a n:Nat):Int)=min (a:Int) n:=by
 rcases Nat.le_total a n with h|h
 ·rw[fc h,zS<|gN.mpr h]
 ·rw[qn h,Int.min_eq_right<|gN.mpr h]
theorem lY(n:Nat)(i:Int):((dX n i:Nat):Int)=max 0 (min (if i<0 then i+n else i) n):=by
 delta dX;rcases Int.lt_or_le i 0 with h|h
 ·rw[if_neg<|Mq.mpr h,if_pos h,zS<|GJ h,Int.max_comm];exact Int.ofNat_toNat _
 ·rw[if_pos h,if_neg<|qH.mpr h,Iy h,ag1,j9 h]
theorem Ja(n:Nat)(i:Int):clipAt n i=dX n i:=Int.ofNat.inj<|(clipAt_cast n i).trans (lY n i).symm
theorem xq(h:k<=n):dX n (k:Int)=k:=by delta dX;rw[if_pos<|kF k,ly,fc h]
theorem Ks(items:Array Value)(i:Int):slicePick items none (some i) none=(items.toList.take<|dX items.size i).toArray:=by rw[slicePick_plain];show((items.toList.drop 0).take<|clipAt _ i-0).toArray=_;rw[Ja,wJ,jN]
theorem Gv(items:Array Value)(i:Int):slicePick items (some i) none none=(items.toList.drop<|dX items.size i).toArray:=by rw[slicePick_plain];show((items.toList.drop<|clipAt _ i).take<|items.size-clipAt _ i).toArray=_;rw[Ja,dG (by rw[f9,aM];exact aG _)]
section
variable{Z:dM}{st:List SO}{g fx:FH}{ρ:eE}{s:Shared}{A:bD}
theorem vC{σ:bo}(S:b7 Z σ.st g fx ρ s){xs ys:List SV}{lo hi stp:Option Int}(e:jy σ.st o=some xs)(r:RV Z g ρ o x)(hs:s.heap.IsSliceOf sl vl vu vs)
  (pl:IsPart vl lo) (pu:IsPart vu hi) (ps:IsPart vs stp) (h0:stp≠some 0) (hl:xs.length<=eA) (pick:∀items:Array Value,items.size=xs.length->ei Z g ρ xs items.toList->ei Z g ρ ys (slicePick items lo hi stp).toList)
  {E:Value->Shared->Prop} {Q:Value->Shared->Prop} (h:∀g' bQ s' y,ey g ρ g' bQ->b7 Z (dN false ys σ).2.st g' fx bQ s'->RV Z g' bQ (dN false ys σ).1 y->Q y s'):
  av (Mo Z) A (qq x<|.ref sl) Q E s/\s.TypeIs x "list":=by
 refine qv (om S e r) λl vs n zz3 ho rs=>?_
 subst zz3
 have hl':s.heap.IsList l vs:=⟨_,ho,rfl,n,rfl⟩
 have hlen:=rs.length
 simp -iota only[aM] at hlen
 refine⟨wpAny_getItem_list_slice hl' hs pl pu ps h0 ?_<|iC<|Z8 hl hlen,hl'.typeIs⟩
 obtain⟨g',bQ,S',X',r',hloc⟩:=yI S s.toks cx (bL _) ez (pick vs hlen rs) false σ rfl
 exact h g' bQ _ _ X' S' r'
theorem GO(m:Bool)(xs:List SV)(σ:bo):(dN m xs σ).2.loc=σ.loc:=by delta dN;cases m||!b8 xs<;>rfl
theorem EK(i:Int)(n:Nat):u5 none (some i) 1 (n:Int)=(0,((dX n i:Nat):Int)):=by
 show((0:Int),if i<0 then max (i+n) 0 else min i n)=_;rw[lY];refine congrArg (Prod.mk 0) ?_;rcases Int.lt_or_le i 0 with h|h
 ·rw[if_pos h,if_pos h,zS<|GJ h,Int.max_comm]
 ·rw[if_neg<|qH.mpr h,if_neg<|qH.mpr h,Iy h]
theorem DL(k:Nat):mn 0 (k:Int) 1=k:=by
 show(if(0:Int)<k then((k:Int)-0-1)/1+1 else 0).toNat=k;rcases Nat.eq_zero_or_pos k with rfl|h
 ·rfl
 ·rw[if_pos<|Vx.mpr h,Int.ediv_one,Int.sub_zero,Int.sub_add_cancel];rfl
theorem ux{E:Value->Shared->Prop}{Q:Int×Int×Nat->Shared->Prop}(hs:s.heap.IsSliceOf sl .none (.int i u) .none)(h:Q (0,1,dX n i) s):
  av (model prog w) A (eY.Slice.sliceApplied (.ref sl)<|pure (n:Int)) Q E s:=by
 refine u6 (id hs) λos hos hcs hds=>aX<|aX<|dO hos hds (x:=.none) rfl<|aX<|dO hos hds (x:=.int i u) rfl<|aX<|dO hos hds (x:=.none) rfl<|ab ?_
 refine aX<|slicePart_none ?_
 refine u7 (by decide)<|aX<|slicePart_none<|aX<|slicePart_int<|aX<|ab ?_
 show av _ _ (match u5 none (some i) 1 n with|(lo,hi)=>pure (lo,(1:Int),mn lo hi 1)) _ _ s
 rw[EK i n]
 show av _ _ (pure ((0:Int),(1:Int),mn (0:Int) ((dX n i):Int) 1)) _ _ s
 rw[DL]
 exact ab h
theorem Xw(xs:Array Value)(k:Nat):((ak k).filterMap λ(j:Nat)=>xs[((0:Int)+(j:Int)*1).toNat]?).toArray=(xs.toList.take k).toArray:=by
 have e:(λ(j:Nat)=>xs[((0:Int)+j*1).toNat]?)=λj=>xs[0+j]?:=by
  funext j;have:((0:Int)+j*1).toNat=0+j:=by rw[Int.mul_one,Int.zero_add,cz];rfl
  rw[this]
 rw[e];have:=pick_run xs 0 k;rw[LG] at this;have e2:((λx=>xs[x]?)∘λx=>0+x)=λj=>xs[0+j]?:=rfl;rw[e2] at this;rw[this,jN]
theorem Kb(S:b7 Z st g fx ρ s)(r:RV Z g ρ (.tup xs) x)(hs:s.heap.IsSliceOf sl .none (.int i u) .none)(hl:xs.length<=eA):
  bE Z A (qq x<|.ref sl) st (.tup<|xs.take<|dX xs.length i) g fx ρ s/\s.TypeIs x "tuple":=by
 refine qv r λt vs n zz3 ho rs=>?_
 subst zz3
 have ho':=S.keep _ _ ho
 have ht:pk s.heap t vs:=⟨_,ho',rfl,n,rfl⟩
 have hlen:=rs.length
 simp -iota only[aM] at hlen
 refine⟨λE Q h=>?_,ht.typeIs⟩
 refine u6 (id hs) λos hos hcs hds=>?_
 have hTs:s.TypeIs (.ref sl) "slice":=⟨os,hos,hcs⟩
 have hsz:sizeOk (.seq (vs.toList.take<|dX vs.size i).toArray):=by show(vs.toList.take<|dX vs.size i).toArray.size<=sizeLine;rw[oE,cm,aM];exact ah (dW _ _)<|iC<|Z8 hl hlen
 delta qq
 try with_reducible refine aR ?_
 first|refine aX (ab ?_)|skip
 refine aX<|qo ht.typeIs (by decide) ?_
 refine aX<|cT ht.typeIs ph
  (bz ph ht.typeIs entry_tuple_getitem ?_<|args_tuple_getitem _ _)
 show av _ _ (ud (.ref t)>>=_) _ _ s
 refine aX<|tupleItemsOf_ ht ?_
 refine aJ<|l9 hTs ?_
 refine MJ (by decide)<|aX<|ux hs ?_
 show av _ _ (if((0:Int)==0&&(1:Int)==1&&(dX vs.size i)==vs.size)=true then _ else _) _ _ s
 by_cases hw:dX vs.size i=vs.size
 ·have hyes:((0:Int)==0&&(1:Int)==1&&(dX vs.size i)==vs.size)=true:=by rw[hw];simp
  refine MJ hyes ?_;have e:xs.take (dX xs.length i)=xs:=by rw[<-hlen,hw,hlen,cY]
  rw[e] at h;refine aJ<|aX<|l9 ht.typeIs<|ab ?_;show av _ _ (if((lS "tuple"==lS "tuple")=true) then _ else _) _ _ s;refine MJ (by decide)<|aX<|dA<|ab ⟨_,rfl,ab<|h g ρ s (.ref t) (.refl _ _) S ⟨t,vs,n,rfl,ho,rs⟩⟩
 ·have hno:¬(((0:Int)==0&&(1:Int)==1&&(dX vs.size i)==vs.size)=true):=by
   have:(dX vs.size i==vs.size)=false:=by rw[beq_eq_false_iff_ne];exact hw
   rw[this];simp
  rw[if_neg hno,Xw vs _]
  obtain⟨S',r'⟩:=vG (vs:=(vs.toList.take<|dX vs.size i).toArray) S s.toks cx (bL _) ez (by simpa -iota [hlen] using rs.take (dX xs.length i))
  have hq:=h _ ρ _ _ a7 S' r'
  first
   |exact aJ<|ej (ab ⟨_,rfl,ab hq⟩) hsz
   |exact aJ<|ej (aX<|ab<|ab ⟨_,rfl,ab hq⟩) hsz
   |exact aX<|aJ<|ej (ab<|ab ⟨_,rfl,ab hq⟩) hsz
   |exact aX<|aJ<|ej (ab ⟨_,rfl,ab hq⟩) hsz
theorem AO(x:Str)(hz:x.cps.size<=eA)(lo hi:Option Int)(a b:Nat)(hab:a<=b)(hb:b<=x.length)(e:c7 lo hi 1 x.length=c7 (some (a:Int)) (some (b:Int)) 1 x.length)(u l:Option (Int×Tok))(hl:l.map (·.1)=lo)(hu:u.map (·.1)=hi)
  (h:∀t' k,Q (.str ⟨((x.cps.toList.drop a).take<|b-a).toArray⟩ t') {s with toks:=k}):(sliceMade x t l u none).post Q s:=by
 have hp:(CR x l u none).filterMap (x.cps[·]?)=(x.cps.toList.drop a).take (b-a):=by delta CR;rw[hl,hu];show(c7 lo hi 1 x.length).filterMap _=_;rw[e];exact StrLaws.sliced_plain x hab hb
 have hlen:(CR x l u none).length=b-a:=by delta CR;rw[hl,hu];show(c7 lo hi 1 x.length).length=_;rw[e,StrLaws.strSliceIndices_plain hab hb];simp
 delta sliceMade
 split
 ·rename_i hw
  simp -iota only[Option.map_none,Option.getD_none,dU,beq_iff_eq] at hw;rw[hlen] at hw;have ha:a=0:=by omega
  have hb':b=x.length:=by omega
  have hx:(⟨((x.cps.toList.drop a).take<|b-a).toArray⟩:Str)=x:=by subst ha hb';rw[jN,wJ,dG<|by simp -iota [Str.length]]
  have:=h t s.toks;rw[hx] at this;exact this
 ·rw[hp];refine⟨?_,h _ _⟩;show(((x.cps.toList.drop a).take<|b-a).toArray).size<=_;refine ah ?_<|iC hz;simp -iota only[oE,cm,f9,aM];exact aeg
theorem MZ(i:Int)(n:Nat):c7 none (some i) 1 n=c7 (some ((0:Nat):Int)) (some ((dX n i:Nat):Int)) 1 n:=by show E7 0 (max 0<|min (if i<0 then i+n else i) n) 1=E7 (max 0<|min (if((0:Nat):Int)<0 then((0:Nat):Int)+n else((0:Nat):Int)) n) (max 0<|min (if((dX n i):Int)<0 then((dX n i):Int)+n else((dX n i):Int)) n) 1;rw[<-lY,<-lY,<-lY,xq<|eO n,xq<|Cz n i];rfl
theorem M0(i:Int)(n:Nat):c7 (some i) none 1 n=c7 (some ((dX n i:Nat):Int)) (some (n:Int)) 1 n:=by show E7 (max 0<|min (if i<0 then i+n else i) n) n 1=E7 (max 0<|min (if((dX n i):Int)<0 then((dX n i):Int)+n else((dX n i):Int)) n) (max 0<|min (if(n:Int)<0 then n+n else n) n) 1;rw[<-lY,<-lY,<-lY,xq<|Cz n i,xq<|aG n]
theorem Kc(S:b7 Z st g fx ρ s)(r:RV Z g ρ (.str x) v)(hs:s.heap.IsSliceOf sl .none (.int i u) .none)(hz:x.cps.size<=eA):
  bE Z A (qq v<|.ref sl) st (.str ⟨(x.cps.toList.take<|dX x.cps.toList.length i).toArray⟩) g fx ρ s/\s.TypeIs v "str":=by
 refine fT r λt zz1=>?_
 subst zz1
 refine⟨λE Q h=>LA (l:=none) (u:=some (i,u)) (st:=none) hs rfl ?_,typeIs_str _ _ _⟩
 have hlen:x.length=x.cps.toList.length:=aM.symm
 refine AO x hz none (some i) 0 (dX x.length i) (eO _) (Cz _ _) (MZ i _) _ _ rfl rfl λt' k=>?_
 rw[hlen,wJ,jN]
 exact h g ρ _ _ (.refl _ _) (S.tok k) ⟨t',rfl⟩
theorem yn(S:b7 Z st g fx ρ s)(r:RV Z g ρ (.str x) v)(hs:s.heap.IsSliceOf sl (.int i u) .none .none)(hz:x.cps.size<=eA):
  bE Z A (qq v<|.ref sl) st (.str ⟨(x.cps.toList.drop<|dX x.cps.toList.length i).toArray⟩) g fx ρ s/\s.TypeIs v "str":=by
 refine fT r λt zz1=>?_
 subst zz1
 refine⟨λE Q h=>LA (l:=some (i,u)) (u:=none) (st:=none) hs rfl ?_,typeIs_str _ _ _⟩
 have hlen:x.length=x.cps.toList.length:=aM.symm
 refine AO x hz (some i) none (dX x.length i) x.length (Cz _ _) (aG _) (M0 i _) _ _ rfl rfl λt' k=>?_
 rw[hlen,dG (by rw[f9];exact aG _)]
 exact h g ρ _ _ (.refl _ _) (S.tok k) ⟨t',rfl⟩
end
theorem uq(h:uG slice=true)(o i:Value):subscripted slice false o i=operate [o,i] (qq o i):=by cases slice<;>first|rfl|exact ae h
theorem mD{env:Env}(h:jz o=false):JB o attr env whole=whole:=by
 cases o with
 |Call f as ks pos=>
  cases f with
  |Name id p=>
   cases as with
   |nil=>
    cases ks with
    |nil=>
     have this:(id != ("super":Str))=true:=by
      rw[bne];cases q:id==("super":Str) with
      |false=>rfl
      |true=>rw[show jz (.Call (.Name id p) [] [] pos)=((id==("super":Str))&&true&&true) from rfl,q] at h;exact ae h
     delta JB;dsimp only;rw[this];rfl
    |cons=>rfl
   |cons=>rfl
  |_=>rfl
 |_=>rfl
section
variable{P:Prop}{σ:bo}{v i:SV}{r:SV×bo}
theorem P4{n:Nat}(h:uX n j=true):n<=eA:=cI h λh z=>fX h
theorem TL(e:kb σ v i=some r)(k1:∀k xs,i=.int k->v=.tup xs->xs.length<=eA->(.tup<|xs.take<|dX xs.length k,σ)=r->P)(k2:∀k x,i=.int k->v=.str x->x.cps.size<=eA->(.str ⟨(x.cps.toList.take<|dX x.cps.toList.length k).toArray⟩,σ)=r->P)
  (k3:∀k xs,i=.int k->jy σ.st v=some xs->xs.length<=eA->dN false (xs.take<|dX xs.length k) σ=r->P):P:=aw e λk hk e=>iD hk λhk=>by
 cases v with
 |tup xs=>exact j8 e λh e=>k1 k xs hk rfl (P4 h) e
 |str x=>exact j8 e λh e=>k2 k x hk rfl (P4 h) e
 |_=>exact aw e λxs hx e=>j8 e λh e=>k3 k xs hk hx (P4 h) e
theorem KQ(e:kc σ v i=some r)(k2:∀k x,i=.int k->v=.str x->x.cps.size<=eA->(.str ⟨(x.cps.toList.drop<|dX x.cps.toList.length k).toArray⟩,σ)=r->P)
  (k3:∀k xs,i=.int k->jy σ.st v=some xs->xs.length<=eA->dN false (xs.drop<|dX xs.length k) σ=r->P):P:=aw e λk hk e=>iD hk λhk=>by
 cases v with
 |str x=>exact j8 e λh e=>k2 k x hk rfl (P4 h) e
 |_=>exact aw e λxs hx e=>j8 e λh e=>k3 k xs hk hx (P4 h) e
end
section
variable{Z:dM}{C:bT}{M:b6}{K:Frag}{n:Nat}{ns:bX}{c:TC}{env:Env}{A:bD}{g fx:FH}{ρ:eE}{s:Shared}{σ bk:bo}{E:Value->Shared->Prop}{Q:Value->Shared->Prop}
theorem Nf(O:zx Z K M)(h:fK Z n ns C M t e)(ha:a<iY)(hx:Z.nm a=x)(hs:jz e=false):fK Z n ns C M (.attr t a) (.Attribute e x pos):=
 λσ bk v ev env A g fx ρ s V hA G E Q P=>Ye ev λo e1 hw=>by
  subst hx;show av _ _ (do
   let o<-JB _ _ env (eval _ env)
   ma pos.atName
   let r<-k7 [o] (getAttr o (Z.nm a) true)
   letTemporaryGo _ o r
   pure r) Q E s
  rw[mD hs];exact aX<|h σ _ _ e1 env A g fx ρ s V hA G E _ λbu a8 aQ aC y bC b5 bG cD=>aX<|dF<|aX<|aR<|(EE O bG.fM hw cD ha).post bG rfl rfl
   λfE dB dP dJ z cy fA dD iM=>aX<|wpAny_letTemporaryGo<|ab<|(P.of bC b5) fE dB dP dJ z cy fA dD iM
abbrev Qy(Z:dM)(A:bD)(y z:Value)(E Q:Value->Shared->Prop)(s:Shared):Prop:=∃T,s.TypeIs y T/\(∃id,mZ (.type T) "__getitem__"=pure (some<|.builtin id))/\av (Mo Z) A (qq y z) Q E s
theorem aaX(S:b7 Z σ.st g fx ρ s){o j v:SV}(hw:gi σ.st o j=some v)(ry:RV Z g ρ o y)(rz:RV Z g ρ j z)(hA:t6 n A)(h:∀g' bQ s' x,ey g ρ g' bQ->b7 Z σ.st g' fx bQ s'->RV Z g' bQ v x->Q x s'):Qy Z A y z E Q s:=by
 unfold gi at hw;cases hd:jk σ.st o with
 |some p=>rw[hd] at hw;exact aw hw λr hf hw=>aw hw λk hr hw=>by subst hr;obtain⟨Y,hT⟩:=Cf S hd hf hw rz ry hA.u;exact Aw _ hT ⟨_,zL.lookup⟩<|Y E Q h
 |none=>
  rw[hd] at hw;exact aw hw λxs ho hw=>aw hw λi hi hk=>iD hi λq=>by
   subst q;obtain⟨Y,hT⟩:=Ec S ho hk ry rz;rcases hT with hT|hT
   ·exact Aw _ hT ⟨_,qp.lookup⟩<|Y E Q h
   ·exact Aw _ hT ⟨_,ph.lookup⟩<|Y E Q h
theorem Sd{e i:ao}(he:fK Z n ns C M te e)(hi:fK Z n ns C M ti i)(hs:uG i=true):fK Z n ns C M (.sub te ti) (.Subscript e i pos):=
 λσ bk v ev env A g fx ρ s V hA G E Q P=>abH ev λo aq j e1 e2 hw=>by refine Fh<|he σ _ _ e1 env A g fx ρ s V hA G E _ λbu a8 aQ aC y bC b5 bG cD=>?_;refine hi aq _ _ e2 env A bu a8 aQ aC V hA bG E _ λfE dB dP dJ z cy fA dD iM=>?_;obtain⟨T,hT,⟨id,hl⟩,Y⟩:=aaX dD.fM hw (cD.mono cy) iM hA λg' bQ s' x X S r=>((P.of bC b5).of cy fA) g' dB bQ s' x X (λu u=>rfl) (dD.with X S rfl) r;exact ko hT hl Y<|uq hs _ _
theorem vH(G:dE Z ns env σ g fx ρ s)(a b c:Value):∃g',ey g ρ g' ρ/\dE Z ns env σ g' fx ρ {s with heap:=s.heap.push {cls:=.type "slice",data:=.fields #[a,b,c]}}/\(s.heap.push {cls:=.type "slice",data:=.fields #[a,b,c]}).IsSliceOf s.heap.objs.size a b c:=
 ⟨_,a7,G.with a7 (G.fM.grow s.toks cx) rfl,Heap.IsSliceOf.new ..⟩
theorem vX.list{v:SV}(P:vX Z ns env bk v g fx ρ Q)(G:dE Z ns env σ g fx ρ s)(e:dN false ys σ=(v,bk)):∀g' bQ s' y,ey g ρ g' bQ->b7 Z (dN false ys σ).2.st g' fx bQ s'->RV Z g' bQ (dN false ys σ).1 y->Q y s':=by have hl:=GO false ys σ;rw[e] at hl ⊢;exact λg' bQ s' y X S r=>P g' fx bQ s' y X (λz z=>rfl) (G.with X S hl) r
theorem Xi(G:dE Z ns env σ g fx ρ s){o j v:SV}(hw:kb σ o j=some (v,bk))(ry:RV Z g ρ o y)(rz:RV Z g ρ j z)(hsl:s.heap.IsSliceOf sl .none z .none)(P:vX Z ns env bk v g fx ρ Q):Qy Z A y (.ref sl) E Q s:=
 TL hw
  (λk xs h1 h2 hl e=>eI e λe1 e2=>by subst h1 h2 e1 e2;obtain⟨t,rfl⟩:=rz;obtain⟨Y,hT⟩:=Kb G.fM ry hsl hl;exact⟨_,hT,⟨_,ph.lookup⟩,Y.post G rfl rfl P⟩)
  (λk x h1 h2 hl e=>eI e λe1 e2=>by subst h1 h2 e1 e2;obtain⟨t,rfl⟩:=rz;obtain⟨Y,hT⟩:=Kc G.fM ry hsl hl;exact⟨_,hT,⟨_,Rn.lookup⟩,Y.post G rfl rfl P⟩)
  (λk xs h1 hx hl e=>by subst h1;obtain⟨t,rfl⟩:=rz;obtain⟨hq,hT⟩:=vC G.fM hx ry hsl .none (.int k t) .none aW hl (λitems hz rs=>by rw[Ks,hz];exact rs.take _)<|P.list G e;exact⟨_,hT,⟨_,qp.lookup⟩,hq⟩)
theorem Nt(G:dE Z ns env σ g fx ρ s){o j v:SV}(hw:kc σ o j=some (v,bk))(ry:RV Z g ρ o y)(rz:RV Z g ρ j z)(hsl:s.heap.IsSliceOf sl z .none .none)(P:vX Z ns env bk v g fx ρ Q):Qy Z A y (.ref sl) E Q s:=
 KQ hw
  (λk x h1 h2 hl e=>eI e λe1 e2=>by subst h1 h2 e1 e2;obtain⟨t,rfl⟩:=rz;obtain⟨Y,hT⟩:=yn G.fM ry hsl hl;exact⟨_,hT,⟨_,Rn.lookup⟩,Y.post G rfl rfl P⟩)
  (λk xs h1 hx hl e=>by subst h1;obtain⟨t,rfl⟩:=rz;obtain⟨hq,hT⟩:=vC G.fM hx ry hsl (.int k t) .none .none aW hl (λitems hz rs=>by rw[Gv,hz];exact rs.drop _)<|P.list G e;exact⟨_,hT,⟨_,qp.lookup⟩,hq⟩)
theorem M6{e i:ao}(he:fK Z n ns C M te e)(hi:fK Z n ns C M ti i):fK Z n ns C M (.kb te ti) (.Subscript e (.Slice none (some i) none p) pos):=
 λσ bk v ev env A g fx ρ s V hA G E Q P=>X8 ev λo aq j aU e1 e2 hw=>by refine Fh<|he σ _ _ e1 env A g fx ρ s V hA G E _ λbu a8 aQ aC y bC b5 bG cD=>Q4 ?_;rw[Jz,Jy];refine ab<|hi aq _ _ e2 env A bu a8 aQ aC V hA bG E _ λfE dB dP dJ z cy fA dD iM=>ab ?_;refine u6 (vH dD .none z .none) λiN eC jI hsl=>?_;obtain⟨T,hT,⟨id,hl⟩,Y⟩:=Xi jI hw ((cD.mono cy).mono eC) (iM.mono eC) hsl<|((P.of bC b5).of cy fA).of eC λu u=>rfl;exact ko hT hl Y rfl
theorem F9{e i:ao}(he:fK Z n ns C M te e)(hi:fK Z n ns C M ti i):fK Z n ns C M (.kc te ti) (.Subscript e (.Slice (some i) none none p) pos):=
 λσ bk v ev env A g fx ρ s V hA G E Q P=>OZ ev λo aq j aU e1 e2 hw=>by refine Fh<|he σ _ _ e1 env A g fx ρ s V hA G E _ λbu a8 aQ aC y bC b5 bG cD=>Q4 ?_;rw[Jz,Jy];refine hi aq _ _ e2 env A bu a8 aQ aC V hA bG E _ λfE dB dP dJ z cy fA dD iM=>ab<|ab ?_;refine u6 (vH dD z .none .none) λiN eC jI hsl=>?_;obtain⟨T,hT,⟨id,hl⟩,Y⟩:=Nt jI hw ((cD.mono cy).mono eC) (iM.mono eC) hsl<|((P.of bC b5).of cy fA).of eC λu u=>rfl;exact ko hT hl Y rfl
theorem JW(he:fK Z n ns C M te e):fK Z n ns C M (.yp te) (.Subscript e (.Slice none none (some<|.UnaryOp .USub (.Constant (.int 1) k p1) p2) p) pos):=
 λσ bk v ev env A g fx ρ s V hA G E Q P=>TM ev λo aq xs e1 hx hl ev=>by refine Fh<|he σ _ _ e1 env A g fx ρ s V hA G E _ λbu a8 aQ aC y bC b5 bG cD=>Q4 ?_;rw[Jz,Jy];refine ab<|ab<|Ib (C:=C) (M:=M) (Ic) aq aq (.int<|-1) rfl env A bu a8 aQ aC V hA bG E _ λfE dB dP dJ z cy fA dD iM=>?_;refine u6 (vH dD .none .none z) λiN eC jI hsl=>?_;obtain⟨t,rfl⟩:=iM;obtain⟨hq,hT⟩:=vC jI.fM hx ((cD.mono cy).mono eC) hsl .none .none (.int (-1) t) (λq=>nomatch q) hl (λitems hz rs=>by rw[krv_pick];exact rs.reverse)<|(((P.of bC b5).of cy fA).of eC λu u=>rfl).list jI ev;exact ko hT qp.lookup hq rfl
end
theorem ei.replicate{Z:dM}{g:FH}{ρ:eE}(r:RV Z g ρ x v)(n:Nat):ei Z g ρ (br n x) (br n v):=by
 induction n with
 |zero=>exact rfl
 |succ n ih=>exact Av v _ rfl r ih
theorem Pn(v:Value)(n:Nat):(List.foldl (λ(x1 x2:Array Value)=>x1++x2) #[] (br n #[v])).toList=br n v:=by
 rw[listMul_foldl];have h:(br n [v]).flatten=br n v:=by
  induction n with
  |zero=>rfl
  |succ n ih=>rw[tV,List.flatten_cons,ih,tV];rfl
 simpa -iota using h
section
variable{Z:dM}{C:bT}{M:b6}{n:Nat}{ns:bX}{c:TC}{st:List SO}{g fx:FH}{ρ:eE}{s:Shared}{A:bD}
theorem uF(S:b7 Z st g fx ρ s)(hm:∃o,Z.base sysModules=some o)(hn:s.heap.get? a=none):a≠sysModules:=by rintro rfl;refine fT hm λo ho=>?_;rw[S.fy _ _ ho] at hn;exact jO hn
theorem JZ(hm:∃o,Z.base sysModules=some o):fK Z n ns C M (.gU m) (.Dict [] [] pos):=
 λσ bk v ev env A g fx ρ s V hA G E Q P=>by
  refine wpAny_Dict_empty ?_;have hno:=uF G.fM hm<|bL s.heap;cases m with
  |true=>have ev:=ev;exact pI ev λe1 e2=>by subst e1 e2;refine u6 (G.fM.SY s.toks cx (bL _) (.dict [] []) λg' bQ x=>⟨rfl,[],0,ez,rfl,rfl,⟨[],.nil _⟩,hno⟩) λg' h1 h2 h3=>P g' fx _ _ _ h2 (λz z=>rfl) (G.with h2 h1 rfl) h3
  |false=>have ev:=ev;exact pI ev λe1 e2=>by subst e1 e2;refine kg (G.fM.S0 (h':=s.heap.push<|dictOf [] 0) s.toks cx (bL _) ez) λh1 h2=>P _ fx _ _ _ a7 (λz z=>rfl) (G.with a7 h1 rfl) ⟨_,[],0,rfl,h2,rfl,rfl,⟨[],.nil _⟩,hno⟩
theorem Ei(hok:dC k=true):cW (.str k) []=some none:=by show((gd (dC k)<|HL k).bind λd=>(fR []).bind λds=>gd (fD d&&ds.all (λx=>fD x&&gY x==gY d)&&decide (d.depth<=cw))<|ds.findIdx? λx=>bp x d)=_;rw[hok];show gd (dC k&&true&&decide ((HL k).depth<=cw)) none=_;rw[hok];rfl
theorem JY(hm:∃o,Z.base sysModules=some o):fK Z n ns C M (.Es k v) (.Dict [some<|.Constant (.str k) a p] [.Constant (.str v) b q] pos):=
 λσ bk w ev env A g fx ρ s V hA G E Q P=>TQ ev λhok e1 e2=>by
  subst e1 e2;have hno:=uF G.fM hm<|bL s.heap;have hshape:(evalEachOpt [some<|.Constant (.str k) a p] env).zip ((E9 [.Constant (.str v) b q] env).map λv=>do let x<-v;ma pos;pure x)
    =[(eval (.Constant (.str k) a p) env,(do let x<-eval (.Constant (.str v) b q) env;ma pos;pure x:Al Value))].map λp=>(some p.1,p.2):=rfl
  rw[arm_eval_Dict,hshape,dictDisplay_pairs [(_,_)] (List.cons_ne_nil _ _) (show 1<17 by decide)];refine aX<|dF<|aX ?_;refine aX<|nJ<|aX<|aR ?_;refine MJ (by simp -iota)<|aX<|evalPairs_cons<|xE<|aX<|xE<|aX<|dF<|ab<|evalPairs_nil<|aR ?_;rw[cA];have X:hV Z g ρ {s with heap:=s.heap.push<|dictOf [] 0,toks:=s.toks+1+1} s.heap.objs.size [] [] [] 0:=⟨ez,rfl,rfl,⟨[],.nil _⟩,hno⟩;have hkp:∀b o,g b=some o->(s.heap.push<|dictOf [] 0).get? b=some o:=λb o e=>cx b o<|G.fM.keep b o e;have hf:=Ei hok;refine aJ (aJ<|aJ<|pR hkp X hf ⟨_,rfl⟩ (by have:=hA.u;exact ada this) (eO _) λd h' t n' h1 ho hs=>ab ?_);dsimp only;rw[iK];have hk:=λb o e=>(hs.2 b<|bZ<|cg e).trans<|cx b o e;refine ab<|ab<|ab<|ab ?_;refine kg (G.fM.S0 t hk (bL _) ho) λS' hg=>?_;have Y:=BR (val:=.str v) (s':={s with heap:=h',toks:=t}) (g':=oR Z g s.heap h') a7 X hf h1 (RV.mono (ey.refl g ρ) (⟨_,rfl⟩:RV Z g ρ (.str k) (.str k s.toks))) rfl (⟨_,rfl⟩:RV Z (oR Z g s.heap h') ρ (.str v) (.str v<|s.toks+1)) ho;exact P _ fx _ _ _ a7 (λz z=>rfl) (G.with a7 S' rfl) ⟨_,_,_,rfl,hg,Y.keys,Y.vals.free rfl,Y.ok,Y.no⟩
theorem NO{E:Value->Shared->Prop}{Q:Value->Shared->Prop}{k:Int}(hl:s.heap.get? l=some (nO #[y] 0))(hk:k.natAbs<=eA)
  (h:Q (.ref s.heap.objs.size) {s with heap:=s.heap.push<|nO (br k.toNat y).toArray 0}):av (Mo Z) A (pj .Mult (.ref l)<|.int k t) Q E s:=by
 have hk:k.natAbs<=4000:=hk
 refine wpAny_binaryOp_repeat_ref (by decide) ⟨_,hl,rfl⟩ (λs'=>typeIs_int s' k t) noFill_list_mul F.fills_int_mul F.slot_int_rmul repeat_list F.slot_int_index.lookup
  (xG F.slot_int_rmul (typeIs_int s k t) F.entry_int_rmul (F.args_int_rmul_2 _ _) (int___rmul___int_list k t l #[y] 0)
   ⟨hl,rfl,⟨_,hl,rfl⟩,xG F.slot_list_mul ⟨_,hl,rfl⟩ F.entry_list_mul (F.args_list_mul_2 _ _)
    (AutoListH.list___mul___list_int_3 l #[y] 0 k t (by simp -iota [eY.List.listFitsIndex];omega) (by show ¬1*k.toNat>_;omega) (by simp -iota [eY.List.listTooLong,sizeLine];omega))
    ⟨hl,?_⟩⟩)
 have e:List.foldl (λx1 x2=>x1++x2) #[] (br (if(#[y]:Array Value).isEmpty=true then 0 else k.toNat) #[y])=(br k.toNat y).toArray:=Array.ext'<|Pn y k.toNat
 rw[e]
 exact h
theorem Sf(he:fK Z n ns C M te e)(hn:fK Z n ns C M tn e')(hs:bP e=true):fK Z n ns C M (.rep m te tn) (.BinOp (.List [e] p) .Mult e' pos):=
 λσ bk v ev env A g fx ρ s V hA G E Q P=>abI ev λx aq k aU e1 e2 hk ev=>by refine wpAny_BinOp (wpAny_List<|(lE hs he oQ) σ aq [x] (by show(cj C M te σ).bind _=_;rw[e1];rfl) env A g fx ρ s V hA G p E _ λbu a8 aQ aC ys bC b5 bG cD=>?_);obtain⟨y,ys',rfl,cD,rfl⟩:=cD;refine⟨iC (show 1<=4000 by decide),?_⟩;have cy:ey bu aQ (eG Z bu aC.heap (aC.heap.push<|nO #[y] 0) λu=>false) aQ:=a7;have dD:=bG.with cy (bG.fM.grow aC.toks cx) rfl;refine hn aq _ _ e2 env A _ a8 aQ _ V hA dD E _ λiN iV ir fN z eC l8 jI pe=>?_;obtain⟨t,rfl⟩:=pe;refine NO (jI.fM.keep _ _<|eC.g _ _<|gz bG.fM (bL _) ez rfl (bG.fM.fresh<|bL _).2.2) hk ?_;obtain⟨g',bQ,S',X',r',hloc⟩:=yI (m:=m) (vs:=(br k.toNat y).toArray) jI.fM fN.toks cx (bL _) ez (ei.replicate ((cD.mono cy).mono eC) _) aU rfl;rw[ev] at S' r' hloc;exact(((P.of bC b5).of cy λu u=>rfl).of eC l8) _ iV bQ _ _ X' (λu u=>rfl) (jI.with X' S' hloc) r'
end
def vY(Z:dM)(h:Heap)(f:Value):Prop:=∃k,(k=Keeper.frame\/k=Keeper.machine\/k=Keeper.boundFrame)/\Looks (Mo Z) h (keeperOf f) k
theorem vY.builtin{Z:dM}{h:Heap}{id:String}:vY Z h (.builtin id):=⟨.machine,.inr<|.inl rfl,Vr rfl⟩
theorem vY.type{Z:dM}{h:Heap}{id:String}:vY Z h (.type id):=⟨.machine,.inr<|.inl rfl,Vr rfl⟩
def pX(Z:dM)(n:Nat)(C:bT):Prop:=
 ∀f args st v st',C f args st=some (v,st')->∀A g fx ρ s fv avs,t6 n A->b7 Z st g fx ρ s->RV Z g ρ f fv->ei Z g ρ args avs->vY Z s.heap fv/\bE Z A (call fv avs) st' v g fx ρ s
theorem vW{es:List ao}:es.all bP=true->(vg pos<|kW es env).any (·.1)=false:=by
 induction es with
 |nil=>intro _;exact rfl
 |cons e es ih=>intro h;exact cI h λh1 h2=>by rw[oh h1];exact ih h2
theorem UP{l:List (Bool×α)}(h:l.any (·.1)=false):l.all (λx=>!x.1)=true:=
 ba.mpr λx hx=>by
  cases q:x.1 with
  |false=>rfl
  |true=>exact absurd q<|Mp.mp h x hx
theorem JK{es:List ao}(h:es.all bP=true):(vg pos<|kW es env).all (λx=>!x.1)=true:=UP<|vW h
section
variable{Z:dM}{C:bT}{M:b6}{K:Frag}{n:Nat}{ns:bX}{c:TC}{st:List SO}{g fx:FH}{ρ:eE}{s:Shared}{A:bD}{E:Value->Shared->Prop}
theorem Cr{args:List (Bool×Al Value)}(ha:args.any (·.1)=false)(h:av (Mo Z) A (v7 args) (λvs s'=>Q ⟨vs,[]⟩ s') E s):av (Mo Z) A (evalArgs f true args []) Q E s:=by
 cases args with
 |nil=>refine aX<|eS h (λvs s' h'=>?_) λz z x=>x;refine aX<|ab ?_;refine aR<|aX<|ab<|aX<|ab<|ab h'
 |cons b rest=>
  obtain⟨b,x⟩:=b;cases b with
  |false=>exact evalArgs_plain h
  |true=>exact ae ha
theorem kQ{es:List ao}(hs:es.all bP=true)
  (h:av (Mo Z) A (v7<|vg pos<|kW es env) (λvs aC=>vY Z aC.heap f/\av (Mo Z) A (call f<|first++vs) Q E aC) E s):
  av (Mo Z) A (callWith pos f first (vg pos<|kW es env) []) Q E s:=
 callWith_of (P:=λh=>vY Z h f) (by rw[vW hs];rfl) (λh p=>p) (Cr (vW hs) h)
theorem vN(h:uh f=true):eval (.Call f es [] pos) env=(do callWith pos (<-eval f env) [] (vg pos<|kW es env) []):=by cases f<;>first|rfl|exact ae h
theorem Nb(hC:pX Z n C)(hf:fK Z n ns C M tf f)(he:rt Z n ns C M tes es)(hs:es.all bP=true)(hn:uh f=true):
  fK Z n ns C M (.call tf tes) (.Call f es [] pos):=
 λσ bk v ev env A g fx ρ s V hA G E Q P=>Yd ev λgv aq vs aU st' e1 e2 hw e=>by subst e;rw[vN hn];refine aX<|hf σ _ _ e1 env A g fx ρ s V hA G E _ λbu a8 aQ aC y bC b5 bG cD=>kQ hs<|he aq _ _ e2 env A bu a8 aQ aC V hA bG pos E _ λfE dB dP dJ ys cy fA dD iM=>?_;refine kg (hC _ _ _ _ _ hw A fE dB dP dJ y ys hA dD.fM (cD.mono cy) iM) λhh Y=>⟨hh,Y.post (bk:=⟨aU.loc,st'⟩) dD rfl rfl<|(P.of bC b5).of cy fA⟩
structure NmM(Z:dM):Prop where
 append:Z.nm xr=("append":Str)
 extend:Z.nm US=("extend":Str)
 pop:Z.nm aia=("pop":Str)
 index:Z.nm ZT=("index":Str)
 get:Z.nm afk=("get":Str)
 Gh:Z.nm n5=("setdefault":Str)
noncomputable def WM:Nat->String
 |0=>"list.append"|1=>"list.extend"|2=>"list.pop"|3=>"list.index"|4=>"dict.get"|_=>"dict.setdefault"
noncomputable def MP:Nat->String
 |4=>"dict"|5=>"dict"|_=>"list"
theorem xj(S:b7 Z st g fx ρ s)(e:(jy st sv).isSome=true)(r:RV Z g ρ sv x):s.TypeIs x "list"/\∀a,x=.ref a->∃o,s.heap.get? a=some o/\o.dict=none:=by refine fT (ie.mp e) λxs e=>qv (om S e r) λa vs n zz3 ho z=>?_;subst zz3;exact⟨⟨_,ho,rfl⟩,λb hb=>⟨_,rE hb▸ho,rfl⟩⟩
theorem I5(S:b7 Z st g fx ρ s)(e:(jk st sv).isSome=true)(r:RV Z g ρ sv x):s.TypeIs x "dict"/\∀a,x=.ref a->∃o,s.heap.get? a=some o/\o.dict=none:=by obtain⟨⟨ks,vs⟩,e⟩:=ie.mp e;refine uk (vP S e r) λD es n zz3 X=>?_;subst zz3;exact⟨⟨_,X.at_,rfl⟩,λb hb=>⟨_,rE hb▸X.at_,rfl⟩⟩
theorem Ta(N:NmM Z)(S:b7 Z st g fx ρ s){a:Nat}(hr:qV st ov a=true)(ha:a<=5)(r:RV Z g ρ ov x):
  PlainAttrs (MP a)/\Mf (MP a) (Z.nm a) (WM a)/\typeOf (.builtin<|WM a)=pure (.type "method_descriptor")/\s.TypeIs x (MP a)/\∀b,x=.ref b->∃o,s.heap.get? b=some o/\o.dict=none:=by
 rcases nM a 3 with q|q
 ·rcases nM a 1 with q1|q1
  ·obtain rfl:=lu<|aT q1;exact LJ p9 (N.append▸F.slot_list_append) F.type_list_append<|xj S hr r
  ·rcases nM a 2 with q2|q2
   ·obtain rfl:=dw (aT q2) q1;exact LJ p9 (N.extend▸Ro) F.type_list_extend<|xj S hr r
   ·obtain rfl:=dw (aT q) q2;exact LJ p9 (N.pop▸F.slot_list_pop) F.type_list_pop<|xj S hr r
 ·rcases nM a 4 with q1|q1
  ·obtain rfl:=dw (aT q1) q;exact LJ p9 (N.index▸Vy) F.type_list_index<|xj S hr r
  ·rcases nM a 5 with q2|q2
   ·obtain rfl:=dw (aT q2) q1;exact LJ Vz (N.get▸Bk) F.type_dict_get<|I5 S hr r
   ·obtain rfl:=dw ha q2;exact LJ Vz (N.Gh▸JH) F.type_dict_setdefault<|I5 S hr r
section
variable{P:Prop}{o v:SV}{a k:Nat}{args:List SV}{σ bk:bo}
theorem Iz(e:iA o a args σ=some (v,bk))(k0:∀k x,a=0->o=.h k->args=[x]->B1 k x σ=some bk->.none=v->P)(k1:∀k x,a=1->o=.h k->args=[x]->B0 k x σ=some bk->.none=v->P)
  (k2:∀k,a=2->o=.h k->args=[]->XH k σ=some (v,bk)->P) (k3:a=3->vJ σ.st o args=some v->σ=bk->P) (k4:a=4->Td σ.st o args=some v->σ=bk->P)
  (k5:∀k x d,a=5->o=.h k->args=[x,d]->nV k x d σ=some (v,bk)->P):P:=by
 rcases a with _|_|_|_|_|_|a
 ·exact aw e λk hk e=>aw e λx hx e=>dj e λτ h e=>Lq hk λhk=>kK hx λhx=>eI e λe1 e2=>k0 k x rfl hk hx (e2▸h) e1
 ·exact aw e λk hk e=>aw e λx hx e=>dj e λτ h e=>Lq hk λhk=>kK hx λhx=>eI e λe1 e2=>k1 k x rfl hk hx (e2▸h) e1
 ·exact aw e λk hk e=>r7 e λhx e=>Lq hk λhk=>k2 k rfl hk (bt.mp hx) e
 ·exact NN e λh e=>k3 rfl h e
 ·exact NN e λh e=>k4 rfl h e
 ·exact aw e λk hk e=>aw e λp hp e=>Lq hk λhk=>Bx hp λhp=>k5 k _ _ rfl hk hp e
 ·exact aW e
theorem S9(e:iA o a args σ=some (v,bk)):a<=5:=
 Iz e (λz z h z z z z=>h▸eO 5) (λz z h z z z z=>h▸(by decide)) (λz h z z z=>h▸(by decide)) (λh z z=>h▸(by decide)) (λh z z=>h▸(by decide)) λz z z h z z z=>h▸(by decide:5<=5)
theorem Pb(e:HW args=some p)(k1:args=[p.1]->p.2=.none->P)(k2:args=[p.1,p.2]->P):P:=by
 rcases args with _|⟨x,_|⟨d,_|_⟩⟩
 ·exact aW e
 ·exact eI (aa e) λh1 h2=>k1 (h1▸rfl) h2.symm
 ·exact eI (aa e) λh1 h2=>k2<|h1▸h2▸rfl
 ·exact aW e
end
theorem Om{σ bk:bo}(S:b7 Z σ.st g fx ρ s){ov v:SV}{a:Nat}(e:iA ov a vs σ=some (v,bk))(r:RV Z g ρ ov x)(rs:ei Z g ρ vs ys)(hu:A.units+65<cLine):
  bE Z A (call (.builtin<|WM a)<|x::ys) bk.st v g fx ρ s/\bk.loc=σ.loc:=
 Iz e
  (λk w ha ho hv h er=>by subst ha ho hv er;refine jG rs λz zs zz2 rz zz4=>?_;subst zz2;subst zz4;exact Lr S rfl h r rz)
  (λk w ha ho hv h er=>by subst ha ho hv er;refine jG rs λz zs zz2 rz zz4=>?_;subst zz2;subst zz4;exact K5 S rfl h r rz)
  (λk ha ho hv h=>by subst ha ho hv;obtain rfl:=rs;exact Xv S rfl h r)
  (λha h er=>aw h λw hw h=>aw h λxs hx h=>r7 h λhl h=>aw h λq hq h=>dj h λi hi hv=>aw hi λj hj hi=>kK hw λhw=>by obtain rfl:=aa hi;subst ha er hv hw hj;refine jG rs λz zs zz2 rz zz4=>?_;subst zz2;subst zz4;exact⟨OW S hx (fX hl) hq r rz (by simp only[cw];exact adb hu),rfl⟩)
  (λha h er=>aw h λp hp h=>aw h λq hd h=>aw h λu hu' hg=>by
   subst ha er;refine⟨Pb hp (λhw h2=>?_) λhw=>?_,rfl⟩
   ·subst hw;refine jG rs λz zs zz2 rz zz4=>?_;subst zz2;subst zz4;exact KU S hd hu' rz r (h2▸hg) hu
   ·subst hw;obtain⟨z,zs,rfl,rz,z2,zs2,rfl,rz2,rfl⟩:=rs;exact KR S hd hu' rz r rz2 hg hu)
  (λk w d ha ho hv h=>aw h λp hp h=>aw h λu hu' h=>r7 h λhc h=>dj h λy hy h=>eI h λe1 e2=>by subst ha ho hv e1 e2;obtain⟨z,zs,rfl,rz,z2,zs2,rfl,rz2,rfl⟩:=rs;exact⟨wV S (Ht hp) hu' (cI hc λa m=>a) rz r rz2 (cI hc λm b=>fX b) hy hu,by cases u<;>rfl⟩)
theorem IZ{es:List ao}(hs:es.all bP=true)(hlen:es.length<30):methodCallForm (es.length+([]:List Keyword).length) (vg pos<|kW es env) (backToKw pos<|keywordEach [] env)=true:=by unfold methodCallForm;rw[JK hs];exact decide_eq_true hlen
theorem Ds(O:zx Z K M)(N:NmM Z)(hC:pX Z n C){a:Nat}{o:ao}{apos pos:Pos}(ho:fK Z n ns C M to o)(he:rt Z n ns C M tes es)(hs:es.all bP=true)(hlen:es.length<30)
  (ha:a<iY) (hx:Z.nm a=x) (hsup:jz o=false) (hline:(apos.endLine==pos.line)=true):fK Z n ns C M (.bx to a tes) (.Call (.Attribute o x apos) es [] pos):=
 λσ bk v ev env A g fx ρ s V hA G E Q P=>by
  subst hx;have hpos:methodCallPos true o env apos pos=pure pos:=by unfold methodCallPos;rw[hline];rfl
  rw[arm_eval_Call,mD hsup];refine Yb ev (λov aq i f vs aU st' e1 hi hidx hm e2 hw e=>?_) λov aq vs aU e1 hi hrecv e2 hw=>?_
  ·subst e;refine aX<|ho σ _ _ e1 env A g fx ρ s V hA G E _ λbu a8 aQ aC y bC b5 bG cD=>aX<|dF ?_;unfold methodCall;rw[IZ hs hlen];refine x42 (OU bG.fM hi cD) λb d es' m zz4 X=>?_;subst zz4;have hl:=(X.look a).elim (·.2) λz=>z.elim λw z=>z.elim λw z=>z.elim λw z=>aW<|hidx.symm.trans z.1;refine qe (X.bound O hm hl) λw hf ht=>aX<|aR<|method_fn (O.here bG.fM) X.inst (O.ga _ X.ok.cls) (O.gn _ X.ok.cls) hf ht (by show(Mc _ _).map _=_;rw[hl];rfl)<|aX<|nH hpos
    (kQ hs<|he aq _ _ e2 env A bu a8 aQ aC V hA bG pos E _ λfE dB dP dJ ys cy fA dD iM=>?_)
   refine kg (hC _ _ _ _ _ hw A fE dB dP dJ (.ref f) (.ref b::ys) hA dD.fM ⟨rfl,rfl⟩ ⟨_,_,rfl,cD.mono cy,iM⟩) λhh Y=>⟨hh,Y.post (bk:=⟨aU.loc,st'⟩) dD rfl rfl<|(P.of bC b5).of cy fA⟩
  ·refine aX<|ho σ _ _ e1 env A g fx ρ s V hA G E _ λbu a8 aQ aC y bC b5 bG cD=>aX<|dF ?_;unfold methodCall;rw[IZ hs hlen];refine x05 (Ta N bG.fM hrecv (S9 hw) cD) λpa slot hty hT hd=>aX<|aR<|getMethod_builtin hT pa slot hty hd<|aX<|nH hpos
    (kQ hs<|he aq _ _ e2 env A bu a8 aQ aC V hA bG pos E _ λfE dB dP dJ ys cy fA dD iM=>⟨.builtin,?_⟩)
   refine kg (Om dD.fM hw (cD.mono cy) iM hA.u) λY hloc=>Y.post dD rfl hloc<|(P.of bC b5).of cy fA
end
theorem HF.len{Z:dM}{c:Addr}(h:HF Z c as):as.length<=iY:=by have:=h.nodup.length_le_of_subset λa ha=>cf.mpr<|h.low a ha;simpa using this
theorem N0{e:DictEntry}(h:e.key.isStr nm=true):Jx nm hsh key v (e::es)={e with val:=v}::es:=by unfold Jx;rw[if_pos h]
theorem AG{e:DictEntry}(h:e.key.isStr nm=false):Jx nm hsh key v (e::es)=e::Jx nm hsh key v es:=by rw[Jx,if_neg (by rw[h];exact bh)]
theorem Kp{es:List DictEntry}:∀{j:Nat},es.findIdx? (·.key.isStr nm)=some j->(Jx nm hsh key v es).map (·.key)=es.map (·.key)/\(Jx nm hsh key v es).map (·.val)=(es.map (·.val)).set j v:=by
 induction es with
 |nil=>intro _ h;exact aW h
 |cons e es ih=>
  intro j h;rw[eu] at h;cases hb:e.key.isStr nm with
  |true=>rw[hb] at h;obtain rfl:=aa h;rw[N0 hb];exact⟨rfl,rfl⟩
  |false=>rw[hb] at h;rw[AG hb];exact dj h λi hi e=>by subst e;refine kg (ih hi) λh1 h2=>⟨congrArg (List.cons _) h1,congrArg (List.cons _) h2⟩
theorem Kq{es:List DictEntry}:es.findIdx? (·.key.isStr nm)=none->Jx nm hsh key v es=es++[⟨hsh,key,v⟩]:=by
 induction es with
 |nil=>intro _;exact rfl
 |cons e es ih=>
  intro h;rw[eu] at h;cases hb:e.key.isStr nm with
  |true=>rw[hb] at h;exact jO h
  |false=>rw[hb] at h;rw[AG hb,ih<|Option.map_eq_none_iff.mp h];rfl
theorem f7.keys{es es':List DictEntry}:es'.map (·.key)=es.map (·.key)->f7 nm as es->f7 nm as es':=
 um (P:=λas es=>∀es':List DictEntry,es'.map (·.key)=es.map (·.key)->f7 nm as es->f7 nm as es') (λes' h z=>by have:=tW.mp h;subst this;trivial)
  (λa as e es ih es' h r=>by
   cases es' with
   |nil=>exact l4 rfl<|heq_of_eq h
   |cons e' es'=>exact⟨r.1.imp λz=>(List.head_eq_of_cons_eq h).trans,ih es' (List.tail_eq_of_cons_eq h) r.2⟩) (λz z z z h=>h.elim) (λz z z z h=>h.elim) as es es'
theorem f7.snoc{e:DictEntry}(ht:e.key=.str (nm a) t):f7 nm as es->f7 nm (as++[a]) (es++[e]):=
 um (P:=λas es=>f7 nm as es->f7 nm (as++[a]) (es++[e])) (λz=>⟨⟨t,ht⟩,trivial⟩) (λz z z z ih h=>⟨h.1,ih h.2⟩) (λz z h=>h.elim) (λz z h=>h.elim) as es
theorem G3:∀{i:Nat},iu a as i=none->a∉as:=by
 induction as with
 |nil=>intro _ _;exact aK
 |cons x xs ih=>
  intro i h;unfold iu at h;cases hx:x==a with
  |true=>rw[hx] at h;exact jO h
  |false=>rw[hx] at h;exact λm=>(aV.mp m).elim (λe=>beq_eq_false_iff_ne.mp hx e.symm)<|ih h
theorem G0:∀{i j:Nat},iu a as i=some j->a∈as:=by
 induction as with
 |nil=>intro _ _ h;exact aW h
 |cons x xs ih=>
  intro i j h;unfold iu at h;cases hx:x==a with
  |true=>exact aV.mpr<|.inl (beq_iff_eq.mp hx).symm
  |false=>rw[hx] at h;exact az _<|ih h
section
variable{Z:dM}{C:bT}{M:b6}{K:Frag}{n:Nat}{ns:bX}{c:TC}{st:List SO}{g fx:FH}{ρ:eE}{s:Shared}{A:bD}{σ bk:bo}{env:Env}
theorem agj{P:Prop}(e:uB i a v=some so)(k1:∀j,iu a i.2.1 0=some j->.inst i.1 i.2.1 (i.2.2.set j v)=so->P)(k2:iu a i.2.1 0=none->a<iY->.inst i.1 (i.2.1++[a]) (i.2.2++[v])=so->P):P:=by
 unfold uB at e;cases h:iu a i.2.1 0 with
 |some j=>rw[h] at e;exact k1 j h<|aa e
 |none=>rw[h] at e;exact j8 e λhl e=>k2 h (fX hl) e
theorem SH(e:uB i a v=some so)(h3:f7 Z.nm i.2.1 es)(h4:HF Z i.1 i.2.1):
  a<iY/\∃as' vs',so=.inst i.1 as' vs'/\HF Z i.1 as'/\∀hsh tk,f7 Z.nm as' (Jx (Z.nm a) hsh (.str (Z.nm a) tk) y es)/\∀{g':FH}{bQ:eE},ei Z g' bQ i.2.2 (es.map (·.val))->RV Z g' bQ v y->ei Z g' bQ vs' ((Jx (Z.nm a) hsh (.str (Z.nm a) tk) y es).map (·.val)):=by
 have ix:=D8 (a:=a) (i:=0) h3
 refine agj e (λj hj e=>?_) λhj ha e=>?_
 ·subst e;rcases ix with ⟨q,_⟩|⟨j',e',q1,q2,_,q4⟩
  ·exact aW<|q.symm.trans hj
  ·obtain rfl:j'=j:=(cz j').symm.trans<|aa<|q1.symm.trans hj;refine⟨h4.low a<|G0 hj,_,_,rfl,h4,λhsh tk=>?_⟩;refine kg (Kp (hsh:=hsh) (key:=.str (Z.nm a) tk) (v:=y) q4) λw1 w2=>⟨h3.keys w1,λh5 rv=>w2▸h5.set rv⟩
 ·subst e;rcases ix with ⟨_,_,q4⟩|⟨j',e',q1,_⟩
  ·refine⟨ha,_,_,rfl,⟨?_,?_,h4.cls⟩,λhsh tk=>?_⟩
   ·exact c9.mpr ⟨h4.nodup,eW.mpr ⟨aK,gq⟩,λb hb d hd e=>G3 hj<|aE.mp hd▸e▸hb⟩
   ·exact λb hb=>(ct.mp hb).elim (h4.low b) λhb=>aE.mp hb▸ha
   ·rw[Kq q4];refine⟨h3.snoc rfl,λh5 rv=>?_⟩;rw[bf];exact h5.append<|ei.one rv
  ·exact jO<|q1.symm.trans hj
theorem NZ:(Jx nm hsh key v es).length<=es.length+1:=by
 rw[<-putL_find];split
 ·rw[List.length_modify];exact jR _
 ·rw[aj];exact aG _
theorem NA(O:zx Z K M)(S:b7 Z σ.st g fx ρ s)(e:Mine.Bm ov a v σ=some bk)(r:RV Z g ρ ov x)(rv:RV Z g ρ v y):
  sg Z A (Vm x (Z.nm a) y) bk.st g fx ρ s/\bk.loc=σ.loc:=aw e λk hk e=>aw e λi hi e=>dj e λso hso er=>by
 obtain rfl:=Lq hk id
 subst er
 have hi:=CG hi
 refine dS r λp hp zz2=>?_
 subst zz2
 obtain⟨hne,es,m,h1,h2,h3,h4,h5⟩:=S.objs _ _ p hi hp
 have X:=O.here S
 have I:InstAt s.heap p.1 (nB i.1 p.2) i.1 (some<|dictOf es m):=⟨h1,rfl,rfl,h2⟩
 obtain⟨ha,as',vs',rfl,h4',hr⟩:=SH (y:=y) hso h3 h4
 refine⟨λE Q hq=>?_,rfl⟩
 refine qe (O.at_ i.1 a h4.cls ha) λhcn ht z=>?_
 have hlen:es.length<=iY:=by rw[h3.length];exact h4.len
 refine set_plain X I (O.sa i.1 h4.cls)<|osa_open X I (O.po i.1 h4.cls) ht λb=>?_
 refine dS (any_some<|O.cd i.1 h4.cls) λcd hc hd'=>aJ<|ab<|aJ<|aJ<|wpAny_loadPart h1<|aJ<|Looks.here (looks_clsIn X hc) ?_
 rw[hd']
 refine ab<|aX<|ab<|aX ?_
 refine aX<|aX<|i6<|ab<|aX<|wpAny_mkText<|aX<|wpAny_loadPart h2 ?_
 show av _ _ (if aRefKeyMayBeTheName (Z.nm a) es.toArray=true then _ else _) _ _ _
 have hc0:(!es.toArray.any (·.key.isStr (Z.nm a))&&es.toArray.any (·.refKey))=false:=by rw[<-Ms,<-Ms,tT,C9 h3,VC]
 rw[aRefKeyMayBeTheName_at,hc0]
 refine wpAny_updatePart h2 ?_
 have ho:(s.heap.update p.2<|Obj.putName (Z.nm a) (nF Z.w.params<|Z.nm a) (.str (Z.nm a)<|s.toks+1) y).get? p.2=some (dictOf (Jx (Z.nm a) (nF Z.w.params<|Z.nm a) (.str (Z.nm a)<|s.toks+1) y es)<|putN (Z.nm a) es m):=by rw[du _ h2 (by rw[putName_dict];rfl),putName_dict]
 have hs:dH p.2 s.heap (s.heap.update p.2<|Obj.putName (Z.nm a) (nF Z.w.params<|Z.nm a) (.str (Z.nm a)<|s.toks+1) y):=cK ..
 refine aX<|wpAny_lookBehind ho (by refine pastItsLine_dict ?_;rw[oE];refine ah NZ ?_;rw[jo];unfold iY at hlen;exact aef hlen) ?_
 refine kg (hr (nF Z.w.params<|Z.nm a)<|s.toks+1) λw1 w2=>ab<|hq _ ρ _ a7<|S.upd _ hi rfl hp (λb o hb hb' e=>(hs.2 b hb').trans e) ⟨hne,_,_,(hs.2 _ hne).trans h1,ho,w1,h4',w2 (h5.mono a7)<|rv.mono a7⟩
end
section
variable{Z:dM}{C:bT}{M:b6}{K:Frag}{n:Nat}{ns:bX}{c:TC}{st:List SO}{g e9 bu fx:FH}{ρ el aQ:eE}{s:Shared}{A:bD}{σ bk:bo}{env:Env}{E:Value->Shared->Prop}
theorem fY.step{St:Nat->Heap->Prop}(L:fY Z.prog Z.w Z A I wr items e9 el tup St)(S:b7 Z st bu (over fx wr s.heap) aQ s)(X:ey e9 el bu aQ)
  (hx:items[i]? =some x) (ht:tup=true->∃elts k p,tgt=.Tuple elts k p) (hst:St i s.heap) {Q:Option Value->Shared->Prop}
  (h:∀g' s' v,ey bu aQ g' aQ->b7 Z st g' (over fx wr s'.heap) aQ s'->RV Z g' aQ x v->(∀(Q':Unit->Shared->Prop)(E':Value->Shared->Prop),(∀g'' s'',ey g' aQ g'' aQ->b7 Z st g'' (over fx wr s''.heap) aQ s''->St (i+1) s''.heap->Q' () s'')->av (Mo Z) A (iF tgt (.ref I) v) Q' E' s')->Q (some v) s'):
  av (Mo Z) A (s6<|.ref I) Q E s:=by
 refine L.item i x s Q E tgt hx ht hst λv h' tk hk hrv hex hlet=>?_
 have S':=S.turn tk (L.there i _ hst) hk
 have X':ey bu aQ (eG Z bu s.heap h' λz=>false) aQ:=a7
 refine h _ _ v X' S' (hrv _ _ (λb o e=>X'.g _ _<|X.g _ _ e) X.ρ λb o hb e e'=>?_) λQ' E' hq=>?_
 ·exact gz S e e' rfl (S.fresh e).2.2
 ·refine hlet Q' E' λh'' hk' st'=>hq _ {s with heap:=h'',toks:=tk} a7 (b7.turn (s:={s with heap:=h',toks:=tk}) S' tk hex hk') st'
theorem PO{St:Nat->Heap->Prop}(L:fY Z.prog Z.w Z A I wr items e9 el false St)(n:Nat):∀(i:Nat)(s:Shared)(bu:FH)(Q:List Value->Shared->Prop),i+n=items.length->b7 Z st bu (over fx wr s.heap) aQ s->ey e9 el bu aQ->St i s.heap->
   (∀g' s' ys,ey bu aQ g' aQ->b7 Z st g' (over fx wr s'.heap) aQ s'->St items.length s'.heap->ei Z g' aQ (items.drop i) ys->Q ys s')->av (Mo Z) A (draw (.ref I) n) Q E s:=by
 induction n with
 |zero=>intro i s bu Q hn S X hst h;refine ab (h bu s [] (.refl _ _) S (by rwa[<-hn]) ?_);rw[qt<|by exact eD<|id<|cG hn];rfl
 |succ n ih=>intro i s bu Q hn S X hst h;have hi:i<items.length:=aeb hn;show av _ _ (s6 (.ref I)>>=_) Q E s;refine aX<|L.step S X (ay hi) (tgt:=.Name "x" default) ae hst λg' s' v X' S' r hlet=>?_;show av _ _ (iF (.Name "x" default) (.ref I) v>>=λz=>(do return v::(<-k7 [v]<|draw (.ref I) n))) Q E s';refine aX<|hlet _ _ λg'' s'' X'' S'' hst'=>?_;refine aX<|aR<|ih (i+1) s'' g'' _ (ah9 hn) S'' ((X.trans X').trans X'') hst' λg3 s3 ys X3 S3 st3 r3=>ab ?_;refine h g3 s3 _ ((X'.trans X'').trans X3) S3 st3 ?_;rw[eF hi];exact Av _ _ rfl ((r.mono X'').mono X3) r3
theorem qf(hh:A.handled=none)(S:b7 Z st g fx ρ s){items:List SV}(hR:uj Z A (lq x) st items false g fx ρ s){T id:String}(hT:s.TypeIs x T)(hl:mZ (.type T) "__iter__"=pure (some<|.builtin id)){Q:List Value->Shared->Prop}
  (h:∀g' s' ys,ey g ρ g' ρ->b7 Z st g' fx ρ s'->ei Z g' ρ items ys->Q ys s'):av (Mo Z) A (unpackItems x items.length none) Q E s:=by
 refine aX<|aX<|iE hT hl ?_
 refine ab ?_
 simp only[dI,if_false]
 refine aX<|aR<|hR _ _ λg' h' tk I wr St X S' hfr L st0=>?_
 refine aJ<|aR<|PO L items.length 0 _ g' _ (adX) S' (.refl _ _) st0 λg2 s2 ys X2 S2 st2 r2=>?_
 have hlen:ys.length=items.length:=by rw[r2.length,jN]
 refine u7 (by omega)<|aJ<|aR<|L.done s2 _ _ st2 λh3 tk3 hk3=>?_
 simp only[tR,dI,if_false]
 have S3:=S2.turn tk3 (L.there _ _ st2) hk3
 have hfx:=λb hb=>(S.fresh<|hfr b hb).2.1
 refine ab<|h _ _ ys ((X.trans X2).trans a7) (S3.leave hfx) ?_
 rw[jN] at r2
 exact r2.mono a7
def Ai(Z:dM)(n:Nat)(ns:bX)(C:bT)(M:b6)(t:T)(e:ao):Prop:=
 ∀σ bk v,BS C M t v σ=some bk->∀env A g fx ρ s y,d8 ns env->t6 n A->dE Z ns env σ g fx ρ s->RV Z g ρ v y->∀E Q,zw Z ns env bk g fx ρ Q->av (Mo Z) A (qz e env y) Q E s
def zv(Z:dM)(n:Nat)(ns:bX)(C:bT)(M:b6)(ts:List T)(es:List ao):Prop:=
 ∀σ bk vs,yB C M ts vs σ=some bk->∀env A g fx ρ s ys,d8 ns env->t6 n A->dE Z ns env σ g fx ρ s->ei Z g ρ vs ys->∀E Q,zw Z ns env bk g fx ρ Q->av (Mo Z) A (assignInOrder ((xI es env).map (·.2)) ys) Q E s
theorem rM(hp:fo x ns 0=some (i,k))(hk:k=.local\/k=.cell):Ai Z n ns C M (.nm i) (.Name x pos):=
 λσ bk v ev env A g fx ρ s y V hA G r E Q P=>wpAny_assign_Name<|lB hp hk ev V G r λg' o s' X G'=>P g' _ ρ s' X (λb hb=>cH hb) G'
theorem Sm(O:zx Z K M)(he:fK Z n ns C M te e)(hx:Z.nm a=x):Ai Z n ns C M (.at te a) (.Attribute e x pos):=
 λσ bk v ev env A g fx ρ s y V hA G r E Q P=>aw ev λp e1 ev=>by
  subst hx;show av _ _ (do
   let ov<-k7 [y] (eval e env)
   ma pos.atName
   k7 [y,ov] (Vm ov (Z.nm a) y)
   release [y,ov] []) Q E s
  refine aX<|aR<|he σ _ _ e1 env A g fx ρ s V hA G E _ λbu a8 aQ aC z bC b5 bG cD=>aX<|dF<|aX<|aR ?_;refine kg (NA (A:=A) O bG.fM ev cD<|r.mono bC) λY hl=>Y.post bG rfl hl λfE dB dP dJ cy fA dD=>wpAny_release'<|(P.of bC b5) fE dB dP dJ cy fA dD
theorem Nz(S:b7 Z σ.st g fx ρ s)(e:Mine.pz ov iv v σ=some bk)(r:RV Z g ρ ov x)(ri:RV Z g ρ iv z)(rv:RV Z g ρ v y)(hu:A.units+65<cLine):
  sg Z A (lZ x z y) bk.st g fx ρ s/\bk.loc=σ.loc:=aw e λk hk e'=>by
 obtain rfl:=Lq hk id
 cases hl:σ.st[k]?.bind gE with
 |some xs=>rw[hl] at e';exact aw e' λi hi e=>j8 e λhc er=>cI hc λhc h3=>cI hc λh1 h2=>iD hi λhi=>by subst hi er;exact⟨BN S (vU hl) (fX h1) (fX h2) (fX h3) r ri rv,rfl⟩
 |none=>rw[hl] at e';exact aw e' λq hq e=>r7 e λhc e=>dj e λu hf er=>by subst er;exact⟨BO S (Ht hq) hf (cI hc λa w=>a) ri r rv (cI hc λw b=>fX b) hu,rfl⟩
set_option backward.match.sparseCases true in
theorem Hu(o i:ao)(pos:Pos)(env:Env)(v:Value):∃f:Value->Value->List Value,qz (.Subscript o i pos) env v=(do
  let ov<-k7 [v]<|eval o env;let iv<-k7 [v,ov] (eval i env)
  ma pos
  k7 [v,ov,iv] (lZ ov iv v)
  release (f ov iv) []):=⟨λov iv=>match i with|.Slice _ _ none _=>[iv,v,ov]|_=>[v,ov,iv],rfl⟩
theorem Sl(he:fK Z n ns C M te e)(hi:fK Z n ns C M ti i):Ai Z n ns C M (.ix te ti) (.Subscript e i pos):=
 λσ bk v ev env A g fx ρ s y V hA G r E Q P=>aw ev λp e1 ev=>aw ev λq e2 ev=>by refine fT (Hu e i pos env y) λf hf=>?_;rw[hf];refine aX<|aR<|he σ _ _ e1 env A g fx ρ s V hA G E _ λbu a8 aQ aC z bC b5 bG cD=>aX<|aR<|hi p.2 _ _ e2 env A bu a8 aQ aC V hA bG E _ λfE dB dP dJ w cy fA dD iM=>aX<|dF<|aX<|aR ?_;refine kg (Nz dD.fM ev (cD.mono cy) iM ((r.mono bC).mono cy) hA.u) λY hl=>Y.post dD rfl hl λiN iV ir fN eC l8 jI=>wpAny_release'<|((P.of bC b5).of cy fA) iN iV ir fN eC l8 jI
theorem mu{env:Env}(h:bP e=true):xI (e::es) env=(false,qz e env)::xI es env:=by cases e<;>first|rfl|exact ae h
theorem vV{env:Env}{es:List ao}:es.all bP=true->(xI es env).length=es.length/\(xI es env).findIdx? (·.1)=none:=by
 induction es with
 |nil=>intro _;exact⟨rfl,rfl⟩
 |cons e es ih=>intro h;exact cI h λh1 h2=>by rw[mu h1];refine kg (ih h2) λh1 h2=>⟨congrArg kr h1,by rw[eu,h2];rfl⟩
theorem vA:zv Z n ns C M [] []:=
 λσ bk vs ev env A g fx ρ s ys V hA G r E Q P=>by
  cases vs with
  |nil=>obtain rfl:=aa ev;exact assignInOrder_nil<|P g fx ρ s (.refl _ _) (λz z=>rfl) G
  |cons v vs=>exact aW ev
theorem pE(hs:bP e=true)(h:Ai Z n ns C M t e)(hl:zv Z n ns C M ts es):zv Z n ns C M (t::ts) (e::es):=
 λσ bk vs ev env A g fx ρ s ys V hA G r E Q P=>by
  cases vs with
  |nil=>exact aW ev
  |cons v vs=>exact aw ev λτ h1 h2=>by refine jG r λy ys' zz2 r1 r2=>?_;subst zz2;rw[mu hs];exact xH<|h σ τ v h1 env A g fx ρ s y V hA G r1 E _ λbu a8 aQ aC bC b5 bG=>hl τ bk vs h2 env A bu a8 aQ aC ys' V hA bG (r2.mono bC) E Q<|P.of bC b5
theorem AF{σ bk:bo}:yB C M ts vs σ=some bk->ts.length=vs.length:=
 um (P:=λts vs=>∀σ:bo,yB C M ts vs σ=some bk->ts.length=vs.length) (λz z=>rfl) (λz z z z ih z h=>aw h λτ z h2=>congrArg kr<|ih τ h2) (λz z z h=>aW h) (λz z z h=>aW h) ts vs σ
theorem xZ(hh:A.handled=none)(S:b7 Z st g fx ρ s){v:SV}{xs:List SV}(hv:v=.tup xs\/v=.lst xs){x:Value}(r:RV Z g ρ v x){Q:List Value->Shared->Prop}
  (h:∀g' s' ys,ey g ρ g' ρ->b7 Z st g' fx ρ s'->ei Z g' ρ xs ys->Q ys s'):av (Mo Z) A (unpackItems x xs.length none) Q E s:=by
 rcases hv with rfl|rfl
 ·have hR:=DC hh S r;refine qv r λa vs m zz3 ho z=>?_;subst zz3;exact qf hh S hR ⟨_,S.keep _ _ ho,rfl⟩ slot_tuple_iter.lookup h
 ·have hR:=DD hh S r;refine qv r λa vs m zz3 ho z=>?_;subst zz3;exact qf hh S hR ⟨_,S.keep _ _ ho,rfl⟩ slot_list_iter.lookup h
theorem H3{v:SV}{xs:List SV}(h:FN v=some xs):v=.tup xs\/v=.lst xs:=by cases v<;>first|exact .inl (congrArg SV.tup<|aa h)|exact .inr (congrArg SV.lst<|aa h)|exact aW h
theorem BF{ts:List T}{es:List ao}(hs:es.all bP=true)(hlen:ts.length=es.length)(h:zv Z n ns C M ts es):Ai Z n ns C M (.tp ts) (.Tuple es k pos):=
 λσ bk v ev env A g fx ρ s y V hA G r E Q P=>aw ev λxs hx hp=>by refine aX<|dF ?_;refine kg (vV (env:=env) hs) λh1 h2=>?_;unfold unpack;rw[h1,h2,<-hlen,AF hp];exact aX<|aR<|xZ hA.handled G.fM (H3 hx) r λg' s' ys X S' r'=>h σ bk xs hp env A g' fx ρ s' ys V hA (G.with X S' rfl) r' E Q<|P.of X λz z=>rfl
end
section
variable{Z:dM}{C:bT}{M:b6}{K:Frag}{n:Nat}{ns:bX}{c:TC}{st st':List SO}{g g' fx:FH}{ρ:eE}{s:Shared}{A:bD}{σ bk:bo}{env:Env}{E:Value->Shared->Prop}
theorem sd:frozen g h p p.1=h.get? p.1/\frozen g h p p.2=h.get? p.2:=by simp[frozen]
def Ly(Z:dM)(g fx:FH)(ρ:eE)(s:Shared)(st':List SO)(v':SV)(y:Value):Prop:=∃g',ey g ρ g' ρ/\b7 Z st' g' fx ρ s/\RV Z g' [] v' y/\v'.free=true
def afp(Z:dM)(g fx:FH)(ρ:eE)(s:Shared)(st':List SO)(vs':List SV)(ys:List Value):Prop:=∃g',ey g ρ g' ρ/\b7 Z st' g' fx ρ s/\ei Z g' [] vs' ys/\SV.free.go vs'=true
section
variable{P:Prop}{v:SV}{r:SV×List SO}
theorem IX{m:Nat}(e:freeze (m+1) v st=some r)(k1:∀k xs,v=.h k->st[k]? =some (.list xs)->(b4 m xs<|st.set k .gone).map (λr=>(SV.lst r.1,r.2))=some r->P)
  (k2:∀k ks xs,v=.h k->st[k]? =some (.dict ks xs)->(b4 m xs<|st.set k .gone).map (λr=>(SV.hH ks r.1,r.2))=some r->P) (k3:∀k c as xs,v=.h k->st[k]? =some (.inst c as xs)->(b4 m xs<|st.set k .gone).map (λr=>(SV.inst c as r.1,r.2))=some r->P)
  (k4:∀xs,v=.tup xs->(b4 m xs st).map (λr=>(SV.tup r.1,r.2))=some r->P) (k5:v.free=true->(v,st)=r->P):P:=by
 have kk:∀w,v=w->gd w.free (w,st)=some r->P:=λw h e=>by subst h;exact j8 e k5
 cases v with
 |h k=>
  exact aw e λo ho e=>by
   cases o with
   |list xs=>exact k1 k xs rfl ho e
   |dict ks xs=>exact r7 e λz e=>k2 k ks xs rfl ho e
   |inst c as xs=>exact k3 k c as xs rfl ho e
   |cell _=>exact aW e
   |gone=>exact aW e
 |tup xs=>exact k4 xs rfl e
 |_=>exact kk _ rfl e
theorem Ef{m:Nat}{r:List SV×List SO}(e:b4 (m+1) vs st=some r)(k1:SV.free.go vs=true->(vs,st)=r->P)(k2:∀x xs p q,vs=x::xs->freeze m x st=some p->b4 m xs p.2=some q->(p.1::q.1,q.2)=r->P):P:=by
 unfold b4 at e;cases h:b8 vs with
 |true=>rw[h] at e;exact k1 h<|aa e
 |false=>
  rw[h] at e;cases vs with
  |nil=>exact ae h
  |cons x xs=>exact aw e λp hp e=>dj e λq hq e=>k2 x xs p q rfl hp hq e
end
def FOk(Z:dM)(fx:FH)(ρ:eE)(s:Shared)(n:Nat):Prop:=∀{v:SV}{r:SV×List SO}{st:List SO}{g:FH}{y:Value},freeze n v st=some r->b7 Z st g fx ρ s->RV Z g ρ v y->Ly Z g fx ρ s r.2 r.1 y
def Qz(Z:dM)(fx:FH)(ρ:eE)(s:Shared)(n:Nat):Prop:=∀{vs:List SV}{r:List SV×List SO}{st:List SO}{g:FH}{ys:List Value},b4 n vs st=some r->b7 Z st g fx ρ s->ei Z g ρ vs ys->afp Z g fx ρ s r.2 r.1 ys
section
variable{m k:Nat}{xs:List SV}{q:List SV×List SO}{y:Value}(ih:Qz Z fx ρ s m)(S:b7 Z st g fx ρ s)
include ih S
theorem Ss(hk:st[k]? =some (.list xs))(hf:b4 m xs (st.set k .gone)=some q)(rv:RV Z g ρ (.h k) y):Ly Z g fx ρ s q.2 (.lst q.1) y:=by refine dS rv λp hp zz2=>?_;subst zz2;obtain⟨hpp,vs,m,ho,rs⟩:=S.objs _ _ p hk hp;have X:=ey.frozen S hk rfl hp;refine LK (ih hf (S.freeze hk rfl hp)<|rs.mono X) λg2 X2 S2 r2 f2=>y14 g2 (X.trans X2) S2 ⟨_,vs,m,rfl,X2.g _ _<|sd.1.trans ho,r2⟩ rfl
theorem Su(hk:st[k]? =some (.dict ks xs))(hf:b4 m xs (st.set k .gone)=some q)(rv:RV Z g ρ (.h k) y):Ly Z g fx ρ s q.2 (.hH ks q.1) y:=by refine dS rv λp hp zz2=>?_;subst zz2;obtain⟨hpp,es,m,ho,rk,rs,ok,no⟩:=S.objs _ _ p hk hp;have X:=ey.frozen S hk rfl hp;refine LK (ih hf (S.freeze hk rfl hp)<|rs.mono X) λg2 X2 S2 r2 f2=>y14 g2 (X.trans X2) S2 ⟨_,es,m,rfl,X2.g _ _<|sd.1.trans ho,rk.mono (X.trans X2).nil,r2,ok,no⟩ rfl
theorem Nx(hk:st[k]? =some (.inst cc as xs))(hf:b4 m xs (st.set k .gone)=some q)(rv:RV Z g ρ (.h k) y):Ly Z g fx ρ s q.2 (.inst cc as q.1) y:=by refine dS rv λp hp zz2=>?_;subst zz2;obtain⟨hne,es,m,ho,hd,ra,ok,rs⟩:=S.objs _ _ p hk hp;have X:=ey.frozen S hk rfl hp;refine LK (ih hf (S.freeze hk rfl hp)<|rs.mono X) λg2 X2 S2 r2 f2=>y14 g2 (X.trans X2) S2 ⟨_,_,es,m,rfl,X2.g _ _<|sd.1.trans ho,X2.g _ _<|sd.2.trans hd,ra,ok,r2⟩ rfl
theorem Sr(hf:b4 m xs st=some q)(rv:RV Z g ρ (.tup xs) y):Ly Z g fx ρ s q.2 (.tup q.1) y:=by refine qv rv λa vs m zz3 ho rs=>?_;subst zz3;refine LK (ih hf S rs) λg2 X2 S2 r2 f2=>y14 g2 X2 S2 ⟨a,vs,m,rfl,X2.g _ _ ho,r2⟩ f2
end
theorem Nw{m:Nat}(ih:Qz Z fx ρ s m):FOk Z fx ρ s (m+1):=λ{_ _ _ g _} h S rv=>IX h
  (λk xs hv hk h=>dj h λq hf e=>by subst hv e;exact Ss ih S hk hf rv)
  (λk ks xs hv hk h=>dj h λq hf e=>by subst hv e;exact Su ih S hk hf rv)
  (λk cc as xs hv hk h=>dj h λq hf e=>by subst hv e;exact Nx ih S hk hf rv)
  (λxs hv h=>dj h λq hf e=>by subst hv e;exact Sr ih S hf rv)
  (λhfr e=>by subst e;exact⟨g,.refl _ _,S,rv.free hfr,hfr⟩)
theorem Kd{m:Nat}(i1:FOk Z fx ρ s m)(i2:Qz Z fx ρ s m):Qz Z fx ρ s (m+1):=λ{_ _ _ g _} h S rv=>Ef h
  (λhfr e=>by subst e;exact⟨g,.refl _ _,S,rv.free hfr,hfr⟩)
  (λx xs p q hv h1 h2 e=>by subst hv e;refine jG rv λy ys' zz2 r1 r2=>?_;subst zz2;refine LK (i1 h1 S r1) λg1 X1 S1 q1 f1=>LK (i2 h2 S1<|r2.mono X1) λg2 X2 S2 q2 f2=>?_;exact⟨g2,X1.trans X2,S2,⟨y,ys',rfl,q1.mono X2.nil,q2⟩,bW.mpr ⟨f1,f2⟩⟩)
theorem Sv(n:Nat):FOk Z fx ρ s n/\Qz Z fx ρ s n:=by
 induction n with
 |zero=>exact⟨λh z z=>aW h,λh z z=>aW h⟩
 |succ n ih=>exact⟨Nw ih.2,Kd ih.1 ih.2⟩
theorem mU{n:Nat}{v:SV}{r:SV×List SO}{st:List SO}{g:FH}{y:Value}(h:freeze n v st=some r)(S:b7 Z st g fx ρ s)(rv:RV Z g ρ v y):Ly Z g fx ρ s r.2 r.1 y:=(Sv n).1 h S rv
def ZX(env:Env)(σ:bo)(ρ:eE)(s:Shared)(x:Str)(i:Nat)(k:cF)(y:Value):Prop:=
 (k=.local->∀m,s.heap.Ns env.locals m->m x=some y)/\(∀c p,(k=.cell\/k=.free)->σ.loc[i]? =some (.cell c)->ρ[c]? =some p->∃o,s.heap.get? p.1=some o/\o.data=.cell (some y))
theorem HV{m:Str->Option Value}{i:Nat}{x:Str}{k:cF}(L:mE Z g ρ env ns σ.loc m)(hi:ns[i]? =some (x,k))(hk:k=.local\/k=.cell\/k=.free){lv:LV}(h:σ.loc[i]? =some lv)(hn:∀j,lv≠.cell j):k=.local:=
 hk.elim id λhk=>by refine rJ (L.sD i x k hi hk) λcc p h1 z=>(hn cc<|aa<|h.symm.trans h1).elim
theorem B9{m:Str->Option Value}{i j:Nat}{x:Str}{k:cF}(L:mE Z g ρ env ns σ.loc m)(hi:ns[i]? =some (x,k))(hk:k=.local\/k=.cell\/k=.free)(h:σ.loc[i]? =some (.cell j)):(k=.cell\/k=.free)/\∃p,ρ[j]? =some p/\env.cells.lookup x=some p.1:=by
 rcases hk with rfl|hk
 ·refine dS (L.loc i x hi) λlv h1 h2=>?_;obtain rfl:=aa<|h1.symm.trans h;rcases h2 with h2|⟨_,_,h2,_⟩<;>exact LV.noConfusion h2
 ·refine jG (L.sD i x k hi hk) λcc p h1 h2 h3=>?_;obtain rfl:=lvC<|aa<|h1.symm.trans h;exact⟨hk,p,h2,h3⟩
theorem DA{i:Nat}{x:Str}{v:SV}{y:Value}{k:cF}(hi:ns[i]? =some (x,k))(hk:k=.local\/k=.cell\/k=.free)(V:d8 ns env)(G:dE Z ns env σ g fx ρ s)
  (he:iy i v σ=some bk) (hr:RV Z g ρ v y) (hy:ZX env σ ρ s x i k y):∃g',ey g ρ g' ρ/\dE Z ns env bk g' fx ρ s/\RV Z g' ρ v y:=by
 refine jG G.AS.is λoL m hL hO L=>BM he (λj ov h1 hc e=>by
  subst e;obtain⟨hk',p,h2,h3⟩:=B9 L hi hk h1;refine kg (G.fM.objs j _ p hc h2) λhpp z=>dS (hy.2 j p hk' h1 h2) λo ho hd=>?_;have hX:ey g ρ (eG Z g s.heap s.heap λz=>false) ρ:=a7;exact⟨_,hX,⟨G.fM.upd s.toks hc rfl h2 (λb o z z e=>e) ⟨hpp,o,some y,ho,hd,y,rfl,hr.mono hX⟩,⟨oL,m,hL,hO,L.mono hX⟩⟩,hr.mono hX⟩)
  λlv h1 hn e=>by
  subst e;obtain rfl:=HV L hi hk h1 hn;have hm:=hy.1 rfl m<|hO.ns<|G.fM.fix _ _ hL;refine Aw g (.refl _ _) ⟨G.fM,⟨oL,m,hL,hO,?_⟩⟩ hr;have e:(λn=>if n=x then some y else m n)=m:=by
   funext n;by_cases e:n=x
   ·rw[if_pos e,e,hm]
   ·rw[if_neg e]
  exact e▸L.store V hi hr
theorem yK{x:Str}{i:Nat}{k:cF}{v:SV}(hi:ns[i]? =some (x,k))(hk:k=.local\/k=.cell\/k=.free)(he:mq i σ=some v)(G:dE Z ns env σ g fx ρ s):
  ∃y,RV Z g ρ v y/\ZX env σ ρ s x i k y:=by
 refine jG G.AS.is λoL m hL hO L=>?_
 have hn:=hO.ns<|G.fM.fix _ _ hL
 exact xk he (λh1=>by
  obtain rfl:=HV L hi hk h1 λj e=>LV.noConfusion e;refine dS (L.loc i x hi) λlv h1' h2=>?_;obtain rfl:=aa<|h1'.symm.trans h1;rcases h2 with h2|⟨v',y,h2,h3,r⟩
  ·exact LV.noConfusion h2
  ·obtain rfl:=lvV h2;exact⟨y,r,λz m' hm'=>(hm'.agree hn x).trans h3,λc p h=>h.elim cV λh=>cV h⟩)
  λj h1 hc=>by
  obtain⟨hk',p,h2,h3⟩:=B9 L hi hk h1;obtain⟨_,o,ov,ho,hd,y,rfl,r⟩:=G.fM.objs j _ p hc h2;refine Aw y r (λe=>?_) λc' p' z e1 e2=>?_
  ·subst e;exact hk'.elim cV λh=>cV h
  ·obtain rfl:=lvC<|aa<|h1.symm.trans e1;obtain rfl:=aa<|h2.symm.trans e2;exact⟨o,ho,hd⟩
theorem AM{k:cF}{v:SV}{y:Value}(hp:fo x ns 0=some (i,k))(hk:k=.local\/k=.cell\/k=.free)(V:d8 ns env)(G:dE Z ns env σ g fx ρ s)(he:mq i σ=some v)
  (hy:ZX env σ ρ s x i k y)
  (h:Q y s):av (Mo Z) A (eval (.Name x pos) env) Q E s:=by
 refine kg (iz hp) λhi hl=>dS (G.AS.abe G.fM) λm hn L=>?_
 have hd:=V.pM _<|aI hi
 have cellcase:(k=.cell\/k=.free)->(env.kindOf x=some .cell\/env.kindOf x=some .free)->av (Mo Z) A (eval (.Name x pos) env) Q E s:=by
  intro hk' hkind;refine jG (L.sD i x k hi hk') λc p h1 h2 h3=>dS (hy.2 c p hk' h1 h2) λo ho hd'=>?_;have hcell:s.heap.IsCell p.1 (some y):=⟨_,ho,hd'⟩;refine E4 ?_ hd.1;rcases hkind with hk|hk
  ·exact Vi V.kind hk h3 hcell h
  ·exact Vh V.kind hk h3 hcell h hd.2
 rcases hk with rfl|rfl|rfl
 ·exact E4 (Q3 V.kind (V.loc _ hl) hn (hy.1 rfl m hn) h) hd.1
 ·exact cellcase (.inl rfl)<|.inl<|V.cell _ hl
 ·exact cellcase (.inr rfl)<|V.free _ hl
theorem agt{v:SV}{P:Prop}(e:Pl i σ=some (v,bk))(k1:∀u w st',mq i σ=some u->freeze fz u σ.st=some (w,st')->iy i w {σ with st:=st'}=some bk->w=v->P)(k2:mq i σ=some v->σ=bk->P):P:=aw e λu hu e=>by
 cases h:UL u with
 |some k=>rw[h] at e;exact aw e λp hp e=>dj e λτ ht e=>eI e λe1 e2=>k1 u p.1 p.2 hu hp (e2▸ht) e1
 |none=>rw[h] at e;exact pI e λe1 e2=>k2 (e1▸hu) e2
theorem Si{k:cF}(hp:fo x ns 0=some (i,k))(hk:k=.local\/k=.cell\/k=.free):fK Z n ns C M (.rl i) (.Name x pos):=
 λσ bk v ev env A g fx ρ s V hA G E Q P=>by
  have hi:=(iz hp).1;refine agt ev (λu w st' hl hf ht e=>?_) λhl e=>?_
  ·subst e;refine dS (yK hi hk hl G) λy r hy=>AM hp hk V G hl hy ?_;refine LK (mU hf G.fM r) λg1 X1 S1 r1 f1=>u6 (DA hi hk V (G.with (bk:={σ with st:=st'}) X1 S1 rfl) ht (r1.free f1) hy) λg2 X2 G2 r2=>?_;exact P g2 fx ρ s y (X1.trans X2) (λz z=>rfl) G2 r2
  ·subst e;refine dS (yK hi hk hl G) λy r hy=>AM hp hk V G hl hy<|P g fx ρ s y (.refl _ _) (λz z=>rfl) G r
end
def FLR(Z:dM)(g:FH)(ρ:eE):FL->Flow->Prop
 |.next,f=>f=.next
 |.ret v,f=>∃y,f=.ret y/\RV Z g ρ v y
theorem FLR.plain{Z:dM}{g:FH}{ρ:eE}{fl:FL}(h:FLR Z g ρ fl f):(fl=.next/\f=.next)\/∃v y,fl=.ret v/\f=.ret y/\RV Z g ρ v y:=by
 cases fl with
 |next=>exact .inl ⟨rfl,h⟩
 |ret v=>obtain⟨y,e,r⟩:=h;exact .inr ⟨v,y,rfl,e,r⟩
section
variable{Z:dM}{C:bT}{M:b6}{K:Frag}{n:Nat}{ns:bX}{c:TC}{st st':List SO}{g g' fx:FH}{ρ bQ:eE}{s:Shared}{A:bD}{σ bk:bo}{env:Env}{E:Value->Shared->Prop}{i:Nat}{fe:Env->Prop}
def A6(Z:dM)(ns:bX)(env:Env)(bk:bo)(fl:FL)(g fx:FH)(ρ:eE)(Q:Flow->Shared->Prop):Prop:=
 ∀g' fx' bQ s' f,ey g ρ g' bQ->(∀b,b≠env.locals->fx' b=fx b)->dE Z ns env bk g' fx' bQ s'->FLR Z g' bQ fl f->Q f s'
theorem A6.of{fl:FL}(X:ey g ρ bu aQ)(F:∀b,b≠env.locals->a8 b=fx b)(P:A6 Z ns env bk fl g fx ρ Q):A6 Z ns env bk fl bu a8 aQ Q:=
 λg' fx' bQ s' f X' F'=>P g' fx' bQ s' f (X.trans X') λb hb=>(F' b hb).trans<|F b hb
def nr(Z:dM)(n:Nat)(ns:bX)(C:bT)(M:b6)(fe:Env->Prop)(t:Mine.S)(e:Stmt):Prop:=
 ∀σ bk fl,kB C M t σ=some (fl,bk)->∀env A g fx ρ s,d8 ns env->fe env->t6 n A->dE Z ns env σ g fx ρ s->∀E Q,A6 Z ns env bk fl g fx ρ Q->av (Mo Z) A (exec e env) Q E s
def sW(Z:dM)(n:Nat)(ns:bX)(C:bT)(M:b6)(fe:Env->Prop)(t:List Mine.S)(e:List Stmt):Prop:=
 ∀σ bk fl,cX C M t σ=some (fl,bk)->∀env A g fx ρ s,d8 ns env->fe env->t6 n A->dE Z ns env σ g fx ρ s->∀E Q,A6 Z ns env bk fl g fx ρ Q->av (Mo Z) A (execs e env) Q E s
section
variable{P:Prop}{fl:FL}{t:Mine.S}{ts:List Mine.S}
theorem flE{q:FL×bo}{f:bo->Option (FL×bo)}{x:Option (FL×bo)}(hx:x=some q)(e:(match q.1 with|.next=>f q.2|.ret v=>some (.ret v,q.2))=some (fl,bk))(k1:∀aq,x=some (.next,aq)->f aq=some (fl,bk)->P)(k2:∀v,x=some (.ret v,bk)->fl=.ret v->P):P:=by
 obtain⟨aax,aq⟩:=q;cases aax with
 |next=>exact k1 aq hx e
 |ret v=>exact eI (aa e) λe1 e2=>k2 v (e2▸hx) e1.symm
theorem acw(ev:cX C M (t::ts) σ=some (fl,bk))(k1:∀aq,kB C M t σ=some (.next,aq)->cX C M ts aq=some (fl,bk)->P)(k2:∀v,kB C M t σ=some (.ret v,bk)->fl=.ret v->P):P:=aw ev λq hq ev=>flE hq ev k1 k2
theorem agu(ev:cR f (x::r) σ=some (fl,bk))(k1:∀aq,f x σ=some (.next,aq)->cR f r aq=some (fl,bk)->P)(k2:∀v,f x σ=some (.ret v,bk)->fl=.ret v->P):P:=aw ev λq hq ev=>flE hq ev k1 k2
theorem WT{c:bo->Option (SV×bo)}(ev:i3 c f (m+1) σ=some (fl,bk))(k0:∀v,c σ=some (v,bk)->gh v=some false->fl=.next->P)
  (k1:∀v aq aU,c σ=some (v,aq)->gh v=some true->f aq=some (.next,aU)->i3 c f m aU=some (fl,bk)->P) (k2:∀v aq w,c σ=some (v,aq)->gh v=some true->f aq=some (.ret w,bk)->fl=.ret w->P):P:=
 aw ev λp hp ev=>aw ev λd hd ev=>by
  cases d with
  |false=>exact eI (aa ev) λe1 e2=>k0 p.1 (e2▸hp) hd e1.symm
  |true=>exact aw ev λq hq ev=>flE hq ev (λaU=>k1 p.1 p.2 aU hp hd) λw=>k2 p.1 p.2 w hp hd
end
theorem AA:sW Z n ns C M fe [] []:=
 λσ bk fl ev env A g fx ρ s V hfe hA G E Q P=>eI (aa ev) λe1 e2=>by subst e1 e2;exact C4<|P g fx ρ s _ (.refl _ _) (λz z=>rfl) G rfl
theorem yj{t:Mine.S}{ts:List Mine.S}(h:nr Z n ns C M fe t e)(hl:sW Z n ns C M fe ts es):sW Z n ns C M fe (t::ts) (e::es):=
 λσ bk fl ev env A g fx ρ s V hfe hA G E Q P=>wpAny_execs_cons<|acw ev
  (λaq e1 ev=>h σ _ _ e1 env A g fx ρ s V hfe hA G E _ λbu a8 aQ aC f bC b5 bG cD=>by obtain rfl:f=.next:=cD;exact hl aq _ _ ev env A bu a8 aQ aC V hfe hA bG E Q<|P.of bC b5)
  (λv e1 er=>h σ _ _ e1 env A g fx ρ s V hfe hA G E _ λbu a8 aQ aC f bC b5 bG cD=>by subst er;refine dS (id cD) λy zz1 z=>?_;subst zz1;exact P bu a8 aQ aC _ bC b5 bG cD)
theorem d8.yF(V:d8 ns env):interactive env=false:=by unfold interactive;rw[V.kind];rfl
theorem Ay{t:Option ao}(h:uH e=true):LB e t l env=pure false:=by cases e<;>first|rfl|exact ae h
theorem J3{t:Mine.E}(h:fK Z n ns C M t e)(hc:uH e=true):nr Z n ns C M fe (.expr t) (.Expr e pos):=
 λσ bk fl ev env A g fx ρ s V hfe hA G E Q P=>dj ev λr e1 e=>eI e λh1 h2=>by subst h1 h2;exact wpAny_Expr_any (h σ _ _ e1 env A g fx ρ s V hA G E _ λbu a8 aQ aC y bC b5 bG cD=>P bu a8 aQ aC _ bC b5 bG rfl) V.yF<|Ay hc
theorem Ng{t:Mine.E}(h:fK Z n ns C M t e):nr Z n ns C M fe (.ret t) (.Return (some e) pos):=
 λσ bk fl ev env A g fx ρ s V hfe hA G E Q P=>dj ev λr e1 e=>eI e λh1 h2=>by subst h1 h2;exact wpAny_Return_some<|h σ _ _ e1 env A g fx ρ s V hA G E _ λbu a8 aQ aC y bC b5 bG cD=>P bu a8 aQ aC _ bC b5 bG ⟨y,rfl,cD⟩
theorem Nh{t:Mine.E}(h:nQ Z n ns C M t e)(ha:sW Z n ns C M fe ta a)(hb:sW Z n ns C M fe tb b):nr Z n ns C M fe (.ifs t ta tb) (.If e a b pos):=
 λσ bk fl ev env A g fx ρ s V hfe hA G E Q P=>aw ev λp e1 ev=>aw ev λd hd ev=>wpAny_If (h σ _ _ _ e1 hd env A g fx ρ s V hA G E _ λbu a8 aQ aC bC b5 bG=>by
  cases d with
  |true=>rw[if_pos rfl];exact ha p.2 _ _ ev env A bu a8 aQ aC V hfe hA bG E Q<|P.of bC b5
  |false=>rw[if_neg bh];exact hb p.2 _ _ ev env A bu a8 aQ aC V hfe hA bG E Q<|P.of bC b5)
inductive WhI(Z:dM)(C:bT)(M:b6)(ns:bX)(env:Env)(t:Mine.E)(tb:List Mine.S)(r:Option (FL×bo))(g fx:FH)(ρ:eE)(k:Nat)(aC:Shared):Prop
 |mk (aq:bo) (bu a8:FH) (aQ:eE) (e:i3 (cj C M t) (cX C M tb) k aq=r) (X:ey g ρ bu aQ) (F:∀b,b≠env.locals->a8 b=fx b) (G:dE Z ns env aq bu a8 aQ aC)
theorem Ge{t:Mine.E}(h:nQ Z n ns C M t e)(hb:sW Z n ns C M fe tb b):nr Z n ns C M fe (.wg t tb) (.While e b [] pos):=
 λσ bk fl ev env A g fx ρ s V hfe hA G E Q P=>by
  refine wpAny_While<|codeAny_whileLoop (I:=WhI Z C M ns env t tb (some (fl,bk)) g fx ρ)
   (λk aC hI=>?_) 1000 (.mk σ g fx ρ ev (.refl _ _) (λz z=>rfl) G)
  obtain⟨aq,bu,a8,aQ,e1,bC,b5,bG⟩:=hI;have P:=P.of bC b5;cases k with
  |zero=>exact aW e1
  |succ k=>
   exact WT e1
    (λv e2 hv er=>h aq _ _ _ e2 hv env A bu a8 aQ aC V hA bG _ _ λfE dB dP dJ cy fA dD=>by subst er;rw[if_neg bh];exact C4<|P fE dB dP dJ _ cy fA dD rfl)
    (λv aU Ak e2 hv e3 e1=>h aq _ _ _ e2 hv env A bu a8 aQ aC V hA bG _ _ λfE dB dP dJ cy fA dD=>by rw[if_pos rfl];refine hb aU _ _ e3 env A fE dB dP dJ V hfe hA dD _ _ λiN iV ir fN f eC l8 jI pe=>?_;obtain rfl:f=.next:=pe;exact⟨k,cJ _,.mk Ak iN iV ir e1 ((bC.trans cy).trans eC) (λb hb=>(l8 b hb).trans<|(fA b hb).trans<|b5 b hb) jI⟩)
    (λv aU w e2 hv e3 er=>h aq _ _ _ e2 hv env A bu a8 aQ aC V hA bG _ _ λfE dB dP dJ cy fA dD=>by subst er;rw[if_pos rfl];refine hb aU _ _ e3 env A fE dB dP dJ V hfe hA dD _ _ λiN iV ir fN f eC l8 jI pe=>dS (id pe) λy zz1 z=>?_;subst zz1;exact(P.of cy fA) iN iV ir fN _ eC l8 jI pe)
structure xV(Z:dM)(A:bD)(ns:bX)(env:Env)(σ:bo)(items:List SV)(tup:Bool)(g fx:FH)(ρ:eE)(s:Shared)(I:Addr)(wr:List Addr)(St:Nat->Heap->Prop):Prop where
 good:dE Z ns env σ g (over fx wr s.heap) ρ s
 free:∀b∈wr,fx b=none
 loc:env.locals∉wr
 lp:fY Z.prog Z.w Z A I wr items g ρ tup St
 st:St 0 s.heap
def nt(Z:dM)(n:Nat)(ns:bX)(C:bT)(M:b6)(ik:IK)(ts:List Mine.E)(e:ao):Prop:=
 ∀σ bk vs items,iq C M ts σ=some (vs,bk)->lH ik vs=some items->∀env A g fx ρ s,d8 ns env->t6 n A->dE Z ns env σ g fx ρ s->∀E Q,
  (∀g' fx' bQ s' I wr St,ey g ρ g' bQ->(∀b,b≠env.locals->fx' b=fx b)->xV Z A ns env bk items (xm ik) g' fx' bQ s' I wr St->Q (.ref I) s')->
  av (Mo Z) A (eval e env) (λx aC=>av (Mo Z) A (lq x) Q E aC) E s
noncomputable def off(wr:List Addr)(fx:FH):FH:=λb=>if b∈wr then none else fx b
theorem AH(S:b7 Z st g fx ρ s)(h:∀b∈wr,∃o,fx b=some o):fx=over fx wr s.heap:=by
 funext b;by_cases hb:b∈wr
 ·refine fT (h b hb) λo e=>?_;rw[mM hb,e,S.fix b o e]
 ·rw[eK hb]
theorem N9{fx:FH}(h:b∈wr):off wr fx b=none:=if_pos h
theorem BW{fx:FH}(h:b∉wr):off wr fx b=fx b:=if_neg h
theorem Oa{fx fO:FH}{P:Addr->Prop}(hfree:∀b∈wr,fO b=none)(h:∀b,b∉wr->P b->fx b=fO b)(b:Addr)(hb:P b):off wr fx b=fO b:=by
 by_cases hm:b∈wr
 ·rw[N9 hm,hfree b hm]
 ·rw[BW hm,h b hm hb]
theorem dE.off(G:dE Z ns env σ g fx ρ s)(hl:env.locals∉wr):dE Z ns env σ g (Mine.off wr fx) ρ s:=by
 refine⟨G.fM.weaken λb o e=>?_,?_⟩
 ·by_cases hb:b∈wr
  ·rw[N9 hb] at e;exact aW e
  ·rwa[BW hb] at e
 ·refine jG G.AS.is λo m h1 h2 h3=>⟨o,m,by rw[BW hl];exact h1,h2,h3⟩
def sE(Z:dM)(n:Nat)(ns:bX)(t:TN)(e:ao):Prop:=
 (∀σ bk v,dm t v σ=some bk->∀env A g fx ρ s y,d8 ns env->t6 n A->dE Z ns env σ g fx ρ s->RV Z g ρ v y->∀E Q,zw Z ns env bk g fx ρ Q->av (Mo Z) A (qz e env y) Q E s)/\
 (∀is,t=.many is->∃elts k p,e=.Tuple elts k p)
structure gG(Z:dM)(ns:bX)(env:Env)(σ:bo)(g fx:FH)(ρ:eE)(s:Shared)(wr:List Addr)(e9 fO:FH)(el:eE)(i:Nat)(St:Nat->Heap->Prop):Prop where
 good:dE Z ns env σ g fx ρ s
 ext:ey e9 el g ρ
 there:∀b∈wr,∃o,fx b=some o
 other:∀b,b∉wr->b≠env.locals->fx b=fO b
 st:St i s.heap
theorem gG.next{St:Nat->Heap->Prop}(L:fY Z.prog Z.w Z A I wr items e9 el tup St)(B:gG Z ns env σ g fx ρ s wr e9 fO el i St)(hloc:env.locals∉wr)
  (hx:items[i]? =some x) (ht:tup=true->∃elts k p,tgt=.Tuple elts k p) {Q:Option Value->Shared->Prop}
  (h:∀g' fx' s' v,ey g ρ g' ρ->gG Z ns env σ g' fx' ρ s' wr e9 fO el i (λz z=>True)->RV Z g' ρ x v->
   (∀(Q':Unit->Shared->Prop)(E':Value->Shared->Prop),(∀g'' fx'' s'',ey g' ρ g'' ρ->gG Z ns env σ g'' fx'' ρ s'' wr e9 fO el (i+1) St->Q' () s'')->av (Mo Z) A (iF tgt (.ref I) v) Q' E' s')->Q (some v) s'):
  av (Mo Z) A (s6<|.ref I) Q E s:=by
 have hS:b7 Z σ.st g (over fx wr s.heap) ρ s:=by rw[<-AH B.good.fM B.there];exact B.good.fM
 have keepFrm:∀{g':FH}{s':Shared},ey g ρ g' ρ->b7 Z σ.st g' (over fx wr s'.heap) ρ s'->dE Z ns env σ g' (over fx wr s'.heap) ρ s':=by intro g' s' X S';refine jG B.good.AS.is λo m h1 h2 h3=>⟨S',⟨o,m,by rw[eK hloc];exact h1,h2,h3.mono X⟩⟩
 have hex:∀{g':FH}{s':Shared},b7 Z σ.st g' (over fx wr s'.heap) ρ s'->St (i+1) s'.heap->∀b∈wr,∃o,over fx wr s'.heap b=some o:=by intro g' s' S' hst b hb;refine fT (L.there _ _ hst b hb) λo e=>⟨o,by rw[mM hb];exact e⟩
 refine L.item i x s Q E tgt hx ht B.st λv h' tk hk hrv hex' hlet=>?_
 have S':=hS.turn tk (L.there i _ B.st) hk
 have X':ey g ρ (eG Z g s.heap h' λz=>false) ρ:=a7
 have G':=keepFrm (s':={s with heap:=h',toks:=tk}) X' S'
 refine h _ _ _ v X' ⟨G',B.ext.trans X',λb hb=>?_,λb hb hb'=>by rw[eK hb];exact B.other b hb hb',trivial⟩ (hrv _ _ (λb o e=>X'.g _ _<|B.ext.g _ _ e) B.ext.ρ λb o hb e e'=>?_) λQ' E' hq=>?_
 ·refine fT (hex' b hb) λo e=>⟨o,by rw[mM hb];exact e⟩
 ·exact gz hS e e' rfl (hS.fresh e).2.2
 ·refine hlet Q' E' λh'' hk' st'=>?_;have S'':=b7.turn (s:={s with heap:=h',toks:=tk}) S' tk hex' hk';refine hq _ _ _ a7 ⟨keepFrm (X'.trans a7) S'',(B.ext.trans X').trans a7,hex S'' st',λb hb hb'=>by rw[eK hb];exact B.other b hb hb',st'⟩
theorem gG.after{St:Nat->Heap->Prop}(L:fY Z.prog Z.w Z A I wr items e9 el tup St)(B:gG Z ns env σ g fx ρ s wr e9 fO el i St)(hloc:env.locals∉wr)
  (X:ey g ρ g' bQ) (F:∀b,b≠env.locals->fx' b=fx b) (G:dE Z ns env bk g' fx' bQ s'):gG Z ns env bk g' fx' bQ s' wr e9 fO el i St:=by
 have ne:∀b∈wr,b≠env.locals:=λb hb e=>hloc<|e▸hb
 refine⟨G,B.ext.trans X,λb hb=>?_,λb hb hb'=>(F b hb').trans<|B.other b hb hb',?_⟩
 ·refine fT (B.there b hb) λo e=>⟨o,(F b<|ne b hb).trans e⟩
 ·refine L.frame i s.heap s'.heap B.st λb o hb e=>?_;rcases hb with hb|hb
  ·refine fT (B.there b hb) λo' e'=>?_;have:o'=o:=by have:=B.good.fM.fix b o' e';rw[e] at this;exact(aa this).symm
   subst this;exact G.fM.fix _ _<|(F b<|ne b hb).trans e'
  ·exact G.fM.keep _ _<|(B.ext.trans X).g _ _ hb
theorem gG.last{St:Nat->Heap->Prop}(L:fY Z.prog Z.w Z A I wr items e9 el tup St)(B:gG Z ns env σ g fx ρ s wr e9 fO el i St)(hloc:env.locals∉wr)(hi:i=items.length)
  (hfree:∀b∈wr,fO b=none) {Q:Option Value->Shared->Prop} (h:∀g' fx' s',ey g ρ g' ρ->(∀b,b≠env.locals->fx' b=fO b)->dE Z ns env σ g' fx' ρ s'->Q none s'):av (Mo Z) A (s6<|.ref I) Q E s:=by
 subst hi
 refine L.done s Q E B.st λh' tk hk=>?_
 have hS:b7 Z σ.st g (over fx wr s.heap) ρ s:=by rw[<-AH B.good.fM B.there];exact B.good.fM
 have S':=hS.turn tk (L.there _ _ B.st) hk
 refine jG B.good.AS.is λo m h1 h2 h3=>?_
 have G':dE Z ns env σ (eG Z g s.heap h' λz=>false) (over fx wr h') ρ {s with heap:=h',toks:=tk}:=⟨S',⟨o,m,by rw[eK hloc];exact h1,h2,h3.mono a7⟩⟩
 exact h _ (off wr<|over fx wr h') _ a7 (Oa hfree λb hb' hb=>(eK hb').trans<|B.other b hb' hb)<|G'.off hloc
theorem gG.letGo{St:Nat->Heap->Prop}(B:gG Z ns env σ g fx ρ s wr e9 fO el i St)(hloc:env.locals∉wr)(hfree:∀b∈wr,fO b=none):(∀b,b≠env.locals->off wr fx b=fO b)/\dE Z ns env σ g (off wr fx) ρ s:=
 ⟨Oa hfree B.other,B.good.off hloc⟩
theorem xV.between{St:Nat->Heap->Prop}(R:xV Z A ns env σ items tup g fx ρ s I wr St):gG Z ns env σ g (over fx wr s.heap) ρ s wr g fx ρ 0 St:=
 ⟨R.good,.refl _ _,λb hb=>by obtain⟨o,e⟩:=R.lp.there _ _ R.st b hb;exact⟨o,by rw[mM hb];exact e⟩,λb hb z=>eK hb,R.st⟩
theorem x9{t:TN}(hok:qX ik t=true)(hN:sE Z n ns t e)(h:xm ik=true):∃elts k p,e=.Tuple elts k p:=by
 cases t with
 |one i=>unfold qX at hok;rw[h] at hok;exact ae hok
 |many is=>exact hN.2 is rfl
theorem pP(h:fJ e=true)(x:Value):zM e env x=pure x:=by cases e<;>first|rfl|exact ae h
inductive aic(Z:dM)(C:bT)(M:b6)(ns:bX)(env:Env)(t:TN)(tb:List Mine.S)(items:List SV)(wr:List Addr)(bu a8:FH)(aQ:eE)(St:Nat->Heap->Prop)(r:Option (FL×bo))(k:Nat)(dJ:Shared):Prop
 |mk (i:Nat) (aU:bo) (fE dB:FH) (dP:eE) (hk:k=items.length-i) (hi:i<=items.length) (B:gG Z ns env aU fE dB dP dJ wr bu a8 aQ i St) (hl:cR (λx τ=>(dm t x τ).bind λτ=>cX C M tb τ) (items.drop i) aU=r)
theorem Ni{t:TN}(hI:nt Z n ns C M ik its it)(hN:sE Z n ns t tgt)(hb:sW Z n ns C M fe tb b)(hs:fJ it=true):
  nr Z n ns C M fe (.for t ik its tb) (.For tgt it b [] pos):=
 λσ bk fl ev env A g fx ρ s V hfe hA G E Q P=>aw ev λp e1 ev=>aw ev λitems e2 ev=>r7 ev λhok ev=>by
  refine wpAny_For (hI σ _ _ _ e1 e2 env A g fx ρ s V hA G E _ λbu a8 aQ aC I wr St bC b5 l7=>?_)<|pP hs;have aaA:=P.of bC b5;have hT:=x9 hok hN;refine codeAny_forLoop_any (I:=aic Z C M ns env t tb items wr bu a8 aQ St<|some (fl,bk)) (λk dJ hk=>?_) items.length<|.mk 0 p.2 bu _ aQ rfl (eO _) l7.between ev;obtain⟨i,aU,fE,dB,dP,rfl,hi,B,hl⟩:=hk;rcases Ml hi with hend|hi'
  ·rw[hend,p7] at hl;exact eI (aa hl) λh1 h2=>by subst h1 h2;exact B.last l7.lp l7.loc hend l7.free λiN iV fN eC l8 jI=>C4<|aaA iN iV dP fN _ (B.ext.trans eC) l8 jI rfl
  ·rw[eF hi'] at hl;refine B.next l7.lp l7.loc (ay hi') hT λiN iV fN v z QZ pe hgo=>hgo _ _ λqy pZ kj kD QY=>agu hl
    (λAk hl3 hl=>aw hl3 λτ hτ hl3=>hN.1 _ _ _ hτ env A qy pZ dP kj v V hA QY.good (pe.mono kD) _ _ λC1 HK xw u9 vc Mb Js=>hb τ _ _ hl3 env A C1 HK xw u9 V hfe hA Js _ _ λL8 Vg LU QT f Jr WB WA Jq=>by obtain rfl:f=.next:=Jq;exact⟨items.length-(i+1),JD _ _ hi',.mk (i+1) Ak L8 Vg LU rfl hi' (QY.after l7.lp l7.loc (vc.trans Jr) (λb hb=>(WB b hb).trans<|Mb b hb) WA) hl⟩)
    (λw hl3 er=>aw hl3 λτ hτ hl3=>hN.1 _ _ _ hτ env A qy pZ dP kj v V hA QY.good (pe.mono kD) _ _ λC1 HK xw u9 vc Mb Js=>hb τ _ _ hl3 env A C1 HK xw u9 V hfe hA Js _ _ λL8 Vg LU QT f Jr WB WA Jq=>by subst er;refine dS (id Jq) λy zz1 z=>?_;subst zz1;have aaD:=QY.after l7.lp l7.loc (vc.trans Jr) (λb hb=>(WB b hb).trans<|Mb b hb) WA;refine kg (aaD.letGo l7.loc l7.free) λaf6 af5=>aaA L8 _ LU QT _ aaD.ext af6 af5 Jq)
end
theorem yf{env:Env}(h:lA t=false):LB (.ListComp x gs sc p) (some t) l env=pure false:=by cases t<;>first|exact ae h|rfl
theorem Dn{env:Env}(h:yG t e=true):Jw [t] e l env=pure false:=by
 unfold yG at h;cases hc:uH e with
 |true=>exact Ay hc
 |false=>
  rw[hc] at h;have h:=(wb _).mp h;cases e with
  |ListComp _ _ _ _=>exact yf h
  |SetComp x gs sc p=>exact(show _=LB (.ListComp x gs sc p) (some t) l env from rfl).trans<|yf h
  |DictComp x _ gs sc p=>exact(show _=LB (.ListComp x gs sc p) (some t) l env from rfl).trans<|yf h
  |_=>exact ae hc
theorem F6{env:Env}(h:Oe t e=true):kU [t] e env=pure none:=by
 cases t with
 |Tuple ts _ _=>cases e<;>first|rfl|exact ae h
 |List ts _=>cases e<;>first|rfl|exact ae h
 |_=>rfl
section
variable{Z:dM}{C:bT}{M:b6}{K:Frag}{n:Nat}{ns:bX}{c:TC}{st st':List SO}{g g' fx:FH}{ρ bQ:eE}{s:Shared}{A:bD}{σ bk:bo}{env:Env}{E:Value->Shared->Prop}{i:Nat}{fe:Env->Prop}
theorem y9{pos:Pos}(hs:Jw [t] value pos.line env=pure false)(hw:kU [t] value env=pure none)(ht:bP t=true)
  (h:av (Mo Z) A (eval value env) (λv aC=>av (Mo Z) A (qz t env v) (λz=>Q .next) E aC) E s):av (Mo Z) A (exec (.Assign [t] value pos) env) Q E s:=by
 rw[Q6]
 refine aX<|dF ?_
 rw[hs]
 refine aJ<|ab ?_
 refine u7 (by decide)<|aX<|eS h (λv aC i5=>?_) λz z x=>x
 rw[hw]
 refine aX<|ab ?_
 rw[mu ht]
 exact aX<|eS i5 (λz z x=>ab x) λz z x=>x
theorem Zt{P:Prop}(ev:kB C M (.asg tt te) σ=some (fl,bk))(k:∀v aq,cj C M te σ=some (v,aq)->BS C M tt v aq=some bk->fl=.next->P):P:=aw ev λp h ev=>dj ev λτ h2 e=>eI e λe1 e2=>k p.1 p.2 h (e2▸h2) e1.symm
theorem Qp(hT:Ai Z n ns C M tt t)(hv:fK Z n ns C M te e)(hu:yG t e=true)(ht:bP t=true)(ev:kB C M (.asg tt te) σ=some (fl,bk))(V:d8 ns env)(hA:t6 n A)(G:dE Z ns env σ g fx ρ s){Q:Flow->Shared->Prop}(P:A6 Z ns env bk fl g fx ρ Q)
  (hw:kU [t] e env=pure none):av (Mo Z) A (exec (.Assign [t] e pos) env) Q E s:=Zt ev λv aq e1 e2 er=>by
 subst er
 exact y9 (Dn hu) hw ht<|hv σ _ _ e1 env A g fx ρ s V hA G E _ λbu a8 aQ aC y bC b5 bG cD=>hT aq _ _ e2 env A bu a8 aQ aC y V hA bG cD E _ λfE dB dP dJ cy fA dD=>(P.of bC b5) fE dB dP dJ _ cy fA dD rfl
theorem Dw(hT:Ai Z n ns C M tt t)(hv:fK Z n ns C M te e)(hu:yG t e=true)(hw:∀env,d8 ns env->kU [t] e env=pure none)(ht:bP t=true):nr Z n ns C M fe (.asg tt te) (.Assign [t] e pos):=
 λσ bk fl ev env A g fx ρ s V hfe hA G E Q P=>Qp hT hv hu ht ev V hA G P<|hw env V
set_option backward.match.sparseCases true in
noncomputable def nh(env:Env)(line:Nat):ao->Option Str
 |.Name id pos=>if env.kindOf id==some .local&&pos.line==line then some id else none
 |_=>none
set_option backward.match.sparseCases true in
theorem qN(h:oK vs=true):kU [.Tuple ts k p] (.Tuple vs k' p') env=pure none\/
  ∃names line,kU [.Tuple ts k p] (.Tuple vs k' p') env=pure (some names)/\names=ts.filterMap (nh env line)/\names.length=ts.length/\names.eraseDups.length=names.length/\(ts.length=2\/ts.length=3):=by
 unfold oK at h
 unfold kU
 dsimp only
 have hf:(λx:Expr=>match x with|.Name id pos=>if(env.kindOf id==some .local&&pos.line==(ts.head?.map (·.pos.line)).getD 0)=true then some id else none|_=>none)=nh env ((ts.head?.map (·.pos.line)).getD 0):=by funext x;cases x<;>rfl
 split
 ·exact .inl rfl
 ·rename_i h1
  split
  ·exact .inl rfl
  ·split
   ·exact .inl rfl
   ·rename_i h3
    split
    ·exact .inl rfl
    ·rename_i h4
     split
     ·rename_i h5
      rw[h5] at h;simp at h;exact absurd h (by simpa -iota using h4)
     ·right;simp -iota only[jd,not_or,wb,bne_iff_ne,ne_eq,Decidable.not_not,beq_iff_eq,Bool.not_eq_true,Bool.or_eq_false_iff,Bool.not_eq_false] at h1 h3;refine y25 _ ((ts.head?.map (·.pos.line)).getD 0) rfl ?_ ?_ ?_ ?_
      ·rw[<-hf];rfl
      ·exact h3.1
      ·exact h3.2
      ·have:=h1.1.1;by_cases q:ts.length=2
       ·exact .inl q
       ·exact .inr<|(by simpa -iota using this:¬ts.length=2->ts.length=3) q
theorem pH(h1:σ.loc[i]? =some lv)(h2:∀k,lv≠.cell k):iy i v σ=some {σ with loc:=σ.loc.set i<|.val v}:=by
 unfold iy;rw[h1];cases lv with
 |un=>rfl
 |val w=>rfl
 |cell k=>exact absurd rfl<|h2 k
theorem DX(hi:ns[i]? =some (x,.local))(G:dE Z ns env σ g fx ρ s):∃lv,σ.loc[i]? =some lv/\∀k,lv≠.cell k:=by refine jG G.AS.is λoL m hL hO L=>dS (L.loc i x hi) λlv h1 h2=>?_;refine⟨lv,h1,λk e=>?_⟩;subst e;rcases h2 with h2|⟨_,_,h2,_⟩<;>exact LV.noConfusion h2
theorem FU(hi:ns[i]? =some (x,.local))(hj:ns[j]? =some (y,.local))(hij:i≠j)(G:dE Z ns env σ g fx ρ s)(h1:iy i a σ=some τ)(h2:iy j b τ=some bk):∃sG,iy j b σ=some sG/\iy i a sG=some bk:=by refine dS (DX hi G) λli q1 n1=>dS (DX hj G) λlj q2 n2=>?_;obtain rfl:=aa<|(pH q1 n1).symm.trans h1;obtain rfl:=aa<|(pH ((bV hij).trans q2) n2).symm.trans h2;refine⟨_,pH q2 n2,(pH ((bV<|gp hij).trans q1) n1).trans ?_⟩;rw[List.set_comm _ _ hij]
theorem Ky(hl:(([.Name x p1,.Name y p2]:List ao).filterMap<|nh env line).length=2):([.Name x p1,.Name y p2]:List ao).filterMap (nh env line)=[x,y]/\env.kindOf x=some .local/\env.kindOf y=some .local:=by
 have uI:∀{z w:Str}{p:Pos},nh env line (.Name z p)=some w->w=z/\env.kindOf z=some .local:=by
  intro z w p h;have h:(if(env.kindOf z==some cF.local&&p.line==line)=true then some z else none)=some w:=h;by_cases c:(env.kindOf z==some cF.local&&p.line==line)=true
  ·rw[if_pos c] at h;exact⟨(aa h).symm,cI c λa u=>beq_iff_eq.mp a⟩
  ·rw[if_neg c] at h;exact aW h
 rw[fG,fG,List.filterMap_nil] at hl ⊢;cases c1:nh env line (.Name x p1) with
 |none=>rw[c1] at hl;cases c2:nh env line (.Name y p2)<;>(rw[c2] at hl;cases hl)
 |some a=>
  cases c2:nh env line (.Name y p2) with
  |none=>rw[c1,c2] at hl;cases hl
  |some b=>refine kg (uI c1) λzz0 h1=>?_;subst zz0;refine kg (uI c2) λzz0 h2=>?_;subst zz0;exact⟨rfl,h1,h2⟩
theorem V4(V:d8 ns env)(hp:fo z ns 0=some (i,k))(hk:k=.local\/k=.cell)(hz:env.kindOf z=some .local):k=.local:=
 hk.elim id λhk=>by subst hk;exact cV<|aa<|hz.symm.trans<|V.cell _ (iz hp).2
theorem JO{ts:List T}(h:yB C M [t,u] xs σ=some bk):∃a b τ,xs=[a,b]/\BS C M t a σ=some τ/\BS C M u b τ=some bk:=by refine zC (V1 (AF h).symm) λa b zz2=>?_;subst zz2;exact aw h λτ h1 h=>aw h λJp h2 h=>⟨a,b,τ,rfl,h1,aa h▸h2⟩
theorem J7{i j k1 k':Nat}(hx:fo x ns 0=some (i,kx))(hkx:kx=.local\/kx=.cell)(hy:fo y ns 0=some (j,ky))(hky:ky=.local\/ky=.cell)
  (hv:fK Z n ns C M te (.Tuple vs k' p')) (hg:oK vs=true):nr Z n ns C M fe (.asg (.tp [.nm i,.nm j]) te) (.Assign [.Tuple [.Name x p1,.Name y p2] k1 tp] (.Tuple vs k' p') pos):=
 λσ bk fl ev env A g fx ρ s V hfe hA G E Q P=>by
  rcases qN hg with hw|⟨names,line,hw,hn,hl,hd,_⟩
  ·exact Qp (BF rfl rfl<|pE rfl (rM hx hkx)<|pE rfl (rM hy hky) vA) hv rfl rfl ev V hA G P hw
  ·
   refine qe (Ky<|hn▸hl) λhnames hkx' hky'=>?_;have hnames:=hn.trans hnames;obtain rfl:=V4 V hx hkx hkx';obtain rfl:=V4 V hy hky hky';have hix:=(iz hx).1;have hjy:=(iz hy).1;have hij:i≠j:=by intro q;rw[<-q,hix] at hjy;have hxy:x=y:=congrArg kf<|aa hjy;rw[hnames,hxy] at hd;rw[List.eraseDups_cons] at hd;simp at hd
   refine Zt ev λv aq e1 e2 er=>?_;subst er;rw[Q6];refine aX<|dF ?_;rw[Dn rfl];refine aJ<|ab ?_;refine u7 bh<|aX<|hv σ _ _ e1 env A g fx ρ s V hA G E _ λbu a8 aQ aC w bC b5 bG cD=>?_;rw[hw,hnames];refine aX<|ab ?_;refine aX<|dA<|aX<|aw e2 λxs hx hp=>?_;refine qv (JO (ts:=[]) hp) λa b τ zz3 h1 h2=>?_;subst zz3;refine dS (FU hix hjy hij bG h1 h2) λsG h3 h4=>xZ hA.handled bG.fM (H3 hx) cD λfE dJ ys cy sX iM=>?_;obtain⟨ya,ys',rfl,ra,yb,ys'',rfl,rb,rfl⟩:=iM;have dD:=bG.with cy sX rfl;refine aX<|xH<|wpAny_bindName<|lB hy (.inl rfl) h3 V dD rb λiN aaf fN eC jI=>?_;refine xH<|wpAny_bindName<|lB ‹fo x ns 0=_› (.inl rfl) h4 V jI (ra.mono eC) λqy QU kj kD n7=>?_;exact assignInOrder_nil<|ab<|P qy _ _ kj _ (((bC.trans cy).trans eC).trans kD) (λb hb=>(cH hb).trans<|(cH hb).trans<|b5 b hb) n7 rfl
theorem GL{ts:List ao}(h:ts.any (λe=>!lA e)=true):(ts.filterMap<|nh env line).length<ts.length:=by
 induction ts with
 |nil=>exact ae h
 |cons a ts ih=>
  have hle:=List.length_filterMap_le (nh env line) ts;rw[fG];cases q:nh env line a with
  |none=>exact eQ hle
  |some x=>
   refine xK<|ih ?_;cases hn:lA a with
   |true=>rw[mi,hn] at h;exact h
   |false=>cases a<;>first|exact ae hn|exact aW q
theorem J5(hT:Ai Z n ns C M tt (.Tuple ts k p))(hv:fK Z n ns C M te (.Tuple vs k' p'))(hg:oK vs=true)(hn:ts.any (λe=>!lA e)=true):nr Z n ns C M fe (.asg tt te) (.Assign [.Tuple ts k p] (.Tuple vs k' p') pos):=
 Dw hT hv rfl (λenv V=>(qN hg).elim id λz=>z.elim λnames z=>z.elim λline z=>
  (cp _<|Mk (GL hn)<|z.2.2.1.symm.trans<|congrArg HP z.2.1).elim) rfl
theorem Nj{i:Nat}(hp:fo x ns 0=some (i,k))(hk:k=.local\/k=.cell):sE Z n ns (.one i) (.Name x pos):=
 ⟨λσ bk v ev env A g fx ρ s y V hA G r E Q P=>rM (C:=λz z z=>none) (M:=λz z=>none) hp hk σ bk v ev env A g fx ρ s y V hA G r E Q P,λis h=>nomatch h⟩
theorem Dz:∀{xs:List SV}{σ:bo},pG is xs σ=yB C M (is.map .nm) xs σ:=by
 induction is with
 |nil=>intro xs σ;cases xs<;>rfl
 |cons i is ih=>
  intro xs σ;cases xs with
  |nil=>rfl
  |cons x xs=>exact congrArg (Option.bind<|iy i x σ)<|funext λz=>ih
theorem J8{is:List Nat}{es:List ao}(hs:es.all bP=true)(hlen:is.length=es.length)(h:zv Z n ns (λz z z=>none) (λz z=>none) (is.map .nm) es):sE Z n ns (.many is) (.Tuple es k pos):=
 ⟨λσ bk v ev env A g fx ρ s y V hA G r E Q P=>aw ev λxs hx ev=>BF hs ((ag _).trans hlen) h σ bk v
  (by show(FN v).bind _=_;rw[zl hx id];exact Dz.symm.trans ev) env A g fx ρ s y V hA G r E Q P,λis' h=>⟨_,_,_,rfl⟩⟩
end
section
variable{Z:dM}{C:bT}{M:b6}{K:Frag}{n:Nat}{ns:bX}{c:TC}{st st':List SO}{g g' fx:FH}{ρ bQ:eE}{s:Shared}{A:bD}{σ bk:bo}{env:Env}{E:Value->Shared->Prop}{i:Nat}
noncomputable def uf(ifs:List ao)(env:Env):Al Bool:=forIn ifs true λc r=>if r=true then do let ok<-isTrue c env<|eval c env;pure (eh ok) else pure (eh r)
theorem Dj{env:Env}{es:List ao}{s:Shared}{Q:Bool->Shared->Prop}(h:Q false s):av (Mo Z) A (forIn es false λc r=>if r=true then do let ok<-isTrue c env<|eval c env;pure (eh ok) else pure (eh r)) Q E s:=by
 induction es with
 |nil=>exact ab h
 |cons e es ih=>rw[cA];exact aX<|vp<|ab ih
abbrev UT(Z:dM)(n:Nat)(ns:bX)(C:bT)(M:b6)(ts:List Mine.E)(es:List ao):Prop:=∀{σ bk:bo}{b:Bool},kP C M ts σ=some (.bool b,bk)->∀env A g fx ρ s,d8 ns env->t6 n A->dE Z ns env σ g fx ρ s->∀E Q,A7 Z ns env bk b g fx ρ Q->av (Mo Z) A (uf es env) Q E s
theorem JR:UT Z n ns C M [] []:=λe env A g fx ρ s V hA G E Q P=>pI e λe1 e2=>by obtain rfl:=svB e1;subst e2;exact ab<|P g fx ρ s (.refl _ _) (λz z=>rfl) G
theorem F0{t:Mine.E}{ts:List Mine.E}{x:ao}{es:List ao}(h:nQ Z n ns C M t x)(ih:UT Z n ns C M ts es):UT Z n ns C M (t::ts) (x::es):=λ{σ _ _} e env A g fx ρ s V hA G E Q P=>by
 unfold uf;rw[cA,if_pos rfl];exact aX<|aX<|IS e
  (λv aq e1 hv e=>h σ _ _ _ e1 hv env A g fx ρ s V hA G E _ λbu a8 aQ aC bC b5 bG=>ab<|ih e env A bu a8 aQ aC V hA bG E Q<|P.of bC b5)
  (λv e1 hv e=>h σ _ _ _ e1 hv env A g fx ρ s V hA G E _ λbu a8 aQ aC bC b5 bG=>ab<|Dj<|svB e▸P bu a8 aQ aC bC b5 bG)
theorem Di:∀{es:List ao}(h:qL Z n ns C M ts es),UT Z n ns C M ts es:=by
 induction ts with
 |nil=>
  intro es h;cases es with
  |nil=>exact JR
  |cons _ _=>exact h.elim
 |cons t ts ih=>
  intro es h;cases es with
  |nil=>exact h.elim
  |cons x es=>exact F0 h.1.2<|ih h.2
noncomputable def vr(env:Env)(target iter:ao)(ifs:List ao)(emit:Al Unit)(it:Value)(next:Al Fin):Al Fin:=do
 ma iter.pos
 match<-s6 it with
 |none=>pure<|.done .next
 |some v=>
  iF target it v
  qz target env v
  let mut ok:=true
  for c in ifs do
   if ok then ok<-isTrue c env (eval c env)
  if ok then emit
  next
theorem JQ{env:Env}{target iter:ao}{ifs:List ao}{emit:Al Unit}{next:Al Fin}{Q:Fin->Shared->Prop}
  (h:av (Mo Z) A (s6 it) (λr aC=>match r with
   |none=>Q (.done .next) aC
   |some v=>av (Mo Z) A (iF target it v) (λz dJ=>av (Mo Z) A (qz target env v) (λz fN=>av (Mo Z) A (uf ifs env) (λok kj=>if ok=true then av (Mo Z) A emit (λz u9=>av (Mo Z) A next Q E u9) E kj else av (Mo Z) A next Q E kj) E fN) E dJ) E aC) E s):
  av (Mo Z) A (vr env target iter ifs emit it next) Q E s:=by
 refine aX<|dF<|aX<|eS h (λr aC i5=>?_) λz z x=>x
 cases r with
 |none=>exact ab i5
 |some v=>
  refine aX<|eS i5 (λz dJ mX=>aX<|eS mX (λz fN xy=>?_) λz z x=>x) λz z x=>x;refine aX<|eS xy (λok kj t7=>?_) λz z x=>x;cases ok with
  |false=>exact t7
  |true=>exact aX t7
theorem CB
  (hnf:(CU e d it acc env).isFrame=false) (hun:A.under (.compLoop e d it acc env)=A) (heq:Fe e d it acc env=vr env target iter ifs emit it (again<|.compLoop e d it acc env)) (I:Nat->Shared->Prop)
  (turn:∀k s,I k s->∀E,av (Mo Z) A (s6 it) (λr aC=>match r with
   |none=>R (.ok .next) aC
   |some v=>av (Mo Z) A (iF target it v) (λz dJ=>av (Mo Z) A (qz target env v) (λz fN=>av (Mo Z) A (uf ifs env) (λok kj=>if ok=true then av (Mo Z) A emit (λz u9=>∃m,m<k/\I m u9) E kj else ∃m,m<k/\I m kj) E fN) E dJ) E aC) E s)
  (k:Nat) (h:I k s):km (Mo Z) A (.compLoop e d it acc env) R s:=by
 refine codeAny_loop rfl I (λk s hI=>?_) k h
 show av _ _ (if(CU e d it acc env).isFrame=true then _ else(Fe e d it acc env).onRaise (λx=>do noteFrame x env;theTreesLotGoes x)) _ _ s
 rw[hnf,if_neg bh,hun]
 refine wpAny_noted ?_
 rw[heq]
 refine JQ<|eS (turn k s hI _) (λr aC i5=>?_) λz z x=>x
 cases r with
 |none=>exact i5
 |some v=>
  refine eS i5 (λz dJ mX=>eS mX (λz fN xy=>eS xy (λok kj t7=>?_) λz z x=>x) λz z x=>x) λz z x=>x;cases ok with
  |false=>exact ab ⟨rfl,t7⟩
  |true=>exact eS t7 (λz u9 qk=>ab ⟨rfl,qk⟩) λz z x=>x
theorem ou(hnf:(VA e d it acc env).isFrame=false)(hun:A.under (.compStart e d it acc env)=A)(hg:(clausesOf e)[d]? =some ⟨target,iter,ifs,0⟩)
  (h0:km (Mo Z) A (.compLoop e d it acc env) R s) (h:∀E,av (Mo Z) A (lq it) (λit' s'=>km (Mo Z) A (.compLoop e d it' acc env) R s') E s):
  km (Mo Z) A (.compStart e d it acc env) R s:=by
 refine C5 ?_
 show av _ _ (if(VA e d it acc env).isFrame=true then _ else(compStart e d it acc env).onRaise (λx=>do noteFrame x env;ma theWindowsPlace)) _ _ s
 rw[hnf,if_neg bh,hun]
 refine wpAny_notedAt ?_
 unfold compStart
 rw[hg]
 refine aX<|i6<|wpAny_ite ?_
 split
 ·first
   |exact aX<|ab<|ab<|Ru rfl h0
   |exact ab<|Ru rfl h0
 ·refine aX<|dA ?_;exact aX<|dF<|aX<|eS (h _) (λit' s' h'=>ab<|Ru rfl h') λz z x=>x
noncomputable def pU{α:Type}(f:SV->α->bo->Option (α×bo)):α->List SV->bo->Option (α×bo)
 |a,[],σ=>some (a,σ)
 |a,x::r,σ=>(f x a σ).bind λq=>pU f q.1 r q.2
theorem gG.ZQ{St:Nat->Heap->Prop}(L:fY Z.prog Z.w Z A I wr items e9 el tup St)(B:gG Z ns env σ g fx ρ s wr e9 (i9 fO D o) el i St)(hloc:env.locals∉wr)(hD:D∉wr)(hDl:D≠env.locals)
  (X:ey g ρ g' bQ) (F:∀b,b≠env.locals->b≠D->fx' b=fx b) (hd:fx' D=some o') (G:dE Z ns env bk g' fx' bQ s'):gG Z ns env bk g' fx' bQ s' wr e9 (i9 fO D o') el i St:=by
 have ne:∀b∈wr,b≠env.locals/\b≠D:=λb hb=>⟨λe=>hloc<|e▸hb,λe=>hD<|e▸hb⟩
 refine⟨G,B.ext.trans X,λb hb=>?_,λb hb hb'=>?_,?_⟩
 ·refine fT (B.there b hb) λo e=>⟨o,(F b (ne b hb).1 (ne b hb).2).trans e⟩
 ·by_cases hbD:b=D
  ·subst hbD;rw[hd,dg]
  ·rw[cH hbD,F b hb' hbD,B.other b hb hb',cH hbD]
 ·refine L.frame i s.heap s'.heap B.st λb o hb e=>?_;rcases hb with hb|hb
  ·refine fT (B.there b hb) λo1 e'=>?_;have:o1=o:=by have:=B.good.fM.fix b o1 e';rw[e] at this;exact(aa this).symm
   subst this;exact G.fM.fix _ _<|(F b (ne b hb).1 (ne b hb).2).trans e'
  ·exact G.fM.keep _ _<|(B.ext.trans X).g _ _ hb
inductive aft{α:Type}(Rel:α->Obj->FH->eE->Prop)(f:SV->α->bo->Option (α×bo))(Z:dM)(ns:bX)(env:Env)(wr:List Addr)(items:List SV)(e9 fO:FH)(el:eE)(St:Nat->Heap->Prop)(D:Addr)(r:Option (α×bo))(k:Nat)(s:Shared):Prop
 |mk (j:Nat) (a:α) (τ:bo) (g fx:FH) (ρ:eE) (o:Obj) (hk:k=items.length-j) (hj:j<=items.length) (hl:pU f a (items.drop j) τ=r) (B:gG Z ns env τ g fx ρ s wr e9 (i9 fO D o) el j St) (hr:Rel a o g ρ)
theorem vR{α:Type}{Rel:α->Obj->FH->eE->Prop}(hmono:∀{a o g ρ g' bQ},ey g ρ g' bQ->Rel a o g ρ->Rel a o g' bQ){f:SV->α->bo->Option (α×bo)}{wr:List Addr}{items:List SV}{tup:Bool}{St:Nat->Heap->Prop}
  (L:fY Z.prog Z.w Z A I wr items e9 el tup St) (hloc:env.locals∉wr) (hDl:D≠env.locals) (hDw:D∉wr) {e target iter:ao} {ifs:List ao} {emit:Al Unit}
  (hnf:(CU e d (.ref I) (.ref D) env).isFrame=false) (hun:A.under (.compLoop e d (.ref I) (.ref D) env)=A) (heq:Fe e d (.ref I) (.ref D) env=vr env target iter ifs emit (.ref I) (again<|.compLoop e d (.ref I) (.ref D) env)) (ht:tup=true->∃elts k p,target=.Tuple elts k p)
  (hfree:∀b∈wr,fO b=none) {R:Result->Shared->Prop} {a':α} {sG:bo}
  (hturn:∀x a τ oA kZ r,f x a τ=some (oA,kZ)->pU f oA r kZ=some (a',sG)->∀g fx ρ s o v E (Q:Shared->Prop),dE Z ns env τ g fx ρ s->fx D=some o->Rel a o g ρ->RV Z g ρ x v->
   (∀g' fx' bQ s' o',ey g ρ g' bQ->(∀b,b≠env.locals->b≠D->fx' b=fx b)->fx' D=some o'->Rel oA o' g' bQ->dE Z ns env kZ g' fx' bQ s'->Q s')->
   av (Mo Z) A (qz target env v) (λy dJ=>av (Mo Z) A (uf ifs env) (λok fN=>if ok=true then av (Mo Z) A emit (λy kj=>Q kj) E fN else Q fN) E dJ) E s)
  {a:α} {τ:bo} (hl:pU f a items τ=some (a',sG)) {o:Obj} (B:gG Z ns env τ g fx ρ s wr e9 (i9 fO D o) el 0 St) (hr:Rel a o g ρ)
  (hR:∀g' fx' bQ s' o',ey e9 el g' bQ->(∀b,b≠env.locals->b≠D->fx' b=fO b)->fx' D=some o'->Rel a' o' g' bQ->dE Z ns env sG g' fx' bQ s'->R (.ok .next) s'):
  km (Mo Z) A (.compLoop e d (.ref I) (.ref D) env) R s:=by
 refine CB hnf hun heq (I:=aft Rel f Z ns env wr items e9 fO el St D<|some (a',sG)) ?_ items.length
  (.mk 0 a τ g fx ρ o rfl (eO _) hl B hr)
 intro k aC hI E
 obtain⟨j,oA,kZ,bu,a8,aQ,aag,rfl,hj,xB,WD,cD⟩:=hI
 rcases Ml hj with hend|hj'
 ·rw[hend,p7] at xB;exact eI (aa xB) λh1 h2=>by
   subst h1 h2;exact WD.last L hloc hend (λb hb=>(cH λz:b=D=>hDw<|z▸hb).trans<|hfree b hb) λfE dB dJ cy fA dD=>
    hR fE dB aQ dJ aag (WD.ext.trans cy) (λb hb hb'=>(fA b hb).trans<|cH hb') ((fA D hDl).trans dg) (hmono cy cD) dD
 ·rw[eF hj'] at xB;exact aw xB λq hf xB=>WD.next L hloc (ay hj') ht λfE dB dJ v cy Jt rv hgo=>hgo _ _ λiN iV fN eC QZ=>
   hturn _ _ _ _ _ _ hf xB iN iV aQ fN aag v E _ QZ.good ((QZ.other D hDw hDl).trans dg) (hmono (cy.trans eC) cD) (rv.mono eC) λqy pZ qw kj QU kD sY aaq sj n7=>
    ⟨items.length-(j+1),JD _ _ hj',.mk (j+1) q.1 q.2 qy pZ qw QU rfl hj' xB (QZ.ZQ L hloc hDw hDl kD sY aaq n7) sj⟩
end
def mw.T1(outer:bX)(names:bX):Prop:=∀p∈names,p.2=.local\/p.2=.globalImplicit\/(p.2=.free/\∃j k,fo p.1 outer 0=some (j,k)/\(k=.cell\/k=.free))
def mw.T2(names:bX):Prop:=∀p∈names,(p.1==("__debug__":Str))=false/\(p.1==("__classdict__":Str))=false
structure mw(outer names:bX):Prop where
 kinds:mw.T1 outer names
 nodup:(names.map (·.1)).Nodup
 pM:mw.T2 names
theorem Lf(h:Ey outer p=true):p.2=.local\/p.2=.globalImplicit\/(p.2=.free/\∃j k,fo p.1 outer 0=some (j,k)/\(k=.cell\/k=.free)):=by
 obtain⟨x,k⟩:=p;cases k with
 |«local»=>exact .inl rfl
 |globalImplicit=>exact .inr<|.inl rfl
 |free=>refine dS ((HO ..).mp h) λq h1 h2=>.inr<|.inr ⟨rfl,q.1,q.2,h1,?_⟩;revert h2;cases q.2<;>intro h2<;>first|exact .inl rfl|exact .inr rfl|exact ae h2
 |_=>exact ae h
theorem ug(h:(!b)=true):b=false:=match b,h with|false,_=>rfl
theorem mw.of(h:pS outer names=true):mw outer names:=cI h λh h3=>cI h λh1 h2=>
 ⟨λp hp=>Lf<|ba.mp h1 p hp,fX h2,λp hp=>cI (ba.mp h3 p hp) λa b=>⟨ug a,ug b⟩⟩
theorem yO(F:Str->cF->cF)(x:Str)(names:bX):(names.map λp=>(p.1,F p.1 p.2)).lookup x=(names.lookup x).map (F x):=by
 induction names with
 |nil=>exact rfl
 |cons pq r ih=>
  obtain⟨y,k⟩:=pq;rw[cS,ck,ck];cases h:x==y with
  |true=>obtain rfl:=beq_iff_eq.mp h;rfl
  |false=>exact ih
theorem yu(scope:Scope)(env:Env)(x:Str):(relabel scope env).names.lookup x=(scope.names.lookup x).map λk=>if(k==.free&&env.scope.kind==.function&&env.kindOf x==some .cell)=true then .cell else k:=by have:=yO (λx k=>if(k==.free&&env.scope.kind==.function&&env.kindOf x==some .cell)=true then .cell else k) x scope.names;rw[<-this];congr 1;apply iH;intro p _;obtain⟨n,k⟩:=p;dsimp only;split<;>rfl
theorem Fz{names:bX}:names.lookup x=some k->(x,k)∈names:=by
 induction names with
 |nil=>intro h;exact aW h
 |cons pq r ih=>
  obtain⟨y,k'⟩:=pq;intro h;rw[ck] at h;cases hb:x==y with
  |true=>rw[hb] at h;obtain rfl:=aa h;obtain rfl:=beq_iff_eq.mp hb;exact ax
  |false=>rw[hb] at h;exact az _<|ih h
theorem xT{names:bX}:(names.map (·.1)).Nodup->(x,k)∈names->names.lookup x=some k:=by
 induction names with
 |nil=>intro _ h;exact absurd h aK
 |cons pq r ih=>
  obtain⟨y,k'⟩:=pq;intro hn h;rw[ck];rw[cS,eW] at hn;rcases aV.mp h with e|h2
  ·exact eI e λe1 e2=>by rw[e1,e2,beq_self_eq_true]
  ·have:(x==y)=false:=by
    rw[beq_eq_false_iff_ne]
    rintro rfl
    exact hn.1<|bI.mpr ⟨_,h2,rfl⟩
   rw[this]
   exact ih hn.2 h2
theorem Qc{env:Env}(f:Str×cF->List (Str×Addr)->Al (ForInStep<|List<|Str×Addr))(hf:∀n k cs,f (n,k) cs=if(k==c8)=true then do let a<-Bc env n;pure (eh<|(n,a)::cs) else pure (eh cs)):
  ∀(names:bX)(cs:List (Str×Addr)),(∀p∈names,p.2=.free->∃a,env.cells.lookup p.1=some a)->
   ∃cl,forIn names cs f=pure cl/\(∀x,(x,c8)∈names->(names.map (·.1)).Nodup->cl.lookup x=env.cells.lookup x)/\(∀x,(∀k,(x,k)∉names)->cl.lookup x=cs.lookup x):=λnames=>by
 induction names with
 |nil=>exact λcs z=>⟨cs,rfl,λx h=>(absurd h aK),λz z=>rfl⟩
 |cons p r ih=>
  intro cs h;obtain⟨n,k⟩:=p;rw[cA,hf];have h':=λp hp=>h p<|az _ hp;by_cases hk:k=.free
  ·subst hk;refine fT (h _ ax rfl) λa ha=>u6 (ih ((n,a)::cs) h') λcl h1 h2 h3=>?_;have hc:Bc env n=pure a:=by unfold Bc;rw[ha]
   refine Aw cl ?_ (λx hx hn=>?_) λx hx=>?_
   ·rw[if_pos (show(c8==c8)=true from rfl),hc];exact h1
   ·have hn:=eW.mp hn;rcases aV.mp hx with e|hx
    ·obtain⟨rfl,-⟩:=gH e;rw[h3 _ λk hm=>hn.1<|bI.mpr ⟨_,hm,rfl⟩,ck,beq_self_eq_true,ha]
    ·exact h2 x hx hn.2
   ·rw[h3 x λk hm=>hx k<|az _ hm,ck,beq_eq_false_iff_ne.mpr λe:x=n=>hx .free<|e▸ax]
  ·refine u6 (ih cs h') λcl h1 h2 h3=>Aw cl ?_ (λy hx hn=>?_) λy hx=>h3 y λk hm=>hx k<|az _ hm
   ·rw[if_neg (show ¬((k==c8)=true) from λe=>hk<|eq_of_beq e)];exact h1
   ·have hn:=eW.mp hn;rcases aV.mp hx with e|hx
    ·exact absurd (gH e).2.symm hk
    ·exact h2 y hx hn.2
theorem zf{scope:Scope}{env:Env}(h:∀p∈scope.names,p.2=.free->∃a,env.cells.lookup p.1=some a)(hn:(scope.names.map (·.1)).Nodup):∃cl,closureFor scope env=pure cl/\∀x,(x,c8)∈scope.names->cl.lookup x=env.cells.lookup x:=by
 obtain⟨cl,h1,h2,_⟩:=Qc (λx cs=>match x with
  |(name,kind)=>if(kind==c8)=true then do let a<-Bc env name;pure (eh<|(name,a)::cs) else pure (eh cs)) (λz z z=>rfl) scope.names [] h
 refine⟨cl,?_,λx hx=>h2 x hx hn⟩;show(forIn scope.names [] _>>=λcs=>pure cs)=_;have:=h1;rw[this];rfl
section
variable{Z:dM}{C:bT}{M:b6}{K:Frag}{n:Nat}{ns:bX}{c:TC}{st st':List SO}{g g' fx:FH}{ρ bQ:eE}{s:Shared}{A:bD}{σ bk:bo}{env:Env}{E:Value->Shared->Prop}{i:Nat}
theorem zd{scope:Scope}{C:Addr}(V:d8 ns env)(O:mw ns scope.names)(hk:scope.kind=.function):d8 scope.names (sm scope cl C env):=by
 have hkind:∀x,(sm scope cl C env).kindOf x=(scope.names.lookup x).map λk=>if(k==.free&&env.scope.kind==.function&&env.kindOf x==some .cell)=true then .cell else k:=λx=>yu scope env x
 refine⟨hk,λx h=>?_,λx h=>?_,λx h=>?_,λx h=>?_,V.globals,V.builtins,O.nodup,O.pM⟩
 ·rw[hkind,h];rfl
 ·rcases O.kinds _ (Fz h) with h|h|⟨h,_⟩<;>exact cV h
 ·rw[hkind,h];simp only[my,sy];split
  ·exact .inl rfl
  ·exact .inr rfl
 ·rw[hkind,h];rfl
theorem P5{scope:Scope}{cl:List (Str×Addr)}(L:mE Z g ρ env ns loc m)(O:mw ns scope.names)(hcl:∀x,(x,c8)∈scope.names->cl.lookup x=env.cells.lookup x)(hns:c.ns=ns):
  mE Z g ρ (sm scope cl D env) scope.names (i4 (jV c scope) loc) (λz=>none) where
 loc j x h:=by refine⟨.un,?_,.inl rfl⟩;unfold i4 jV;rw[ai,ai,h];rfl
 sD j x k h hk:=by
  have hm:=aI h;rcases O.kinds _ hm with e|e|⟨e,j',k',hp,hk'⟩
  ·dsimp only at e;subst e;rcases hk with hk|hk<;>exact cV hk
  ·dsimp only at e;subst e;rcases hk with hk|hk<;>exact cV hk
  ·dsimp only at e hp;subst e;refine jG (L.sD j' x k' (iz hp).1 hk') λcc p h1 h2 h3=>Av cc p ?_ h2 ?_
   ·unfold i4 jV;rw[ai,ai,h];simp only[my,hns,hp,IL,h1,Option.getD_some]
   ·show cl.lookup x=_;rw[hcl x hm,h3]
noncomputable def ot(fx:FH)(D:Addr):FH:=λb=>if b=D then none else fx b
theorem oU:ot fx D D=none:=if_pos rfl
theorem rp(h:b≠D):ot fx D b=fx b:=if_neg h
theorem Eu(h:fx b=none):ot fx D b=none:=by
 by_cases q:b=D
 ·rw[q,oU]
 ·rw[rp q,h]
theorem P2(h:ot fx D b=some o):b≠D/\fx b=some o:=by
 by_cases q:b=D
 ·rw[q,oU] at h;exact aW h
 ·exact⟨q,(rp q).symm.trans h⟩
theorem EO{so:SO}(h:so.live=false):so=.gone:=by cases so<;>first|rfl|exact ae h
theorem b7.Up(S:b7 Z st g fx ρ s)(hD:fx D=some o){h':Heap}(t':Nat)(hk:∀b ob,b≠D->s.heap.get? b=some ob->h'.get? b=some ob):b7 Z st g (ot fx D) ρ {s with heap:=h',toks:=t'}:=by
 have gD:=S.tY D o hD;have tD:∀b,Z.tab b=true->b≠D:=λb h z=>cb _<|hD.symm.trans (S.hW D<|z▸h).2;have nD:∀b ob,g b=some ob->b≠D:=λb ob e z=>cb ob<|(z▸e).symm.trans gD;refine⟨λb ob e=>hk b ob (nD _ _ e)<|S.keep b ob e,λb ob e=>hk b ob (P2 e).1<|S.fix b ob (P2 e).2,S.len,λk so p hso hp=>?_,S.uniq,λk so p x hso hl hp hx=>?_,S.top,Z.mI _ _ S.tabs (λb ob e hb=>hk b ob (tD _ hb) e) λb o e=>hk b o (nD _ _<|S.top b o e)<|S.fy b o e,
  λb hb=>⟨(S.hW b hb).1,Eu (S.hW b hb).2⟩,λb ob e=>S.tY b ob (P2 e).2,S.same,S.lR (λy y e=>e) λb ob e hb=>hk b ob (tD _ hb) e⟩
 ·cases hl:so.live with
  |true=>exact(S.objs k so p hso hp).mono (.refl _ _) λb ob hb e=>hk b ob (λz=>cb _<|hD.symm.trans<|z▸(S.off k so p b hso hl hp hb).2.1) e
  |false=>rw[EO hl];trivial
 ·refine qe (S.off k so p x hso hl hp hx) λa b c=>⟨a,Eu b,c⟩
theorem DB(h:fx D=some o):i9 (ot fx D) D o=fx:=by
 funext b;by_cases q:b=D
 ·rw[q,dg,h]
 ·rw[cH q,rp q]
def wZ(Z:dM)(a:List SV)(o:Obj)(g:FH)(ρ:eE):Prop:=∃vs n,o=nO vs n/\ei Z g ρ a vs.toList
theorem wZ.mono(x:ey g ρ g' bQ)(h:wZ Z a o g ρ):wZ Z a o g' bQ:=h.imp λz=>aD λz=>aH λr=>r.mono x
theorem KJ(S:b7 Z st g fx ρ s)(hD:fx D=some o)(hr:wZ Z ys o g ρ)(m:Bool)(σ:bo)(QX:σ.st=st):
  ∃g' bQ,ey g ρ g' bQ/\b7 Z (dN m ys σ).2.st g' (ot fx D) bQ s/\RV Z g' bQ (dN m ys σ).1 (.ref D)/\(dN m ys σ).2.loc=σ.loc:=by
 subst QX
 refine rJ hr λvs k zz2 r=>?_
 subst zz2
 have S':b7 Z σ.st g (i9 (ot fx D) D<|nO vs k) ρ s:=by rw[DB hD];exact S
 have hn:ot fx D D=none:=oU
 have ho:=S.fix _ _ hD
 cases hm:m||!b8 ys with
 |true=>rw[DR hm];have X:ey g ρ g (ρ++[(D,D)]):=⟨λy y e=>e,[(D,D)],rfl⟩;exact VG g (ρ++[(D,D)]) X (S'.adopt hn (.list ys) ⟨rfl,vs,k,ho,r.mono X⟩) ⟨(D,D),by rw[<-S.len,aA<|aG _,bF];rfl,rfl⟩ rfl
 |false=>refine kg (yM (σ:=σ) hm) λe hf'=>?_;rw[e];have gD:=S'.tY D _ dg;have X:ey g ρ (i9 g D<|nO vs k) ρ:=⟨λb ob e=>(cH λz:b=D=>aW<|gD.symm.trans<|z▸e).trans e,[],(bj _).symm⟩;exact VG _ ρ X (S'.settle hn) ⟨D,vs,k,rfl,dg,(r.free hf').mono X.nil⟩ rfl
theorem AZ{St:Nat->Heap->Prop}(R:xV Z A ns env σ items tup g fx ρ s I wr St){scope:Scope}{cl:List (Str×Addr)}(O:mw ns scope.names)(hns:c.ns=ns)
  (hcl:∀x,(x,c8)∈scope.names->cl.lookup x=env.cells.lookup x) {oD oF:Obj} (hF:oD.isFreed=false) {mX:Heap} (t':Nat) (hn:mX.Ns (s.heap.push oD).objs.size λy=>none) (hs:dH (s.heap.push oD).objs.size ((s.heap.push oD).push oF) mX):
  ∃g' fx',ey g ρ g' ρ/\gG Z scope.names (sm scope cl (s.heap.push oD).objs.size env) ⟨i4 (jV c scope) σ.loc,σ.st⟩ g' fx' ρ {s with heap:=mX,toks:=t'} wr g (i9 fx s.heap.objs.size oD) ρ 0 St/\
   (s.heap.push oD).objs.size∉wr/\s.heap.objs.size∉wr/\s.heap.objs.size≠(s.heap.push oD).objs.size/\fx s.heap.objs.size=none/\fx (s.heap.push oD).objs.size=none/\env.locals≠s.heap.objs.size/\env.locals≠(s.heap.push oD).objs.size:=by
 have hCs:(s.heap.push oD).objs.size=s.heap.objs.size+1:=gR ..
 generalize hC:(s.heap.push oD).objs.size=Cc at *
 generalize hD:s.heap.objs.size=D at *
 have hDC:D≠Cc:=by rw[hCs];exact bZ<|cJ _
 have nD:=hD▸bL _
 have nC0:s.heap.get? Cc=none:=by
  cases q:s.heap.get? Cc with
  |none=>rfl
  |some o=>have:=cg q;rw[hD,hCs] at this;exact absurd this<|vk.mpr<|jR _
 have nC:=hC▸bL _
 have E2:=R.good.fM
 have atD:=hD▸bB _ hF
 have n6:=E2.Ha s.toks cx D oD nD atD
 have qx:=λb o e=>(hs.2 b (λz=>by rw[z,nC] at e;exact aW e)).trans<|cx b o e
 refine dS (mj hn) λoC hoC hO=>?_
 have sX:=b7.Ha n6 t' qx Cc oC nC hoC
 have bC:ey g ρ (eG Z g s.heap (s.heap.push oD) λb=>b==D) ρ:=a7
 have cy:ey (eG Z g s.heap (s.heap.push oD) λb=>b==D) ρ (eG Z (eG Z g s.heap (s.heap.push oD) λb=>b==D) (s.heap.push oD) mX λb=>b==Cc) ρ:=a7
 have hw:∀b∈wr,b≠D/\b≠Cc:=λb hb=>by refine fT (R.lp.there _ _ R.st b hb) λo e=>⟨λz=>(by rw[z,nD] at e;exact aW e),λz=>(by rw[z,nC0] at e;exact aW e)⟩
 have hCw:=λh=>(hw _ h).2 rfl
 have hDw:=λh=>(hw _ h).1 rfl
 refine jG R.good.AS.is λoL m hL hOL LL=>?_
 have hLe:=E2.fix _ _ hL
 have hLD:env.locals≠D:=λz=>by rw[z,nD] at hLe;exact aW hLe
 have hLC:env.locals≠Cc:=λz=>by rw[z,nC0] at hLe;exact aW hLe
 refine⟨_,_,bC.trans cy,⟨⟨sX,⟨oC,_,dg,hO,(P5 LL O hcl hns).mono<|bC.trans cy⟩⟩,bC.trans cy,λb hb=>?_,λb hb hb'=>?_,?_⟩,hCw,hDw,hDC,?_,?_,hLD,hLC⟩
 ·refine fT (R.lp.there _ _ R.st b hb) λo e=>⟨o,by rw[cH (hw b hb).2,cH (hw b hb).1,mM hb];exact e⟩
 ·have hb':b≠Cc:=hb';rw[cH hb'];by_cases hbD:b=D
  ·subst hbD;rw[dg,dg]
  ·rw[cH hbD,cH hbD,eK hb]
 ·refine R.lp.frame 0 s.heap mX R.st λb o hb e=>qx b o<|cx b o e
 ·have:=(E2.fresh nD).2.1;rwa[eK hDw] at this
 ·have:=(E2.fresh nC0).2.1;rwa[eK hCw] at this
end
section
variable{Z:dM}{C:bT}{M:b6}{K:Frag}{n:Nat}{ns:bX}{c:TC}{st st':List SO}{g g' fx:FH}{ρ bQ:eE}{s:Shared}{A:bD}{σ bk:bo}{env:Env}{E:Value->Shared->Prop}{i:Nat}
noncomputable def AN(f:SV->bo->Option (List SV×bo))(x:SV)(a:List SV)(τ:bo):Option (List SV×bo):=(f x τ).map λr=>(a++r.1,r.2)
theorem sQ:∀{a:List SV}{τ:bo},gM f a items τ=pU (AN f) a items τ:=by
 induction items with
 |nil=>intro _ _;exact rfl
 |cons x r ih=>
  intro a τ;show(f x τ).bind _=((f x τ).map _).bind _;cases f x τ with
  |none=>rfl
  |some q=>exact ih
theorem OC{f:SV->bo->Option (List SV×bo)}{P:Prop}(h:AN f x a τ=some (a',sG))(k:∀w,f x τ=some (w,sG)->a++w=a'->P):P:=dj h λr h e=>eI e λe1 e2=>k r.1 (e2▸h) e1
theorem wF{f:SV->bo->Option (List SV×bo)}:∀{a a':List SV}{τ sG:bo},pU (AN f) a items τ=some (a',sG)->a.length<=a'.length:=by
 induction items with
 |nil=>intro _ _ _ _ h;exact eI (aa h) λe z=>eD<|congrArg HP e
 |cons x r ih=>intro a a' τ sG h;exact aw h λq h1 h2=>OC h1 λw z e=>ah (by rw[<-e,aj];exact bc _ _)<|ih h2
def I8(C:bT)(M:b6)(t:TN)(cs:List Mine.E)(elt:Mine.E)(x:SV)(τ:bo):Option (List SV×bo):=(dm t x τ).bind λτ=>(kP C M cs τ).bind λq=>(gh q.1).bind λb=>match b with
 |true=>(cj C M elt q.2).map λr=>([r.1],r.2)
 |false=>some ([],q.2)
theorem Y9{P:Prop}(h:I8 C M t cs elt x τ=some (w,sG))(k1:∀E0 Jp y,dm t x τ=some E0->kP C M cs E0=some (.bool true,Jp)->cj C M elt Jp=some (y,sG)->[y]=w->P)
  (k2:∀E0,dm t x τ=some E0->kP C M cs E0=some (.bool false,sG)->[]=w->P):P:=aw h λE0 h1 h=>aw h λq h2 h=>aw h λb hb h=>Bz hb λhq=>by
 have h2:kP C M cs E0=some (.bool b,q.2):=by rw[h2,<-hq]
 cases b with
 |true=>exact dj h λr h3 e=>eI e λe1 e2=>k1 E0 q.2 r.1 h1 h2 (e2▸h3) e1
 |false=>exact eI (aa h) λe1 e2=>k2 E0 h1 (e2▸h2) e1
theorem Hv(S:b7 Z st g fx ρ s)(hD:fx D=some o)(hr:wZ Z a o g ρ)(r:RV Z g ρ x y)(hl:a.length<=eA)
  (h:∀g' o' s',ey g ρ g' ρ->b7 Z st g' (i9 fx D o') ρ s'->wZ Z (a++[x]) o' g' ρ->Q .none s'):av (Mo Z) A (call (.builtin "list.append") [.ref D,y]) Q E s:=by
 refine rJ hr λvs k zz2 rs=>?_
 subst zz2
 have ho:=S.fix _ _ hD
 have hlen:=rs.length
 rw[aM] at hlen
 refine wpAny_list_append_plain (hsz:=iC<|Z8 hl hlen) (⟨k,ho⟩:s.heap.PlainList D vs) λh' hp' hs'=>fT hp' λk' ho'=>?_
 have S':=S.G9 s.toks hD (λb ob hb e=>(hs'.2 b hb).trans e) ho'
 refine h _ _ _ a7 S' ⟨_,_,rfl,?_⟩
 rw[LH]
 exact(rs.mono a7).append<|ei.one<|r.mono a7
theorem Ee(F:rB Z g ρ env ns loc fx)(hD:D≠env.locals):rB Z g ρ env ns loc (i9 fx D o'):=by refine jG F.is λo m h1 h2 h3=>⟨o,m,by rw[cH<|gp hD];exact h1,h2,h3⟩
theorem Ax(hN:sE Z n ns t target)(hc:qL Z n ns C M cs ifs)(he:fK Z n ns C M te elt)(V:d8 ns env)(hA:t6 n A)(hDl:D≠env.locals)
  (hf:AN (I8 C M t cs te) x a τ=some (oA,kZ)) (hlim:oA.length<=eA) {Q:Shared->Prop} (G:dE Z ns env τ g fx ρ s) (hD:fx D=some o) (hr:wZ Z a o g ρ) (rv:RV Z g ρ x v)
  (h:∀g' fx' bQ s' o',ey g ρ g' bQ->(∀b,b≠env.locals->b≠D->fx' b=fx b)->fx' D=some o'->wZ Z oA o' g' bQ->dE Z ns env kZ g' fx' bQ s'->Q s'):
  av (Mo Z) A (qz target env v) (λz dJ=>av (Mo Z) A (uf ifs env) (λok fN=>if ok=true then av (Mo Z) A (do let _<-call (.builtin "list.append") [.ref D,<-eval elt env]) (λz kj=>Q kj) E fN else Q fN) E dJ) E s:=by
 refine OC hf λw hw ea=>Y9 hw (λJp τ3 y h1 h2 h3 ew=>?_) λJp h1 h2 ew=>?_
 ·subst ew;refine hN.1 _ _ _ h1 env A g fx ρ s v V hA G rv _ _ λfE dB dP dJ cy fA dD=>Di hc h2 env A fE dB dP dJ V hA dD _ _ λiN iV ir fN eC l8 jI=>?_;rw[if_pos rfl];refine aX<|he _ _ _ h3 env A iN iV ir fN V hA jI _ _ λqy pZ qw kj yv kD sY n7 sj=>?_;have F:=λb hb=>(sY b hb).trans<|(l8 b hb).trans<|fA b hb;have hal:=ah (by rw[<-ea,aj];exact bc _ _) hlim;exact aX<|Hv n7.fM ((F D hDl).trans hD) (hr.mono<|(cy.trans eC).trans kD) sj hal λC1 afX u9 vc Wy Ww=>ab
   (h C1 _ qw u9 afX (((cy.trans eC).trans kD).trans vc) (λb hb hb'=>(cH hb').trans<|F b hb) dg (ea▸Ww) ⟨Wy,Ee (n7.AS.mono vc) hDl⟩)
 ·subst ew;refine hN.1 _ _ _ h1 env A g fx ρ s v V hA G rv _ _ λfE dB dP dJ cy fA dD=>Di hc h2 env A fE dB dP dJ V hA dD _ _ λiN iV ir fN eC l8 jI=>?_;rw[if_neg bh];rw[bj] at ea;exact h iN iV ir fN o (cy.trans eC) (λb hb z=>(l8 b hb).trans<|fA b hb) ((l8 D hDl).trans<|(fA D hDl).trans hD) (ea▸hr.mono (cy.trans eC)) jI
theorem P7{τ:bo}{sc:bX}{cenv:Env}(WC:rB Z e9 el env ns σ.loc fO)(X:ey e9 el g ρ)(F:∀b,b≠Cc->b≠D->fx b=fO b)(hD:fx D=some o)(hr:wZ Z ys o g ρ)(S:b7 Z τ.st g fx ρ s)
  (hLD:env.locals≠D) (hLC:env.locals≠Cc) (hfD:fO D=none) (m:Bool):
  ∃g' bQ,ey e9 el g' bQ/\dE Z ns env (dN m ys {σ with st:=τ.st}).2 g' (ot fx D) bQ s/\(∀b,b≠Cc->ot fx D b=fO b)/\RV Z g' bQ (dN m ys {σ with st:=τ.st}).1 (.ref D):=by
 refine RK (KJ S hD hr m {σ with st:=τ.st} rfl) λg' bQ X' S' r' hl=>?_
 have key:∀b,b≠Cc->ot fx D b=fO b:=λb hb=>by
  by_cases e:b=D
  ·rw[e,hfD,oU]
  ·rw[rp e,F b hb e]
 refine VG g' bQ (X.trans X') ⟨S',?_⟩ key r'
 rw[hl]
 refine jG WC.is λoo mm h1 h2 h3=>⟨oo,mm,by rw[key _ hLC];exact h1,h2,h3.mono<|X.trans X'⟩
theorem dE.We(G:dE Z ns env σ g fx ρ s)(hC:fx Cc=some oC)(hLC:env.locals≠Cc)(hs:dH Cc s.heap h'):dE Z ns env σ g (ot fx Cc) ρ {s with heap:=h'}:=by refine⟨G.fM.Up hC s.toks λb ob hb e=>(hs.2 b hb).trans e,?_⟩;refine jG G.AS.is λoo mm h1 h2 h3=>⟨oo,mm,(rp hLC).trans h1,h2,h3⟩
end
section
variable{Z:dM}{C:bT}{M:b6}{K:Frag}{n:Nat}{ns:bX}{c:TC}{st st':List SO}{g g' fx:FH}{ρ bQ:eE}{s:Shared}{A:bD}{σ bk:bo}{env:Env}{E:Value->Shared->Prop}{i:Nat}{fe:Env->Prop}
def m8(Z:dM)(ns:bX)(env:Env)(bk:bo)(v:SV)(g fx:FH)(ρ:eE)(R:Value->Addr->Shared->Prop):Prop:=
 ∀g' fx' bQ s' D Cc oC mC,ey g ρ g' bQ->(∀b,b≠env.locals->b≠Cc->fx' b=fx b)->fx' Cc=some oC->tX oC mC->env.locals≠Cc->fx Cc=none->dE Z ns env bk g' fx' bQ s'->RV Z g' bQ v (.ref D)->R (.ref D) Cc s'
theorem yY(O:mw ns c')(G:dE Z ns env σ g fx ρ s):∀p∈c',p.2=c8->∃a,env.cells.lookup p.1=some a:=by
 intro p hp hk;refine jG G.AS.is λo m z z L=>?_;rcases O.kinds p hp with h|h|⟨_,j,k,h1,h2⟩
 ·exact cV<|hk.symm.trans h
 ·exact cV<|hk.symm.trans h
 ·refine jG (L.sD j p.1 k (iz h1).1 h2) λcc q z z h3=>⟨_,h3⟩
def Wr(Z:dM)(A:bD)(ns:bX)(target:ao)(ifs:List ao)(emit:Value->Env->Al Unit)(f:SV->bo->Option (List SV×bo)):Prop:=
 ∀(env:Env),d8 ns env->∀(D:Addr),D≠env.locals->∀(x:SV)(a oA:List SV)(τ kZ:bo),AN f x a τ=some (oA,kZ)->oA.length<=eA->∀(g fx:FH)(ρ:eE)(s:Shared)(o:Obj)(v:Value)(E:Value->Shared->Prop)(Q:Shared->Prop),dE Z ns env τ g fx ρ s->fx D=some o->wZ Z a o g ρ->RV Z g ρ x v->
  (∀g' fx' bQ s' o',ey g ρ g' bQ->(∀b,b≠env.locals->b≠D->fx' b=fx b)->fx' D=some o'->wZ Z oA o' g' bQ->dE Z ns env kZ g' fx' bQ s'->Q s')->
  av (Mo Z) A (qz target env v) (λz dJ=>av (Mo Z) A (uf ifs env) (λok fN=>if ok=true then av (Mo Z) A (emit (.ref D) env) (λz kj=>Q kj) E fN else Q fN) E dJ) E s
theorem vQ{P:Addr->Prop}(F:∀b,P b->b≠Cc->fx' b=fx b)(hf:fx Cc=none)(b:Addr)(hb:P b):ot fx' Cc b=fx b:=by
 by_cases e:b=Cc
 ·rw[e,oU,hf]
 ·rw[rp e,F b hb e]
theorem m8.of(P:vX Z ns env bk v g fx ρ Q):m8 Z ns env bk v g fx ρ λy Cc s'=>Ff (Mo Z) A E none Q y Cc (.ok .next) s':=
 λg' fx' bQ s' D Cc oC mC X F hC hO hLC hf G' r=>⟨mC,hO.ns<|G'.fM.fix _ _ hC,λh' hs'=>P g' (ot fx' Cc) bQ _ _ X (vQ F hf) (G'.We hC hLC hs') r⟩
theorem xV.frame{St:Nat->Heap->Prop}(R:xV Z A ns env σ items tup g fx ρ s I wr St):rB Z g ρ env ns σ.loc fx:=by refine jG R.good.AS.is λoo mm q1 q2 q3=>⟨oo,mm,(eK R.loc).symm.trans q1,q2,q3⟩
theorem Ex{scope:Scope}(hI:nt Z n ns C M ik its iter)(hN:sE Z n scope.names t target)
  (heq:∀it D env,Fe (.ListComp elt (⟨target,iter,ifs,0⟩::rest) scope pos) 0 it (.ref D) env=vr env target iter ifs (emit (.ref D) env) it (again<|.compLoop (.ListComp elt (⟨target,iter,ifs,0⟩::rest) scope pos) 0 it (.ref D) env)) (hturn:Wr Z A scope.names target ifs emit f)
  (hok:pS ns scope.names=true) (hk:scope.kind=.function) (hs:fJ iter=true) (hns:c.ns=ns) (e1:iq C M its σ=some (vs,aq)) (e2:lH ik vs=some items) (hok2:qX ik t=true)
  (e3:gM f [] items ⟨i4 (jV c scope) aq.loc,aq.st⟩=some (ys,τ)) (hlim:ys.length<=eA) (ev:dN m ys {aq with st:=τ.st}=(v,bk))
  (V:d8 ns env) (hA:t6 n A) (G:dE Z ns env σ g fx ρ s)
  (P:m8 Z ns env bk v g fx ρ λy Cc s'=>Ff (Mo Z) A E use Q y Cc (.ok .next) s'):
  av (Mo Z) A (comprehension (.ListComp elt (⟨target,iter,ifs,0⟩::rest) scope pos) scope env pos' (newList []) false (eval iter env) use) Q E s:=by
 have O:=mw.of hok
 refine dS (zf (yY O G) O.nodup) λcl hcl1 hcl2=>?_
 have hT:=x9 hok2 hN
 refine Jv rfl (pP hs) hcl1 hk (λx hx hl=>xT O.nodup (by rw[<-hl];exact hx))<|hI σ _ _ _ e1 e2 env A g fx ρ s V hA G E _ λbu a8 aQ aC I wr St bC b5 l7=>?_
 refine ej<|Q2 (λx hx=>?_) (by simp -iota) (λmX hn kC=>?_) hk
 ·rcases O.kinds x hx with h|h|⟨h,_⟩<;>rw[h]<;>decide
 ·obtain⟨fE,dB,cy,Jt,hCw,hDw,hDC,hfD,hfC,hLD,hLC⟩:=AZ l7 O hns hcl2 (oF:={cls:=.type "dict",data:=.dict #[]}) rfl (aC.toks+0) hn kC;have V':d8 scope.names (sm scope cl (aC.heap.push {cls:=.type "list",data:=.seq #[]}).objs.size env):=zd V O hk;have h0:km (Mo Z) A (.compLoop (.ListComp elt (⟨target,iter,ifs,0⟩::rest) scope pos) 0 (.ref I) (.ref aC.heap.objs.size)<|sm scope cl (aC.heap.push {cls:=.type "list",data:=.seq #[]}).objs.size env)
    (Ff (Mo Z) A E use Q (.ref aC.heap.objs.size) (aC.heap.push {cls:=.type "list",data:=.seq #[]}).objs.size) {aC with heap:=mX,toks:=aC.toks+0}:=by
   refine vR (Rel:=wZ Z) (λx r=>r.mono x) l7.lp hCw hDC hDw rfl (gI rfl) (heq _ _ _) hT l7.free (λx a Jp oA kZ r hf hl g fx ρ s o v E Q G hD hr rv h=>?_) (a:=[]) (by rw[<-sQ];exact e3) Jt ⟨#[],0,rfl,rfl⟩ ?_
   ·exact hturn _ V' _ hDC _ _ _ _ _ hf (ah (wF hl) hlim) _ _ _ _ _ _ _ _ G hD hr rv h
   ·intro iN iV ir fN aaf eC l8 sH pe jI;refine RK (P7 (sc:=scope.names) (cenv:=env) l7.frame eC l8 sH pe jI.fM hLD hLC hfD m) λqy qw kD n7 sY sj=>jG jI.AS.is λoC mC hC1 hC2 z=>?_;rw[ev] at n7 sj;exact P qy (ot iV aC.heap.objs.size) qw fN aC.heap.objs.size _ oC mC (bC.trans kD) (λb hb hb'=>(sY b hb').trans<|b5 b hb) ((rp<|gp hDC).trans hC1) hC2 hLC ((b5 _<|gp hLC).symm.trans hfC) n7 sj
  exact ou rfl (gI rfl) rfl h0 λE=>l7.lp.self 0 _ _ _ Jt.st h0
theorem AY{scope:Scope}(hI:nt Z n ns C M ik its iter)(hN:sE Z n scope.names t target)(hc:qL Z n scope.names C M cs ifs)(he:fK Z n scope.names C M te elt)
  (hok:pS ns scope.names=true) (hk:scope.kind=.function) (hs:fJ iter=true) (hns:c.ns=ns) (ev:cj C M (.comp m (jV c scope) te t ik its cs) σ=some (v,bk))
  (V:d8 ns env) (hA:t6 n A) (G:dE Z ns env σ g fx ρ s)
  (P:m8 Z ns env bk v g fx ρ λy Cc s'=>Ff (Mo Z) A E use Q y Cc (.ok .next) s'):
  av (Mo Z) A (comprehension (.ListComp elt [⟨target,iter,ifs,0⟩] scope pos) scope env pos' (newList []) false (eval iter env) use) Q E s:=by
 exact aw ev λp e1 ev=>aw ev λitems e2 ev=>r7 ev λhok2 ev=>aw ev λz e3 ev=>j8 ev λhl ev=>
  Ex (emit:=λD env=>(do let _<-call (.builtin "list.append") [D,<-eval elt env])) hI hN (λu u u=>rfl) (λenv V D hD x a oA τ kZ hf hl g fx ρ s o v E Q G hd hr rv h=>Ax hN hc he V hA hD hf hl G hd hr rv h) hok hk hs hns e1 e2 hok2 e3 (fX hl) ev V hA G P
theorem Du{scope:Scope}(hI:nt Z n ns C M ik its iter)(hN:sE Z n scope.names t target)(hc:qL Z n scope.names C M cs ifs)(he:fK Z n scope.names C M te elt)
  (hok:pS ns scope.names=true) (hk:scope.kind=.function) (hs:fJ iter=true) (hns:c.ns=ns):fK Z n ns C M (.comp m (jV c scope) te t ik its cs) (.ListComp elt [⟨target,iter,ifs,0⟩] scope pos):=by
 intro σ bk v ev env A g fx ρ s V hA G E Q P
 rw[arm_eval_ListComp]
 exact AY hI hN hc he hok hk hs hns ev V hA G<|m8.of P
theorem J6{scope:Scope}(hI:nt Z n ns C M ik its iter)(hN:sE Z n scope.names t target)(hc:qL Z n scope.names C M cs ifs)(he:fK Z n scope.names C M te elt)
  (hok:pS ns scope.names=true) (hk:scope.kind=.function) (hs:fJ iter=true) (hns:c.ns=ns) (hp:fo x ns 0=some (j,k)) (hkk:k=.local\/k=.cell):
  nr Z n ns C M fe (.asg (.nm j)<|.comp m (jV c scope) te t ik its cs) (.Assign [.Name x xp] (.ListComp elt [⟨target,iter,ifs,0⟩] scope cpos) pos):=
 λσ bk fl ev env A g fx ρ s V hfe hA G E Q P=>Zt ev λv aq e1 e2 er=>by
  subst er;obtain⟨b,hsw⟩:∃b,Jw [.Name x xp] (.ListComp elt [⟨target,iter,ifs,0⟩] scope cpos) pos.line env=pure b:=⟨_,rfl⟩;cases b with
  |false=>
   exact y9 hsw rfl rfl<|(Du hI hN hc he hok hk hs hns) σ _ _ e1 env A g fx ρ s V hA G E _ λbu a8 aQ aC y bC b5 bG cD=>
    rM hp hkk aq _ _ e2 env A bu a8 aQ aC y V hA bG cD E _ λfE dB dP dJ cy fA dD=>(P.of bC b5) fE dB dP dJ _ cy fA dD rfl
  |true=>
   rw[Q6];refine aX<|dF ?_;rw[hsw];refine aJ<|ab ?_;refine MJ rfl<|aX ?_;refine aX<|AY hI hN hc he hok hk hs hns e1 V hA G λg' fx' bQ s' D Cc oC mC X F hC hO hLC hf G' r=>?_;refine wpAny_assign_Name<|lB hp hkk e2 V G' r λfE Wx dJ cy dD=>?_;have Vf:i9 fx' env.locals Wx Cc=some oC:=(cH<|gp hLC).trans hC;exact⟨mC,hO.ns<|dD.fM.fix _ _ Vf,λh' hs'=>ab<|ab
    (P fE (ot (i9 fx' env.locals Wx) Cc) bQ _ _ (X.trans cy) (vQ (λb hb hb'=>(cH hb).trans<|F b hb hb') hf) (dD.We Vf hLC hs') rfl)⟩
end
section
variable{Z:dM}{C:bT}{M:b6}{K:Frag}{n:Nat}{ns:bX}{c:TC}{st st':List SO}{g g' fx:FH}{ρ bQ:eE}{s:Shared}{A:bD}{σ bk:bo}{env:Env}{E:Value->Shared->Prop}{i:Nat}
theorem PG(h:cj C M t σ=some (v,bk)):iq C M [t] σ=some ([v],bk):=by show(cj C M t σ).bind _=_;rw[h];rfl
theorem y8:∀{acc ys:List SV}{τ sG:bo},gM f acc items τ=some (ys,sG)->∃zs,ys=acc++zs/\∀a,gM f a items τ=some (a++zs,sG):=by
 induction items with
 |nil=>intro acc ys τ sG h;exact eI (aa h) λe1 e2=>⟨[],e1▸(bj _).symm,λa=>by rw[bj,<-e2];rfl⟩
 |cons x r ih=>intro acc ys τ sG h;exact aw h λq hq h=>by refine dS (ih h) λzs h1 h2=>⟨q.1++zs,by rw[h1,aO],λa=>?_⟩;show(f x τ).bind _=_;rw[hq,<-aO];exact h2<|a++q.1
def Za(C:bT)(M:b6)(t:TN)(elt:Mine.E)(t2:TN)(e2:Mine.E)(x:SV)(τ:bo):Option (List SV×bo):=(dm t x τ).bind λτ=>(cj C M e2 τ).bind λq=>(vE q.1).bind λitems2=>gM (I8 C M t2 [] elt) [] items2 q.2
theorem DP{env:Env}(h:Q true s):av (Mo Z) A (uf [] env) Q E s:=ab h
theorem Sx(h:fx D=some o):i9 fx D o=fx:=by
 funext b;by_cases e:b=D
 ·rw[e,dg,h]
 ·exact cH e
theorem CA(target iter target2 iter2 elt:ao)(scope:Scope)(pos:Pos)(it acc:Value)(env:Env):Fe (.ListComp elt [⟨target,iter,[],0⟩,⟨target2,iter2,[],0⟩] scope pos) 0 it acc env=vr env target iter [] (do
   let x<-eval iter2 env
   ma iter2.pos
   let x<-zM iter2 env x
   let _<-runOwn (.compStart (.ListComp elt [⟨target,iter,[],0⟩,⟨target2,iter2,[],0⟩] scope pos) 1 (<-k7 [x]<|lq x) acc env) env) it (again<|.compLoop (.ListComp elt [⟨target,iter,[],0⟩,⟨target2,iter2,[],0⟩] scope pos) 0 it acc env):=by
 unfold vr
 simp -iota only[bind_assoc,pure_bind]
 rfl
theorem MQ(hN:sE Z n ns t target)(hN2:sE Z n ns t2 target2)(hI2:nt Z n ns C M .over [te2] iter2)(he:fK Z n ns C M te elt)(hs2:fJ iter2=true)
  (hA:t6 n A):
  Wr Z A ns target [] (λD env=>(do
   let x<-eval iter2 env
   ma iter2.pos
   let x<-zM iter2 env x;let _<-runOwn (.compStart (.ListComp elt [⟨target,iter,[],0⟩,⟨target2,iter2,[],0⟩] scope pos) 1 (<-k7 [x]<|lq x) D env) env)) (Za C M t te t2 te2):=by
 intro env V D hD x a oA τ kZ hf hlim g fx ρ s o v E Q G hd hr rv h
 exact OC hf λw hw ea=>aw hw λJp h1 hw=>aw hw λq h2 hw=>aw hw λitems2 h3 hw=>by
  subst ea;refine hN.1 _ _ _ h1 env A g fx ρ s v V hA G rv _ _ λfE dB dP dJ cy fA dD=>DP ?_;rw[if_pos rfl];refine aX<|eS (hI2 _ _ _ _ (PG h2) h3 env A fE dB dP dJ V hA dD _ _ λiN iV ir fN I wr St eC l8 E3=>?_) (λxv aC i5=>aX<|dF<|aX<|nH (pP hs2 _)<|aX<|aR i5) λz z x=>x;refine aX<|wpAny_runOwn ?_;have sH:=(l8 D hD).trans<|(fA D hD).trans hd;have hDw:=λhm=>cb o<|sH.symm.trans<|E3.free D hm;refine dS (y8 hw) λzs hz1 hz2=>?_;obtain rfl:w=zs:=hz1;have h0:km (Mo Z) (A.mark none) (.compLoop (.ListComp elt [⟨target,iter,[],0⟩,⟨target2,iter2,[],0⟩] scope pos) 1 (.ref I) (.ref D) env) (λr s'=>match r with|.ok f=>av (Mo Z) A (pure ()) (λz kj=>Q kj) E s'|.error e=>cameBackBy (Mo Z) A env E e s') fN:=
   vR (λx r=>r.mono x) (f:=AN<|I8 C M t2 [] te) E3.lp E3.loc hD hDw (ifs:=[]) (target:=target2) rfl (gI rfl) rfl ae E3.free
    (λx a Jp oA kZ r hf hl g fx ρ s o v E Q G hD' hr rv h=>Ax (cs:=[]) (ifs:=[]) hN2 trivial he V hA hD hf (ah (wF hl) hlim) G hD' hr rv h) (sQ.symm.trans<|hz2 a) ((Sx sH).symm▸E3.between) (hr.mono<|cy.trans eC)
    λqy pZ qw kj QU kD sY C0 sj n7=>ab<|h qy pZ qw kj QU ((cy.trans eC).trans kD) (λb hb hb'=>(sY b hb hb').trans<|(l8 b hb).trans<|fA b hb) C0 sj n7
  exact ou rfl (gI rfl) rfl h0 λE=>E3.lp.self 0 _ _ _ E3.st h0
theorem J1{scope:Scope}(hI:nt Z n ns C M ik its iter)(hN:sE Z n scope.names t target)(hN2:sE Z n scope.names t2 target2)(hI2:nt Z n scope.names C M .over [te2] iter2)
  (he:fK Z n scope.names C M te elt) (hok:pS ns scope.names=true) (hk:scope.kind=.function) (hs:fJ iter=true) (hs2:fJ iter2=true) (hns:c.ns=ns):
  fK Z n ns C M (.Ez (jV c scope) te t ik its t2 te2) (.ListComp elt [⟨target,iter,[],0⟩,⟨target2,iter2,[],0⟩] scope pos):=by
 intro σ bk v ev env A g fx ρ s V hA G E Q P
 rw[arm_eval_ListComp]
 exact aw ev λp e1 ev=>aw ev λitems e2 ev=>r7 ev λhok2 ev=>aw ev λz e3 ev=>j8 ev λhl ev=>
  Ex hI hN (λy y y=>CA _ _ _ _ _ _ _ _ _ _) (MQ hN hN2 hI2 he hs2 hA) hok hk hs hns e1 e2 hok2 e3 (fX hl) ev V hA G (m8.of P)
end
section
variable{Z:dM}{C:bT}{M:b6}{K:Frag}{n:Nat}{ns:bX}{c:TC}{st st':List SO}{g g' fx:FH}{ρ bQ:eE}{s:Shared}{A:bD}{σ bk:bo}{env:Env}{E:Value->Shared->Prop}{i:Nat}
def EN(Z:dM)(a:List SV×List SV)(o:Obj)(g:FH)(ρ:eE):Prop:=∃es n,o=dictOf es n/\ei Z g [] a.1 (es.map (·.key))/\ei Z g ρ a.2 (es.map (·.val))/\∃ds,pW Z.w a.1 ds<|es.map (·.hash)
theorem EN.mono(x:ey g ρ g' bQ)(h:EN Z a o g ρ):EN Z a o g' bQ:=h.imp λz=>aD λz=>aH<|iL (λr=>r.mono x.nil)<|cP λr=>r.mono x
def H9(f:SV->bo->Option (SV×SV×bo))(x:SV)(a:List SV×List SV)(σ:bo):Option ((List SV×List SV)×bo):=(f x σ).bind λq=>(cW q.1 a.1).bind λo=>(gd (q.1.free&&decide (a.1.length<=eA)) ()).bind λz=>some ((wi o a.1 q.1,wh o a.2 q.2.1),q.2.2)
theorem Cm:∀{ks vs:List SV}{τ:bo}{z:List SV×List SV×bo},uR f ks vs items τ=some z->pU (H9 f) (ks,vs) items τ=some ((z.1,z.2.1),z.2.2):=by
 induction items with
 |nil=>intro _ _ _ z h;exact congrArg (λz:List SV×List SV×bo=>some ((z.1,z.2.1),z.2.2))<|aa h
 |cons x r ih=>intro ks vs τ z h;exact aw h λq h1 h=>aw h λo h2 h=>r7 h λh3 h=>by show((f x τ).bind _).bind _=_;rw[h1];show((cW q.1 ks).bind _).bind _=_;rw[h2];rw[h3];exact ih h
def I9(C:bT)(M:b6)(t:TN)(k v:Mine.E)(x:SV)(τ:bo):Option (SV×SV×bo):=(dm t x τ).bind λτ=>(cj C M k τ).bind λq=>(cj C M v q.2).map λr=>(q.1,r.1,r.2)
theorem aaY{P:Prop}(h:H9 (I9 C M t tk tv) x a τ=some (oA,kZ))(k:∀E0 kv Jp vv o,dm t x τ=some E0->cj C M tk E0=some (kv,Jp)->cj C M tv Jp=some (vv,kZ)->cW kv a.1=some o->kv.free=true->a.1.length<=eA->(wi o a.1 kv,wh o a.2 vv)=oA->P):P:=
 aw h λq h0 h=>aw h λo h4 h=>r7 h λh5 h=>eI (aa h) λe1 e2=>aw h0 λE0 h1 h0=>aw h0 λp h2 h0=>dj h0 λr h3 e=>by subst e;exact k E0 p.1 p.2 r.1 o h1 h2 (e2▸h3) h4 (cI h5 λa z=>a) (cI h5 λz b=>fX b) e1
theorem SI(S:b7 Z st g fx ρ s)(hD:fx D=some o)(hno:D≠sysModules)(hr:EN Z a o g ρ)(rk:RV Z g ρ k kv)(rx:RV Z g ρ x y)(hf:cW k a.1=some r)(hfree:k.free=true)(hl:a.1.length<=eA)(hu:A.units+64<cLine)
  (h:∀g' o' s',ey g ρ g' ρ->b7 Z st g' (i9 fx D o') ρ s'->EN Z (wi r a.1 k,wh r a.2 x) o' g' ρ->Q () s'):av (Mo Z) A (Md D kv y) Q E s:=by
 refine RK hr λes m zz2 r1 r2 r3=>?_
 subst zz2
 have X:hV Z g ρ s D a.1 a.2 es m:=⟨S.fix _ _ hD,r1,r2,r3,hno⟩
 refine pR S.keep X hf rk hu hl λd h' t n' h1 ho hs=>?_
 have S':=S.G9 t hD (λb ob hb e=>(hs.2 b hb).trans e) ho
 have Y:=BR (s':={s with heap:=h',toks:=t}) (g':=eG Z g s.heap h' λz=>false) a7 X hf h1 rk hfree (rx.mono a7) ho
 exact h _ _ _ a7 S' ⟨_,_,rfl,Y.keys,Y.vals,Y.ok⟩
theorem JP(hN:sE Z n ns t target)(hkx:fK Z n ns C M tk kx)(hvx:fK Z n ns C M tv vx)(V:d8 ns env)(hA:t6 n A)(hDl:D≠env.locals)(hno:D≠sysModules)
  (hf:H9 (I9 C M t tk tv) x a τ=some (oA,kZ)) {Q:Shared->Prop} (G:dE Z ns env τ g fx ρ s) (hD:fx D=some o) (hr:EN Z a o g ρ) (rv:RV Z g ρ x v)
  (h:∀g' fx' bQ s' o',ey g ρ g' bQ->(∀b,b≠env.locals->b≠D->fx' b=fx b)->fx' D=some o'->EN Z oA o' g' bQ->dE Z ns env kZ g' fx' bQ s'->Q s'):
  av (Mo Z) A (qz target env v) (λz dJ=>av (Mo Z) A (uf [] env) (λok fN=>if ok=true then av (Mo Z) A (do let k<-eval kx env;let v<-k7 [k]<|eval vx env;ma kpos;k7 [k,v] (Md D k v)) (λz kj=>Q kj) E fN else Q fN) E dJ) E s:=
 aaY hf λE0 kv Jp vv q h1 h2 h3 h4 h5 h6 ea=>hN.1 _ _ _ h1 _ A g fx ρ s v V hA G rv _ _ λiN iV ir fN eC l8 jI=>DP (by
  subst ea;rw[if_pos rfl];refine aX<|hkx _ _ _ h2 _ A iN iV ir fN V hA jI _ _ λqy pZ qw kj kv' kD sY n7 sj=>aX<|aR<|hvx _ _ _ h3 _ A qy pZ qw kj V hA n7 _ _ λC1 HK xw u9 vv' vc Mb Js Ww=>aX<|dF<|aR ?_;have F:=λb hb=>(Mb b hb).trans<|(sY b hb).trans<|l8 b hb;exact SI Js.fM ((F D hDl).trans hD) hno (hr.mono<|(eC.trans kD).trans vc) (sj.mono vc) Ww h4 h5 h6 (by have:=hA.u;exact ada this) λL8 afW QT Jr af4 Jq=>
   h L8 _ xw QT afW (((eC.trans kD).trans vc).trans Jr) (λb hb hb'=>(cH hb').trans<|F b hb) dg Jq ⟨af4,Ee (Js.AS.mono Jr) hDl⟩)
theorem PW{τ:bo}(WC:rB Z e9 el env ns σ.loc fO)(X:ey e9 el g ρ)(F:∀b,b≠Cc->b≠D->fx b=fO b)(hD:fx D=some o)(hr:EN Z a o g ρ)(S:b7 Z τ.st g fx ρ s)(hfr:b8 a.2=true)(hno:D≠sysModules)
  (hLC:env.locals≠Cc) (hfD:fO D=none):∃g',ey e9 el g' ρ/\dE Z ns env {σ with st:=τ.st} g' (ot fx D) ρ s/\(∀b,b≠Cc->ot fx D b=fO b)/\RV Z g' ρ (.hH a.1 a.2) (.ref D):=by
 refine RK hr λes m zz2 q1 q2 q3=>?_
 subst zz2
 have S':b7 Z τ.st g (i9 (ot fx D) D<|dictOf es m) ρ s:=by rw[DB hD];exact S
 have gD:=S'.tY _ _ dg
 have kD:ey g ρ (i9 g D<|dictOf es m) ρ:=⟨λb ob e=>(cH λz:b=D=>cb ob<|(z▸e).symm.trans gD).trans e,[],(bj _).symm⟩
 have key:=vQ F hfD
 refine jG WC.is λoo mm h1 h2 h3=>⟨_,X.trans kD,⟨S'.settle oU,⟨oo,mm,(key _ hLC).trans h1,h2,h3.mono<|X.trans kD⟩⟩,key,_,es,m,rfl,dg,q1.mono kD.nil,(q2.free hfr).mono kD.nil,q3,hno⟩
theorem J0(hm:∃o,Z.base sysModules=some o){scope:Scope}(hI:nt Z n ns C M .over [te] iter)(hN:sE Z n scope.names t target)(hkx:fK Z n scope.names C M tk kx)(hvx:fK Z n scope.names C M tv vx)
  (hok:pS ns scope.names=true) (hk:scope.kind=.function) (hs:fJ iter=true) (hns:c.ns=ns):fK Z n ns C M (.AX (jV c scope) tk tv t te) (.DictComp kx vx [⟨target,iter,[],0⟩] scope pos):=
 λσ bk v ev env A g fx ρ s V hA G E Q P=>aw ev λp e1 ev=>aw ev λitems e2 ev=>aw ev λz e3 ev=>j8 ev λhfr ev=>eI ev λev1 ev2=>by
  subst ev1 ev2;have O:=mw.of hok;refine dS (zf (yY O G) O.nodup) λcl hcl1 hcl2=>?_;have e4:=Cm (f:=I9 C M t tk tv) e3;rw[arm_eval_DictComp];refine Jv rfl (pP hs) hcl1 hk (λx hx hl=>xT O.nodup (by rw[<-hl];exact hx))<|hI σ _ _ _ (PG e1) e2 env A g fx ρ s V hA G E _ λbu a8 aQ aC I wr St bC b5 l7=>?_;refine ej<|Q2 (λx hx=>?_) (by simp) (λmX hn kC=>?_) hk
  ·rcases O.kinds x hx with h|h|⟨h,_⟩<;>rw[h]<;>decide
  ·obtain⟨fE,dB,cy,Jt,hCw,hDw,hDC,hfD,hfC,hLD,hLC⟩:=AZ l7 O hns hcl2 (oF:={cls:=.type "dict",data:=.dict #[]}) rfl (aC.toks+0) hn kC;have hno:=uF l7.good.fM hm<|bL _;have V':d8 scope.names (sm scope cl (aC.heap.push {cls:=.type "dict",data:=.dict #[]}).objs.size env):=zd V O hk;have h0:km (Mo Z) A (.compLoop (.DictComp kx vx [⟨target,iter,[],0⟩] scope pos) 0 (.ref I) (.ref aC.heap.objs.size)<|sm scope cl (aC.heap.push {cls:=.type "dict",data:=.dict #[]}).objs.size env)
     (Ff (Mo Z) A E none Q (.ref aC.heap.objs.size) (aC.heap.push {cls:=.type "dict",data:=.dict #[]}).objs.size) {aC with heap:=mX,toks:=aC.toks+0}:=
    vR (λx r=>r.mono x) (f:=H9<|I9 C M t tk tv) l7.lp hCw hDC hDw rfl (gI rfl) (compTurn_dict kx vx target iter [] scope pos _ _ _) ae l7.free
     (λx a Jp oA kZ r hf hl g fx ρ s o v E Q G hD hr rv h=>JP hN hkx hvx V' hA hDC hno hf G hD hr rv h) e4 Jt ⟨[],0,rfl,rfl,rfl,[],.nil _⟩
     λiN iV ir fN aaf eC l8 sH pe jI=>by refine jG jI.AS.is λoC mC hC1 hC2 y=>LK (PW l7.frame eC l8 sH pe jI.fM hfr hno hLC hfD) λqy kD n7 sY sj=>?_;exact m8.of P qy (ot iV aC.heap.objs.size) ir fN aC.heap.objs.size _ oC mC (bC.trans kD) (λb hb hb'=>(sY b hb').trans<|b5 b hb) ((rp<|gp hDC).trans hC1) hC2 hLC ((b5 _<|gp hLC).symm.trans hfC) n7 sj
   exact ou rfl (gI rfl) rfl h0 λE=>l7.lp.self 0 _ _ _ Jt.st h0
end
section
variable{Z:dM}{C:bT}{M:b6}{K:Frag}{n:Nat}{ns:bX}{c:TC}{st st':List SO}{g g' fx:FH}{ρ bQ:eE}{s:Shared}{A:bD}{σ bk:bo}{env:Env}{E:Value->Shared->Prop}{i:Nat}
theorem AR{prog:Program}{w:cU}{args:List Value}{S:PySem.Spec}{Q:Value->Shared->Prop}(hct:JA "frozenset" ⟨args,[]⟩=pure ())(hcn:Bb "frozenset.__new__" ⟨.type "frozenset"::args,[]⟩=pure ())
  (hok:∀obj,m4 "object.__init__" ⟨obj::args,[]⟩) (gm:MeetsIn prog w (eY.«frozenset.__new__» ⟨.type "frozenset"::args,[]⟩) S) (h:S A.in1 (wants (λobj aC=>aC.TypeIs obj "frozenset"/\Q obj aC) E) s):
  av (model prog w) A (call (.type "frozenset") args) Q E s:=by
 refine callType_codes FF.mW hct F.entry_object_init (Q9 FF.mW.plain FF.K6<|nH hcn<|gm A.in1 _ s h) λobj aC hq=>⟨hq.1,hok obj,object_init_meets FF.mW.init.lookup FF.mW.made (by decide) prog w A.in1 _ aC ⟨hq.1,rfl,hq.2⟩⟩
theorem T8(hh:A.handled=none)(S:b7 Z st g fx ρ s){vs:List SV}{ys:List Value}(e:builtin st .dx vs=some v)(r:ei Z g ρ vs ys):bE Z A (call (.type "frozenset") ys) st v g fx ρ s:=by
 cases vs with
 |nil=>obtain rfl:=aa e;obtain rfl:=r;refine .Iv S (p:=λz=>False) mB (by simp) rfl λE Q h=>AR FF.FT FF.Kw W.oi_args Pg λh' hk F=>⟨F.typeIs,h _ s.toks hk F⟩
 |cons a r0=>
  exact r7 e λh0 e=>aw e λis h1 e=>j8 e λhok er=>aw h1 λxs h3 h4=>by
   obtain rfl:=bt.mp h0;subst er;refine jG r λy ys' zz2 r1 zz4=>?_;subst zz2;subst zz4;refine qv (om S h3 r1) λl items k zz3 ho rs=>?_;subst zz3;refine .Iv S (lC is) (λj=>j0.symm) hok λE Q h=>AR (FF.FQ _) (FF.Kv _) (λobj=>F.args_object_init_2 obj _) (Pf)
    ⟨hh,⟨_,ho,rfl,k,rfl⟩,yS h4 rs,λj hj=>(mS.mp hok).1 j<|j0.mpr hj,λh' tk hk F=>⟨F.typeIs,h _ tk hk F⟩⟩
theorem F8{ns:List Int}(h64:ns.length<64)
  (hc:∀(A:bD)(E:Value->Shared->Prop)(R:List Value->Shared->Prop),A.handled=none->(∀vs h' tk,ml vs ns->(∀b o,s.heap.get? b=some o->h'.get? b=some o)->R vs {s with heap:=h',toks:=tk})->av (model prog w) A (collect x) R E s) (hh:A.handled=none)
  (h:∀(D:Addr)(out:Array Value)(n:Nat) h' tk,s.heap.get? D=none->(∀b o,s.heap.get? b=some o->h'.get? b=some o)->h'.get? D=some (nO out n)->ml out.toList (iX ns)->Q (.ref D) {s with heap:=h',toks:=tk}):
  av (model prog w) A (call (.builtin "sorted") [x]) Q E s:=by
 refine call_function_entry kind_sorted plain_sorted entry_sorted (args_sorted1 _)<|aJ<|ab ?_
 refine aX<|hc _ _ _ (by simp[hh]) λvs h' tk hI hk=>?_
 have hlen:=qG hI
 refine aX<|wpAny_newList ?_ (by rw[jo];exact aed h64 hlen)
 have hoL:(h'.push<|seqObj "list" vs.toArray 0).get? h'.objs.size=some (seqObj "list" vs.toArray 0):=bB _ rfl
 have hfresh:s.heap.get? h'.objs.size=none:=by
  cases q:s.heap.get? h'.objs.size with
  |none=>rfl
  |some o=>exact absurd (cg<|hk _ _ q)<|cp _
 refine aX<|aR<|bz slot_list_sort ⟨_,hoL,rfl⟩ entry_list_sort (list_sort_tree (s:={s with heap:=h'.push<|seqObj "list" vs.toArray 0,toks:=tk}) hoL hI (cG hlen▸h64) λout ns' a1 a2 a3=>⟨_,rfl,?_⟩)<|args_list_sort _
 refine fT (zW (out:=out) hoL) λn' hn'=>?_
 rw[Dr a2 a3] at a1
 refine ab ⟨_,rfl,h _ out n' _ tk hfresh (λb o e=>?_) hn' a1⟩
 exact vw (λz=>by rw[z,hfresh] at e;exact aW e)<|ar _<|hk b o e
theorem kI(S:b7 Z st g fx ρ s){ns:List Int}(h64:ns.length<64)
  (hc:∀(A:bD)(E:Value->Shared->Prop)(R:List Value->Shared->Prop),A.handled=none->(∀vs h' tk,ml vs ns->(∀b o,s.heap.get? b=some o->h'.get? b=some o)->R vs {s with heap:=h',toks:=tk})->av (Mo Z) A (collect x) R E s) (hh:A.handled=none):
  bE Z A (call (.builtin "sorted") [x]) st (.lst<|(iX ns).map .int) g fx ρ s:=
 .AI S λE Q h=>F8 h64 hc hh λD out n h' tk hf hk hD hi=>h h' tk _ hk<|Ts (gz S hf hD rfl (S.fresh hf).2.2) hi
theorem qS{xs:List Int}(h:xs.length<=1):iX xs=xs:=by rcases KL h with rfl|⟨x,rfl⟩<;>rfl
theorem Sq{xs:List Int}(G:SG w es t p)(hn:xs.Nodup)(hx:∀i,p i↔i∈xs)(h1:xs.length<=1):ml (es.toList.map (·.2)) xs:=by
 have hz:=G.size hn hx;have hl:=hz;rcases KL h1 with e1|⟨j,e1⟩
 ·rw[e1] at hl ⊢;rw[xO hl];exact .nil
 ·rw[e1] at hl hx ⊢;refine fT (OD hl) λe hes=>?_;obtain⟨i,tk,he,hi⟩:=G.each e (by rw[hes];exact ax ..);rw[hes,he,aE.mp<|(hx i).mp hi];exact .cons _ _ .nil
theorem ze(hc:cn="frozenset"\/cn="set"){xs:List Int}(ho:s.heap.get? a=some (zF cn es ep t))(G:SG w es t p)(hn:xs.Nodup)(hx:∀i,p i↔i∈xs)(h1:xs.length<=1)(hh:A.handled=none)
  (h:∀vs h' tk,ml vs xs->(∀b o,s.heap.get? b=some o->h'.get? b=some o)->R vs {s with heap:=h',toks:=tk}):av (model prog w) A (collect<|.ref a) R E s:=by
 have hz:=G.size hn hx
 refine kdu_collect (XU hc G<|cG hz▸h1) hh ho (by rw[jo];omega) λh' tk acc hk hacc=>h _ h' tk ?_ hk
 have:acc.toList=es.toList.map (·.2):=by
  apply fC;intro i;rw[ai,bw,bw];cases q:acc[i]? with
  |some v=>exact(hacc.2 i v q).symm
  |none=>
   have:es.size<=i:=by have:=hacc.1;have h2:=Array.getElem?_eq_none_iff.mp q;exact this▸h2
   rw[iW this];rfl
 rw[this]
 exact Sq G hn hx h1
theorem As{is:List Int}{l:List Value}:l.length=is.length->(∀(i:Nat)(v:Value),l[i]? =some v->∃t:Int×Tok,is[i]? =some t.1/\v=jb t.1 t.2)->ml l is:=
 um (P:=λis l=>l.length=is.length->(∀(i:Nat) v,l[i]? =some v->∃t:Int×Tok,is[i]? =some t.1/\v=jb t.1 t.2)->ml l is) (λz z=>.nil)
  (λa is b l ih hlen hget=>by refine dS (hget 0 b rfl) λt h1 h2=>?_;obtain rfl:=aa (show some a=some t.1 from h1);subst h2;exact .cons _ _<|ih (ku hlen) λi v hv=>hget (i+1) v hv) (λz z h=>Vq h) (λz z h=>Vq h) is l
theorem XY{v:Value}(h:v.isInt kk=true):∃t,v=.int kk t:=by
 cases v with
 |int m t=>exact⟨t,congrArg (λz=>jb z t)<|beq_iff_eq.mp h⟩
 |_=>exact ae h
theorem R4{P:Prop}(e:builtin st .sorted vs=some v)(k1:∀xs,vs=[.dx xs]->xs.length<=1->.lst (xs.map .int)=v->P)(k2:∀a xs is,vs=[a]->jy st a=some xs->jT xs=some is->is.length<64->.lst ((iX is).map .int)=v->P)
  (k3:∀a p is,vs=[a]->jk st a=some p->jT p.1=some is->is.length<64->.lst ((iX is).map .int)=v->P):P:=aw e λa ha e=>kK ha λha=>by
 cases hf:wX a with
 |true=>rw[hf] at e;exact aw e λxs hx e=>j8 e λhl e=>sf hx λhx=>k1 xs (ha.trans<|congrArg (λz=>[z]) hx) (fX hl) e
 |false=>
  rw[hf] at e;exact aw e λis hi e=>j8 e λhl e=>aw hi λxs hx hi=>by
   cases q:jy st a with
   |some ys=>rw[q] at hx;exact k2 a xs is ha (q.trans hx) hi (fX hl) e
   |none=>rw[q] at hx;exact dj hx λp hp hq=>k3 a p is ha hp (hq▸hi) (fX hl) e
theorem JV(hh:A.handled=none)(S:b7 Z st g fx ρ s)(e:builtin st .sorted vs=some v)(r:ei Z g ρ vs ys):bE Z A (call (.builtin "sorted") ys) st v g fx ρ s:=
 R4 e
  (λxs hv hl er=>by subst hv er;obtain⟨y,ys',rfl,⟨D,es,k,t,rfl,ho,G⟩,rfl⟩:=r;have:=kI S (ac7 hl) (λA E R hA h=>ze (.inl rfl) (S.keep _ _ ho) G.g (kM G.sorted) (λz=>QK) hl hA h) hh;rwa[qS hl] at this)
  (λa xs is hv hx h1 h64 er=>by subst hv er;refine jG r λy ys' zz2 r1 zz4=>?_;subst zz2;subst zz4;refine qv (om S hx r1) λl items k zz3 ho rs=>?_;subst zz3;have hI:=yS h1 rs;refine kI S h64 (λA E R hA h=>?_) hh;refine collect_list (vs:=items.toList) ⟨_,ho,rfl,k,by simp⟩ ?_ (by rw[qG hI,jo];exact ah8 h64);refine h _ _ s.toks hI λb o e=>?_;rw[qu _ _<|gp<|bZ<|cg e];exact cx b o e)
  (λa p is hv hd h1 h64 er=>by
   subst hv er;refine jG r λy ys' zz2 r1 zz4=>?_;subst zz2;subst zz4;refine uk (vP S hd r1) λD es k zz3 X=>?_;subst zz3;refine qe (wy X h1) λq1 q2 q3=>kI S h64 (λA E R hA h=>?_) hh;refine kdu_collect (kdl_dict<|vF X) hA q1 (by rw[q2,jo];exact aec h64 q2 q3) λh' tk acc hk hacc=>h _ h' tk (As (by rw[aM,hacc.1,q2]) λi v hv=>?_) hk;have hz:(is.zip<|es.map (·.val)).map (·.1)=is:=p6 (by rw[ag,q3];exact aG _);rw[bw] at hv;refine rJ (hacc.2 i v hv) λkk x hkx his=>?_;have hi:is[i]? =some kk:=by rw[<-hz,ai,hkx];rfl
   refine fT (XY his) λtk' zz1=>?_;subst zz1;exact⟨(kk,tk'),hi,rfl⟩)
end
section
variable{Z:dM}{C:bT}{M:b6}{K:Frag}{n:Nat}{ns:bX}{c:TC}{st st':List SO}{g g' fx:FH}{ρ bQ:eE}{s:Shared}{A:bD}{σ bk:bo}{env:Env}{E:Value->Shared->Prop}{i:Nat}
noncomputable def Hn(k:Bool)(nm:String):Value:=if k then .builtin nm else .type nm
theorem GN{P:Prop}(h:yL f=some x)(k:∀p,f=.Name x p->P):P:=by
 cases f with
 |Name y p=>exact k p<|congrArg (λz=>Expr.Name z p)<|aa h
 |_=>exact aW h
theorem ahO(h:bOf v=some (k,nm)):v=Hn k nm:=by cases v<;>first|exact aW h|exact eI (aa h) λe1 e2=>by subst e1 e2;rfl
theorem sT(h:cu c f=some (k,nm)):∃x p i,f=.Name x p/\fo x c.ns 0=some (i,.globalImplicit)/\c.gl x=some (Hn k nm):=
 aw h λx hx h=>aw h λp hp h=>aw h λv hv h=>GN hx λq hq=>Pa hv λhk hg=>⟨x,q,p.1,hq,hp.trans<|congrArg some<|Vo rfl hk,hg.trans<|congrArg some<|ahO h⟩
theorem O4:vY Z h (Hn k nm):=by
 cases k
 ·exact vY.type
 ·exact vY.builtin
theorem PF(T:jE Z c)(hc:c.ns=ns)(hb:cu c f=some (k,nm))(V:d8 ns env)(G:dE Z ns env σ g fx ρ s)(h:Q (Hn k nm) s):av (Mo Z) A (eval f env) Q E s:=by refine qv (sT hb) λx p i zz3 hp hg=>?_;subst zz3;subst hc;exact lV T V G hp hg h
theorem AJ(hb:cu c f=some (k,nm)):uh f=true:=by refine uk (sT hb) λx p i zz3 z=>?_;subst zz3;rfl
theorem zk(T:jE Z c)(hc:c.ns=ns)(hb:cu c f=some (k,nm)){args:List ao}(hs:args.all bP=true)(he:rt Z n ns C M ts args)(e1:iq C M ts σ=some (vs,aq))
  (V:d8 ns env) (hA:t6 n A) (G:dE Z ns env σ g fx ρ s)
  (h:∀bu a8 aQ aC ys,ey g ρ bu aQ->(∀b,b≠env.locals->a8 b=fx b)->dE Z ns env aq bu a8 aQ aC->ei Z bu aQ vs ys->av (Mo Z) A (call (Hn k nm) ys) Q E aC):
  av (Mo Z) A (eval (.Call f args [] pos) env) Q E s:=by
 rw[vN<|AJ hb]
 refine aX<|PF T hc hb V G ?_
 refine kQ hs<|he σ _ _ e1 env A g fx ρ s V hA G pos E _ λbu a8 aQ aC ys bC b5 bG cD=>⟨O4,?_⟩
 exact h bu a8 aQ aC ys bC b5 bG cD
theorem Ho(hh:A.handled=none)(S:b7 Z st g fx ρ s)(hb:yD b=true)(e:builtin st b vs=some v)(r:ei Z g ρ vs ys):bE Z A (call (Hn (FA b).1 (FA b).2) ys) st v g fx ρ s:=by
 cases b with
 |len=>exact aw e λa ha e=>aw e λxs hx e=>j8 e λhl er=>kK ha λha=>by subst ha er;refine jG r λy ys' zz2 r1 zz4=>?_;subst zz2;subst zz4;exact XJ S hx (fX hl) r1
 |tuple=>exact aw e λa ha e=>aw e λxs hx e=>j8 e λhl er=>kK ha λha=>by subst ha er;refine jG r λy ys' zz2 r1 zz4=>?_;subst zz2;subst zz4;exact MR S hx (fX hl) r1
 |sorted=>exact JV hh S e r
 |dx=>exact T8 hh S e r
 |int=>exact aw e λa ha e'=>kK ha λha=>by subst ha;refine jG r λy ys' zz2 r1 zz4=>?_;subst zz2;subst zz4;exact X0 S e' r1
 |max=>exact aw e λa ha e=>GW e λi j k h1 h2 h3 er=>Bx ha λha=>by rw[h1,h2] at ha;obtain rfl:=aa h3;subst ha er;obtain⟨y,ys',rfl,r1,y2,ys2,rfl,r2,rfl⟩:=r;exact(Ov hh S r1 r2).1
 |min=>exact aw e λa ha e=>GW e λi j k h1 h2 h3 er=>Bx ha λha=>by rw[h1,h2] at ha;obtain rfl:=aa h3;subst ha er;obtain⟨y,ys',rfl,r1,y2,ys2,rfl,r2,rfl⟩:=r;exact(Ov hh S r1 r2).2
 |_=>exact ae hb
theorem Qk(h:yD b=true):zj b vs σ=(builtin σ.st b vs).map (·,σ):=by cases b<;>first|rfl|exact ae h
theorem Nd(T:jE Z c)(hc:c.ns=ns)(hpl:yD b=true)(hb:cu c f=some (FA b)){args:List ao}(hs:args.all bP=true)(he:rt Z n ns C M ts args):fK Z n ns C M (.bi b ts) (.Call f args [] pos):=
 λσ bk v ev env A g fx ρ s V hA G E Q P=>O1 ev λvs τ e1 ev=>NN ((Qk hpl).symm.trans ev) λe2 e3=>by subst e3;exact zk T hc (k:=(FA b).1) (nm:=(FA b).2) hb hs he e1 V hA G λbu a8 aQ aC ys bC b5 bG cD=>(Ho hA.handled bG.fM hpl e2 cD).post bG rfl rfl<|P.of bC b5
theorem yJ(S:b7 Z st g fx ρ s){h':Heap}(t':Nat)(hk:∀b o,s.heap.get? b=some o->h'.get? b=some o){n:Nat}(hn:s.heap.get? a=none)(ho:h'.get? a=some (nO vs n))(rs:ei Z g ρ xs vs.toList):
  ∃g',b7 Z (st++[.list xs]) g' fx (ρ++[(a,a)]) {s with heap:=h',toks:=t'}/\ey g ρ g' (ρ++[(a,a)])/\RV Z g' (ρ++[(a,a)]) (.h st.length) (.ref a):=
 S.SY t' hk hn (.list xs) λg' bQ x=>⟨rfl,vs,n,ho,rs.mono x⟩
theorem Qs{P:Prop}(e:alloc o σ=(v,bk))(k:.h σ.st.length=v->(⟨σ.loc,σ.st++[o]⟩:bo)=bk->P):P:=eI e k
theorem Gc(T:jE Z c)(hc:c.ns=ns)(hb:cu c f=some (false,"list")){args:List ao}(hs:args.all bP=true)(he:rt Z n ns C M ts args):fK Z n ns C M (.bi .list ts) (.Call f args [] pos):=
 λσ bk v ev env A g fx ρ s V hA G E Q P=>O1 ev λvs τ e1 ev=>aw ev λa ha ev=>aw ev λxs hx ev=>j8 ev λhl ev=>kK ha λha=>Qs ev λh1 h2=>by subst ha h1 h2;refine zk T hc hb hs he e1 V hA G λbu a8 aQ aC ys bC b5 bG cD=>jG cD λy ys' zz2 r1 zz4=>?_;subst zz2;subst zz4;refine qv (om bG.fM hx r1) λl items k zz3 ho rs=>?_;subst zz3;have hlen:items.size=xs.length:=rs.length;refine call_list_seq (hsz:=iC<|hlen▸fX hl) l (.inl rfl) ho rfl rfl λh' c' hk hD=>u6 (yJ bG.fM aC.toks hk (bL _) hD rs) λg' S' X' r'=>?_;exact(P.of bC b5) g' a8 _ _ _ X' (λz z=>rfl) (bG.with X' S' rfl) r'
theorem CK(h:bP e=true):[e].all bP=true:=by rw[List.all_cons,h];rfl
theorem Dq(hs:bP e=true)(h:av (Mo Z) A (eval e env) (λy aC=>Q [y] aC) E s):av (Mo Z) A (v7<|vg pos<|kW [e] env) Q E s:=by rw[oh hs];show av _ _ (v7<|(false,eval e env)::vg pos (kW [] env)) Q E s;unfold v7;refine aJ<|eS h (λy aC i5=>?_) λz z x=>x;refine u7 bh<|aX<|ab<|aX<|aR<|ab<|ab i5
theorem vT(T:jE Z c)(hc:c.ns=ns)(hb:cu c f=some (k,nm))(hs:bP e=true)(V:d8 ns env)(G:dE Z ns env σ g fx ρ s)
  (h:av (Mo Z) A (eval e env) (λy aC=>av (Mo Z) A (call (Hn k nm) [y]) Q E aC) E s):av (Mo Z) A (eval (.Call f [e] [] pos) env) Q E s:=by
 rw[vN<|AJ hb]
 refine aX<|PF T hc hb V G ?_
 exact kQ (CK hs)<|Dq hs<|eS h (λy aC i5=>⟨O4,i5⟩) λz z x=>x
theorem Gm{acc:Array Value}(h1:acc.size=m)(h2:∀(i:Nat)(v:Value),acc[i]? =some v->∃t,v=.int (0+(i:Int)*1) t):ml acc.toList ((ak m).map λ(i:Nat)=>(i:Int)):=by refine As (by rw[aM,h1,ag,au]) λi v hv=>?_;rw[bw] at hv;obtain⟨tt,rfl⟩:=h2 i v hv;have hi:=h1▸(zU.mp hv).1;refine⟨(i,tt),by rw[ai,bJ hi];rfl,?_⟩;congr 1;omega
theorem Uj{P:Prop}(e:iq C M [t] σ=some (vs,bk))(k:∀v,cj C M t σ=some (v,bk)->vs=[v]->P):P:=abL e λv aq xs h e2 ev=>eI (aa e2) λe3 e4=>k v (e4▸h) (by rw[<-ev,<-e3])
theorem Gb(T:jE Z c)(hc:c.ns=ns)(hb:cu c f=some (false,"list"))(hb2:cu c gf=some (false,"range"))(hs:bP a=true)(he:fK Z n ns C M t a):fK Z n ns C M (.bi .tC [t]) (.Call f [.Call gf [a] [] pos2] [] pos):=
 λσ bk v ev env A g fx ρ s V hA G E Q P=>O1 ev λvs τ e1 ev=>aw ev λx hx ev=>aw ev λm hm ev=>j8 ev λhl ev=>kK hx λhx=>iD hm λhm=>Qs ev λh1 h2=>by subst hm hx h1 h2;refine vT T hc hb rfl V G<|zk T hc hb2 (CK hs) (lE hs he oQ) e1 V hA G λbu a8 aQ aC ys bC b5 bG cD=>?_;obtain⟨y,ys',rfl,⟨t,rfl⟩,rfl⟩:=cD;have hl:=fX hl;refine call_range_1 ?_;obtain⟨hsm,hsz⟩:=Aq hl;refine call_list_range hA.handled ez hsm hsz (by simp -iota only[eA] at hl;omega) λh' tk acc' c' hk' hD hacc=>?_;have sX:=bG.fM.grow (aC.toks+1+1) (h':=aC.heap.push {cls:=.type "range",data:=.fields #[.int 0 aC.toks,.int m t,.int 1<|aC.toks+1]}) cx;have rs:=IM (Z:=Z) (g:=eG Z bu aC.heap (aC.heap.push {cls:=.type "range",data:=.fields #[.int 0 aC.toks,.int m t,.int 1<|aC.toks+1]}) λz=>false) (ρ:=aQ)<|Gm hacc.1 hacc.2;rw[jW] at rs;refine u6 (yJ sX tk hk' (bL _) hD rs) λg' S' X' r'=>(P.of bC b5) g' a8 _ _ _ (a7.trans X') (λz z=>rfl) (bG.with (a7.trans X') S' rfl) r'
theorem zZ(T:jE Z c)(hc:c.ns=ns)(hb:cu c f=some (true,"sorted"))(hb2:cu c gf=some (false,"set"))(hs:bP a=true)(he:fK Z n ns C M t a):fK Z n ns C M (.bi .kh [t]) (.Call f [.Call gf [a] [] pos2] [] pos):=
 λσ bk v ev env A g fx ρ s V hA G E Q P=>O1 ev λvs τ e1 ev=>NN ev λev e3=>aw ev λx hx ev=>aw ev λis hi ev=>j8 ev λhok er=>aw hi λxs h3 h4=>kK hx λhx=>cI hok λh1 hok=>by have er:SV.lst ((gx is).map .int)=v:=er;subst hx e3 er;refine vT T hc hb rfl V G<|zk T hc hb2 (CK hs) (lE hs he oQ) e1 V hA G λbu a8 aQ aC ys bC b5 bG cD=>?_;refine jG cD λy ys' zz2 r1 zz4=>?_;subst zz2;subst zz4;refine qv (om bG.fM h3 r1) λl items k zz3 ho rs=>?_;subst zz3;have h1:=fX h1;refine ED hA.handled ⟨_,ho,rfl,k,rfl⟩ (yS h4 rs) (λj hj=>(mS.mp hok).1 j<|j0.mpr hj) λh' tk hF hk=>uk hF λes ep t ho' G'=>?_;have sX:=bG.fM.grow tk hk;have Y:=kI sX (ac7 h1) (λA E R hA h=>ze (.inr rfl) ho' G' (kM<|lC is) (λj=>j0.symm) h1 hA h) hA.handled;rw[qS h1] at Y;exact Y.post (bG.with a7 sX rfl) rfl rfl<|(P.of bC b5).of a7 λz z=>rfl
end
section
variable{Z:dM}{C:bT}{M:b6}{K:Frag}{n:Nat}{ns:bX}{c:TC}{st st':List SO}{g g' fx:FH}{ρ bQ:eE}{s:Shared}{A:bD}{σ bk:bo}{env:Env}{E:Value->Shared->Prop}{i:Nat}
theorem yw(G:dE Z ns env σ g fx ρ s)(h:∀g' fx' bQ s' I wr St,ey g ρ g' bQ->(∀b,b≠env.locals->fx' b=fx b)->xV Z A ns env σ items tup g' fx' bQ s' I wr St->Q (.ref I) s'):tP Z A σ.st items tup g fx ρ s Q:=by intro g' h' tk I wr St X S' hfr L h0;refine jG G.AS.is λo m h1 h2 h3=>?_;have hloc:=λhm=>cb o<|(G.fM.fix _ _ h1).symm.trans<|hfr _ hm;exact h g' fx ρ _ I wr St X (λz z=>rfl) ⟨⟨S',⟨o,m,(eK hloc).trans h1,h2,h3.mono X⟩⟩,λb hb=>(G.fM.fresh<|hfr b hb).2.1,hloc,L,h0⟩
theorem Kf(hh:A.handled=none)(S:b7 Z st g fx ρ s)(e:vE v=some items)(r:RV Z g ρ v x):uj Z A (lq x) st items false g fx ρ s:=by
 cases v with
 |tup xs=>obtain rfl:=aa e;exact DC hh S r
 |lst xs=>obtain rfl:=aa e;exact DD hh S r
 |dx xs=>exact j8 e λhl er=>by subst er;exact Kg hh S (fX hl) r
 |hH ks vs=>exact dj e λis e' er=>by subst er;exact NJ hh S e' r
 |_=>exact aW e
theorem yl(he:fK Z n ns C M t e):nt Z n ns C M .over [t] e:=
 λσ bk vs items e1 e2 env A g fx ρ s V hA G E Q h=>Uj e1 λv q hv=>by subst hv;exact he σ bk v q env A g fx ρ s V hA G E _ λbu a8 aQ aC y bC b5 bG cD=>Kf hA.handled bG.fM e2 cD E Q<|yw bG λg' fx' bQ s' I wr St X F R=>h g' fx' bQ s' I wr St (bC.trans X) (λb hb=>(F b hb).trans<|b5 b hb) R
theorem Gg(T:jE Z c)(hc:c.ns=ns)(hk:ik≠.over)(hz:ik≠.zip)(hb:cu c f=some (false,Og ik)){args:List ao}(hs:args.all bP=true)(he:rt Z n ns C M ts args):nt Z n ns C M ik ts (.Call f args [] pos):=
 λσ bk vs items e1 e2 env A g fx ρ s V hA G E Q h=>zk T hc hb hs he e1 V hA G λbu a8 aQ aC ys bC b5 bG cD=>
  Ki hA.handled bG.fM hk hz e2 cD E Q (yw bG λg' fx' bQ s' I wr St X F R=>h g' fx' bQ s' I wr St (bC.trans X) (λb hb=>(F b hb).trans<|b5 b hb) R)
end
def u1.T1(Z:dM)(mg:Str->Option Value)(P:Addr):Prop:=∀h:Heap,(∀b o,Z.base b=some o->h.get? b=some o)->h.BuiltinsAt mg P
def u1.T2(Z:dM)(c:Addr)(P:Addr)(pos:Pos)(qual:Str):Prop:=∀h,Z.n9 h->(∀b o,Z.base b=some o->h.get? b=some o)->CodeHd h c P/\∃ps,h.get? P=some (pg ps)/\TriplesOk ps.toList/\(oW pos ps.toList=none\/∃c',oW pos ps.toList=some (.ref c')/\Z.lQ h c' qual)
def u1.T3(Z:dM)(c:Addr)(P:Addr)(pos:Pos)(qual:Str):Prop:=∀h h' ps c',Z.n9 h->h.get? P=some (pg ps)->oW pos ps.toList=none->(∀b o,b≠P->h.get? b=some o->h'.get? b=some o)->h'.get? P=some (pg<|ps++#[gV pos.line,gV pos.col,.ref c'])->
  Z.n9 h'/\∀C3 q,Z.lQ h' C3 q->Z.lQ h C3 q\/(C3=c'/\q=qual)
structure u1(Z:dM)(mg:Str->Option Value)(c P:Addr)(pos:Pos)(qual:Str):Prop where
 tab:Z.tab P=true
 ns:∃o,Z.base cE=some o/\tX o mg
 bi:u1.T1 Z mg P
 ne:cE≠P
 code:u1.T2 Z c P pos qual
 grow:u1.T3 Z c P pos qual
section
variable{Z:dM}{C:bT}{M:b6}{K:Frag}{n:Nat}{ns:bX}{c:TC}{st st':List SO}{g g' fx:FH}{ρ bQ:eE}{s:Shared}{A:bD}{σ bk:bo}{env:Env}{E:Value->Shared->Prop}{i:Nat}{fe:Env->Prop}
theorem b7.Xa(S:b7 Z st g fx ρ s)(hP:Z.tab P=true){h':Heap}(t':Nat)(hk:∀b o,b≠P->s.heap.get? b=some o->h'.get? b=some o)(ht:Z.n9 h')
  (hc:∀c q,Z.lQ h' c q->Z.lQ s.heap c q\/(s.heap.get? c=none/\∃o vs t,h'.get? c=some o/\o.data=.fields vs/\vs[1]? =some (.str q t))):
  b7 Z st (eG Z g s.heap h' λy=>false) fx ρ {s with heap:=h',toks:=t'}:=by
 have gP:=(S.hW P hP).1
 have xP:=(S.hW P hP).2
 have nP:∀b ob,g b=some ob->b≠P:=λb ob e z=>cb ob<|(z▸e).symm.trans gP
 refine⟨λb ob e=>?_,λb ob e=>hk b ob (λz=>cb ob<|(z▸e).symm.trans xP)<|S.fix b ob e,S.len,λk so p hso hp=>?_,S.uniq,λk so p x hso hl hp hx=>?_,λb o e=>cv<|S.top b o e,ht,λb hb=>?_,λb ob e=>dc (S.fix b ob e)<|S.tY b ob e,S.same,λcc q hcq=>?_⟩
 ·rcases lU e with q|q
  ·exact hk b ob (nP _ _ q)<|S.keep _ _ q
  ·exact q.2.2.2
 ·cases hl:so.live with
  |true=>exact(S.objs k so p hso hp).mono a7 λb ob hb e=>hk b ob (λz=>bh<|(z▸(S.off k so p b hso hl hp hb).2.2).symm.trans hP) e
  |false=>rw[EO hl];trivial
 ·refine qe (S.off k so p x hso hl hp hx) λq1 q2 q3=>?_;obtain⟨ob,e⟩:=S.jU hso hl hp hx;exact⟨dc e q1,q2,q3⟩
 ·obtain⟨ob,e⟩:=S.rL hb;exact⟨dc e (S.hW b hb).1,(S.hW b hb).2⟩
 ·rcases hc cc q hcq with h|⟨hn,o,vs,t,h1,h2,h3⟩
  ·refine uk (S.codes cc q h) λo vs t h1 h2=>QM o vs t (cv h1) h2
  ·exact Z2 o vs t (gz S hn h1 rfl (S.fresh hn).2.2) h2 h3
theorem Lh{env:Env}{addr:Str->Addr}(f:Str×cF->List (Str×Addr)->Al (ForInStep<|List<|Str×Addr))(hf:∀n k cs,f (n,k) cs=if(k==c8)=true then do let a<-Bc env n;pure (eh<|(n,a)::cs) else pure (eh cs))(names:bX):∀(cs:List (Str×Addr)),(∀p∈names,p.2=.free->env.cells.lookup p.1=some (addr p.1))->forIn names cs f=pure (((names.filter λp=>p.2==.free).map λp=>(p.1,addr p.1)).reverse++cs):=by
 induction names with
 |nil=>intro cs _;rw[iK];rfl
 |cons pq r ih=>
  obtain⟨n,k⟩:=pq;intro cs h;rw[cA,hf];have h':=λp hp=>h p<|az _ hp;by_cases hk:k=.free
  ·subst hk;have ha:=h _ ax rfl;rw[if_pos<|by simp];have:Bc env n=pure (addr n):=by unfold Bc;rw[ha]
   rw[this];show forIn r ((n,addr n)::cs) f=_;rw[ih _ h'];simp
  ·rw[if_neg<|by simpa using hk];show forIn r cs f=_;rw[ih _ h'];have:(k==c8)=false:=by simpa using hk
   simp[this]
theorem EA{scope:Scope}{env:Env}(h:pK scope.names=some x)(ha:env.cells.lookup x=some a):closureFor scope env=pure [(x,a)]:=by
 exact dj h λp hp e=>kK hp λhp=>by
  subst e;show(forIn scope.names [] _>>=λcs=>pure cs)=_;have hmem:∀q∈scope.names,q.2=.free->q=p:=λq hq hk=>aE.mp (hp▸mR.mpr ⟨hq,by rw[hk];rfl⟩);have:=Lh (addr:=λz=>a) (λx cs=>match x with
  |(name,kind)=>if(kind==c8)=true then do let a<-Bc env name;pure (eh<|(name,a)::cs) else pure (eh cs)) (λz z z=>rfl) scope.names [] (λq hq hk=>by rw[hmem q hq hk];exact ha)
  rw[hp] at this;have e2:=this;rw[e2];rfl
def tM.T1(Z:dM)(mg:Str->Option Value)(k:Nat)(fe:Env->Prop)(name:Str)(pos:Pos):Prop:=∀env ni,fe env->Z.nest k=some ni->∃c P,env.code=.ref c/\u1 Z mg c P pos ni.qual/\env.qual++name=ni.qual
structure tM(Z:dM)(mg:Str->Option Value)(k:Nat)(fe:Env->Prop)(name:Str)(params:fh)(body:List Stmt)(scope:Scope)(pos:Pos)(x:Str):Prop where
 nest:∃ni,Z.nest k=some ni/\ni.params=params/\ni.body=body/\ni.scope=scope/\ni.free=[x]
 defaults:params.defaults=[]
 kwdefaults:params.kw_defaults=[]
 ann:∀env,annTrees params none env=[]
 env:tM.T1 Z mg k fe name pos
theorem uP{h:Heap}(q:h.objs.size<=a):h.get? a=none:=by
 cases e:h.get? a with
 |none=>rfl
 |some o=>exact absurd (cg e)<|vk.mpr q
theorem Te(h:Ox lv=some k):lv=.cell k:=by
 cases lv with
 |cell j=>exact congrArg LV.cell<|aa h
 |_=>exact aW h
theorem acC{i k j:Nat}{P:Prop}(ev:kB C M (.defn i k [j]) σ=some (fl,bk))(f:∀h,σ.loc[j]? =some (.cell h)->iy i (.LR k [h]) σ=some bk->fl=.next->P):P:=
 aw ev λhs hm ev=>dj ev λτ h2 e=>eI e λe1 e2=>by rw[List.mapM_cons,List.mapM_nil] at hm;exact aw hm λh h1 hm=>aw h1 λlv h3 h4=>by obtain rfl:=Te h4;obtain rfl:[h]=hs:=aa hm;exact f h h3 (e2▸h2) e1.symm
theorem J4{mg:Str->Option Value}(N:tM Z mg d fe name params body scope pos x)(hp:fo name ns 0=some (k,kn))(hkn:kn=.local\/kn=.cell)
  (hx:fo x ns 0=some (j,kx)) (hkx:kx=.cell\/kx=.free) (hone:pK scope.names=some x):nr Z n ns C M fe (.defn k d [j]) (.FunctionDef name params body [] none [] scope none name pos):=
 λσ bk fl ev env A g fx ρ s V hfe hA G E Q P=>acC ev λcc h1 e2 er=>by
  subst er;refine jG G.AS.is λoL mL hL hO L=>?_;obtain⟨_,p,h2,h3⟩:=B9 L (iz hx).1 (.inr hkx) h1;refine x15 N.nest λni hn1 hn2 hn3 hn4 hn5=>jG (N.env env ni hfe hn1) λc Pp hcode T hq=>?_;have hqn:qualnameIn env name name=ni.qual:=by unfold qualnameIn;have:=hkn.imp (λq=>V.loc _ (by rw[<-q];exact(iz hp).2)) (λq=>V.cell _ (by rw[<-q];exact(iz hp).2));rcases this with h|h<;>(rw[h];exact hq)
  have hcl:=EA hone h3;refine dS T.ns λog hog ng=>?_;have hgn:=ng.ns<|G.fM.fy _ _ hog;obtain⟨hHd,ps,hps,htr,hcase⟩:=T.code _ G.fM.tabs G.fM.fy;refine nestDef_K N.defaults N.kwdefaults (N.ann env) ?_;rw[hqn];have fin:∀{bu:FH}{aC:Shared}{a c':Addr}{ctv doc pm:Value},ey g ρ bu ρ->b7 Z σ.st bu fx ρ aC->bu a=some (fnMade name ni.qual params body scope [(x,p.1)] doc pm c' ctv)->(∃oc vs t,bu c'=some oc/\oc.data=.fields vs/\vs[1]? =some (.str ni.qual t))->
    av (Mo Z) A (storeName env name<|.ref a) (λz s''=>Q .next s'') E aC:=by
   intro bu aC a c' ctv doc pm bC n6 ha ⟨oc,vs,t,q1,q2,q3⟩
   have r:RV Z bu ρ (.LR d [cc]) (.ref a):=⟨a,[p.1],rfl,by simp[h2],_,ni,c',oc,vs,t,ha,hn1,rfl,hn2.symm,by rw[hn3],hn4.symm,rfl,rfl,rfl,rfl,rfl,by rw[hn5];rfl,rfl,q1,q2,q3⟩
   exact lB hp hkn e2 V (G.with bC n6 rfl) r λfE Wx dJ cy dD=>P fE _ ρ dJ _ (bC.trans cy) (λb hb=>cH hb) dD rfl
  rcases hcase with hnone|⟨c',hsome,hco⟩
  ·refine makeFunction_K hcl V.globals hgn hcode hHd hps htr hnone T.ne (T.bi _ G.fM.fy) λc' ctv doc h' tk hx' hge hlt hcc htb=>x44 hcc λC3 oc vs t e4 hoc hd hv=>?_;obtain rfl:=rE e4;have hk:∀b o,b≠Pp->s.heap.get? b=some o->(h'.push<|fnMade name ni.qual params body scope [(x,p.1)] doc ((mg "__name__").getD .none) c' ctv).get? b=some o:=λb o hb e=>ar _<|hx' b o hb e;have hcn:=uP hge;have hfn:=uP<|ah hge<|be hlt;obtain⟨ht',hc'⟩:=T.grow s.heap _ ps c' G.fM.tabs hps hnone hk<|ar _ htb;have n6:=G.fM.Xa T.tab tk hk ht' λC3 q hq=>(hc' C3 q hq).imp id λee=>by obtain⟨rfl,rfl⟩:=ee;exact⟨hcn,oc,vs,t,ar _ hoc,hd,hv⟩
   exact fin a7 n6 (gz G.fM hfn ez rfl (G.fM.fresh hfn).2.2) ⟨oc,vs,t,gz G.fM hcn (ar _ hoc) rfl (G.fM.fresh hcn).2.2,hd,hv⟩
  ·refine makeFunction_hit hcl V.globals hgn hcode hHd hps htr hsome (T.bi _ G.fM.fy) λctv doc h' tk hk hsz=>?_;have hk':∀b o,s.heap.get? b=some o->(h'.push<|fnMade name ni.qual params body scope [(x,p.1)] doc ((mg "__name__").getD .none) c' ctv).get? b=some o:=λb o e=>ar _<|hk b o e;have hfn:=uP hsz;refine qv (G.fM.codes c' ni.qual hco) λoc vs t q1 q2 q3=>fin a7 (G.fM.grow tk hk') (gz G.fM hfn ez rfl (G.fM.fresh hfn).2.2) ⟨oc,vs,t,cv q1,q2,q3⟩
end
namespace ZF
theorem PL:md zK "zip.__getattribute__"=some eY.«object.__getattribute__»:=
 Fc (id':="object.__getattribute__") (by kernel_rfl) (by decide+kernel) (by decide+kernel) (by kernel_rfl)
theorem Tj:mZ (.type "zip") "keys"=pure none:=by rw[dy,b9];kernel_rfl
theorem GR:mZ (.type "zip") "__getattr__"=pure none:=by rw[dy,b9];kernel_rfl
theorem BH:Mf "zip" "__getattribute__" "zip.__getattribute__":=PySem.F.slot_zip_getattribute
end ZF
section
variable{prog:Program}{w:cU}{A:bD}{E:Value->Shared->Prop}{s:Shared}
theorem GP(z TI TO:Addr)(f0:Value)(u:Tok):Meets (eY.«object.__getattribute__» ⟨[.ref z,.str "keys" u],[]⟩) (λA R s=>zR s.heap z TI TO f0/\raisesAttr (.ref z) "keys" A R s):=
 Meets.of_wp λprog w A R s hs=>by
  obtain⟨hp,g,d,tk,os⟩:=s;obtain⟨hx,hs⟩:=hs;have hT:(⟨hp,g,d,tk,os⟩:Shared).TypeIs (.ref z) "zip":=⟨_,hx,rfl⟩;have f4:=ZF.Tj;repeat (any_goals (first|assumption|wp_step))
  exact wpAny_raiseAttrError hs.1 hs.2<|attrMsg_fits (by decide+kernel)<|by size_fits
theorem SW(hh:A.handled=none)(hx:zR s.heap z TI TO f0)(h:∀h' tk,(∀b o,s.heap.get? b=some o->h'.get? b=some o)->Q none {s with heap:=h',toks:=tk}):
  av (model prog w) A (getAttr? (.ref z) "keys") Q E s:=by
 obtain⟨hp,g,d,tk,os⟩:=s
 have hT:∀tk',(⟨hp,g,d,tk',os⟩:Shared).TypeIs (.ref z) "zip":=λy=>⟨_,hx,rfl⟩
 have f1:=sub_AttributeError
 have f3:=ZF.BH.lookup
 have f4:=ZF.BH.bind<|.ref z
 have f5:=ZF.GR
 repeat (any_goals (first|assumption|exact hT _|((with_reducible show av _ _ (call (Bf "zip.__getattribute__") _ _) _ _ _);refine xG ZF.BH (hT _) ZF.PL (PySem.F.args_zip_getattribute_2 _ _) (GP z TI TO f0 _) ⟨hx,hh,λh' tk' e hx'=>?_⟩)|wp_step))
 refine zC hx'.there λt' u' he=>?_
 unfold getattributeRaised
 repeat (any_goals (first|assumption|wp_step))
 exact h _ _ hx'.of.keeps
theorem wm(hit:IsTupIter s.heap it t i)(ht:pk s.heap t items)(hx:items[i]? =some x)
  (hQ:∀h',IsTupIter h' it t (i+1)->dH it s.heap h'->Q x {s with heap:=h'}):av (model prog w) A (sC<|.ref it) Q E s:=by
 refine u6 (id hit) λo ho hc hd=>?_
 obtain⟨ol,hol,_,nl,hdl⟩:=ht
 refine aX<|cT (name:=lr "__next__") hit.typeIs ox
  (bz ox hit.typeIs Q7 ?_<|Vl _)
 show av _ _ (field (.ref it) 0>>=_) _ _ s
 refine aX<|dO ho hd (x:=.ref t) rfl ?_
 refine u7 (show ¬((nE t==nK)=true) from bh) ?_
 refine aX<|dO ho hd (x:=.int i 0) rfl ?_
 refine aJ<|fV hol hdl ?_
 simp only[ly,hx]
 refine aJ<|pf ho hd (by simp)<|ab ⟨x,rfl,ab<|hQ _ ?_ (cK ..)⟩
 exact⟨_,du _ ho<|sz<|i7 hd _,(wI ..).trans hc,by rw[i7 hd];simp[gV]⟩
theorem yH(hh:A.handled=none)(hit:IsTupIter s.heap it t i)(ht:pk s.heap t items)(hx:items[i]? =none)
  (hE:∀h' e,Heap.ExtBut it s.heap h'->(∃o,h'.get? e=some o/\o.cls=.type "StopIteration")->E (.ref e) {s with heap:=h'}):av (model prog w) A (sC<|.ref it) Q E s:=by
 refine u6 (id hit) λo ho hc hd=>?_
 obtain⟨ol,hol,_,nl,hdl⟩:=ht
 refine aX<|cT (name:=lr "__next__") hit.typeIs ox
  (bz ox hit.typeIs Q7 ?_<|Vl _)
 show av _ _ (field (.ref it) 0>>=_) _ _ s
 refine aX<|dO ho hd (x:=.ref t) rfl ?_
 refine u7 (show ¬((nE t==nK)=true) from bh) ?_
 refine aX<|dO ho hd (x:=.int i 0) rfl ?_
 refine aJ<|fV hol hdl ?_
 simp only[ly,hx]
 refine aJ<|dA<|aJ<|pf ho hd (by simp) ?_
 refine aX ?_
 simp only[newExc,newTuple]
 refine aX<|ej ?_<|by size_fits
 refine aJ (m:=vf _ _)<|nH (a:=nK) (by first|rfl|(simp only[vf];rfl)) ?_
 refine ej ?_ (by size_fits)
 delta raiseNew
 refine aX<|wpAny_handled ?_
 first|rw[show A.in1.handled=none from hh]|rw[hh]
 refine aX<|ab<|wpAny_throw ?_
 exact hE _ _ (((cK ..).extBut.push _).push _) ⟨_,bB _ rfl,rfl⟩
structure oV(h:Heap)(z TI TO i1 i2 t1 t2:Addr)(xs ys:Array Value)(i:Nat)(f0:Value):Prop where
 z:zR h z TI TO f0
 ti:xR h TI (.ref i1) (.ref i2)
 to:∃a b,xR h TO a b
 it1:IsTupIter h i1 t1 i
 it2:IsTupIter h i2 t2 i
 l1:pk h t1 xs
 l2:pk h t2 ys
theorem IsTupIter.keepsK{h h':Heap}(x:IsTupIter h it t i)(k:∀b o,h.get? b=some o->h'.get? b=some o):IsTupIter h' it t i:=x.imp λz=>cP<|k _ _
abbrev ZK(z TO i1 i2:Addr)(h h':Heap):Prop:=∀b o,b≠z->b≠TO->b≠i1->b≠i2->h.get? b=some o->h'.get? b=some o
theorem RH(hh:A.handled=none)(D:sq z TI TO i1 i2 t1 t2)(Zs:oV s.heap z TI TO i1 i2 t1 t2 xs ys i .none)(hx:xs[i]? =none)
  (hE:∀h' e,ZK z TO i1 i2 s.heap h'->(∃o,h'.get? e=some o/\o.cls=.type "StopIteration")->E (.ref e) {s with heap:=h'}):av (model prog w) A (eY.«zip.__next__» ⟨[.ref z],[]⟩) Q E s:=by
 obtain⟨hz,hTI,⟨a,b,hTO⟩,h1,h2,hl1,hl2⟩:=Zs
 show av _ _ (field (.ref z) 2>>=_) _ _ _
 refine aX<|dO hz rfl (x:=.bool false) rfl ?_
 refine aX<|dO hz rfl (x:=.ref TI) rfl ?_
 refine aX<|fV hTI rfl ?_
 refine aX ?_
 refine aX<|dO hz rfl (x:=.none) rfl<|ab ?_
 refine MI ?_
 refine aX<|dA ?_
 refine aX<|dO hz rfl (x:=.ref TO) rfl ?_
 refine aX<|ju hz (by simp -iota) λi5 v5 mY=>?_
 replace v5:zR i5 z TI TO .ellipsis:=v5
 refine aX ?_
 simp -iota only[QH,Rf,cA,iK]
 refine aX<|aX<|Ju ?_
 refine aX<|yH hh (h1.extBut mY.extBut D.i1z) (hl1.extBut mY.extBut D.l1z) hx λmX e kC he=>?_
 refine dS he λoe hoe hce=>?_
 have U8:zR mX z TI TO .ellipsis:=kC _ _ D.i1z.symm v5
 have hez:e≠z:=λx=>by subst x;rw[U8] at hoe;obtain rfl:=aa hoe;simp at hce
 refine ju U8 (by simp -iota) λxy y t8=>hE xy e (λc o c1 y c3 y x=>t8.extBut _ _ c1<|kC _ _ c3<|mY.extBut _ _ c1 x) ⟨oe,t8.extBut _ _ hez hoe,hce⟩
theorem Qt(ho:s.heap.get? a=some o)(h:Q (some o) s):av (model prog w) A (loadIfAlive a) Q E s:=λΓ p z=>by unfold loadIfAlive;rw[Al.wp_loadIfAlive,ho];exact h
theorem MG{z TI TO i1 i2 t1 t2 T:Addr}{xs ys:Array Value}{i:Nat}{oT:Obj}{Q:Fin->Shared->Prop}(hh:A.handled=none)(D:sq z TI TO i1 i2 t1 t2)(Zs:oV s.heap z TI TO i1 i2 t1 t2 xs ys i (gV T))(hT:s.heap.get? T=some oT)(hx:xs[i]? =none)
  (hE:∀h' e,ZK z TO i1 i2 s.heap h'->(∃o,h'.get? e=some o/\o.cls=.type "StopIteration")->E (.ref e) {s with heap:=h'}):av (model prog w) A (eY.«zip.__next__» ⟨[.ref z],[]⟩) Q E s:=by
 obtain⟨hz,hTI,⟨a,b,hTO⟩,h1,h2,hl1,hl2⟩:=Zs
 show av _ _ (field (.ref z) 2>>=_) _ _ _
 refine aX<|dO hz rfl (x:=.bool false) rfl ?_
 refine aX<|dO hz rfl (x:=.ref TI) rfl ?_
 refine aX<|fV hTI rfl ?_
 refine aX ?_
 refine aX<|dO hz rfl (x:=gV T) rfl ?_
 refine aX<|Qt (by simpa -iota [gV] using hT) ?_
 simp -iota only[Option.isNone_some,dI,if_false]
 refine aJ<|dO hz rfl (x:=.bool false) rfl ?_
 refine MJ (by decide) ?_
 refine aX<|ju hz (by simp -iota) λi5 v5 mY=>ab ?_
 refine vp ?_
 rw[<-fZ]
 simp -iota only[cA]
 refine aX<|aX<|aX<|aR ?_
 refine aX<|yH hh (h1.extBut mY.extBut D.i1z) (hl1.extBut mY.extBut D.l1z) hx λmX e kC he=>?_
 exact hE mX e (λc o c1 y c3 y x=>kC _ _ c3<|mY.extBut _ _ c1 x) he
theorem ME(D:sq z TI TO i1 i2 t1 t2)(Zs:oV s.heap z TI TO i1 i2 t1 t2 xs ys i .none)(hx:xs[i]? =some x)(hy:ys[i]? =some y)
  (hQ:∀h',oV h' z TI TO i1 i2 t1 t2 xs ys (i+1) (gV s.heap.objs.size)->xR h' s.heap.objs.size x y->ZK z TO i1 i2 s.heap h'->Q (.done<|.ret<|.ref s.heap.objs.size) {s with heap:=h'}):av (model prog w) A (eY.«zip.__next__» ⟨[.ref z],[]⟩) Q E s:=by
 obtain⟨hz,hTI,⟨a,b,hTO⟩,h1,h2,hl1,hl2⟩:=Zs
 show av _ _ (field (.ref z) 2>>=_) _ _ _
 refine aX<|dO hz rfl (x:=.bool false) rfl ?_
 refine aX<|dO hz rfl (x:=.ref TI) rfl ?_
 refine aX<|fV hTI rfl ?_
 refine aX ?_
 refine aX<|dO hz rfl (x:=.none) rfl<|ab ?_
 refine MI ?_
 refine aX<|dA ?_
 refine aX<|dO hz rfl (x:=.ref TO) rfl ?_
 refine aX<|ju hz (by simp -iota) λi5 v5 mY=>?_
 replace v5:zR i5 z TI TO .ellipsis:=v5
 refine aX ?_
 simp -iota only[QH,Rf,cA,iK]
 refine aX<|aX<|Ju ?_
 refine aX<|wm (h1.extBut mY.extBut D.i1z) (hl1.extBut mY.extBut D.l1z) hx λmX aav kC=>ab ?_
 have L7:xR mX TO a b:=kC.extBut _ _ D.TOi1<|mY.extBut _ _ D.TOz hTO
 refine aX<|fV L7 rfl ?_
 refine aX<|Q0 L7 λxy E1 t8=>?_
 replace E1:xR xy TO x b:=E1
 refine aX<|wpAny_letGo<|ab ?_
 refine aX<|aX<|Ju ?_
 refine aX<|wm (((h2.extBut mY.extBut D.i2z).extBut kC.extBut D.i12.symm).extBut t8.extBut D.TOi2.symm) (((hl2.extBut mY.extBut D.l2z).extBut kC.extBut D.l2i1).extBut t8.extBut D.l2TO) hy λt7 aat CY=>ab ?_
 have L6:xR t7 TO x b:=CY.extBut _ _ D.TOi2 E1
 refine aX<|fV L6 rfl ?_
 refine aX<|Q0 L6 λqk Ba xA=>?_
 replace Ba:xR qk TO x y:=Ba
 refine aX<|wpAny_letGo<|ab<|ab ?_
 refine aX<|fV Ba rfl ?_
 refine aX<|wpAny_newTuple ?_
 have hsz:qk.objs.size=s.heap.objs.size:=by rw[xA.1,CY.1,t8.1,kC.1,mY.1]
 have U7:zR qk z TI TO .ellipsis:=xA.extBut _ _ D.TOz.symm<|CY.extBut _ _ D.i2z.symm<|t8.extBut _ _ D.TOz.symm<|kC.extBut _ _ D.i1z.symm v5
 have HI:ZK z TO i1 i2 s.heap qk:=λc o c1 c2 c3 c4 e=>xA.extBut _ _ c2<|CY.extBut _ _ c4<|t8.extBut _ _ c2<|kC.extBut _ _ c3<|mY.extBut _ _ c1 e
 have hzlt:z<qk.objs.size:=cg U7
 refine aX ?_
 have aan:zR (qk.push {cls:=.type "tuple",data:=.seq #[x,y]}) z TI TO .ellipsis:=ar _ U7
 refine aX<|ju aan (by simp -iota) λaf0 LY Va=>?_
 replace LY:zR af0 z TI TO (gV qk.objs.size):=LY
 refine ju LY (by simp -iota) λCX HH U9=>?_
 replace HH:zR CX z TI TO (gV qk.objs.size):=HH
 have up:∀c o,c≠z->qk.get? c=some o->CX.get? c=some o:=λc o c1 e=>U9.extBut _ _ c1<|Va.extBut _ _ c1<|ar _ e
 have Ve:xR CX qk.objs.size x y:=U9.extBut _ _ (cN hzlt)<|Va.extBut _ _ (cN hzlt)<|bB _ rfl
 have aau:IsTupIter qk i1 t1 (i+1):=((aav.extBut t8.extBut D.TOi1.symm).extBut CY.extBut D.i12).extBut xA.extBut D.TOi1.symm
 have aas:IsTupIter qk i2 t2 (i+1):=aat.extBut xA.extBut D.TOi2.symm
 have aai:pk CX t1 xs:=by refine dS hl1 λo e r=>?_;exact⟨o,up _ _ D.l1z<|HI _ _ D.l1z D.l1TO D.l1i1 D.l1i2 e,r⟩
 have aah:pk CX t2 ys:=by refine dS hl2 λo e r=>?_;exact⟨o,up _ _ D.l2z<|HI _ _ D.l2z D.l2TO D.l2i1 D.l2i2 e,r⟩
 have aal:IsTupIter CX i1 t1 (i+1):=aau.imp λu=>cP<|up _ _ D.i1z
 have aak:IsTupIter CX i2 t2 (i+1):=aas.imp λu=>cP<|up _ _ D.i2z
 rw[hsz] at HH Ve
 refine ab ?_
 rw[hsz]
 exact hQ CX ⟨HH,up _ _ D.TIz<|HI _ _ D.TIz D.TITO D.TIi1 D.TIi2 hTI,⟨x,y,up _ _ D.TOz Ba⟩,aal,aak,aai,aah⟩ Ve λc o c1 c2 c3 c4 e=>up c o c1<|HI c o c1 c2 c3 c4 e
theorem DK(D:sq z TI TO i1 i2 t1 t2)(Zs:oV s.heap z TI TO i1 i2 t1 t2 xs ys i .none)(hx:xs[i]? =some x)(hy:ys[i]? =some y)
  (hQ:∀h',oV h' z TI TO i1 i2 t1 t2 xs ys (i+1) (gV s.heap.objs.size)->xR h' s.heap.objs.size x y->ZK z TO i1 i2 s.heap h'->Q (some<|.ref s.heap.objs.size) {s with heap:=h'}):av (model prog w) A (s6<|.ref z) Q E s:=by
 have hT:s.TypeIs (.ref z) "zip":=⟨_,Zs.z,rfl⟩
 exact aX<|w6<|cT (name:=lr "__next__") hT k9
  (bz k9 hT Bg (ME D Zs hx hy λh' a1 a2 a3=>⟨_,rfl,ab<|hQ h' a1 a2 a3⟩)<|Am _)
theorem yy(hh:A.handled=none)(D:sq z TI TO i1 i2 t1 t2)(Zs:oV s.heap z TI TO i1 i2 t1 t2 xs ys i f0)(hf:f0=.none\/∃(T:Addr)(oT:Obj),f0=gV T/\s.heap.get? T=some oT)(hx:xs[i]? =none)
  (hQ:∀h',ZK z TO i1 i2 s.heap h'->Q none {s with heap:=h'}):av (model prog w) A (s6<|.ref z) Q E s:=by
 have hT:s.TypeIs (.ref z) "zip":=⟨_,Zs.z,rfl⟩
 have hE:∀h' e,ZK z TO i1 i2 s.heap h'->(∃o,h'.get? e=some o/\o.cls=.type "StopIteration")->av (model prog w) A (do if<-isInstance (.ref e) (.type "StopIteration") then pure none else throw (.ref e)) Q E {s with heap:=h'}:=by intro h' e hk he;refine dS he λo ho hc=>?_;refine aX<|dh (T:="StopIteration") (b:=true) ⟨o,ho,hc⟩ isSubtype_stop ?_;exact ab<|hQ _ hk
 refine aX<|w6<|cT (name:=lr "__next__") hT k9
  (bz k9 hT Bg ?_<|Am _)
 rcases hf with rfl|⟨T,oT,rfl,ho⟩
 ·exact RH (A:=A.in1) hh D Zs hx hE
 ·exact MG (A:=A.in1) hh D Zs ho hx hE
theorem tz(hz:zR s.heap z TI TO f0)(h:Q (.ref z) s):av (model prog w) A (lq<|.ref z) Q E s:=wpAny_pyIter_zip hz h
end
noncomputable abbrev zT1(h:Heap)(t1:Addr):Heap:=h.push {cls:=.type "tuple_iterator",data:=.fields #[.ref t1,.int 0 0]}
abbrev zT2(h:Heap)(t1 t2:Addr):Heap:=(zT1 h t1).push {cls:=.type "tuple_iterator",data:=.fields #[.ref t2,.int 0 0]}
abbrev zT3(h:Heap)(t1 t2:Addr):Heap:=(zT2 h t1 t2).push {cls:=.type "tuple",data:=.seq #[.ref h.objs.size,.ref (zT1 h t1).objs.size]}
abbrev zT4(h:Heap)(t1 t2:Addr):Heap:=(zT3 h t1 t2).push {cls:=.type "tuple",data:=.seq #[.none,.none]}
abbrev WS(h:Heap)(t1 t2:Addr):Heap:=(zT4 h t1 t2).push {cls:=.type "zip",data:=.fields #[.none,.bool false,.bool false,.ref (zT2 h t1 t2).objs.size,.ref (zT3 h t1 t2).objs.size]}
theorem Kz(t1 t2:Addr)(xs ys:Array Value):
  Meets (eY.«zip.__new__» ⟨[.type "zip",.ref t1,.ref t2],[]⟩) (λz R s=>pk s.heap t1 xs/\pk s.heap t2 ys/\
   R (.ok<|.ret<|.ref (zT4 s.heap t1 t2).objs.size) {s with heap:=WS s.heap t1 t2}):=
 .of_wp λprog w A R s h=>by
  obtain⟨hp,g,d,tk,os⟩:=s;obtain⟨hl1,hl2,h⟩:=h;have hsub:=sub_zip;have hL1:pk (Shared.heap ⟨hp,g,d,tk,os⟩) t1 xs:=hl1;have hL2:pk (Shared.heap ⟨hp.push {cls:=.type "tuple_iterator",data:=.fields #[.ref t1,.int 0 0]},g,d,tk,os⟩) t2 ys:=pk.push hl2 _
  wp_walk using wH hL1,wH hL2
  exact⟨_,rfl,h⟩
section
variable{prog:Program}{w:cU}{A:bD}{E:Value->Shared->Prop}{s:Shared}
theorem EC(hl1:pk s.heap t1 xs)(hl2:pk s.heap t2 ys)
  (h:∀h',oV h' (s.heap.objs.size+4) (s.heap.objs.size+2) (s.heap.objs.size+3) s.heap.objs.size (s.heap.objs.size+1) t1 t2 xs ys 0 .none->sq (s.heap.objs.size+4) (s.heap.objs.size+2) (s.heap.objs.size+3) s.heap.objs.size (s.heap.objs.size+1) t1 t2->
   (∀c o,s.heap.get? c=some o->h'.get? c=some o)->Q (.ref<|s.heap.objs.size+4) {s with heap:=h'}):
  av (model prog w) A (call (.type "zip") [.ref t1,.ref t2]) Q E s:=by
 refine callType_new PySem.F.called_zip (by decide) (PySem.F.typeCall_zip_2 _ _) (PySem.F.newCall_zip_2 _ _) (λobj=>PySem.F.args_object_init_3 obj _ _) PySem.F.entry_zip_new
  (Kz t1 t2 xs ys) ⟨hl1,hl2,?_⟩
 have z1:(zT1 s.heap t1).objs.size=s.heap.objs.size+1:=gR ..
 have z2:(zT2 s.heap t1 t2).objs.size=s.heap.objs.size+2:=by rw[gR,z1]
 have z3:(zT3 s.heap t1 t2).objs.size=s.heap.objs.size+3:=by rw[gR,z2]
 have z4:(zT4 s.heap t1 t2).objs.size=s.heap.objs.size+4:=by rw[gR,z3]
 have g5:(WS s.heap t1 t2).get? (zT4 s.heap t1 t2).objs.size=some _:=bB _ rfl
 have g4:(WS s.heap t1 t2).get? (zT3 s.heap t1 t2).objs.size=some _:=ar _<|bB _ rfl
 have g3:(WS s.heap t1 t2).get? (zT2 s.heap t1 t2).objs.size=some _:=ar _<|ar _<|bB _ rfl
 have g2:(WS s.heap t1 t2).get? (zT1 s.heap t1).objs.size=some _:=ar _<|ar _<|ar _<|bB _ rfl
 have g1:(WS s.heap t1 t2).get? s.heap.objs.size=some _:=ar _<|ar _<|ar _<|ar _<|bB _ rfl
 have up:∀c o,s.heap.get? c=some o->(WS s.heap t1 t2).get? c=some o:=λc o x=>
  ar _ (ar _<|ar _<|ar _<|ar _ x)
 have lt:∀{a:Addr}{it:Array Value},pk s.heap a it->a<s.heap.objs.size:=λz=>z.elim λy e=>cg e.1
 rw[z2,z3,z4] at g5
 rw[z1,z2] at g3
 rw[z3] at g4
 rw[z1] at g2
 rw[z4]
 exact⟨⟨_,g5,rfl⟩,h _ ⟨g5,g3,⟨_,_,g4⟩,⟨_,g1,rfl,rfl⟩,⟨_,g2,rfl,rfl⟩,hl1.keeps up,hl2.keeps up⟩ (zipApart_new (lt hl1)<|lt hl2) up⟩
end
theorem AV:md zK "dict.update.loop"=some eY.«dict.update.loop»:=g7<|rfl
theorem rS:plainId "dict.update.loop"=true:=by decide+kernel
section
variable{Z:dM}{C:bT}{M:b6}{K:Frag}{n:Nat}{ns:bX}{c:TC}{st st':List SO}{g g' fx:FH}{ρ bQ:eE}{s:Shared}{A:bD}{σ bk:bo}{env:Env}{E:Value->Shared->Prop}{i:Nat}
theorem RA{h:Heap}{b:Nat}{o:Obj}(e:h.get? b=some o):b<h.objs.size:=cg e
theorem wo{a b:Nat}(h:a<b\/b<a):a≠b:=Nat.lt_or_gt.mpr h
theorem Mt(S:b7 Z st g fx ρ s)(r:RV Z g ρ (.tup xs) x):∃a vs,x=.ref a/\pk s.heap a vs/\ei Z g ρ xs vs.toList:=by refine qv r λa vs n zz3 ho rs=>?_;subst zz3;exact Av a vs rfl ⟨_,S.keep _ _ ho,rfl,n,rfl⟩ rs
theorem I3{s:Shared}(hh:A.handled=none)(Da:sq z TI TO i1 i2 t1 t2)(Zs:oV s.heap z TI TO i1 i2 t1 t2 xs ys j f0)
  (hf:f0=.none\/∃(T:Addr)(oT:Obj),f0=gV T/\s.heap.get? T=some oT) (hx:xs[j]? =none) (h:∀h',ZK z TO i1 i2 s.heap h'->R (.ok<|.ret .none) {s with heap:=h'}):
  km (model prog w) A (.builtin "dict.update.loop" ⟨[.ref D,.ref z,gV q,.none],[]⟩) R s:=by
 refine k8 AV ?_
 rw[jF rS _]
 refine aX<|yy (by simp -iota [hh]) Da Zs hf hx λh' hk=>?_
 exact aX<|ab<|ab<|h h' hk
theorem PX{P:Prop}(e:builtin st .lP [a,b]=some v)(k1:a=.tup []->b=.tup []->v=.hH [] []->P)(k2:∀k w,a=.tup [.str k]->b=.tup [w]->dC k=true->w.free=true->v=.hH [.str k] [w]->P):P:=
 aw (x:=zm a) e λxs h1 e=>aw e λys h2 e=>by
  have h1:=zl h1 id;have h2:=zl h2 id;cases xs with
  |nil=>exact j8 e λh0 er=>k1 h1 (h2.trans<|congrArg SV.tup<|bt.mp h0) er.symm
  |cons x r=>exact r7 e λh0 e=>aw e λk hk e=>aw e λy hy e=>j8 e λhc er=>by obtain rfl:=bt.mp h0;obtain rfl:=Zu hk id;obtain rfl:=kK hy id;exact k2 k y h1 h2 (cI hc λa z=>a) (cI hc λz b=>b) er.symm
theorem PU(hm:∃o,Z.base sysModules=some o)(hh:A.handled=none)(S:b7 Z st g fx ρ s){a b v:SV}{x y:Value}(e:builtin st .lP [a,b]=some v)(ra:RV Z g ρ a x)(rb:RV Z g ρ b y)(hu:A.units+70<cLine){Q:Value->Shared->Prop}
  (h:∀h' tk w,(∀b o,s.heap.get? b=some o->h'.get? b=some o)->RV Z (oR Z g s.heap h') ρ v w->Q w {s with heap:=h',toks:=tk}):
  av (Mo Z) A (call (.type "zip") [x,y]) (λz aC=>av (Mo Z) A (call (.type "dict") [z]) Q E aC) E s:=by
 have hshape:∃xs ys,a=.tup xs/\b=.tup ys/\((xs=[]/\ys=[]/\v=.hH [] [])\/∃k w,xs=[.str k]/\ys=[w]/\dC k=true/\w.free=true/\v=.hH [.str k] [w]):=by exact PX e (λh1 h2 h3=>⟨_,_,h1,h2,.inl ⟨rfl,rfl,h3⟩⟩) λk w h1 h2 h3 h4 h5=>⟨_,_,h1,h2,.inr ⟨k,w,rfl,rfl,h3,h4,h5⟩⟩
 refine jG hshape λxs ys zz2 zz3 hcase=>?_
 subst zz2
 subst zz3
 refine jG (Mt S ra) λt1 vx zz2 ht1 rx=>?_
 subst zz2
 refine jG (Mt S rb) λt2 vy zz2 ht2 ry=>?_
 subst zz2
 refine EC ht1 ht2 λi5 Zs Da HJ=>?_
 have old:∀{b:Nat}{o:Obj},s.heap.get? b=some o->b≠s.heap.objs.size+4/\b≠s.heap.objs.size+3/\b≠s.heap.objs.size/\b≠s.heap.objs.size+1:=λe=>by have:=RA e;exact LJ (wo<|.inl<|Rd 4 this) (wo<|.inl<|Rd 3 this) (wo<|.inl<|by omega)<|wo<|.inl<|ZI this
 refine callType_codes (Q₁:=λobj dJ=>obj=.ref i5.objs.size/\dJ={s with heap:=i5.push {cls:=.type "dict",data:=.dict #[]}}) F.kt_called_dict (F.kt_typeCall_dict_1 _) F.entry_dict_init (kt_code_dict_new _ ⟨rfl,rfl⟩) ?_
 rintro obj dJ ⟨rfl,rfl⟩
 have hzs:=RA Zs.z
 have hDn:s.heap.get? i5.objs.size=none:=by
  cases q:s.heap.get? i5.objs.size with
  |none=>rfl
  |some o=>exact absurd (RA q)<|adz hzs
 have hno:=uF S hm hDn
 have hD:(i5.push {cls:=.type "dict",data:=.dict #[]}).get? i5.objs.size=some (dictOf [] 0):=bB _ rfl
 have qx:∀b o,i5.get? b=some o->(i5.push {cls:=.type "dict",data:=.dict #[]}).get? b=some o:=λb o e=>ar _ e
 have ua:oV (i5.push {cls:=.type "dict",data:=.dict #[]}) (s.heap.objs.size+4) (s.heap.objs.size+2) (s.heap.objs.size+3) s.heap.objs.size (s.heap.objs.size+1) t1 t2 vx vy 0 .none:=
  ⟨qx _ _ Zs.z,qx _ _ Zs.ti,Zs.to.imp λu=>aD λu=>qx _ _,IsTupIter.keepsK Zs.it1 qx,IsTupIter.keepsK Zs.it2 qx,Zs.l1.keeps qx,Zs.l2.keeps qx⟩
 refine⟨⟨_,hD,rfl⟩,F.args_dict_init_2 _ _,?_⟩
 refine aX<|aX<|ub ⟨_,hD,rfl⟩ ?_
 refine ab<|aJ<|l9 ⟨_,ua.z,rfl⟩ ?_
 refine MJ (by decide)<|aX<|SW (by simp -iota [hh]) ua.z λxy U5 t9=>?_
 simp -iota only[Option.isNone_none,if_true]
 have Ma:oV xy (s.heap.objs.size+4) (s.heap.objs.size+2) (s.heap.objs.size+3) s.heap.objs.size (s.heap.objs.size+1) t1 t2 vx vy 0 .none:=
  ⟨t9 _ _ ua.z,t9 _ _ ua.ti,ua.to.imp λu=>aD λu=>t9 _ _,IsTupIter.keepsK ua.it1 t9,IsTupIter.keepsK ua.it2 t9,ua.l1.keeps t9,ua.l2.keeps t9⟩
 have sH:=t9 _ _ hD
 have HG:∀b o,s.heap.get? b=some o->xy.get? b=some o:=λb o e=>t9 _ _<|qx _ _<|HJ _ _ e
 refine aX<|dA<|aX<|tz Ma.z<|ab ⟨w8 rS _,?_⟩
 rcases hcase with ⟨rfl,rfl,rfl⟩|⟨k,w,rfl,rfl,hok,hfr,rfl⟩
 ·have hx0:vx=#[]:=by
   have:=rx
   have h2:vx.toList=[]:=this
   simpa -iota using h2
  subst hx0
  refine I3 (by simp -iota [hh]) Da Ma (.inl rfl) rfl λt7 CZ=>?_
  have C0:=CZ _ _ (wo<|ZD hzs) (wo<|ZC hzs) (wo<|ZA hzs) (wo<|Zz hzs) sH
  have w5:∀b o,s.heap.get? b=some o->t7.get? b=some o:=λb o e=>CZ _ _ (old e).1 (old e).2.1 (old e).2.2.1 (old e).2.2.2<|HG _ _ e
  exact⟨rfl,h t7 U5 _ w5 ⟨_,[],0,rfl,gz S hDn C0 rfl (S.fresh hDn).2.2,rfl,rfl,⟨[],.nil _⟩,hno⟩⟩
 ·refine jG rx λkv r1 hvx rk hr1=>jG ry λwv r2 hvy rw' hr2=>?_;have e1:r1=[]:=hr1;have e2:r2=[]:=hr2;subst e1;subst e2;have hx0:vx[0]? =some kv:=by rw[<-bw,hvx];rfl
  have hy0:vy[0]? =some wv:=by rw[<-bw,hvy];rfl
  have hx1:vx[1]? =none:=by rw[<-bw,hvx];rfl
  refine k8 AV ?_;rw[jF rS _];refine aX<|DK Da Ma hx0 hy0 λt7 xC L5 CZ=>?_;have C0:=CZ _ _ (wo<|ZD hzs) (wo<|ZC hzs) (wo<|ZA hzs) (wo<|Zz hzs) sH;have w5:∀b o,s.heap.get? b=some o->t7.get? b=some o:=λb o e=>CZ _ _ (old e).1 (old e).2.1 (old e).2.2.1 (old e).2.2.2<|HG _ _ e;refine aX<|aR ?_;refine aX<|wpAny_tryCatch ?_;refine aJ<|l9 ⟨_,L5,rfl⟩ ?_;refine MJ (by decide)<|aX<|fV L5 rfl<|ab ?_;refine aR ?_;have X:hV Z g ρ {s with heap:=t7,toks:=U5} i5.objs.size [] [] [] 0:=⟨C0,rfl,rfl,⟨[],.nil _⟩,hno⟩;have hfk:=Ei hok;refine pR (λb o e=>w5 _ _<|S.keep b o e) X hfk rk (by simp;exact ady hu) (by simp -iota) λd qk LW aiV h1 aao xA=>ab ⟨w8 rS _,?_⟩;have hDlt:=RA sH;have mF:∀b o,b≠i5.objs.size->t7.get? b=some o->qk.get? b=some o:=λb o hb e=>(xA.2 b hb).trans e;have aaz:oV qk (s.heap.objs.size+4) (s.heap.objs.size+2) (s.heap.objs.size+3) s.heap.objs.size (s.heap.objs.size+1) t1 t2 vx vy (0+1) (gV xy.objs.size):=by
   have lt1:@LT.lt Nat _ t1 s.heap.objs.size:=by obtain⟨o,e,_⟩:=ht1;exact RA e
   have lt2:@LT.lt Nat _ t2 s.heap.objs.size:=by obtain⟨o,e,_⟩:=ht2;exact RA e
   refine⟨mF _ _ (wo<|Or.inl hzs) xC.z,mF _ _ (wo<|by omega) xC.ti,let⟨p,q,r⟩:=xC.to;⟨p,q,mF _ _ (wo<|Or.inl<|be hzs) r⟩,?_,?_,?_,?_⟩
   ·obtain⟨o,e,r⟩:=xC.it1;exact⟨o,mF _ _ (wo<|adx hzs) e,r⟩
   ·obtain⟨o,e,r⟩:=xC.it2;exact⟨o,mF _ _ (wo<|adw hzs) e,r⟩
   ·obtain⟨o,e,r⟩:=xC.l1;exact⟨o,mF _ _ (wo<|Zy hzs lt1) e,r⟩
   ·obtain⟨o,e,r⟩:=xC.l2;exact⟨o,mF _ _ (wo<|Zy hzs lt2) e,r⟩
  refine I3 (s:={s with heap:=qk,toks:=LW}) (by simp -iota [hh]) Da aaz (.inr ⟨_,_,rfl,mF _ _ (wo<|Or.inr hDlt) L5⟩) hx1 λQW Vd=>?_;have QV:∀b o,s.heap.get? b=some o->QW.get? b=some o:=λb o e=>Vd _ _ (old e).1 (old e).2.1 (old e).2.2.1 (old e).2.2.2 (mF _ _ (wo (by have:=RA e;exact Zy hzs this))<|w5 _ _ e);have Vb:=Vd _ _ (wo<|ZD hzs) (wo<|ZC hzs) (wo<|ZA hzs) (wo<|Zz hzs) aao;have hg:=gz S hDn Vb (ex:=λu=>false) rfl (S.fresh hDn).2.2;have Y:=BR (s':={s with heap:=QW,toks:=LW}) (g':=oR Z g s.heap QW) a7 X hfk h1 rk rfl (rw'.mono a7) Vb;exact⟨rfl,h QW LW _ QV ⟨_,_,_,rfl,hg,Y.keys,Y.vals.free (by simpa -iota [SV.free.go] using hfr),Y.ok,hno⟩⟩
end
section
variable{Z:dM}{C:bT}{M:b6}{K:Frag}{n:Nat}{ns:bX}{c:TC}{st st':List SO}{g g' fx:FH}{ρ bQ:eE}{s:Shared}{A:bD}{σ bk:bo}{env:Env}{E:Value->Shared->Prop}{i:Nat}
theorem Dt(hm:∃o,Z.base sysModules=some o)(T:jE Z c)(hc:c.ns=ns)(hb:cu c f=some (false,"dict"))(hb2:cu c gf=some (false,"zip"))(hs:bP x=true)(hs2:bP y=true)(hx:fK Z n ns C M tx x)(hy:fK Z n ns C M ty y):
  fK Z n ns C M (.bi .lP [tx,ty]) (.Call f [.Call gf [x,y] [] pos2] [] pos):=by
 exact λσ bk v ev env A g fx ρ s V hA G E Q P=>O1 ev λvs τ e1 ev=>NN ev λhw e3=>by subst e3;refine vT T hc hb rfl V G (zk T hc hb2 (by simp[hs,hs2]) (lE hs hx<|lE hs2 hy oQ) e1 V hA G λbu a8 aQ aC ys bC b5 bG cD=>?_);exact aw hw λq hq u=>Bx hq λhq=>by subst hq;obtain⟨ya,ys',rfl,ra,yb,ys'',rfl,rb,rfl⟩:=cD;exact PU hm hA.handled bG.fM hw ra rb (by have:=hA.units;exact adD this) λh' tk z hk r=>(P.of bC b5) _ a8 aQ _ z a7 (λu u=>rfl) (bG.with a7 (bG.fM.grow tk hk) rfl) r
theorem FK{h:Heap}(hh:A.handled=none)(Da:sq z TI TO i1 i2 t1 t2)(ht1:∃o,e9 t1=some o)(ht2:∃o,e9 t2=some o)(hTI:∃o,e9 TI=some o)(hk:∀b o,e9 b=some o->h.get? b=some o):
  fY Z.prog Z.w Z A z [z,TO,i1,i2] [] e9 ρ true (λi h'=>i=0/\oV h' z TI TO i1 i2 t1 t2 #[] #[] 0 .none/\∀b o,e9 b=some o->h'.get? b=some o) where
 frame i h h' hs hf:=by
  refine qe hs λzz0 Zs aaB=>?_;subst zz0;have gk:=λb o e=>hf b o (.inr e)<|aaB b o e;have wk:=λb o m e=>hf b o (.inl m) e;have up:∀{a:Addr}{o:Obj},(∃o,e9 a=some o)->h.get? a=some o->h'.get? a=some o:=λoe e=>by obtain⟨o',e'⟩:=oe;have:=aaB _ _ e';rw[e] at this;obtain rfl:=aa this;exact gk _ _ e'
  refine zC Zs.to λpa pb hTO=>dS Zs.it1 λo1 e1 q1=>?_;refine dS Zs.it2 λo2 e2 q2=>dS Zs.l1 λo3 e3 q3=>?_;refine dS Zs.l2 λo4 e4 q4=>⟨rfl,⟨wk _ _ (by simp) Zs.z,up hTI Zs.ti,⟨pa,pb,wk _ _ (by simp) hTO⟩,⟨o1,wk _ _ (by simp) e1,q1⟩,⟨o2,wk _ _ (by simp) e2,q2⟩,⟨o3,up ht1 e3,q3⟩,⟨o4,up ht2 e4,q4⟩⟩,gk⟩
 there i h hs b hb:=by
  refine qe hs λzz0 Zs y=>?_;subst zz0;refine zC Zs.to λpa pb hTO=>dS Zs.it1 λo1 e1 q1=>?_;refine dS Zs.it2 λo2 e2 q2=>?_;simp only[aV,aK,or_false] at hb;rcases hb with rfl|rfl|rfl|rfl
  ·exact⟨_,Zs.z⟩
  ·exact⟨_,hTO⟩
  ·exact⟨_,e1⟩
  ·exact⟨_,e2⟩
 item i x s Q E tgt hx:=by simp at hx
 done s Q E hs h:=by refine qe hs λy Zs y=>yy hh Da Zs (.inl rfl) rfl λh' hz=>?_;refine h h' s.toks λb o hb e=>?_;simp only[aV,aK,or_false,not_or] at hb;exact hz b o hb.1 hb.2.1 hb.2.2.1 hb.2.2.2 e
 self i s Q E hs h:=by refine qe hs λzz0 Zs y=>?_;subst zz0;exact tz Zs.z h
theorem J9(T:jE Z c)(hc:c.ns=ns)(hb:cu c f=some (false,"zip")){args:List ao}(hs:args.all bP=true)(he:rt Z n ns C M ts args):nt Z n ns C M .zip ts (.Call f args [] pos):=by
 intro σ bk vs items e1 e2 env A g fx ρ s V hA G E Q h;refine zk T hc hb hs he e1 V hA G λbu a8 aQ aC ys bC b5 bG cD=>?_;have hvs:vs=[.tup [],.tup []]/\items=[]:=aw e2 λq hq e=>aw e λxs h1 e=>aw e λys h2 e=>j8 e λh3 er=>cI h3 λh3 h4=>Bx hq λhq=>zl h1 λh1=>zl h2 λh2=>
  ⟨by rw[hq,h1,h2,bt.mp h3,bt.mp h4],er.symm⟩
 obtain⟨rfl,rfl⟩:=hvs;obtain⟨ya,ys',rfl,ra,yb,ys'',rfl,rb,hnil⟩:=cD;have hnil:=hnil;subst hnil;refine qv ra λt1 vx nx zz3 ga rx=>?_;subst zz3;refine qv rb λt2 vy ny zz3 gb ry=>?_;subst zz3;have hx0:vx=#[]:=by have h2:vx.toList=[]:=rx;simpa using h2
 have hy0:vy=#[]:=by have h2:vy.toList=[]:=ry;simpa using h2
 subst hx0 hy0;have hl1:pk aC.heap t1 #[]:=⟨_,bG.fM.keep _ _ ga,rfl,nx,rfl⟩;have hl2:pk aC.heap t2 #[]:=⟨_,bG.fM.keep _ _ gb,rfl,ny,rfl⟩;show av (Mo Z) A (call (.type "zip") [.ref t1,.ref t2]) _ _ _;refine EC hl1 hl2 λh' Zs Da hk=>tz Zs.z ?_;have hfr:∀b∈[aC.heap.objs.size+4,aC.heap.objs.size+3,aC.heap.objs.size,aC.heap.objs.size+1],aC.heap.get? b=none:=λb hb=>by
  simp only[aV,aK,or_false] at hb;cases q:aC.heap.get? b with
  |none=>rfl
  |some o=>have:=RA q;rcases hb with rfl|rfl|rfl|rfl<;>omega
 have S':=bG.fM.enter aC.toks hk hfr;have hfr2:aC.heap.get? (aC.heap.objs.size+2)=none:=by
  cases q:aC.heap.get? (aC.heap.objs.size+2) with
  |none=>rfl
  |some o=>have:=RA q;exact adC this
 have X':ey bu aQ (eG Z bu aC.heap h' λb=>decide<|b∈[aC.heap.objs.size+4,aC.heap.objs.size+3,aC.heap.objs.size,aC.heap.objs.size+1]) aQ:=a7;have hTI:∃o,(eG Z bu aC.heap h' λb=>decide<|b∈[aC.heap.objs.size+4,aC.heap.objs.size+3,aC.heap.objs.size,aC.heap.objs.size+1]) (aC.heap.objs.size+2)=some o:=
  ⟨_,gz bG.fM hfr2 Zs.ti (by simp) (bG.fM.fresh hfr2).2.2⟩
 refine yw bG (λg' fx' bQ s' I wr St X F R=>h g' fx' bQ s' I wr St (bC.trans X) (λb hb=>(F b hb).trans<|b5 b hb) R) _ h' aC.toks _ _ _ X' S' hfr
  (FK (h:=h') hA.handled Da ⟨_,X'.g _ _ ga⟩ ⟨_,X'.g _ _ gb⟩ hTI λb o e=>S'.keep b o e) ⟨rfl,Zs,λb o e=>S'.keep b o e⟩
end
section
variable{Z:dM}{C:bT}{M:b6}{K:Frag}{n:Nat}{ns:bX}{c:TC}{σ bk:bo}{env:Env}{i:Nat}
theorem jE.fw(T:jE Z c)(ns':bX):jE Z {c with ns:=ns'}:=⟨T.gl,T.wW,T.at_⟩
structure vo(Z:dM)(K:Frag)(M:b6)(n:Nat)(C:bT):Prop where
 O:zx Z K M
 N:NmM Z
 hC:pX Z n C
 hm:∃o,Z.base sysModules=some o
abbrev sF(Z:dM)(n:Nat)(ns:bX)(C:bT)(M:b6)(t:Mine.E)(e:ao):Prop:=fK Z n ns C M t e/\nQ Z n ns C M t e
theorem Ie:fK Z n ns C M .bad e:=λσ bk v ev=>aW ev
theorem Nn:nQ Z n ns C M .bad e:=λσ bk v b ev=>aW ev
theorem kJ:sF Z n ns C M .bad e:=⟨Ie,Nn⟩
theorem eJ(h:fK Z n ns C M t e)(he:∀env:Env,isTrue e env (eval e env)=(do let v<-eval e env;ma e.pos;k7 [v] (ql v))):sF Z n ns C M t e:=⟨h,nQ.value h he⟩
theorem ur(h:∀e,fK Z n ns C M (tr e) e){es:List ao}:es.all bP=true->rt Z n ns C M (es.map tr) es:=by
 induction es with
 |nil=>intro _;exact oQ
 |cons e es ih=>intro hs;exact cI hs λh1 h2=>lE h1 (h e)<|ih h2
theorem zb(h:∀e,sF Z n ns C M (tr e) e){es:List ao}:qL Z n ns C M (es.map tr) es:=by
 induction es with
 |nil=>exact trivial
 |cons e es ih=>exact⟨h e,ih⟩
theorem G5:KG (AQ c v)=none:=by
 cases v with
 |ref a=>show KG (match a==c.wW with|true=>.Ad|false=>.glob<|.ref a)=none;cases a==c.wW<;>rfl
 |_=>rfl
theorem Gr{i:Nat}(h:KG (uI c x)=some i):∃k,fo x c.ns 0=some (i,k)/\(k=.local\/k=.cell\/k=.free):=by
 unfold uI at h;cases hp:fo x c.ns 0 with
 |none=>rw[hp] at h;exact aW h
 |some p=>
  rw[hp] at h;have h:KG (match qZ p.2 with|true=>.loc p.1|false=>ob<|(Eb c x p.2).map<|AQ c)=some i:=h;cases hk:qZ p.2 with
  |true=>rw[hk] at h;obtain rfl:=aa h;exact⟨p.2,rfl,Pm hk⟩
  |false=>
   rw[hk] at h;cases hv:Eb c x p.2 with
   |none=>rw[hv] at h;exact aW h
   |some v=>rw[hv] at h;exact aW<|G5.symm.trans h
theorem vz(hc:c.ns=ns)(h:fK Z n ns C M t e):fK Z n ns C M (qj c t e) e:=by
 subst hc;unfold qj;cases hx:(yL e).bind λx=>KG (uI c x) with
 |none=>exact h
 |some i=>exact aw hx λx h1 h2=>GN h1 λp he=>by subst he;refine dS (Gr h2) λk h1 h2=>Si h1 h2
theorem MV{i:Nat}(h:H6 c e=some i):∃x p k,e=.Name x p/\fo x c.ns 0=some (i,k)/\(k=.local\/k=.cell):=
 aw h λx hx h=>aw h λq hq h=>j8 h λhk hi=>GN hx λp hp=>by subst hi;exact Z2 x p q.2 hp hq<|BC hk
theorem FY:∀{is:List Nat},Ow (H6 c) es=some is->es.all bP=true/\is.length=es.length/\zv Z n c.ns (λz z z=>none) (λz z=>none) (is.map .nm) es:=by
 induction es with
 |nil=>intro is h;obtain rfl:=aa h;exact⟨rfl,rfl,vA⟩
 |cons e es ih=>intro is h;exact aw h λj h1 h=>dj h λjs h2 er=>by subst er;refine qv (MV h1) λx p k zz3 hp hk=>?_;subst zz3;refine qe (ih h2) λa1 a2 a3=>⟨a1,congrArg kr a2,pE rfl (rM hp hk) a3⟩
theorem MS(h:By e=some es):∃k p,e=.Tuple es k p:=by
 cases e with
 |Tuple es' k p=>exact⟨k,p,congrArg (λz=>Expr.Tuple z k p)<|aa h⟩
 |_=>exact aW h
theorem rP(h:ye c e=some t):sE Z n c.ns t e:=by
 unfold ye at h;cases ht:By e with
 |some es=>rw[ht] at h;exact dj h λis hi er=>by subst er;refine zC (MS ht) λk p zz2=>?_;subst zz2;refine qe (FY (Z:=Z) (n:=n) hi) λa1 a2 a3=>J8 a1 a2 a3
 |none=>rw[ht] at h;exact dj h λi hi er=>by subst er;refine qv (MV hi) λx' p' k zz3 hp hk=>?_;subst zz3;exact Nj hp hk
end
section
variable{Z:dM}{C:bT}{M:b6}{K:Frag}{n:Nat}{ns:bX}{c:TC}{σ bk:bo}{env:Env}{i:Nat}
def tL.T1(Z:dM)(M:b6)(n:Nat)(C:bT)(f:Nat):Prop:=∀c m e,jE Z c->sF Z n c.ns C M (gJ f c m e) e
def tL.T2(Z:dM)(M:b6)(n:Nat)(C:bT)(f:Nat):Prop:=∀c b args fe pos,jE Z c->cu c fe=some b->args.all bP=true->fK Z n c.ns C M (trB f c b args) (.Call fe args [] pos)
def tL.T3(Z:dM)(M:b6)(n:Nat)(C:bT)(f:Nat):Prop:=∀c it p,jE Z c->FW f c it=some p->nt Z n c.ns C M p.1 p.2 it/\fJ it=true
structure tL(Z:dM)(M:b6)(n:Nat)(C:bT)(f:Nat):Prop where
 e:tL.T1 Z M n C f
 b:tL.T2 Z M n C f
 it:tL.T3 Z M n C f
theorem iw(H:tL Z M n C i)(T:jE Z c):fK Z n c.ns C M (gJ i c m e) e:=(H.e c m e T).1
theorem Qf(h:Jc e=some q):∃p,e=.Call q.1 q.2.1 q.2.2 p:=by
 cases e with
 |Call f args kws p=>exact⟨p,by rw[<-aa h]⟩
 |_=>exact aW h
theorem OV(h:oH c nm e=some as):∃gf p,e=.Call gf as [] p/\cu c gf=some (false,nm)/\as.all bP=true:=
 aw h λq hq h=>j8 h λhc er=>cI hc λhc h3=>cI hc λh1 h2=>by refine fT (Qf hq) λp zz1=>?_;subst zz1;subst er;exact Av q.1 p (by rw[bt.mp h1]) (beq_iff_eq.mp h2) h3
theorem ac1(h:((one args).bind<|oH c nm).bind one=some a):∃gf p,args=[.Call gf [a] [] p]/\cu c gf=some (false,nm)/\bP a=true:=
 aw h λas h1 h2=>aw h1 λe h3 h4=>kK h3 λh3=>kK h2 λh2=>by subst h2 h3;refine jG (OV h4) λgf p zz2 h5 h6=>?_;subst zz2;exact Av gf p rfl h5<|cI h6 λa z=>a
theorem ac0(h:((one args).bind<|oH c nm).bind zV=some q):∃gf p,args=[.Call gf [q.1,q.2] [] p]/\cu c gf=some (false,nm)/\bP q.1=true/\bP q.2=true:=
 aw h λas h1 h2=>aw h1 λe h3 h4=>kK h3 λh3=>Bx h2 λh2=>by subst h2 h3;refine jG (OV h4) λgf p zz2 h5 h6=>?_;subst zz2;exact Av gf p rfl h5<|cI h6 λa b=>⟨a,cI b λb z=>b⟩
theorem W2(B:vo Z K M n C)(H:tL Z M n C i){args:List ao}(T:jE Z c)(hb:cu c fe=some b)(hs:args.all bP=true):fK Z n c.ns C M (trB (i+1) c b args) (.Call fe args [] pos):=by
 have hl:rt Z n c.ns C M (args.map<|gJ i c false) args:=ur (λe=>iw H T) hs;show fK Z n c.ns C M (match BU b with
  |some bi=>.bi bi<|args.map<|gJ i c false
  |none=>match b==(false,"list") with
   |true=>match ((one args).bind<|oH c "range").bind one with
    |some a=>.bi .tC [gJ i c false a]
    |none=>.bi .list<|args.map<|gJ i c false
   |false=>match b==(true,"sorted") with
    |true=>match ((one args).bind<|oH c "set").bind one with
     |some a=>.bi .kh [gJ i c false a]
     |none=>.bi .sorted<|args.map<|gJ i c false
    |false=>ob<|(gd (b==(false,"dict")) ()).bind λz=>(((one args).bind<|oH c "zip").bind zV).map λp=>.bi .lP [gJ i c false p.1,gJ i c false p.2]) _
 cases hp:BU b with
 |some bi=>exact cI (qE (p:=λbi=>yD bi&&FA bi==b) hp) λh1 h2=>Nd T rfl h1 (hb.trans<|congrArg some (beq_iff_eq.mp h2).symm) hs hl
 |none=>
  cases h1:b==(false,"list") with
  |true=>
   have hb:cu c fe=some (false,"list"):=by rw[hb,beq_iff_eq.mp h1]
   cases ha:((one args).bind<|oH c "range").bind one with
   |some a=>refine jG (ac1 ha) λgf p zz2 h5 h6=>?_;subst zz2;exact Gb T rfl hb h5 h6<|iw H T
   |none=>exact Gc T rfl hb hs hl
  |false=>
   cases h2:b==(true,"sorted") with
   |true=>
    have hb:cu c fe=some (true,"sorted"):=by rw[hb,beq_iff_eq.mp h2]
    cases ha:((one args).bind<|oH c "set").bind one with
    |some a=>refine jG (ac1 ha) λgf p zz2 h5 h6=>?_;subst zz2;exact zZ T rfl hb h5 h6<|iw H T
    |none=>exact Nd T rfl rfl hb hs hl
   |false=>
    exact Ga λt ht=>r7 ht λh3 ht=>dj ht λq hq er=>by
     subst er;have hb:cu c fe=some (false,"dict"):=by rw[hb,beq_iff_eq.mp h3]
     refine RK (ac0 hq) λgf p zz2 h5 h6 h7=>?_;subst zz2;exact Dt B.hm T rfl hb h5 h6 h7 (iw H T)<|iw H T
theorem Ir(H:tL Z M n C i)(T:jE Z c):nt Z n c.ns C M .over [qj c (gJ i c false it) it] it:=yl<|vz rfl<|iw H T
theorem TB(h:B6 c it=some q):∃f p,it=.Call f q.2 [] p/\q.2.all bP=true/\cu c f=some (false,Og q.1)/\q.1≠.over:=
 aw h λr hr h=>r7 h λhc h=>dj h λik hk er=>cI hc λh1 h2=>cI (qE (p:=λik=>cu c r.1==some (false,Og ik)&&r.2.1.length==nIK ik) hk) λh3 z=>by refine fT (Qf hr) λp zz1=>?_;subst zz1;subst er;refine VG r.1 p (by rw[bt.mp h1]) h2 (beq_iff_eq.mp h3) λe=>?_;have:=Bj hk;rw[show ik=.over from e] at this;exact absurd this (by decide)
theorem RW(B:vo Z K M n C)(H:tL Z M n C i)(T:jE Z c)(h:FW (i+1) c it=some p):nt Z n c.ns C M p.1 p.2 it/\fJ it=true:=by
 have h:(match B6 c it with
  |some q=>some (q.1,q.2.map λa=>match B8 q.1 with|true=>qj c (gJ i c false a) a|false=>gJ i c false a)
  |none=>gd (fJ it) (IK.over,[qj c (gJ i c false it) it]))=some p:=h
 cases hq:B6 c it with
 |some q=>
  rw[hq] at h;obtain rfl:=aa h;refine RK (TB hq) λf ps zz2 hs hb hk=>?_;subst zz2;have hl:rt Z n c.ns C M (q.2.map λa=>match B8 q.1 with|true=>qj c (gJ i c false a) a|false=>gJ i c false a) q.2:=ur (λa=>by
   cases B8 q.1 with
   |true=>exact vz rfl<|iw H T
   |false=>exact iw H T) hs
  refine⟨?_,rfl⟩;by_cases hz:q.1=.zip
  ·rw[hz] at hb hl ⊢;exact J9 T rfl hb hs hl
  ·exact Gg T rfl hk hz hb hs hl
 |none=>rw[hq] at h;exact j8 h λhn er=>by subst er;exact⟨Ir H T,hn⟩
theorem Zj(h:opE op=some o)(hl:fK Z n ns C M tl l)(hr:fK Z n ns C M tr r):fK Z n ns C M (.bin o tl tr) (.BinOp l op r pos):=by rw[SP h];exact Sk hl hr
theorem jJ(h:∀t,x=some t->sF Z n ns C M t e):sF Z n ns C M (ob x) e:=by
 cases x with
 |none=>exact kJ
 |some t=>exact h t rfl
theorem XI(h:uK e=some es):∃p,e=.List es p:=by
 cases e with
 |List es' p=>exact⟨p,congrArg (λz=>Expr.List z p)<|aa h⟩
 |_=>exact aW h
theorem Zq(h:A4 e=some q):e=.Attribute q.1 q.2.1 q.2.2:=by
 cases e with
 |Attribute o a p=>rw[<-aa h]
 |_=>exact aW h
theorem GC(h:A4 e=none):uh e=true:=by unfold uh;rw[h];rfl
theorem I7(h:Hl e=some k):∃kk p,e=.Constant k kk p:=by
 cases e with
 |Constant k' kk p=>exact⟨kk,p,congrArg (λz=>Expr.Constant z kk p)<|aa h⟩
 |_=>exact aW h
theorem VO(h:Xe e=some x):∃kk p,e=.Constant (.str x) kk p:=
 aw h λk h1 h2=>by
  refine zC (I7 h1) λkk p zz2=>?_;subst zz2;cases k with
  |str y=>exact⟨kk,p,by rw[aa h2]⟩
  |_=>exact aW h2
theorem abg(h:abh e=some x):∃p,e=.UnaryOp .USub x p:=by
 cases e with
 |UnaryOp op y p=>cases op<;>first|exact⟨p,congrArg (λz=>Expr.UnaryOp .USub z p)<|aa h⟩|exact aW h
 |_=>exact aW h
theorem S8(h:yQ e=true):∃k p1 p2,e=.UnaryOp .USub (.Constant (.int 1) k p1) p2:=by
 refine dS ((HO ..).mp h) λk h1 h2=>aw h1 λx h3 h4=>by
  refine fT (abg h3) λp2 zz1=>?_;subst zz1;refine zC (I7 h4) λkk p1 zz2=>?_;subst zz2;cases k with
  |int j=>exact y31 kk p1 p2 (by rw[beq_iff_eq.mp h2])
  |_=>exact ae h2
theorem So(h:yo e=some q):∃p,e=.Slice q.1 q.2.1 q.2.2 p:=by
 cases e with
 |Slice l u st p=>exact⟨p,by rw[<-aa h]⟩
 |_=>exact aW h
theorem abj(h:B7 op=true):op=.Mult:=by cases op<;>first|rfl|exact ae h
theorem fnE(h:WL k=true):k=.function:=by cases k<;>first|rfl|exact ae h
theorem Gk(h:uz c scope=true):pS c.ns scope.names=true/\scope.kind=.function:=cI h λa b=>⟨a,fnE b⟩
theorem UI{tr:ao->Mine.E}(h:∀e,sF Z n ns C M (tr e) e){es:List ao}:sF Z n ns C M (ob<|gd (!es.isEmpty) (match op with|.And=>.and (es.map tr)|.Or=>.or (es.map tr))) (.BoolOp op es pos):=
 jJ λt ht=>j8 ht λhne er=>by
  subst er;cases es with
  |nil=>exact ae hne
  |cons x es=>
   have he:qL Z n ns C M ((x::es).map tr) (x::es):=zb h;cases op with
   |And=>exact⟨Rw he,Np he⟩
   |Or=>exact⟨Xh he,Sn he⟩
theorem Zi{tl:ao->Mine.E}(hl:∀e,fK Z n ns C M (tl e) e):sF Z n ns C M (match (gd (B7 op) ()).bind λz=>uK l with
  |some es=>ob<|(one es).bind λx=>gd (bP x)<|.rep m (tl x)<|tl r
  |none=>ob<|(opE op).map λo=>.bin o (tl l)<|tl r) (.BinOp l op r pos):=by
 cases h:(gd (B7 op) ()).bind λz=>uK l with
 |some es=>exact r7 h λhm hx=>jJ λt ht=>aw ht λx h1 ht=>j8 ht λh2 er=>by subst er;refine fT (XI hx) λp zz1=>?_;subst zz1;obtain rfl:=kK h1 id;obtain rfl:=abj hm;exact eJ (Sf (hl x) (hl r) h2) λz=>rfl
 |none=>exact jJ λt ht=>dj ht λo ho er=>by subst er;exact eJ (Zj ho (hl l)<|hl r) λz=>rfl
theorem Ur(hm:∃o,Z.base sysModules=some o):sF Z n ns C M (FX m ks vs) (.Dict ks vs pos):=by
 unfold FX;cases h:ks.isEmpty&&vs.isEmpty with
 |true=>exact cI h λh1 h2=>by obtain rfl:=bt.mp h1;obtain rfl:=bt.mp h2;exact eJ (JZ hm) λz=>rfl
 |false=>exact jJ λt ht=>dj ht λp hp er=>by subst er;exact aw hp λk h1 hp=>aw hp λk' h2 hp=>aw hp λx h3 hp=>aw hp λv h4 hp=>dj hp λy h5 er=>by subst er h2;obtain rfl:=kK h1 id;obtain rfl:=kK h4 id;refine zC (VO h3) λz z zz2=>?_;subst zz2;refine zC (VO h5) λz z zz2=>?_;subst zz2;exact eJ (JY hm) λz=>rfl
theorem Xc{tr:ao->Mine.E}(h:∀e,fK Z n ns C M (tr e) e):sF Z n ns C M (match yo s with
  |some q=>match q.1,q.2.1,q.2.2 with
   |none,none,some e=>ob<|gd (yQ e)<|.yp<|tr v
   |none,some u,none=>.kb (tr v)<|tr u
   |some l,none,none=>.kc (tr v)<|tr l
   |_,_,_=>.bad
  |none=>.sub (tr v)<|tr s) (.Subscript v s pos):=by
 cases hs:yo s with
 |none=>exact eJ (Sd (h v) (h s) (by unfold uG;rw[hs];rfl)) λz=>rfl
 |some q=>
  refine fT (So hs) λp zz1=>?_;subst zz1;obtain⟨l,u,st⟩:=q;cases l with
  |none=>
   cases u with
   |none=>
    cases st with
    |none=>exact kJ
    |some e=>exact jJ λt ht=>j8 ht λhm er=>by subst er;refine VH (S8 hm) λk p1 p2 zz3=>?_;subst zz3;exact eJ (JW<|h v) λz=>rfl
   |some u=>
    cases st with
    |none=>exact eJ (M6 (h v)<|h u) λz=>rfl
    |some _=>exact kJ
  |some l=>
   cases u with
   |none=>
    cases st with
    |none=>exact eJ (F9 (h v)<|h l) λz=>rfl
    |some _=>exact kJ
   |some _=>exact kJ
theorem Zb{tr:ao->Mine.E}(h:∀e,fK Z n ns C M (tr e) e):sF Z n ns C M (match zV ops with
  |none=>ob<|(one ops).bind λo=>(one rs).bind λr=>gd (fJ r)<|.cmp (Lg o) (tr l)<|tr r
  |some o=>ob<|(zV rs).bind λr=>gd (fJ r.2)<|.CC (Lg o.1) (Lg o.2) (tr l) (tr r.1)<|tr r.2) (.Compare l ops rs pos):=by
 cases h2:zV ops with
 |none=>exact jJ λt ht=>aw ht λo h1 ht=>aw ht λr h3 ht=>j8 ht λhs er=>by subst er;obtain rfl:=kK h1 id;obtain rfl:=kK h3 id;exact⟨Sj (h l) (h r) hs,Nm (h l) (h r) hs⟩
 |some o=>exact jJ λt ht=>aw ht λr h3 ht=>j8 ht λhs er=>by subst er;obtain rfl:=Bx h2 id;obtain rfl:=Bx h3 id;exact⟨Na (h l) (h r.1) (h r.2) hs,Ka (h l) (h r.1) (h r.2) hs⟩
theorem UC(B:vo Z K M n C)(H:tL Z M n C i)(T:jE Z c){args:List ao}{kws:List Keyword}{pos:Pos}:sF Z n c.ns C M (ob ((gd (kws.isEmpty&&args.all bP) ()).bind λz=>match A4 f with
   |some q=>(gd (!jz q.1&&decide (c.at_ q.2.1<iY)&&q.2.2.endLine==pos.line&&decide (args.length<30)) ()).bind λz=>match c.at_ q.2.1==xr with
    |true=>(one args).map λe=>.bx (gJ i c false q.1) (c.at_ q.2.1) [qj c (gJ i c true e) e]
    |false=>some<|.bx (gJ i c false q.1) (c.at_ q.2.1)<|args.map<|gJ i c<|c.at_ q.2.1==n5
   |none=>match cu c f with
    |some b=>some<|trB i c b args
    |none=>some<|.call (gJ i c false f)<|args.map<|gJ i c false)) (.Call f args kws pos):=
 jJ λt ht0=>r7 ht0 λhc ht=>cI hc λhk hs=>by
  obtain rfl:=bt.mp hk;refine eJ ?_ λz=>rfl;have lst:∀{m:Bool},rt Z n c.ns C M (args.map<|gJ i c m) args:=ur (λe=>iw H T) hs;cases hq:A4 f with
  |some q=>
   rw[hq] at ht;obtain rfl:=Zq hq;exact r7 ht λhd hw=>cI hd λhd h4=>cI hd λhd h3=>cI hd λh1 h2=>by
    have h1:=ug h1;have h2:=fX h2;cases ha:c.at_ q.2.1==xr with
    |true=>rw[ha] at hw;exact dj hw λe he er=>by subst er;obtain rfl:=kK he id;exact Ds B.O B.N B.hC (iw H T) (lE (cI hs λa z=>a) (vz rfl<|iw H T) oQ) hs (fX h4) h2 (T.at_ _ h2) h1 h3
    |false=>rw[ha] at hw;obtain rfl:=aa hw;exact Ds B.O B.N B.hC (iw H T) lst hs (fX h4) h2 (T.at_ _ h2) h1 h3
  |none=>
   rw[hq] at ht;cases hb:cu c f with
   |some b=>rw[hb] at ht;obtain rfl:=aa ht;exact H.b c b args f pos T hb hs
   |none=>rw[hb] at ht;obtain rfl:=aa ht;exact Nb B.hC (iw H T) lst hs<|GC hq
theorem G6{g:Comprehension}(h:(g.is_async==0)=true):g=⟨g.target,g.iter,g.ifs,0⟩:=by obtain⟨a,b,d,k⟩:=g;rw[show k=0 from beq_iff_eq.mp h]
theorem Cg{g:Comprehension}(h:(g.is_async==0)=true)(hi:g.ifs.isEmpty=true):g=⟨g.target,g.iter,[],0⟩:=by have:=G6 h;rwa[bt.mp hi] at this
theorem Tr(H:tL Z M n C i)(T:jE Z c):sF Z n c.ns C M (ob ((gd (uz c scope) ()).bind λz=>match zV gens with
   |none=>(one gens).bind λg=>(gd (g.is_async==0) ()).bind λz=>(ye (fw c scope) g.target).bind λtn=>(FW i c g.iter).map λp=>
     .comp (m&&(uK elt).isSome) (jV c scope) (gJ i (fw c scope) (m&&(uK elt).isSome) elt) tn p.1 p.2 (g.ifs.map<|gJ i (fw c scope) false)
   |some g=>(gd (g.1.is_async==0&&g.2.is_async==0&&g.1.ifs.isEmpty&&g.2.ifs.isEmpty&&fJ g.2.iter) ()).bind λz=>
     (ye (fw c scope) g.1.target).bind λtn=>(ye (fw c scope) g.2.target).bind λtn2=>(FW i c g.1.iter).map λp=>
     .Ez (jV c scope) (gJ i (fw c scope) false elt) tn p.1 p.2 tn2 (gJ i (fw c scope) false g.2.iter))) (.ListComp elt gens scope pos):=
 jJ λt ht=>r7 ht λhso ht=>by
  refine kg (Gk hso) λh1 h2=>?_;have Tn:=T.fw scope.names;cases hg:zV gens with
  |none=>rw[hg] at ht;exact aw ht λg h3 ht=>r7 ht λh4 ht=>aw ht λtn h5 ht=>dj ht λp h6 er=>by subst er;obtain rfl:=kK h3 id;refine kg (H.it c _ p T h6) λhI hs=>?_;rw[G6 h4];exact eJ (Du hI (rP h5) (zb λe=>H.e (fw c scope) false e Tn) (iw H Tn) h1 h2 hs rfl) λz=>rfl
  |some g=>rw[hg] at ht;exact r7 ht λhc ht=>aw ht λtn h5 ht=>aw ht λtn2 h6 ht=>dj ht λp h7 er=>cI hc λhc h8=>cI hc λhc h9=>cI hc λhc h10=>cI hc λh11 h12=>by subst er;obtain rfl:=Bx hg id;refine kg (H.it c _ p T h7) λhI hs=>?_;rw[Cg h11 h10,Cg h12 h9];exact eJ (J1 hI (rP h5) (rP h6) (yl<|iw H Tn) (iw H Tn) h1 h2 hs h8 rfl) λz=>rfl
theorem P1(B:vo Z K M n C)(H:tL Z M n C i)(T:jE Z c):sF Z n c.ns C M (ob<|(gd (uz c scope) ()).bind λz=>(one gens).bind λg=>(gd (g.is_async==0&&g.ifs.isEmpty&&fJ g.iter) ()).bind λz=>
    (ye (fw c scope) g.target).map λtn=>.AX (jV c scope) (gJ i (fw c scope) false k) (gJ i (fw c scope) false v) tn<|qj c (gJ i c false g.iter) g.iter) (.DictComp k v gens scope pos):=
 jJ λt ht=>r7 ht λhso ht=>aw ht λg h3 ht=>r7 ht λhc ht=>dj ht λtn h5 er=>cI hc λhc h8=>cI hc λh9 h10=>by subst er;refine kg (Gk hso) λh1 h2=>?_;have Tn:=T.fw scope.names;obtain rfl:=kK h3 id;rw[Cg h9 h10];exact eJ (J0 B.hm (Ir H T) (rP h5) (iw H Tn) (iw H Tn) h1 h2 h8 rfl) λz=>rfl
theorem W1(B:vo Z K M n C)(H:tL Z M n C i)(T:jE Z c):sF Z n c.ns C M (gJ (i+1) c m e) e:=by
 have tr:∀{m:Bool} e,fK Z n c.ns C M (gJ i c m e) e:=λe=>iw H T;have trb:=λ{m e}=>(H.e c m e T).2;have lst:∀{m:Bool}{es:List Expr},es.all bP=true->rt Z n c.ns C M (es.map<|gJ i c m) es:=λhs=>ur tr hs;cases e with
 |BoolOp op es pos=>exact UI λe=>H.e c false e T
 |BinOp l op r pos=>exact Zi tr
 |UnaryOp op x pos=>
  cases op with
  |Not=>exact⟨Sg<|tr x,Nk trb⟩
  |USub=>exact eJ (Ib<|tr x) λz=>rfl
  |_=>exact kJ
 |IfExp t b o pos=>exact⟨Sh trb (tr b)<|tr o,Nl trb trb trb⟩
 |Dict ks vs pos=>exact Ur B.hm
 |ListComp elt gens scope pos=>exact Tr H T
 |DictComp k v gens scope pos=>exact P1 B H T
 |Compare l ops rs pos=>exact Zb tr
 |Call f args kws pos=>exact UC B H T
 |Constant k kk pos=>
  cases k with
  |none=>exact eJ M7 λz=>rfl
  |bool b=>exact eJ Nc λz=>rfl
  |int j=>exact eJ Ic λz=>rfl
  |str x=>exact eJ Se λz=>rfl
  |_=>exact kJ
 |Attribute o a pos=>exact jJ λt ht=>j8 ht λhc er=>cI hc λh1 h2=>by subst er;exact eJ (Nf B.O (tr o) (fX h2) (T.at_ _<|fX h2)<|ug h1) λz=>rfl
 |Subscript v sl pos=>exact Xc tr
 |Name x pos=>exact eJ (M8 T rfl) λz=>rfl
 |List es pos=>exact jJ λt ht=>j8 ht λhs er=>by subst er;exact eJ (M9<|lst hs) λz=>rfl
 |Tuple es k pos=>exact jJ λt ht=>j8 ht λhs er=>by subst er;exact eJ (R9<|lst hs) λz=>rfl
 |_=>exact kJ
theorem H4(B:vo Z K M n C)(i:Nat):tL Z M n C i:=by
 induction i with
 |zero=>exact⟨λc m e T=>kJ,λc b args fe pos T z z=>Ie,λc it p T h=>aW h⟩
 |succ i ih=>exact⟨λc m e T=>W1 B ih T,λc b args fe pos T hb hs=>W2 B ih T hb hs,λc it p T h=>RW B ih T h⟩
end
section
variable{Z:dM}{C:bT}{M:b6}{K:Frag}{n:Nat}{ns:bX}{c:TC}{σ bk:bo}{env:Env}{i:Nat}{fe:Env->Prop}
theorem RU(h:∀e t,tr e=some t->Ai Z n ns C M t e):∀{es:List ao}{ts:List T},Ow tr es=some ts->es.all bP=true->ts.length=es.length/\zv Z n ns C M ts es:=λ{es}=>by
 induction es with
 |nil=>intro is h1 _;obtain rfl:=aa h1;exact⟨rfl,vA⟩
 |cons e es ih=>exact λh1 hs=>aw h1 λj h2 h1=>dj h1 λjs h3 er=>cI hs λs1 s2=>er▸(ih h3 s2).elim λa2 a3=>⟨congrArg kr a2,pE s1 (h _ _ h2) a3⟩
theorem uo(h:WZ i c (.Name x pos)=some t):∃j k,t=.nm j/\fo x c.ns 0=some (j,k)/\(k=.local\/k=.cell):=by
 cases i with
 |zero=>exact aW h
 |succ i=>exact aw h λp h1 h=>j8 h λhk er=>⟨p.1,p.2,er.symm,h1,BC hk⟩
theorem WY(B:vo Z K M n C){i:Nat}:∀{e:ao}{t:T},jE Z c->WZ i c e=some t->Ai Z n c.ns C M t e:=by
 induction i with
 |zero=>exact λz h=>aW h
 |succ i ih=>
  intro e t T h;have tr:∀{m:Bool}{e:Expr},fK Z n c.ns C M (gJ i c m e) e:=((H4 B i).e c _ _ T).1;cases e with
  |Name x p=>refine jG (uo h) λj k zz2 h1 h2=>?_;subst zz2;exact rM h1 h2
  |Attribute o a p=>exact j8 h λha er=>by subst er;exact Sm B.O tr<|T.at_ _<|fX ha
  |Subscript o s p=>exact j8 h λha er=>by subst er;exact Sl tr tr
  |Tuple es k p=>exact r7 h λhs h=>dj h λts h1 er=>by subst er;refine kg (RU (λe t=>ih T) h1 hs) λa1 a2=>BF hs a1 a2
  |_=>exact aW h
theorem yk:nr Z n ns C M fe .bad s:=λσ bk fl ev=>aW ev
theorem Dv:nr Z n ns C M fe (.asg t .bad) s:=λσ bk fl ev=>aW ev
theorem tF(h:lA e=true):∃x p,e=.Name x p:=by cases e<;>first|exact⟨_,_,rfl⟩|exact ae h
theorem XX(h:V5 e=true):∃elt g scope pos,e=.ListComp elt [g] scope pos:=by
 cases e with
 |ListComp elt gs scope pos=>
  cases gs with
  |nil=>exact ae h
  |cons g gs=>
   cases gs with
   |nil=>exact y41 elt g scope pos rfl
   |cons _ _=>exact ae h
 |_=>exact ae h
theorem UK(B:vo Z K M n C)(T:jE Z c)(ht:WZ i c (.Name x xp)=some tt):nr Z n c.ns C M fe (.asg tt<|gJ i c true<|.ListComp elt [g] scope cpos) (.Assign [.Name x xp] (.ListComp elt [g] scope cpos) pos):=by
 cases i with
 |zero=>exact aW ht
 |succ i=>
  have H:=H4 B i;refine jG (uo ht) λj k zz2 a1 a2=>?_;subst zz2;have key:∀r,ob r=gJ (i+1) c true (.ListComp elt [g] scope cpos)->(∀t,r=some t->nr Z n c.ns C M fe (.asg (.nm j) t) (.Assign [.Name x xp] (.ListComp elt [g] scope cpos) pos))->nr Z n c.ns C M fe (.asg (.nm j)<|gJ (i+1) c true<|.ListComp elt [g] scope cpos) (.Assign [.Name x xp] (.ListComp elt [g] scope cpos) pos):=λr hr h=>by
   rw[<-hr];cases r with
   |none=>exact Dv
   |some t=>exact h t rfl
  exact key _ rfl λt ht=>r7 ht λhso ht=>aw ht λg' hg ht=>r7 ht λh4 ht=>aw ht λtn h5 ht=>dj ht λp h6 er=>by subst er;obtain rfl:=aa hg;refine kg (Gk hso) λh1 h2=>?_;have Tn:=T.fw scope.names;refine kg (H.it c _ p T h6) λhI hs=>?_;rw[G6 h4];exact J6 hI (rP h5) (zb λe=>H.e (fw c scope) false e Tn) (iw H Tn) h1 h2 hs rfl a1 a2
theorem JN{i:Nat}(ht:WZ i c (.Tuple [.Name x px,.Name y py] k p)=some tt):∃j1 k1 j2 k2,tt=.tp [.nm j1,.nm j2]/\fo x c.ns 0=some (j1,k1)/\(k1=.local\/k1=.cell)/\fo y c.ns 0=some (j2,k2)/\(k2=.local\/k2=.cell):=by
 cases i with
 |zero=>exact aW ht
 |succ i=>exact dj ht λts h er=>aw h λt1 q1 h=>dj h λts2 h er2=>aw h λt2 q2 h=>dj h λts3 h er3=>by obtain rfl:=aa h;subst er er2 er3;refine jG (uo q1) λj1 k1 zz2 a1 a2=>?_;subst zz2;refine jG (uo q2) λj2 k2 zz2 b1 b2=>?_;subst zz2;exact y45 j1 k1 j2 k2 rfl a1 a2 b1 b2
theorem Zr(B:vo Z K M n C)(T:jE Z c)(h1:Qq t e=true)(hs:bP t=true)(ht:WZ i c t=some tt):nr Z n c.ns C M fe (.asg tt<|gJ i c true e) (.Assign [t] e pos):=by
 have hT:=WY B T ht;have tr:∀{m:Bool}{e:Expr},fK Z n c.ns C M (gJ i c m e) e:=((H4 B i).e c _ _ T).1;unfold Qq at h1;cases hq:(By t).bind λts=>(By e).map λvs=>(ts,vs) with
 |some q=>
  rw[hq] at h1;exact aw hq λts h2 hq=>dj hq λvs h3 er=>cI h1 λhg hn2=>by
   have hg:oK vs=true:=by rw[<-er] at hg;exact hg
   have hn2:((ts.any λe=>!lA e)||ts.length==2)=true:=by rw[<-er] at hn2;exact hn2
   refine zC (MS h2) λk p zz2=>?_;subst zz2;refine zC (MS h3) λk' p' zz2=>?_;subst zz2;cases hn:ts.any λe=>!lA e with
   |true=>exact J5 hT tr hg hn
   |false=>
    rw[hn] at hn2;refine zC (V1<|beq_iff_eq.mp hn2) λa b zz2=>?_;subst zz2
    ·have hn':=Mp.mp hn;have nm:∀e∈[a,b],lA e=true:=λe he=>by
      cases q:lA e with
      |true=>rfl
      |false=>exact absurd (by rw[q];rfl)<|hn' e he
     refine zC (tF<|nm a (ax ..)) λx px zz2=>?_;subst zz2;refine zC (tF<|nm b<|az _ (ax ..)) λy py zz2=>?_;subst zz2;refine x45 (JN ht) λj1 k1 j2 k2 zz4 a1 a2 b1 b2=>?_;subst zz4;exact J7 a1 a2 b1 b2 tr hg
 |none=>
  rw[hq] at h1;exact cI h1 λhw hu=>by
   cases hu0:yG t e with
   |true=>exact Dw hT tr hu0 (λenv V=>F6 hw) hs
   |false=>
    rw[hu0] at hu;have hnm:lA t=true:=by
     cases q:lA t with
     |true=>rfl
     |false=>unfold yG at hu0;rw[q,Bool.not_false,Bool.or_true] at hu0;exact ae hu0
    refine zC (tF hnm) λx xp zz2=>?_;subst zz2;refine x41 (XX hu) λelt g scope cpos zz4=>?_;subst zz4;exact UK B T ht
theorem rN(h:∀s,nr Z n ns C M fe (tr s) s){ss:List Stmt}:sW Z n ns C M fe (ss.map tr) ss:=by
 induction ss with
 |nil=>exact AA
 |cons s ss ih=>exact yj (h s)<|ih
theorem rO(h:∀t,x=some t->nr Z n ns C M fe t s):nr Z n ns C M fe (XA x) s:=by
 cases x with
 |none=>exact yk
 |some t=>exact h t rfl
theorem W0(B:vo Z K M n C)(T:jE Z c){i:Nat}:∀{s:Stmt},nr Z n c.ns C M fe (Z4 i c s) s:=by
 induction i with
 |zero=>exact yk
 |succ i ih=>
  intro s;have H:=H4 B i;have tr:∀{m:Bool}{e:Expr},fK Z n c.ns C M (gJ i c m e) e:=(H.e c _ _ T).1;have trb:∀{m:Bool}{e:Expr},nQ Z n c.ns C M (gJ i c m e) e:=(H.e c _ _ T).2;cases s with
  |Expr e p=>exact rO λt ht=>j8 ht λhc er=>by subst er;exact J3 tr hc
  |Assign ts v p=>exact rO λt ht=>aw ht λx h1 ht=>r7 ht λhc ht=>dj ht λtt h2 er=>cI hc λa b=>by subst er;obtain rfl:=kK h1 id;exact Zr B T a b h2
  |If t a b p=>exact Nh trb (rN λs=>ih)<|rN λs=>ih
  |For t it body orelse p=>exact rO λu ht=>r7 ht λho ht=>aw ht λtn h1 ht=>dj ht λp h2 er=>by subst er;obtain rfl:=bt.mp ho;refine kg (H.it c _ p T h2) λhI hs=>Ni hI (rP h1) (rN λs=>ih) hs
  |While t body orelse p=>exact rO λu ht=>j8 ht λho er=>by subst er;obtain rfl:=bt.mp ho;exact Ge trb<|rN λs=>ih
  |Return v p=>exact rO λu ht=>dj ht λe h1 er=>by subst er h1;exact Ng tr
  |_=>exact yk
theorem aaH(h:Ca k=true):k=.cell\/k=.free:=by cases k<;>first|exact .inl rfl|exact .inr rfl|exact ae h
theorem Df(B:vo Z K M n C)(T:jE Z c)(hN:∀name params body scope pos x,s=.FunctionDef name params body [] none [] scope none name pos->pK scope.names=some x->tM Z mg (c.nst name) fe name params body scope pos x):nr Z n c.ns C M fe (VM c s) s:=by
 cases s with
 |FunctionDef name params body decs ret tps scope tscope bind pos=>exact rO λu ht=>r7 ht λhc ht=>aw ht λp h1 ht=>aw ht λx h2 ht=>aw ht λq h3 ht=>j8 ht λhk er=>cI hc λhc c5=>cI hc λhc c4=>cI hc λhc c3=>cI hc λc1 c2=>cI hk λk1 k2=>by subst er;obtain rfl:=bt.mp c1;obtain rfl:=bM.mp c2;obtain rfl:=bt.mp c3;obtain rfl:=bM.mp c4;obtain rfl:=oO c5;exact J4 (hN _ _ _ _ _ _ rfl h2) h1 (BC k1) h3 (aaH k2) h2
 |_=>exact W0 B T
end
structure A8(p:fh):Prop where
 pos:p.posonlyargs=[]
 kwo:p.kwonlyargs=[]
 va:p.vararg=none
 kwa:p.kwarg=none
theorem wR{ps:List Str}:∀{vs:List Value},x∉ps.take vs.length->(ps.zip vs).lookup x=none:=by
 induction ps with
 |nil=>intro vs h;rfl
 |cons p ps ih=>
  intro vs h;cases vs with
  |nil=>rfl
  |cons v vs=>simp only[cZ,tU,aV,not_or] at h;rw[kz,ck,beq_eq_false_iff_ne.mpr h.1];exact ih h.2
theorem qd{ps:List Str}:∀{vs:List Value},x∈ps.take vs.length->((ps.zip vs).lookup x).isSome=true:=by
 induction ps with
 |nil=>intro vs h;simp at h
 |cons p ps ih=>
  intro vs h;cases vs with
  |nil=>simp at h
  |cons v vs=>
   simp only[cZ,tU,aV] at h;rw[kz,ck];by_cases hx:x=p
   ·subst hx;simp
   ·rw[beq_eq_false_iff_ne.mpr hx];exact ih<|h.resolve_left hx
theorem RI(n:Nat)(l:List α)(r:List β):(l.zip r).drop n=(l.drop n).zip (r.drop n):=List.drop_zipWith
theorem HX(n:Nat)(l:List α)(r:List β):(l.zip r).take n=(l.take n).zip (r.take n):=List.take_zipWith
theorem WO(l:List α)(r:List β):l.zip r=(l.take r.length).zip r:=by
 conv=>lhs;rw[<-dG (l:=l.zip r) (i:=r.length) (by rw[Rj];omega)]
 rw[HX,dG<|aG _]
theorem Pz{α β:Type}{f g:α->Option β}{l:List α}:(∀x∈l,f x=g x)->l.filterMap f=l.filterMap g:=by
 induction l with
 |nil=>intro _;exact rfl
 |cons a l ih=>intro h;rw[fG,fG,h a (by simp),ih λx hx=>h x<|by simp[hx]]
theorem zY{ps:List Str}(hn:ps.Nodup):∀{vs:List Value},ps.length=vs.length->(ps.filterMap λn=>((ps.zip vs).lookup n).map (n,·))=ps.zip vs:=by
 induction ps with
 |nil=>intro vs h;rfl
 |cons p ps ih=>
  intro vs h;cases vs with
  |nil=>simp at h
  |cons v vs=>
   have hn':=eW.mp hn;rw[fG];have:(((p::ps).zip<|v::vs).lookup p).map (p,·)=some (p,v):=by rw[kz,ck];simp
   rw[this];dsimp only;rw[kz];congr 1;rw[Pz λx hx=>?_]
   ·exact ih hn'.2 (by simpa using h)
   ·have hne:x≠p:=λe=>hn'.1<|e▸hx;rw[ck,beq_eq_false_iff_ne.mpr hne]
section
variable{M:Model}{A:bD}{E:Value->Shared->Prop}{s:Shared}
theorem PE(f:Str×Value->List (Str×Value)->Al (ForInStep<|List<|Str×Value))
  (hf:∀n d r,f (n,d) r=if(r.lookup n).isNone=true then pure (.yield<|r++[(n,d)]) else pure (.yield r)):
  ∀(l2 r:List (Str×Value)),(∀p∈l2,(r.lookup p.1)=none)->(l2.map (·.1)).Nodup->Q (r++l2) s->av M A (forIn l2 r f) Q E s:=λl2=>by
 induction l2 with
 |nil=>intro r _ _ h;rw[bj] at h;exact ab h
 |cons p l2 ih=>intro r h2 hn h;obtain⟨n,d⟩:=p;have hn':=eW.mp hn;have e:=(hf n d r).trans (if_pos (by rw[h2 (n,d) (ax ..)];rfl));rw[cA,e];refine aX (ab<|ih _ (λp hp=>?_) hn'.2 (by rw[aO];exact h));rw[LD,h2 p<|az _ hp,Option.none_or,ck,beq_eq_false_iff_ne.mpr (λe:p.1=n=>hn'.1<|bI.mpr ⟨p,hp,e⟩)];rfl
theorem K0(f:Str×Value->List (Str×Value)->Al (ForInStep<|List<|Str×Value))
  (hf:∀n d r,f (n,d) r=if(r.lookup n).isNone=true then pure (.yield<|r++[(n,d)]) else pure (.yield r)) (h2:∀p∈l2,(r.lookup p.1)=none) (hn:(l2.map (·.1)).Nodup) (h:Q (r++l2) s):
  ∀{l1:List (Str×Value)},(∀p∈l1,(r.lookup p.1).isSome=true)->av M A (forIn (l1++l2) r f) Q E s:=λ{l1}=>by
 induction l1 with
 |nil=>intro _;exact PE f hf l2 r h2 hn h
 |cons p l1 ih=>intro h1;obtain⟨n,d⟩:=p;have e:=(hf n d r).trans (if_neg λe=>by have:=h1 (n,d) (ax ..);rw[bM.mp e] at this;exact ae this);rw[List.cons_append,cA,e];exact aX<|ab<|ih λp hp=>h1 p<|az _ hp
def EP(h:Heap)(d:Value)(ds:List Value):Prop:=(d=.none/\ds=[])\/∃T o n vs,d=.ref T/\h.get? T=some o/\o.data=.seq vs n/\ds=vs.toList
theorem wpN(hc:c=false)(h:av M A b Q E s):av M A (if c=true then a else b) Q E s:=by subst hc;exact h
theorem Et{ps:List Str}{ds:List Value}(h3:ds.length<=ps.length):ds.drop (ds.length-ps.length)=ds:=by rw[Nat.sub_eq_zero_of_le h3];rfl
theorem PZ{ps:List Str}{vals ds:List Value}(h2:ps.length<=vals.length+ds.length)(h3:ds.length<=ps.length):(!((ps.take<|ps.length-(ds.drop<|ds.length-ps.length).length).filter λn=>((ps.zip vals).lookup n).isNone).isEmpty)=false:=by
 have hmiss:((ps.take<|ps.length-ds.length).filter λn=>((ps.zip vals).lookup n).isNone)=[]:=by rw[List.filter_eq_nil_iff];intro x hx e;have:=qd<|List.take_subset_take_left ps (JE h2) hx;rw[bM.mp e] at this;exact ae this
 rw[Et h3,hmiss];rfl
theorem Lb{ps:List Str}{vals ds:List Value}(h2:ps.length<=vals.length+ds.length)(h3:ds.length<=ps.length):(ps.drop<|ps.length-(ds.drop<|ds.length-ps.length).length).zip (ds.drop<|ds.length-ps.length)=((ps.drop<|ps.length-ds.length).zip ds).take (vals.length+ds.length-ps.length)++(ps.drop vals.length).zip (ds.drop<|vals.length+ds.length-ps.length):=by
 rw[Et h3]
 conv=>lhs;rw[<-dt (vals.length+ds.length-ps.length)<|(ps.drop<|ps.length-ds.length).zip ds]
 congr 1;rw[RI,Vw];congr 2;exact ac5 h2 h3
theorem PY{ps:List Str}{vals ds:List Value}(h1:vals.length<=ps.length)(h2:ps.length<=vals.length+ds.length)(h3:ds.length<=ps.length)(p:Str×Value)(hp:p∈((ps.drop<|ps.length-ds.length).zip ds).take (vals.length+ds.length-ps.length)):((ps.zip vals).lookup p.1).isSome=true:=by
 have hp':p.1∈((ps.drop<|ps.length-ds.length).take<|vals.length+ds.length-ps.length):=by rw[HX] at hp;exact(Rh hp).1
 refine qd ?_;rw[List.take_drop] at hp';have:=List.mem_of_mem_drop hp';rwa[show ps.length-ds.length+(vals.length+ds.length-ps.length)=vals.length from arB h1 h2 h3] at this
theorem Ut{ps:List Str}{vals rr:List Value}(hn:ps.Nodup)(p:Str×Value)(hp:p∈(ps.drop vals.length).zip rr):(ps.zip vals).lookup p.1=none:=by have hp':=(Rh hp).1;refine wR λhm=>?_;rw[<-dt vals.length ps] at hn;exact(c9.mp hn).2.2 _ hm _ hp' rfl
theorem Lc{ps:List Str}{vals ds:List Value}(hn:ps.Nodup)(h1:vals.length<=ps.length)(h2:ps.length<=vals.length+ds.length)(h3:ds.length<=ps.length):(((ps.drop vals.length).zip<|ds.drop<|vals.length+ds.length-ps.length).map (·.1)).Nodup:=by rw[p6 (by rw[f9,f9];omega)];exact hn.sublist<|List.drop_sublist _ _
theorem Uu{ps:List Str}{vals ds:List Value}(hn:ps.Nodup)(h1:vals.length<=ps.length)(h2:ps.length<=vals.length+ds.length)(h3:ds.length<=ps.length):((ps++[]).filterMap λn=>((ps.zip vals++(ps.drop vals.length).zip (ds.drop<|vals.length+ds.length-ps.length)).lookup n).map (n,·))=ps.zip (vals++ds.drop (vals.length+ds.length-ps.length)):=by
 have hz:ps.zip vals++(ps.drop vals.length).zip (ds.drop<|vals.length+ds.length-ps.length)=ps.zip (vals++ds.drop (vals.length+ds.length-ps.length)):=by
  generalize ds.drop (vals.length+ds.length-ps.length)=rr
  conv=>rhs;rw[<-dt vals.length ps]
  rw[List.zip_append (by simp;exact fc h1)];congr 1;exact WO ps vals
 rw[hz,bj,zY hn (by simp;omega)]
theorem Ue{f:Str×Value->List (Str×Value)->Al (ForInStep<|List<|Str×Value)}
  (hf:∀n d r,f (n,d) r=if(r.lookup n).isNone=true then pure (.yield<|r++[(n,d)]) else pure (.yield r)) {Q:List (Str×Value)->Shared->Prop} (e:l=l1++l2) (h2:∀p∈l2,(r.lookup p.1)=none) (hn:(l2.map (·.1)).Nodup) (h1:∀p∈l1,(r.lookup p.1).isSome=true) (h:Q (r++l2) s):av M A (forIn l r f) Q E s:=by
 subst e;exact K0 f hf h2 hn h h1
theorem Ld(hd:EP s.heap d ds):∃o:Option (Array Value),ds=(o.getD #[]).toList/\∀Q:Option (Array Value)->Shared->Prop,Q o s->av M A (seqItems? d) Q E s:=by
 rcases hd with ⟨e,rfl⟩|⟨T,o,n,vs,e,ho,hs,rfl⟩
 ·exact⟨none,rfl,λQ h=>by rw[e];exact ab h⟩
 ·exact⟨some vs,rfl,λQ h=>by rw[e];exact fV ho hs h⟩
theorem Lp{fd:FuncData}(P:A8 fd.params){vals ds:List Value}(hd:EP s.heap fd.defaults ds)(hn:(fd.params.args.map (·.arg)).Nodup)(h1:vals.length<=fd.params.args.length)(h2:fd.params.args.length<=vals.length+ds.length)(h3:ds.length<=fd.params.args.length)
  {Q:List (Str×Value)->Shared->Prop} (h:Q ((fd.params.args.map (·.arg)).zip<|vals++ds.drop (vals.length+ds.length-fd.params.args.length)) s):av M A (bindArgs fd ⟨vals,[]⟩) Q E s:=by
 refine dS (Ld (M:=M) (A:=A) (E:=E) hd) λo zz1 hseq=>?_
 subst zz1
 clear hd
 obtain⟨_,_,⟨po,args,va,kwo,_,kwa,_⟩,_,_,_,_,dd,_,_,_,_⟩:=fd
 have p1:=P.pos
 have p2:va=none:=P.va
 have p3:kwo=[]:=P.kwo
 have p4:kwa=none:=P.kwa
 clear P
 subst p1 p2 p3 p4
 have hl:(args.map (·.arg)).length=args.length:=ag _
 have h:Q ((args.map (·.arg)).zip<|vals++(o.getD #[]).toList.drop (vals.length+(o.getD #[]).toList.length-(args.map (·.arg)).length)) s:=hl.symm▸h
 have h1:=hl.symm▸h1
 have h2:=hl.symm▸h2
 have h3:=hl.symm▸h3
 refine aX<|ab<|aX<|hseq _<|wpN ?_<|wpN (PZ h2 h3)<|aX<|Ue (λz z z=>rfl) (Lb h2 h3) (Ut hn) (Lc hn h1 h2 h3) (PY h1 h2 h3)<|aX<|ab<|vp<|ab ?_
 ·show(decide (vals.length>(args.map (·.arg)).length)&&true)=false;rw[mo,decide_eq_false<|vk.mpr h1]
 ·exact Uu hn h1 h2 h3▸h
end
theorem XO(cs:List Nat):∀(ks:List NK)(vs:List SV)(st st2:List SO),st.length=st2.length->(cM ks vs cs st).1=(cM ks vs cs st2).1/\∃m,(cM ks vs cs st).2=st++m/\(cM ks vs cs st2).2=st2++m:=λks=>by
 induction ks with
 |nil=>exact λvs st st2 z=>⟨rfl,[],(bj _).symm,(bj _).symm⟩
 |cons k ks ih=>
  intro vs st st2 h;cases k with
  |loc=>obtain⟨a,r⟩:=ih vs.tail st st2 h;exact⟨congrArg (V9 vs::·) a,r⟩
  |Z6 i=>obtain⟨a,r⟩:=ih vs st st2 h;exact⟨congrArg (_::·) a,r⟩
  |sD=>obtain⟨a,m,b,c⟩:=ih vs.tail (st++[.cell vs.head?]) (st2++[.cell vs.head?]) (by rw[aj,aj,h]);exact⟨(congrArg (LV.cell st.length::·) a).trans<|congrArg (λn=>LV.cell n::(cM ks vs.tail cs<|st2++[.cell vs.head?]).1) h,.cell vs.head?::m,b.trans (aO ..),c.trans (aO ..)⟩
theorem OG(cs:List Nat):∀(ks:List NK)(as:List SV)(st:List SO)(pre:List LV),as.length<=ks.length->(∀(i:Nat)(k:NK),i<as.length->ks[i]? =some k->k=.loc\/k=.sD)->
  pG (fi pre.length as.length) as ⟨pre++(cM ks [] cs st).1,(cM ks [] cs st).2⟩=some ⟨pre++(cM ks as cs st).1,(cM ks as cs st).2⟩:=λks=>by
 induction ks with
 |nil=>
  intro as st pre h _;cases as with
  |nil=>rfl
  |cons v vs=>exact absurd h<|s8 _
 |cons k ks ih=>
  intro as st pre h hk;cases as with
  |nil=>rfl
  |cons v vs=>
   have h':=qD h;have hk':∀(i:Nat) k',i<vs.length->ks[i]? =some k'->k'=.loc\/k'=.sD:=λi k' hi e=>hk (i+1) k' (xK hi) e;rw[cZ,QI];have at_:∀(x:LV) l,(pre++x::l)[pre.length]? =some x:=λx l=>by rw[aA<|aG _,bF];rfl
   rcases hk 0 k (qA _) rfl with rfl|rfl
   ·have i1:=ih vs st (pre++[.val v]) h' hk';rw[aj,aO,aO] at i1;refine gB.mpr ⟨_,?_,i1⟩;show(pre++LV.un::(cM ks [] cs st).1)[pre.length]?.bind _=_;rw[at_];show some (bo.mk ((pre++LV.un::(cM ks [] cs st).1).set pre.length<|.val v) _)=_;rw[jr _ _<|aG _,bF];rfl
   ·have i1:=ih vs (st++[.cell<|some v]) (pre++[.cell st.length]) h' hk';rw[aj,aO,aO] at i1;obtain⟨a,m,b,c⟩:=XO cs ks [] (st++[.cell none]) (st++[.cell<|some v]) (by rw[aj,aj];rfl);refine gB.mpr ⟨_,?_,i1⟩;show(pre++LV.cell st.length::(cM ks [] cs<|st++[.cell none]).1)[pre.length]?.bind _=_;rw[at_];show((cM ks [] cs<|st++[.cell none]).2[st.length]?.bind pD).map (λz=>bo.mk (pre++LV.cell st.length::(cM ks [] cs<|st++[.cell none]).1)<|(cM ks [] cs<|st++[.cell none]).2.set st.length<|.cell<|some v)=_;rw[b,c,a,aO,aA<|aG _,bF,jr _ _<|aG _,bF,aO];rfl
theorem uL(fr:List Str)(p:Str×cF)(r:bX):f6 fr (p::r)=(match p.2 with|.cell=>.sD|.free=>.Z6 ((fr.findIdx? λx=>jg x p.1).getD 0)|_=>.loc)::f6 fr r:=rfl
theorem XN:∀{names:bX}{i:Nat}{n:Str}{k:cF}{st:List SO},names[i]? =some (n,k)->k≠.cell->k≠.free->(cM (f6 fr names) [] cs st).1[i]? =some .un:=λ{names}=>by
 induction names with
 |nil=>intro i n k st h;exact aW h
 |cons p r ih=>
  obtain⟨m,k'⟩:=p;intro i n k st h h1 h2;cases i with
  |zero=>obtain rfl:k'=k:=congrArg sJ<|aa h;cases k'<;>first|exact absurd rfl h1|exact absurd rfl h2|rfl
  |succ i=>cases k'<;>exact ih h h1 h2
theorem Tu{fr:List Str}:∀{names:bX}{i:Nat}{n:Str}{c:Nat}{st:List SO},names[i]? =some (n,.free)->cs[(fr.findIdx? λx=>jg x n).getD 0]? =some c->(cM (f6 fr names) [] cs st).1[i]? =some (.cell c):=λ{names}=>by
 induction names with
 |nil=>intro i n c st h;exact aW h
 |cons p r ih=>
  obtain⟨m,k'⟩:=p;intro i n c st h h1;cases i with
  |zero=>refine kg (gH<|aa h) λzz0 zz1=>?_;subst zz0;subst zz1;show some (match cs[(fr.findIdx? λx=>jg x m).getD 0]? with|some k=>LV.cell k|none=>.un)=_;rw[h1]
  |succ i=>cases k'<;>exact ih h h1
section
variable{Z:dM}{st st':List SO}{g g' fx:FH}{ρ bQ:eE}{s:Shared}{env:Env}{ns:bX}{σ:bo}{A:bD}{E:Value->Shared->Prop}{M:Model}
theorem yC{ns:bX}:∀{i j:Nat}{x:Str}{k:cF},(ns.map (·.1)).Nodup->ns[i]? =some (x,k)->fo x ns j=some (j+i,k):=by
 induction ns with
 |nil=>intro i j x k _ h;exact aW h
 |cons pq r ih=>
  obtain⟨n,k'⟩:=pq;intro i j x k hn h;have hn:=eW.mp hn;unfold fo;cases i with
  |zero=>cases h;rw[oN.mpr rfl];rfl
  |succ i=>
   rw[List.getElem?_cons_succ] at h;have e:jg n x=false:=by
    cases q:jg n x with
    |false=>rfl
    |true=>exact(hn.1<|bI.mpr ⟨_,aI h,(oO q).symm⟩).elim
   rw[e];show fo x r (j+1)=_;rw[ih hn.2 h,Nat.add_assoc,wK 1 i]
theorem V2{st:List SO}:cM (f6 fr<|(name,sA)::r) [] cs st=(.cell st.length::(cM (f6 fr r) [] cs<|st++[.cell none]).1,(cM (f6 fr r) [] cs<|st++[.cell none]).2):=by rw[uL];rfl
theorem abv{st:List SO}(hk:k≠.cell):∃lv,cM (f6 fr<|(name,k)::r) [] cs st=(lv::(cM (f6 fr r) [] cs st).1,(cM (f6 fr r) [] cs st).2):=by rw[uL];cases k<;>first|exact absurd rfl hk|exact⟨_,rfl⟩
theorem KN(fr:List Str)(cs:List Nat)(f:Str×cF->List (Str×Addr)->Al (ForInStep<|List<|Str×Addr))
  (hf:∀name kind cells,f (name,kind) cells=if kind==.cell then(do let a<-PySem.alloc {cls:=.type "cell",data:=.cell none};pure (.yield<|(name,a)::cells)) else pure (.yield cells)):
  ∀{names:bX}{acc:List (Str×Addr)}{st:List SO}{g:FH}{ρ:eE}{s:Shared},b7 Z st g fx ρ s->(names.map (·.1)).Nodup->∀{Q:List (Str×Addr)->Shared->Prop},
   (∀(cells:List (Str×Addr))(g':FH)(bQ:eE)(s':Shared),ey g ρ g' bQ->b7 Z (cM (f6 fr names) [] cs st).2 g' fx bQ s'->(∀b o,s.heap.get? b=some o->s'.heap.get? b=some o)->
    (∀(i:Nat)(n:Str),names[i]? =some (n,sA)->∃(c:Nat)(p:Addr×Addr),(cM (f6 fr names) [] cs st).1[i]? =some (LV.cell c)/\bQ[c]? =some p/\cells.lookup n=some p.1)->
    (∀n,(n,sA)∉names->cells.lookup n=acc.lookup n)->Q cells s')->av M A (forIn names acc f) Q E s:=λ{names}=>by
 induction names with
 |nil=>intro acc st g ρ s S _ Q h;exact ab<|h acc g ρ s (.refl _ _) S (λz z e=>e) (λi n e=>aW e) λz z=>rfl
 |cons nk r ih=>
  obtain⟨name,kind⟩:=nk;intro acc st g ρ s S hn Q h;have hn:=eW.mp hn;rw[cA,hf];by_cases hk:kind=.cell
  ·subst hk;have hkp:∀b o,s.heap.get? b=some o->(s.heap.push<|acJ none).get? b=some o:=cx;refine u6 (S.SY s.toks hkp (bL _) (.cell none) λg' bQ X=>⟨rfl,_,none,ez,rfl,rfl⟩) λbu n6 bC cD=>aX<|MI<|aX<|nJ<|ab<|ih n6 hn.2 λcells g' bQ s' X S' K c1 c2=>h cells g' bQ s' (bC.trans X) (by rw[V2];exact S') (λb o e=>K b o<|hkp b o e) (λi n e=>?_) λn hnm=>?_
   ·rw[V2];cases i with
    |zero=>obtain rfl:name=n:=(gH<|aa e).1;refine Av st.length ((s.heap.objs.size,s.heap.objs.size)) rfl (X.at<|by rw[<-S.len,List.getElem?_concat_length]) ?_;rw[c2 name λhm=>hn.1<|bI.mpr ⟨_,hm,rfl⟩,ck,beq_self_eq_true]
    |succ i=>exact c1 i n e
   ·rw[c2 n λhm=>hnm<|az _ hm,ck,beq_eq_false_iff_ne.mpr λe:n=name=>hnm (e▸ax ..)]
  ·refine fT (abv (fr:=fr) (cs:=cs) (name:=name) (r:=r) (st:=st) hk) λlv hl=>aX (u7 (λe=>hk<|eq_of_beq e)<|ab<|ih S hn.2 λcells g' bQ s' X S' K c1 c2=>h cells g' bQ s' X (by rw[hl];exact S') K (λi n e=>?_) λn hnm=>c2 n λhm=>hnm<|az _ hm);rw[hl];cases i with
   |zero=>exact absurd (gH<|aa e).2 hk
   |succ i=>exact c1 i n e
def zz(ns:bX):List Nat->List Str->Prop
 |[],[]=>True
 |i::is,x::xs=>(∃k,fo x ns 0=some (i,k)/\(k=.local\/k=.cell))/\zz ns is xs
 |_,_=>False
theorem Lo(f:Str×Value->PUnit->Al (ForInStep PUnit))(hf:∀n v u,f (n,v) u=(do storeName env n v;pure (.yield ⟨⟩)))(V:d8 ns env):
    ∀{is:List Nat}{xs:List Str}{as:List SV}{vals:List Value}{σ bk:bo}{g fx:FH}{s:Shared},zz ns is xs->pG is as σ=some bk->dE Z ns env σ g fx ρ s->ei Z g ρ as vals->
      ∀{Q:PUnit->Shared->Prop},(∀g' fx' s',ey g ρ g' ρ->(∀b,b≠env.locals->fx' b=fx b)->dE Z ns env bk g' fx' ρ s'->Q ⟨⟩ s')->av (Mo Z) A (forIn (xs.zip vals) ⟨⟩ f) Q E s:=λ{is}=>by
  induction is with
  |nil=>
   intro xs as vals σ bk g fx s hx e G r Q h;cases xs with
   |cons=>exact hx.elim
   |nil=>
    cases as with
    |nil=>obtain rfl:=aa e;exact ab<|h g fx s (.refl _ _) (λz z=>rfl) G
    |cons=>exact aW e
  |cons i is ih=>
   intro xs as vals σ bk g fx s hx e G r Q h;cases xs with
   |nil=>exact hx.elim
   |cons x xs=>
    obtain⟨⟨k,hp,hk⟩,hr⟩:=hx;cases as with
    |nil=>exact aW e
    |cons a as=>refine jG r λv vs zz2 r1 r2=>?_;subst zz2;refine dS (gB.mp e) λaq e1 e2=>?_;rw[kz,cA,hf];refine aX<|aX<|lB hp hk e1 V G r1 λbu o aC bC bG=>ab ?_;refine ih hr e2 bG (r2.mono bC) λg' fx' s' X F G'=>h g' fx' s' (bC.trans X) (λb hb=>(F b hb).trans<|cH hb) G'
theorem EG(hn:(ns.map (·.1)).Nodup):∀{b:Nat},b+m<=ns.length->(∀(i:Nat)(p:Str×cF),i<b+m->ns[i]? =some p->p.2=.local\/p.2=.cell)->zz ns (fi b m) (((ns.drop b).take m).map (·.1)):=by
 induction m with
 |zero=>intro b _ _;exact trivial
 |succ m ih=>intro b h hk;have hb:b<ns.length:=qC h;rw[QI,eF hb,tU,cS];have hg:=ay hb;refine⟨⟨ns[b].2,?_,hk b _ (adq) hg⟩,ih (by omega) λi p hi=>hk i p<|adp hi⟩;have:=yC (j:=0) hn (x:=ns[b].1) (k:=ns[b].2) hg;simpa using this
end
structure Ji(scope:Scope):Prop where
 kind:scope.kind=.function
 gen:scope.isGenerator=false
 cor:scope.isCoroutine=false
 nodup:(scope.names.map (·.1)).Nodup
 pM:∀p∈scope.names,(p.1==("__debug__":Str))=false/\(p.1==("__classdict__":Str))=false
section
variable{Z:dM}{C:bT}{M:b6}{st st':List SO}{g g' fx:FH}{ρ bQ:eE}{s:Shared}{A:bD}{E:Value->Shared->Prop}{n:Nat}
theorem Ku{scope:Scope}(O:Ji scope)(S:b7 Z st g fx ρ s){cl:List (Str×Addr)}{cs:List Nat}{fr:List Str}
  (hcl:∀(i:Nat)(x:Str),scope.names[i]? =some (x,c8)->∃(c:Nat)(p:Addr×Addr),cs[(fr.findIdx? λy=>jg y x).getD 0]? =some c/\ρ[c]? =some p/\cl.lookup x=some p.1)
  {as:List SV} {vals:List Value} (hlen:as.length<=scope.names.length) (hk:∀(i:Nat)(p:Str×cF),i<as.length->scope.names[i]? =some p->p.2=.local\/p.2=.cell) (r:ei Z g ρ as vals) {qual:Str} {a:Addr} {code:Value}
  {Q:Env->Shared->Prop}
  (h:∀(env:Env)(g' fx':FH)(bQ:eE)(s':Shared),env.code=code->env.qual=qual->fx env.locals=none->ey g ρ g' bQ->(∀b,b≠env.locals->fx' b=fx b)->d8 scope.names env->
   dE Z scope.names env ⟨(cM (f6 fr scope.names) as cs st).1,(cM (f6 fr scope.names) as cs st).2⟩ g' fx' bQ s'->Q env s'):
  av (Mo Z) A (newFunctionEnv scope cE cl (((scope.names.take as.length).map (·.1)).zip vals) qual (some a) code none hU) Q E s:=by
 simp only[newFunctionEnv,tR,dI,if_false]
 refine aX<|nJ ?_
 refine dS (mj<|Heap.Ns.new s.heap<|.type "frame") λoL hoL hNs=>?_
 have hoL':oL={cls:=.type "frame",data:=.dict #[]}:=by rw[ez] at hoL;exact(aa hoL).symm
 have hfx:=(S.fresh<|bL s.heap).2.1
 have n6:=S.Ha s.toks (cx) s.heap.objs.size {cls:=.type "frame",data:=.dict #[]} (bL _) ez
 have bC:ey g ρ (eG Z g s.heap (s.heap.push {cls:=.type "frame",data:=.dict #[]}) λb=>b==s.heap.objs.size) ρ:=a7
 refine aX<|KN fr cs _ (λname kind cells=>by cases hkc:kind==sA<;>simp[hkc]) n6 O.nodup λcells fE dP dJ cy sX aiX c1 c2=>?_
 have V:d8 scope.names {scope,locals:=s.heap.objs.size,globals:=cE,cells,qual,func:=some a,code,frame:=some s.heap.objs.size,builtins:=hU}:=
  ⟨O.kind,λz h=>h,λz h=>h,λz h=>.inr h,λz h=>h,rfl,rfl,O.nodup,O.pM⟩
 have dD:dE Z scope.names {scope,locals:=s.heap.objs.size,globals:=cE,cells,qual,func:=some a,code,frame:=some s.heap.objs.size,builtins:=hU} ⟨(cM (f6 fr scope.names) [] cs st).1,(cM (f6 fr scope.names) [] cs st).2⟩ fE (i9 fx s.heap.objs.size {cls:=.type "frame",data:=.dict #[]}) dP dJ:=by
  refine⟨sX,⟨_,_,dg,hoL'▸hNs,?_,?_⟩⟩
  ·intro i x hi;exact⟨.un,XN hi (by simp) (by simp),.inl rfl⟩
  ·intro i x k hi hk';rcases hk' with rfl|rfl
   ·exact c1 i x hi
   ·refine jG (hcl i x hi) λc p a1 a2 a3=>Av c p (Tu hi a1) ((bC.trans cy).at a2) ?_;rw[c2 x λhm=>?_,a3];refine fT (il hm) λj hj=>?_;have h1:=yC (j:=0) O.nodup hi;have h2:=yC (j:=0) O.nodup hj;rw[h1] at h2;simp at h2
 have hfill:=OG cs (f6 fr scope.names) as st [] (by unfold f6;simpa using hlen) λi k hi e=>by unfold f6 at e;rw[ai,bq] at e;refine dS e λp hp zz2=>?_;subst zz2;rcases hk i p hi hp with e|e<;>rw[e]<;>simp
 simp only[List.length_nil,eX] at hfill
 have hnames:=EG O.nodup (ad8 hlen) λi p hi=>hk i p<|ad7 hi
 rw[jN] at hnames
 refine aX<|Lo _ (λz z z=>rfl) V hnames hfill dD (r.mono<|bC.trans cy) λiN iV fN eC l8 jI=>ab ?_
 exact h _ iN iV dP fN rfl rfl hfx ((bC.trans cy).trans eC) (λb hb=>(l8 b hb).trans<|cH hb) V jI
theorem Ry(S:b7 Z st g fx ρ s)(T:zr Z mg mb):s.heap.NoLimit:=by refine RK T.st λo mc h1 h2 h3 z=>⟨mc,h2.ns<|S.fy _ _ h1,h3⟩
structure AIn(n:Nat)(A:bD):Prop where
 handled:A.handled=none
 depth:A.depth+8*n+10<E8
 units:A.units+100*n+110<cLine
theorem t6.into{A:bD}(h:t6 (n+1) A):AIn n A:=by obtain⟨a,b,c⟩:=h;exact⟨a,ad6 b,ad5 c⟩
theorem AIn.deep{A:bD}(h:AIn n A)(env:Env):t6 n (A.deeper env):=by
 obtain⟨a,b,c⟩:=h;refine⟨a,?_,?_⟩
 ·exact aF (by rw[show(A.deeper env).depth=A.depth+1 from rfl,vn A.depth 1];exact aY (by decide:1+8<=10)<|A.depth+8*n) b
 ·exact aF (by rw[show(A.deeper env).units=A.units+3 from rfl,vn A.units 3];exact aY (by decide:3+100<=110)<|A.units+100*n) c
inductive aid(h:Heap)(a:Addr)(params:fh)(body:List Stmt)(scope:Scope)(cl:List (Str×Addr))(ds:List Value)(qual:Str)(code:Value):Prop
 |mk (o:Obj) (fd:FuncData) (ho:h.get? a=some o) (hd:o.data=.func fd) (h1:fd.params=params) (h2:fd.body=.stmts body) (h3:fd.scope=scope) (h4:fd.closure=cl) (h5:fd.globals=cE) (h6:fd.builtins=hU) (h7:fd.qualname=qual) (h8:fd.code=code) (h9:EP h fd.defaults ds)
structure FE(h:Heap)(a:Addr)(params:fh)(body:List Stmt)(scope:Scope)(cl:List (Str×Addr))(ds:List Value)(qual:Str)(code:Value):Prop where
 is:aid h a params body scope cl ds qual code
 code:h.CodeRec code qual
def rC.T1(fn:Fn)(scope:Scope):Prop:=∀(i:Nat)(p:Str×cF),i<fn.np->scope.names[i]? =some p->p.2=.local\/p.2=.cell
structure rC(Z:dM)(n:Nat)(C:bT)(M:b6)(fn:Fn)(params:fh)(body:List Stmt)(scope:Scope)(qual:Str)(code:Value):Prop where
 plain:A8 params
 np:fn.np=params.args.length
 names:params.args.map (·.arg)=(scope.names.take fn.np).map (·.1)
 kinds:fn.kinds=f6 ((scope.names.filter λp=>p.2==.free).map (·.1)) scope.names
 argKinds:rC.T1 fn scope
 sc:Ji scope
 wz:fn.wz.length<=fn.np
 body:sW Z n scope.names C M (λenv=>env.code=code/\env.qual=qual++".<locals>.") fn.body body
theorem NI:∀{vs:List Value}(k:Nat),ei Z g ρ xs vs->ei Z g ρ (xs.drop k) (vs.drop k):=by
 induction xs with
 |nil=>intro vs k r;obtain rfl:vs=[]:=r;cases k<;>rfl
 |cons x xs ih=>
  intro vs k r;refine jG r λv vs' zz2 r1 r2=>?_;subst zz2;cases k with
  |zero=>exact Av v vs' rfl r1 r2
  |succ k=>exact ih k r2
theorem Gl(r1:ei Z g ρ xs us)(r2:ei Z g ρ ys vs):ei Z g ρ (xs++ys) (us++vs):=by
 induction xs generalizing us with
 |nil=>have:=r1;subst this;exact r2
 |cons x xs ih=>refine jG r1 λv vs' zz2 a b=>?_;subst zz2;exact Av v (vs'++vs) rfl a<|ih b
theorem BQ{fn:Fn}{params:fh}{body:List Stmt}{scope:Scope}{qual:Str}{code:Value}(F:rC Z n C M fn params body scope qual code){mg mb:Str->Option Value}(T:zr Z mg mb)(S:b7 Z st g fx ρ s)
  {a:Addr} {cl:List (Str×Addr)} {ds:List Value} (H:FE s.heap a params body scope cl ds qual code) (rd:ei Z g ρ fn.wz ds) {cs:List Nat}
  (hcl:∀(i:Nat)(x:Str),scope.names[i]? =some (x,c8)->∃(c:Nat)(p:Addr×Addr),cs[(((scope.names.filter λp=>p.2==.free).map (·.1)).findIdx? λy=>jg y x).getD 0]? =some c/\ρ[c]? =some p/\cl.lookup x=some p.1)
  {args:List SV} {vals:List Value} (ra:ei Z g ρ args vals) {v:SV} (e:qg C M fn args cs st=some (v,st')) (hA:AIn n A) {R:Result->Shared->Prop}
  (h:∀g' bQ s' y,ey g ρ g' bQ->b7 Z st' g' fx bQ s'->RV Z g' bQ v y->R (.ok<|.ret y) s'):
  km (Mo Z) A (.call (.ref a) ⟨vals,[]⟩) R s:=by
 exact aw e λas has e'=>dj e' λq hq er=>eI er λev est=>j8 has λhn eas=>cI hn λhn1 hn2=>by
  have hn1:=fX hn1;have hn2:=fX hn2;obtain⟨o,fd,ho,hd,h1,h2,h3,h4,h5,h6,h7,h8,h9⟩:=H.is;have hal:=ra.length;have hdl:=rd.length;have hN:=F.np;have ras:ei Z g ρ as (vals++ds.drop (vals.length+ds.length-params.args.length)):=by rw[<-eas,<-hal,<-hdl,<-hN];exact Gl ra<|NI _ rd
  have haslen:as.length=fn.np:=by have:=F.wz;rw[<-eas,aj,f9];exact arA hn1 hn2
  have hnl:fn.np<=scope.names.length:=by have:=congrArg HP F.names;rw[ag,ag,cm] at this;first|exact ah (eD<|hN.trans this) (dW _ _)|exact ah (eD<|hN.symm.trans this) (dW _ _)|omega
  refine codeAny_call_function (show A.depth<E8 by have:=hA.depth;exact ad3 this) ho hd (by rw[h3];exact F.sc.cor) (by rw[h3];exact F.sc.gen) h2 (by rw[h7,h8];exact H.code)<|Lp (by rw[h1];exact F.plain) h9 ?_ (by rw[h1];exact ad2 hn1 hal hN haslen) (by rw[h1];exact ad1 hn2 hal hdl hN haslen) (by rw[h1];have:=F.wz;exact ad0 hdl hN haslen this) ?_
  ·rw[h1,F.names,mh];exact F.sc.nodup.sublist<|List.take_sublist _ _
  ·rw[h1,h3,h4,h5,h6,h7,h8,F.names,show(scope.names.take fn.np)=scope.names.take as.length by rw[haslen]];refine Ku F.sc S hcl (adZ hN haslen hnl) (λi p hi hp=>F.argKinds i p (adY hN haslen hi) hp) ras λenv bu a8 aQ aC hc hq' hL bC b5 V bG=>⟨Ry bG.fM T,codeAny_func ?_⟩;rw[F.kinds] at hq;refine F.body _ q.2 q.1 hq env _ bu a8 aQ aC V ⟨hc,hq'⟩ (hA.deep env) bG _ _ λfE dB dP dJ f cy fA dD r=>?_;have sX:=est▸dD.fM.weaken λb o hb=>by have hne:b≠env.locals:=λe=>cb o<|(e▸hb).symm.trans hL;rw[fA b hne,b5 b hne];exact hb
   rcases r.plain with ⟨hf,rfl⟩|⟨w,y,hf,rfl,rv⟩
   ·exact h fE dP dJ .none (bC.trans cy) sX (by rw[<-ev,hf];rfl)
   ·exact h fE dP dJ y (bC.trans cy) sX (by rw[<-ev,hf];exact rv)
end
section
variable{Z:dM}{C:bT}{M:b6}{st st':List SO}{g g' fx:FH}{ρ bQ:eE}{s:Shared}{A:bD}{E:Value->Shared->Prop}{n:Nat}
theorem UA{cs:List Nat}(f:cs.all (λc=>oZ c m)=true):cs.map (λc=>((ρ.take m)[c]?).map (·.1))=cs.map (λc=>(ρ[c]?).map (·.1)):=
 iH λc hm=>by rw[dT<|(Bi ..).mp<|ba.mp f c hm]
mutual
theorem RV.GQ:∀(sv:SV)(v:Value),sv.low m=true->RV Z g ρ sv v->RV Z g (ρ.take m) sv v
 |.none,_,_=>id
 |.bool _,_,_=>id
 |.int _,_,_=>id
 |.str _,_,_=>id
 |.raw _,_,_=>id
 |.tup xs,_,f=>aD λz=>aD λz=>aD λz=>aH<|aH<|ei.GQ xs _ f
 |.lst _,_,_=>id
 |.hH _ _,_,_=>id
 |.dx _,_,_=>id
 |.inst _ _ _,_,_=>id
 |.t5 _ s,_,f=>aD λz=>aD λz=>aH<|aH<|RV.GQ s _ f
 |.LR _ _,_,f=>aD λz=>aD λz=>aH<|cP (UA f).trans
 |.h _,_,f=>aD λz=>cP (dT<|(Bi ..).mp f).trans
theorem ei.GQ:∀(xs:List SV)(vs:List Value),SV.lows m xs=true->ei Z g ρ xs vs->ei Z g (ρ.take m) xs vs
 |[],_,_=>id
 |y::ys,_,f=>aD λz=>aD λz=>aH<|iL (RV.GQ y _<|cI f λa z=>a)<|ei.GQ ys _<|cI f λz b=>b
end
theorem RV.low{sv:SV}:sv.low m=true->RV Z g ρ sv v->RV Z g (ρ.take m) sv v:=RV.GQ sv v
theorem ei.low:SV.lows m xs=true->ei Z g ρ xs vs->ei Z g (ρ.take m) xs vs:=ei.GQ xs vs
theorem RO.low{so:SO}(f:so.low m=true)(r:RO Z g ρ h so p):RO Z g (ρ.take m) h so p:=by
 revert r;cases so with
 |list xs=>exact aH<|aD λz=>aD λz=>aH<|ei.low f
 |dict ks vs=>exact aH<|aD λz=>aD λz=>aH<|aH<|cP<|ei.low f
 |inst c as vs=>exact aH<|aD λz=>aD λz=>aH<|aH<|aH<|aH<|ei.low f
 |cell v=>
  refine aH<|aD λz=>aD λz=>aH<|aH ?_;cases v with
  |none=>exact id
  |some v=>exact aD λz=>aH<|RV.low f
 |gone=>exact id
theorem nU{l:List α}(h:(l.take m)[k]? =some x):l[k]? =some x/\k<m:=by have:=(af.mp h).1;simp only[cm] at this;rw[dT<|ac4 this] at h;exact⟨h,ac4 this⟩
theorem b7.cut(S:b7 Z st g fx ρ s)(hl:(st.take m).all (SO.low m)=true):b7 Z (st.take m) g fx (ρ.take m) s:=by
 rw[ba] at hl;refine⟨S.keep,S.fix,by simp[S.len],λk o p h1 h2=>?_,λi j x oi oj p q h1 h2 h3 h4 h5 h6 h7 h8=>?_,λk o p x h1 h2 h3 h4=>?_,S.top,S.tabs,S.hW,S.tY,S.same,S.codes⟩
 ·exact(S.objs k o p (nU h1).1 (nU h2).1).low<|hl o<|aI h1
 ·exact S.uniq i j x oi oj p q (nU h1).1 h2 (nU h3).1 (nU h4).1 h5 (nU h6).1 h7 h8
 ·exact S.off k o p x (nU h1).1 h2 (nU h3).1 h4
theorem Hk(S:b7 Z st' g' fx bQ s)(e:ll m st'=some nR)(X:ey g ρ g' bQ)(hm:ρ.length<=m):∃aQ,b7 Z nR g' fx aQ s/\ey g ρ g' aQ/\∀(k:Nat)(p:Addr×Addr),k<m->bQ[k]? =some p->aQ[k]? =some p:=by
 unfold ll at e;cases h:decide (st'.length<=m) with
 |true=>rw[h] at e;obtain rfl:=aa e;exact Aw bQ S X λz z z h=>h
 |false=>rw[h] at e;exact j8 e λhl er=>by subst er;refine Aw _ (S.cut hl) ⟨X.g,?_⟩ (λk p hk h=>by rw[dT hk];exact h);refine fT X.ρ λmore hmore=>⟨more.take<|m-ρ.length,?_⟩;rw[hmore,List.take_append,dG hm]
theorem CE{fn:Fn}{params:fh}{body:List Stmt}{scope:Scope}{qual:Str}{code:Value}(F:rC Z n C M fn params body scope qual code){mg mb:Str->Option Value}(T:zr Z mg mb)(S:b7 Z st g fx ρ s)
  {a:Addr} {cl:List (Str×Addr)} {ds:List Value} (H:FE s.heap a params body scope cl ds qual code) (rd:ei Z g [] fn.wz ds) {cs:List Nat}
  (hcl:∀(i:Nat)(x:Str),scope.names[i]? =some (x,c8)->∃(c:Nat)(p:Addr×Addr),cs[(((scope.names.filter λp=>p.2==.free).map (·.1)).findIdx? λy=>jg y x).getD 0]? =some c/\ρ[c]? =some p/\cl.lookup x=some p.1)
  {args:List SV} {vals:List Value} (ra:ei Z g ρ args vals) {v:SV} (e:kR C M fn args cs st=some (v,st')) (hA:AIn n A) {R:Result->Shared->Prop}
  (h:∀g' bQ s' y,ey g ρ g' bQ->b7 Z st' g' fx bQ s'->RV Z g' bQ v y->R (.ok<|.ret y) s'):
  km (Mo Z) A (.call (.ref a) ⟨vals,[]⟩) R s:=by
 have rd':=rd.mono<|ey.ke g ρ
 unfold kR at e
 cases hk:fn.keep with
 |true=>rw[hk] at e;exact BQ F T S H rd' hcl ra e hA h
 |false=>
  rw[hk] at e;cases hf:b8 args&&cs.isEmpty with
  |true=>
   have e:(qg C M fn args cs []).bind (λp=>(freeze fz p.1 p.2).map λr=>(r.1,st))=some (v,st'):=by rw[hf] at e;exact e
   exact cI hf λhfa hc=>aw e λp hM e=>dj e λq jH er=>eI er λev est=>by
    subst ev est;obtain rfl:=bt.mp hc;refine BQ F T S.hide H rd (λi x hi=>?_) (ra.free hfa) hM hA λg' bQ s' y X S' r=>?_
    ·refine rJ (hcl i x hi) λc p h1 z=>aW h1
    ·refine LK (mU jH S' r) λg'' X'' S'' r'' hfr=>?_;have hg:∀b o,g b=some o->g'' b=some o:=λb o q=>X''.g _ _<|X.g _ _ q;exact h g'' ρ s' y ⟨hg,[],(bj _).symm⟩ (S.MO hg S'')<|r''.mono<|ey.ke _ _
  |false=>
   have e:(qg C M fn args cs st).bind (λp=>(freeze fz p.1 p.2).bind λr=>(ll st.length r.2).map λs=>(r.1,s))=some (v,st'):=by rw[hf] at e;exact e
   exact aw e λp hM e=>aw e λq jH e=>dj e λw C2 er=>eI er λev est=>by subst ev est;refine BQ F T S H rd' hcl ra hM hA λg' bQ s' y X S' r=>LK (mU jH S' r) λg'' X'' S'' r'' hfr=>?_;obtain⟨aQ,n6,bC,_⟩:=Hk S'' C2 (X.trans X'') (by rw[S.len];exact aG _);exact h g'' aQ s' y bC n6<|r''.mono<|ey.ke _ _
end
theorem Ep{st:List SO}:∀{k:Nat}{o:SO},st[k]? =some o->o.live=true->k<(lX st).length:=by
 induction st with
 |nil=>intro k o h _;exact aW h
 |cons x r ih=>
  intro k o h hl;have key:∀b,((lX r).isEmpty&&!x.live)=b->k<(match b with|true=>([]:List SO)|false=>x::lX r).length:=λb hb=>by
   cases b with
   |true=>
    exact cI hb λh1 h2=>by
     cases k with
     |zero=>obtain rfl:=aa h;rw[hl] at h2;exact ae h2
     |succ k=>have:=ih h hl;rw[bt.mp h1] at this;exact absurd this<|gF _
   |false=>
    cases k with
    |zero=>exact xJ _
    |succ k=>exact xK<|ih h hl
  exact key _ rfl
section
variable{Z:dM}{K:Frag}{C:bT}{M:b6}{st st':List SO}{g g' fx:FH}{ρ bQ:eE}{s:Shared}{A:bD}{E:Value->Shared->Prop}{n:Nat}
theorem b7.Xp(S:b7 Z st g fx ρ s)(ho:st[k]? =some so)(hl:so.live=true)(hp:ρ[k]? =some p)(r:RO Z g ρ s.heap so' p):∃g',ey g ρ g' ρ/\b7 Z (st.set k so') g' fx ρ s:=by have X:ey g ρ (eG Z g s.heap s.heap λz=>false) ρ:=a7;exact⟨_,X,S.upd s.toks ho hl hp (λz z z z e=>e)<|r.mono X λz z z e=>e⟩
theorem faE{P:Prop}(e:gK k (a::r) st=some st')(f:∀c as vs j v p as' vs',st[k]? =some (.inst c as vs)->vs[j]? =some v->freeze fz v st=some p->p.2[k]? =some (.inst c as' vs')->gK k r (p.2.set k<|.inst c as'<|vs'.set j p.1)=some st'->P):P:=
 aw e λo h1 e=>aw e λj h2 e=>aw e λv h3 e=>aw e λp h4 e=>aw e λo' h5 e=>r7 e λh6 e=>f o.1 o.2.1 o.2.2 j v p o'.2.1 o'.2.2 (CG h1) h3 h4 (by rw[CG h5,beq_iff_eq.mp h6]) e
theorem Hj(h:dictOf es m=dictOf es' m'):es=es':=by
 have:=congrArg Obj.data h;simp only[dictOf] at this;injection this with h _
 simpa using congrArg Array.toList h
theorem Mv{α:Type}{l:List α}{y:α}(h:l[j]? =some y):l.set j y=l:=by
 refine fC λi=>?_;by_cases hi:i=j
 ·rw[hi,eB (af.mp h).1,h]
 ·rw[bV<|gp hi]
theorem yX{as:List Nat}:∀{st st':List SO}{g:FH},gK k as st=some st'->b7 Z st g fx ρ s->∃g',ey g ρ g' ρ/\b7 Z st' g' fx ρ s:=by
 induction as with
 |nil=>exact λ{_ _ g} e S=>⟨g,.refl _ _,aa e▸S⟩
 |cons a r ih=>refine λ{_ _ g} e S=>faE e λc as vs j v q as' vs' hk hv hf hk' e=>?_;obtain⟨p,hp⟩:=S.rho hk;obtain⟨hne,es,m,h1,h2,h3,h4,h5⟩:=S.objs k _ p hk hp;refine dS (h5.get hv) λy hy ry=>LK (mU hf S ry) λbu bC n6 cD z=>?_;obtain⟨_,es',m',q1,q2,q3,q4,q5⟩:=n6.objs k _ p hk' hp;obtain rfl:=Hj<|aa<|h2.symm.trans q2;have q6:=q5.set (i:=j)<|cD.mono<|ey.ke bu ρ;rw[Mv hy] at q6;refine dS (n6.Xp (so':=.inst c as'<|vs'.set j q.1) hk' rfl hp ⟨hne,es,m,h1,h2,q3,q4,q6⟩) λfE cy sX=>dS (ih e sX) λiN eC vd=>?_;exact⟨iN,(bC.trans cy).trans eC,vd⟩
theorem vL:∀{st st':List SO},gK k as st=some st'->(∃c bs vs,st[k]? =some (.inst c bs vs))->∃c bs vs,st'[k]? =some (.inst c bs vs):=by
 induction as with
 |nil=>exact λe h=>aa e▸h
 |cons a r ih=>exact λe h=>faE e λc as vs j v q as' vs' hk hv hf hk' e=>ih e ⟨_,_,_,eB (af.mp hk').1⟩
theorem uQ{st st':List SO}(e:gK k (a::r) st=some st'):∃c bs vs,st[k]? =some (.inst c bs vs):=faE e λc as vs z z z z z hk z z z z=>⟨c,as,vs,hk⟩
theorem IP{P:Prop}(e:nX C M a fn args st=some st')(k:qg C M fn (.h st.length::args) [] (st++[.inst a [] []])=some (.none,st')->P):P:=aw e λp h e=>j8 e λhn er=>k (by subst er;rw[h];obtain⟨v,t⟩:=p;cases v<;>first|rfl|exact ae hn)
theorem wU{C:Addr}:(lg "type.__call__" ⟨.ref C::rest,[]⟩).weight=1:=by
 have h1:(lg "type.__call__" ⟨.ref C::rest,[]⟩).frames=0:=by rfl
 have h2:(lg "type.__call__" ⟨.ref C::rest,[]⟩).isCreation=true:=rfl;have h3:(lg "type.__call__" ⟨.ref C::rest,[]⟩).isGuard=false:=by simp only[Code.isGuard];decide+kernel
 have h4:(lg "type.__call__" ⟨.ref C::rest,[]⟩).isCaller=false:=rfl;unfold Code.weight;rw[h1,h2,h3,h4];rfl
theorem x8{C:Addr}:(lg "type.__call__" ⟨.ref C::rest,[]⟩).cUnits=1:=by
 have h1:(lg "type.__call__" ⟨.ref C::rest,[]⟩).frames=0:=by rfl
 show 1+3*_=1;rw[h1]
theorem t6.made{A:bD}(h:t6 (n+1) A)(C:Addr)(rest:List Value):AIn n (A.under<|.builtin "type.__call__" ⟨.ref C::rest,[]⟩):=by
 obtain⟨a,b,c⟩:=h;refine⟨a,?_,?_⟩
 ·show A.depth+(Code.weight _)+8*n+10<_;rw[wU];omega
 ·show A.units+(Code.cUnits _)+100*n+110<_;rw[x8];omega
structure VE(Z:dM)(K:Frag)(a:Addr)(fI:Addr):Prop where
 inK:∀a o,K.lookup a=some o->Z.base a=some o
 makes:makesIn K a=true
 init:dK K (.ref a) "__init__"=some (some (.ref fI))
 fn:typeIn K (.ref fI)=some (.type "function")
 uM:Z.uM a=true
theorem Oh(S:b7 Z st g fx ρ s)(hk:Z.uM a=true):∃g',b7 Z (st++[.inst a [] []]) g' fx (ρ++[(s.heap.objs.size+1,s.heap.objs.size)]) {s with heap:=(s.heap.push sk).push<|nB a s.heap.objs.size}/\ey g ρ g' (ρ++[(s.heap.objs.size+1,s.heap.objs.size)]):=by
 have hsz:(s.heap.push sk).objs.size=s.heap.objs.size+1:=gR ..;have kp:∀b o,s.heap.get? b=some o->((s.heap.push sk).push<|nB a s.heap.objs.size).get? b=some o:=λb o e=>ar _<|ar _ e;have h1:s.heap.get? (s.heap.objs.size+1)=none:=uP<|jR _;have hx:((s.heap.push sk).push<|nB a s.heap.objs.size).get? (s.heap.objs.size+1)=some (nB a s.heap.objs.size):=by rw[<-hsz];exact bB _ rfl
 have hd:((s.heap.push sk).push<|nB a s.heap.objs.size).get? s.heap.objs.size=some (dictOf [] 0):=ar _<|bB _ rfl;have X:ey g ρ (eG Z g s.heap ((s.heap.push sk).push<|nB a s.heap.objs.size) λb=>b==(s.heap.objs.size+1)||b==s.heap.objs.size) (ρ++[(s.heap.objs.size+1,s.heap.objs.size)]):=⟨λz z e=>cv e,_,rfl⟩;refine⟨_,S.alloc s.toks kp (.inst a [] []) (s.heap.objs.size+1,s.heap.objs.size) h1 (bL _) ⟨wo<|.inr<|cJ _,[],0,hx,hd,trivial,⟨gq,λz h=>(absurd h aK),hk⟩,rfl⟩,X⟩
theorem Mz{fn:Fn}{params:fh}{body:List Stmt}{scope:Scope}{qual:Str}{code:Value}(F:rC Z n C M fn params body scope qual code){mg mb:Str->Option Value}(T:zr Z mg mb)(S:b7 Z st g fx ρ s)
  {a fI:Addr} {ds:List Value} {N5:Pol} (hpol:N5≠.some []) (Y:VE Z K a fI) (H:∀h:Heap,(∀b o,Z.base b=some o->h.get? b=some o)->FE h fI params body scope [] ds qual code) (rd:ei Z Z.base [] fn.wz ds) (hnf:∀p∈scope.names,p.2≠.free)
  {args:List SV} {vals:List Value} (ra:ei Z g ρ args vals) {v:SV} (e:pT C M a N5 fn args st=some (v,st')) (hA:t6 (n+1) A) {R:Result->Shared->Prop}
  (h:∀g' bQ s' y,ey g ρ g' bQ->b7 Z st' g' fx bQ s'->RV Z g' bQ v y->R (.ok<|.ret y) s'):
  km (Mo Z) A (.call (.ref a) ⟨vals,[]⟩) R s:=by
 have hS:=S.fy
 have hbase:∀b o,Z.base b=some o->((s.heap.push sk).push<|nB a s.heap.objs.size).get? b=some o:=λb o e=>ar _<|ar _<|hS b o e
 have hKin:K.In s.heap:=λb o q=>hS b o<|Y.inK b o q
 have hcl:∀{cs:List Nat}{ρ:eE} i x,scope.names[i]? =some (x,c8)->∃(c:Nat)(p:Addr×Addr),cs[(((scope.names.filter λp=>p.2==.free).map (·.1)).findIdx? λy=>jg y x).getD 0]? =some c/\ρ[c]? =some p/\([]:List (Str×Addr)).lookup x=some p.1:=
  λi x hi=>absurd rfl<|hnf _<|aI hi
 have go:∀{xx:List SO}{e9 fO:FH}{el:eE}{nR:List SO},b7 Z xx e9 fO el s->ei Z e9 el args vals->qg C M fn (.h xx.length::args) [] (xx++[.inst a [] []])=some (.none,nR)->
   (∀bu aQ aC x,ey e9 el bu aQ->b7 Z nR bu fO aQ aC->(∃p,aQ[xx.length]? =some p/\p.1=x)->R (.ok<|.ret<|.ref x) aC)->km (Mo Z) A (.call (.ref a) ⟨vals,[]⟩) R s:=by
  intro xx e9 fO el nR E2 aae af3 hq
  obtain⟨hh,gg,dd,tt,os⟩:=s
  have hlk:=looks_findIn (M:=Mo Z) hKin Y.init
  refine make_core (makes_of hKin Y.makes) hlk (λself=>bind_fn hKin self Y.fn) (.inl rfl)<|dS (Oh E2 Y.uM) λbu n6 bC=>?_
  have hp:(el++[(hh.objs.size+1,hh.objs.size)])[xx.length]? =some (hh.objs.size+1,hh.objs.size):=by rw[<-E2.len];simp
  refine BQ F T n6 (H _ hbase) ((rd.mono<|ey.ke _ _).mono ⟨n6.top,_,rfl⟩) hcl (args:=.h xx.length::args) ⟨_,_,rfl,⟨_,hp,rfl⟩,aae.mono bC⟩ af3 (hA.made a vals) λg' bQ s' y X' S' r=>?_
  have r:=r
  subst r
  exact⟨rfl,hq g' bQ s' (hh.objs.size+1) (bC.trans X') S' ⟨_,X'.at hp,rfl⟩⟩
 cases N5 with
 |freeze=>
  cases hf:b8 args with
  |true=>
   have e:(nX C M a fn args []).bind (λst'=>(freeze fz (.h 0) st').map λr=>(r.1,st))=some (v,st'):=by unfold pT at e;rw[hf] at e;exact e
   exact aw e λnR hM e=>dj e λq jH er=>IP hM λhM=>eI er λev est=>by subst ev est;refine go S.hide (ra.free hf) hM λg' bQ s' x X S' pp=>dS pp λp hp hx=>?_;obtain⟨g'',X'',S'',r'',hfr⟩:=mU jH S' ⟨p,hp,by rw[hx]⟩;have hg:∀b o,g b=some o->g'' b=some o:=λb o q=>X''.g _ _<|X.g _ _ q;exact h g'' ρ s' _ ⟨hg,[],(bj _).symm⟩ (S.MO hg S'')<|r''.mono<|ey.ke _ _
  |false=>
   have e:(nX C M a fn args st).bind (λst'=>(freeze fz (.h st.length) st').bind λr=>(ll st.length r.2).map λs=>(r.1,s))=some (v,st'):=by unfold pT at e;rw[hf] at e;exact e
   exact aw e λnR hM e=>aw e λq jH e=>dj e λw C2 er=>IP hM λhM=>eI er λev est=>by subst ev est;refine go S ra hM λg' bQ s' x X S' pp=>dS pp λp hp hx=>?_;obtain⟨g'',X'',S'',r'',hfr⟩:=mU jH S' ⟨p,hp,by rw[hx]⟩;obtain⟨aQ,n6,bC,_⟩:=Hk S'' C2 (X.trans X'') (by rw[S.len];exact aG _);exact h g'' aQ s' _ bC n6<|r''.mono<|ey.ke _ _
 |keep=>exact dj e λnR hM er=>IP hM λhM=>eI er λev est=>by subst ev est;exact go S ra hM λg' bQ s' x X S' pp=>h g' bQ s' _ X S' (pp.imp λz=>aH λhx=>by rw[hx])
 |some as=>
  exact aw e λnR hM e=>aw e λLX jH e=>dj e λw C2 er=>IP hM λhM=>eI er λev est=>by
   subst ev est;refine go S ra hM λg' bQ s' x X S' pp=>dS pp λp hp hx=>?_;refine dS (yX jH S') λg'' X'' S''=>?_;cases as with
   |nil=>exact absurd rfl hpol
   |cons a0 r0=>refine VH (vL jH<|uQ jH) λc1 bs vs1 hlive=>?_;have hgt:=Ep hlive rfl;obtain⟨aQ,n6,bC,afZ⟩:=Hk S'' C2 (X.trans X'') (by rw[S.len];exact ad4 hgt);exact h g'' aQ s' _ bC n6 ⟨p,afZ _ _ hgt hp,by rw[hx]⟩
end
def si.T1(Z:dM)(M:b6)(fn:Fn)(params:fh)(body:List Stmt)(scope:Scope)(qual:Str)(code:Value):Prop:=∀n C,pX Z n C->rC Z n C M fn params body scope qual code
def si.T2(Z:dM)(a:Addr)(params:fh)(body:List Stmt)(scope:Scope)(qual:Str)(code:Value)(ds:List Value):Prop:=∀h:Heap,(∀b o,Z.base b=some o->h.get? b=some o)->FE h a params body scope [] ds qual code
structure si(Z:dM)(M:b6)(a:Addr)(fn:Fn)(params:fh)(body:List Stmt)(scope:Scope)(qual:Str)(code:Value)(ds:List Value):Prop where
 OB:si.T1 Z M fn params body scope qual code
 at_:si.T2 Z a params body scope qual code ds
 wz:ei Z Z.base [] fn.wz ds
 GD:∀p∈scope.names,p.2≠.free
structure A9(Z:dM)(M:b6)(fn:Fn)(ni:nz):Prop where
 wz:fn.wz=[]
 free:ni.free=(ni.scope.names.filter λp=>p.2==.free).map (·.1)
 OB:∀n C code,pX Z n C->rC Z n C M fn ni.params ni.body ni.scope ni.qual code
def ru.T1(Z:dM)(P:FC):Prop:=∀a fn,P.fns a=some fn->∃params body scope qual code ds,si Z P.meths a fn params body scope qual code ds
def ru.T2(Z:dM)(K:Frag)(P:FC):Prop:=∀a c,P.cls a=some c->VE Z K a c.init/\c.N5≠.some []
def ru.T3(Z:dM)(P:FC):Prop:=∀k fn,P.nest k=some fn->∃ni,Z.nest k=some ni/\A9 Z P.meths fn ni
structure ru(Z:dM)(K:Frag)(P:FC):Prop where
 top:∃mg mb,zr Z mg mb
 fns:ru.T1 Z P
 cls:ru.T2 Z K P
 nest:ru.T3 Z P
section
variable{Z:dM}{K:Frag}{P:FC}{C:bT}{M:b6}{st st':List SO}{g g' fx:FH}{ρ bQ:eE}{s:Shared}{A:bD}{E:Value->Shared->Prop}{n:Nat}
theorem Qb:∀{fr:List Str}{cl:List (Str×Addr)}{cs:List Nat}{cells:List Addr},cl.map (·.1)=fr->cl.map (·.2)=cells->cs.map (λc=>(ρ[c]?).map (·.1))=cells.map some->x∈fr->
  ∃(c:Nat)(p:Addr×Addr),cs[(fr.findIdx? λy=>jg y x).getD 0]? =some c/\ρ[c]? =some p/\cl.lookup x=some p.1:=λ{fr}=>by
 induction fr with
 |nil=>intro cl cs cells _ _ _ h;exact absurd h aK
 |cons f fr ih=>
  intro cl cs cells h1 h2 h3 h;cases cl with
  |nil=>cases h1
  |cons yb cl=>
   obtain⟨y,b⟩:=yb;subst h2;cases cs with
   |nil=>cases h3
   |cons c cs=>
    refine kg (iT h1) λh1 h1'=>kg (iT h3) λh3 h4=>?_;refine dS (bq.mp h3) λp hp hb=>?_;rw[eu,ck,<-show y=f from h1];cases q:jg y x with
    |true=>obtain rfl:=oO q;rw[beq_self_eq_true];exact Av c p rfl hp<|congrArg some hb.symm
    |false=>
     have hx:y≠x:=λe=>by rw[oN.mpr e] at q;exact ae q
     rw[beq_eq_false_iff_ne.mpr<|gp hx];have hm:=(aV.mp h).elim (λe=>absurd ((show y=f from h1).trans e.symm) hx) id;refine jG (ih h1' rfl h4 hm) λc' p' a1 a2 a3=>Av c' p' ?_ a2 a3;cases e:fr.findIdx? λy=>jg y x with
     |some j=>rw[e] at a1;exact a1
     |none=>exact absurd (bU.mp e x hm) (by rw[oN.mpr rfl];exact ae)
theorem IT{h:Heap}{a:Addr}{params:fh}{body:List Stmt}{scope:Scope}{cl:List (Str×Addr)}{ds:List Value}{qual:Str}{code:Value}(H:FE h a params body scope cl ds qual code):vY Z h (.ref a):=by obtain⟨o,fd,ho,hd,_⟩:=H.is;refine⟨.frame,.inl rfl,(Fm ho).andThen ?_⟩;rw[hd];exact .now
theorem O3{h:Heap}{a m:Addr}{sv:Value}{params:fh}{body:List Stmt}{scope:Scope}{cl:List (Str×Addr)}{ds:List Value}{qual:Str}{code:Value}(H:FE h a params body scope cl ds qual code)(hm:h.get? m=some (methodObj (.ref a) sv)):vY Z h (.ref m):=by obtain⟨o,fd,ho,hd,_⟩:=H.is;refine⟨.boundFrame,.inr<|.inr rfl,(Fm hm).andThen ?_⟩;refine(Fm ho).andThen ?_;rw[hd];exact .now
theorem O2(Y:Makes (Mo Z) h a):vY Z h (.ref a):=by refine x42 Y.obj λoc od cd sl ho z=>⟨.machine,.inr<|.inl rfl,(Fm ho).andThen ?_⟩;exact Y.call.andThen .now
theorem Zv(h:Wo v=some a):v=.ref a:=by
 cases v with
 |ref b=>exact congrArg nE<|aa h
 |_=>exact aW h
theorem Qe(O:ru Z K P):∀d,pX Z d (rn P d):=λd=>by
 induction d with
 |zero=>exact λf args st v st' e=>aW e
 |succ d ih=>
  intro f args st v st' e A g fx ρ s fv avs hA S rf ra;refine zC O.top λmg mb T=>?_;cases f with
  |raw x=>
   exact aw e λa ha er=>by
    obtain rfl:=Zv ha;refine kg rf λzz0 z=>?_;subst zz0;cases hfn:P.fns a with
    |some fn=>rw[hfn] at er;refine x61 (O.fns a fn hfn) λparams body scope qual code ds F=>?_;have H:=F.at_ s.heap S.fy;exact⟨IT H,λE Q hq=>sZ<|CE (F.OB d _ ih) T S H (F.wz.mono ⟨S.top,[],rfl⟩) (λi x hi=>absurd rfl<|F.GD _<|aI hi) ra er hA.into λg' bQ s' y X S' r=>hq g' bQ s' y X S' r⟩
    |none=>rw[hfn] at er;exact aw er λc hc er=>aw er λfn hfn er=>by refine kg (O.cls a c hc) λY hpol=>x61 (O.fns _ fn hfn) λparams body scope qual code ds F=>?_;have hKin:K.In s.heap:=λb o q=>S.fy b o<|Y.inK b o q;exact⟨O2<|makes_of hKin Y.makes,λE Q hq=>sZ<|Mz (F.OB d _ ih) T S hpol Y F.at_ F.wz F.GD ra er hA λg' bQ s' y X S' r=>hq g' bQ s' y X S' r⟩
  |t5 a self=>exact aw e λfn hfn e=>by refine jG rf λm sv zz2 hm rs=>?_;subst zz2;refine x61 (O.fns a fn hfn) λparams body scope qual code ds F=>?_;have H:=F.at_ s.heap S.fy;have hm':=S.keep _ _ hm;exact⟨O3 H hm',λE Q hq=>sZ<|method_call hm'<|CE (F.OB d _ ih) T S H (F.wz.mono ⟨S.top,[],rfl⟩) (λi x hi=>absurd rfl<|F.GD _<|aI hi) (args:=self::args) ⟨sv,avs,rfl,rs,ra⟩ e hA.into λg' bQ s' y X S' r=>hq g' bQ s' y X S' r⟩
  |LR k cs=>exact aw e λfn hfn e=>by obtain⟨a,cells,rfl,hcs,fd,ni,c,oc,vs,t,h1,h2,h3,h4,h5,h6,h7,h8,h9,h10,h11,h12,h13,h14,h15,h16⟩:=rf;refine dS (O.nest k fn hfn) λni' hni F=>?_;obtain rfl:=aa<|h2.symm.trans hni;have H:FE s.heap a ni.params ni.body ni.scope fd.closure [] ni.qual fd.code:=⟨⟨_,fd,S.keep _ _ h1,rfl,h4,h5,h6,rfl,h7,h8,h3,rfl,.inl ⟨h9,rfl⟩⟩,⟨c,oc,vs,t,h13,S.keep _ _ h14,h15,h16⟩⟩;refine⟨IT H,λE Q hq=>sZ<|CE (F.OB d _ fd.code ih) T S H (by rw[F.wz];rfl) (λi x hi=>?_) ra e hA.into λg' bQ s' y X S' r=>hq g' bQ s' y X S' r⟩;rw[<-F.free];refine Qb h12 h11 hcs ?_;rw[F.free];exact bI.mpr ⟨_,mR.mpr ⟨aI hi,by simp⟩,rfl⟩
  |_=>exact aW e
end
def Eh(ps:fh)(sc:Scope)(wz:List SV):Bool:=
 ps.posonlyargs.isEmpty&&(ps.kwonlyargs.isEmpty&&(ps.vararg.isNone&&(ps.kwarg.isNone&&
 ((ps.args.map (·.arg)==(sc.names.take ps.args.length).map (·.1))&&((sc.names.take ps.args.length).all (λp=>qY p.2)&&
 (WL sc.kind&&(!sc.isGenerator&&(!sc.isCoroutine&&(decide (sc.names.map (·.1)).Nodup&&(sc.names.all (λp=>vD p.1)&&decide (wz.length<=ps.args.length)))))))))))
noncomputable def qi:Stmt->Bool
 |.FunctionDef ..=>false
 |_=>true
section
variable{Z:dM}{K:Frag}{C:bT}{M:b6}{n:Nat}{c:TC}{fe:Env->Prop}
theorem Gs(h:vD x=true):(x==("__debug__":Str))=false/\(x==("__classdict__":Str))=false:=
 cI h λa b=>⟨by simpa using a,by simpa using b⟩
theorem J2:(∀s∈ss,nr Z n ns C M fe (tr s) s)->sW Z n ns C M fe (ss.map tr) ss:=by
 induction ss with
 |nil=>intro _;exact AA
 |cons s ss ih=>intro h;exact yj (h s (ax ..))<|ih λx hx=>h x<|az _ hx
theorem AU(B:vo Z K M n C)(T:jE Z c){ps:fh}{sc:Scope}{wz:List SV}{body:List Stmt}(h:Eh ps sc wz=true){keep:Bool}{qual:Str}{code:Value}{mg:Str->Option Value}
  (hN:∀s∈body,qi s=true\/∀name params body scope pos x,s=.FunctionDef name params body [] none [] scope none name pos->pK scope.names=some x->tM Z mg (c.nst name) (λenv=>env.code=code/\env.qual=qual++".<locals>.") name params body scope pos x):
  rC Z n C M (MT c keep ps wz body sc) ps body sc qual code:=
 cI h λh1 h=>cI h λh2 h=>cI h λh3 h=>cI h λh4 h=>cI h λh5 h=>cI h λh6 h=>cI h λh7 h=>cI h λh8 h=>cI h λh9 h=>cI h λh10 h=>cI h λh11 h12=>
  {plain:=⟨bt.mp h1,bt.mp h2,bM.mp h3,bM.mp h4⟩
   np:=rfl
   names:=beq_iff_eq.mp h5
   kinds:=rfl
   argKinds:=λi p hi hp=>BC (ba.mp h6 p<|aI<|(dT (show i<ps.args.length from hi)).trans hp)
   sc:=⟨fnE h7,by simpa using h8,by simpa using h9,fX h10,λp hp=>Gs<|ba.mp h11 p hp⟩
   wz:=fX h12
   body:=J2 λs hs=>by
    have T':jE Z (fw c sc):=T.fw sc.names;rcases hN s hs with h|h
    ·exact Df (mg:=mg) B T' λname params body scope pos x e=>by subst e;exact ae h
    ·exact Df B T' h}
theorem EF{l:List Stmt}(h:((l.take j).all qi&&(l.drop<|j+1).all qi)=true):∀s∈l,qi s=true\/l[j]? =some s:=λs hs=>cI h λh1 h2=>by
 obtain⟨i,hi⟩:=il hs;by_cases q:i=j
 ·exact .inr<|q▸hi
 ·refine .inl ?_;by_cases q2:i<j
  ·exact ba.mp h1 s<|aI (by rw[dT q2];exact hi)
  ·exact ba.mp h2 s<|aI (by rw[List.getElem?_drop,show j+1+(i-(j+1))=i by omega];exact hi)
end
noncomputable abbrev o(s:String):Str:=lr s
noncomputable def srL:List String:=["ref","box","array","tuple","adt","param","int","var","intvar","Drop","goto","switch","call","drop","assert","downcast","field","deref","index","use","binary","checked","unary","cast","assign","print","discriminant","live","dead","move","const","return","","u8","G","H","p","'a","named","d","set","drop 0","drop 1","drop 2","rest","panic","end","copy","nop","t","f"]
def sr(i:Nat):Str:=o<|srL[i]?.getD ""
noncomputable abbrev dY(k:Nat):E:=.str<|sr k
def f49:Fn:=⟨1,[],jP 2,[fj 1<|cQ b0 0,.ifs (iJ bK<|dY 0) [.ret<|.tup [cQ b0 3]] [],.ifs (.or [iJ bK<|dY 1,iJ bK<|dY 2]) [.ret<|.tup [cQ b0 1]] [],.ifs (iJ bK<|dY 3) [.ret<|cQ b0 1] [],.ret<|.ite (iJ bK<|dY 4) (cQ b0 3)<|.tup []],false⟩
def f56:Fn:=⟨2,[],jP 4,[fj 2<|cQ b0 0,.ifs (iJ dq<|dY 0) [.ret<|.tup [dY 0,cQ b0 1,cQ b0 2,cQ bK 0]] [],.ifs (iJ dq<|dY 1) [.ret<|.tup [dY 1,cQ bK 0]] [],.ifs (iJ dq<|dY 2) [.ret<|.tup [dY 2,cQ bK 0,cQ b0 2]] [],.ifs (iJ dq<|dY 3) [.ret<|.tup [dY 3,.bi .tuple [bK]]] [],.ret<|.ite (iJ dq<|dY 4) (.tup [dY 4,cQ b0 1,cQ b0 2,.bi .tuple [bK]]) b0],false⟩
def f61:Fn:=⟨2,[],[.loc,.sD,.loc,.loc],[.ifs (iJ (cQ b0 0)<|dY 5) [.ret<|.bx bK 4 [cQ b0 1,b0]] [],.ret<|d6 56 [b0,.comp false [none,none,none,some 1] (d6 61 [bK,dR]) td .over [d6 49 [b0]] []]],false⟩
def f66:Fn:=⟨2,[],[.loc,.sD,.loc,.loc,.loc],[.ifs (iJ (cQ b0 0)<|dY 0) [fj 0<|.tup [dY 0,.call bK [cQ b0 1],cQ b0 2,cQ b0 3]] [.ifs (iJ (cQ b0 0)<|dY 4) [fj 0<|.tup [dY 4,cQ b0 1,.bi .tuple [.comp false [none,none,some 1] (.call dq [bK]) td .over [cQ b0 2] []],cQ b0 3]] []],.ret<|d6 56 [b0,.comp false [none,none,none,some 1] (d6 66 [bK,dR]) td .over [d6 49 [b0]] []]],false⟩
def f73:Fn:=⟨1,[],[.loc],[.ret .none],false⟩
def f80:Fn:=⟨1,[],jP 3,[.ret<|d6 66 [b0,WQ 73]],false⟩
def f87:Fn:=⟨1,[],[.loc,.loc,.sD,.loc],[fj 2<|.list true [],.defn 1 0 [2],.expr<|d6 66 [b0,bK],.ret dq],false⟩
def f94:Fn:=⟨3,[],jP 11,[.ifs (iJ (cQ b0 0)<|dY 5) [.ifs (.cmp .isIn (cQ b0 1) dq) [.ret<|iJ (.sub dq<|cQ b0 1) bK] [],.asg (.ix dq<|cQ b0 1) bK,.ret<|.bool true] [],.ifs (.or [.cmp .ne (cQ b0 0)<|cQ bK 0,.and [iJ (cQ b0 0)<|dY 6,.cmp .ne b0 bK],.cmp .isIn (cQ b0 0)<|.tup [dY 7,dY 8]]) [.ret<|.bool false] [],.ifs (.or [.and [iJ (cQ b0 0)<|dY 0,.cmp .ne (cQ b0 2)<|cQ bK 2],.and [iJ (cQ b0 0)<|dY 2,.cmp .ne (cQ b0 2)<|cQ bK 2]]) [.ret<|.bool false] [],.ifs (.and [iJ (cQ b0 0)<|dY 4,.cmp .ne (cQ b0 1)<|cQ bK 1]) [.ret<|.bool false] [],.asg (.tp [.nm 3,.nm 4])<|.tup [d6 49 [b0],d6 49 [bK]],.ifs (.cmp .ne (kH dR)<|kH fu) [.ret<|.bool false] [],.for (.many [5,6]) .zip [dR,fu] [.ifs (.not<|d6 94 [jf,jZ,dq]) [.ret<|.bool false] []],.ret<|.bool true],false⟩
def agV:Fn:=⟨3,[],jP 3,[.ret<|cQ (.sub (.attr (.sub (.attr dq 61)<|cQ b0 1) 51) bK) 2],false⟩
def agU:Fn:=⟨3,[],[.loc,.loc,.loc,.loc,.sD,.sD,.sD,.loc,.loc,.loc,.loc],[.ifs (iJ (cQ b0 0)<|dY 3) [.ret<|.comp false [none,none,none,none] (.tup [.bad,dq]) (.many [1,2]) .enum [cQ b0 1] []] [],.ifs (.cmp .ne (cQ b0 0)<|dY 4) [.ret<|.list true []] [],fj 3<|.sub (.attr dq 61)<|cQ b0 1,fj 4<|.bi .lP [.attr dR 50,cQ b0 3],fj 6<|.bi .lP [.attr dR 49,cQ b0 2],.defn 5 1 [6],.ret<|.comp false [none,none,none,none,none,some 5,some 4] (.tup [bK,d6 61 [d6 66 [dq,jf],jZ]]) (.many [1,2]) .over [d6 101 [b0,bK,dq]] []],false⟩
def agT:Fn:=⟨2,[],jP 6,[.for MB .over [.attr bK 64] [.ifs (.and [iJ (.attr dq 55)<|dY 9,d6 94 [d6 80 [.attr dq 57],d6 80 [b0],.gU false]]) [.ret<|.bool true] []],.ret<|.bool false],false⟩
def Ui:Fn:=⟨6,[.none,.none],jP 7,[.asg (.at b0 6) bK,.asg (.at b0 7) dq,.asg (.at b0 8)<|.bi .list [dR],.asg (.at b0 9)<|.ite (.cmp .is fu .none) (.list true []) fu,.asg (.at b0 10)<|.ite (.cmp .is jf .none) (.gU true) jf],false⟩
def agS:Fn:=⟨2,[],jP 2,[.ret<|cQ (.sub (fL 8) bK) 0],false⟩
def acv:Fn:=⟨2,[],jP 2,[.ret<|cQ (.sub (fL 9) bK) 0],false⟩
def acu:Fn:=⟨2,[],jP 2,[.ret<|cQ (.sub (fL 9) bK) 1],false⟩
def agR:Fn:=⟨2,[],jP 2,[.ret<|.bx (fL 10) 4 [bK,.int 0]],false⟩
def acs:Fn:=⟨1,[],[.loc,.loc,.sD,.loc,.loc],[fj 1<|.list true [],.for MB .gO [kH<|fL 9] [.expr<|.bx bK 1 [.comp false [none,none,some 2] (.tup [dq,bK]) td .gO [.bin .add (kH<|.bx b0 12 [dq])<|.int 1] []]],.ret bK],false⟩
def agQ:Fn:=⟨1,[],jP 5,[fj 1<|cQ b0 0,.ifs (iJ bK<|dY 10) [fj 2<|.list true [cQ b0 1]] [.ifs (iJ bK<|dY 11) [fj 2<|.bin .add (.comp false [none,none,none] dq (.many [1,2]) .over [cQ b0 2] [])<|.list false [cQ b0 3]] [.ifs (iJ bK<|dY 12) [fj 2<|.list true [cQ b0 4]] [.ifs (iJ bK<|dY 13) [fj 2<|.list true [cQ b0 2]] [.ifs (iJ bK<|dY 14) [fj 2<|.list true [cQ b0 4]] [fj 2<|.list true []]]]]],fj 4<|.list true [],.for EX .over [.rl 2] [.ifs (.and [.cmp .kN dR .none,.cmp .kL dR fu]) [.expr<|.bx fu 0 [.rl 3]] []],.ret fu],false⟩
def acr:Fn:=⟨1,[],jP 7,[fj 2<|.comp true [none,none] (.list true []) td .over [fL 9] [],.for td .gO [kH<|fL 9] [.for EX .over [d6 188 [.bx b0 13 [bK]]] [.expr<|.bx (.sub dq dR) 0 [.rl 1]]],.ret dq],false⟩
def agP:Fn:=⟨4,[],jP 6,[.ifs (iJ (cQ b0 0)<|dY 3) [.ret<|.sub (cQ b0 1) dq] [],.ifs (iJ (cQ b0 0)<|dY 4) [.ret<|cQ (.sub (d6 106 [b0,bK,dR]) dq) 1] [],.bad],false⟩
def agO:Fn:=⟨4,[],jP 7,[fj 4<|cQ dq 0,.ifs (iJ fu<|dY 15) [.ret<|.tup [b0,cQ dq 1]] [],.ifs (iJ fu<|dY 16) [.ret<|.tup [d6 200 [b0,bK,cQ dq 1,dR],.int 0]] [],.ifs (.and [iJ fu<|dY 17,iJ (cQ b0 0)<|dY 0]) [.ret<|.tup [cQ b0 3,.int 0]] [],.ifs (.or [.and [iJ fu<|dY 17,iJ (cQ b0 0)<|dY 1],.and [iJ fu<|dY 18,iJ (cQ b0 0)<|dY 2]]) [.ret<|.tup [cQ b0 1,.int 0]] [],.bad],false⟩
def agN:Fn:=⟨3,[],jP 7,[.asg (.tp [.nm 3,.nm 4])<|.tup [.bx b0 11 [cQ bK 0],.int 0],.for VF .over [cQ bK 1] [.asg (.tp [.nm 3,.nm 4])<|d6 207 [dR,fu,jf,dq]],.ret dR],false⟩
def agM:Fn:=⟨1,[],jP 3,[fj 1<|cQ b0 0,.ifs (.cmp .isIn bK<|.tup [dY 19,dY 1]) [.ret<|.list true [cQ b0 1]] [],.ifs (.cmp .isIn bK<|.tup [dY 20,dY 21]) [.ret<|.list true [cQ b0 2,cQ b0 3]] [],.ifs (iJ bK<|dY 22) [.ret<|.list true [cQ b0 2]] [],.ifs (iJ bK<|dY 23) [.ret<|.list true [cQ b0 1]] [],.ifs (.cmp .isIn bK<|.tup [dY 3,dY 2]) [.ret<|.bi .list [cQ b0 1]] [],.ret<|.ite (iJ bK<|dY 4) (.bi .list [cQ b0 3])<|.list true []],false⟩
def acq:Fn:=⟨2,[],jP 9,[.asg (.tp [.nm 2,.nm 3]) bK,.ifs (.cmp .lt dR<|kH<|.bx b0 12 [dq]) [fj 4<|.sub (.bx b0 12 [dq]) dR,.ifs (iJ (cQ fu 0)<|dY 24) [.ret<|d6 221 [cQ fu 2]] [],.ret<|.ite (iJ (cQ fu 0)<|dY 25) (.list true [cQ fu 1])<|.list true []] [],fj 5<|.bx b0 13 [dq],.ifs (iJ (cQ jf 0)<|dY 12) [.ret<|.bi .list [cQ jf 2]] [],.ret<|.ite (.cmp .isIn (cQ jf 0)<|.tup [dY 11,dY 14]) (.list true [cQ jf 1])<|.list true []],false⟩
def agL:Fn:=⟨1,[],[.loc],[.ret<|.comp false [none,none] (cQ bK 1) td .over [cQ b0 1] [iJ (cQ bK 0)<|dY 18]],false⟩
def acp:Fn:=⟨2,[],jP 2,[.ret<|.bin .bor b0 bK],false⟩
def aco:Fn:=⟨4,[],jP 7,[.for RF .gO [.bin .add (kH<|cQ (.sub (fL 9) dq) 0)<|.int 1] [fj 1<|.call dR [bK,dq,fu]],.ret bK],false⟩
def acn:Fn:=⟨4,[],jP 14,[fj 4<|.rep true .none<|kH<|fL 9,.asg (.ix fu<|.int 0) bK,fj 5<|.list true [.int 0],.wg (.cmp .ne jf<|.list false []) [fj 6<|.bx jf 2 [],fj 7<|d6 247 [b0,.sub fu jZ,jZ,dq],.for RE .over [d6 188 [cQ (.sub (fL 9) jZ) 1]] [fj 9<|.sub fu zX,fj 10<|.ite (.cmp .is FJ .none) qM<|.call dR [FJ,qM],.ifs (.or [.cmp .is FJ .none,.cmp .ne Bs FJ]) [.asg (.ix fu zX) Bs,.ifs (.cmp .kL zX jf) [.expr<|.bx jf 0 [.rl 8]] []] []]],.ret fu],false⟩
def acm:Fn:=⟨3,[],jP 9,[fj 3<|.gU true,.for RF .gO [kH<|fL 9] [fj 5<|.sub bK fu,.ifs (.cmp .kN jf .none) [.for EW .gO [.bin .add (kH<|cQ (.sub (fL 9) fu) 0)<|.int 1] [.asg (.ix dR<|.tup [fu,jZ]) jf,fj 5<|.call dq [jf,fu,jZ]]] []],.ret dR],false⟩
def ack:Fn:=⟨5,[],jP 8,[fj 5 dR,.for EW .over [d6 188 [cQ (.sub (fL 9) dq) 1]] [fj 5<|.call fu [jf,.sub bK jZ]],.ret jf],false⟩
def acj:Fn:=⟨5,[],jP 8,[.for VF .pJ [kH<|cQ (.sub (fL 9) dq) 0,.bin .sub dR<|.int 1,.neg<|.int 1] [fj 1<|.call fu [bK,dq,jf]],.ret bK],false⟩
def aci:Fn:=⟨4,[],jP 16,[fj 4<|.rep true bK<|kH<|fL 9,fj 5<|d6 193 [b0],fj 6<|.bi .tC [kH<|fL 9],.wg (.cmp .ne jZ<|.list false []) [fj 7<|.bx jZ 2 [],fj 8<|d6 275 [b0,d6 268 [b0,fu,qM,bK,dR],qM,.int 0,dq],.ifs (.cmp .ne zX<|.sub fu qM) [.asg (.ix fu qM) zX,.for zo9 .over [.sub jf qM] [.ifs (.cmp .kL FJ jZ) [.expr<|.bx jZ 0 [.rl 9]] []]] []],.ret fu],false⟩
def ach:Fn:=⟨5,[],jP 12,[fj 5<|.gU true,.for EW .gO [kH<|fL 9] [fj 7<|d6 268 [b0,bK,jZ,dq,fu],.for RE .pJ [kH<|cQ (.sub (fL 9) jZ) 0,.neg<|.int 1,.neg<|.int 1] [fj 7<|.call dR [qM,jZ,zX],.asg (.ix jf<|.tup [jZ,zX]) qM]],.ret jf],false⟩
def acg:Fn:=⟨2,[],jP 7,[.asg (.tp [.nm 2,.nm 3]) bK,fj 4<|cQ (.sub (fL 9) dq) 0,.ifs (.and [.cmp .lt dR<|kH fu,iJ (cQ (.sub fu dR) 0)<|dY 24]) [fj 5<|cQ (.sub fu dR) 2,.ifs (iJ (cQ jf 0)<|dY 0) [.ret<|cQ jf 3] [],.ifs (iJ (cQ jf 0)<|dY 26) [.ret<|cQ jf 1] []] [],.ret .none],false⟩
def acf:Fn:=⟨2,[],jP 7,[.asg (.tp [.nm 2,.nm 3]) bK,.asg (.tp [.nm 4,.nm 5])<|.sub (fL 9) dq,.ifs (.cmp .lt dR<|kH fu) [.ret<|.ite (iJ (cQ (.sub fu dR) 0)<|dY 24) (cQ (.sub fu dR) 1) .none] [],.ret<|.ite (iJ (cQ jf 0)<|dY 12) (cQ jf 3) .none],false⟩
def ace:Fn:=⟨2,[],jP 7,[.asg (.tp [.nm 2,.nm 3]) bK,.asg (.tp [.nm 4,.nm 5])<|.sub (fL 9) dq,.ret<|.ite (.and [iJ dR<|kH fu,iJ (cQ jf 0)<|dY 13]) (cQ jf 1) .none],false⟩
def acd:Fn:=⟨2,[],jP 6,[.asg (.tp [.nm 2,.nm 3]) bK,fj 4<|cQ (.sub (fL 9) dq) 0,.ifs (.and [.cmp .lt dR<|kH fu,.cmp .isIn (cQ (.sub fu dR) 0)<|.tup [dY 27,dY 28]]) [.ret<|cQ (.sub fu dR) 1] [],.ret .none],false⟩
def agK:Fn:=⟨2,[],jP 3,[.ret<|.and [iJ (cQ b0 0)<|dY 4,d6 113 [b0,bK]]],false⟩
def Hd:Fn:=⟨3,[],jP 13,[.asg (.at b0 14) bK,.asg (.at b0 15) dq,.asg (.at b0 16)<|.list true [],.asg (.at b0 17)<|.list true [],.asg (.at b0 18)<|.list true [],.asg (.at b0 19)<|.gU true,.asg (.at b0 20)<|.gU true,.for EX .gO [kH<|.attr bK 8] [.expr<|.bx b0 21 [.tup [dR,.tup []]]],.for RF .over [d6 183 [bK]] [.for VF .over [d6 228 [bK,fu]] [.ifs (iJ (cQ jf 0)<|dY 29) [.expr<|.bx b0 21 [.bx b0 23 [cQ jf 1]]] []],.for EW .over [.tup [d6 303 [bK,fu],d6 310 [bK,fu]]] [.ifs (.cmp .kN jZ .none) [.expr<|.bx b0 21 [.bx b0 23 [jZ]]] []]]],false⟩
def agJ:Fn:=⟨2,[],jP 7,[.ifs (.cmp .isIn bK<|fL 19) [.ret<|.sub (fL 19) bK] [],.asg (.tp [.nm 2,.nm 3]) bK,fj 4<|.ite (.cmp .ne dR<|.tup []) (.bx b0 21 [.tup [dq,.kb dR<|.neg<|.int 1]])<|.neg<|.int 1,fj 5<|kH<|fL 16,.asg (.ix (fL 19) bK) jf,.expr<|.bx (fL 16) 0 [.rl 1],.expr<|.bx (fL 17) 0 [.rl 4],.expr<|.bx (fL 18) 0 [.list true []],.ifs (.cmp .ge fu<|.int 0) [.expr<|.bx (.sub (fL 18) fu) 0 [.rl 5]] [],.ret jf],true⟩
def agI:Fn:=⟨2,[],jP 8,[.asg (.tp [.nm 2,.nm 3]) bK,.for RF .gO [kH dR] [.ifs (iJ (cQ (.sub dR fu) 0)<|dY 18) [.ret fu] [],.ifs (iJ (cQ (.sub dR fu) 0)<|dY 17) [.ifs (iJ (cQ (d6 214 [fL 14,.tup [dq,.kb dR fu],fL 15]) 0)<|dY 0) [.ret fu] []] []],.ret<|kH dR],false⟩
def agH:Fn:=⟨2,[],jP 3,[.ret<|.tup [cQ bK 0,.bi .tuple [.kb (cQ bK 1)<|.bx b0 22 [bK]]]],false⟩
def agG:Fn:=⟨2,[],jP 3,[.ret<|.cmp .lt (.bx b0 22 [bK])<|kH<|cQ bK 1],false⟩
def agF:Fn:=⟨2,[],jP 6,[.asg (.tp [.nm 2,.nm 3])<|.bx b0 23 [bK],fj 4<|kH dR,.wg (.cmp .kL (.tup [dq,.kb dR fu])<|fL 19) [.bad],.ret<|.sub (fL 19)<|.tup [dq,.kb dR fu]],false⟩
def agE:Fn:=⟨2,[],jP 3,[.ret<|.and [.not<|.bx b0 24 [bK],.cmp .isIn (.tup [cQ bK 0,.bi .tuple [cQ bK 1]])<|fL 19]],false⟩
def acb:Fn:=⟨2,[],jP 6,[.ifs (.cmp .kL bK<|fL 20) [.asg (.tp [.nm 2,.nm 3])<|.tup [.list true [],.list true [bK]],.wg (.cmp .ne dR<|.list false []) [fj 4<|.bx dR 2 [],.expr<|.bx dq 0 [.rl 4],.expr<|.bx dR 1 [.sub (fL 18) fu]],.asg (.ix (fL 20) bK)<|.bi .sorted [dq]] [],.ret<|.sub (fL 20) bK],false⟩
def aca:Fn:=⟨3,[],jP 9,[.asg (.at b0 14) bK,.asg (.at b0 28)<|d6 404 [bK,dq],.asg (.at b0 29)<|.gU true,.for EX .over [d6 183 [bK]] [.asg (.ix (fL 29) dR)<|.bx b0 34 [dR]],.asg (.at b0 30)<|d6 261 [bK,d6 254 [bK,.bx b0 31 [],fL 35,WQ 240],fL 35]],false⟩
def ab9:Fn:=⟨1,[],jP 9,[fj 1<|.bi .dx [],.for MB .gO [kH<|.attr (fL 14) 8] [fj 3<|.CC .lt .le (.int 0) dq<|.attr (fL 14) 7,fj 1<|.bx b0 32 [bK,.bx (fL 28) 25 [.tup [dq,.tup []]],.ite dR (.int 0)<|.int 2]],.ret bK],false⟩
def K1:Fn:=⟨4,[],[.loc,.sD,.loc,.sD,.loc,.loc,.loc,.loc,.loc],[fj 4<|.bx (fL 28) 27 [dq],.ifs (iJ dR<|.int 3) [fj 5<|.comp false [none,none,none,some 1] bK td .over [.rl 4] [.cmp .isIn (.bin .add (.bin .mul (.int 3) bK)<|.int 0) dR],fj 6<|.bi .dx [.comp false [none,none,none] (.bin .add (.bin .mul (.int 3) bK)<|.int 0) td .over [.rl 5] []],.ret<|.bin .bor (.bin .sub bK jZ)<|.bi .dx [.comp false [none,none,none] (.bin .add (.bin .mul (.int 3) bK)<|.int 1) td .over [.rl 5] []]] [],fj 6<|.bi .dx [.Ez [none,none,none,none,none,none] (.bin .add (.bin .mul (.int 3) bK) dq) td .over [.rl 4] MB<|.tup [.int 0,.int 1,.int 2]],.ret<|.bin .bor (.bin .sub bK jZ)<|.bi .dx [.comp false [none,none,some 3] (.bin .add (.bin .mul (.int 3) bK) dq) td .over [.rl 4] []]],false⟩
def ab8:Fn:=⟨2,[],jP 2,[.ret<|.sub (fL 29) bK],false⟩
def ab7:Fn:=⟨2,[],jP 15,[fj 2<|.list true [],.for EX .over [d6 228 [fL 14,bK]] [.ifs (.and [iJ (cQ dR 0)<|dY 29,.bx (fL 28) 26 [cQ dR 1]]) [.expr<|.bx dq 0 [.tup [.bx (fL 28) 25 [cQ dR 1],.int 1]]] []],.asg (.tp [.nm 4,.nm 5])<|.tup [d6 310 [fL 14,bK],d6 317 [fL 14,bK]],fj 6<|d6 303 [fL 14,bK],.ifs (.and [.cmp .kN fu .none,.bx (fL 28) 26 [fu]]) [.expr<|.bx dq 0 [.tup [.bx (fL 28) 25 [fu],.int 3]]] [],.ifs (.cmp .kN jf .none) [.expr<|.bx dq 0 [.tup [.bx (fL 28) 25 [.tup [jf,.tup []]],.int 2]]] [],.ifs (.and [.cmp .kN jZ .none,.bx (fL 28) 26 [jZ]]) [.expr<|.bx dq 0 [.tup [.bx (fL 28) 25 [jZ],.int 0]]] [],.ret dq],false⟩
def ab6:Fn:=⟨4,[],jP 6,[.for (.many [4,5]) .over [.bx b0 33 [.tup [dq,dR]]] [fj 1<|.bx b0 32 [bK,fu,jf]],.ret bK],false⟩
def ab5:Fn:=⟨2,[],jP 2,[.ret<|.bx (fL 30) 4 [bK]],false⟩
def agD:Fn:=⟨4,[],jP 4,[.ret<|.cmp .isIn (.bin .add (.bin .mul (.int 3) dq) dR) bK],false⟩
def agC:Fn:=⟨4,[],jP 14,[fj 4<|cQ b0 0,.ifs (iJ dR<|.int 0) [.expr<|.bx dq 1 [d6 87 [b0]],.bad] [],.ifs (.or [iJ fu<|dY 1,iJ fu<|dY 2]) [.expr<|d6 504 [cQ b0 1,bK,dq,.bin .sub dR<|.int 1]] [.ifs (iJ fu<|dY 3) [.for VF .over [cQ b0 1] [.expr<|d6 504 [jf,bK,dq,.bin .sub dR<|.int 1]]] [.ifs (iJ fu<|dY 4) [.ifs (d6 324 [b0,bK]) [.expr<|.bx dq 1 [d6 87 [b0]]] [.for EW .gO [kH<|.attr (.sub (.attr bK 61)<|cQ b0 1) 51] [.for (.many [7,5]) .over [d6 106 [b0,jZ,bK]] [.expr<|d6 504 [jf,bK,dq,.bin .sub dR<|.int 1]]]]] []]]],false⟩
def ab4:Fn:=⟨3,[],[.sD,.loc,.loc,.sD,.loc],[fj 3<|.bx b0 36 [bK],.ifs (.cmp .is dR .none) [.ret<|.bool false] [],fj 4<|.bx (fL 28) 27 [.bx (fL 28) 25 [.tup [dq,.tup []]]],.ret<|.cmp .ne (.comp false [none,none,none,some 3,some 0] bK td .over [.rl 4] [.bx fu 37 [dR,bK,.int 0]])<|.list false []],false⟩
def Uh:Fn:=⟨5,[],[.loc,.loc,.loc,.loc,.loc,.sD,.loc,.loc,.loc,.loc,.loc,.loc,.loc,.loc,.loc,.loc,.loc,.loc,.loc],[fj 5<|.gU true,.asg (.tp [.nm 6,.nm 7])<|.tup [.list true [],.list true []],.for RE .over [fL 8] [fj 9<|.list true [],.expr<|d6 504 [cQ zX 0,bK,FJ,.int 8],.expr<|.bx jZ 0 [d6 87 [cQ zX 0]],.expr<|.bx qM 0 [.rl 9]],.for (.many [10,11]) .enum [.rl 2] [.for MC .over [.bx dR 45 [xW]] [.for Dd .over [.sub jZ tg] [.asg (.ix (.bx jf 5 [RG,.gU true]) Bs)<|.bool true]],.for MC .over [.bi .sorted [.bx dR 46 [xW]]] [.ifs (.and [.cmp .ne (.sub qM tg)<|.list false [],d6 509 [fu,xW,tg]]) [.for Dd .over [.sub qM tg] [.asg (.ix (.bx jf 5 [RG,.gU true]) Bs)<|.bool true]] []]],.ret<|.AX [none,none,none,some 5] bK (.bi .sorted [.sub dR bK]) td<|.rl 5],false⟩
def ab3:Fn:=⟨2,[],jP 15,[fj 2<|.list true [],.for EX .over [d6 228 [b0,bK]] [.ifs (.cmp .ne (cQ dR 0)<|dY 30) [.expr<|.bx dq 0 [cQ (cQ dR 1) 0],.expr<|.bx dq 1 [d6 233 [cQ dR 1]]] []],.for RF .over [.tup [d6 296 [b0,bK],d6 310 [b0,bK]]] [.ifs (.cmp .kN fu .none) [.expr<|.bx dq 1 [d6 233 [fu]]] []],.asg (.tp [.nm 5,.nm 6])<|.tup [d6 296 [b0,bK],d6 303 [b0,bK]],.ifs (.cmp .kN jf .none) [.expr<|.bx dq 0 [cQ jf 0]] [],.ifs (.and [.cmp .kN jZ .none,.cmp .ne (cQ jZ 1)<|.tup []]) [.expr<|.bx dq 0 [cQ jZ 0],.expr<|.bx dq 1 [d6 233 [jZ]]] [],.ifs (d6 529 [b0,bK]) [.expr<|.bx dq 0 [.int 0]] [],.ret<|.bi .kh [dq]],false⟩
def ab2:Fn:=⟨2,[],jP 5,[.asg (.tp [.nm 2,.nm 3])<|.sub (fL 9)<|cQ bK 0,.ret<|.and [iJ (cQ bK 1)<|kH dq,iJ (cQ dR 0)<|dY 31]],false⟩
def ab1:Fn:=⟨2,[],jP 4,[fj 2<|d6 310 [b0,bK],.ret<|.ite (.cmp .is dq .none) (.list true [])<|.list true [cQ dq 0]],false⟩
def ab0:Fn:=⟨2,[],jP 7,[.asg (.tp [.nm 2,.nm 3])<|.tup [d6 317 [b0,bK],d6 303 [b0,bK]],fj 4<|.ite (.cmp .is dq .none) (.list true [])<|.list true [dq],.ifs (.and [.cmp .kN dR .none,iJ (cQ dR 1)<|.tup []]) [.expr<|.bx fu 0 [cQ dR 0]] [],.ret fu],false⟩
def abZ:Fn:=⟨2,[],jP 14,[.asg (.tp [.at b0 38,.at b0 39,.at b0 40])<|.tup [.gU true,.gU true,.gU true],.for MB .over [d6 183 [bK]] [.asg (.ix (fL 38) dq)<|.bi .dx [d6 522 [bK,dq]],.asg (.ix (fL 39) dq)<|.bi .dx [d6 536 [bK,dq]],.asg (.ix (fL 40) dq)<|.bi .dx [d6 543 [bK,dq]]],fj 3<|d6 282 [bK,.Ad,fL 43,WQ 240],fj 4<|d6 282 [bK,.Ad,fL 44,WQ 240],.asg (.at b0 41)<|d6 289 [bK,dR,.Ad,fL 43,WQ 240],.asg (.at b0 42)<|d6 289 [bK,fu,.Ad,fL 44,WQ 240]],false⟩
def abY:Fn:=⟨4,[],jP 4,[.ret<|.bin .bor (.bin .sub bK<|.sub (fL 40)<|.tup [dq,dR])<|.sub (fL 38)<|.tup [dq,dR]],false⟩
def abX:Fn:=⟨4,[],jP 4,[.ret<|.bin .bor (.bin .sub bK<|.sub (fL 40)<|.tup [dq,dR])<|.sub (fL 39)<|.tup [dq,dR]],false⟩
def abW:Fn:=⟨2,[],jP 2,[.ret<|.sub (fL 41) bK],false⟩
def abV:Fn:=⟨2,[],jP 2,[.ret<|.sub (fL 42) bK],false⟩
def agB:Fn:=⟨8,[.str<|sr 32,.tup []],jP 8,[.asg (.at b0 47) bK,.asg (.at b0 48) jZ,.asg (.at b0 49) dq,.asg (.at b0 50) dR,.asg (.at b0 51) fu,.asg (.at b0 52) qM,.asg (.at b0 53) jf],false⟩
def agA:Fn:=⟨9,[.int 0],jP 9,[.asg (.at b0 54) bK,.asg (.at b0 49) dq,.asg (.at b0 50) dR,.asg (.at b0 55) fu,.asg (.at b0 56) jf,.asg (.at b0 57) jZ,.asg (.at b0 58) qM,.asg (.at b0 59) zX],false⟩
def agz:Fn:=⟨2,[.none],jP 2,[.asg (.at b0 60) bK,.asg (.at b0 61)<|.gU true,.asg (.at b0 51)<|.gU true,.asg (.at b0 62)<|.gU true,.asg (.at b0 63)<|.gU true,.asg (.at b0 64)<|.list true [],.asg (.at b0 65)<|.gU true,.asg (.at b0 66)<|.gU true],false⟩
def Cq:Fn:=⟨2,[],jP 8,[fj 2<|.int 0,.ifs (.cmp .lt bK<|kH b0) [fj 2<|.sub b0 bK] [],fj 3<|.bi .max [.bi .int [dq],.bi .int [.bin .sub (.neg<|.int 1) dq]],fj 4<|.bin .mod (.bi .int [.bin .mul (.bin .add (.bin .add (.bin .add (.bin .mod (.bi .int [dR])<|.int 2147483629)<|.bin .mul (.bin .mul (.int 7919) bK) bK)<|.bin .mul (.int 31) bK)<|.int 17)<|.int 48271])<|.int 2147483647,.ret<|.list true [.bin .mul dR<|.bi .int [.cmp .ge dR<|.bin .pow (.int 10)<|.int 18],fu]],true⟩
def Y2:Fn:=⟨2,[],jP 4,[.ifs (.cmp .gt (cQ b0 0)<|.int 0) [fj 2<|.bin .mod (.bi .int [cQ b0 0]) bK,.asg (.ix b0<|.int 0)<|.bin .fdiv (cQ b0 0) bK,.ret dq] [],.asg (.ix b0<|.int 1)<|.bin .mod (.bi .int [.bin .add (.bin .mul (cQ b0 1)<|.int 39373)<|.int 7])<|.int 2147483647,.ret<|.bin .mod (.bi .int [.bin .fdiv (.bin .mod (.bi .int [.bin .mul (cQ b0 1)<|cQ b0 1])<|.int 2147483629)<|.int 32]) bK],false⟩
def abU:Fn:=⟨2,[],jP 4,[.ret<|.sub bK<|d6 680 [b0,kH bK]],false⟩
def agy:Fn:=⟨0,[],jP 7,[.asg (.tp [.nm 0,.nm 1])<|.tup [d6 662 [.none],.tup [dY 6,dY 33]],.for MB .over [.list false [dY 34,dY 35]] [fj 3<|.list true [.tup [dY 36,.tup [dY 0,dY 37,.bool false,bK]]],.asg (.ix (fL 61) dq)<|d6 611 [dq,.tup [dY 37],.tup [],.list false [.tup [dq,dY 38,dR]],.bool false]],.expr<|.bx (fL 64) 0 [d6 633 [.int 0,.tup [dY 37],.list false [],dY 9,.tup [],.tup [dY 4,dY 34,.tup [dY 37],.tup []],.Es (sr 13)<|sr 39]],.ret b0],false⟩
def agx:Fn:=⟨0,[],jP 2,[.asg (.tp [.nm 0,.nm 1])<|.tup [.tup [dY 4,dY 34,.tup [.int 1],.tup []],.tup [dY 4,dY 35,.tup [.int 2],.tup []]],.ret<|.tup [dY 3,.tup [b0,bK,.tup [dY 1,.tup [dY 4,dY 34,.tup [.int 3],.tup []]],.tup [dY 0,.int 4,.bool false,.tup [dY 4,dY 34,.tup [.int 5],.tup []]]]]],false⟩
def abT:Fn:=⟨1,[],jP 6,[fj 1<|.rep true (dY 40)<|d6 680 [b0,.int 2],.for MB .gO [.bin .add (.int 2)<|d6 680 [b0,.int 8]] [.expr<|.bx bK 0 [d6 687 [b0,.list false [dY 40,dY 19,dY 13,dY 41,dY 42,dY 43,dY 13,dY 44]]]],.ret bK],false⟩
def Y1:Fn:=⟨1,[],jP 10,[.asg (.tp [.nm 1,.nm 2])<|.tup [.list true [.list true [.list true [],.tup [dY 45,dY 46]]],.list true []],.for EX .over [.rl 0] [.expr<|.bx dq 0 [.tup [.bin .sub (kH bK)<|.int 1,kH<|cQ (.sub bK<|.neg<|.int 1) 0]],.ifs (iJ (.kb dR<|.int 4)<|dY 13) [fj 4<|.ite (iJ dR<|dY 13) (.tup [])<|.tup [.tup [dY 16,.bi .int [.kc dR<|.neg<|.int 1]]],.asg (.ix (.sub bK<|.neg<|.int 1)<|.int 1)<|.tup [dY 13,.tup [.int 1,fu],kH bK],.expr<|.bx bK 0 [.list true [.list true [],.tup [dY 45,dY 46]]]] [.ifs (iJ dR<|dY 40) [.expr<|.bx (cQ (.sub bK<|.neg<|.int 1) 0) 0 [.tup [dY 24,.tup [.int 1,.tup []],.tup [dY 19,.tup [dY 30,d6 701 [],.int 0]]]]] [.ifs (iJ dR<|dY 19) [.expr<|.bx (cQ (.sub bK<|.neg<|.int 1) 0) 0 [.tup [dY 25,.tup [dY 47,.tup [.int 1,.tup [.tup [dY 16,.int 1],.tup [dY 16,.int 0],.tup [dY 17]]]]]]] [.expr<|.bx (cQ (.sub bK<|.neg<|.int 1) 0) 0 [.tup [dY 48]]]]]],fj 5<|.list true [.tup [.tup [dY 3,.tup []],.bool true,.none],.tup [d6 701 [],.bool true,dY 49]],.ret<|.list true [d6 174 [dY 50,.int 0,jf,bK,.gU false],dq]],false⟩
def abS:Fn:=⟨2,[],jP 5,[fj 2<|.kc b0 bK,fj 2<|.ite (.cmp .isIn (dY 40) dq) (.kb dq<|.bx dq 3 [dY 40]) dq,.ifs (.cmp .isIn (dY 19) dq) [.ret<|.list true [.int 1,.int 2,.int 3,.int 4,.int 5]] [],fj 3<|.yp<|.kb b0 bK,fj 3<|.ite (.cmp .isIn (dY 40) dR) (.kb dR<|.bx dR 3 [dY 40])<|.list true [dY 13],fj 4<|.cmp .ne (.comp false [none,none] bK td .over [.rl 2] [iJ (.kb bK<|.int 4)<|dY 13])<|.list false [],.ret<|.ite (.and [fu,.cmp .kL (dY 13) dR]) (.list true [.int 1,.int 3])<|.list true []],false⟩
def Y0:Fn:=⟨1,[],[.loc,.loc,.loc,.loc,.loc,.sD,.loc,.loc,.sD,.loc,.loc,.loc,.loc,.loc,.loc,.loc,.loc,.loc],[.asg (.tp [.nm 1,.nm 2])<|d6 715 [b0],.asg (.tp [.nm 3,.nm 4])<|.tup [d6 694 [],d6 183 [bK]],fj 5<|d6 514 [bK,dR,fu,d6 588 [bK],d6 493 [bK,dR]],.for (.many [6,7]) .enum [.rl 2] [fj 8<|.bx fu 3 [qM],.ifs (.cmp .ne (.comp false [none,none,some 8,some 5] bK td .gO [.int 6] [.cmp .isIn dq<|.bx dR 4 [bK,.list false []]])<|d6 720 [b0,jZ]) [.ret<|.bool false] []],.ret<|.bool true],false⟩
def YZ:Fn:=⟨1,[],jP 9,[.ifs (.not<|d6 725 [.list false [dY 40,dY 13,dY 44,dY 41]]) [.ret<|.bool false] [],.for td .gO [.bi .max [.int 1,.bi .min [.int 2,kH b0]]] [.ifs (.not<|d6 725 [d6 708 [d6 673 [b0,bK]]]) [.ret<|.bool false] []],.ret<|.bool true],false⟩
noncomputable def n0:Fn:=⟨1,[],[.loc,.Z6 0],[.expr<|.bx bK 0 [.rl 0],.ret b0],false⟩
noncomputable def n1:Fn:=⟨1,[],[.loc,.Z6 0],[.ret<|.bx bK 4 [b0,b0]],false⟩
def fnL:List (Addr×Fn):=[(49,f49),(56,f56),(61,f61),(66,f66),(73,f73),(80,f80),(87,f87),(94,f94),(101,agV),(106,agU),(113,agT),(128,Ui),(135,agS),(149,acv),(156,acu),(163,agR),(183,acs),(188,agQ),(193,acr),(200,agP),(207,agO),(214,agN),(221,agM),(228,acq),(233,agL),(240,acp),(247,aco),(254,acn),(261,acm),(268,ack),(275,acj),(282,aci),(289,ach),(296,acg),(303,acf),(310,ace),(317,acd),(324,agK),(338,Hd),(345,agJ),(352,agI),(359,agH),(366,agG),(373,agF),(380,agE),(401,acb),(422,aca),(429,ab9),(434,K1),(441,ab8),(448,ab7),(455,ab6),(462,ab5),(469,agD),(504,agC),(509,ab4),(514,Uh),(522,ab3),(529,ab2),(536,ab1),(543,ab0),(557,abZ),(564,abY),(571,abX),(578,abW),(585,abV),(608,agB),(630,agA),(652,agz),(673,Cq),(680,Y2),(687,abU),(694,agy),(701,agx),(708,abT),(715,Y1),(720,abS),(725,Y0),(732,YZ)]
noncomputable def Qa:List (Addr×Cls):=[(174,⟨128,.freeze⟩),(404,⟨338,.some [16,17,18,19]⟩),(493,⟨422,.freeze⟩),(588,⟨557,.freeze⟩),(611,⟨608,.freeze⟩),(633,⟨630,.freeze⟩),(662,⟨652,.keep⟩)]
noncomputable def DS:List (Addr×List (Nat×Addr)):=[(174,[(11,135),(12,149),(13,156),(59,163)]),(404,[(21,345),(22,352),(23,359),(24,366),(25,373),(26,380),(27,401)]),(493,[(31,429),(32,434),(33,441),(34,448),(35,455),(36,462),(37,469)]),(588,[(43,564),(44,571),(45,578),(46,585)]),(611,[]),(633,[]),(662,[])]
def we:List Str:=[o "append",o "extend",o "pop",o "index",o "get",o "setdefault",o "name",o "arg_count",o "locals",o "blocks",o "spots",o "type_of",o "statements",o "terminator",o "body",o "world",o "places",o "parents",o "kids",o "numbers",o "lots",o "add",o "depth_of",o "cut",o "is_cut",o "number_of",o "is_exact",o "below",o "paths",o "done",o "facts",o "begin",o "turned",o "deeds",o "deeds_of",o "step",o "at",o "may_be",o "used",o "dropped",o "put",o "use_facts",o "drop_facts",o "use_step",o "drop_step",o "for_use",o "for_drop",o "path",o "module",o "regions",o "params",o "variants",o "publics",o "is_enum",o "number",o "trait",o "trait_args",o "self_type",o "methods",o "spot",o "modules",o "adts",o "sigs",o "traits",o "impls",o "consts",o "bodies"]
def prog:FC:={fns:=λa=>fnL.lookup a,nest:=λk=>if k==0 then some n0 else if k==1 then some n1 else none,cls:=λa=>Qa.lookup a,meths:=λc a=>(DS.lookup c).bind λl=>l.lookup a}
theorem aP{x:Option α}{a:α}{r:Option β}(h:x=some a)(k:f a=r):x.bind f=r:=by subst h;exact k
theorem iB{x:Option α}{a:α}{b:β}(h:x=some a)(k:f a=b):x.map f=some b:=by subst h;exact congrArg some k
abbrev tS(s:String):SV:=.str<|o s
abbrev EV(d:Nat):bT:=rn prog d
abbrev MM:b6:=prog.meths
theorem kO{c:Bool}{x:α}(h:c=true):gd c x=some x:=by rw[h];rfl
theorem uO{n:Nat}{x:α}(h:n<=eA):gd (decide<|n<=eA) x=some x:=kO<|decide_eq_true h
theorem g6{x:α}(h:xs[i]? =some x)(hl:i<=eA):uy xs (i:Int)=some x:=by unfold uy;rw[uO (show(i:Int).natAbs<=eA from hl)];exact h
theorem pB{st:List SO}{xs:List SV}{v:SV}(h:uy xs i=some v):gi st (.lst xs) (.int i)=some v:=h
theorem qO{st:List SO}{xs:List SV}{v:SV}(hk:st[k]? =some (.list xs))(h:uy xs i=some v):gi st (.h k) (.int i)=some v:=by
 have h1:jk st (.h k)=none:=by show st[k]?.bind pC=none;rw[hk];rfl
 have h2:nc st (.h k)=some xs:=by show st[k]?.bind gE=_;rw[hk];rfl
 unfold gi;rw[h1];exact aP h2 h
theorem MY{st:List SO}{ks vs:List SV}{x key v:SV}(hx:jk st x=some (ks,vs))(h:cW key ks=some (some j))(hv:vs[j]? =some v):gi st x key=some v:=by unfold gi;rw[hx];exact aP h hv
theorem XK{st:List SO}{x:SV}{xs:List SV}(hx:nc st x=some xs)(h:xs.length<=eA):builtin st .len [x]=some (.int xs.length):=by show(nc st x).bind (λxs=>gd (decide<|xs.length<=eA)<|SV.int xs.length)=_;exact aP hx<|uO h
theorem bR{a:Addr}{fn:Fn}{args as:List SV}{v:SV}{st:List SO}{R:Option (FL×bo)}(hf:prog.fns a=some fn)(hk:fn.keep=false)(ha:b8 args=true)(hs:tK fn args=some as)
  (h:cX (EV d) MM fn.body ⟨(cM fn.kinds as [] []).1,(cM fn.kinds as [] []).2⟩=R) (hz:(R.bind λq=>(freeze fz (YX q.1) q.2.st).map (·.1))=some v):EV (d+1) (.raw<|.ref a) args st=some (v,st):=by
 show(match prog.fns a with|some fn=>kR (EV d) MM fn args [] st|none=>_)=_
 rw[hf]
 show kR (EV d) MM fn args [] st=_
 unfold kR
 rw[hk,ha]
 show((tK fn args).bind _).bind _=_
 rw[hs]
 show((cX (EV d) MM fn.body ⟨(cM fn.kinds as [] []).1,(cM fn.kinds as [] []).2⟩).map _).bind _=_
 rw[h]
 cases R with
 |none=>exact absurd hz nofun
 |some q=>
  show(freeze fz (YX q.1) q.2.st).map _=_;have hz:(freeze fz (YX q.1) q.2.st).map (·.1)=some v:=hz;cases e:freeze fz (YX q.1) q.2.st with
  |none=>rw[e] at hz;exact absurd hz nofun
  |some r=>rw[e] at hz;rw[<-aa hz];rfl
theorem iO{fn:Fn}{args as:List SV}{v:SV}{st nR LX U6:List SO}{fl:FL}{lo:List LV}(hk:fn.keep=false)(ha:b8 args=false)(hs:tK fn args=some as)
  (h:cX (EV d) MM fn.body ⟨(cM fn.kinds as [] st).1,(cM fn.kinds as [] st).2⟩=some (fl,⟨lo,nR⟩)) (hz:freeze fz (YX fl) nR=some (v,LX)) (hc:ll st.length LX=some U6):kR (EV d) MM fn args [] st=some (v,U6):=by
 unfold kR
 rw[hk,ha]
 show((tK fn args).bind _).bind _=_
 rw[hs]
 exact aP (iB h rfl)<|aP hz<|iB hc rfl
theorem hK{a:Addr}{fn:Fn}{args:List SV}{st:List SO}{r:SV×List SO}(hf:prog.fns a=some fn)(h:kR (EV d) MM fn args [] st=some r):EV (d+1) (.raw<|.ref a) args st=some r:=by show(match prog.fns a with|some fn=>kR (EV d) MM fn args [] st|none=>_)=_;rw[hf];exact h
theorem zh{a:Addr}{fn:Fn}{args:List SV}{st:List SO}{r:SV×List SO}(hf:prog.fns a=some fn)(h:kR (EV d) MM fn (self::args) [] st=some r):EV (d+1) (.t5 a self) args st=some r:=aP hf h
theorem jA{n:Nat}{st:List SO}(h:st.length=n):ll n st=some st:=by unfold ll;rw[decide_eq_true<|eD h]
section
variable{C:bT}{M:b6}{σ aq aU Ak τ:bo}{s:S}{r a b:List S}{R:Option (FL×bo)}{v w x y:SV}{e hM jH C2 c:E}{t:T}{vs:List SV}{es:List E}{n:Nat}
theorem aZ(h:kB C M s σ=some (.next,τ))(k:cX C M r τ=R):cX C M (s::r) σ=R:=aP h k
theorem hY(h:kB C M s σ=some (.ret v,τ)):cX C M (s::r) σ=some (.ret v,τ):=aP h rfl
theorem tq(h:kB C M s σ=R):cX C M (s::r) σ=R.bind λq=>match q.1 with|.next=>cX C M r q.2|.ret v=>some (.ret v,q.2):=by subst h;rfl
theorem Xm(h:cj C M e σ=some (v,τ)):kB C M (.expr e) σ=some (.next,τ):=iB h rfl
theorem bO(h:cj C M e σ=some (v,aq))(k:BS C M t v aq=some τ):kB C M (.asg t e) σ=some (.next,τ):=aP h<|iB k rfl
theorem CV(h:cj C M c σ=some (.bool true,aq))(k:cX C M a aq=R):kB C M (.ifs c a b) σ=R:=aP h<|aP rfl k
theorem xg(h:cj C M c σ=some (.bool false,aq))(k:cX C M b aq=R):kB C M (.ifs c a b) σ=R:=aP h<|aP rfl k
theorem ff(h:cj C M e σ=some (v,τ)):kB C M (.ret e) σ=some (.ret v,τ):=iB h rfl
theorem gy(h:iq C M es σ=some (vs,aq))(hi:lH ik vs=some items)(ho:qX ik tn=true)(k:cR (λx τ=>(dm tn x τ).bind λτ=>cX C M a τ) items aq=R):kB C M (.for tn ik es a) σ=R:=aP h<|aP hi<|aP (kO ho) k
theorem bS(h:cj C M hM σ=some (x,aq))(k:cj C M jH aq=some (y,aU))(q:gi aU.st x y=some v):cj C M (.sub hM jH) σ=some (v,aU):=aP h<|aP k<|iB q rfl
theorem d7(h:cj C M hM σ=some (x,aq))(k:cj C M jH aq=some (y,aU))(z:jB aU.st op x y=some q):cj C M (.cmp op hM jH) σ=some (.bool q,aU):=aP h<|aP k<|iB z rfl
theorem ip(h:cj C M hM σ=some (x,aq))(k:cj C M jH aq=some (y,aU))(z:m7 op x y=some v):cj C M (.bin op hM jH) σ=some (v,aU):=aP h<|aP k<|iB z rfl
theorem e_t(h:cj C M c σ=some (.bool true,aq))(k:cj C M hM aq=some (v,τ)):cj C M (.ite c hM jH) σ=some (v,τ):=aP h<|aP rfl k
theorem Wc(h:cj C M c σ=some (.bool false,aq))(k:cj C M jH aq=some (v,τ)):cj C M (.ite c hM jH) σ=some (v,τ):=aP h<|aP rfl k
theorem lN(h:cj C M e σ=some (.bool true,aq))(k:cj C M (.and es) aq=some (v,τ)):cj C M (.and (e::es)) σ=some (v,τ):=aP h<|aP rfl k
theorem I2(h:cj C M e σ=some (.bool true,aq)):cj C M (.and (e::es)) σ=cj C M (.and es) aq:=aP h<|aP rfl rfl
theorem Ct(h:cj C M c σ=X):cj C M (.ite c hM jH) σ=X.bind λp=>(gh p.1).bind λb=>match b with|true=>cj C M hM p.2|false=>cj C M jH p.2:=by subst h;rfl
theorem BP(h:cj C M e σ=X):kB C M (.ret e) σ=X.map λr=>(.ret r.1,r.2):=by subst h;rfl
theorem lO(h:cj C M e σ=some (.bool false,aq)):cj C M (.and (e::es)) σ=some (.bool false,aq):=aP h<|aP rfl rfl
theorem mr(h:cj C M e σ=some (v,aq))(k:iq C M es aq=some (vs,τ)):iq C M (e::es) σ=some (v::vs,τ):=aP h<|iB k rfl
theorem eT(h:cj C M e σ=some (v,aq)):iq C M [e] σ=some ([v],aq):=aP h rfl
theorem uT(h:iq C M es σ=some (vs,aq))(k:zj bb vs aq=some (v,aU)):cj C M (.bi bb es) σ=some (v,aU):=aP h k
theorem gT(h:cj C M e σ=some (x,aq))(hx:nc aq.st x=some xs)(hn:xs.length<=eA):cj C M (kH e) σ=some (.int xs.length,aq):=uT (eT h)<|iB (XK hx hn) rfl
theorem ja(h:cj C M e σ=some (x,aq))(h1:q9 aq.st x=some (cl,as,ws))(h2:iu at_ as 0=none)(h3:M cl at_=some f)(k:iq C M es aq=some (vs,aU))(q:C (.raw<|.ref f) (x::vs) aU.st=some (v,st')):cj C M (.bx e at_ es) σ=some (v,{aU with st:=st'}):=
 aP h (by show(match q9 aq.st x with|some i=>_|none=>_)=_;rw[h1];show((gd (iu at_ as 0).isNone ()).bind _)=_;rw[h2];exact aP (a:=f) h3<|aP k<|iB q rfl)
theorem bY(h:cj C M e σ=some (f,aq))(k:iq C M es aq=some (vs,aU))(q:C f vs aU.st=some (v,st')):cj C M (.call e es) σ=some (v,{aU with st:=st'}):=aP h<|aP k<|iB q rfl
theorem lG{i n:Nat}{q:Bool}{st:List SO}(h:decide (i<n)=q):jB st .lt (.int i) (.int n)=some q:=by show some (decide<|(i:Int)<n)=_;rw[<-h];simp
theorem Br{i n:Nat}{q:Bool}{st:List SO}(h:decide (i=n)=q):jB st .eq (.int i) (.int n)=some q:=by show some (bp (.int i)<|.int n)=_;rw[<-h];show some ((i:Int)==n)=_;congr 1;rw[je,beq_iff_eq,decide_eq_true_eq];exact pn
theorem iQ{x:SV}(h:f x σ=some (.next,τ))(k:cR f xs τ=R):cR f (x::xs) σ=R:=aP h k
theorem KD{α:Type}{f:SV->bo->Option (FL×bo)}{g:α->SV}{F:Nat->bo}(xs:List α):∀(k:Nat),(∀(i:Nat)(x:α),xs[i]? =some x->f (g x) (F<|k+i)=some (.next,F<|k+i+1))->cR f (xs.map g) (F k)=some (.next,F<|k+xs.length):=by
 induction xs with
 |nil=>intro k _;exact rfl
 |cons x xs ih=>
  intro k h;refine iQ (h 0 x rfl) ?_;have:=ih (k+1) λi y e=>by have:=h (i+1) y e;rwa[show k+(i+1)=k+1+i by exact Z9] at this
  rwa[show k+1+xs.length=k+(x::xs).length by rw[cZ];exact ar2] at this
theorem Tg{α:Type}{f:SV->bo->Option (FL×bo)}{g:α->SV}{F:Nat->bo}(xs:List α)(h:∀(i:Nat)(x:α),xs[i]? =some x->f (g x) (F i)=some (.next,F<|i+1)):cR f (xs.map g) (F 0)=some (.next,F xs.length):=by
 have:=KD xs 0 λi x e=>by rw[cz];exact h i x e
 rwa[cz] at this
theorem yN{f:SV->bo->Option (FL×bo)}{F:Nat->bo}(n:Nat)(h:∀i,i<n->f (.int i) (F i)=some (.next,F<|i+1)):cR f ((ak n).map λi:Nat=>SV.int i) (F 0)=some (.next,F n):=by
 have:=Tg (ak n) λi x e=>by obtain⟨h1,h2⟩:=af.mp e;rw[cq] at h2;rw[au] at h1;subst h2;exact h i h1
 rwa[au] at this
end
section
set_option genCtorIdx true in
inductive W where
 |set|use|rest|drop|d0|d1|d2
noncomputable def yR:W->Bool
 |.set=>false|.use=>false|.rest=>false|_=>true
abbrev d9:=List W×Option W
def tN(TY:SV):SV:=.lst [.tup [.tup [tS "tuple",.tup []],.bool true,.none],.tup [TY,.bool true,tS "t"]]
def TY:SV:=.tup [tS "tuple",.tup [.tup [tS "adt",tS "G",.tup [.int 1],.tup []],.tup [tS "adt",tS "H",.tup [.int 2],.tup []],.tup [tS "box",.tup [tS "adt",tS "G",.tup [.int 3],.tup []]],.tup [tS "ref",.int 4,.bool false,.tup [tS "adt",tS "G",.tup [.int 5],.tup []]]]]
def cpW:SV:=.tup [tS "copy",.tup [.int 1,.tup [.tup [tS "field",.int 1],.tup [tS "field",.int 0],.tup [tS "deref"]]]]
def csW:SV:=.tup [tS "const",TY,.int 0]
def tj:W->SV
 |.set=>.tup [tS "assign",.tup [.int 1,.tup []],.tup [tS "use",csW]]
 |.use=>.tup [tS "print",cpW]
 |_=>.tup [tS "nop"]
def oa:W->SV
 |.d0=>.tup [.tup [tS "field",.int 0]]
 |.d1=>.tup [.tup [tS "field",.int 1]]
 |.d2=>.tup [.tup [tS "field",.int 2]]
 |_=>.tup []
def SM(w:W):SV:=.tup [.int 1,oa w]
def FZ(b:Nat):Option W->SV
 |none=>.tup [tS "panic",tS "end"]
 |some w=>.tup [tS "drop",SM w,.int (b+1:Nat)]
def wC(b:Nat)(x:d9):SV:=.lst [.lst<|x.1.map tj,FZ b x.2]
def tZ(B:List d9):List SV:=B.zipIdx.map λp=>wC p.2 p.1
def rD(bs:List SV)(L:SV):SV:=.inst 174 [6,7,8,9,10] [tS "f",.int 0,L,.lst bs,.hH [] []]
abbrev BD(B:List d9):SV:=rD (tZ B)<|tN TY
noncomputable def bg(p:Nat×Nat):SV:=.tup [.int p.1,.int p.2]
def nu.T1(B:List d9):Prop:=∀x∈B,x.1.length<=1000/\(∀w∈x.1,yR w=false)/\∀w,x.2=some w->yR w=true
def nu.T2(B:List d9):Prop:=∀(b:Nat)(x:d9),B[b]? =some x->(x.2=none↔b+1=B.length)
structure nu(B:List d9):Prop where
 len:B.length<=40
 each:nu.T1 B
 last:nu.T2 B
noncomputable def wd(x:d9)(i:Nat):Option W:=if i<x.1.length then x.1[i]? else x.2
theorem Wh{B:List d9}{b:Nat}{x:d9}(h:B[b]? =some x):(tZ B)[b]? =some (wC b x):=by unfold tZ;rw[ai,mA,h];show some (wC (0+b) x)=_;rw[cz]
theorem ib{B:List d9}:(tZ B).length=B.length:=by unfold tZ;rw[ag,u4]
variable{B:List d9}{b i d:Nat}{x:d9}{st:List SO}
theorem nu.at(O:nu B)(h:B[b]? =some x):b<=eA/\(x.1.map tj).length+1<=eA:=by have h1:=(af.mp h).1;have h2:=(O.each x<|aI h).1;have h3:=O.len;rw[ag];show b<=4000/\x.1.length+1<=4000;exact ahZ h1 h2 h3
theorem nu.zG(O:nu B)(h:B[b]? =some x):gi st (.lst<|tZ B) (.int b)=some (wC b x):=pB<|g6 (Wh h) (O.at h).1
theorem BE(O:nu B)(h:B[b]? =some x)(hw:x.1[i]? =some w):gi st (.lst<|x.1.map tj) (.int i)=some (tj w):=by refine pB (g6 (by rw[ai,hw];rfl) ?_);have h1:=(af.mp hw).1;have h2:=(O.at h).2;rw[ag] at h2;exact ahY h1 h2
theorem A5{P:Option W->Prop}(O:nu B)(h:B[b]? =some x)(hi:i<=x.1.length)(A:∀w,x.1[i]? =some w->(w=.set\/w=.use\/w=.rest)->i<(x.1.map tj).length->P (some w))
  (N:i=(x.1.map tj).length->∀t,x.2=t->(t=none\/t=some .drop\/t=some .d0\/t=some .d1\/t=some .d2)->P t):P (wd x i):=by
 refine qe (O.each x<|aI h) λz h2 h3=>?_
 unfold wd
 by_cases q:i<x.1.length
 ·rw[if_pos q,ay q];have hd:=h2 _<|l5 q;refine A _ (ay q) ?_ (by rw[ag];exact q);cases e:x.1[i]<;>rw[e] at hd<;>first|exact ae hd|simp
 ·rw[if_neg q];refine N (by rw[ag];exact ahX hi q) _ rfl ?_;cases e:x.2 with
  |none=>exact .inl rfl
  |some w=>have:=h3 w e;cases w<;>first|exact ae this|simp
theorem YV:prog.fns 149=some acv:=by kernel_rfl
theorem YU:prog.fns 156=some acu:=by kernel_rfl
theorem Px:prog.fns 228=some acq:=by kernel_rfl
theorem Co:prog.fns 296=some acg:=by kernel_rfl
theorem Cn:prog.fns 303=some acf:=by kernel_rfl
theorem Pu:prog.fns 310=some ace:=by kernel_rfl
theorem Pt:prog.fns 317=some acd:=by kernel_rfl
theorem Pr:prog.fns 529=some ab2:=by kernel_rfl
theorem IB:MM 174 12=some 149:=by kernel_rfl
theorem VY:MM 174 13=some 156:=by kernel_rfl
theorem UH(O:nu B)(h:B[b]? =some x):EV (d+1) (gu 149) [BD B,.int b] st=some (.lst<|x.1.map tj,st):=
 bR YV rfl rfl rfl (hY<|ff<|bS (bS rfl rfl<|O.zG h) rfl rfl) rfl
theorem acU(O:nu B)(h:B[b]? =some x):EV (d+1) (gu 156) [BD B,.int b] st=some (FZ b x.2,st):=
 bR YU rfl rfl rfl (hY<|ff<|bS (bS rfl rfl<|O.zG h) rfl rfl) (by rcases x.2 with _|w;rfl;cases w<;>rfl)
def N7:Option W->List SV
 |some .set=>[csW]|some .use=>[cpW]|_=>[]
noncomputable def RL:Option W->SV
 |some .set=>.tup [.int 1,.tup []]|_=>.none
def LQ:Option W->SV
 |some .drop=>SM .drop|some .d0=>SM .d0|some .d1=>SM .d1|some .d2=>SM .d2|_=>.none
theorem oq(h:n+1<=eA):n<=eA:=cL h
theorem Zg(O:nu B)(h:B[b]? =some x)(hi:i<=x.1.length):EV (d+3) (gu 228) [BD B,bg (b,i)] st=some (.lst<|N7<|wd x i,st):=by
 have hl:=(O.at h).2;refine A5 (P:=λz=>EV (d+3) (gu 228) [BD B,bg (b,i)] st=some (.lst<|N7 z,st)) O h hi (λw hw hk hlt=>?_) λhe t ht hk=>?_
 ·refine bR Px rfl rfl rfl (aZ (bO rfl rfl)<|tq<|CV (d7 rfl (gT (ja rfl rfl rfl IB rfl<|UH O h) rfl<|oq hl)<|lG<|decide_eq_true hlt)<|aZ (bO (bS (ja rfl rfl rfl IB rfl<|UH O h) rfl<|BE O h hw) rfl) rfl) ?_;rcases hk with rfl|rfl|rfl<;>kernel_rfl
 ·refine bR Px rfl rfl rfl (aZ (bO rfl rfl)<|aZ (xg (d7 rfl (gT (ja rfl rfl rfl IB rfl<|UH O h) rfl<|oq hl)<|lG<|decide_eq_false (by rw[he];exact cp _)) rfl)<|aZ (bO (ja rfl rfl rfl VY rfl<|acU O h) rfl) rfl) ?_;rw[ht];rcases hk with rfl|rfl|rfl|rfl|rfl<;>kernel_rfl
end
section
variable{B:List d9}{b i d:Nat}{x:d9}{st:List SO}
theorem acP(O:nu B)(h:B[b]? =some x)(hi:i<=x.1.length):EV (d+1) (gu 296) [BD B,bg (b,i)] st=some (.none,st):=by
 have hl:=oq (O.at h).2;refine A5 (P:=λz=>EV (d+1) (gu 296) [BD B,bg (b,i)] st=some (.none,st)) O h hi (λw hw hk hlt=>?_) λhe t ht hk=>?_
 ·have S:∀{st:List SO},gi st (.lst<|x.1.map tj) (.int i)=some (tj w):=BE O h hw;rcases hk with rfl|rfl|rfl
  ·exact bR Co rfl rfl rfl (aZ (bO rfl rfl)<|aZ (bO (bS (bS rfl rfl<|O.zG h) rfl rfl) rfl)<|tq<|CV (lN (d7 rfl (gT rfl rfl hl)<|lG<|decide_eq_true hlt)<|lN (d7 (bS (bS rfl rfl S) rfl rfl) rfl<|by kernel_rfl) rfl)<|aZ (bO (bS (bS rfl rfl S) rfl rfl) rfl) rfl) (by kernel_rfl)
  ·exact bR Co rfl rfl rfl (aZ (bO rfl rfl)<|aZ (bO (bS (bS rfl rfl<|O.zG h) rfl rfl) rfl)<|tq<|xg (lN (d7 rfl (gT rfl rfl hl)<|lG<|decide_eq_true hlt)<|lO<|d7 (bS (bS rfl rfl S) rfl rfl) rfl<|by kernel_rfl) rfl)<|rfl
  ·exact bR Co rfl rfl rfl (aZ (bO rfl rfl)<|aZ (bO (bS (bS rfl rfl<|O.zG h) rfl rfl) rfl)<|tq<|xg (lN (d7 rfl (gT rfl rfl hl)<|lG<|decide_eq_true hlt)<|lO<|d7 (bS (bS rfl rfl S) rfl rfl) rfl<|by kernel_rfl) rfl)<|rfl
 ·exact bR Co rfl rfl rfl (aZ (bO rfl rfl)<|aZ (bO (bS (bS rfl rfl<|O.zG h) rfl rfl) rfl)<|tq<|xg (lO<|d7 rfl (gT rfl rfl hl)<|lG<|decide_eq_false (by rw[he];exact cp _)) rfl)<|rfl
theorem UE(O:nu B)(h:B[b]? =some x)(hi:i<=x.1.length):EV (d+1) (gu 303) [BD B,bg (b,i)] st=some (RL<|wd x i,st):=by
 have hl:=oq (O.at h).2;refine A5 (P:=λz=>EV (d+1) (gu 303) [BD B,bg (b,i)] st=some (RL z,st)) O h hi (λw hw hk hlt=>?_) λhe t ht hk=>?_
 ·have S:∀{st:List SO},gi st (.lst<|x.1.map tj) (.int i)=some (tj w):=BE O h hw;rcases hk with rfl|rfl|rfl
  ·exact bR Cn rfl rfl rfl (aZ (bO rfl rfl)<|aZ (bO (bS rfl rfl<|O.zG h) rfl)<|tq<|CV (d7 rfl (gT rfl rfl hl)<|lG<|decide_eq_true hlt)<|hY<|ff<|e_t (d7 (bS (bS rfl rfl S) rfl rfl) rfl<|by kernel_rfl)<|bS (bS rfl rfl S) rfl rfl)<|rfl
  ·exact bR Cn rfl rfl rfl (aZ (bO rfl rfl)<|aZ (bO (bS rfl rfl<|O.zG h) rfl)<|tq<|CV (d7 rfl (gT rfl rfl hl)<|lG<|decide_eq_true hlt)<|hY<|ff<|Wc (d7 (bS (bS rfl rfl S) rfl rfl) rfl<|by kernel_rfl) rfl)<|rfl
  ·exact bR Cn rfl rfl rfl (aZ (bO rfl rfl)<|aZ (bO (bS rfl rfl<|O.zG h) rfl)<|tq<|CV (d7 rfl (gT rfl rfl hl)<|lG<|decide_eq_true hlt)<|hY<|ff<|Wc (d7 (bS (bS rfl rfl S) rfl rfl) rfl<|by kernel_rfl) rfl)<|rfl
 ·refine bR Cn rfl rfl rfl (aZ (bO rfl rfl)<|aZ (bO (bS rfl rfl<|O.zG h) rfl)<|tq<|xg (d7 rfl (gT rfl rfl hl)<|lG<|decide_eq_false (by rw[he];exact cp _)) rfl) ?_;rw[ht];rcases hk with rfl|rfl|rfl|rfl|rfl<;>kernel_rfl
theorem UD(O:nu B)(h:B[b]? =some x)(hi:i<=x.1.length):EV (d+1) (gu 310) [BD B,bg (b,i)] st=some (LQ<|wd x i,st):=by
 have hl:=oq (O.at h).2;refine A5 (P:=λz=>EV (d+1) (gu 310) [BD B,bg (b,i)] st=some (LQ z,st)) O h hi (λw hw hk hlt=>?_) λhe t ht hk=>?_
 ·refine bR Pu rfl rfl rfl (aZ (bO rfl rfl)<|aZ (bO (bS rfl rfl<|O.zG h) rfl)<|hY<|ff<|Wc (lO<|d7 rfl (gT rfl rfl hl)<|Br<|decide_eq_false<|bZ hlt) rfl) ?_;rcases hk with rfl|rfl|rfl<;>kernel_rfl
 ·refine bR Pu rfl rfl rfl (aZ (bO rfl rfl)<|aZ (bO (bS rfl rfl<|O.zG h) rfl)<|tq<|BP<|Ct<|I2<|d7 rfl (gT rfl rfl hl)<|Br<|decide_eq_true he) ?_;rw[ht];rcases hk with rfl|rfl|rfl|rfl|rfl<;>kernel_rfl
theorem acO(O:nu B)(h:B[b]? =some x)(hi:i<=x.1.length):EV (d+1) (gu 317) [BD B,bg (b,i)] st=some (.none,st):=by
 have hl:=oq (O.at h).2;refine A5 (P:=λz=>EV (d+1) (gu 317) [BD B,bg (b,i)] st=some (.none,st)) O h hi (λw hw hk hlt=>?_) λhe t ht hk=>?_
 ·have S:∀{st:List SO},gi st (.lst<|x.1.map tj) (.int i)=some (tj w):=BE O h hw;rcases hk with rfl|rfl|rfl<;>
  exact bR Pt rfl rfl rfl (aZ (bO rfl rfl)<|aZ (bO (bS (bS rfl rfl<|O.zG h) rfl rfl) rfl)<|tq<|xg (lN (d7 rfl (gT rfl rfl hl)<|lG<|decide_eq_true hlt)<|lO<|d7 (bS (bS rfl rfl S) rfl rfl) rfl<|by kernel_rfl) rfl)<|rfl
 ·exact bR Pt rfl rfl rfl (aZ (bO rfl rfl)<|aZ (bO (bS (bS rfl rfl<|O.zG h) rfl rfl) rfl)<|tq<|xg (lO<|d7 rfl (gT rfl rfl hl)<|lG<|decide_eq_false (by rw[he];exact cp _)) rfl)<|rfl
end
section
variable{B:List d9}{b i d:Nat}{x:d9}{st:List SO}
theorem Yx:prog.fns 522=some ab3:=by kernel_rfl
theorem Yw:prog.fns 536=some ab1:=by kernel_rfl
theorem Yv:prog.fns 543=some ab0:=by kernel_rfl
section
variable{C:bT}{M:b6}{σ aq aU:bo}{hM jH:E}{v w:SV}
theorem ro(h:cj C M hM σ=some (v,aq))(k:cj C M jH aq=some (w,aU)):cj C M (.tup [hM,jH]) σ=some (.tup [v,w],aU):=aP (mr h<|eT k) rfl
theorem Y5(h:cj C M hM σ=some (v,aq))(k:cj C M jH aq=some (w,aU))(l:cj C M C2 aU=some (u,Ak)):cj C M (.tup [hM,jH,C2]) σ=some (.tup [v,w,u],Ak):=aP (mr h<|mr k<|eT l) rfl
end
theorem ahr(O:nu B)(h:B[b]? =some x)(hi:i<=x.1.length):EV (d+1) (gu 529) [BD B,bg (b,i)] st=some (.bool false,st):=by
 have hl:=oq (O.at h).2;refine A5 (P:=λz=>EV (d+1) (gu 529) [BD B,bg (b,i)] st=some (.bool false,st)) O h hi (λw hw hk hlt=>?_) λhe t ht hk=>?_
 ·exact bR Pr rfl rfl rfl (aZ (bO (bS rfl rfl<|O.zG h) rfl)<|hY<|ff<|lO<|d7 rfl (gT rfl rfl hl)<|Br<|decide_eq_false<|bZ hlt)<|rfl
 ·refine bR Pr rfl rfl rfl (aZ (bO (bS rfl rfl<|O.zG h) rfl)<|tq<|BP<|I2<|d7 rfl (gT rfl rfl hl)<|Br<|decide_eq_true he) ?_;rw[ht];rcases hk with rfl|rfl|rfl|rfl|rfl<;>kernel_rfl
noncomputable def usO:Option W->List SV
 |some .use=>[.int 1]|_=>[]
noncomputable def drL:Option W->List SV
 |some .drop=>[.int 1]|some .d0=>[.int 1]|some .d1=>[.int 1]|some .d2=>[.int 1]|_=>[]
noncomputable def seL:Option W->List SV
 |some .set=>[.int 1]|_=>[]
def F5(B:List d9)(p:Nat×Nat)(a b c d:LV)(l:List SV):bo:=⟨[.val<|BD B,.val<|bg p,.val<|.h 0,a,b,c,d,.un,.un,.un,.un,.un,.un,.un,.un],[.list l]⟩
theorem Jd(O:nu B)(h:B[b]? =some x)(hi:i<=x.1.length)
  (e1:EV (d+3) (gu 228) [BD B,bg (b,i)] [.list []]=some (.lst ops,[.list []])) (e2:EV (d+3) (gu 310) [BD B,bg (b,i)] [.list us]=some (dr,[.list us])) (e3:EV (d+3) (gu 303) [BD B,bg (b,i)] [.list us]=some (wr,[.list us]))
  (k1:cR (λx τ=>(dm EX x τ).bind λτ=>cX (EV<|d+3) MM [.ifs (.cmp .ne (cQ dR 0)<|.str<|sr 30) [.expr<|.bx dq 0 [cQ (cQ dR 1) 0],.expr<|.bx dq 1 [d6 233 [cQ dR 1]]] []] τ) ops (F5 B (b,i) .un .un .un .un [])=some (.next,F5 B (b,i) a3 .un .un .un us))
  (k2:(dm RF dr<|F5 B (b,i) a3 (.val .none) .un .un us).bind (λτ=>cX (EV<|d+3) MM [.ifs (.cmp .kN fu .none) [.expr<|.bx dq 1 [d6 233 [fu]]] []] τ)=some (.next,F5 B (b,i) a3 (.val dr) .un .un us))
  (k3:kB (EV<|d+3) MM (.ifs (.and [.cmp .kN jZ .none,.cmp .ne (cQ jZ 1)<|.tup []]) [.expr<|.bx dq 0 [cQ jZ 0],.expr<|.bx dq 1 [d6 233 [jZ]]] []) (F5 B (b,i) a3 (.val dr) (.val .none) (.val wr) us)=some (.next,F5 B (b,i) a3 (.val dr) (.val .none) (.val wr) us))
  (k4:zj .kh [.h 0] (F5 B (b,i) a3 (.val dr) (.val .none) (.val wr) us)=some (.lst us,F5 B (b,i) a3 (.val dr) (.val .none) (.val wr) us)):EV (d+4) (gu 522) [BD B,bg (b,i)] st=some (.lst us,st):=
 bR Yx rfl rfl rfl (aZ (rfl)<|aZ (gy (eT<|bY (aU:=F5 B (b,i) .un .un .un .un []) (vs:=[BD B,bg (b,i)]) rfl rfl e1) rfl rfl k1)
  (aZ (gy (eT<|ro (bY (aU:=F5 B (b,i) a3 .un .un .un us) (vs:=[BD B,bg (b,i)]) rfl rfl<|acP O h hi)<|bY (aU:=F5 B (b,i) a3 .un .un .un us) (vs:=[BD B,bg (b,i)]) rfl rfl e2) rfl rfl<|iQ (rfl)<|iQ k2 rfl)
  (aZ (τ:=F5 B (b,i) a3 (.val dr) (.val .none) (.val wr) us) (bO (ro (bY (aU:=F5 B (b,i) a3 (.val dr) .un .un us) (vs:=[BD B,bg (b,i)]) rfl rfl<|acP O h hi)<|bY (aU:=F5 B (b,i) a3 (.val dr) .un .un us) (vs:=[BD B,bg (b,i)]) rfl rfl e3)<|rfl)
  (aZ (rfl)<|aZ k3<|aZ (xg (bY (aU:=F5 B (b,i) a3 (.val dr) (.val .none) (.val wr) us) (vs:=[BD B,bg (b,i)]) rfl rfl<|ahr O h hi) rfl)<|hY<|ff<|uT (aq:=F5 B (b,i) a3 (.val dr) (.val .none) (.val wr) us) (vs:=[.h 0]) rfl k4)))) rfl
theorem ahs(O:nu B)(h:B[b]? =some x)(hi:i<=x.1.length):EV (d+4) (gu 522) [BD B,bg (b,i)] st=some (.lst<|usO<|wd x i,st):=by
 have a1:∀st,EV (d+3) (gu 228) [BD B,bg (b,i)] st=_:=λst=>Zg O h hi;have a3:∀st,EV (d+3) (gu 310) [BD B,bg (b,i)] st=_:=λst=>UD O h hi;have a4:∀st,EV (d+3) (gu 303) [BD B,bg (b,i)] st=_:=λst=>UE O h hi;generalize wd x i=z at a1 a3 a4 ⊢;rcases z with _|w
 ·exact Jd O h hi (a3:=.un) (a1 _) (a3 _) (a4 _) (rfl) (rfl) (rfl)<|rfl
 ·cases w
  ·exact Jd O h hi (a3:=.val csW) (a1 _) (a3 _) (a4 _) (by kernel_rfl) (rfl) (rfl)<|rfl
  ·exact Jd O h hi (a3:=.val cpW) (a1 _) (a3 _) (a4 _) (by kernel_rfl) (rfl) (rfl)<|rfl
  all_goals exact Jd O h hi (a3:=.un) (a1 _) (a3 _) (a4 _) (rfl) (by kernel_rfl) (rfl)<|rfl
theorem ahq(O:nu B)(h:B[b]? =some x)(hi:i<=x.1.length):EV (d+2) (gu 536) [BD B,bg (b,i)] st=some (.lst<|drL<|wd x i,st):=by
 refine bR Yw rfl rfl rfl (aZ (bO (bY rfl rfl<|UD O h hi) rfl) rfl) ?_;generalize wd x i=z;rcases z with _|w
 ·kernel_rfl
 ·cases w<;>kernel_rfl
theorem ahp(O:nu B)(h:B[b]? =some x)(hi:i<=x.1.length):EV (d+2) (gu 543) [BD B,bg (b,i)] st=some (.lst<|seL<|wd x i,st):=by
 refine bR Yv rfl rfl rfl (aZ (bO (ro (bY rfl rfl<|acO O h hi)<|bY rfl rfl<|UE O h hi) rfl) rfl) ?_;generalize wd x i=z;rcases z with _|w
 ·kernel_rfl
 ·cases w<;>kernel_rfl
end
section
noncomputable def QR(p:Nat×Nat):PyData:=.tuple [.int p.1,.int p.2]
theorem Dg(S:List (Nat×Nat)):fR (S.map bg)=some (S.map QR):=by
 induction S with
 |nil=>exact rfl
 |cons p S ih=>show(m6<|bg p).bind (λd=>(fR<|S.map bg).map λds=>d::ds)=_;rw[ih];rfl
theorem PH(p q:Nat×Nat):bp (QR p) (QR q)=(p==q):=by
 show((p.1:Int)==q.1&&((p.2:Int)==q.2&&true))=(p.1==q.1&&p.2==q.2);rw[mo];have k:∀a b:Nat,((a:Int)==b)=(a==b):=λa b=>by rw[je,beq_iff_eq,beq_iff_eq];exact pn
 rw[k,k]
theorem tH(p:Nat×Nat)(S:List (Nat×Nat)):cW (bg p) (S.map bg)=some (S.findIdx? λq=>q==p):=by
 show((fR<|S.map bg).bind λds=>gd (fD (QR p)&&ds.all (λx=>fD x&&gY x==gY (QR p))&&decide ((QR p).depth<=cw))<|ds.findIdx? λx=>bp x<|QR p)=_;rw[Dg];show gd ((S.map QR).all (λx=>fD x&&gY x==2)&&true) _=_;rw[kO]
 ·rw[jx];congr 2;funext q;exact PH q p
 ·rw[mo,List.all_map];exact ba.mpr λz z=>rfl
theorem GZ{S:List (Nat×Nat)}{p:Nat×Nat}(h:p∈S):∃j,S.findIdx? (λq=>q==p)=some j/\S[j]? =some p:=by
 cases e:S.findIdx? (λq=>q==p) with
 |none=>rw[bU] at e;have:=e p h;simp at this
 |some j=>obtain⟨hj,h1,_⟩:=bA.mp e;exact⟨j,rfl,by rw[ay hj,beq_iff_eq.mp h1]⟩
theorem TK{S:List (Nat×Nat)}{p:Nat×Nat}(h:p∉S):S.findIdx? (λq=>q==p)=none:=by
 rw[bU];intro q hq;cases e:q==p with
 |false=>rfl
 |true=>exact absurd (beq_iff_eq.mp e▸hq) h
theorem pQ{st:List SO}{S:List (Nat×Nat)}{f:Nat×Nat->SV}{p:Nat×Nat}(hD:jk st D=some (S.map bg,S.map f))(h:p∈S):gi st D (bg p)=some (f p):=by refine dS (GZ h) λj h1 h2=>MY hD ((tH p S).trans<|congrArg some h1) (by rw[ai,h2];rfl)
theorem oS{lo:List LV}{st:List SO}{S:List (Nat×Nat)}{f:Nat×Nat->SV}{p:Nat×Nat}(hk:st[k]? =some (.dict (S.map bg)<|S.map f))(hp:p∉S)(hl:S.length<=eA):pz (.h k) (bg p) (f p) ⟨lo,st⟩=some ⟨lo,st.set k<|.dict ((S++[p]).map bg)<|(S++[p]).map f⟩:=by show(match st[k]?.bind gE with|some xs=>_|none=>_)=_;rw[hk];show(gd ((bg p).free&&decide ((S.map bg).length<=eA)) ()).bind _=_;rw[kO (by rw[ag,decide_eq_true hl];rfl)];rw[tH,TK hp,bf,bf];rfl
section
variable{C:bT}{M:b6}{σ aq τ:bo}{es:List E}{vs items zs:List SV}{fr:List (Option Nat)}{elt:E}{t:TN}{ik:IK}{cs:List E}{m:Bool}
theorem Cu(hf:f=λx τ=>(dm t x τ).bind λτ=>(kP C M cs τ).bind λq=>(gh q.1).bind λb=>match b with
    |true=>(cj C M elt q.2).map λr=>([r.1],r.2)
    |false=>some ([],q.2)) (h:iq C M es σ=some (vs,aq)) (hi:lH ik vs=some items) (ho:qX ik t=true) (k:gM f [] items ⟨i4 fr aq.loc,aq.st⟩=some (zs,τ)) (hl:zs.length<=eA):
  cj C M (.comp m fr elt t ik es cs) σ=some (dN m zs {aq with st:=τ.st}):=by
 subst hf
 exact aP h<|aP hi<|aP (kO ho)<|aP k<|uO hl
theorem jj{x:SV}(h:cj C M e σ=some (x,aq))(hi:q9 aq.st x=none)(hr:qV aq.st x at_=true)(k:iq C M es aq=some (vs,aU))(q:iA x at_ vs aU=some r):cj C M (.bx e at_ es) σ=some r:=
 aP h (by rw[hi];exact aP (kO hr)<|aP k q)
theorem j4(h:n<=eA):lH .gO [.int n]=some ((ak n).map λi:Nat=>SV.int i):=by show gd (decide<|(n:Int).natAbs<=eA) ((ak (n:Int).toNat).map λi:Nat=>SV.int i)=_;rw[kO<|decide_eq_true (show(n:Int).natAbs<=eA from h)];rfl
theorem My{α:Type}{f:SV->bo->Option (List SV×bo)}{g h:α->SV}{F:Option SV->bo}(xs:List α):∀(acc:List SV)(q:Option SV),(∀x∈xs,∀q,f (g x) (F q)=some ([h x],F<|some<|g x))->∃q',gM f acc (xs.map g) (F q)=some (acc++xs.map h,F q'):=by
 induction xs with
 |nil=>intro acc q _;exact⟨q,by rw[nG,nG,bj];rfl⟩
 |cons x xs ih=>intro acc q H;obtain⟨q',e⟩:=ih (acc++[h x]) (some<|g x) λy hy=>H y<|az _ hy;refine⟨q',aP (H x (ax ..) q) ?_⟩;rw[e,aO];rfl
end
def PS(B:List d9):List (Nat×Nat):=B.zipIdx.flatMap λp=>(ak<|p.1.1.length+1).map λi=>(p.2,i)
theorem mK{B:List d9}{b:Nat}{x:d9}(h:B[b]? =some x):PS (B.take<|b+1)=PS (B.take b)++(ak<|x.1.length+1).map λi=>(b,i):=by
 have hb:=(af.mp h).1;have e:B.take (b+1)=B.take b++[x]:=by rw[ij,h];rfl
 unfold PS;rw[e,kA,j7];congr 1;show(ak<|x.1.length+1).map (λi=>(0+(B.take b).length,i))++[]=_;rw[bj,cz,cm,fc<|be hb]
theorem lF{B:List d9}:p∈PS B↔∃x,B[p.1]? =some x/\p.2<=x.1.length:=by
 unfold PS;rw[xb];constructor
 ·rintro⟨q,hq,hp⟩;refine dS (bI.mp hp) λi hi zz2=>?_;subst zz2;exact⟨q.1,by simpa using jc.mp hq,aT<|cf.mp hi⟩
 ·rintro⟨x,h,hl⟩;exact⟨(x,p.1),jc.mpr (by simpa using h),bI.mpr ⟨p.2,cf.mpr<|eQ hl,rfl⟩⟩
variable{B:List d9}{b i d:Nat}{x:d9}{st:List SO}
theorem YS:prog.fns 183=some acs:=by kernel_rfl
noncomputable def jh:Option SV->LV
 |none=>.un
 |some v=>.val v
noncomputable def pv:Nat->Option SV
 |0=>none
 |n+1=>some<|.int n
theorem eN{α:Type}{h:α->SV}(H:∀x,(h x).free=true)(xs:List α):b8 (xs.map h)=true:=by
 induction xs with
 |nil=>exact rfl
 |cons x xs ih=>show((h x).free&&b8 (xs.map h))=true;rw[H x,ih];rfl
theorem rU{σ:bo}(h:b8 xs=true):dN false xs σ=(.lst xs,σ):=by unfold dN;rw[h];rfl
theorem abm{lo:List LV}{st:List SO}{xs ys:List SV}(hk:st[k]? =some (.list xs))(hv:jy st v=some ys)(hl:xs.length+ys.length<=eA):iA (.h k) 1 [v] ⟨lo,st⟩=some (.none,⟨lo,st.set k<|.list<|xs++ys⟩):=by exact iB (aP (by rw[hk];rfl)<|aP hv<|uO hl) rfl
theorem AL{lo:List LV}{st:List SO}{xs:List SV}(hk:st[k]? =some (.list xs))(hl:xs.length<=eA):iA (.h k) 0 [v] ⟨lo,st⟩=some (.none,⟨lo,st.set k<|.list<|xs++[v]⟩):=by exact iB (aP (by rw[hk];rfl)<|uO hl) rfl
theorem rj{st:List SO}(hk:st[k]? =some (.list xs))(hf:b8 xs=true):freeze fz (.h k) st=some (.lst xs,st.set k .gone):=by show(st[k]?.bind _)=_;rw[hk];show(b4 49 xs<|st.set k .gone).map _=_;unfold b4;rw[hf];rfl
theorem Iq{B:List d9}(n:Nat):(PS<|B.take n).length<=(PS B).length:=by
 have:PS B=PS (B.take n++B.drop n):=by rw[dt]
 rw[this];unfold PS;rw[kA,j7,aj];exact bc ..
theorem UG(O:nu B)(hn:(PS B).length<=1000):EV (d+3) (gu 183) [BD B] st=some (.lst<|(PS B).map bg,st):=by
 let F:Nat->bo:=λn=>⟨[.val<|BD B,.val<|.h 1,.cell 0,.un,.un],[.cell<|pv n,.list<|(PS<|B.take n).map bg]⟩;have hB:B.length<=eA:=by have:=O.len;show _<=4000;exact ZL this
 have step:cR (λx τ=>(dm MB x τ).bind λτ=>cX (EV<|d+2) MM [.expr<|.bx bK 1 [.comp false [none,none,some 2] (.tup [dq,bK]) td .gO [.bin .add (kH<|.bx b0 12 [dq])<|.int 1] []]] τ) ((ak B.length).map λi:Nat=>SV.int i) (F 0)=some (.next,F B.length):=
  yN B.length λn h=>by
   have hx:=ay h;generalize B[n]'(h)=x at hx;have hl:=(O.at hx).2;let G:bo:=⟨[.val<|BD B,.val<|.h 1,.cell 0,.un,.un],[.cell<|some<|.int n,.list<|(PS<|B.take n).map bg]⟩;have e1:iq (EV<|d+2) MM [.bin .add (kH<|.bx b0 12 [dq])<|.int 1] G=some ([.int (x.1.length+1:Nat)],G):=
    eT (ip (gT (ja (aU:=G) rfl rfl rfl IB (vs:=[.int n]) rfl<|UH O hx) rfl<|oq hl) rfl (by rw[ag];rfl))
   obtain⟨q,e2⟩:=My (f:=λx τ=>(dm td x τ).bind λτ=>(kP (EV<|d+2) MM [] τ).bind λq=>(gh q.1).bind λb=>match b with
    |true=>(cj (EV<|d+2) MM (.tup [dq,bK]) q.2).map λr=>([r.1],r.2)
    |false=>some ([],q.2)) (g:=λi:Nat=>SV.int i) (h:=λi:Nat=>bg (n,i)) (F:=λq=>⟨[.un,jh q,.cell 0],G.st⟩) (ak<|x.1.length+1) [] none (λi hi q=>by cases q<;>rfl)
   rw[ag] at hl;have e3:=Cu (m:=false) (fr:=[none,none,some 2]) rfl e1 (j4 hl) rfl e2 (by rw[eX,ag,au];exact hl);rw[eX,rU<|eN (λi=>rfl) _] at e3;refine aZ (Xm (v:=.none)<|jj (aU:=G) rfl rfl rfl (eT e3)<|(abm rfl rfl ?_).trans ?_) rfl
   ·have:=Iq (B:=B) n;have h2:(ak<|x.1.length+1).length<=(PS B).length:=by have:=Iq (B:=B)<|n+1;rw[mK hx,aj,ag] at this;exact Nat.le_of_add_left_le this
    rw[ag,ag];exact aeK hn this h2
   ·have e4:(PS<|B.take<|n+1).map bg=(PS<|B.take n).map bg++(ak<|x.1.length+1).map λi=>bg (n,i):=by
     rw[mK hx,bf,jW];rfl
    rw[<-e4]
    rfl
 refine bR YS rfl rfl rfl (aZ (τ:=F 0) (rfl)<|aZ (gy (eT<|gT rfl rfl (by rw[ib];exact hB)) (j4 (by rw[ib];exact hB)) rfl (by rw[ib];exact step))<|hY<|ff rfl) ?_;show(freeze fz (.h 1) (F B.length).st).map _=_;rw[rj rfl<|eN (λz=>rfl) _,cY];rfl
end
section
noncomputable def fB:Bool->SV
 |true=>.dx [1]
 |false=>.dx []
def wP(B:List d9)(p:Nat×Nat):Option W:=B[p.1]?.bind λx=>wd x p.2
noncomputable def WW:Option W->Bool|some .use=>true|_=>false
def Y6:Option W->Bool|some w=>yR w|_=>false
noncomputable def NF:Option W->Bool|some .set=>true|_=>false
theorem aaO(z:Option W){st:List SO}:builtin st .dx [.lst<|usO z]=some (fB<|WW z):=by
 rcases z with _|w
 ·kernel_rfl
 ·cases w<;>kernel_rfl
theorem acA(z:Option W){st:List SO}:builtin st .dx [.lst<|drL z]=some (fB<|Y6 z):=by
 rcases z with _|w
 ·kernel_rfl
 ·cases w<;>kernel_rfl
theorem aa2(z:Option W){st:List SO}:builtin st .dx [.lst<|seL z]=some (fB<|NF z):=by
 rcases z with _|w
 ·kernel_rfl
 ·cases w<;>kernel_rfl
theorem Pd(a b:Bool):m7 .sub (fB a) (fB b)=some (fB<|a&&!b):=by cases a<;>cases b<;>kernel_rfl
theorem Pe(a b:Bool):m7 .bor (fB a) (fB b)=some (fB<|a||b):=by cases a<;>cases b<;>kernel_rfl
theorem Ph{st:List SO}(a b:Bool):jB st .ne (fB a) (fB b)=some (a != b):=by cases a<;>cases b<;>kernel_rfl
theorem r9(a:Bool):(fB a).free=true:=by cases a<;>rfl
theorem rg{st:List SO}(a:Bool):freeze fz (fB a) st=some (fB a,st):=by cases a<;>rfl
theorem N2{B:List d9}(h:p∈PS B):p.1<B.length:=by refine dS (lF.mp h) λx h z=>(af.mp h).1
theorem qT(B:List d9):(PS B).Nodup:=by
 have:∀n,n<=B.length->(PS<|B.take n).Nodup:=by
  intro n;induction n with
  |zero=>intro _;exact gq
  |succ n ih=>
   intro h;have hx:=ay h;rw[mK hx];refine c9.mpr ⟨ih<|cL h,?_,λa ha b hb e=>?_⟩
   ·refine List.Pairwise.map _ (λa b (hab:a≠b) e=>hab (gH e).2) List.nodup_range
   ·refine dS (bI.mp hb) λi z zz2=>?_;subst zz2;have:=N2 ha;rw[cm] at this;rw[e] at this;exact absurd (a9 (show n<min n B.length from this) (ig ..))<|cp _
 have h:=this B.length<|aG _;rwa[cY] at h
variable{B:List d9}{b i d:Nat}{x:d9}{st:List SO}
def QO(B:List d9)(b:Nat):List (Nat×Nat):=(PS B).drop (PS<|B.take b).length
theorem BL(h:B[b]? =some x):QO B b=(ak<|x.1.length+1).map (λi=>(b,i))++QO B (b+1):=by
 have e:PS B=PS (B.take<|b+1)++QO B (b+1):=by
  have:∀n,PS (B.take n)++(PS B).drop (PS<|B.take n).length=PS B:=λn=>by
   have h1:PS B=PS (B.take n++B.drop n):=by rw[dt]
   have h2:∀A D:List d9,∃R,PS (A++D)=PS A++R:=λA D=>⟨_,by unfold PS;rw[kA,j7]⟩;obtain⟨R,hR⟩:=h2 (B.take n)<|B.drop n;rw[h1,hR,sN]
  exact(this<|b+1).symm
 show(PS B).drop _=_
 conv=>lhs;rw[e]
 rw[mK h,aO,sN]
theorem Ii:QO B B.length=[]:=by unfold QO;rw[cY,p7]
def zu(d:Nat)(f:SV)(st:List SO)(B:List d9)(G:Nat×Nat->Bool->Bool):Prop:=
 ∀ext p q,p∈PS B->EV d f [fB q,.int p.1,.int p.2] (st++ext)=some (fB<|G p q,st++ext)
theorem YQ:prog.fns 240=some acp:=by kernel_rfl
theorem Pw:prog.fns 268=some ack:=by kernel_rfl
theorem YM:prog.fns 275=some acj:=by kernel_rfl
theorem YR:prog.fns 193=some acr:=by kernel_rfl
theorem acT(a c:Bool):EV (d+1) (gu 240) [fB a,fB c] st=some (fB<|a||c,st):=
 bR YQ rfl (by cases a<;>cases c<;>rfl) rfl (hY<|ff<|ip rfl rfl<|Pe a c) (by show(freeze fz (fB<|a||c) []).map _=_;rw[rg];rfl)
noncomputable def MX(b:Nat):Option W->List SV
 |none=>[]
 |some _=>[.int (b+1:Nat)]
theorem ahJ(t:Option W)(ht:t=none\/t=some .drop\/t=some .d0\/t=some .d1\/t=some .d2):EV (d+1) (gu 188) [FZ b t] st=some (.lst<|MX b t,st):=by rcases ht with rfl|rfl|rfl|rfl|rfl<;>kernel_rfl
theorem nu.tm(O:nu B)(h:B[b]? =some x):x.2=none\/x.2=some .drop\/x.2=some .d0\/x.2=some .d1\/x.2=some .d2:=by
 refine qe (O.each x<|aI h) λz z h3=>?_;cases e:x.2 with
 |none=>exact .inl rfl
 |some w=>have:=h3 w e;cases w<;>first|exact ae this|simp
theorem cB(O:nu B)(h:B[b]? =some x):EV (d+1) (gu 188) [FZ b x.2] st=some (.lst<|MX b x.2,st):=ahJ _<|O.tm h
theorem ahE(O:nu B)(h:B[b]? =some x){Fb:Nat->Bool}(hk:st[k]? =some (.list<|(ak B.length).map λj=>fB<|Fb j)):
  EV (d+2) (gu 268) [BD B,.h k,.int b,fB false,gu 240] st=some (fB<|decide (b+1<B.length)&&Fb (b+1),st):=by
 have hb:=(af.mp h).1
 have hB:=O.len
 let F:SV->SV->LV->bo:=λe v q=>⟨[.val<|BD B,.val<|.h k,.val<|.int b,.val<|fB false,.val<|gu 240,.val v,q,.un],st⟩
 have key:∀r q,cR (λx τ=>(dm EW x τ).bind λτ=>cX (EV<|d+1) MM [fj 5<|.call fu [jf,.sub bK jZ]] τ) (MX b x.2) (F .none (fB false) .un)=some (.next,F .none (fB r) q)->
   EV (d+2) (gu 268) [BD B,.h k,.int b,fB false,gu 240] st=some (fB r,st):=λr q e=>
  hK Pw (iO rfl (rfl) rfl (aZ (rfl)<|aZ (gy (eT<|bY rfl (eT<|bS (bS rfl rfl<|O.zG h) rfl rfl)<|cB O h) rfl rfl e)<|hY<|ff rfl) (rg r)<|jA rfl)
 have hl:=O.last b x h
 cases ht:x.2 with
 |none=>have e:=hl.mp ht;refine(key false .un (by rw[ht];rfl)).trans ?_;rw[decide_eq_false<|ZN e];rfl
 |some w=>
  have hne:=λq=>cb w<|ht.symm.trans<|hl.mpr q;have hlt:b+1<B.length:=ar5 hb hne;refine(key (Fb<|b+1) (.val<|.int (b+1:Nat)) ?_).trans ?_
  ·rw[ht];refine iQ (aZ (bO (bY rfl (mr rfl<|eT<|bS rfl rfl<|qO hk<|g6 ?_ ?_)<|acT false<|Fb<|b+1) rfl) rfl) rfl
   ·rw[ai,bJ hlt];rfl
   ·show _<=4000;exact adj hB hlt
  ·rw[decide_eq_true hlt];rfl
end
section
theorem Tf{α β:Type}{f:SV->bo->Option (FL×bo)}{g:α->SV}{step:α->β->β}{F:β->Option SV->bo}(xs:List α):∀(s:β)(q:Option SV),(∀x∈xs,∀s q,f (g x) (F s q)=some (.next,F (step x s)<|some<|g x))->∃q',cR f (xs.map g) (F s q)=some (.next,F (xs.foldl (λs x=>step x s) s) q'):=by
 induction xs with
 |nil=>intro s q _;exact⟨q,rfl⟩
 |cons x xs ih=>intro s q h;obtain⟨q',e⟩:=ih (step x s) (some<|g x) λy hy=>h y<|az _ hy;exact⟨q',iQ (h x (ax ..) s q) e⟩
theorem II(h:n+1<=eA):lH .pJ [.int n,.int<|-1,.int<|-1]=some ((ak<|n+1).reverse.map λi:Nat=>SV.int i):=by show gd (true&&decide ((n:Int).natAbs<=eA)&&true) ((ak ((n:Int)-(-1)).toNat).map λi:Nat=>SV.int<|n-i)=_;rw[kO (by rw[decide_eq_true (show(n:Int).natAbs<=eA from cL h)];rfl),show((n:Int)-(-1)).toNat=n+1 by omega];congr 1;refine xc (by rw[ag,ag,fF]) λi h1 h2=>?_;rw[ag,au] at h1;rw[l6,l6,sL,cq,cq,au];congr 1;omega
variable{B:List d9}{b i d:Nat}{x:d9}{st:List SO}{f:SV}{G:Nat×Nat->Bool->Bool}
theorem Xf(hf:f.free=false){b i:Int}:b8 (BD B::fB q::.int b::.int i::f::r)=false:=by show((BD B).free&&((fB q).free&&(true&&(true&&(f.free&&SV.free.go r)))))=false;rw[r9,hf];rfl
theorem ahD(O:nu B)(h:B[b]? =some x)(hf:f.free=false)(S:zu d f st B G)(ext:List SO)(q:Bool):
  EV (d+1) (gu 275) [BD B,fB q,.int b,.int 0,f] (st++ext)=some (fB<|((ak<|x.1.length+1).map λi=>(b,i)).foldr G q,st++ext):=by
 have hl:=(O.at h).2
 let F:Bool->Option SV->bo:=λr q=>⟨[.val<|BD B,.val<|fB r,.val<|.int b,.val<|.int 0,.val f,jh q,.un,.un],st++ext⟩
 obtain⟨q',e⟩:=Tf (f:=λx τ=>(dm VF x τ).bind λτ=>cX (EV d) MM [fj 1<|.call fu [bK,dq,jf]] τ) (ak<|x.1.length+1).reverse q none λi hi r q=>by
  have hp:(b,i)∈PS B:=lF.mpr ⟨x,h,aT<|cf.mp<|xa.mp hi⟩;have:(dm VF (SV.int i)<|F r q)=some (F r<|some<|.int i):=by cases q<;>rfl
  exact aP this<|aZ (τ:=F (G (b,i) r)<|some<|.int i) (bO (bY (aU:=F r<|some<|.int i) (vs:=[fB r,.int b,.int i]) rfl rfl<|S ext (b,i) r hp) rfl) rfl
 rw[List.foldl_reverse] at e
 rw[Vu]
 have hm:(x.1.map tj).length=x.1.length:=ag ..
 rw[hm] at hl
 refine hK YM<|iO rfl (Xf hf) rfl (aZ (gy (mr (gT (bS (bS rfl rfl<|O.zG h) rfl rfl) rfl (by rw[hm];exact cL hl)) rfl) (by rw[hm];exact II hl) rfl e)<|hY<|ff rfl) (rg _)<|jA rfl
theorem Cj(L:List (List SV)):∀(k n:Nat)(st:List SO),(∀(j:Nat)(l:List SV),L[j]? =some l->st[k+j]? =some (.list l)/\b8 l=true)->L.length+1<n->∃st',b4 n ((fi k L.length).map SV.h) st=some (L.map SV.lst,st'):=by
 induction L with
 |nil=>
  intro k n st _ hn;cases n with
  |zero=>exact absurd hn<|gF _
  |succ n=>exact⟨st,rfl⟩
 |cons l L ih=>
  intro k n st h hn;obtain⟨n,rfl⟩:∃q,n=q+2:=⟨n-2,(vh<|ah (show 2<=L.length+1+1 from fS ..)<|be hn).symm⟩;obtain⟨h1,h2⟩:=h 0 l rfl;have e1:freeze (n+1) (.h k) st=some (.lst l,st.set k .gone):=by
   show(st[k]?.bind _)=_;rw[show st[k]? =some (.list l) from h1];show(b4 n l<|st.set k .gone).map _=_;have:n≠0:=λe=>by rw[e,cZ] at hn;omega
   cases n with
   |zero=>exact absurd rfl this
   |succ n=>unfold b4;rw[h2];rfl
  obtain⟨st',e2⟩:=ih (k+1) (n+1) (st.set k .gone) (λj l' e=>by obtain⟨a,c⟩:=h (j+1) l' e;refine⟨?_,c⟩;rw[bV (by omega),show k+1+j=k+(j+1) by omega];exact a) (by rw[cZ] at hn;omega);refine⟨st',?_⟩;show(freeze (n+1) (.h k) st).bind _=_;rw[e1];show(b4 (n+1) ((fi (k+1) L.length).map SV.h)<|st.set k .gone).map _=_;rw[e2];rfl
noncomputable def prL:Nat->List SV
 |0=>[]
 |b+1=>[.int b]
def QS(n:Nat)(j:Nat):List SV:=if j<=n then prL j else []
theorem N3(h:j<=n):QS (n+1) j=QS n j:=by unfold QS;rw[if_pos h,if_pos<|eR h]
theorem Kk{f g:Nat->SO}{n i:Nat}(hi:i<n)(hv:v=g i)(h:∀j,j≠i->f j=g j):((ak n).map f).set i v=(ak n).map g:=by
 refine fC λj=>?_;by_cases q:j=i
 ·subst q;rw[eB (by rw[ag,au];exact hi),ai,bJ hi,hv];rfl
 ·rw[bV<|gp q,ai,ai];cases e:(ak n)[j]? with
  |none=>rfl
  |some z=>obtain⟨h1,h2⟩:=af.mp e;rw[cq] at h2;show some (f z)=some (g z);rw[h z<|h2▸q]
def u2(m n:Nat):List SO:=(ak m).map (λj=>SO.list<|QS n j)++[.list<|(fi 0 m).map SV.h]
noncomputable def EZ(m n:Nat):Option SV:=if min n (m-1)=0 then none else some (.int (min n (m-1):Nat))
theorem ahI(O:nu B)(h0:0<B.length):EV (d+2) (gu 193) [BD B] st=some (.lst<|(ak B.length).map λj=>.lst<|prL j,st):=by
 have hB:=O.len;have hBl:B.length<=eA:=by show _<=4000;exact ZM h0 hB
 let F:Nat->bo:=λn=>⟨[.val<|BD B,jh<|pv n,.val<|.h B.length,jh<|EZ B.length n,.un,.un,.un],u2 B.length n⟩;have mk:∀(xs:List SV) acc q s,∃q',gM (λx τ=>(dm td x τ).bind λτ=>(kP (EV<|d+1) MM [] τ).bind λq=>(gh q.1).bind λb=>match b with
    |true=>(cj (EV<|d+1) MM (.list true []) q.2).map λr=>([r.1],r.2)
    |false=>some ([],q.2)) acc xs ⟨[.un,jh q],s⟩=some (acc++(fi s.length xs.length).map SV.h,⟨[.un,jh q'],s++xs.map λu=>SO.list []⟩):=by
  intro xs
  induction xs with
  |nil=>intro acc q s;exact⟨q,by rw[nG,bj];show some (acc,_)=some (acc++[],_);rw[bj]⟩
  |cons x xs ih=>intro acc q s;obtain⟨q',e⟩:=ih (acc++[.h s.length]) (some x)<|s++[.list []];refine⟨q',aP (a:=([.h s.length],⟨[.un,.val x],s++[.list []]⟩)) (by cases q<;>rfl)<|e.trans ?_⟩;rw[aj,aO,aO];rfl
 obtain⟨q0,e0⟩:=mk (tZ B) [] none [];have e1:=Cu (m:=true) (fr:=[none,none]) (ik:=.over) (es:=[fL 9]) rfl (σ:=⟨[.val<|BD B,.un,.un,.un,.un,.un,.un],[]⟩) (aq:=⟨[.val<|BD B,.un,.un,.un,.un,.un,.un],[]⟩) (vs:=[.lst<|tZ B]) rfl rfl rfl e0
  (by rw[eX,ag,LF,ib];exact hBl)
 have e2:([]++(tZ B).map λu=>SO.list [])++[.list<|[]++(fi ([]:List SO).length (tZ B).length).map SV.h]=u2 B.length 0:=by rw[eX,eX,ib];congr 1;refine xc (by rw[ag,ag,au,ib]) λj h1 h2=>?_;rw[l6,l6,cq];cases j<;>rfl
 have e3:kB (EV<|d+1) MM (fj 2<|.comp true [none,none] (.list true []) td .over [fL 9] []) ⟨[.val<|BD B,.un,.un,.un,.un,.un,.un],[]⟩=some (.next,F 0):=by
  refine bO e1 ?_;show some (bo.mk [.val<|BD B,.un,.val<|.h ([]++(tZ B).map λu=>SO.list []).length,.un,.un,.un,.un]<|([]++(tZ B).map λu=>SO.list [])++[.list<|[]++(fi ([]:List SO).length (tZ B).length).map SV.h])=_;rw[e2,eX,ag,ib];have:EZ B.length 0=none:=by unfold EZ;rw[Nat.zero_min];rfl
  show _=some (bo.mk [.val<|BD B,.un,.val<|.h B.length,jh<|EZ B.length 0,.un,.un,.un]<|u2 B.length 0);rw[this];rfl
 have step:=yN (f:=λx τ=>(dm td x τ).bind λτ=>cX (EV<|d+1) MM [.for EX .over [d6 188 [.bx b0 13 [bK]]] [.expr<|.bx (.sub dq dR) 0 [.rl 1]]] τ) (F:=F) B.length λn h=>by
  have hx:=ay h;generalize B[n]'(h)=x at hx;have hl:=O.last n x hx;let K:LV->List SO->bo:=λr s=>⟨[.val<|BD B,.val<|.int n,.val<|.h B.length,r,.un,.un,.un],s⟩;refine aP (a:=K (jh<|EZ B.length n)<|u2 B.length n) (by cases n<;>rfl)<|aZ (gy (eT<|bY (aU:=K (jh<|EZ B.length n)<|u2 B.length n) rfl (eT<|ja (aU:=K (jh<|EZ B.length n)<|u2 B.length n) rfl rfl rfl VY (vs:=[.int n]) rfl<|acU O hx)<|cB O hx) rfl rfl ?_) rfl;cases ht:x.2 with
  |none=>
   have e:=hl.mp ht;show some (FL.next,K (jh<|EZ B.length n)<|u2 B.length n)=some (FL.next,F<|n+1);have a1:EZ B.length (n+1)=EZ B.length n:=by unfold EZ;rw[<-e,Nat.add_sub_cancel,qn<|jR n,Fk]
   have a2:u2 B.length (n+1)=u2 B.length n:=by unfold u2;congr 1;refine iH λj hj=>?_;have:=cf.mp hj;rw[N3<|aeh e this]
   show _=some (FL.next,K (jh<|EZ B.length<|n+1)<|u2 B.length<|n+1);rw[a1,a2]
  |some w=>
   have hne:=λq=>cb w<|ht.symm.trans<|hl.mpr q;have hlt:n+1<B.length:=ar5 h hne;have a1:EZ B.length (n+1)=some (.int (n+1:Nat)):=by unfold EZ;rw[fc<|Nat.le_sub_one_of_lt hlt];rfl
   have a2:(u2 B.length n).set (n+1) (.list<|[]++[.int n])=u2 B.length (n+1):=by
    unfold u2;rw[List.set_append_left _ _ (by rw[ag,au];exact hlt)];congr 1;refine Kk hlt (by unfold QS;rw[if_pos<|aG _];rfl) λj hj=>?_;congr 1;unfold QS;by_cases q:j<=n
    ·rw[if_pos q,if_pos<|eR q]
    ·rw[if_neg q,if_neg<|ael hj q]
   have b1:(u2 B.length n)[B.length]? =some (.list<|(fi 0 B.length).map SV.h):=by unfold u2;rw[aA (by rw[ag,au];exact aG _),ag,au,bF];rfl
   have b2:(u2 B.length n)[n+1]? =some (.list []):=by unfold u2;rw[aL (by rw[ag,au];exact hlt),ai,bJ hlt];show some (SO.list<|QS n<|n+1)=_;unfold QS;rw[if_neg<|aee]
   refine iQ (aP (a:=K (.val<|.int (n+1:Nat))<|u2 B.length n) (by cases EZ B.length n<;>rfl)<|aZ (Xm (v:=.none)<|jj (vs:=[.int n]) (bS rfl rfl<|qO b1<|g6 ?_ ?_) ?_ ?_ rfl<|(AL b2<|eO _).trans ?_) rfl) rfl
   ·rw[ai,HQ<|hlt];show some (SV.h<|0+1*(n+1))=_;congr 2;exact aeJ
   ·show _<=4000;exact aeI h0 hB hlt
   ·show(u2 B.length n)[n+1]?.bind lD=none;rw[b2];rfl
   ·show((u2 B.length n)[n+1]?.bind gE).isSome=true;rw[b2];rfl
   ·rw[a2];show some (SV.none,K (.val<|.int (n+1:Nat))<|u2 B.length<|n+1)=some (SV.none,K (jh<|EZ B.length<|n+1)<|u2 B.length<|n+1);rw[a1];rfl
 refine bR YR rfl rfl rfl (aZ e3<|aZ (gy (eT<|gT (aq:=F 0) rfl rfl (by rw[ib];exact hBl)) (j4 (by rw[ib];exact hBl)) rfl (by rw[ib];exact step))<|hY<|ff rfl) ?_;have b1:(u2 B.length B.length)[B.length]? =some (.list<|(fi 0 B.length).map SV.h):=by unfold u2;rw[aA (by rw[ag,au];exact aG _),ag,au,bF];rfl
 obtain⟨st',e⟩:=Cj ((ak B.length).map prL) 0 49 ((u2 B.length B.length).set B.length .gone) (λj l hl=>by rw[ai,bq] at hl;obtain⟨z,hz,rfl⟩:=hl;obtain⟨h1,h2⟩:=af.mp hz;rw[cq] at h2;rw[au] at h1;subst h2;refine⟨?_,by cases j<;>rfl⟩;rw[cz,bV<|adG h1];unfold u2;rw[aL (by rw[ag,au];exact h1),ai,bJ h1];show some (SO.list<|QS B.length j)=_;unfold QS;rw[if_pos<|be h1]) (by rw[ag,au];exact aeH h0 hB);show(((u2 B.length B.length)[B.length]?.bind _).map _)=_;rw[b1];show(((b4 49 ((fi 0 B.length).map SV.h)<|(u2 B.length B.length).set B.length .gone).map _).map _)=_;rw[ag,au] at e;rw[e];rw[jW];rfl
end
section
section
variable{st:List SO}{a c v:SO}{lo:List LV}
theorem EI:(st++[a,c])[st.length]? =some a:=by rw[aA<|aG _,bF];rfl
theorem CJ:(st++[a,c])[st.length+1]? =some c:=by rw[aA<|jR _,show st.length+1-st.length=1 by exact ZG];rfl
theorem ND:(st++[a,c]).set st.length v=st++[v,c]:=by rw[jr _ _<|aG _,bF];rfl
theorem Xk:(st++[a,c]).set (st.length+1) v=st++[a,v]:=by rw[jr _ _<|jR _,show st.length+1-st.length=1 by exact ZG];rfl
theorem n3(h:st.all (SO.low st.length)=true):ll st.length (st++ext)=some st:=by
 unfold ll;cases q:decide ((st++ext).length<=st.length) with
 |true=>have:=of_decide_eq_true q;rw[aj] at this;rw[xO (l:=ext)<|aeG this,bj]
 |false=>show gd (((st++ext).take st.length).all<|SO.low st.length) ((st++ext).take st.length)=_;rw[Vs,kO h]
theorem VU{x:SV}(hk:st[k]? =some (.list<|xs++[x]))(hl:(xs++[x]).length<=eA):iA (.h k) 2 [] ⟨lo,st⟩=some (x,⟨lo,st.set k<|.list xs⟩):=by refine aP (by rw[hk];rfl)<|aP (List.getLast?_concat ..) ?_;rw[uO hl,List.dropLast_concat]
theorem rQ{k i:Nat}{x:SV}(hk:st[k]? =some (.list xs))(hi:i<xs.length)(hl:i<=eA):pz (.h k) (.int i) x ⟨lo,st⟩=some ⟨lo,st.set k<|.list<|xs.set i x⟩:=by show(match st[k]?.bind gE with|some xs=>_|none=>_)=_;rw[hk];show gd (decide (0<=(i:Int))&&decide ((i:Int)<xs.length)&&decide ((i:Int)<=eA)) _=_;rw[kO (by rw[decide_eq_true<|kF i,decide_eq_true<|nN.mpr hi,decide_eq_true<|gN.mpr hl];rfl)];rfl
theorem th(l:List Nat):fR (l.map λi:Nat=>SV.int i)=some (l.map λi:Nat=>lL i):=by
 induction l with
 |nil=>exact rfl
 |cons i l ih=>show(m6<|.int i).bind (λd=>(fR (l.map λi:Nat=>SV.int i)).map λds=>d::ds)=_;rw[ih];rfl
theorem Bn{l:List Nat}(hk:st[k]? =some (.list (l.map λi:Nat=>SV.int i))):jB st .ne (.h k) (.lst [])=some (!l.isEmpty):=by show(((st[k]?.bind gE).bind λxs=>(fR xs).map rF).bind λda=>(pA st<|.lst []).bind λdb=>gd (decide<|min da.depth db.depth<=cw)<|bp da db).map (!·)=_;rw[hk];show(((fR (l.map λi:Nat=>SV.int i)).map rF).bind _).map _=_;rw[th];show(gd (decide<|min _ (rF []).depth<=cw)<|bp (.list (l.map λi:Nat=>lL i))<|.list []).map _=_;rw[kO<|decide_eq_true<|ah (dW _ _)<|by decide];cases l<;>rfl
theorem Od{k i:Nat}{l:List Nat}(hk:st[k]? =some (.list (l.map λi:Nat=>SV.int i)))(hq:l.contains i=q):jB st .kL (.int i) (.h k)=some (!q):=by
 have h1:jk st (.h k)=none:=by show st[k]?.bind pC=none;rw[hk];rfl
 have h2:nc st (.h k)=some (l.map λi:Nat=>SV.int i):=by show st[k]?.bind gE=_;rw[hk];rfl
 refine iB ?_ rfl;show(match jk st (.h k) with|some p=>_|none=>_)=_;rw[h1];refine aP h2 ?_;show((fR (l.map λi:Nat=>SV.int i)).bind λds=>gd true<|ds.findIdx? λx=>bp x<|.int i).map (·.isSome)=_;rw[th];show some ((l.map λi:Nat=>lL i).findIdx? λx=>bp x<|.int i).isSome=_;congr 1;rw[sM,List.any_map,<-hq,je,xd,gX];constructor
 ·rintro⟨x,hx,e⟩;have:=e;rw[<-pn.mp<|beq_iff_eq.mp this];exact hx
 ·intro h;exact⟨i,h,by show((i:Int)==i)=true;exact beq_self_eq_true _⟩
end
section
variable{C:bT}{M:b6}{σ aq aU τ:bo}{hM jH:E}{v x y:SV}{e o i:E}{m:Bool}
theorem PM{n:Nat}(h:cj C M hM σ=some (x,aq))(k:cj C M jH aq=some (.int n,aU))(hn:n<=eA):cj C M (.rep m hM jH) σ=some (dN m (br n x) aU):=aP h<|aP k<|aP rfl<|kO<|decide_eq_true (show(n:Int).natAbs<=eA from hn)
theorem uA(h:cj C M e σ=some (v,aq))(ho:cj C M o aq=some (x,aU))(hi:cj C M i aU=some (y,τ))(k:pz x y v τ=some sG):kB C M (.asg (.ix o i) e) σ=some (.next,sG):=bO h<|aP ho<|aP hi k
theorem HZ{c:bo->Option (SV×bo)}{f:bo->Option (FL×bo)}(h:c σ=some (.bool false,aq)):i3 c f (n+1) σ=some (.next,aq):=aP h<|aP rfl rfl
theorem HY{c:bo->Option (SV×bo)}{f:bo->Option (FL×bo)}(h:c σ=some (.bool true,aq))(k:f aq=some (.next,aU))(l:i3 c f n aU=R):i3 c f (n+1) σ=R:=aP h<|aP rfl<|aP k l
end
variable{B:List d9}{b i d:Nat}{x:d9}{st:List SO}{f:SV}{G:Nat×Nat->Bool->Bool}
def Fb(B:List d9)(G:Nat×Nat->Bool->Bool)(b:Nat):Bool:=(QO B b).foldr G false
theorem afq(h:B[b]? =some x):Fb B G b=((ak<|x.1.length+1).map λi=>(b,i)).foldr G (decide (b+1<B.length)&&Fb B G (b+1)):=by
 have hb:=(af.mp h).1;unfold Fb;rw[BL h,Mn];congr 1;by_cases q:b+1<B.length
 ·rw[decide_eq_true q];rfl
 ·rw[decide_eq_false q,show b+1=B.length by exact adu hb q,Ii];rfl
theorem YL:prog.fns 282=some aci:=rfl
def wG(B:List d9)(G:Nat×Nat->Bool->Bool)(m:Nat):List SV:=(ak B.length).map λj=>fB<|decide (m<=j)&&Fb B G j
theorem Jm{m:Nat}:(wG B G m).length=B.length:=by unfold wG;rw[ag,au]
theorem Jl{m:Nat}(h:m<B.length):(wG B G<|m+1).set m (fB<|Fb B G m)=wG B G m:=by
 unfold wG;refine fC λj=>?_;by_cases q:j=m
 ·subst q;rw[eB (by rw[ag,au];exact h),ai,bJ h];show _=some (fB<|decide (j<=j)&&Fb B G j);rw[decide_eq_true<|aG _];rfl
 ·rw[bV<|gp q,ai,ai];cases e:(ak B.length)[j]? with
  |none=>rfl
  |some z=>obtain⟨h1,h2⟩:=af.mp e;rw[cq] at h2;show some (fB<|decide (m+1<=z)&&Fb B G z)=some (fB<|decide (m<=z)&&Fb B G z);rw[show decide (m+1<=z)=decide (m<=z) by rw[decide_eq_decide];omega]
noncomputable def tG(m:Nat):List SV:=(ak m).map λi:Nat=>SV.int i
def CL(B:List d9):SV:=.lst<|(ak B.length).map λj=>.lst<|prL j
theorem acR(O:nu B)(h0:0<B.length)(hf:f.free=false)(HS:∀d,zu (d+3) f st B G)(hlow:st.all (SO.low st.length)=true):
  EV (d+5) (gu 282) [BD B,fB false,f,gu 240] st=some (.lst<|(ak B.length).map λj=>fB<|Fb B G j,st):=by
 have hB:=O.len
 have hBl:B.length<=eA:=by show _<=4000;exact ZM h0 hB
 let k0:=st.length
 let F:Nat->Option SV->Option SV->Option SV->bo:=λm q1 q2 q3=>⟨[.val<|BD B,.val<|fB false,.val f,.val<|gu 240,.val<|.h k0,.val<|CL B,.val<|.h<|k0+1,jh q1,jh q2,jh q3,.un,.un,.un,.un,.un,.un],st++[.list<|wG B G m,.list<|tG m]⟩
 let bdy:List S:=[fj 7<|.bx jZ 2 [],fj 8<|d6 275 [b0,d6 268 [b0,fu,qM,bK,dR],qM,.int 0,dq],.ifs (.cmp .ne zX<|.sub fu qM) [.asg (.ix fu qM) zX,.for zo9 .over [.sub jf qM] [.ifs (.cmp .kL FJ jZ) [.expr<|.bx jZ 0 [.rl 9]] []]] []]
 have W:∀(m n:Nat)(q1 q2 q3),m<=B.length->m<n->∃q1' q2' q3',i3 (cj (EV<|d+4) MM<|.cmp .ne jZ<|.list false []) (cX (EV<|d+4) MM bdy) n (F m q1 q2 q3)=some (.next,F 0 q1' q2' q3'):=by
  intro m;induction m with
  |zero=>
   intro n q1 q2 q3 _ hn;cases n with
   |zero=>exact absurd hn<|cp _
   |succ n=>exact y31 q1 q2 q3<|HZ<|d7 (y:=.lst []) rfl rfl<|Bn (l:=ak 0) CJ
  |succ m ih=>
   intro n q1 q2 q3 hm hn;cases n with
   |zero=>exact absurd hn<|gF _
   |succ n=>
    have hx:=ay hm;generalize B[m]'(hm)=x at hx;have hml:m<=eA:=by show _<=4000;exact aeF h0 hB hm
    have turn:∃q3',cX (EV<|d+4) MM bdy (F (m+1) q1 q2 q3)=some (.next,F m (some<|.int m) (some<|fB<|Fb B G m) q3'):=by
     let A:List SO:=st++[.list<|wG B G<|m+1,.list<|tG m];let K:Option SV->Option SV->List SO->bo:=λq2 q3 s=>⟨[.val<|BD B,.val<|fB false,.val f,.val<|gu 240,.val<|.h k0,.val<|CL B,.val<|.h<|k0+1,.val<|.int m,jh q2,jh q3,.un,.un,.un,.un,.un,.un],s⟩;have s1:kB (EV<|d+4) MM (fj 7<|.bx jZ 2 []) (F (m+1) q1 q2 q3)=some (.next,K q2 q3 A):=by
      have e0:(st++[.list<|wG B G<|m+1,.list<|tG<|m+1])[k0+1]? =some (.list<|tG m++[.int m]):=by rw[CJ];unfold tG;rw[eV,bf];rfl
      refine bO (jj rfl ?_ ?_ rfl<|VU e0 ?_) ?_
      ·show(st++[.list<|wG B G<|m+1,.list<|tG<|m+1])[k0+1]?.bind lD=none;rw[e0];rfl
      ·show((st++[.list<|wG B G<|m+1,.list<|tG<|m+1])[k0+1]?.bind gE).isSome=true;rw[e0];rfl
      ·unfold tG;rw[aj,ag,au];show m+1<=4000;exact aeE h0 hB hm
      ·show iy 7 (.int m) ⟨_,(st++[SO.list<|wG B G<|m+1,SO.list<|tG<|m+1]).set (k0+1)<|.list<|tG m⟩=_;rw[Xk];cases q1<;>rfl
     have s2:kB (EV<|d+4) MM (fj 8<|d6 275 [b0,d6 268 [b0,fu,qM,bK,dR],qM,.int 0,dq]) (K q2 q3 A)=some (.next,K (some<|fB<|Fb B G m) q3 A):=by have e1:=ahE (d:=d+2) (st:=A) O hx (k:=k0) EI;rw[decide_eq_true<|aG<|m+1,pd] at e1;have e2:=ahD O hx hf (HS d) [SO.list<|wG B G<|m+1,SO.list<|tG m]<|decide (m+1<B.length)&&Fb B G (m+1);rw[<-afq hx] at e2;refine bO (bY (aU:=K q2 q3 A) (vs:=[BD B,fB<|decide (m+1<B.length)&&Fb B G (m+1),.int m,.int 0,f]) rfl (mr rfl<|mr (bY (aU:=K q2 q3 A) (vs:=[BD B,.h k0,.int m,fB false,gu 240]) rfl rfl e1) rfl) e2) ?_;cases q2<;>rfl
     have ef:gi A (.h k0) (.int m)=some (fB false):=by refine qO EI<|g6 ?_ hml;unfold wG;rw[ai,bJ hm];show some (fB<|decide (m+1<=m)&&Fb B G m)=_;rw[decide_eq_false<|JF m];rfl
     cases hF:Fb B G m with
     |false=>
      rw[hF] at s2;refine⟨q3,aZ s1<|aZ s2<|aZ (xg (d7 rfl (bS rfl rfl ef)<|Ph false false) rfl) ?_⟩;show some (FL.next,K (some<|fB false) q3 A)=some (FL.next,F m (some<|.int m) (some<|fB false) q3);have:=Jl (G:=G) hm;rw[hF] at this;have e3:wG B G (m+1)=wG B G m:=by
       rw[<-this];refine(fC λj=>?_).symm;by_cases q:j=m
       ·subst q;rw[eB (by rw[Jm];exact hm)];unfold wG;rw[ai,bJ hm];show _=some (fB<|decide (j+1<=j)&&Fb B G j);rw[decide_eq_false<|JF j];rfl
       ·rw[bV<|gp q]
      show _=some (FL.next,K (some<|fB false) q3<|st++[.list<|wG B G m,.list<|tG m]);rw[<-e3]
     |true=>
      rw[hF] at s2;have e4:=hF▸Jl hm;let A2:List SO:=st++[.list<|wG B G m,.list<|tG m];have s3:kB (EV<|d+4) MM (.asg (.ix fu qM) zX) (K (some<|fB true) q3 A)=some (.next,K (some<|fB true) q3 A2):=by refine uA rfl rfl rfl ((rQ EI (by rw[Jm];exact hm) hml).trans ?_);rw[e4,ND]
      have e5:gi A2 (CL B) (.int m)=some (.lst<|prL m):=by refine pB<|g6 ?_ hml;rw[ai,bJ hm];rfl
      cases m with
      |zero=>exact⟨q3,aZ s1<|aZ s2<|aZ (CV (d7 rfl (bS rfl rfl ef)<|Ph true false)<|aZ s3<|aZ (gy (eT<|bS rfl rfl e5) rfl rfl rfl) rfl) rfl⟩
      |succ m=>refine⟨some<|.int m,aZ s1<|aZ s2<|aZ (CV (d7 rfl (bS rfl rfl ef)<|Ph true false)<|aZ s3<|aZ (gy (eT<|bS rfl rfl e5) rfl rfl<|iQ (aP (a:=K (some<|fB true) (some<|.int m) A2) (by cases q3<;>rfl)<|aZ (xg (d7 rfl rfl<|Od CJ (q:=true) ?_) rfl) rfl) rfl) rfl) rfl⟩;rw[gX,cf];exact cJ m
    refine fT turn λq3' e=>VH (ih n (some<|.int m) (some<|fB<|Fb B G m) q3' (cL hm)<|afe hn) λp1 p2 p3 e'=>?_;refine y31 p1 p2 p3<|HY (d7 (y:=.lst []) rfl rfl<|(Bn CJ).trans ?_) e e';rw[eV];cases ak m<;>rfl
 refine VH (W B.length 1000 none none none (aG _)<|adT h0 hB) λq1 q2 q3 e=>?_
 have eZ:wG B G 0=(ak B.length).map λj=>fB (Fb B G j):=by unfold wG;refine iH λj z=>?_;rw[decide_eq_true<|eO j,pd]
 have eL:wG B G B.length=br B.length (fB false):=by unfold wG;refine xc (by rw[ag,au,lT]) λj h1 h2=>?_;rw[lT] at h2;rw[l6,cq,List.getElem_replicate,decide_eq_false<|Rc h2];rfl
 have l1:=λ{s lo}=>by have:=gT (C:=EV<|d+4) (M:=MM) (e:=fL 9) (σ:=⟨.val (BD B)::lo,s⟩) (aq:=⟨.val (BD B)::lo,s⟩) rfl rfl (by rw[ib];exact hBl);rwa[ib] at this
 have hargs:b8 [BD B,fB false,f,gu 240]=false:=by show(true&&(true&&(f.free&&true)))=false;rw[hf];rfl
 refine hK YL<|iO rfl hargs rfl (aZ (τ:=⟨[.val<|BD B,.val<|fB false,.val f,.val<|gu 240,.val<|.h k0,.un,.un,.un,.un,.un,.un,.un,.un,.un,.un,.un],st++[.list<|wG B G B.length]⟩) ?_<|aZ (bO (bY rfl (eT rfl)<|ahI O h0) rfl)<|aZ ?_<|aZ e<|hY<|ff rfl) (rj (by rw[<-eZ];exact EI)<|eN (λz=>r9 _) _) ?_
 ·refine bO (PM rfl l1 hBl) ?_;rw[eL];rfl
 ·refine bO (uT (eT l1) (aU:=⟨[.val<|BD B,.val<|fB false,.val f,.val<|gu 240,.val<|.h k0,.val<|CL B,.un,.un,.un,.un,.un,.un,.un,.un,.un,.un],st++[.list<|wG B G B.length,.list<|tG B.length]⟩) ?_) rfl;show gd (decide<|(B.length:Int).natAbs<=eA) (alloc (.list<|(ak (B.length:Int).toNat).map λ(i:Nat)=>SV.int i) _)=_;rw[kO<|decide_eq_true (show(B.length:Int).natAbs<=eA from hBl)];show some (SV.h (st++[SO.list<|wG B G B.length]).length,bo.mk _<|(st++[SO.list<|wG B G B.length])++[SO.list<|tG B.length])=_;rw[aj,aO];rfl
 ·rw[ND,n3 hlow]
end
section
theorem Oy{α γ:Type}{f:SV->bo->Option (FL×bo)}{g:α->SV}{F:Nat->γ->bo}(xs:List α):∀(k:Nat)(c:γ),(∀(i:Nat)(x:α),xs[i]? =some x->∀c,∃c',f (g x) (F (k+i) c)=some (.next,F (k+i+1) c'))->∃c',cR f (xs.map g) (F k c)=some (.next,F (k+xs.length) c'):=by
 induction xs with
 |nil=>intro k c _;exact⟨c,rfl⟩
 |cons x xs ih=>
  intro k c h;refine fT (h 0 x rfl c) λc1 e1=>?_;obtain⟨c2,e2⟩:=ih (k+1) c1 λi y e c=>by have:=h (i+1) y e c;rwa[show k+(i+1)=k+1+i by exact Z9] at this
  refine⟨c2,iQ e1 ?_⟩;rwa[show k+1+xs.length=k+(x::xs).length by rw[cZ];exact ar2] at e2
theorem uJ{α γ:Type}{f:SV->bo->Option (FL×bo)}{g:α->SV}{F:Nat->γ->bo}(xs:List α)(c:γ)(h:∀(i:Nat)(x:α),xs[i]? =some x->∀c,∃c',f (g x) (F i c)=some (.next,F (i+1) c')):∃c',cR f (xs.map g) (F 0 c)=some (.next,F xs.length c'):=by
 have:=Oy xs 0 c λi x e c=>by rw[cz];exact h i x e c
 rwa[cz] at this
theorem nW{γ:Type}{f:SV->bo->Option (FL×bo)}{F:Nat->γ->bo}(n:Nat)(c:γ)(h:∀i,i<n->∀c,∃c',f (.int i) (F i c)=some (.next,F (i+1) c')):∃c',cR f ((ak n).map λi:Nat=>SV.int i) (F 0 c)=some (.next,F n c'):=by
 have:=uJ (ak n) c λi x e=>by obtain⟨h1,h2⟩:=af.mp e;rw[cq] at h2;rw[au] at h1;subst h2;exact h i h1
 rwa[au] at this
variable{B:List d9}{b i d:Nat}{x:d9}{st:List SO}{f:SV}{G:Nat×Nat->Bool->Bool}
theorem acS(O:nu B)(h:B[b]? =some x){Fn:Nat->Bool}:
  EV (d+2) (gu 268) [BD B,.lst<|(ak B.length).map λj=>fB<|Fn j,.int b,fB false,gu 240] st=some (fB<|decide (b+1<B.length)&&Fn (b+1),st):=by
 have hb:=(af.mp h).1
 have hB:=O.len
 let Fs:SV:=.lst<|(ak B.length).map λj=>fB<|Fn j
 let F:SV->LV->bo:=λv q=>⟨[.val<|BD B,.val Fs,.val<|.int b,.val<|fB false,.val<|gu 240,.val v,q,.un],[]⟩
 have key:∀r q,cR (λx τ=>(dm EW x τ).bind λτ=>cX (EV<|d+1) MM [fj 5<|.call fu [jf,.sub bK jZ]] τ) (MX b x.2) (F (fB false) .un)=some (.next,F (fB r) q)->
   EV (d+2) (gu 268) [BD B,Fs,.int b,fB false,gu 240] st=some (fB r,st):=λr q e=>
  bR Pw rfl rfl rfl (aZ (rfl)<|aZ (gy (eT<|bY rfl (eT<|bS (bS rfl rfl<|O.zG h) rfl rfl)<|cB O h) rfl rfl e)<|hY<|ff rfl) (by show(freeze fz (fB r) []).map _=_;rw[rg];rfl)
 have hl:=O.last b x h
 cases ht:x.2 with
 |none=>have e:=hl.mp ht;refine(key false .un (by rw[ht];rfl)).trans ?_;rw[decide_eq_false<|ZN e];rfl
 |some w=>
  have hne:=λq=>cb w<|ht.symm.trans<|hl.mpr q;have hlt:b+1<B.length:=ar5 hb hne;refine(key (Fn<|b+1) (.val<|.int (b+1:Nat)) ?_).trans ?_
  ·rw[ht];refine iQ (aZ (bO (bY rfl (mr rfl<|eT<|bS rfl rfl<|pB<|g6 ?_ ?_)<|acT false<|Fn<|b+1) rfl) rfl) rfl
   ·rw[ai,bJ hlt];rfl
   ·show _<=4000;exact adj hB hlt
  ·rw[decide_eq_true hlt];rfl
def Zn(B:List d9)(G:Nat×Nat->Bool->Bool)(b:Nat):Bool:=decide (b+1<B.length)&&Fb B G (b+1)
def zH(B:List d9)(G:Nat×Nat->Bool->Bool)(x:d9)(p:Nat×Nat):Bool:=(((ak<|x.1.length+1).drop p.2).map λi=>(p.1,i)).foldr G<|Zn B G p.1
def FP(B:List d9)(G:Nat×Nat->Bool->Bool)(p:Nat×Nat):Bool:=match B[p.1]? with
 |some x=>zH B G x p
 |none=>false
theorem Wu(h:B[b]? =some x){i:Nat}:FP B G (b,i)=zH B G x (b,i):=by show(match B[b]? with|some x=>zH B G x (b,i)|none=>false)=_;rw[h]
theorem UZ:zH B G x (b,x.1.length+1)=Zn B G b:=by unfold zH;rw[qt (by rw[au];exact aG _)];rfl
theorem QB{i:Nat}(hi:i<=x.1.length):zH B G x (b,i)=G (b,i) (zH B G x (b,i+1)):=by unfold zH;show(((ak<|x.1.length+1).drop i).map _).foldr G _=G (b,i) ((((ak<|x.1.length+1).drop<|i+1).map _).foldr G _);rw[eF (by rw[au];exact ar4 hi),cq];rfl
noncomputable def KB(b:Nat)(x:d9):List (Nat×Nat):=(ak<|x.1.length+1).reverse.map λi=>(b,i)
def KS(B:List d9):List (Nat×Nat):=B.zipIdx.flatMap λp=>KB p.2 p.1
theorem IG(h:B[b]? =some x):KS (B.take<|b+1)=KS (B.take b)++KB b x:=by
 have hb:=(af.mp h).1;have e:B.take (b+1)=B.take b++[x]:=by rw[ij,h];rfl
 unfold KS;rw[e,kA,j7];congr 1;show KB (0+(B.take b).length) x++[]=_;rw[bj,cz,cm,fc<|be hb]
theorem GU:p∈KS B↔p∈PS B:=by
 rw[lF];unfold KS;rw[xb];constructor
 ·rintro⟨q,hq,hp⟩;refine dS (bI.mp hp) λi hi zz2=>?_;subst zz2;exact⟨q.1,by simpa using jc.mp hq,aT<|cf.mp<|xa.mp hi⟩
 ·rintro⟨x,h,hl⟩;exact⟨(x,p.1),jc.mpr (by simpa using h),bI.mpr ⟨p.2,xa.mpr<|cf.mpr<|eQ hl,rfl⟩⟩
theorem XQ:∀n,n<=B.length->(KS<|B.take n).length=(PS<|B.take n).length:=by
 intro n;induction n with
 |zero=>intro _;rfl
 |succ n ih=>intro h;have hx:=ay h;rw[IG hx,mK hx,aj,aj,ih<|cL h];unfold KB;rw[ag,ag,fF]
theorem YK:prog.fns 289=some ach:=by kernel_rfl
theorem EH:(st++[a])[st.length]? =some a:=by rw[aA<|aG _,bF];rfl
theorem NC:(st++[a]).set st.length v=st++[v]:=by rw[jr _ _<|aG _,bF];rfl
theorem Ed(hk:st[k]? =some (.dict ks vs))(h1:b8 ks=true)(h2:b8 vs=true):freeze fz (.h k) st=some (.hH ks vs,st.set k .gone):=by show(st[k]?.bind _)=_;rw[hk];show(gd (b8 ks) ()).bind (λz=>(b4 49 vs<|st.set k .gone).map _)=_;rw[kO h1];show(b4 49 vs<|st.set k .gone).map _=_;unfold b4;rw[h2];rfl
theorem acQ(O:nu B)(hn:(PS B).length<=1000)(hf:f.free=false)(HS:∀d,zu (d+3) f st B G)(hlow:st.all (SO.low st.length)=true):
  EV (d+4) (gu 289) [BD B,.lst<|(ak B.length).map λj=>fB<|Fb B G j,fB false,f,gu 240] st=some (.hH ((KS B).map bg)<|(KS B).map λp=>fB<|FP B G p,st):=by
 have hB:=O.len
 have hBl:B.length<=eA:=by show _<=4000;exact ZL hB
 let k0:=st.length
 let Fs:SV:=.lst<|(ak B.length).map λj=>fB<|Fb B G j
 let D:List (Nat×Nat)->List SO:=λL=>st++[.dict (L.map bg)<|L.map λp=>fB<|FP B G p]
 let K:List (Nat×Nat)->Option SV->Option SV->Option SV->bo:=λL q1 q2 q3=>⟨[.val<|BD B,.val Fs,.val<|fB false,.val f,.val<|gu 240,.val<|.h k0,jh q1,jh q2,jh q3,.un,.un,.un],D L⟩
 let ibd:List S:=[fj 7<|.call dR [qM,jZ,zX],.asg (.ix jf<|.tup [jZ,zX]) qM]
 have oH:∀(n:Nat)(x:d9),B[n]? =some x->∀q3:Option SV,∃h' q3',cR (λx τ=>(dm RE x τ).bind λτ=>cX (EV<|d+3) MM ibd τ) ((ak<|x.1.length+1).reverse.map λi:Nat=>SV.int i) (K (KS<|B.take n) (some<|.int n) (some<|fB<|Zn B G n) q3)=some (.next,K (KS<|B.take<|n+1) (some<|.int n) h' q3'):=by
  intro n x hx q3;have hxl:=(O.each x<|aI hx).1;have hnB:=(af.mp hx).1;obtain⟨c,e⟩:=uJ (f:=λx τ=>(dm RE x τ).bind λτ=>cX (EV<|d+3) MM ibd τ) (F:=λj (q:Option SV)=>K (KS (B.take n)++(KB n x).take j) (some<|.int n) (some<|fB<|zH B G x (n,x.1.length+1-j)) q) (ak<|x.1.length+1).reverse q3 λj i hj q=>by
   obtain⟨h1,h2⟩:=af.mp hj;rw[fF,au] at h1;rw[sL,cq,au] at h2;have hi:i=x.1.length-j:=by exact id<|cG h2
   have hp:(n,i)∈PS B:=lF.mpr ⟨x,hx,by show i<=_;exact adi h1 hi⟩;have a1:zH B G x (n,x.1.length+1-j)=zH B G x (n,i+1):=by rw[show x.1.length+1-j=i+1 from hi▸Nat.succ_sub (aT h1)]
   have a2:zH B G x (n,x.1.length+1-(j+1))=zH B G x (n,i):=by rw[show x.1.length+1-(j+1)=i from(Nat.add_sub_add_right ..).trans hi.symm]
   have a3:(KB n x).take (j+1)=(KB n x).take j++[(n,i)]:=by rw[ij];unfold KB;rw[ai,hj];rfl
   have hnew:(n,i)∉KS (B.take n)++(KB n x).take j:=λhm=>by
    rcases ct.mp hm with hm|hm
    ·have:=N2<|GU.mp hm;rw[cm] at this;exact absurd (a9 this<|ig _ _)<|cp _
    ·unfold KB at hm;rw[<-mh] at hm;refine dS (bI.mp hm) λz hz e=>?_;obtain rfl:z=i:=(gH e).2;refine fT (il hz) λy hy=>?_;obtain⟨h3,h4⟩:=af.mp hy;rw[cm,fF,au] at h3;rw[List.getElem_take,sL,cq,au] at h4;have hy:y<j:=a9 h3<|ig _ _;exact absurd (h4.trans hi)<|cN<|Nat.sub_lt_sub_left (a9 hy<|aT h1) hy
   have hlen:(KS (B.take n)++(KB n x).take j).length<=eA:=by rw[aj,XQ n<|be hnB,cm];have:=Iq (B:=B) n;unfold KB;rw[ag,fF,au];exact ah (jS (ah this hn)<|ah (dW _ _)<|jY hxl) (by decide)
   refine⟨some<|.int i,?_⟩;rw[a1,a2,a3];have st1:=HS d [SO.dict ((KS (B.take n)++(KB n x).take j).map bg)<|(KS (B.take n)++(KB n x).take j).map λp=>fB<|FP B G p] (n,i) (zH B G x (n,i+1)) hp;rw[<-QB (B:=B) (G:=G) (b:=n) (x:=x) (show i<=x.1.length by exact adi h1 hi)] at st1;let K2:Bool->bo:=λv=>K (KS (B.take n)++(KB n x).take j) (some<|.int n) (some<|fB v)<|some<|.int i;have hf2:fB (zH B G x (n,i))=fB (FP B G (n,i)):=by rw[Wu hx]
   refine aP (a:=K2<|zH B G x (n,i+1)) (by cases q<;>rfl)<|aZ (τ:=K2<|zH B G x (n,i)) (bO (bY (aU:=K2<|zH B G x (n,i+1)) (vs:=[fB<|zH B G x (n,i+1),.int n,.int i]) rfl rfl st1) rfl)<|aZ (uA (x:=.h k0) (y:=bg (n,i)) (τ:=K2<|zH B G x (n,i)) rfl rfl rfl<|hf2▸oS (f:=λp=>fB<|FP B G p) EH hnew hlen) ?_;show some (FL.next,_)=some (FL.next,_);rw[<-aO];congr 2;show bo.mk _ _=bo.mk _ _;rw[NC]
  rw[fF,au] at e;refine⟨some<|fB<|zH B G x (n,x.1.length+1-(x.1.length+1)),c,?_⟩;have e1:KS (B.take n)++(KB n x).take 0=KS (B.take n):=by rw[List.take_zero,bj]
  have e2:KS (B.take n)++(KB n x).take (x.1.length+1)=KS (B.take<|n+1):=by rw[IG hx,dG (l:=KB n x)];unfold KB;rw[ag,fF,au];exact aG _
  have e3:zH B G x (n,x.1.length+1-0)=Zn B G n:=by rw[wJ,UZ]
  rw[e1,e2,e3] at e;exact e
 obtain⟨⟨c1,c2⟩,e⟩:=nW (f:=λx τ=>(dm EW x τ).bind λτ=>cX (EV<|d+3) MM [fj 7<|d6 268 [b0,bK,jZ,dq,fu],.for RE .pJ [kH<|cQ (.sub (fL 9) jZ) 0,.neg<|.int 1,.neg<|.int 1] ibd] τ) (F:=λn c=>K (KS<|B.take n) (pv n) c.1 c.2) B.length (none,none) λn h c=>by have hx:=ay h;generalize B[n]'(h)=x at hx;refine zC (oH n x hx c.2) λh' q3' e=>?_;have hl:=(O.at hx).2;have hm:(x.1.map tj).length=x.1.length:=ag ..;let K2:Option SV->bo:=λv=>K (KS<|B.take n) (some<|.int n) v c.2;refine⟨(h',q3'),aP (a:=K2 c.1) (by cases n<;>rfl)<|aZ (τ:=K2<|some<|fB<|Zn B G n) (bO (bY (aU:=K2 c.1) (vs:=[BD B,Fs,.int n,fB false,gu 240]) rfl rfl<|acS (d:=d+1) O hx (Fn:=Fb B G))<|by cases c.1<;>rfl)<|aZ (gy (mr (gT (bS (bS rfl rfl<|O.zG hx) rfl rfl) rfl<|oq hl) rfl) (by rw[hm];exact II (by rw[<-hm];exact hl)) rfl e) rfl⟩
 rw[cY] at e
 have hargs:b8 [BD B,Fs,fB false,f,gu 240]=false:=by show(true&&(true&&(true&&(f.free&&true))))=false;rw[hf];rfl
 refine hK YK<|iO rfl hargs rfl (aZ (τ:=K (KS<|B.take 0) none none none) (rfl)<|aZ (gy (eT<|gT (aq:=K (KS<|B.take 0) none none none) (xs:=tZ B) rfl rfl (by rw[ib];exact hBl)) (j4 (by rw[ib];exact hBl)) rfl (by rw[ib];exact e))<|hY<|ff rfl) (Ed EH (eN (λu=>rfl) _)<|eN (λu=>r9 _) _) ?_
 rw[NC,n3 hlow]
end
section
def uV(B:List d9)(p:Nat×Nat):SV:=fB<|WW<|wP B p
def dV(B:List d9)(p:Nat×Nat):SV:=fB<|Y6<|wP B p
def sV(B:List d9)(p:Nat×Nat):SV:=fB<|NF<|wP B p
def LS(B:List d9)(as:List Nat)(vs:List SV)(T1 T2 T3:List (Nat×Nat)):List SO:=
 [.inst 588 (38::39::40::as)<|.h 1::.h 2::.h 3::vs,.dict (T1.map bg)<|T1.map<|uV B,.dict (T2.map bg)<|T2.map<|dV B,.dict (T3.map bg)<|T3.map<|sV B]
def Gu(B:List d9)(p:Nat×Nat)(q:Bool):Bool:=(q&&!NF (wP B p))||WW (wP B p)
def Gd(B:List d9)(p:Nat×Nat)(q:Bool):Bool:=(q&&!NF (wP B p))||Y6 (wP B p)
theorem Yt:prog.fns 564=some abY:=by kernel_rfl
theorem Ys:prog.fns 571=some abX:=by kernel_rfl
theorem Yr:prog.fns 578=some abW:=by kernel_rfl
theorem Yq:prog.fns 585=some abV:=by kernel_rfl
theorem Yu:prog.fns 557=some abZ:=by kernel_rfl
variable{B:List d9}{d:Nat}{x:d9}{st:List SO}{as:List Nat}{vs:List SV}
theorem M3:zu (d+1) (.t5 564<|.h 0) (LS B as vs (PS B) (PS B)<|PS B) B (Gu B):=λext p q hp=>by let σ:bo:=⟨[.val<|.h 0,.val<|fB q,.val<|.int p.1,.val<|.int p.2],LS B as vs (PS B) (PS B) (PS B)++ext⟩;exact zh Yt<|iO rfl rfl rfl (hY<|ff<|ip (ip (aq:=σ) rfl (bS (aq:=σ) (y:=bg p) rfl rfl<|pQ rfl hp)<|Pd q _) (bS (aq:=σ) (y:=bg p) rfl rfl<|pQ rfl hp)<|Pe _ _) (rg _)<|jA rfl
theorem M4:zu (d+1) (.t5 571<|.h 0) (LS B as vs (PS B) (PS B)<|PS B) B (Gd B):=λext p q hp=>by let σ:bo:=⟨[.val<|.h 0,.val<|fB q,.val<|.int p.1,.val<|.int p.2],LS B as vs (PS B) (PS B) (PS B)++ext⟩;exact zh Ys<|iO rfl rfl rfl (hY<|ff<|ip (ip (aq:=σ) rfl (bS (aq:=σ) (y:=bg p) rfl rfl<|pQ rfl hp)<|Pd q _) (bS (aq:=σ) (y:=bg p) rfl rfl<|pQ rfl hp)<|Pe _ _) (rg _)<|jA rfl
theorem ahL(z:Option W):zj .dx [.lst<|usO z] σ=some (fB<|WW z,σ):=iB (aaO z) rfl
theorem ahN(z:Option W):zj .dx [.lst<|drL z] σ=some (fB<|Y6 z,σ):=iB (acA z) rfl
theorem ahM(z:Option W):zj .dx [.lst<|seL z] σ=some (fB<|NF z,σ):=iB (aa2 z) rfl
theorem j3{α:Type}{h:α->SV}(H:∀x,(h x).low n=true)(xs:List α):SV.lows n (xs.map h)=true:=by
 induction xs with
 |nil=>exact rfl
 |cons x xs ih=>show((h x).low n&&SV.lows n (xs.map h))=true;rw[H x,ih];rfl
theorem G7(a:Bool):(fB a).low n=true:=by cases a<;>rfl
theorem B2(hv:SV.lows 4 vs=true){T:List (Nat×Nat)}:(LS B as vs T T T).all (SO.low (LS B as vs T T T).length)=true:=by show(SV.lows 4 (.h 1::.h 2::.h 3::vs)&&(SV.lows 4 (T.map<|uV B)&&(SV.lows 4 (T.map<|dV B)&&(SV.lows 4 (T.map<|sV B)&&true))))=true;rw[j3 (h:=uV B) λz=>G7 _,j3 (h:=dV B) λz=>G7 _,j3 (h:=sV B) λz=>G7 _];show(true&&(true&&(true&&SV.lows 4 vs))&&true)=true;rw[hv];rfl
theorem mT(hk:st[k]? =some (.dict ks ws))(h1:b8 ks=true)(h2:b8 ws=true):freeze (n+2) (.h k) st=some (.hH ks ws,st.set k .gone):=by show(st[k]?.bind _)=_;rw[hk];show(gd (b8 ks) ()).bind (λz=>(b4 (n+1) ws<|st.set k .gone).map _)=_;rw[kO h1];show(b4 (n+1) ws<|st.set k .gone).map _=_;unfold b4;rw[h2];rfl
theorem gZ(ha:b8 (v::r)=false)(h:freeze n v st=some (w,aC))(k:b4 n r aC=some (ws,dJ)):b4 (n+1) (v::r) st=some (w::ws,dJ):=by unfold b4;rw[ha];exact aP h<|iB k rfl
theorem rh(h:b8 r=true):b4 (n+1) r st=some (r,st):=by unfold b4;rw[h]
theorem A1{args as:List SV}(h0:prog.fns a=none)(h1:prog.cls a=some ⟨i,.freeze⟩)(hf:prog.fns i=some fn)(ha:b8 args=true)(hs:tK fn (.h 0::args)=some as)
  (h:cX (EV d) MM fn.body ⟨(cM fn.kinds as [] [.inst a [] []]).1,(cM fn.kinds as [] [.inst a [] []]).2⟩=some (.next,τ)) (hz:(freeze fz (.h 0) τ.st).map (·.1)=some v):EV (d+1) (.raw<|.ref a) args st=some (v,st):=by
 show(match prog.fns a with|some fn=>_|none=>(prog.cls a).bind λc=>(prog.fns c.init).bind λfn=>pT (EV d) MM a c.N5 fn args st)=_
 rw[h0]
 refine aP h1<|aP hf ?_
 show(match b8 args with|true=>_|false=>_)=_
 rw[ha]
 refine aP ?_ (by
  cases e:freeze fz (.h 0) τ.st with
  |none=>rw[e] at hz;cases hz
  |some r=>rw[e] at hz;rw[<-aa hz];rfl)
 show(qg (EV d) MM fn (.h 0::args) [] [.inst a [] []]).bind _=_
 exact aP (aP hs<|iB h rfl) rfl
def Lw(B:List d9):SV:=.inst 588 [38,39,40,41,42] [.hH ((PS B).map bg)<|(PS B).map<|uV B,.hH ((PS B).map bg)<|(PS B).map<|dV B,.hH ((PS B).map bg)<|(PS B).map<|sV B,.hH ((KS B).map bg)<|(KS B).map λp=>fB<|FP B (Gu B) p,.hH ((KS B).map bg)<|(KS B).map λp=>fB<|FP B (Gd B) p]
def U3(B:List d9)(q a c:LV)(s:List SO):bo:=⟨[.val<|.h 0,.val<|BD B,q,a,c,.un,.un,.un,.un,.un,.un,.un,.un,.un],s⟩
theorem Oz(O:nu B)(hn:(PS B).length<=1000):∃c,cR (λx τ=>(dm MB x τ).bind λτ=>cX (EV<|d+6) MM [.asg (.ix (fL 38) dq)<|.bi .dx [d6 522 [bK,dq]],.asg (.ix (fL 39) dq)<|.bi .dx [d6 536 [bK,dq]],.asg (.ix (fL 40) dq)<|.bi .dx [d6 543 [bK,dq]]] τ) ((PS B).map bg) (U3 B .un .un .un<|LS B [] [] [] [] [])=some (.next,U3 B (jh c) .un .un<|LS B [] [] (PS B) (PS B)<|PS B):=by
 let F:LV->LV->LV->List SO->bo:=U3 B;let P:=PS B;obtain⟨c,e⟩:=uJ (f:=λx τ=>(dm MB x τ).bind λτ=>cX (EV<|d+6) MM [.asg (.ix (fL 38) dq)<|.bi .dx [d6 522 [bK,dq]],.asg (.ix (fL 39) dq)<|.bi .dx [d6 536 [bK,dq]],.asg (.ix (fL 40) dq)<|.bi .dx [d6 543 [bK,dq]]] τ) (g:=bg)
  (F:=λi (q:Option SV)=>F (jh q) .un .un<|LS B [] [] (P.take i) (P.take i)<|P.take i) P none λi p hp q=>by
   have hm:p∈P:=aI hp;refine dS (lF.mp hm) λx hx hi=>?_;have hw:wP B p=wd x p.2:=by unfold wP;rw[hx];rfl
   have ht:P.take (i+1)=P.take i++[p]:=by rw[ij,hp];rfl
   have hnew:p∉P.take i:=λhmem=>by have nd:=qT B;rw[<-dt i<|PS B] at nd;refine(c9.mp nd).2.2 p hmem p ?_ rfl;have hj:=(af.mp hp).1;rw[eF hj];have:=(af.mp hp).2;exact aV.mpr<|.inl this.symm
   have hlen:(P.take i).length<=eA:=by rw[cm];show min i (PS B).length<=4000;exact aev hn
   rw[ht];let T:=P.take i;let T':=P.take i++[p];let S:List SO->bo:=λs=>F (.val<|bg p) .un .un s;refine⟨some<|bg p,aP (a:=S<|LS B [] [] T T T) (by cases q<;>rfl)<|aZ (τ:=S<|LS B [] [] T' T T) (uA (v:=fB<|WW<|wd x p.2) (x:=.h 1) (y:=bg p) (aq:=S<|LS B [] [] T T T) (aU:=S<|LS B [] [] T T T) (τ:=S<|LS B [] [] T T T) (uT (eT<|bY (aq:=S<|LS B [] [] T T T) (aU:=S<|LS B [] [] T T T) (vs:=[BD B,bg p]) rfl rfl<|ahs (d:=d+2) O hx hi)<|ahL _) rfl rfl ?_)
    (aZ (τ:=S<|LS B [] [] T' T' T) (uA (v:=fB<|Y6<|wd x p.2) (x:=.h 2) (y:=bg p) (aU:=S<|LS B [] [] T' T T) (τ:=S<|LS B [] [] T' T T) (uT (eT<|bY (aq:=S<|LS B [] [] T' T T) (aU:=S<|LS B [] [] T' T T) (vs:=[BD B,bg p]) rfl rfl<|ahq (d:=d+4) O hx hi)<|ahN _) rfl rfl ?_)
    (aZ (τ:=S<|LS B [] [] T' T' T') (uA (v:=fB<|NF<|wd x p.2) (x:=.h 3) (y:=bg p) (aU:=S<|LS B [] [] T' T' T) (τ:=S<|LS B [] [] T' T' T) (uT (eT<|bY (aU:=S<|LS B [] [] T' T' T) (vs:=[BD B,bg p]) rfl rfl<|ahp (d:=d+4) O hx hi)<|ahM _) rfl rfl ?_) rfl))⟩
   ·rw[<-hw];exact oS (k:=1) (f:=uV B) rfl hnew hlen
   ·rw[<-hw];exact oS (k:=2) (f:=dV B) rfl hnew hlen
   ·rw[<-hw];exact oS (k:=3) (f:=sV B) rfl hnew hlen
 have et:P.take P.length=PS B:=cY;rw[et] at e;exact⟨c,e⟩
theorem Tq(h:b8 [UF,DF]=true):(freeze fz (.h 0)<|LS B [41,42] [UF,DF] (PS B) (PS B)<|PS B).map (·.1)=some (.inst 588 [38,39,40,41,42] [.hH ((PS B).map bg)<|(PS B).map<|uV B,.hH ((PS B).map bg)<|(PS B).map<|dV B,.hH ((PS B).map bg)<|(PS B).map<|sV B,UF,DF]):=by
 have fk:∀f:Nat×Nat->SV,(∀p,(f p).free=true)->b8 ((PS B).map f)=true:=λf h=>eN h _;have e:∃s,b4 49 [.h 1,.h 2,.h 3,UF,DF] ((LS B [41,42] [UF,DF] (PS B) (PS B)<|PS B).set 0 .gone)=some ([.hH ((PS B).map bg)<|(PS B).map<|uV B,.hH ((PS B).map bg)<|(PS B).map<|dV B,.hH ((PS B).map bg)<|(PS B).map<|sV B,UF,DF],s):=
  ⟨_,gZ rfl (mT rfl (fk _ λz=>rfl)<|fk _ λz=>r9 _)<|gZ rfl (mT rfl (fk _ λz=>rfl)<|fk _ λz=>r9 _)<|gZ rfl (mT rfl (fk _ λz=>rfl)<|fk _ λz=>r9 _)<|rh h⟩
 obtain⟨s,e⟩:=e;show((b4 49 [.h 1,.h 2,.h 3,UF,DF]<|(LS B [41,42] [UF,DF] (PS B) (PS B)<|PS B).set 0 .gone).map _).map _=_;rw[e];rfl
theorem ahm(O:nu B)(h0:0<B.length)(hn:(PS B).length<=1000):EV (d+7) (gu 588) [BD B] st=some (Lw B,st):=by
 let F:LV->LV->LV->List SO->bo:=U3 B;obtain⟨c,e⟩:=Oz O hn;let L0:=LS B [] [] (PS B) (PS B)<|PS B;let UF:SV:=.hH ((KS B).map bg)<|(KS B).map λp=>fB<|FP B (Gu B) p;let DF:SV:=.hH ((KS B).map bg)<|(KS B).map λp=>fB<|FP B (Gd B) p;let L1:=LS B [41] [UF] (PS B) (PS B)<|PS B;let L2:=LS B [41,42] [UF,DF] (PS B) (PS B)<|PS B;let us:SV:=.lst<|(ak B.length).map λj=>fB<|Fb B (Gu B) j;let ds:SV:=.lst<|(ak B.length).map λj=>fB<|Fb B (Gd B) j;refine A1 (rfl) (rfl) Yu rfl rfl (aZ (τ:=F .un .un .un<|LS B [] [] [] [] []) (rfl)<|aZ (τ:=F (jh c) .un .un L0) (gy (eT<|bY rfl rfl<|UG O hn) rfl rfl e)
  (aZ (τ:=F (jh c) (.val us) .un L0) (bO (bY (aU:=F (jh c) .un .un L0) rfl (rfl)<|acR O h0 rfl (λd=>M3)<|B2 rfl) rfl)
  (aZ (τ:=F (jh c) (.val us) (.val ds) L0) (bO (bY (aU:=F (jh c) (.val us) .un L0) rfl (rfl)<|acR O h0 rfl (λd=>M4)<|B2 rfl) rfl)
  (aZ (bO (bY (aU:=F (jh c) (.val us) (.val ds) L0) rfl (rfl)<|acQ O hn rfl (λd=>M3)<|B2 rfl)<|rfl)
  (aZ (bO (bY (aU:=F (jh c) (.val us) (.val ds) L1) rfl (rfl)<|acQ O hn rfl (λd=>M4)<|B2 rfl)<|rfl) rfl)))))<|Tq rfl
theorem aho(hp:p∈PS B):EV (d+1) (gu 578) [Lw B,bg p] st=some (fB<|FP B (Gu B) p,st):=
 bR Yr rfl rfl rfl (hY<|ff<|bS rfl rfl<|pQ rfl<|GU.mpr hp) (by show(freeze fz (fB _) []).map _=_;rw[rg];rfl)
theorem ahn(hp:p∈PS B):EV (d+1) (gu 585) [Lw B,bg p] st=some (fB<|FP B (Gd B) p,st):=
 bR Yq rfl rfl rfl (hY<|ff<|bS rfl rfl<|pQ rfl<|GU.mpr hp) (by show(freeze fz (fB _) []).map _=_;rw[rg];rfl)
end
section
noncomputable def fq:List (List Nat):=[[],[0],[1],[2],[0,1],[0,2],[1,0],[1,2],[2,0],[2,1],[0,1,2],[0,2,1],[1,0,2],[1,2,0],[2,0,1],[2,1,0]]
noncomputable def afi(c:List Nat)(k:Nat):List Nat:=if c.contains k then c else c++[k]
noncomputable def VR:W->Option Nat
 |.d0=>some 0|.d1=>some 1|.d2=>some 2|_=>none
def Dc(c:List Nat)(z:Option W):List Nat:=match z.bind VR with
 |some k=>afi c k
 |none=>c
def plK(k:Nat):SV:=.tup [.int 1,.tup [.tup [tS "field",.int k]]]
def EY(c:List Nat):List SV:=.tup [.int 0,.tup []]::.tup [.int 1,.tup []]::c.map plK
noncomputable def DO(c:List Nat):List SV:=(ak<|c.length+2).map λi:Nat=>SV.int i
noncomputable def Gy(c:List Nat):List SV:=.int (-1)::.int (-1)::c.map λz=>.int 1
noncomputable def GV(c:List Nat):List (List SV):=[]::((ak c.length).map λi:Nat=>SV.int (2+i:Nat))::c.map λz=>[]
def MST(c:List Nat)(Bv Wv:SV):List SO:=
 [.inst 493 [14] [Bv],.inst 404 [14,15,16,17,18,19,20] [Bv,Wv,.h 2,.h 3,.h 4,.h 5,.h 6],.list<|EY c,.list<|Gy c,.list<|(ak<|c.length+2).map λi=>.h<|7+i,.dict (EY c)<|DO c,.dict [] []]++(GV c).map SO.list
def PV(c:List Nat)(Bv Wv:SV):SO:=.inst 404 [14,15,16,17,18,19,20] [Bv,Wv,.lst<|EY c,.lst<|Gy c,.lst<|(GV c).map SV.lst,.hH (EY c)<|DO c,.h 6]
theorem UB:∀c∈fq,∀z,Dc c z∈fq:=by
 intro c hc z;have h:fq.all (λc=>[none,some 0,some 1,some 2].all λz=>fq.contains (match z with|some k=>afi c k|none=>c))=true:=by decide+kernel
 have:=ba.mp (ba.mp h c hc) (z.bind VR) (by
  rcases z with _|w
  ·exact .head _
  ·cases w<;>first|exact .head _|exact .tail _ (.head _)|exact .tail _ (.tail _<|.head _)|exact .tail _<|.tail _<|.tail _<|.head _)
 exact gX.mp this
theorem YI:prog.fns 404=none:=by kernel_rfl
theorem YJ:prog.fns 338=some Hd:=by kernel_rfl
theorem Zd:prog.cls 404=some ⟨338,.some [16,17,18,19]⟩:=by kernel_rfl
theorem eU{l:List α}(h:l.map f=l.map g):∀x∈l,f x=g x:=by
 induction l with
 |nil=>intro x hx;exact absurd hx aK
 |cons a l ih=>
  rw[cS,cS,HR] at h;intro x hx;rcases aV.mp hx with e|e
  ·rw[e];exact h.1
  ·exact ih h.2 x e
noncomputable def pls:List W:=[.drop,.d0,.d1,.d2]
noncomputable def EL:S:=.ifs (.cmp .kN jZ .none) [.expr<|.bx b0 21 [.bx b0 23 [jZ]]] []
theorem UR(d:Nat)(L:SV)(xs:List SV)(was:List Nat)(wvs:List SV)(q1 q2 q3:LV):fq.map (λc=>pls.map λw=>kB (EV<|d+6) MM EL ⟨[.val<|.h 1,.val<|rD xs L,.val<|.inst 662 was wvs,q1,q2,q3,.val<|SM w,.un,.un,.un,.un,.un,.un],MST c (rD xs L)<|.inst 662 was wvs⟩)=
  fq.map λc=>pls.map λw=>some (.next,⟨[.val<|.h 1,.val<|rD xs L,.val<|.inst 662 was wvs,q1,q2,q3,.val<|SM w,.un,.un,.un,.un,.un,.un],MST (Dc c<|some w) (rD xs L)<|.inst 662 was wvs⟩):=by kernel_rfl
def MS0(c:List Nat)(Bv Wv:SV):List SO:=[.inst 493 [14] [Bv],PV c Bv Wv,.gone,.gone,.gone,.gone,.dict [] []]
theorem Ub(xs:List SV)(L:SV)(was:List Nat)(wvs:List SV):fq.map (λc=>(gK 1 [16,17,18,19]<|MST c (rD xs L)<|.inst 662 was wvs).bind λs=>ll (lX s).length s)=fq.map λc=>some (MS0 c (rD xs L)<|.inst 662 was wvs):=by kernel_rfl
def MF(c:List Nat)(Bv Wv:SV)(q3 q4 q5 q6:LV):bo:=⟨[.val<|.h 1,.val Bv,.val Wv,q3,q4,q5,q6,.un,.un,.un,.un,.un,.un],MST c Bv Wv⟩
theorem yh:∀{r:List S}{σ τ:bo},cX C M l σ=some (.next,τ)->cX C M (l++r) σ=cX C M r τ:=by
 induction l with
 |nil=>intro r σ τ h;rw[(gH<|aa h).2];rfl
 |cons s l ih=>
  intro r σ τ h;have h:(kB C M s σ).bind _=_:=h;show(kB C M s σ).bind _=_;cases e:kB C M s σ with
  |none=>rw[e] at h;cases h
  |some q=>
   rw[e] at h;obtain⟨f,sG⟩:=q;cases f with
   |next=>exact ih h
   |ret v=>cases h
variable{B:List d9}{d:Nat}{x:d9}{st:List SO}{was:List Nat}{wvs:List SV}{c:List Nat}
theorem zq(hc:c∈fq)(hw:w=.drop\/w=.d0\/w=.d1\/w=.d2):kB (EV<|d+6) MM EL (MF c (BD B) (.inst 662 was wvs) q1 q2 q3<|.val<|SM w)=some (.next,MF (Dc c<|some w) (BD B) (.inst 662 was wvs) q1 q2 q3<|.val<|SM w):=
 eU (eU (UR d (tN TY) (tZ B) was wvs q1 q2 q3) c hc) w (by unfold pls;rcases hw with rfl|rfl|rfl|rfl<;>simp)
theorem nq:kB (EV<|d+6) MM EL (MF c (BD B) (.inst 662 was wvs) q1 q2 q3<|.val .none)=some (.next,MF c (BD B) (.inst 662 was wvs) q1 q2 q3<|.val .none):=by kernel_rfl
theorem ZR(hc:c∈fq)(z:Option W):cR (λx τ=>(dm EW x τ).bind λτ=>cX (EV<|d+6) MM [EL] τ) [RL z,LQ z] (MF c (BD B) (.inst 662 was wvs) q1 q2 q3<|jh q)=some (.next,MF (Dc c z) (BD B) (.inst 662 was wvs) q1 q2 q3<|.val<|LQ z):=by
 have p1:∀{q:Option SV}{v:SV}{c:List Nat},dm EW v (MF c (BD B) (.inst 662 was wvs) q1 q2 q3<|jh q)=some (MF c (BD B) (.inst 662 was wvs) q1 q2 q3<|.val v):=λ{q v c}=>by cases q<;>rfl
 have key:∀(v u:SV) c',kB (EV<|d+6) MM EL (MF c (BD B) (.inst 662 was wvs) q1 q2 q3<|.val v)=some (.next,MF c (BD B) (.inst 662 was wvs) q1 q2 q3<|.val v)->kB (EV<|d+6) MM EL (MF c (BD B) (.inst 662 was wvs) q1 q2 q3<|.val u)=some (.next,MF c' (BD B) (.inst 662 was wvs) q1 q2 q3<|.val u)->
   cR (λx τ=>(dm EW x τ).bind λτ=>cX (EV<|d+6) MM [EL] τ) [v,u] (MF c (BD B) (.inst 662 was wvs) q1 q2 q3<|jh q)=some (.next,MF c' (BD B) (.inst 662 was wvs) q1 q2 q3<|.val u):=λv u c' h1 h2=>
  iQ (aP p1<|aZ h1 rfl) (iQ (aP (p1 (q:=some v))<|aZ h2 rfl) rfl)
 rcases z with _|w
 ·exact key _ _ _ nq nq
 ·cases w with
  |set=>exact key _ _ _ (zq hc (w:=.drop)<|.inl rfl) nq
  |use=>exact key _ _ _ nq nq
  |rest=>exact key _ _ _ nq nq
  |drop=>exact key _ _ _ nq<|zq hc<|.inl rfl
  |d0=>exact key _ _ _ nq<|zq hc<|.inr<|.inl rfl
  |d1=>exact key _ _ _ nq<|zq hc<|.inr<|.inr<|.inl rfl
  |d2=>exact key _ _ _ nq<|zq hc<|.inr<|.inr<|.inr rfl
theorem Xy(z:Option W):∃q':Option SV,cR (λx τ=>(dm VF x τ).bind λτ=>cX (EV<|d+6) MM [.ifs (iJ (cQ jf 0)<|.str<|sr 29) [.expr<|.bx b0 21 [.bx b0 23 [cQ jf 1]]] []] τ) (N7 z) (MF c (BD B) (.inst 662 was wvs) q1 q2 (jh q) q6)=some (.next,MF c (BD B) (.inst 662 was wvs) q1 q2 (jh q') q6):=by
 rcases z with _|w
 ·exact⟨q,rfl⟩
 ·cases w with
  |set=>exact⟨some csW,by cases q<;>kernel_rfl⟩
  |use=>exact⟨some cpW,by cases q<;>kernel_rfl⟩
  |_=>exact⟨q,rfl⟩
def zg(B:List d9)(i:Nat):List Nat:=((PS B).take i).foldl (λc p=>Dc c<|wP B p) []
def uZ(B:List d9):List Nat:=(PS B).foldl (λc p=>Dc c<|wP B p) []
theorem EB(i:Nat):zg B i∈fq:=by
 have:∀(l:List (Nat×Nat)) c,c∈fq->l.foldl (λc p=>Dc c<|wP B p) c∈fq:=λl=>by
  induction l with
  |nil=>intro c h;exact h
  |cons p l ih=>intro c h;exact ih _<|UB c h _
 exact this _ _ (ax ..)
theorem uY:uZ B∈fq:=by have:=EB (B:=B) (PS B).length;unfold zg at this;rwa[cY] at this
theorem Lj(h0:prog.fns a=none)(h1:prog.cls a=some ⟨i,.some as⟩)(hf:prog.fns i=some fn)(h:qg (EV d) MM fn (.h st.length::args) [] (st++[.inst a [] []])=some (.none,aC))
  (hz:(gK st.length as aC).bind (λs=>ll (lX s).length s)=some dJ):EV (d+1) (.raw<|.ref a) args st=some (.h st.length,dJ):=by
 show(match prog.fns a with|some fn=>_|none=>(prog.cls a).bind λc=>(prog.fns c.init).bind λfn=>pT (EV d) MM a c.N5 fn args st)=_
 rw[h0]
 refine aP h1<|aP hf ?_
 refine aP (aP h rfl) ?_
 cases e1:gK st.length as aC with
 |none=>rw[e1] at hz;cases hz
 |some s=>rw[e1] at hz;exact iB hz rfl
theorem ahB(O:nu B)(hn:(PS B).length<=1000):EV (d+7) (gu 404) [BD B,.inst 662 was wvs] [.inst 493 [14] [BD B]]=some (.h 1,MS0 (uZ B) (BD B)<|.inst 662 was wvs):=by
 let Wv:SV:=.inst 662 was wvs;obtain⟨⟨c4,c5,c6⟩,e⟩:=uJ (f:=λx τ=>(dm RF x τ).bind λτ=>cX (EV<|d+6) MM [.for VF .over [d6 228 [bK,fu]] [.ifs (iJ (cQ jf 0)<|.str<|sr 29) [.expr<|.bx b0 21 [.bx b0 23 [cQ jf 1]]] []],.for EW .over [.tup [d6 303 [bK,fu],d6 310 [bK,fu]]] [EL]] τ) (g:=bg)
  (F:=λi q=>MF (zg B i) (BD B) Wv (.val<|.int 1) (jh q.1) (jh q.2.1)<|jh q.2.2) (PS B) (none,none,none) λi p hp q=>by
   have hm:p∈PS B:=aI hp;refine dS (lF.mp hm) λx hx hi=>?_;have hw:wP B p=wd x p.2:=by unfold wP;rw[hx];rfl
   have ht:zg B (i+1)=Dc (zg B i) (wd x p.2):=by unfold zg;rw[ij,hp,Option.toList_some,jw,<-hw];rfl
   refine fT (Xy (d:=d) (B:=B) (c:=zg B i) (was:=was) (wvs:=wvs) (wd x p.2) (q1:=.val<|.int 1) (q2:=.val<|bg p) (q6:=jh q.2.2) (q:=q.2.1)) λq5 e5=>?_;let K:Option SV->Option SV->bo:=λa b=>MF (zg B i) (BD B) Wv (.val<|.int 1) (.val<|bg p) (jh a)<|jh b;refine⟨(some<|bg p,q5,some<|LQ<|wd x p.2),aP (a:=K q.2.1 q.2.2) (by obtain⟨a,b,c⟩:=q;cases a<;>rfl)<|aZ (gy (eT<|bY (aU:=K q.2.1 q.2.2) (vs:=[BD B,bg p]) rfl rfl<|Zg (d:=d+3) O hx hi) rfl rfl e5)<|aZ (gy (eT<|ro (bY (aq:=K q5 q.2.2) (aU:=K q5 q.2.2) (vs:=[BD B,bg p]) rfl rfl<|UE (d:=d+5) O hx hi)<|bY (aq:=K q5 q.2.2) (aU:=K q5 q.2.2) (vs:=[BD B,bg p]) rfl rfl<|UD (d:=d+5) O hx hi) rfl rfl<|ZR (EB i)<|wd x p.2) ?_⟩;rw[ht];rfl
 have et:zg B (PS B).length=uZ B:=by unfold zg uZ;rw[cY]
 rw[et] at e;have e0:zg B 0=[]:=rfl;rw[e0] at e;have pre:∀R,cX (EV<|d+6) MM (Hd.body.drop 8) (MF [] (BD B) Wv (.val<|.int 1) .un .un .un)=R->cX (EV<|d+6) MM Hd.body ⟨[.val<|.h 1,.val<|BD B,.val Wv,.un,.un,.un,.un,.un,.un,.un,.un,.un,.un],[.inst 493 [14] [BD B],.inst 404 [] []]⟩=R:=by
  intro R h;have h8:cX (EV<|d+6) MM (Hd.body.take 8) ⟨[.val<|.h 1,.val<|BD B,.val Wv,.un,.un,.un,.un,.un,.un,.un,.un,.un,.un],[.inst 493 [14] [BD B],.inst 404 [] []]⟩=some (.next,MF [] (BD B) Wv (.val<|.int 1) .un .un .un):=by kernel_rfl
  rw[<-dt 8 Hd.body,yh h8];exact h
 have Rx:qg (EV<|d+6) MM Hd [.h 1,BD B,Wv] [] [.inst 493 [14] [BD B],.inst 404 [] []]=some (.none,MST (uZ B) (BD B) Wv):=
  aP rfl (iB (pre _<|aZ (gy (eT<|bY rfl rfl<|UG (d:=d+3) O hn) rfl rfl e) rfl) rfl)
 exact Lj YI Zd YJ Rx<|eU (Ub (tZ B) (tN TY) was wvs) (uZ B) uY
end
section
noncomputable def Ah(c:List Nat)(n:Nat):List SV:=if n==1 then(ak<|c.length+1).map λi:Nat=>SV.int (1+i:Nat) else [.int n]
noncomputable def Hg(c:List Nat)(k:Nat):List SV:=if c.contains k then [.tup [.int (2+c.idxOf k:Nat),.int 3]] else []
def CW(c:List Nat):Option W->List SV
 |some .set=>[.tup [.int 1,.int 0]]
 |some .drop=>[.tup [.int 1,.int 3]]
 |some .d0=>Hg c 0|some .d1=>Hg c 1|some .d2=>Hg c 2
 |_=>[]
def MD(c:List Nat)(Bv Wv:SV)(lk lv dk dv:List SV):List SO:=[.inst 493 [14,28,29] [Bv,.h 1,.h 7],PV c Bv Wv,.gone,.gone,.gone,.gone,.dict lk lv,.dict dk dv]
def MDf(c:List Nat)(Bv Wv:SV)(lk lv dk dv:List SV)(p:SV)(q3 q4 q5 q6:LV)(l:List SV):bo:=⟨[.val<|.h 0,.val p,.val<|.h 8,q3,q4,q5,q6,.un,.un,.un,.un,.un,.un,.un,.un],MD c Bv Wv lk lv dk dv++[.list l]⟩
noncomputable def zs:List (Option W):=[none,some .set,some .use,some .rest,some .drop,some .d0,some .d1,some .d2]
theorem MA(z:Option W):z∈zs:=by
 rcases z with _|w
 ·exact ax ..
 ·cases w<;>simp[zs]
noncomputable def aaR:List S:=[.ifs (.and [.cmp .kN fu .none,.bx (fL 28) 26 [fu]]) [.expr<|.bx dq 0 [.tup [.bx (fL 28) 25 [fu],.int 3]]] [],.ifs (.cmp .kN jf .none) [.expr<|.bx dq 0 [.tup [.bx (fL 28) 25 [.tup [jf,.tup []]],.int 2]]] [],.ifs (.and [.cmp .kN jZ .none,.bx (fL 28) 26 [jZ]]) [.expr<|.bx dq 0 [.tup [.bx (fL 28) 25 [jZ],.int 0]]] []]
theorem Le(d:Nat)(L p:SV)(xs:List SV)(was:List Nat)(wvs lk lv dk dv:List SV)(q3:LV):fq.map (λc=>zs.map λz=>cX (EV<|d+4) MM aaR<|MDf c (rD xs L) (.inst 662 was wvs) lk lv dk dv p q3 (.val<|LQ z) (.val .none) (.val<|RL z) [])=
  fq.map λc=>zs.map λz=>some (.next,MDf c (rD xs L) (.inst 662 was wvs) lk lv dk dv p q3 (.val<|LQ z) (.val .none) (.val<|RL z)<|CW c z):=by kernel_rfl
theorem YD:prog.fns 448=some ab7:=by kernel_rfl
theorem YH:prog.fns 422=some aca:=by kernel_rfl
theorem abq:MM 493 34=some 448:=by kernel_rfl
variable{B:List d9}{d:Nat}{x:d9}{st:List SO}{was:List Nat}{wvs:List SV}{c:List Nat}{lk lv dk dv:List SV}
theorem Uo(c:List Nat)(z:Option W):b8 (CW c z)=true:=by
 have k:∀k,b8 (Hg c k)=true:=λk=>by unfold Hg;cases c.contains k<;>rfl
 rcases z with _|w
 ·rfl
 ·cases w<;>first|rfl|exact k _
theorem XG(h1:SV.lows 8 lv=true)(h2:SV.lows 8 dv=true):(MD c (BD B) (.inst 662 was wvs) lk lv dk dv).all (SO.low (MD c (BD B) (.inst 662 was wvs) lk lv dk dv).length)=true:=by show(true&&(true&&(true&&(true&&(true&&(true&&(SV.lows 8 lv&&(SV.lows 8 dv&&true))))))))=true;rw[h1,h2];rfl
theorem ahx(O:nu B)(hc:c∈fq)(hp:p∈PS B)(h1:SV.lows 8 lv=true)(h2:SV.lows 8 dv=true):
  EV (d+5) (gu 448) [.h 0,bg p] (MD c (BD B) (.inst 662 was wvs) lk lv dk dv)=some (.lst<|CW c<|wP B p,MD c (BD B) (.inst 662 was wvs) lk lv dk dv):=by
 refine dS (lF.mp hp) λx hx hi=>?_
 have hw:wP B p=wd x p.2:=by unfold wP;rw[hx];rfl
 rw[hw]
 generalize hz:wd x p.2=z
 have a1:∀st,EV (d+4) (gu 228) [BD B,bg p] st=some (.lst<|N7 z,st):=λst=>hz▸Zg O hx hi
 have a2:∀st,EV (d+4) (gu 310) [BD B,bg p] st=some (LQ z,st):=λst=>hz▸UD O hx hi
 have a3:∀st,EV (d+4) (gu 317) [BD B,bg p] st=some (.none,st):=λst=>acO O hx hi
 have a4:∀st,EV (d+4) (gu 303) [BD B,bg p] st=some (RL z,st):=λst=>hz▸UE O hx hi
 let F:LV->LV->LV->LV->List SV->bo:=λq3 q4 q5 q6 l=>MDf c (BD B) (.inst 662 was wvs) lk lv dk dv (bg p) q3 q4 q5 q6 l
 have e1:∃q3,cR (λx τ=>(dm EX x τ).bind λτ=>cX (EV<|d+4) MM [.ifs (.and [iJ (cQ dR 0)<|.str<|sr 29,.bx (fL 28) 26 [cQ dR 1]]) [.expr<|.bx dq 0 [.tup [.bx (fL 28) 25 [cQ dR 1],.int 1]]] []] τ) (N7 z) (F .un .un .un .un [])=some (.next,F q3 .un .un .un []):=by
  rcases z with _|w
  ·exact⟨.un,rfl⟩
  ·cases w with
   |set=>exact⟨.val csW,by kernel_rfl⟩
   |use=>exact⟨.val cpW,by kernel_rfl⟩
   |_=>exact⟨.un,rfl⟩
 obtain⟨q3,e1⟩:=e1
 have e2:=eU (eU (Le d (tN TY) (bg p) (tZ B) was wvs lk lv dk dv q3) c hc) z<|MA z
 refine hK YD<|iO (fl:=.ret<|.h 8) (lo:=(F q3 (.val<|LQ z) (.val .none) (.val<|RL z)<|CW c z).loc) (nR:=(F q3 (.val<|LQ z) (.val .none) (.val<|RL z)<|CW c z).st) rfl rfl rfl (aZ (rfl)<|aZ (gy (eT<|bY (aU:=F .un .un .un .un []) (vs:=[BD B,bg p]) rfl rfl<|a1 _) rfl rfl e1)
  (aZ (bO (ro (bY (aU:=F q3 .un .un .un []) (vs:=[BD B,bg p]) rfl rfl<|a2 _)<|bY (aU:=F q3 .un .un .un []) (vs:=[BD B,bg p]) rfl rfl<|a3 _)<|rfl)
  (aZ (τ:=F q3 (.val<|LQ z) (.val .none) (.val<|RL z) []) (bO (bY (aU:=F q3 (.val<|LQ z) (.val .none) .un []) (vs:=[BD B,bg p]) rfl rfl<|a4 _)<|rfl) ?_))) (rj rfl<|Uo c z)<|n3<|XG h1 h2
 ·exact(yh e2).trans<|hY<|ff rfl
end
noncomputable def VK:Nat->List (List Nat)
 |0=>[[]]
 |n+1=>(VK n).flatMap λv=>[0,1].map λs=>s::v
def m9(m:Nat):List (List Nat):=br (m+1) 2::VK (m+1)
noncomputable def fQ(v:List Nat):SV:=.dx<|2::v.zipIdx.map λp=>(3*(p.2+1)+p.1:Nat)
noncomputable def Lm(m n:Nat):List SV:=if n==1 then(ak<|m+1).map λi:Nat=>SV.int (1+i:Nat) else [.int n]
noncomputable def WX(n s:Nat)(v:List Nat):List Nat:=v.zipIdx.map λp=>if n==1||n==p.2+1 then(if s==3 then(if p.1==0 then 1 else p.1) else s) else p.1
noncomputable def Oc(m:Nat):List (Nat×Nat):=(1,0)::(ak<|m+1).map λi=>(i+1,3)
theorem RT:∀m∈[0,1,2,3],∀v∈m9 m,∀x∈Oc m,WX x.1 x.2 v∈m9 m:=by decide+kernel
def Dh:List S:=K1.body.drop 1
noncomputable def u3(st:List SO)(k n:Nat)(bl:LV)(v:SV)(s:Nat)(a b:LV):bo:=⟨[.val<|.h 0,.cell k,.val<|.int n,.cell<|k+1,bl,a,b,.un,.un],st++[.cell<|some v,.cell<|some<|.int s]⟩
def Hz(d:Nat)(st:List SO)(k n:Nat)(bl:List SV)(v:SV)(s:Nat):Option (FL×List SO):=(cX (EV d) MM Dh<|u3 st k n (.val<|.lst bl) v s .un .un).map λq=>(q.1,q.2.st)
theorem aaW(d:Nat)(o0 o1 o2 o3 o4 o5 o6 o7:SO):[0,1,2,3].map (λm=>(m9 m).map λv=>(Oc m).map λx=>Hz d [o0,o1,o2,o3,o4,o5,o6,o7] 8 x.1 (Lm m x.1) (fQ v) x.2)=
  [0,1,2,3].map λm=>(m9 m).map λv=>(Oc m).map λx=>some (.ret<|fQ<|WX x.1 x.2 v,(u3 [o0,o1,o2,o3,o4,o5,o6,o7] 8 x.1 .un (fQ v) x.2 .un .un).st):=by kernel_rfl
theorem aaV(d:Nat)(o0 o1 o2 o3 o4 o5 o6 o7 o8:SO):[0,1,2,3].map (λm=>(m9 m).map λv=>(Oc m).map λx=>Hz d [o0,o1,o2,o3,o4,o5,o6,o7,o8] 9 x.1 (Lm m x.1) (fQ v) x.2)=
  [0,1,2,3].map λm=>(m9 m).map λv=>(Oc m).map λx=>some (.ret<|fQ<|WX x.1 x.2 v,(u3 [o0,o1,o2,o3,o4,o5,o6,o7,o8] 9 x.1 .un (fQ v) x.2 .un .un).st):=by kernel_rfl
theorem aaU(d:Nat)(o0 o1 o2 o3 o4 o5 o6 o7 o8 o9:SO):[0,1,2,3].map (λm=>(m9 m).map λv=>(Oc m).map λx=>Hz d [o0,o1,o2,o3,o4,o5,o6,o7,o8,o9] 10 x.1 (Lm m x.1) (fQ v) x.2)=
  [0,1,2,3].map λm=>(m9 m).map λv=>(Oc m).map λx=>some (.ret<|fQ<|WX x.1 x.2 v,(u3 [o0,o1,o2,o3,o4,o5,o6,o7,o8,o9] 10 x.1 .un (fQ v) x.2 .un .un).st):=by kernel_rfl
theorem W9(d:Nat)(o0 o1 o2 o3 o4 o5 o6 o7:SO):Hz d [o0,o1,o2,o3,o4,o5,o6,o7] 8 0 [.int 0] (.dx []) 2=some (.ret<|.dx [2],(u3 [o0,o1,o2,o3,o4,o5,o6,o7] 8 0 .un (.dx []) 2 .un .un).st):=by kernel_rfl
theorem W8(d:Nat)(o0 o1 o2 o3 o4 o5 o6 o7:SO):[0,1,2,3].map (λm=>Hz d [o0,o1,o2,o3,o4,o5,o6,o7] 8 1 (Lm m 1) (.dx [2]) 2)=[0,1,2,3].map λm=>some (.ret<|fQ<|br (m+1) 2,(u3 [o0,o1,o2,o3,o4,o5,o6,o7] 8 1 .un (.dx [2]) 2 .un .un).st):=by kernel_rfl
theorem lW(n:Nat)(l:List Nat):cW (.int n) (l.map λi:Nat=>SV.int i)=some (l.findIdx? λi=>i==n):=by
 show((fR (l.map λi:Nat=>SV.int i)).bind λds=>gd (true&&ds.all (λx=>fD x&&gY x==0)&&true)<|ds.findIdx? λx=>bp x<|.int n)=_;rw[th];show gd (true&&(l.map λi:Nat=>lL i).all (λx=>fD x&&gY x==0)&&true) _=_;rw[kO]
 ·rw[jx];congr 2;funext i;show((i:Int)==n)=(i==n);rw[je,beq_iff_eq,beq_iff_eq];exact pn
 ·rw[mo,pd,List.all_map];exact ba.mpr λz z=>rfl
theorem X7{l:List Nat}{n:Nat}(h:n∈l):∃j,l.findIdx? (λi=>i==n)=some j/\l[j]? =some n:=by
 cases e:l.findIdx? (λi=>i==n) with
 |none=>rw[bU] at e;have:=e n h;simp at this
 |some j=>obtain⟨hj,h1,_⟩:=bA.mp e;exact⟨j,rfl,by rw[ay hj,beq_iff_eq.mp h1]⟩
theorem IQ{l:List Nat}{n:Nat}(h:n∉l):l.findIdx? (λi=>i==n)=none:=by
 rw[bU];intro q hq;cases e:q==n with
 |false=>rfl
 |true=>exact absurd (beq_iff_eq.mp e▸hq) h
section
variable{st:List SO}{D:SV}{l:List Nat}{f:Nat->SV}{n:Nat}
theorem Cx(hD:jk st D=some (l.map (λi:Nat=>SV.int i),l.map f)):jB st .kL (.int n) D=some (!(decide<|n∈l)):=by
 show(GY st (.int n) D).map (!·)=_;refine iB (a:=decide<|n∈l) ?_ rfl;have:GY st (.int n) D=(cW (.int n) (l.map λi:Nat=>SV.int i)).map (·.isSome):=by
  have hF:wX D=false:=by cases D<;>first|rfl|(cases hD;done)
  unfold GY;rw[hF];show(match jk st D with|some p=>_|none=>_)=_;rw[hD]
 rw[this,lW];show some _=_;congr 1;by_cases h:n∈l
 ·refine dS (X7 h) λj h1 z=>?_;rw[h1,decide_eq_true h];rfl
 ·rw[IQ h,decide_eq_false h];rfl
theorem Cw(hD:jk st D=some (l.map (λi:Nat=>SV.int i),l.map f))(h:n∈l):gi st D (.int n)=some (f n):=by refine dS (X7 h) λj h1 h2=>?_;exact MY hD ((lW n l).trans<|congrArg some h1) (by rw[ai,h2];rfl)
theorem zc{lo:List LV}(hk:st[k]? =some (.dict (l.map λi:Nat=>SV.int i)<|l.map f))(hp:n∉l)(hl:l.length<=eA):pz (.h k) (.int n) (f n) ⟨lo,st⟩=some ⟨lo,st.set k<|.dict ((l++[n]).map λi:Nat=>SV.int i)<|(l++[n]).map f⟩:=by show(match st[k]?.bind gE with|some xs=>_|none=>_)=_;rw[hk];show(gd (true&&decide ((l.map λi:Nat=>SV.int i).length<=eA)) ()).bind _=_;rw[kO (by rw[ag,decide_eq_true hl];rfl)];show(cW (.int n) (l.map λi:Nat=>SV.int i)).map _=_;rw[lW,IQ hp,bf,bf];rfl
end
section
set_option tactic.hygienic true in
theorem BY(k:Nat):∀(l:List Nat),l.Nodup->(∀n∈l,n<k)->l.length<=k:=by
 induction k with
 |zero=>
  intro l _ h;cases l with
  |nil=>exact aG _
  |cons a l=>exact absurd (h a (ax ..))<|gF _
 |succ k ih=>
  intro l hn h;have h1:=ih (l.filter λn=>n != k) (hn.sublist List.filter_sublist) λn hm=>by obtain⟨a,b⟩:=mR.mp hm;exact i8 (aT<|h n a)<|bne_iff_ne.mp b
  have h2:=List.length_eq_countP_add_countP (λn=>n != k) (l:=l);rw[List.countP_eq_length_filter] at h2;have h3:l.countP (λn=>decide ¬((n != k)=true))<=1:=by
   refine ah (eD ?_)<|List.nodup_iff_count.mp hn k;refine List.countP_congr λn z=>?_;by_cases q:n=k
   ·subst q;simp
   ·simp[q]
  exact ah6 h1 h2 h3
def xU(e:List SO):Prop:=e=[]\/(∃a,e=[a])\/∃a b,e=[a,b]
noncomputable def fnd(c:List Nat)(n:Nat):List SV:=if n==1 then .int 1::((ak c.length).reverse.map λi:Nat=>SV.int (2+i:Nat)) else [.int n]
noncomputable def VI:List S:=[.asg (.tp [.nm 2,.nm 3])<|.tup [.list true [],.list true [bK]],.wg (.cmp .ne dR<|.list false []) [fj 4<|.bx dR 2 [],.expr<|.bx dq 0 [.rl 4],.expr<|.bx dR 1 [.sub (fL 18) fu]]]
noncomputable def U4(st:List SO)(n:Nat)(a b c:LV):bo:=⟨[.val<|.h 1,.val<|.int n,a,b,c,.un],st⟩
noncomputable def abw(c:List Nat)(n:Nat):Nat:=if n==1&&!c.isEmpty then 2 else n
def UY(k:Nat)(st:List SO)(c:List Nat)(n:Nat):bo:=U4 (st++[.list<|fnd c n,.list []]) n (.val<|.h k) (.val<|.h<|k+1)<|.val<|.int<|abw c n
def WH(d k:Nat)(st:List SO)(c:List Nat)(n:Nat):Option (FL×bo)×Option (SV×bo):=(cX (EV d) MM VI<|U4 st n .un .un .un,zj .sorted [.h k]<|UY k st c n)
def WR(k:Nat)(st:List SO)(c:List Nat)(n:Nat):Option (FL×bo)×Option (SV×bo):=(some (.next,UY k st c n),some (.lst<|Ah c n,UY k st c n))
theorem wh2(d:Nat)(L:SV)(xs:List SV)(was:List Nat)(wvs lk lv dk dv:List SV)(a b:SO):fq.map (λc=>(ak<|c.length+2).map λn=>WH d 10 (MD c (rD xs L) (.inst 662 was wvs) lk lv dk dv++[a,b]) c n)=fq.map λc=>(ak<|c.length+2).map λn=>WR 10 (MD c (rD xs L) (.inst 662 was wvs) lk lv dk dv++[a,b]) c n:=by kernel_rfl
theorem wh3(d:Nat)(L:SV)(xs:List SV)(was:List Nat)(wvs lk lv dk dv:List SV)(a b e:SO):fq.map (λc=>(ak<|c.length+2).map λn=>WH d 11 (MD c (rD xs L) (.inst 662 was wvs) lk lv dk dv++[a,b,e]) c n)=fq.map λc=>(ak<|c.length+2).map λn=>WR 11 (MD c (rD xs L) (.inst 662 was wvs) lk lv dk dv++[a,b,e]) c n:=by kernel_rfl
theorem wh4(d:Nat)(L:SV)(xs:List SV)(was:List Nat)(wvs lk lv dk dv:List SV)(a b e f:SO):fq.map (λc=>(ak<|c.length+2).map λn=>WH d 12 (MD c (rD xs L) (.inst 662 was wvs) lk lv dk dv++[a,b,e,f]) c n)=fq.map λc=>(ak<|c.length+2).map λn=>WR 12 (MD c (rD xs L) (.inst 662 was wvs) lk lv dk dv++[a,b,e,f]) c n:=by kernel_rfl
theorem G8:prog.fns 401=some acb:=by kernel_rfl
theorem VW:MM 404 27=some 401:=by kernel_rfl
variable{B:List d9}{d:Nat}{x:d9}{st:List SO}{was:List Nat}{wvs:List SV}{c:List Nat}{dk dv:List SV}
def ML(c:List Nat)(B:List d9)(Wv:SV)(Lk:List Nat)(dk dv:List SV):List SO:=MD c (BD B) Wv (Lk.map λi:Nat=>SV.int i) (Lk.map λn=>.lst<|Ah c n) dk dv
theorem aaN(he:xU e)(hc:c∈fq)(hn:n<c.length+2):WH d ((ML c B (.inst 662 was wvs) Lk dk dv++(e++[a,b])).length) (ML c B (.inst 662 was wvs) Lk dk dv++(e++[a,b])) c n=WR ((ML c B (.inst 662 was wvs) Lk dk dv++(e++[a,b])).length) (ML c B (.inst 662 was wvs) Lk dk dv++(e++[a,b])) c n:=by
 rcases he with rfl|⟨a1,rfl⟩|⟨a1,a2,rfl⟩
 ·exact eU (eU (wh2 d (tN TY) (tZ B) was wvs _ _ dk dv a b) c hc) n<|cf.mpr hn
 ·exact eU (eU (wh3 d (tN TY) (tZ B) was wvs _ _ dk dv a1 a b) c hc) n<|cf.mpr hn
 ·exact eU (eU (wh4 d (tN TY) (tZ B) was wvs _ _ dk dv a1 a2 a b) c hc) n<|cf.mpr hn
structure w0(c:List Nat)(Lk:List Nat):Prop where
 nd:Lk.Nodup
 low:∀n∈Lk,n<c.length+2
theorem Jb:∀c∈fq,c.length<=3:=by decide+kernel
noncomputable def rq(Lk:List Nat)(n:Nat):List Nat:=if n∈Lk then Lk else Lk++[n]
theorem w0.add(h:w0 c Lk)(hn:n<c.length+2):w0 c (rq Lk n):=by
 unfold rq;by_cases q:n∈Lk
 ·rw[if_pos q];exact h
 ·rw[if_neg q];refine⟨c9.mpr ⟨h.nd,by simp,λa ha b hb e=>?_⟩,λm hm=>?_⟩
  ·rw[aE.mp hb] at e;exact q<|e▸ha
  ·rcases ct.mp hm with hm|hm
   ·exact h.low m hm
   ·rw[aE.mp hm];exact hn
theorem ahC(he:xU e)(hc:c∈fq)(hn:n<c.length+2)(hL:w0 c Lk)
  (hlow:∀Lk,(ML c B (.inst 662 was wvs) Lk dk dv++(e++[a,b])).all (SO.low (ML c B (.inst 662 was wvs) Lk dk dv++(e++[a,b])).length)=true):
  EV (d+1) (gu 401) [.h 1,.int n] (ML c B (.inst 662 was wvs) Lk dk dv++(e++[a,b]))=some (.lst<|Ah c n,ML c B (.inst 662 was wvs) (rq Lk n) dk dv++(e++[a,b])):=by
 let Wv:SV:=.inst 662 was wvs
 let x:=e++[a,b]
 have hll:=ah (BY _ Lk hL.nd hL.low) (by have:=Jb c hc;show _<=4000;exact ah5 this)
 by_cases q:n∈Lk
 ·have e1:rq Lk n=Lk:=by unfold rq;rw[if_pos q]
  rw[e1];let F:=U4 (ML c B Wv Lk dk dv++x) n .un .un .un;have c1:jB (ML c B Wv Lk dk dv++x) .kL (.int n) (.h 6)=some false:=(Cx rfl).trans (by rw[decide_eq_true q];rfl);exact hK G8<|iO (lo:=F.loc) (nR:=F.st) rfl rfl rfl (aZ (xg (d7 (aU:=F) rfl rfl c1) rfl)<|hY<|ff<|bS (aq:=F) (aU:=F) rfl rfl<|Cw (f:=λn=>.lst<|Ah c n) rfl q) rfl<|jA rfl
 ·have e1:rq Lk n=Lk++[n]:=by unfold rq;rw[if_neg q]
  rw[e1];let F:=U4 (ML c B Wv Lk dk dv++x) n .un .un .un;have c1:jB (ML c B Wv Lk dk dv++x) .kL (.int n) (.h 6)=some true:=(Cx rfl).trans (by rw[decide_eq_false q];rfl);have w:=aaN (d:=d) (B:=B) (was:=was) (wvs:=wvs) (dk:=dk) (dv:=dv) he (a:=a) (b:=b) hc hn (Lk:=Lk);let k:=(ML c B Wv Lk dk dv++x).length;have w1:=congrArg kf w;have w2:=congrArg sJ w;let G:=UY k (ML c B Wv Lk dk dv++x) c n;let G':bo:={G with st:=(ML c B Wv (Lk++[n]) dk dv++x)++[.list<|fnd c n,.list []]};have e2:pz (.h 6) (.int n) (.lst<|Ah c n) G=some G':=by refine(zc (f:=λn=>.lst<|Ah c n) rfl q hll).trans ?_;rfl
  have e3:gi G'.st (.h 6) (.int n)=some (.lst<|Ah c n):=Cw (f:=λn=>.lst<|Ah c n) rfl<|jt _<|aE.mpr rfl;have e4:kB (EV d) MM (.asg (.ix (fL 20) bK)<|.bi .sorted [dq]) G=some (.next,G'):=uA (aq:=G) (aU:=G) (uT (eT rfl) w2) rfl rfl e2;have e5:cX (EV d) MM (VI++[.asg (.ix (fL 20) bK)<|.bi .sorted [dq]]) F=some (.next,G'):=(yh w1).trans<|aZ e4 rfl;have cut:ll (ML c B Wv Lk dk dv++x).length G'.st=some (ML c B Wv (Lk++[n]) dk dv++x):=by have hl:(ML c B Wv Lk dk dv++x).length=(ML c B Wv (Lk++[n]) dk dv++x).length:=rfl;rw[hl];exact n3<|hlow<|Lk++[n]
  exact hK G8<|iO rfl rfl rfl (aZ (CV (d7 (aU:=F) rfl rfl c1) e5)<|hY<|ff<|bS (aq:=G') rfl rfl e3) rfl cut
end
section
theorem YF:prog.fns 434=some K1:=by kernel_rfl
theorem VV:MM 493 32=some 434:=by kernel_rfl
variable{B:List d9}{d:Nat}{x:d9}{st:List SO}{was:List Nat}{wvs:List SV}{c:List Nat}{dk dv:List SV}
theorem Nv(he:xU e):e.length=0\/e.length=1\/e.length=2:=by
 rcases he with rfl|⟨_,rfl⟩|⟨_,_,rfl⟩
 ·exact .inl rfl
 ·exact .inr<|.inl rfl
 ·exact .inr<|.inr rfl
theorem xh{e:List SO}(hl:e.length<=4)(h2:∀k,SV.lows k dv=true)(he:∀k,e.all (SO.low k)=true):(ML c B (.inst 662 was wvs) Lk dk dv++e).all (SO.low (ML c B (.inst 662 was wvs) Lk dk dv++e).length)=true:=by
 have hl':(ML c B (.inst 662 was wvs) Lk dk dv++e).length=8+e.length:=by rw[aj];rfl
 rw[hl',qF,he,mo];generalize e.length=n at *;show(SV.lows (8+n) [BD B,.h 1,.h 7]&&(SV.lows (8+n) [BD B,.inst 662 was wvs,.lst<|EY c,.lst<|Gy c,.lst<|(GV c).map SV.lst,.hH (EY c)<|DO c,.h 6]&&(true&&(true&&(true&&(true&&(SV.lows (8+n) (Lk.map λn=>.lst<|Ah c n)&&(SV.lows (8+n) dv&&true))))))))=true;rw[h2,j3 (λz=>rfl) _];have a:∀k,oZ k (8+n)=decide (k<8+n):=λk=>by rw[je,Bi,decide_eq_true_eq]
 show((true&&(oZ 1 (8+n)&&(oZ 7 (8+n)&&true)))&&((true&&(true&&(true&&(true&&(true&&(true&&(oZ 6 (8+n)&&true)))))))&&(true&&(true&&(true&&(true&&(true&&(true&&true))))))))=true;rw[a,a,a,decide_eq_true<|a9 (by decide)<|bc 8 n,decide_eq_true<|a9 (by decide)<|bc 8 n,decide_eq_true<|a9 (by decide)<|bc 8 n];rfl
theorem XP(st:List SO)(v:SV)(n s:Nat):(⟨(cM K1.kinds [.h 0,v,.int n,.int s] [] st).1,(cM K1.kinds [.h 0,v,.int n,.int s] [] st).2⟩:bo)=u3 st st.length n .un v s .un .un:=by show bo.mk [.val<|.h 0,.cell st.length,.val<|.int n,.cell (st++[SO.cell<|some v]).length,.un,.un,.un,.un,.un] ((st++[SO.cell<|some v])++[SO.cell<|some<|.int s])=_;rw[aj,aO];rfl
theorem RZ{st:List SO}(h:Hz d st k n bl v s=some (.ret v',(u3 st k n bl' v s .un .un).st)):∃lo,cX (EV d) MM Dh (u3 st k n (.val<|.lst bl) v s .un .un)=some (.ret v',⟨lo,st++[.cell<|some v,.cell<|some<|.int s]⟩):=by
 have h:(cX (EV d) MM Dh<|u3 st k n (.val<|.lst bl) v s .un .un).map (λq=>(q.1,q.2.st))=_:=h;cases e:cX (EV d) MM Dh (u3 st k n (.val<|.lst bl) v s .un .un) with
 |none=>rw[e] at h;cases h
 |some q=>rw[e] at h;obtain⟨f,lo,s'⟩:=q;have h:=gH<|aa h;have h1:f=.ret v':=h.1;have h3:s'=st++[.cell<|some v,.cell<|some<|.int s]:=h.2;exact⟨lo,by rw[h1,h3]⟩
theorem Qg(he:xU e)(hc:c∈fq)(hn:n<c.length+2)(hL:w0 c Lk)(h2:∀k,SV.lows k dv=true)(hE:∀k,e.all (SO.low k)=true)
  (ht:∀Lk,Hz (d+1) (ML c B (.inst 662 was wvs) Lk dk dv++e) (ML c B (.inst 662 was wvs) Lk dk dv++e).length n (Ah c n) (.dx u) s=some (.ret<|.dx u',(u3 (ML c B (.inst 662 was wvs) Lk dk dv++e) (ML c B (.inst 662 was wvs) Lk dk dv++e).length n .un (.dx u) s .un .un).st)):
  EV (d+2) (gu 434) [.h 0,.dx u,.int n,.int s] (ML c B (.inst 662 was wvs) Lk dk dv++e)=some (.dx u',ML c B (.inst 662 was wvs) (rq Lk n) dk dv++e):=by
 have h3:=Nv he
 have hlow:∀Lk,(ML c B (.inst 662 was wvs) Lk dk dv++(e++[SO.cell<|some<|.dx u,.cell<|some<|.int s])).all (SO.low (ML c B (.inst 662 was wvs) Lk dk dv++(e++[SO.cell<|some<|.dx u,.cell<|some<|.int s])).length)=true:=λLk=>
  xh (by rw[aj];show _+2<=4;exact ah4 h3) h2 λk=>by rw[qF,hE];rfl
 have q1:=ahC (d:=d) he hc hn hL hlow
 obtain⟨lo,q2⟩:=RZ<|ht<|rq Lk n
 let F:=u3 (ML c B (.inst 662 was wvs) Lk dk dv++e) (ML c B (.inst 662 was wvs) Lk dk dv++e).length n .un (.dx u) s .un .un
 let G:=u3 (ML c B (.inst 662 was wvs) (rq Lk n) dk dv++e) (ML c B (.inst 662 was wvs) (rq Lk n) dk dv++e).length n (.val<|.lst<|Ah c n) (.dx u) s .un .un
 have s1:kB (EV<|d+1) MM (fj 4<|.bx (fL 28) 27 [dq]) F=some (.next,G):=
  bO (ja (aq:=F) (aU:=F) (vs:=[.int n]) rfl rfl rfl VW rfl q1) rfl
 refine hK YF<|iO rfl rfl rfl ((congrArg (cX (EV<|d+1) MM K1.body)<|XP _ _ _ _).trans<|aZ (r:=Dh) s1 q2) rfl ?_
 have hl:(ML c B (.inst 662 was wvs) Lk dk dv++e).length=(ML c B (.inst 662 was wvs) (rq Lk n) dk dv++e).length:=rfl
 rw[hl]
 exact n3<|xh (ah3 h3) h2 hE
theorem wA(hc:c∈fq):c.length∈[0,1,2,3]:=by have:=Jb c hc;generalize c.length=n at this;exact(cf (n:=4)).mpr<|eQ this
theorem Ob:∀m∈[0,1,2,3],∀x∈Oc m,x.1<m+2:=by decide+kernel
theorem ahz(he:xU e)(hc:c∈fq)(hv:v∈m9 c.length){x:Nat×Nat}(hx:x∈Oc c.length)(hL:w0 c Lk)(h2:∀k,SV.lows k dv=true)(hE:∀k,e.all (SO.low k)=true):
  EV (d+2) (gu 434) [.h 0,fQ v,.int x.1,.int x.2] (ML c B (.inst 662 was wvs) Lk dk dv++e)=some (fQ<|WX x.1 x.2 v,ML c B (.inst 662 was wvs) (rq Lk x.1) dk dv++e):=by
 refine Qg he hc (Ob _ (wA hc) x hx) hL h2 hE λLk=>?_
 rcases he with rfl|⟨a,rfl⟩|⟨a,b,rfl⟩
 ·exact eU (eU (eU (aaW (d+1) _ _ _ _ _ _ _ _) c.length<|wA hc) v hv) x hx
 ·exact eU (eU (eU (aaV (d+1) _ _ _ _ _ _ _ _ a) c.length<|wA hc) v hv) x hx
 ·exact eU (eU (eU (aaU (d+1) _ _ _ _ _ _ _ _ a b) c.length<|wA hc) v hv) x hx
end
section
theorem Iu(d:Nat)(L:SV)(xs:List SV)(was:List Nat)(wvs lk lv dk dv:List SV):fq.map (λc=>[0,1].map λi:Nat=>EV (d+4) (gu 373) [.h 1,.tup [.int i,.tup []]]<|MD c (rD xs L) (.inst 662 was wvs) lk lv dk dv)=fq.map λc=>[0,1].map λi:Nat=>some (.int i,MD c (rD xs L) (.inst 662 was wvs) lk lv dk dv):=by kernel_rfl
theorem YG:prog.fns 429=some ab9:=by kernel_rfl
theorem YE:prog.fns 441=some ab8:=by kernel_rfl
theorem YC:prog.fns 455=some ab6:=by kernel_rfl
theorem VX:MM 404 25=some 373:=by kernel_rfl
theorem abr:MM 493 33=some 441:=by kernel_rfl
theorem abt:MM 493 31=some 429:=by kernel_rfl
variable{B:List d9}{d:Nat}{x:d9}{st:List SO}{was:List Nat}{wvs:List SV}{c:List Nat}{dk dv:List SV}
noncomputable def v0(c:List Nat):List Nat:=br (c.length+1) 2
theorem FO:v0 c∈m9 c.length:=ax ..
theorem V0:w0 c []:=⟨gq,λz h=>absurd h aK⟩
theorem VZ:w0 c [0]:=w0.add V0<|aeo
theorem abu:w0 c [0,1]:=w0.add VZ<|aem
theorem ahA(hc:c∈fq)(h2:∀k,SV.lows k dv=true):EV (d+5) (gu 429) [.h 0] (ML c B (.inst 662 was wvs) [] dk dv)=some (fQ<|v0 c,ML c B (.inst 662 was wvs) [0,1] dk dv):=by
 let F:LV->LV->LV->List Nat->bo:=λa b e Lk=>⟨[.val<|.h 0,a,b,e,.un,.un,.un,.un,.un],ML c B (.inst 662 was wvs) Lk dk dv⟩;have n0:∀Lk,EV (d+4) (gu 373) [.h 1,.tup [.int (0:Nat),.tup []]] (ML c B (.inst 662 was wvs) Lk dk dv)=some (.int (0:Nat),ML c B (.inst 662 was wvs) Lk dk dv):=λLk=>eU (eU (Iu d (tN TY) (tZ B) was wvs _ _ dk dv) c hc) 0 (by simp);have n1:∀Lk,EV (d+4) (gu 373) [.h 1,.tup [.int (1:Nat),.tup []]] (ML c B (.inst 662 was wvs) Lk dk dv)=some (.int (1:Nat),ML c B (.inst 662 was wvs) Lk dk dv):=λLk=>eU (eU (Iu d (tN TY) (tZ B) was wvs _ _ dk dv) c hc) 1 (by simp);have t0:EV (d+4) (gu 434) [.h 0,.dx [],.int (0:Nat),.int (2:Nat)] (ML c B (.inst 662 was wvs) [] dk dv++[])=some (.dx [2],ML c B (.inst 662 was wvs) [0] dk dv++[]):=
  Qg (.inl rfl) hc (aeo) V0 h2 (λz=>rfl) λLk=>W9 (d+3) _ _ _ _ _ _ _ _
 have t1:EV (d+4) (gu 434) [.h 0,.dx [2],.int (1:Nat),.int (2:Nat)] (ML c B (.inst 662 was wvs) [0] dk dv++[])=some (fQ<|v0 c,ML c B (.inst 662 was wvs) [0,1] dk dv++[]):=
  Qg (.inl rfl) hc (aem) VZ h2 (λz=>rfl) λLk=>eU (W8 (d+3) _ _ _ _ _ _ _ _) c.length<|wA hc
 rw[bj,bj] at t0 t1;have turn:∀(n:Nat)(Lk Lk')(a v)(b e:LV),cj (EV<|d+4) MM (.CC .lt .le (.int 0) dq<|.attr (fL 14) 7) (F (.val a) (.val<|.int n) e Lk)=some (.bool false,F (.val a) (.val<|.int n) e Lk)->
   EV (d+4) (gu 373) [.h 1,.tup [.int n,.tup []]] (ML c B (.inst 662 was wvs) Lk dk dv)=some (.int n,ML c B (.inst 662 was wvs) Lk dk dv)->
   EV (d+4) (gu 434) [.h 0,a,.int n,.int (2:Nat)] (ML c B (.inst 662 was wvs) Lk dk dv)=some (v,ML c B (.inst 662 was wvs) Lk' dk dv)->iy 3 (.bool false) (F (.val a) (.val<|.int n) e Lk)=some (F (.val a) (.val<|.int n) (.val<|.bool false) Lk)->
   cX (EV<|d+4) MM [fj 3<|.CC .lt .le (.int 0) dq<|.attr (fL 14) 7,fj 1<|.bx b0 32 [bK,.bx (fL 28) 25 [.tup [dq,.tup []]],.ite dR (.int 0)<|.int 2]] (F (.val a) (.val<|.int n) e Lk)=some (.next,F (.val v) (.val<|.int n) (.val<|.bool false) Lk'):=λn Lk Lk' a v b e h1 h2 h3 h4=>by
  let G:=F (.val a) (.val<|.int n) (.val<|.bool false) Lk
  exact aZ (τ:=G) (bO h1 h4)<|aZ (bO (ja (aU:=G) rfl rfl rfl VV (mr rfl<|mr (ja (aq:=G) (aU:=G) (vs:=[.tup [.int n,.tup []]]) rfl rfl rfl VX rfl h2)<|eT<|Wc rfl rfl) h3) rfl) rfl
 refine hK YG<|iO rfl rfl rfl (aZ (τ:=F (.val<|.dx []) .un .un []) rfl<|aZ (gy (vs:=[.int 2]) (items:=[.int (0:Nat),.int (1:Nat)]) (by kernel_rfl) rfl rfl
  (iQ (σ:=F (.val<|.dx []) .un .un []) (aP (a:=F (.val<|.dx []) (.val<|.int (0:Nat)) .un []) rfl<|turn 0 [] [0] _ _ .un _ (rfl) (n0 _) t0 rfl)<|iQ (aP rfl<|turn 1 [0] [0,1] _ _ .un _ (rfl) (n1 _) t1 rfl) rfl))<|hY<|ff rfl) rfl<|jA rfl
end
section
noncomputable def dkN(c:List Nat)(k:Nat):Option (Nat×Nat):=if c.contains k then some (2+c.idxOf k,3) else none
def JT(c:List Nat):Option W->Option (Nat×Nat)
 |some .set=>some (1,0)
 |some .drop=>some (1,3)
 |some .d0=>dkN c 0|some .d1=>dkN c 1|some .d2=>dkN c 2
 |_=>none
noncomputable def dsV(x:Nat×Nat):SV:=.tup [.int x.1,.int x.2]
theorem Wd(c:List Nat)(z:Option W):CW c z=(JT c z).toList.map dsV:=by
 have k:∀k,Hg c k=(dkN c k).toList.map dsV:=λk=>by unfold Hg dkN;cases c.contains k<;>rfl
 rcases z with _|w
 ·rfl
 ·cases w<;>first|rfl|exact k _
theorem M2:∀c∈fq,zs.all (λz=>match JT c z with|none=>true|some x=>(Oc c.length).contains x)=true:=by decide+kernel
theorem Dp{c:List Nat}(hc:c∈fq)(h:JT c z=some x):x∈Oc c.length:=by have:=ba.mp (M2 c hc) z<|MA z;rw[h] at this;exact gX.mp this
def BB(c:List Nat)(z:Option W)(v:List Nat):List Nat:=match JT c z with
 |none=>v
 |some x=>WX x.1 x.2 v
variable{B:List d9}{d:Nat}{st:List SO}{was:List Nat}{wvs:List SV}{c:List Nat}
theorem H8(hc:c∈fq)(hv:v∈m9 c.length):BB c z v∈m9 c.length:=by
 unfold BB;cases h:JT c z with
 |none=>exact hv
 |some x=>exact RT _ (wA hc) v hv x<|Dp hc h
def xu(c:List Nat)(B:List d9)(Wv:SV)(Lk:List Nat):List SO:=ML c B Wv Lk ((PS B).map bg)<|(PS B).map λp=>.lst<|CW c<|wP B p
theorem Cv(c:List Nat)(B:List d9)(k:Nat):SV.lows k ((PS B).map λp=>.lst<|CW c<|wP B p)=true:=j3 (λz=>rfl) _
theorem ahy(hp:p∈PS B):EV (d+1) (gu 441) [.h 0,bg p] (xu c B (.inst 662 was wvs) Lk++e)=some (.lst<|CW c<|wP B p,xu c B (.inst 662 was wvs) Lk++e):=by let F:bo:=⟨[.val<|.h 0,.val<|bg p],xu c B (.inst 662 was wvs) Lk++e⟩;exact hK YE<|iO (lo:=F.loc) rfl rfl rfl (hY<|ff<|bS (aq:=F) rfl rfl<|pQ (f:=λp=>.lst<|CW c<|wP B p) rfl hp) rfl<|jA rfl
def ow(c Lk:List Nat):Prop:=w0 c Lk/\1∈Lk
theorem ow.add(h:ow c Lk)(hn:n<c.length+2):ow c (rq Lk n):=⟨h.1.add hn,by
 unfold rq;by_cases q:n∈Lk
 ·rw[if_pos q];exact h.2
 ·rw[if_neg q];exact mz _ h.2⟩
theorem acM(he:xU e)(hc:c∈fq)(hv:v∈m9 c.length)(hL:ow c Lk)(hE:∀k,e.all (SO.low k)=true)(hp:p∈PS B):
  ∃Lk',ow c Lk'/\EV (d+3) (.t5 455<|.h 0) [fQ v,.int p.1,.int p.2] (xu c B (.inst 662 was wvs) Lk++e)=some (fQ<|BB c (wP B p) v,xu c B (.inst 662 was wvs) Lk'++e):=by
 let F:LV->LV->SV->List Nat->bo:=λa b v Lk=>⟨[.val<|.h 0,.val v,.val<|.int p.1,.val<|.int p.2,a,b],xu c B (.inst 662 was wvs) Lk++e⟩
 have key:∀(a b:LV) v' Lk',cR (λx τ=>(dm (.many [4,5]) x τ).bind λτ=>cX (EV<|d+2) MM [fj 1<|.bx b0 32 [bK,fu,jf]] τ) (CW c<|wP B p) (F .un .un (fQ v) Lk)=some (.next,F a b (fQ v') Lk')->
   EV (d+3) (.t5 455<|.h 0) [fQ v,.int p.1,.int p.2] (xu c B (.inst 662 was wvs) Lk++e)=some (fQ v',xu c B (.inst 662 was wvs) Lk'++e):=λa b v' Lk' h=>
  zh YC (iO (lo:=(F a b (fQ v') Lk').loc) rfl rfl rfl (aZ (gy (eT<|ja (aU:=F .un .un (fQ v) Lk) (vs:=[bg p]) rfl rfl rfl abr rfl<|ahy hp) rfl rfl h)<|hY<|ff rfl) rfl<|jA rfl)
 unfold BB
 cases h:JT c (wP B p) with
 |none=>exact⟨Lk,hL,key .un .un v Lk (by rw[Wd,h];rfl)⟩
 |some x=>have hx:=Dp hc h;refine⟨rq Lk x.1,hL.add<|Ob _ (wA hc) x hx,key (.val<|.int x.1) (.val<|.int x.2) (WX x.1 x.2 v) (rq Lk x.1) ?_⟩;rw[Wd,h];let G:=F (.val<|.int x.1) (.val<|.int x.2) (fQ v) Lk;exact iQ (aP (a:=G) rfl<|aZ (bO (ja (aU:=G) (vs:=[fQ v,.int x.1,.int x.2]) rfl rfl rfl VV rfl<|ahz he hc hv hx hL.1 (Cv c B) hE) rfl) rfl) rfl
end
section
theorem YP:prog.fns 247=some aco:=by kernel_rfl
theorem YO:prog.fns 254=some acn:=by kernel_rfl
theorem YN:prog.fns 261=some acm:=by kernel_rfl
variable{B:List d9}{b d:Nat}{x:d9}{st:List SO}{was:List Nat}{wvs:List SV}{c:List Nat}
noncomputable def Bl(c:List Nat)(x:d9)(v:List Nat):Nat->List Nat
 |0=>v
 |i+1=>BB c (wd x i)<|Bl c x v i
theorem xe(hc:c∈fq)(hv:v∈m9 c.length)(i:Nat):Bl c x v i∈m9 c.length:=by
 induction i with
 |zero=>exact hv
 |succ i ih=>exact H8 hc<|ih
noncomputable def FV(c:List Nat)(B:List d9):Nat->List Nat
 |0=>v0 c
 |b+1=>match B[b]? with
  |some x=>Bl c x (FV c B b)<|x.1.length+1
  |none=>v0 c
theorem QA(h:B[b]? =some x):FV c B (b+1)=Bl c x (FV c B b) (x.1.length+1):=by show(match B[b]? with|some x=>Bl c x (FV c B b) (x.1.length+1)|none=>v0 c)=_;rw[h]
theorem HE(hc:c∈fq)(b:Nat):FV c B b∈m9 c.length:=by
 induction b with
 |zero=>exact FO
 |succ b ih=>
  show(match B[b]? with|some x=>Bl c x (FV c B b) (x.1.length+1)|none=>v0 c)∈_;cases B[b]? with
  |none=>exact FO
  |some x=>exact xe hc (ih) _
theorem IE(O:nu B)(h:B[b]? =some x):x.1.length+1<=eA:=by have:=(O.at h).2;rwa[ag] at this
theorem Wb(O:nu B)(h:B[b]? =some x)(h0:cj C MM (fL 9) σ=some (.lst<|tZ B,σ))(hb:cj C MM e σ=some (.int b,σ)):
  iq C MM [.bin .add (kH<|cQ (.sub (fL 9) e) 0)<|.int 1] σ=some ([.int (x.1.length+1:Nat)],σ):=
 eT (ip (gT (bS (bS h0 hb<|O.zG h) rfl rfl) rfl<|oq (O.at h).2) rfl (by rw[ag];rfl))
theorem ahH(O:nu B)(h:B[b]? =some x)(he:xU e)(hc:c∈fq)(hv:v∈m9 c.length)(hL:ow c Lk)(hE:∀k,e.all (SO.low k)=true):
  ∃Lk',ow c Lk'/\EV (d+4) (gu 247) [BD B,fQ v,.int b,.t5 455<|.h 0] (xu c B (.inst 662 was wvs) Lk++e)=some (fQ<|Bl c x v<|x.1.length+1,xu c B (.inst 662 was wvs) Lk'++e):=by
 let F:Nat->Option SV×{Lk//ow c Lk}->bo:=λi q=>⟨[.val<|BD B,.val<|fQ<|Bl c x v i,.val<|.int b,.val<|.t5 455<|.h 0,jh q.1,.un,.un],xu c B (.inst 662 was wvs) q.2.1++e⟩
 obtain⟨⟨q,Lk',hL'⟩,e1⟩:=nW (f:=λx τ=>(dm RF x τ).bind λτ=>cX (EV<|d+3) MM [fj 1<|.call dR [bK,dq,fu]] τ) (F:=F) (x.1.length+1) (none,⟨Lk,hL⟩) λi hi q=>by
  obtain⟨q,Lk,hL⟩:=q;have hp:(b,i)∈PS B:=lF.mpr ⟨x,h,aT hi⟩;have hw:wP B (b,i)=wd x i:=by unfold wP;rw[h];rfl
  refine dS (acM (d:=d) (was:=was) (wvs:=wvs) he hc (xe (x:=x) hc hv i) hL hE hp) λLk' hL' st1=>?_;rw[hw] at st1;let G:bo:=⟨[.val<|BD B,.val<|fQ<|Bl c x v i,.val<|.int b,.val<|.t5 455<|.h 0,.val<|.int i,.un,.un],xu c B (.inst 662 was wvs) Lk++e⟩;exact⟨(some<|.int i,⟨Lk',hL'⟩),aP (a:=G) (by cases q<;>rfl)<|aZ (τ:=F (i+1) (some<|.int i,⟨Lk',hL'⟩)) (bO (bY (aU:=G) (vs:=[fQ<|Bl c x v i,.int b,.int i]) rfl rfl st1) rfl) rfl⟩
 let G:bo:=F 0 (none,⟨Lk,hL⟩)
 refine⟨Lk',hL',hK YP<|iO (lo:=(F (x.1.length+1) (q,⟨Lk',hL'⟩)).loc) rfl rfl rfl (aZ (gy (Wb O h rfl rfl) (j4<|IE O h) rfl e1)<|hY<|ff rfl) rfl<|jA rfl⟩
end
section
variable{B:List d9}{b d:Nat}{x:d9}{st:List SO}{was:List Nat}{wvs:List SV}{c:List Nat}
def LP(c:List Nat)(B:List d9)(m j:Nat):SV:=if j<=m then fQ (FV c B j) else .none
def w4(c:List Nat)(B:List d9)(m:Nat):List SV:=(ak B.length).map<|LP c B m
noncomputable def Lv(B:List d9)(m:Nat):List SV:=if m<B.length then [.int m] else []
theorem Ug(m j k:Nat):(LP c B m j).low k=true:=by unfold LP;split<;>rfl
theorem U1:(w4 c B m).length=B.length:=by unfold w4;rw[ag,au]
theorem HU(hi:i<n)(hv:v=g i)(h:∀j,j<n->j≠i->f j=g j):((ak n).map f).set i v=(ak n).map g:=by
 refine fC λj=>?_;by_cases q:j=i
 ·subst q;rw[eB (by rw[ag,au];exact hi),ai,bJ hi,hv];rfl
 ·rw[bV<|gp q,ai,ai];cases e:(ak n)[j]? with
  |none=>rfl
  |some z=>obtain⟨h1,h2⟩:=af.mp e;rw[cq] at h2;rw[au] at h1;show some (f z)=some (g z);rw[h z (h2▸h1)<|h2▸q]
theorem QD(h:j<B.length):(w4 c B m)[j]? =some (LP c B m j):=by unfold w4;rw[ai,bJ h];rfl
theorem U0(h:m+1<B.length):(w4 c B m).set (m+1) (fQ<|FV c B<|m+1)=w4 c B (m+1):=by
 refine HU h ?_ λj z q=>?_
 ·unfold LP;rw[if_pos<|aG _]
 ·unfold LP;by_cases q2:j<=m
  ·rw[if_pos q2,if_pos<|eR q2]
  ·rw[if_neg q2,if_neg<|ael q q2]
theorem QC(h:m+1=B.length):w4 c B (m+1)=w4 c B m:=by refine iH λj hj=>?_;have:=cf.mp hj;unfold LP;rw[if_pos<|ah2 h this,if_pos<|aeh h this]
theorem afr(h:0<B.length):(br B.length SV.none).set 0 (fQ<|v0 c)=w4 c B 0:=by
 have:br B.length SV.none=(ak B.length).map λz=>SV.none:=by rw[List.map_const',au]
 rw[this];refine HU h ?_ λj z q=>?_
 ·unfold LP;rw[if_pos<|aG _];rfl
 ·unfold LP;rw[if_neg<|ah1 q]
abbrev OS:=Option SV
def ZV(c:List Nat)(B:List d9)(q1 q2 q3 q4 q5:OS)(s:List SO):bo:=⟨[.val<|BD B,.val<|fQ<|v0 c,.val<|.t5 455<|.h 0,.val<|gu 240,.val<|.h 8,.val<|.h 9,jh q1,jh q2,jh q3,jh q4,jh q5,.un,.un,.un],s⟩
def SF(c:List Nat)(B:List d9)(Wv:SV)(Lk:List Nat)(fs ls:List SV):List SO:=xu c B Wv Lk++[.list fs,.list ls]
noncomputable def Wj:List S:=[fj 6<|.bx jf 2 [],fj 7<|d6 247 [b0,.sub fu jZ,jZ,dq],.for RE .over [d6 188 [cQ (.sub (fL 9) jZ) 1]] [fj 9<|.sub fu zX,fj 10<|.ite (.cmp .is FJ .none) qM<|.call dR [FJ,qM],.ifs (.or [.cmp .is FJ .none,.cmp .ne Bs FJ]) [.asg (.ix fu zX) Bs,.ifs (.cmp .kL zX jf) [.expr<|.bx jf 0 [.rl 8]] []] []]]
noncomputable def Wi:List S:=[fj 9<|.sub fu zX,fj 10<|.ite (.cmp .is FJ .none) qM<|.call dR [FJ,qM],.ifs (.or [.cmp .is FJ .none,.cmp .ne Bs FJ]) [.asg (.ix fu zX) Bs,.ifs (.cmp .kL zX jf) [.expr<|.bx jf 0 [.rl 8]] []] []]
theorem RR(O:nu B)(hc:c∈fq)(hx:B[m]? =some x)(hL:ow c Lk)(q1 q2 q3 q4 q5:OS):
  ∃Lk' p1 p2 p3 p4 p5,ow c Lk'/\cX (EV<|d+4) MM Wj (ZV c B q1 q2 q3 q4 q5<|SF c B (.inst 662 was wvs) Lk (w4 c B m) [.int m])=some (.next,ZV c B p1 p2 p3 p4 p5<|SF c B (.inst 662 was wvs) Lk' (w4 c B<|m+1)<|Lv B<|m+1):=by
 have hm:=(af.mp hx).1
 have hB:=O.len
 have hml:m+1<=eA:=by show _<=4000;exact ah0 hm hB
 let S:List Nat->List SV->List SV->List SO:=SF c B<|.inst 662 was wvs
 let K:OS->OS->OS->OS->OS->List SO->bo:=ZV c B
 let s:List SO:=S Lk (w4 c B m) []
 have s1:kB (EV<|d+4) MM (fj 6<|.bx jf 2 []) (K q1 q2 q3 q4 q5<|S Lk (w4 c B m) [.int m])=some (.next,K (some<|.int m) q2 q3 q4 q5 s):=by refine bO (jj rfl rfl rfl rfl<|VU (xs:=[]) rfl (by show 1<=4000;exact of_decide_eq_true<|id<|de true)) ?_;cases q1<;>rfl
 obtain⟨Lk',hL',e2⟩:=ahH O hx (e:=[.list<|w4 c B m,.list []]) (.inr<|.inr ⟨_,_,rfl⟩) hc (HE hc m) hL λk=>by show(SV.lows k (w4 c B m)&&true)=true;unfold w4;rw[j3 (λj=>Ug _ j _) _];rfl
 rw[<-QA hx] at e2
 let v:SV:=fQ<|FV c B<|m+1
 let s2:List SO:=S Lk' (w4 c B m) []
 have ef:gi s (.h 8) (.int m)=some (fQ<|FV c B m):=qO rfl<|g6 (by rw[QD hm];unfold LP;rw[if_pos<|aG _])<|cL hml
 have st2:kB (EV<|d+4) MM (fj 7<|d6 247 [b0,.sub fu jZ,jZ,dq]) (K (some<|.int m) q2 q3 q4 q5 s)=some (.next,K (some<|.int m) (some v) q3 q4 q5 s2):=by refine bO (bY (aU:=K (some<|.int m) q2 q3 q4 q5 s) (vs:=[BD B,fQ<|FV c B m,.int m,.t5 455<|.h 0]) rfl (mr rfl<|mr (bS rfl rfl ef) rfl) e2) ?_;cases q2<;>rfl
 let K3:OS->OS->OS->List SO->bo:=λq3 q4 q5 s=>K (some<|.int m) (some v) q3 q4 q5 s
 have hs:kB (EV<|d+4) MM (.for RE .over [d6 188 [cQ (.sub (fL 9) jZ) 1]] Wi) (K3 q3 q4 q5 s2)=cR (λx τ=>(dm RE x τ).bind λτ=>cX (EV<|d+4) MM Wi τ) (MX m x.2) (K3 q3 q4 q5 s2):=
  gy (eT<|bY rfl (eT<|bS (bS rfl rfl<|O.zG hx) rfl rfl)<|cB O hx) rfl rfl rfl
 have hl:=O.last m x hx
 cases ht:x.2 with
 |none=>
  have e:=hl.mp ht;refine⟨Lk',some<|.int m,some v,q3,q4,q5,hL',aZ s1<|aZ st2<|aZ (hs.trans (by rw[ht];rfl)) ?_⟩;have a1:Lv B (m+1)=[]:=by unfold Lv;rw[if_neg<|ZN e]
  rw[QC e,a1];rfl
 |some w=>
  have hne:=λq=>cb w<|ht.symm.trans<|hl.mpr q;have hlt:m+1<B.length:=ar5 hm hne;let t:SV:=.int (m+1:Nat);refine⟨Lk',some<|.int m,some v,some t,some .none,some v,hL',aZ s1<|aZ st2<|aZ (hs.trans (?_:_=some (FL.next,K3 (some t) (some .none) (some v)<|S Lk' (w4 c B<|m+1)<|Lv B<|m+1))) ?_⟩
  ·rw[ht];have ef2:gi s2 (.h 8) t=some .none:=qO rfl (g6 (by rw[QD hlt];unfold LP;rw[if_neg<|aee]) hml);have a1:Lv B (m+1)=[t]:=by unfold Lv;rw[if_pos hlt]
   refine iQ (aP (a:=K3 (some t) q4 q5 s2) (by cases q3<;>rfl)<|aZ (τ:=K3 (some t) (some .none) q5 s2) (bO (bS rfl rfl ef2)<|by cases q4<;>rfl)<|aZ (τ:=K3 (some t) (some .none) (some v) s2) (bO (e_t rfl rfl)<|by cases q5<;>rfl)<|aZ (CV (aq:=K3 (some t) (some .none) (some v) s2) rfl<|aZ (τ:=K3 (some t) (some .none) (some v)<|S Lk' (w4 c B<|m+1) []) (uA rfl rfl rfl<|(rQ rfl (by rw[U1];exact hlt) hml).trans ?_)<|aZ (CV (d7 rfl rfl<|Od (l:=[]) rfl rfl)<|aZ (Xm (v:=.none)<|jj (vs:=[t]) rfl rfl rfl rfl<|(AL rfl<|eO _).trans ?_) rfl) rfl) rfl) rfl
   ·rw[U0 hlt];rfl
   ·rw[a1];rfl
  ·rfl
end
section
variable{B:List d9}{b d:Nat}{x:d9}{st:List SO}{was:List Nat}{wvs:List SV}{c:List Nat}
theorem Ti(O:nu B)(hc:c∈fq):∀(k m n:Nat){Lk:List Nat}(hL:ow c Lk)(q1 q2 q3 q4 q5:OS),m+k=B.length->k<n->
  ∃Lk' p1 p2 p3 p4 p5,ow c Lk'/\i3 (cj (EV<|d+4) MM<|.cmp .ne jf<|.list false []) (cX (EV<|d+4) MM Wj) n (ZV c B q1 q2 q3 q4 q5<|SF c B (.inst 662 was wvs) Lk (w4 c B m)<|Lv B m)=some (.next,ZV c B p1 p2 p3 p4 p5<|SF c B (.inst 662 was wvs) Lk' (w4 c B B.length) []):=λk=>by
 induction k with
 |zero=>
  intro m n Lk hL q1 q2 q3 q4 q5 hm hn;obtain⟨n,rfl⟩:=mG<|cN hn;have hm:=hm;subst hm;have a1:Lv B B.length=[]:=by unfold Lv;rw[if_neg<|cp _]
  rw[a1];exact⟨Lk,q1,q2,q3,q4,q5,hL,HZ<|d7 (y:=.lst []) rfl rfl<|Bn (l:=[]) rfl⟩
 |succ k ih=>
  intro m n Lk hL q1 q2 q3 q4 q5 hm hn;obtain⟨n,rfl⟩:=mG<|cN<|QE hn;have hlt:m<B.length:=aeb hm;have hx:=ay hlt;generalize B[m]'(hlt)=x at hx;have a1:Lv B m=[.int m]:=by unfold Lv;rw[if_pos hlt]
  rw[a1];obtain⟨L1,p1,p2,p3,p4,p5,hL1,e1⟩:=RR O hc hx hL q1 q2 q3 q4 q5;obtain⟨L2,r1,r2,r3,r4,r5,hL2,e2⟩:=ih (m+1) n hL1 p1 p2 p3 p4 p5 (by omega)<|Fl hn;exact⟨L2,r1,r2,r3,r4,r5,hL2,HY (d7 (y:=.lst []) rfl rfl<|Bn (l:=[m]) rfl) e1 e2⟩
def ZY(c:List Nat)(B:List d9):List SV:=(ak B.length).map λj=>fQ<|FV c B j
theorem U2:w4 c B B.length=ZY c B:=by refine iH λj hj=>?_;have:=cf.mp hj;unfold LP;rw[if_pos<|ad4 this]
theorem ahG(O:nu B)(h0:0<B.length)(hc:c∈fq)(hL:ow c Lk):
  ∃Lk',ow c Lk'/\EV (d+5) (gu 254) [BD B,fQ<|v0 c,.t5 455<|.h 0,gu 240] (xu c B (.inst 662 was wvs) Lk)=some (.lst<|ZY c B,xu c B (.inst 662 was wvs) Lk'):=by
 have hB:=O.len
 have hBl:B.length<=eA:=by show _<=4000;exact ZM h0 hB
 obtain⟨Lk',p1,p2,p3,p4,p5,hL',e⟩:=Ti O hc B.length 0 1000 hL none none none none none (adX)<|adT h0 hB
 have a0:Lv B 0=[.int 0]:=by unfold Lv;rw[if_pos h0];rfl
 rw[a0,U2] at e
 let m2:List SO:=xu c B (.inst 662 was wvs) Lk
 let K:LV->LV->List SO->bo:=λa b s=>⟨[.val<|BD B,.val<|fQ<|v0 c,.val<|.t5 455<|.h 0,.val<|gu 240,a,b,.un,.un,.un,.un,.un,.un,.un,.un],s⟩
 have l1:cj (EV<|d+4) MM (kH<|fL 9) (K .un .un m2)=some (.int B.length,K .un .un m2):=by have:=gT (C:=EV<|d+4) (M:=MM) (e:=fL 9) (σ:=K .un .un m2) (aq:=K .un .un m2) rfl rfl (by rw[ib];exact hBl);rwa[ib] at this
 have s1:kB (EV<|d+4) MM (fj 4<|.rep true .none<|kH<|fL 9) (K .un .un m2)=some (.next,K (.val<|.h 8) .un<|m2++[.list<|br B.length .none]):=
  bO (PM rfl l1 hBl) rfl
 have s2:kB (EV<|d+4) MM (.asg (.ix fu<|.int 0) bK) (K (.val<|.h 8) .un<|m2++[.list<|br B.length .none])=some (.next,K (.val<|.h 8) .un<|m2++[.list<|w4 c B 0]):=by refine uA rfl rfl rfl ((rQ rfl (by rw[lT];exact h0)<|eO _).trans ?_);rw[afr h0];rfl
 have s3:kB (EV<|d+4) MM (fj 5<|.list true [.int 0]) (K (.val<|.h 8) .un<|m2++[.list<|w4 c B 0])=some (.next,ZV c B none none none none none<|SF c B (.inst 662 was wvs) Lk (w4 c B 0) [.int 0]):=rfl
 refine⟨Lk',hL',hK YO<|iO (lo:=(ZV c B p1 p2 p3 p4 p5 []).loc) rfl rfl rfl (aZ s1<|aZ s2<|aZ s3<|aZ e<|hY<|ff rfl) (rj rfl<|eN (λz=>rfl) _) ?_⟩
 have hl:(xu c B (.inst 662 was wvs) Lk).length=(xu c B (.inst 662 was wvs) Lk').length:=rfl
 rw[hl]
 have:=xh (c:=c) (B:=B) (was:=was) (wvs:=wvs) (dk:=(PS B).map bg) (e:=[]) (Lk:=Lk') (eO _) (Cv c B) λz=>rfl
 rw[bj] at this
 exact n3 this
end
section
variable{B:List d9}{b d:Nat}{x:d9}{st:List SO}{was:List Nat}{wvs:List SV}{c:List Nat}
def HC(c:List Nat)(B:List d9)(p:Nat×Nat):List Nat:=match B[p.1]? with
 |some x=>Bl c x (FV c B p.1) p.2
 |none=>[]
theorem HB(h:B[b]? =some x):HC c B (b,i)=Bl c x (FV c B b) i:=by show(match B[b]? with|some x=>Bl c x (FV c B b) i|none=>[])=_;rw[h]
def pV(c:List Nat)(B:List d9)(p:Nat×Nat):SV:=fQ<|HC c B p
def TP(B:List d9)(n j:Nat):List (Nat×Nat):=PS (B.take n)++(ak j).map λi=>(n,i)
theorem W3:(n,j)∉TP B n j:=λhm=>by
 rcases ct.mp hm with hm|hm
 ·have:=N2 hm;rw[cm] at this;exact absurd (a9 (show n<min n B.length from this) (ig ..))<|cp _
 ·refine dS (bI.mp hm) λz hz e=>?_;obtain rfl:z=j:=(gH e).2;exact absurd (cf.mp hz)<|cp _
theorem RX:TP B n j++[(n,j)]=TP B n (j+1):=by unfold TP;rw[eV,bf,aO];rfl
theorem W4(h:B[b]? =some x)(hj:j<=x.1.length+1):(TP B b j).length<=(PS B).length:=by have:=Iq (B:=B)<|b+1;rw[mK h,aj,ag,au] at this;unfold TP;rw[aj,ag,au];exact ahW hj this
def HD(c:List Nat)(B:List d9)(Wv:SV)(Lk:List Nat)(T:List (Nat×Nat))(q1 q2 q3:OS):bo:=⟨[.val<|BD B,.val<|.lst<|ZY c B,.val<|.t5 455<|.h 0,.val<|.h 8,jh q1,jh q2,jh q3,.un,.un],xu c B Wv Lk++[.dict (T.map bg)<|T.map<|pV c B]⟩
noncomputable def Ql:List S:=[.asg (.ix dR<|.tup [fu,jZ]) jf,fj 5<|.call dq [jf,fu,jZ]]
theorem abE(O:nu B)(hn:(PS B).length<=1000)(hc:c∈fq)(hx:B[n]? =some x)(hL:ow c Lk)(q3:OS):
  ∃(Lk':List Nat)(p3:OS),ow c Lk'/\cR (λx τ=>(dm EW x τ).bind λτ=>cX (EV<|d+3) MM Ql τ) ((ak<|x.1.length+1).map λi:Nat=>SV.int i) (HD c B (.inst 662 was wvs) Lk (PS<|B.take n) (some<|.int n) (some<|fQ<|FV c B n) q3)=some (.next,HD c B (.inst 662 was wvs) Lk' (PS<|B.take<|n+1) (some<|.int n) (some<|fQ<|FV c B<|n+1) p3):=by
 let F:Nat->OS×{Lk//ow c Lk}->bo:=λj q=>HD c B (.inst 662 was wvs) q.2.1 (TP B n<|min j<|x.1.length+1) (some<|.int n) (some<|fQ<|Bl c x (FV c B n) j) q.1
 obtain⟨⟨p,Lk',hL'⟩,e⟩:=nW (f:=λx τ=>(dm EW x τ).bind λτ=>cX (EV<|d+3) MM Ql τ) (F:=F) (x.1.length+1) (q3,⟨Lk,hL⟩) λj hj q=>by
  obtain⟨q,Lk,hL⟩:=q;have hp:(n,j)∈PS B:=lF.mpr ⟨x,hx,aT hj⟩;have hw:wP B (n,j)=wd x j:=by unfold wP;rw[hx];rfl
  have hlen:(TP B n j).length<=eA:=by have:=W4 hx<|be hj;show _<=4000;exact ahU hn this
  have m1:min j (x.1.length+1)=j:=ahT hj;have m2:min (j+1) (x.1.length+1)=j+1:=fc hj;obtain⟨Lk',hL',st1⟩:=acM (e:=[.dict ((TP B n<|j+1).map bg)<|(TP B n<|j+1).map<|pV c B]) (.inr<|.inl ⟨_,rfl⟩) hc (xe hc (HE hc n) j) hL (λk=>by show(SV.lows k ((TP B n<|j+1).map<|pV c B)&&true)=true;rw[j3 (λz=>rfl) _];rfl) hp;rw[hw] at st1;let v:SV:=fQ<|Bl c x (FV c B n) j;have hv:v=pV c B (n,j):=by unfold pV;rw[HB hx]
  let G:List (Nat×Nat)->bo:=λT=>HD c B (.inst 662 was wvs) Lk T (some<|.int n) (some v)<|some<|.int j;refine⟨(some<|.int j,⟨Lk',hL'⟩),?_⟩;show _=some (FL.next,HD c B (.inst 662 was wvs) Lk' (TP B n<|min (j+1)<|x.1.length+1) (some<|.int n) (some<|fQ<|Bl c x (FV c B n)<|j+1)<|some<|.int j);rw[m2];refine aP (a:=G<|TP B n j) ?_ (aZ (τ:=G<|TP B n<|j+1) (uA (y:=bg (n,j)) (τ:=G<|TP B n j) rfl rfl rfl<|hv▸(oS rfl W3 hlen).trans (by rw[RX];rfl))<|aZ (bO (bY (aU:=G<|TP B n<|j+1) (vs:=[v,.int n,.int j]) rfl rfl st1) rfl) rfl);show dm EW (SV.int j) (HD c B (.inst 662 was wvs) Lk (TP B n<|min j<|x.1.length+1) (some<|.int n) (some v) q)=_;rw[m1];cases q<;>rfl
 refine⟨Lk',p,hL',?_⟩
 have e0:TP B n (min 0<|x.1.length+1)=PS (B.take n):=by unfold TP;rw[Nat.zero_min];exact bj _
 have e1:TP B n (min (x.1.length+1)<|x.1.length+1)=PS (B.take<|n+1):=by unfold TP;rw[Fk,mK hx]
 have e:cR _ _ (HD c B (.inst 662 was wvs) Lk (TP B n<|min 0<|x.1.length+1) (some<|.int n) (some<|fQ<|FV c B n) q3)=some (.next,HD c B (.inst 662 was wvs) Lk' (TP B n<|min (x.1.length+1)<|x.1.length+1) (some<|.int n) (some<|fQ<|Bl c x (FV c B n)<|x.1.length+1) p):=e
 rw[e0,e1,<-QA hx] at e
 exact e
theorem ahF(O:nu B)(hn:(PS B).length<=1000)(hc:c∈fq)(hL:ow c Lk):
  ∃Lk',ow c Lk'/\EV (d+4) (gu 261) [BD B,.lst<|ZY c B,.t5 455<|.h 0] (xu c B (.inst 662 was wvs) Lk)=some (.hH ((PS B).map bg)<|(PS B).map<|pV c B,xu c B (.inst 662 was wvs) Lk'):=by
 have hB:=O.len
 have hBl:B.length<=eA:=by show _<=4000;exact ZL hB
 let F:Nat->(OS×OS)×{Lk//ow c Lk}->bo:=λn q=>HD c B (.inst 662 was wvs) q.2.1 (PS<|B.take n) (pv n) q.1.1 q.1.2
 obtain⟨⟨⟨p1,p2⟩,Lk',hL'⟩,e⟩:=nW (f:=λx τ=>(dm RF x τ).bind λτ=>cX (EV<|d+3) MM [fj 5<|.sub bK fu,.ifs (.cmp .kN jf .none) [.for EW .gO [.bin .add (kH<|cQ (.sub (fL 9) fu) 0)<|.int 1] Ql] []] τ) (F:=F) B.length ((none,none),⟨Lk,hL⟩) λn h q=>by
  obtain⟨⟨q1,q2⟩,Lk,hL⟩:=q;have hx:=ay h;generalize B[n]'(h)=x at hx;refine rJ (abE (d:=d) (was:=was) (wvs:=wvs) O hn hc hx hL q2) λLk' p3 hL' e=>?_;let G:OS->bo:=λq=>HD c B (.inst 662 was wvs) Lk (PS<|B.take n) (some<|.int n) q q2;have ef:gi (G q1).st (.lst<|ZY c B) (.int n)=some (fQ<|FV c B n):=by refine pB (g6 ?_ (by show _<=4000;exact ahS hB h));unfold ZY;rw[ai,bJ h];rfl
  exact⟨((some<|fQ<|FV c B<|n+1,p3),⟨Lk',hL'⟩),aP (a:=G q1) (by cases n<;>rfl)<|aZ (τ:=G<|some<|fQ<|FV c B n) (bO (bS rfl rfl ef)<|by cases q1<;>rfl)<|aZ (CV (aq:=G<|some<|fQ<|FV c B n) rfl<|aZ (gy (Wb O hx rfl rfl) (j4<|IE O hx) rfl e) rfl) rfl⟩
 have e:cR _ _ (HD c B (.inst 662 was wvs) Lk [] none none none)=some (.next,HD c B (.inst 662 was wvs) Lk' (PS<|B.take B.length) (pv B.length) p1 p2):=e
 rw[cY] at e
 refine⟨Lk',hL',hK YN<|iO (lo:=(HD c B (.inst 662 was wvs) Lk' (PS B) (pv B.length) p1 p2).loc) rfl rfl rfl (aZ (τ:=HD c B (.inst 662 was wvs) Lk [] none none none) rfl<|aZ (gy (eT<|gT (aq:=HD c B (.inst 662 was wvs) Lk [] none none none) rfl rfl (by rw[ib];exact hBl)) (j4 (by rw[ib];exact hBl)) rfl (by rw[ib];exact e))<|hY<|ff rfl) (Ed rfl (eN (λz=>rfl) _)<|eN (λz=>rfl) _) ?_⟩
 have hl:(xu c B (.inst 662 was wvs) Lk).length=(xu c B (.inst 662 was wvs) Lk').length:=rfl
 rw[hl]
 have:=xh (c:=c) (B:=B) (was:=was) (wvs:=wvs) (dk:=(PS B).map bg) (e:=[]) (Lk:=Lk') (eO _) (Cv c B) λz=>rfl
 rw[bj] at this
 exact n3 this
end
section
variable{B:List d9}{b d:Nat}{x:d9}{st:List SO}{was:List Nat}{wvs:List SV}{c:List Nat}
theorem yW(hk:st[k]? =some (.inst a as vs))(h:b4 n vs (st.set k .gone)=some (ws,s')):freeze (n+1) (.h k) st=some (.inst a as ws,s'):=by show(st[k]?.bind _)=_;rw[hk];exact iB h rfl
theorem Ck:freeze (n+1) (.lst xs) st=some (.lst xs,st):=rfl
theorem Ua:freeze (n+1) (.hH ks vs) st=some (.hH ks vs,st):=rfl
theorem xn:freeze (n+1) (.inst a as vs) st=some (.inst a as vs,st):=rfl
def UX(bs L:SV)(was:List Nat)(wvs:List SV)(pl pa ki nk nv lk lv dk dv fk fv:List SV):SV:=.inst 493 [14,28,29,30] [.inst 174 [6,7,8,9,10] [tS "f",.int 0,L,bs,.hH [] []],.inst 404 [14,15,16,17,18,19,20] [.inst 174 [6,7,8,9,10] [tS "f",.int 0,L,bs,.hH [] []],.inst 662 was wvs,.lst pl,.lst pa,.lst ki,.hH nk nv,.hH lk lv],.hH dk dv,.hH fk fv]
theorem S6(bs L:SV)(was:List Nat)(wvs:List SV)(pl pa ki nk nv lk lv dk dv fk fv:List SV)(h1:b8 lk=true)(h2:b8 lv=true)(h3:b8 dk=true)(h4:b8 dv=true):
  (freeze fz (.h 0) [.inst 493 [14,28,29,30] [.inst 174 [6,7,8,9,10] [tS "f",.int 0,L,bs,.hH [] []],.h 1,.h 7,.hH fk fv],.inst 404 [14,15,16,17,18,19,20] [.inst 174 [6,7,8,9,10] [tS "f",.int 0,L,bs,.hH [] []],.inst 662 was wvs,.lst pl,.lst pa,.lst ki,.hH nk nv,.h 6],.gone,.gone,.gone,.gone,.dict lk lv,.dict dk dv]).map (·.1)=some (UX bs L was wvs pl pa ki nk nv lk lv dk dv fk fv):=by
 refine iB (yW rfl<|gZ rfl xn<|gZ rfl (yW rfl<|gZ rfl xn<|gZ rfl xn<|gZ rfl Ck<|gZ rfl Ck<|gZ rfl Ck<|gZ rfl Ua<|gZ rfl (mT rfl h1 h2)<|rh rfl)<|gZ rfl (mT rfl h3 h4)<|rh rfl) rfl
def Lu(c:List Nat)(B:List d9)(was:List Nat)(wvs:List SV)(Lk:List Nat):SV:=UX (.lst<|tZ B) (tN TY) was wvs (EY c) (Gy c) ((GV c).map SV.lst) (EY c) (DO c) (Lk.map λi:Nat=>SV.int i) (Lk.map λn=>.lst<|Ah c n) ((PS B).map bg) ((PS B).map λp=>.lst<|CW c<|wP B p) ((PS B).map bg)<|(PS B).map<|pV c B
def K4(c:List Nat)(B:List d9)(Wv:SV)(q:OS)(s:List SO):bo:=⟨[.val<|.h 0,.val<|BD B,.val Wv,jh q,.un,.un,.un,.un,.un],s⟩
def MDn(c:List Nat)(B:List d9)(Wv:SV)(T:List (Nat×Nat)):List SO:=MD c (BD B) Wv [] [] (T.map bg)<|T.map λp=>.lst<|CW c<|wP B p
theorem GF{l:List α}(h:l.Nodup)(hp:l[i]? =some p):p∉l.take i:=λhmem=>by rw[<-dt i l] at h;refine(c9.mp h).2.2 p hmem p ?_ rfl;have hj:=(af.mp hp).1;rw[eF hj];exact aV.mpr<|.inl (af.mp hp).2.symm
theorem K9(O:nu B)(hn:(PS B).length<=1000)(hc:c∈fq):∃q,cR (λx τ=>(dm EX x τ).bind λτ=>cX (EV<|d+7) MM [.asg (.ix (fL 29) dR)<|.bx b0 34 [dR]] τ) ((PS B).map bg) (K4 c B (.inst 662 was wvs) none<|MDn c B (.inst 662 was wvs) [])=some (.next,K4 c B (.inst 662 was wvs) q<|MDn c B (.inst 662 was wvs)<|PS B):=by
 obtain⟨q,e⟩:=uJ (f:=λx τ=>(dm EX x τ).bind λτ=>cX (EV<|d+7) MM [.asg (.ix (fL 29) dR)<|.bx b0 34 [dR]] τ) (F:=λi q=>K4 c B (.inst 662 was wvs) q<|MDn c B (.inst 662 was wvs)<|(PS B).take i) (PS B) none λi p hp q=>by
  have hm:=aI hp;have hlen:((PS B).take i).length<=eA:=by rw[cm];show min i (PS B).length<=4000;exact aev hn
  have ht:(PS B).take (i+1)=(PS B).take i++[p]:=by rw[ij,hp];rfl
  let G:List (Nat×Nat)->bo:=λT=>K4 c B (.inst 662 was wvs) (some<|bg p)<|MDn c B (.inst 662 was wvs) T;rw[ht];exact⟨some<|bg p,aP (a:=G<|(PS B).take i) (by cases q<;>rfl)<|aZ (τ:=G<|(PS B).take i++[p]) (uA (aq:=G<|(PS B).take i) (ja (aU:=G<|(PS B).take i) (vs:=[bg p]) rfl rfl rfl abq rfl<|ahx O hc hm rfl<|j3 (λz=>rfl) _) rfl rfl<|oS (f:=λp=>.lst<|CW c<|wP B p) rfl (GF (qT B) hp) hlen) rfl⟩
 have et:(PS B).take (PS B).length=PS B:=cY;rw[et] at e;exact⟨q,e⟩
theorem YA:prog.fns 493=none:=rfl
theorem Zc:prog.cls 493=some ⟨422,.freeze⟩:=rfl
theorem ahv(O:nu B)(h0:0<B.length)(hn:(PS B).length<=1000):∃Lk,ow (uZ B) Lk/\EV (d+8) (gu 493) [BD B,.inst 662 was wvs] st=some (Lu (uZ B) B was wvs Lk,st):=by
 have hc:uZ B∈fq:=uY;generalize hcc:uZ B=c at hc;obtain⟨q,e⟩:=K9 O hn hc;obtain⟨L1,hL1,e1⟩:=ahG O h0 hc ⟨abu,by simp⟩;refine dS (ahF (d:=d+3) (was:=was) (wvs:=wvs) O hn hc hL1) λL2 hL2 e2=>⟨L2,hL2,?_⟩;let Wv:SV:=.inst 662 was wvs;let K:OS->List SO->bo:=K4 c B Wv;let m0:List SO:=ML c B Wv [] ((PS B).map bg)<|(PS B).map λp=>.lst<|CW c<|wP B p;have s1:kB (EV<|d+7) MM (.asg (.at b0 14) bK) (K none [.inst 493 [] []])=some (.next,K none [.inst 493 [14] [BD B]]):=rfl;have s2:kB (EV<|d+7) MM (.asg (.at b0 28)<|d6 404 [bK,dq]) (K none [.inst 493 [14] [BD B]])=some (.next,K none [.inst 493 [14,28] [BD B,.h 1],PV c (BD B) Wv,.gone,.gone,.gone,.gone,.dict [] []]):=by refine bO (bY (aU:=K none [.inst 493 [14] [BD B]]) (vs:=[BD B,Wv]) rfl rfl<|hcc▸ahB O hn) rfl
 have s3:kB (EV<|d+7) MM (.asg (.at b0 29)<|.gU true) (K none [.inst 493 [14,28] [BD B,.h 1],PV c (BD B) Wv,.gone,.gone,.gone,.gone,.dict [] []])=some (.next,K none<|MDn c B Wv []):=rfl;have c1:=ahA (d:=d+2) (B:=B) (was:=was) (wvs:=wvs) (dk:=(PS B).map bg) hc<|Cv c B;let S:List Nat->bo:=λLk=>K q<|xu c B Wv Lk;have s5:kB (EV<|d+7) MM (.asg (.at b0 30)<|d6 261 [bK,d6 254 [bK,.bx b0 31 [],fL 35,WQ 240],fL 35]) (S [])=some (.next,K q [.inst 493 [14,28,29,30] [BD B,.h 1,.h 7,.hH ((PS B).map bg)<|(PS B).map<|pV c B],PV c (BD B) Wv,.gone,.gone,.gone,.gone,.dict (L2.map λi:Nat=>SV.int i)<|L2.map λn=>.lst<|Ah c n,.dict ((PS B).map bg)<|(PS B).map λp=>.lst<|CW c<|wP B p]):=
  bO (bY (aU:=S L1) (vs:=[BD B,.lst<|ZY c B,.t5 455<|.h 0]) rfl (mr rfl<|mr (bY (aU:=S [0,1]) (vs:=[BD B,fQ<|v0 c,.t5 455<|.h 0,gu 240]) rfl (mr rfl<|mr (ja rfl rfl rfl abt rfl c1) rfl) e1) rfl) e2) rfl
 exact A1 YA Zc YH rfl rfl (aZ s1<|aZ s2<|aZ s3<|aZ (gy (eT<|bY rfl rfl<|UG O hn) rfl rfl e)<|aZ s5 rfl)<|S6 _ _ _ _ _ _ _ _ _ _ _ _ _ _ _ (eN (λz=>rfl) _) (eN (λz=>rfl) _) (eN (λz=>rfl) _)<|eN (λz=>rfl) _
end
section
variable{B:List d9}{b d:Nat}{x:d9}{st:List SO}{was:List Nat}{wvs:List SV}{c:List Nat}
def Jo(bs L:SV):SV:=.inst 174 [6,7,8,9,10] [tS "f",.int 0,L,bs,.hH [] []]
def PTx(bs L:SV)(was:List Nat)(wvs:List SV)(pl pa ki nk nv lk lv:List SV):SV:=.inst 404 [14,15,16,17,18,19,20] [Jo bs L,.inst 662 was wvs,.lst pl,.lst pa,.lst ki,.hH nk nv,.hH lk lv]
theorem abd(d:Nat)(bs L:SV)(was:List Nat)(wvs pa ki lk lv:List SV)(st:List SO):fq.map (λc=>EV (d+4) (gu 373) [PTx bs L was wvs (EY c) pa ki (EY c) (DO c) lk lv,.tup [.int 1,.tup []]] st)=fq.map λc=>some (.int 1,st):=by kernel_rfl
noncomputable def QQ(v:List Nat):Bool:=v.any λs=>s==0
noncomputable def aa8:E:=.cmp .ne (.comp false [none,none,none,some 3,some 0] bK td .over [.rl 4] [.bx fu 37 [dR,bK,.int 0]])<|.list false []
noncomputable def afs(mv p fv bl:SV):bo:=⟨[.cell 0,.val p,.val<|.int 1,.cell 1,.val bl],[.cell<|some mv,.cell<|some fv]⟩
theorem Y4(d:Nat)(p:SV)(bs L:SV)(was:List Nat)(wvs:List SV)(pl pa ki nk nv lk lv dk dv fk fv:List SV):[0,1,2,3].map (λm=>(m9 m).map λv=>cj (EV<|d+1) MM aa8<|afs (UX bs L was wvs pl pa ki nk nv lk lv dk dv fk fv) p (fQ v)<|.lst<|Lm m 1)=
  [0,1,2,3].map λm=>(m9 m).map λv=>some (.bool<|QQ v,afs (UX bs L was wvs pl pa ki nk nv lk lv dk dv fk fv) p (fQ v)<|.lst<|Lm m 1):=by kernel_rfl
theorem YB:prog.fns 462=some ab5:=by kernel_rfl
theorem Yz:prog.fns 509=some ab4:=by kernel_rfl
theorem abp:MM 493 36=some 462:=by kernel_rfl
theorem abl{o:SV}{k v:SV}{ks vs:List SV}{j:Nat}{σ:bo}(ho:jk σ.st o=some (ks,vs))(hk:cW k ks=some (some j))(hv:vs[j]? =some v):iA o 4 [k] σ=some (v,σ):=
 iB (aP rfl<|aP ho<|aP hk hv) rfl
theorem UW(hc:c∈fq)(hp:p∈PS B):HC c B p∈m9 c.length:=by refine dS (lF.mp hp) λx hx z=>?_;have:=HB (c:=c) hx (i:=p.2);rw[this];exact xe hc (HE hc _) _
theorem ahw(hp:p∈PS B):EV (d+1) (gu 462) [Lu c B was wvs Lk,bg p] st=some (fQ<|HC c B p,st):=by refine dS (GZ hp) λj h1 h2=>?_;let F:bo:=⟨[.val<|Lu c B was wvs Lk,.val<|bg p],[]⟩;exact bR YB rfl rfl rfl (hY<|ff<|jj (aq:=F) (aU:=F) (vs:=[bg p]) rfl rfl rfl rfl<|abl rfl ((tH p _).trans<|congrArg some h1) (by rw[ai,h2];rfl)) rfl
theorem acN{Lk:List Nat}(hL:1∈Lk){pl pa ki nk nv:List SV}:EV (d+1) (gu 401) [PTx bs L was wvs pl pa ki nk nv (Lk.map λi:Nat=>SV.int i)<|Lk.map λn=>.lst<|Ah c n,.int (1:Nat)] st=some (.lst<|Ah c 1,st):=by let F:bo:=⟨[.val<|PTx bs L was wvs pl pa ki nk nv (Lk.map λi:Nat=>SV.int i)<|Lk.map λn=>.lst<|Ah c n,.val<|.int (1:Nat),.un,.un,.un,.un],[]⟩;let D:SV:=.hH (Lk.map λi:Nat=>SV.int i)<|Lk.map λn=>.lst<|Ah c n;exact bR G8 rfl rfl rfl (aZ (xg (d7 (aU:=F) (y:=D) rfl rfl<|(Cx rfl).trans (by rw[decide_eq_true hL];rfl)) rfl)<|hY<|ff<|bS (aq:=F) (x:=D) rfl rfl<|Cw rfl hL) rfl
theorem ahu(hc:c∈fq){Lk:List Nat}(hL:1∈Lk){p:Nat×Nat}(hp:p∈PS B):EV (d+5) (gu 509) [Lu c B was wvs Lk,bg p,.int 1] st=some (.bool<|QQ<|HC c B p,st):=by have e1:=eU (eU (Y4 (d+3) (bg p) (.lst<|tZ B) (tN TY) was wvs (EY c) (Gy c) ((GV c).map SV.lst) (EY c) (DO c) (Lk.map λi:Nat=>SV.int i) (Lk.map λn=>.lst<|Ah c n) ((PS B).map bg) ((PS B).map λp=>.lst<|CW c<|wP B p) ((PS B).map bg)<|(PS B).map<|pV c B) c.length<|wA hc) (HC c B p)<|UW hc hp;let fv:SV:=fQ<|HC c B p;let M:SV:=Lu c B was wvs Lk;let K:LV->List SO->bo:=λb s=>⟨[.cell 0,.val<|bg p,.val<|.int 1,.cell 1,b],s⟩;let s0:List SO:=[.cell<|some M,.cell none];let s1:List SO:=[.cell<|some M,.cell<|some fv];let PT:SV:=PTx (.lst<|tZ B) (tN TY) was wvs (EY c) (Gy c) ((GV c).map SV.lst) (EY c) (DO c) (Lk.map λi:Nat=>SV.int i)<|Lk.map λn=>.lst<|Ah c n;have n1:EV (d+4) (gu 373) [PT,.tup [.int 1,.tup []]] s1=some (.int 1,s1):=eU (abd d _ _ was wvs _ _ _ _ s1) c hc;exact bR Yz rfl rfl rfl (aZ (τ:=K .un s1) (bO (ja (aU:=K .un s0) (vs:=[bg p]) rfl rfl rfl abp rfl<|ahw hp) rfl)<|aZ (xg (aq:=K .un s1) rfl rfl)<|aZ (τ:=K (.val<|.lst<|Ah c 1) s1) (bO (ja (aq:=K .un s1) (aU:=K .un s1) (x:=PT) rfl rfl rfl VW (eT<|ja (aq:=K .un s1) (aU:=K .un s1) (x:=PT) (vs:=[.tup [.int 1,.tup []]]) rfl rfl rfl VX rfl n1)<|acN hL) rfl)<|hY<|ff e1) rfl
end
def adW(p:String):SV:=.inst 611 [47,48,49,50,51,52,53] [tS p,tS "",.tup [tS "'a"],.tup [],.lst [.tup [tS p,tS "named",.lst [.tup [tS "p",.tup [tS "ref",tS "'a",.bool false,.tup [tS "int",tS "u8"]]]]]],.tup [],.bool false]
def imW:SV:=.inst 633 [54,49,50,55,56,57,58,59] [.int 0,.tup [tS "'a"],.lst [],tS "Drop",.tup [],.tup [tS "adt",tS "G",.tup [tS "'a"],.tup []],.hH [tS "drop"] [tS "d"],.int 0]
noncomputable def JM:List Nat:=[60,61,51,62,63,64,65,66]
def JL:List SV:=[.none,.hH [tS "G",tS "H"] [adW "G",adW "H"],.hH [] [],.hH [] [],.hH [] [],.lst [imW],.hH [] [],.hH [] []]
theorem ahj(d:Nat)(st:List SO):EV (d+6) (gu 694) [] st=some (.inst 662 JM JL,st):=by kernel_rfl
noncomputable def RP:List SV:=[.lst [],.lst [.int 1,.int 2,.int 3,.int 4,.int 5]]
noncomputable def Uq:List SV:=[.lst [],.lst [.int 1,.int 3]]
theorem Xu(d:Nat)(bs rows:SV)(las:List Nat)(lvs:List SV)(mas:List Nat)(mvs:List SV):
  cX (EV<|d+15) MM (Uh.body.take 3) ⟨[.val<|Jo bs<|tN TY,.val<|.inst 662 JM JL,.val rows,.val<|.inst 588 las lvs,.val<|.inst 493 mas mvs,.cell 0,.un,.un,.un,.un,.un,.un,.un,.un,.un,.un,.un,.un,.un],[.cell none]⟩=
  some (.next,⟨[.val<|Jo bs<|tN TY,.val<|.inst 662 JM JL,.val rows,.val<|.inst 588 las lvs,.val<|.inst 493 mas mvs,.cell 0,.val<|.h 2,.val<|.h 3,.val<|.tup [TY,.bool true,tS "t"],.val<|.lst [.int 1,.int 3],.un,.un,.un,.un,.un,.un,.un,.un,.un],[.cell<|some<|.h 1,.dict [] [],.list RP,.list Uq,.gone,.gone]⟩):=by kernel_rfl
noncomputable def CO(l:List Nat)(k:Nat):List Nat:=if k∈l then l else l++[k]
def Rv(S:Nat->List Nat)(r k:Nat):Nat->List Nat:=λr'=>if r'=r then CO (S r) k else S r'
noncomputable def DN(l:List Nat):SO:=.dict (l.map λi:Nat=>SV.int i)<|l.map λz=>SV.bool true
def FI.T1(st:List SO)(S:Nat->List Nat)(L:List (Nat×Nat)):Prop:=∀p∈L,4<=p.2/\st[p.2]? =some (DN<|S p.1)
structure FI(st:List SO)(S:Nat->List Nat)(L:List (Nat×Nat)):Prop where
 h0:st[0]? =some (.cell (some (.h 1)))
 h1:st[1]? =some (.dict (L.map λp=>SV.int p.1) (L.map λp=>SV.h p.2))
 h2:st[2]? =some (.list RP)
 h3:st[3]? =some (.list Uq)
 nd:(L.map λp=>p.1).Nodup
 ad:(L.map λp=>p.2).Nodup
 lo:∀p∈L,p.1<6
 at_:FI.T1 st S L
 no:∀r,(∀p∈L,p.1≠r)->S r=[]
theorem nZ(r:Nat)(L:List (Nat×Nat)):cW (.int r) (L.map λp=>SV.int p.1)=some (L.findIdx? λp=>p.1==r):=by have:=lW r<|L.map λp=>p.1;rw[jW,jx] at this;exact this
theorem NW{lo:List LV}{st:List SO}{a k:Nat}{l:List Nat}(ha:st[a]? =some (DN l))(hl:l.length<=eA):pz (.h a) (.int k) (.bool true) ⟨lo,st⟩=some ⟨lo,st.set a<|DN<|CO l k⟩:=by
 by_cases h:k∈l
 ·refine dS (X7 h) λj h1 h2=>?_;show(match st[a]?.bind gE with|some xs=>_|none=>_)=_;rw[ha];show(gd (true&&decide ((l.map λi:Nat=>SV.int i).length<=eA)) ()).bind _=_;rw[kO (by rw[ag,decide_eq_true hl];rfl)];show(cW (.int k) (l.map λi:Nat=>SV.int i)).map _=_;rw[lW,h1];show some (bo.mk lo<|st.set a<|.dict (l.map λi:Nat=>SV.int i)<|(l.map λz=>SV.bool true).set j<|.bool true)=_;have e:(l.map λz=>SV.bool true).set j (.bool true)=l.map λz=>SV.bool true:=by
   refine fC λi=>?_;rw[wa];split
   ·next q=>subst q;rw[ag,ai,h2,if_pos (af.mp h2).1];rfl
   ·rfl
  rw[e];unfold CO;rw[if_pos h];rfl
 ·have:=zc (lo:=lo) ha h hl;unfold CO;rw[if_neg h];exact this
theorem jD{st:List SO}{a:Nat}{o v:SO}(h:st[a]? =some o):(st++[v])[a]? =some o:=by rw[aL (af.mp h).1];exact h
theorem Ls{st:List SO}:(st++[v])[st.length]? =some v:=by rw[aA<|aG _,bF];rfl
theorem iZ{st:List SO}{o:SO}(h:st[a]? =some o):a<st.length:=(af.mp h).1
theorem cC{st:List SO}{o v:SO}(h:st[a]? =some o)(q:b≠a):(st.set b v)[a]? =some o:=by rw[bV q];exact h
theorem pF{st:List SO}{o v:SO}(h:st[a]? =some o):(st.set a v)[a]? =some v:=by rw[eB<|iZ h]
noncomputable def wj:S:=.asg (.ix (.bx jf 5 [RG,.gU true]) Bs)<|.bool true
def FR(z0 z1 z2 z3 z4 z8 z9 zp:SV)(k:Nat)(q1 q2:OS)(st:List SO):bo:=⟨[.val z0,.val z1,.val z2,.val z3,.val z4,.cell 0,.val<|.h 2,.val<|.h 3,.val z8,.val z9,.val<|.int k,.val zp,jh q1,jh q2,.un,.un,.un,.un,.un],st⟩
section
variable{C:bT}{z0 z1 z2 z3 z4 z8 z9 zp:SV}{k r:Nat}{q1 q2:OS}{st:List SO}{S:Nat->List Nat}{L:List (Nat×Nat)}
theorem Ij(F:FI st S L):L.length<=6:=by
 have:=BY 6 (L.map λp=>p.1) F.nd λn hn=>by refine dS (bI.mp hn) λp hp zz2=>?_;subst zz2;exact F.lo p hp
 rwa[ag] at this
theorem vq(h:r'≠r):Rv S r k r'=S r':=by unfold Rv;rw[if_neg h]
theorem Bu:Rv S r k r=CO (S r) k:=by unfold Rv;rw[if_pos rfl]
theorem NX(F:FI st S L)(hr:r<6)(hS:(S r).length<=eA):∃st' L',FI st' (Rv S r k) L'/\kB C MM wj (FR z0 z1 z2 z3 z4 z8 z9 zp k q1 (some<|.int r) st)=some (.next,FR z0 z1 z2 z3 z4 z8 z9 zp k q1 (some<|.int r) st'):=by
 let K:List SO->bo:=λs=>FR z0 z1 z2 z3 z4 z8 z9 zp k q1 (some<|.int r) s;let s1:List SO:=st++[.dict [] []];have hlen:=Ij F;have ho:cj C MM jf (K st)=some (.h 1,K st):=by show(((st[0]?.bind pD).bind id).map λv=>(v,K st))=_;rw[F.h0];rfl
 have hi:q9 (K st).st (.h 1)=none:=by show st[1]?.bind lD=none;rw[F.h1];rfl
 have hm:qV (K st).st (.h 1) 5=true:=by show(st[1]?.bind pC).isSome=true;rw[F.h1];rfl
 have hg:(gd ((SV.int r).free&&decide ((L.map λp=>SV.int p.1).length<=eA)) ())=some ():=kO (by rw[ag,decide_eq_true<|ah hlen<|by decide];rfl);have ha:iq C MM [RG,.gU true] (K st)=some ([.int r,.h st.length],K s1):=rfl;have e1:s1[1]? =some (.dict (L.map λp=>SV.int p.1)<|L.map λp=>SV.h p.2):=jD F.h1;have go:∀(a:Nat) s2,nV 1 (.int r) (.h st.length) (K s1)=some (.h a,K s2)->s2[a]? =some (DN<|S r)->kB C MM wj (K st)=some (.next,K<|s2.set a<|DN<|CO (S r) k):=λa s2 h1 h2=>by have hz:=jj ho hi hm ha h1;exact uA rfl hz rfl<|NW h2 hS
 have df:∀(o:Option Nat),L.findIdx? (λp=>p.1==r)=o->nV 1 (.int r) (.h st.length) (K s1)=(yU o (L.map λp=>SV.h p.2)<|.h st.length).map λv=>(v,Gn 1 (.int r) (.h st.length) (L.map λp=>SV.int p.1,L.map λp=>SV.h p.2) o<|K s1):=λo h=>by show(s1[1]?.bind pC).bind _=_;rw[e1];show(cW (.int r)<|L.map λp=>SV.int p.1).bind _=_;rw[nZ,h];rw[hg];rfl
 cases e:L.findIdx? (λp=>p.1==r) with
 |some j=>
  obtain⟨hj,h1,_⟩:=bA.mp e;have hp:=ay hj;generalize L[j]'(hj)=p at hp h1;have hpr:=beq_iff_eq.mp h1;have hm:=aI hp;refine kg (F.at_ p hm) λh4 h5=>?_;have g:=go p.2 s1 ((df _ e).trans (by show((L.map λp=>SV.h p.2)[j]?).map _=_;rw[ai,hp];rfl)) (by rw[<-hpr];exact jD h5);have h6:s1[p.2]? =some (DN<|S p.1):=jD h5;refine y22 _ L ⟨?_,?_,?_,?_,F.nd,F.ad,F.lo,λu hu=>?_,λr' hr'=>?_⟩ g
  ·exact cC (jD F.h0)<|QF h4
  ·exact cC e1<|ahR h4
  ·exact cC (jD F.h2)<|ahQ h4
  ·exact cC (jD F.h3)<|cN h4
  ·refine kg (F.at_ u hu) λa1 a2=>⟨a1,?_⟩;by_cases q:u.1=r
   ·have:u=p:=by
     refine fT (il hu) λi hi=>?_
     have hi1:=(af.mp hi).1
     have:=(jv (j:=j) (by rw[ag];exact hi1) F.nd).mp (by rw[ai,ai,hi,hp];exact congrArg some<|q.trans hpr.symm)
     subst this
     exact aa<|hi.symm.trans hp
    subst this
    rw[q,Bu]
    exact pF h6
   ·rw[vq q];refine cC (jD a2) λq2=>fT (il hu) λi hi=>?_;have hi1:=(af.mp hi).1;have:=(jv (j:=j) (by rw[ag];exact hi1) F.ad).mp (by rw[ai,ai,hi,hp];exact congrArg some q2.symm);subst this;exact q<|(congrArg kf<|aa<|hi.symm.trans hp).trans hpr
  ·rw[vq λq=>hr' p hm<|hpr.trans q.symm];exact F.no r' hr'
 |none=>
  have hno:∀p∈L,p.1≠r:=λp hp q=>by have:=bU.mp e p hp;rw[q] at this;simp at this
  have hSr:=F.no r hno;let s2:List SO:=s1.set 1<|.dict ((L++[(r,st.length)]).map λp=>SV.int p.1)<|(L++[(r,st.length)]).map λp=>SV.h p.2;have hn:=λq=>by have:=iZ F.h1;exact ahP q this
  have b1:s2[st.length]? =some (.dict [] []):=cC Ls hn;have g:=go st.length s2 ((df _ e).trans (by show _=some (SV.h st.length,bo.mk _<|s1.set 1<|.dict ((L++[(r,st.length)]).map λp=>SV.int p.1)<|(L++[(r,st.length)]).map λp=>SV.h p.2);rw[bf,bf];rfl)) (by rw[hSr];exact b1);have k3:=iZ F.h3;have low:=λp hp=>iZ (F.at_ p hp).2;refine y22 _ (L++[(r,st.length)]) ⟨?_,?_,?_,?_,?_,?_,λp hp=>?_,λu hu=>?_,λr' hr'=>?_⟩ g
  ·exact cC (cC (jD F.h0)<|adQ)<|QF k3
  ·exact cC (pF e1)<|afh k3
  ·exact cC (cC (jD F.h2)<|of_decide_eq_true<|id<|de true) (by omega)
  ·exact cC (cC (jD F.h3)<|of_decide_eq_true<|id<|de true)<|cN k3
  ·rw[bf];refine c9.mpr ⟨F.nd,by simp,λa ha b hb q=>?_⟩;refine dS (bI.mp ha) λp hp zz2=>?_;subst zz2;exact hno p hp<|q.trans<|aE.mp hb
  ·rw[bf];refine c9.mpr ⟨F.ad,by simp,λa ha b hb q=>?_⟩;refine dS (bI.mp ha) λp hp zz2=>?_;subst zz2;have h1:=low p hp;have h2:=aE.mp hb;exact afg q h1 h2
  ·rcases ct.mp hp with hp|hp
   ·exact F.lo p hp
   ·rw[aE.mp hp];exact hr
  ·rcases ct.mp hu with hu|hu
   ·refine kg (F.at_ u hu) λa1 a2=>?_;have:=low u hu;rw[vq<|hno u hu];exact⟨a1,cC (cC (jD a2)<|adL a1)<|adG this⟩
   ·rw[aE.mp hu,Bu];exact⟨by show 4<=st.length;exact k3,pF b1⟩
  ·have:r'≠r:=λq=>hr' (r,st.length) (jt _<|aE.mpr rfl) q.symm;rw[vq this];exact F.no r' λp hp=>hr' p<|mz _ hp
end
section
def QP(S:Nat->List Nat)(rs:List Nat)(k:Nat):Nat->List Nat:=rs.foldl (λS r=>Rv S r k) S
def Lz(S:Nat->List Nat)(n:Nat):Prop:=∀r,(S r).Nodup/\∀i∈S r,i<n
def FRx(z0 z1 z2 z3 z4 z8 z9:SV)(k zp q1 q2:OS)(st:List SO):bo:=⟨[.val z0,.val z1,.val z2,.val z3,.val z4,.cell 0,.val<|.h 2,.val<|.h 3,.val z8,.val z9,jh k,jh zp,jh q1,jh q2,.un,.un,.un,.un,.un],st⟩
section
variable{C:bT}{z0 z1 z2 z3 z4 z8 z9 zp:SV}{n k r:Nat}{q1 q2:OS}{st:List SO}{S:Nat->List Nat}{L:List (Nat×Nat)}
theorem Jf(h:Lz S n)(hk:k<n):Lz (Rv S r k) n:=λr'=>by
 refine kg (h r') λa b=>?_;by_cases q:r'=r
 ·subst q;rw[Bu];unfold CO;by_cases q2:k∈S r'
  ·rw[if_pos q2];exact⟨a,b⟩
  ·rw[if_neg q2];refine⟨c9.mpr ⟨a,by simp,λx hx y hy e=>q2 ?_⟩,λi hi=>?_⟩
   ·rw[<-aE.mp hy,<-e];exact hx
   ·rcases ct.mp hi with hi|hi
    ·exact b i hi
    ·rw[aE.mp hi];exact hk
 ·rw[vq q];exact⟨a,b⟩
theorem zi(hk:k<n)(rs:List Nat):∀{S:Nat->List Nat},Lz S n->Lz (QP S rs k) n:=by
 induction rs with
 |nil=>intro S h;exact h
 |cons r rs ih=>intro S h;exact ih (S:=Rv S r k)<|Jf h hk
theorem NQ(hk:k<n)(hn:n<=eA)(rs:List Nat):∀{S:Nat->List Nat}{L:List (Nat×Nat)}{st:List SO}(q2:OS),FI st S L->Lz S n->(∀r∈rs,r<6)->
  ∃st' L' q2',FI st' (QP S rs k) L'/\cR (λx τ=>(dm Dd x τ).bind λτ=>cX C MM [wj] τ) (rs.map λi:Nat=>SV.int i) (FR z0 z1 z2 z3 z4 z8 z9 zp k q1 q2 st)=some (.next,FR z0 z1 z2 z3 z4 z8 z9 zp k q1 q2' st'):=by
 induction rs with
 |nil=>intro S L st q2 F b h;exact QM st L q2 F rfl
 |cons r rs ih=>intro S L st q2 F b h;refine rJ (NX (C:=C) (z0:=z0) (z1:=z1) (z2:=z2) (z3:=z3) (z4:=z4) (z8:=z8) (z9:=z9) (zp:=zp) (k:=k) (q1:=q1) F (h r (ax ..))<|ah (BY n _ (b r).1 (b r).2) hn) λs1 L1 F1 e1=>uk (ih (some<|.int r) F1 (Jf b hk) λr hr=>h r<|az _ hr) λs2 L2 p2 F2 e2=>?_;exact QM s2 L2 p2 F2<|iQ (aP (by cases q2<;>rfl)<|aZ e1 rfl) e2
end
variable{B:List d9}{d:Nat}{x:d9}{st:List SO}{was:List Nat}{wvs:List SV}{c:List Nat}
def qQ(c:List Nat)(B:List d9)(S:Nat->List Nat)(k:Nat)(p:Nat×Nat):Nat->List Nat:=
 let S1:=if FP B (Gu B) p then QP S [1,2,3,4,5] k else S
 if FP B (Gd B) p&&QQ (HC c B p) then QP S1 [1,3] k else S1
def Qm:List S:=[.for MC .over [.bx dR 45 [xW]] [.for Dd .over [.sub jZ tg] [wj]],.for MC .over [.bi .sorted [.bx dR 46 [xW]]] [.ifs (.and [.cmp .ne (.sub qM tg)<|.list false [],d6 509 [fu,xW,tg]]) [.for Dd .over [.sub qM tg] [wj]] []]]
theorem abo:MM 588 45=some 578:=by kernel_rfl
theorem abn:MM 588 46=some 585:=by kernel_rfl
theorem abz(q:Bool):lH .over [fB q]=some (match q with|true=>[.int 1]|false=>[]):=by cases q<;>rfl
theorem aby(q:Bool):zj .sorted [fB q] σ=some (.lst (match q with|true=>[.int 1]|false=>[]),σ):=by cases q<;>rfl
theorem RQ(hc:c∈fq)(hL:1∈Lk)(hp:p∈PS B){k n:Nat}(hk:k<n)(hn:n<=eA){S:Nat->List Nat}{L:List (Nat×Nat)}(F:FI st S L)(b:Lz S n)(z0 z1 z2 z8 z9:SV)(q1 q2:OS):
  ∃st' L' q1' q2',FI st' (qQ c B S k p) L'/\Lz (qQ c B S k p) n/\cX (EV<|d+6) MM Qm (FR z0 z1 z2 (Lw B) (Lu c B was wvs Lk) z8 z9 (bg p) k q1 q2 st)=some (.next,FR z0 z1 z2 (Lw B) (Lu c B was wvs Lk) z8 z9 (bg p) k q1' q2' st'):=by
 let K:OS->OS->List SO->bo:=λq1 q2 s=>FR z0 z1 z2 (Lw B) (Lu c B was wvs Lk) z8 z9 (bg p) k q1 q2 s
 have lem:∀(rs:List Nat){S:Nat->List Nat}{L:List (Nat×Nat)}{st:List SO} i q2,i=6\/i=7->FI st S L->Lz S n->(∀r∈rs,r<6)->gi st (.h<|i-4) (.int 1)=some (.lst (rs.map λi:Nat=>SV.int i))->∃st' L' q2',FI st' (QP S rs k) L'/\kB (EV<|d+6) MM (.for Dd .over [.sub (.loc i) tg] [wj]) (K (some<|.int 1) q2 st)=some (.next,K (some<|.int 1) q2' st'):=λrs S L st i q2 hi F b h hs=>by refine uk (NQ (C:=EV<|d+6) (z0:=z0) (z1:=z1) (z2:=z2) (z3:=Lw B) (z4:=Lu c B was wvs Lk) (z8:=z8) (z9:=z9) (zp:=bg p) (q1:=some<|.int 1) hk hn rs q2 F b h) λs1 L1 p2 F1 e1=>QM s1 L1 p2 F1<|gy (eT<|bS (aq:=K (some<|.int 1) q2 st) (by rcases hi with rfl|rfl<;>rfl) rfl hs) rfl rfl e1
 have u:∃st' L' q1' q2',FI st' (if FP B (Gu B) p then QP S [1,2,3,4,5] k else S) L'/\Lz (if FP B (Gu B) p then QP S [1,2,3,4,5] k else S) n/\kB (EV<|d+6) MM (.for MC .over [.bx dR 45 [xW]] [.for Dd .over [.sub jZ tg] [wj]]) (K q1 q2 st)=some (.next,K q1' q2' st'):=by
  have h1:iq (EV<|d+6) MM [.bx dR 45 [xW]] (K q1 q2 st)=some ([fB<|FP B (Gu B) p],K q1 q2 st):=eT<|ja (aU:=K q1 q2 st) (vs:=[bg p]) rfl rfl rfl abo rfl<|aho hp;have h2:=abz<|FP B (Gu B) p;cases e:FP B (Gu B) p with
  |false=>rw[e] at h1 h2;exact y43 st L q1 q2 F b<|gy h1 h2 rfl rfl
  |true=>rw[e] at h1 h2;refine uk (lem [1,2,3,4,5] 6 q2 (.inl rfl) F b (by decide)<|qO F.h2 rfl) λs1 L1 p2 F1 e1=>y43 s1 L1 (some<|.int 1) p2 F1 (zi hk _ b)<|gy h1 h2 rfl<|iQ (aP (by cases q1<;>rfl)<|aZ e1 rfl) rfl
 refine RJ u λs1 L1 p1 p2 F1 b1 e1=>?_
 unfold qQ
 generalize (if FP B (Gu B) p then QP S [1,2,3,4,5] k else S)=S1 at F1 b1 ⊢
 have h1:iq (EV<|d+6) MM [.bi .sorted [.bx dR 46 [xW]]] (K p1 p2 s1)=_:=eT<|uT (eT<|ja (aU:=K p1 p2 s1) (vs:=[bg p]) rfl rfl rfl abn rfl<|ahn hp)<|aby<|FP B (Gd B) p
 cases e:FP B (Gd B) p with
 |false=>rw[e] at h1;exact y43 s1 L1 p1 p2 F1 b1<|aZ e1<|aZ (gy h1 rfl rfl rfl) rfl
 |true=>
  rw[e] at h1;have hs:gi s1 (.h 3) (.int 1)=some (.lst ([1,3].map λi:Nat=>SV.int i)):=qO F1.h3 rfl;let J:bo:=K (some<|.int 1) p2 s1;have a1:cj (EV<|d+6) MM (.cmp .ne (.sub qM tg)<|.list false []) J=some (.bool true,J):=d7 (y:=.lst []) (bS rfl rfl hs) rfl<|rfl;have a2:cj (EV<|d+6) MM (d6 509 [fu,xW,tg]) J=some (.bool<|QQ<|HC c B p,J):=bY (aU:=J) (vs:=[Lu c B was wvs Lk,bg p,.int 1]) rfl rfl<|ahu hc hL hp;have fin:∀{R},kB (EV<|d+6) MM (.ifs (.and [.cmp .ne (.sub qM tg)<|.list false [],d6 509 [fu,xW,tg]]) [.for Dd .over [.sub qM tg] [wj]] []) J=some (.next,R)->cX (EV<|d+6) MM Qm (K q1 q2 st)=some (.next,R):=λh=>aZ e1 (aZ (gy h1 rfl rfl<|iQ (aP (by cases p1<;>rfl)<|aZ h rfl) rfl) rfl);cases e2:QQ (HC c B p) with
  |false=>rw[e2] at a2;exact y43 s1 L1 (some<|.int 1) p2 F1 b1<|fin<|xg (lN a1<|lO a2) rfl
  |true=>rw[e2] at a2;refine uk (lem [1,3] 7 p2 (.inr rfl) F1 b1 (by decide) hs) λs3 L3 p3 F3 e3=>y43 s3 L3 (some<|.int 1) p3 F3 (zi hk _ b1)<|fin<|CV (lN a1<|lN a2 rfl)<|aZ e3 rfl
end
section
theorem KC(P:Nat->bo->Prop)(xs:List α):∀(k:Nat)(σ:bo),P k σ->(∀(i:Nat)(x:α),xs[i]? =some x->∀τ,P (k+i) τ->∃sG,f (g x) τ=some (.next,sG)/\P (k+i+1) sG)->∃τ,cR f (xs.map g) σ=some (.next,τ)/\P (k+xs.length) τ:=by
 induction xs with
 |nil=>intro k σ h0 h;exact⟨σ,rfl,h0⟩
 |cons x xs ih=>
  intro k σ h0 h;refine dS (h 0 x rfl σ h0) λτ e1 h1=>?_;obtain⟨sG,e2,h2⟩:=ih (k+1) τ h1 λi y e τ hp=>by have:=h (i+1) y e τ (by rwa[show k+(i+1)=k+1+i by exact Z9]);rwa[show k+(i+1)=k+1+i by exact Z9] at this
  exact⟨sG,iQ e1 e2,by rwa[show k+(x::xs).length=k+1+xs.length by rw[cZ];exact Z9]⟩
theorem qW(P:Nat->bo->Prop)(xs:List α)(σ:bo)(h0:P 0 σ)(h:∀(i:Nat)(x:α),xs[i]? =some x->∀τ,P i τ->∃sG,f (g x) τ=some (.next,sG)/\P (i+1) sG):∃τ,cR f (xs.map g) σ=some (.next,τ)/\P xs.length τ:=by
 have:=KC P xs 0 σ h0 λi x e τ hp=>by rw[cz] at hp ⊢;exact h i x e τ hp
 rwa[cz] at this
variable{B:List d9}{d:Nat}{x:d9}{st:List SO}{was:List Nat}{wvs:List SV}{c:List Nat}{S:Nat->List Nat}{L:List (Nat×Nat)}
noncomputable def xt(c:List Nat)(B:List d9):Nat->Nat->List Nat
 |0=>λz=>[]
 |n+1=>match (PS B)[n]? with
  |some p=>qQ c B (xt c B n) n p
  |none=>xt c B n
noncomputable def dtV(l:List Nat):SV:=.hH (l.map λi:Nat=>SV.int i)<|l.map λz=>SV.bool true
def DV(S:Nat->List Nat)(L:List (Nat×Nat)):SV:=.hH (L.map λp=>SV.int p.1)<|L.map λp=>dtV<|S p.1
def srt(l:List Nat):List Int:=iX (l.map λi:Nat=>(i:Int))
def QN(l:List Nat):SV:=.lst<|(srt l).map .int
def TV(S:Nat->List Nat)(L:List (Nat×Nat)):SV:=.hH (L.map λp=>SV.int p.1)<|L.map λp=>QN<|S p.1
theorem T9:∀(L:List (Nat×Nat))(n:Nat)(st:List SO),(∀p∈L,st[p.2]? =some (DN<|S p.1))->(L.map λp=>p.2).Nodup->L.length+2<n->∃st',st'.length=st.length/\(∀a,(∀p∈L,p.2≠a)->st'[a]? =st[a]?)/\b4 n (L.map λp=>SV.h p.2) st=some (L.map λp=>dtV<|S p.1,st'):=λL=>by
 induction L with
 |nil=>intro n st h hd hn;refine fT (mG<|cN<|QE hn) λn zz1=>?_;subst zz1;exact Aw st rfl (λz z=>rfl) rfl
 |cons p L ih=>intro n st h hd hn;obtain⟨n,rfl⟩:∃q,n=q+3:=⟨n-3,(vh<|ah (show 3<=L.length+1+2 from fS ..)<|be hn).symm⟩;have h1:=h p (ax ..);rw[cS] at hd;refine kg (eW.mp hd) λhd1 hd2=>?_;have ne:∀u∈L,p.2≠u.2:=λu hu q=>hd1<|q▸bI.mpr ⟨u,hu,rfl⟩;refine u6 (ih (n+2) (st.set p.2 .gone) (λu hu=>cC (h u<|az _ hu)<|ne u hu) hd2<|Fl hn) λs' hl hs e=>Aw s' (by rw[hl,fP]) (λa ha=>?_)<|gZ rfl (mT h1 (eN (λz=>rfl) _)<|eN (λz=>rfl) _) e;rw[hs a λu hu=>ha u<|az _ hu,bV<|ha p (ax ..)]
theorem yT(l:List Nat):jT (l.map λi:Nat=>SV.int i)=some (l.map λi:Nat=>(i:Int)):=by
 induction l with
 |nil=>exact rfl
 |cons i l ih=>show(jT (l.map λi:Nat=>SV.int i)).map _=_;rw[ih];rfl
theorem Xx(L:List (Nat×Nat))(vs:List SV):vE (.hH (L.map λp=>SV.int p.1) vs)=some (L.map λp=>SV.int p.1):=by have:=yT<|L.map λp=>p.1;rw[jW] at this;show(jT<|L.map λp=>SV.int p.1).map _=_;exact iB this rfl
def dcF(C:bT):SV->bo->Option (SV×SV×bo):=λx τ=>(dm td x τ).bind λτ=>(cj C MM bK τ).bind λq=>(cj C MM (.bi .sorted [.sub dR bK]) q.2).map λr=>(q.1,r.1,r.2)
theorem TJ(nd:(L.map λp=>p.1).Nodup)(h:L[j]? =some p):L.findIdx? (λu=>u.1==p.1)=some j:=by obtain⟨hj,e⟩:=af.mp h;refine bA.mpr ⟨hj,by rw[e];exact beq_self_eq_true _,λi hi q=>?_⟩;have h2:L[i]? =some (L[i]'(qB hi hj)):=ay _;have:=(jv (j:=j) (by rw[ag];exact qB hi hj) nd).mp (by rw[ai,ai,h2,h];exact congrArg some<|beq_iff_eq.mp q);exact aff hi this
theorem Uw(hS:∀r,(S r).length<64)(nd:(L.map λp=>p.1).Nodup)(hlen:L.length<=6)(h0:s[0]? =some (.cell<|some<|DV S L))(L2:List (Nat×Nat)):∀(L1:List (Nat×Nat))(q:OS),L1++L2=L->∃q',uR (dcF C) (L1.map λp=>SV.int p.1) (L1.map λp=>QN<|S p.1) (L2.map λp=>SV.int p.1) ⟨[.un,jh q,.un,.cell 0],s⟩=some (L.map λp=>SV.int p.1,L.map λp=>QN<|S p.1,⟨[.un,jh q',.un,.cell 0],s⟩):=by
 induction L2 with
 |nil=>intro L1 q h;exact⟨q,by rw[bj] at h;subst h;rfl⟩
 |cons p L2 ih=>
  intro L1 q h;obtain⟨q',e⟩:=ih (L1++[p]) (some<|.int p.1) (by rw[aO];exact h);refine⟨q',?_⟩;let G:bo:=⟨[.un,.val<|.int p.1,.un,.cell 0],s⟩;have hp:L[L1.length]? =some p:=by rw[<-h,aA<|aG _,bF];rfl
  have hnew:L1.findIdx? (λu=>u.1==p.1)=none:=by
   rw[bU];intro u hu;have:u.1≠p.1:=λq=>by rw[<-h,bf] at nd;exact(c9.mp nd).2.2 u.1 (bI.mpr ⟨u,hu,rfl⟩) p.1 (bI.mpr ⟨p,ax ..,rfl⟩) q
   simpa using this
  have l3:cj C MM dR G=some (DV S L,G):=by show(((s[0]?.bind pD).bind id).map λv=>(v,G))=_;rw[h0];rfl
  have sb:gi s (DV S L) (.int p.1)=some (dtV<|S p.1):=MY rfl ((nZ p.1 L).trans<|congrArg some<|TJ nd hp) (by rw[ai,hp];rfl);have so:zj .sorted [dtV<|S p.1] G=some (QN<|S p.1,G):=by refine iB ?_ rfl;show(OT G.st<|dtV<|S p.1).bind (λis=>gd (decide<|is.length<64)<|SV.lst<|(iX is).map .int)=_;show(jT ((S p.1).map λi:Nat=>SV.int i)).bind _=_;rw[yT];show gd (decide<|((S p.1).map λi:Nat=>(i:Int)).length<64) _=_;rw[kO (by rw[ag];exact decide_eq_true<|hS p.1)];rfl
  have fx:dcF C (.int p.1) ⟨[.un,jh q,.un,.cell 0],s⟩=some (.int p.1,QN<|S p.1,G):=
   aP (a:=G) (by cases q<;>rfl) (aP rfl<|iB (uT (eT<|bS l3 rfl sb) so) rfl)
  refine aP fx<|aP ((nZ p.1 L1).trans<|congrArg some hnew) ?_;have hl1:L1.length<=6:=by rw[<-h,aj] at hlen;exact Nat.le_of_add_right_le hlen
  rw[kO (by rw[ag,decide_eq_true<|ah hl1<|by decide];rfl)];rw[bf,bf] at e;exact e
theorem Y3(F:FI st S L)(hS:∀r,(S r).length<64):∃st',cj C MM (.AX [none,none,none,some 5] bK (.bi .sorted [.sub dR bK]) td<|.rl 5) (FRx z0 z1 z2 z3 z4 z8 z9 k zp q1 q2 st)=some (TV S L,FRx z0 z1 z2 z3 z4 z8 z9 k zp q1 q2 st'):=by
 have hlen:=Ij F;obtain⟨s1,hl,hs,e1⟩:=T9 L 49 (st.set 1 .gone) (λp hp=>by refine kg (F.at_ p hp) λa b=>cC b<|adL a) F.ad (aF (gC hlen 2)<|by decide);have f1:freeze fz (.h 1) st=some (DV S L,s1):=by show(st[1]?.bind _)=_;rw[F.h1];show(gd (b8<|L.map λp=>SV.int p.1) ()).bind (λz=>(b4 49 (L.map λp=>SV.h p.2)<|st.set 1 .gone).map _)=_;rw[kO<|eN (λz=>rfl) _];exact iB e1 rfl
 have h0:s1[0]? =some (.cell<|some<|.h 1):=by rw[hs 0 λp hp q=>by have:=(F.at_ p hp).1;exact afd q this];exact cC F.h0<|adQ
 let s2:List SO:=s1.set 0<|.cell<|some<|DV S L;have h2:s2[0]? =some (.cell<|some<|DV S L):=pF h0;let K:List SO->bo:=λs=>FRx z0 z1 z2 z3 z4 z8 z9 k zp q1 q2 s;have fz5:cj C MM (.rl 5) (K st)=some (DV S L,K s2):=by show((st[0]?.bind pD).bind id).bind _=_;rw[F.h0];show(freeze fz (.h 1) st).bind _=_;rw[f1];show((s1[0]?.bind pD).map _).map _=_;rw[h0];rfl
 refine fT (Uw (C:=C) hS F.nd hlen h2 L [] none rfl) λq' e3=>⟨s2,aP fz5<|aP (Xx L _)<|aP e3 ?_⟩;show gd (b8<|L.map λp=>QN<|S p.1) _=_;rw[kO<|eN (λz=>rfl) _];rfl
theorem Yy:prog.fns 514=some Uh:=rfl
theorem R3(i:Nat):i<=n->Lz (xt c B i) n:=by
 induction i with
 |zero=>intro _;exact λr=>⟨gq,λz h=>absurd h aK⟩
 |succ i ih=>
  intro h;have:=ih<|cL h;show Lz (match (PS B)[i]? with|some p=>qQ c B (xt c B i) i p|none=>xt c B i) n;cases(PS B)[i]? with
  |none=>exact this
  |some p=>
   show Lz (if _ then _ else _) n;split
   ·refine zi h _ ?_;split
    ·exact zi h _ this
    ·exact this
   ·split
    ·exact zi h _ this
    ·exact this
theorem aht(hc:c∈fq)(hL:1∈Lk)(hN:(PS B).length<64):∃L,(L.map λp=>p.1).Nodup/\(∀r,(∀p∈L,p.1≠r)->xt c B (PS B).length r=[])/\
  EV (d+16) (gu 514) [BD B,.inst 662 JM JL,.lst<|(PS B).map bg,Lw B,Lu c B JM JL Lk] st=some (TV (xt c B (PS B).length) L,st):=by
 let R:SV:=.lst<|(PS B).map bg
 let W:SV:=.inst 662 JM JL
 let M:SV:=Lu c B JM JL Lk
 let z8:SV:=.tup [TY,.bool true,tS "t"]
 let z9:SV:=.lst [.int 1,.int 3]
 let K:OS->OS->OS->OS->List SO->bo:=FRx (BD B) W R (Lw B) M z8 z9
 let P:Nat->bo->Prop:=λi τ=>∃k zp q1 q2 s L,τ=K k zp q1 q2 s/\FI s (xt c B i) L
 have t5:∀i,i<=(PS B).length->Lz (xt c B i) (PS B).length:=λi h=>R3 i h
 have hF0:FI [.cell<|some<|.h 1,.dict [] [],.list RP,.list Uq,.gone,.gone] (xt c B 0) []:=⟨rfl,rfl,rfl,rfl,gq,gq,λz h=>absurd h aK,λz h=>absurd h aK,λz z=>rfl⟩
 obtain⟨τ,e,k,zp,q1,q2,s,L,rfl,F⟩:=qW (f:=λx τ=>(dm (.many [10,11]) x τ).bind λτ=>cX (EV<|d+15) MM Qm τ) (g:=λq:(Nat×Nat)×Nat=>SV.tup [.int q.2,bg q.1]) P (PS B).zipIdx (K none none none none [.cell<|some<|.h 1,.dict [] [],.list RP,.list Uq,.gone,.gone]) ⟨none,none,none,none,_,_,rfl,hF0⟩ λi q hq τ hP=>by
  obtain⟨k,zp,q1,q2,s,L,rfl,F⟩:=hP;rw[mA,bq] at hq;refine dS hq λp hp zz2=>?_;subst zz2;have hi:=(af.mp hp).1;obtain⟨s1,L1,p1,p2,F1,_,e1⟩:=RQ hc hL (aI hp) hi (by show _<=4000;exact afc hN) F (t5 i<|be hi) (BD B) W R z8 z9 q1 q2;have hs:xt c B (i+1)=qQ c B (xt c B i) i p:=by show(match (PS B)[i]? with|some p=>qQ c B (xt c B i) i p|none=>xt c B i)=_;rw[hp]
  refine⟨FR (BD B) W R (Lw B) M z8 z9 (bg p) i p1 p2 s1,aP (a:=FR (BD B) W R (Lw B) M z8 z9 (bg p) i q1 q2 s) ?_ e1,⟨some<|.int i,some<|bg p,p1,p2,s1,L1,rfl,hs▸F1⟩⟩;show pG [10,11] [.int (0+i:Nat),bg p] (K k zp q1 q2 s)=_;rw[cz];cases k<;>cases zp<;>rfl
 rw[u4] at F
 refine fT (Y3 (C:=EV<|d+15) (z0:=BD B) (z1:=W) (z2:=R) (z3:=Lw B) (z4:=M) (z8:=z8) (z9:=z9) (k:=k) (zp:=zp) (q1:=q1) (q2:=q2) F λr=>aF (BY _ _ (t5 _ (aG _) r).1 (t5 _ (aG _) r).2) hN) λs' e2=>Aw L F.nd F.no ?_
 have pre:=Xu d (.lst<|tZ B) R [38,39,40,41,42] [.hH ((PS B).map bg)<|(PS B).map<|uV B,.hH ((PS B).map bg)<|(PS B).map<|dV B,.hH ((PS B).map bg)<|(PS B).map<|sV B,.hH ((KS B).map bg)<|(KS B).map λp=>fB<|FP B (Gu B) p,.hH ((KS B).map bg)<|(KS B).map λp=>fB<|FP B (Gd B) p] [14,28,29,30] [BD B,PTx (.lst<|tZ B) (tN TY) JM JL (EY c) (Gy c) ((GV c).map SV.lst) (EY c) (DO c) (Lk.map λi:Nat=>SV.int i)<|Lk.map λn=>.lst<|Ah c n,.hH ((PS B).map bg)<|(PS B).map λp=>.lst<|CW c<|wP B p,.hH ((PS B).map bg)<|(PS B).map<|pV c B]
 have it:lH .enum [R]=some ((PS B).zipIdx.map λq:(Nat×Nat)×Nat=>SV.tup [.int q.2,bg q.1]):=by show some (((PS B).map bg).zipIdx.map _)=_;rw[Rg,jW];rfl
 have body:cX (EV<|d+15) MM Uh.body ⟨[.val<|BD B,.val W,.val R,.val<|Lw B,.val M,.cell 0,.un,.un,.un,.un,.un,.un,.un,.un,.un,.un,.un,.un,.un],[.cell none]⟩=some (.ret<|TV (xt c B (PS B).length) L,K k zp q1 q2 s'):=by refine(yh pre).trans<|aZ (gy (eT rfl) it rfl e)<|hY<|ff e2
 exact bR Yy rfl rfl rfl body rfl
end
def wO:W->Str
 |.set=>o "set"|.use=>o "use"|.rest=>o "rest"|.drop=>o "drop"|.d0=>o "drop 0"|.d1=>o "drop 1"|.d2=>o "drop 2"
def wS(w:W):SV:=.str<|wO w
def wD(w:W):PyData:=.str<|wO w
noncomputable def wN:W->Nat
 |.set=>0|.use=>1|.rest=>2|.drop=>3|.d0=>4|.d1=>5|.d2=>6
def H2(a b:W):Bool:=wN a==wN b
noncomputable def W7:List W:=[.set,.use,.rest,.drop,.d0,.d1,.d2]
theorem Bt(w:W):w∈W7:=by cases w<;>simp[W7]
theorem H0:H2 a b=true↔a=b:=by
 constructor
 ·intro h;cases a<;>cases b<;>first|rfl|exact ae h
 ·rintro rfl;exact beq_self_eq_true<|wN a
theorem VJ(w:W):m6 (wS w)=some (wD w):=eU (f:=λw=>m6<|wS w) (g:=λw=>some<|wD w) (by kernel_rfl) w<|Bt w
theorem acx(x a:W):bp (wD x) (wD a)=H2 x a:=eU (eU (f:=λx=>W7.map λa=>bp (wD x)<|wD a) (g:=λx=>W7.map λa=>H2 x a) (rfl) x<|Bt x) a<|Bt a
theorem Hh(i:Nat)(w:W)(C:bT)(τ:bo)(h:mq i τ=some (wS w)):cj C MM (iJ (.kb (.loc i)<|.int 4)<|.str<|sr 13) τ=some (.bool<|yR w,τ):=by
 have e1:cj C MM (.kb (.loc i)<|.int 4) τ=some (.str<|o (if yR w then "drop" else(match w with|.set=>"set"|.use=>"use"|_=>"rest")),τ):=by refine aP (iB h rfl)<|aP (a:=(.int 4,τ)) rfl ?_;cases w<;>kernel_rfl
 refine d7 e1 rfl ?_;cases w<;>kernel_rfl
theorem H5(ws:List W):fR (ws.map wS)=some (ws.map wD):=by
 induction ws with
 |nil=>exact rfl
 |cons w ws ih=>show(m6<|wS w).bind (λd=>(fR<|ws.map wS).map λds=>d::ds)=_;rw[ih,VJ];rfl
theorem Ej(a:W)(ws:List W):s9 (wS a) (ws.map wS)=some (ws.findIdx? λx=>H2 x a):=by show(m6<|wS a).bind (λd=>(fR<|ws.map wS).bind λds=>gd (decide<|d.depth<=cw)<|ds.findIdx? λx=>bp x d)=_;rw[VJ,H5];show gd true ((ws.map wD).findIdx? λx=>bp x<|wD a)=_;rw[jx];show some _=some _;congr 2;funext x;exact acx x a
def j5(a:W)(ws:List W):Bool:=ws.any λx=>H2 x a
theorem Cd(a:W)(ws:List W):(ws.findIdx? λx=>H2 x a).isSome=j5 a ws:=sM
theorem OX{st:List SO}(a:W)(ws:List W):jB st .isIn (wS a) (.lst<|ws.map wS)=some (j5 a ws):=by show(s9 (wS a)<|ws.map wS).map (·.isSome)=_;rw[Ej];exact congrArg some<|Cd a ws
theorem SR{st:List SO}(a:W)(ws:List W):jB st .kL (wS a) (.lst<|ws.map wS)=some (!j5 a ws):=iB (OX (st:=st) a ws) rfl
def nj(a:W)(ws:List W):List W:=match ws.findIdx? λx=>H2 x a with
 |some i=>ws.take i
 |none=>ws
theorem xY(ws:List W):b8 (ws.map wS)=true:=eN (λz=>rfl) _
theorem OA(h:n<=eA)(hi:i<=eA):uX n i=true:=by show(decide (n<=eA)&&decide ((i:Int).natAbs<=eA))=true;rw[decide_eq_true h,decide_eq_true (show(i:Int).natAbs<=eA from hi)];rfl
theorem Nu{ws:List W}(h:ws.length<=eA)(hi:i<=eA):kc σ (.lst<|ws.map wS) (.int i)=some (.lst<|(ws.drop i).map wS,σ):=by
 show gd (uX (ws.map wS).length i) (dN false ((ws.map wS).drop<|dX (ws.map wS).length i) σ)=_;rw[kO<|OA (by rw[ag];exact h) hi];have e:(ws.map wS).drop (dX (ws.map wS).length i)=(ws.drop i).map wS:=by
  show(ws.map wS).drop (min i (ws.map wS).length)=_;rw[uc];by_cases q:i<=(ws.map wS).length
  ·rw[fc q]
  ·rw[qn<|ar7 q,p7,qt<|ar7 q]
 rw[e,rU<|xY _]
theorem Nr{ws:List W}(h:ws.length<=eA)(hi:i<=eA):kb σ (.lst<|ws.map wS) (.int i)=some (.lst<|(ws.take i).map wS,σ):=by
 show gd (uX (ws.map wS).length i) (dN false ((ws.map wS).take<|dX (ws.map wS).length i) σ)=_;rw[kO<|OA (by rw[ag];exact h) hi];have e:(ws.map wS).take (dX (ws.map wS).length i)=(ws.take i).map wS:=by
  show(ws.map wS).take (min i (ws.map wS).length)=_;rw[mh];by_cases q:i<=(ws.map wS).length
  ·rw[fc q]
  ·rw[qn<|ar7 q,cY,dG<|ar7 q]
 rw[e,rU<|xY _]
theorem abF{ws:List W}(h:ws.length<=eA)(hi:(ws.findIdx? λx=>H2 x a)=some i):iA (.lst<|ws.map wS) 3 [wS a] σ=some (.int i,σ):=by refine iB (?_:vJ σ.st (.lst<|ws.map wS) [wS a]=_) rfl;unfold vJ;exact aP rfl<|aP rfl<|aP (uO (by rw[ag];exact h))<|aP ((Ej a ws).trans<|congrArg some hi) rfl
theorem Wg{ws:List W}(hs:.str s=wS .set)(h:ws.length<=eA)(hl:mq i σ=some (.lst<|ws.map wS))(hv:cj C MM e2 σ=some (v,σ)):
  cj C MM (.ite (.cmp .isIn (.str s)<|.loc i) (.kb (.loc i)<|.bx (.loc i) 3 [.str s]) e2) σ=some (match j5 .set ws with|true=>.lst ((nj .set ws).map wS)|false=>v,σ):=by
 have l0:cj C MM (.loc i) σ=some (.lst<|ws.map wS,σ):=iB hl rfl
 have s0:cj C MM (.str s) σ=some (wS .set,σ):=by rw[<-hs];rfl
 have c0:=d7 s0 l0<|OX .set ws
 cases q:j5 .set ws with
 |false=>rw[q] at c0;exact Wc c0 hv
 |true=>
  rw[q] at c0;rw[<-Cd] at q;obtain⟨j,hj⟩:=ie.mp q;have hjl:j<=eA:=by have:=(bA.mp hj).1;exact afb h this
  refine e_t c0 ?_;have:nj .set ws=ws.take j:=by unfold nj;rw[hj]
  rw[this];exact aP l0<|aP (jj l0 rfl rfl (eT s0)<|abF h hj)<|Nr h hjl
theorem Oi{st:List SO}(ws:List W):jB st .ne (.lst<|ws.map wS) (.lst [])=some (!ws.isEmpty):=by show(((fR<|ws.map wS).map rF).bind λda=>(pA st<|.lst []).bind λdb=>gd (decide<|min da.depth db.depth<=cw)<|bp da db).map (!·)=_;rw[H5];show(gd (decide<|min _ (rF []).depth<=cw)<|bp (.list<|ws.map wD)<|.list []).map _=_;rw[kO<|decide_eq_true<|ah (dW _ _)<|by decide];cases ws<;>rfl
def lh(ws:List W)(i:Nat):List W:=nj .set<|ws.drop i
def uD(ws:List W)(i:Nat):Bool:=(lh ws i).any yR
def gone(ws:List W)(i:Nat):Bool:=match j5 .set (ws.take i).reverse with
 |true=>j5 .drop<|nj .set (ws.take i).reverse
 |false=>true
def oG(ws:List W)(i:Nat):List Nat:=if j5 .use (lh ws i) then [1,2,3,4,5] else if uD ws i&&!gone ws i then [1,3] else []
theorem Pq:prog.fns 720=some abS:=by kernel_rfl
theorem KO(ws:List W)(i:Nat):(lh ws i).length<=ws.length:=by
 unfold lh nj;split
 ·rw[cm,f9];exact afa
 ·rw[f9];omega
def Z0(ws:List W)(i:Nat)(a b c:LV)(st:List SO):bo:=⟨[.val<|.lst<|ws.map wS,.val<|.int i,a,b,c],st⟩
theorem Y8(h:j5 .set ws=false):nj .set ws=ws:=by
 unfold nj;rw[<-Cd] at h;cases e:ws.findIdx? λx=>H2 x .set with
 |none=>rfl
 |some j=>rw[e] at h;exact ae h
theorem NG{ws:List W}(h:ws.length<=1000)(hi:i<=1000)
  (k:cX C MM r (Z0 ws i (.val<|.lst<|(lh ws i).map wS) .un .un [])=R):cX C MM (fj 2 (.kc b0 bK)::fj 2 (.ite (.cmp .isIn (.str<|sr 40) dq) (.kb dq<|.bx dq 3 [.str<|sr 40]) dq)::r) (Z0 ws i .un .un .un [])=R:=by
 refine aZ (bO (aP rfl<|aP rfl<|Nu (by show _<=4000;exact ar3 h) (by show _<=4000;exact ar3 hi)) rfl)<|aZ (bO (Wg rfl (by rw[f9];show _<=4000;omega) rfl rfl) ?_) k
 have:(match j5 .set (ws.drop i) with|true=>SV.lst ((nj .set<|ws.drop i).map wS)|false=>.lst<|(ws.drop i).map wS)=.lst ((lh ws i).map wS):=by
  unfold lh;cases q:j5 .set (ws.drop i) with
  |true=>rfl
  |false=>show _=SV.lst ((nj .set<|ws.drop i).map wS);rw[Y8 q]
 rw[this];rfl
theorem wc{α:Type}{f:SV->bo->Option (List SV×bo)}{g:α->SV}{t:α->Bool}{F:OS->bo}(xs:List α):∀(acc:List SV)(q:OS),(∀x∈xs,∀q,f (g x) (F q)=some (match t x with|true=>[g x]|false=>[],F<|some<|g x))->∃q',gM f acc (xs.map g) (F q)=some (acc++(xs.filter t).map g,F q'):=by
 induction xs with
 |nil=>intro acc q _;exact⟨q,by rw[nG,List.filter_nil,nG,bj];rfl⟩
 |cons x xs ih=>
  intro acc q H;obtain⟨q',e⟩:=ih (acc++(match t x with|true=>[g x]|false=>[])) (some<|g x) λy hy=>H y<|az _ hy;refine⟨q',aP (H x (ax ..) q) ?_⟩;rw[e];cases ht:t x with
  |true=>rw[C7 (by rw[ht]),cS,aO];rfl
  |false=>rw[C8 (by rw[ht];exact ae),bj]
theorem P6{ws:List W}{σ:bo}(hfr:i4 fr σ.loc=[.un,.un])(h:ws.length<=eA)(he:cj C MM e σ=some (.lst<|ws.map wS,σ)):
  cj C MM (.comp false fr bK td .over [e] [iJ (.kb bK<|.int 4)<|.str<|sr 13]) σ=some (.lst<|(ws.filter yR).map wS,σ):=by
 obtain⟨q',e1⟩:=wc (f:=λx τ=>(dm td x τ).bind λτ=>(kP C MM [iJ (.kb bK<|.int 4)<|.str<|sr 13] τ).bind λq=>(gh q.1).bind λb=>match b with
    |true=>(cj C MM bK q.2).map λr=>([r.1],r.2)
    |false=>some ([],q.2)) (t:=yR) (F:=λq=>⟨[.un,jh q],σ.st⟩) ws [] none λw z q=>by
  refine aP (a:=⟨[.un,.val<|wS w],σ.st⟩) (by cases q<;>rfl) ?_
  have d1:=Hh 1 w C ⟨[.un,.val<|wS w],σ.st⟩ rfl
  cases hd:yR w with
  |true=>rw[hd] at d1;exact aP (aP d1<|aP rfl rfl)<|aP rfl rfl
  |false=>rw[hd] at d1;exact aP (aP d1<|aP rfl rfl)<|aP rfl rfl
 have e2:=Cu (m:=false) rfl (eT he) (ik:=.over) rfl rfl (by rw[hfr];exact e1) (by rw[eX,ag];exact ah (rH ..) h)
 rw[eX,rU<|xY _] at e2
 exact e2
theorem ZP(t:α->Bool)(l:List α):(!(l.filter t).isEmpty)=l.any t:=by
 induction l with
 |nil=>exact rfl
 |cons x l ih=>
  rw[mi,<-ih];cases h:t x with
  |true=>rw[C7 h];rfl
  |false=>rw[C8 (by rw[h];exact ae)];rfl
theorem ahg{ws:List W}{i d:Nat}{st:List SO}(h:ws.length<=1000)(hi:i<=1000):EV (d+1) (gu 720) [.lst<|ws.map wS,.int i] st=some (.lst ((oG ws i).map λi:Nat=>SV.int i),st):=by
 let lt:SV:=.lst<|(lh ws i).map wS;have hll:=ah (KO ws i) (by show _<=4000;exact ar3 h);let A:List W:=(ws.take i).reverse;have hA:A.length<=eA:=by show((ws.take i).reverse).length<=4000;rw[fF,cm];exact adA h hi
 let F:LV->LV->List SO->bo:=λb c s=>Z0 ws i (.val lt) b c s;have c1:cj (EV d) MM (.cmp .isIn (.str<|sr 19) dq) (F .un .un [])=some (.bool<|j5 .use<|lh ws i,F .un .un []):=d7 rfl rfl<|OX (st:=[]) .use<|lh ws i;unfold oG;cases hu:j5 .use (lh ws i) with
 |true=>rw[hu] at c1;exact bR Pq rfl (by show((SV.lst<|ws.map wS).free&&true)=true;rfl) rfl (NG h hi<|tq<|CV c1<|hY rfl) (by kernel_rfl)
 |false=>
  rw[hu] at c1;have c2:cj (EV d) MM (.yp<|.kb b0 bK) (F .un .un [])=some (.lst<|A.map wS,F .un .un []):=by refine aP (aP rfl<|aP rfl<|Nr (σ:=F .un .un []) (i:=i) (ws:=ws) (by show _<=4000;exact ar3 h) (by show _<=4000;exact ar3 hi))<|aP (a:=(ws.take i).map wS) rfl ?_;rw[<-List.map_reverse,rU<|xY _];exact uO (by rw[ag,cm];show _<=4000;exact adA h hi)
  have c4:∀{b s},cj (EV d) MM (.cmp .ne (.comp false [none,none] bK td .over [.rl 2] [iJ (.kb bK<|.int 4)<|.str<|sr 13])<|.list false []) (F b .un s)=some (.bool<|uD ws i,F b .un s):=λ{b s}=>by refine d7 (y:=.lst []) (P6 (σ:=F b .un s) (ws:=lh ws i) rfl hll rfl) rfl<|(Oi _).trans ?_;unfold uD;rw[ZP]
  have fin:∀(b:SV)(s:List SO),iy 3 b (F (.val<|.lst<|A.map wS) .un s)=some (F (.val b) .un s)->
   cj (EV d) MM (.ite (.cmp .isIn (.str<|sr 40) dR) (.kb dR<|.bx dR 3 [.str<|sr 40])<|.list true [.str<|sr 13]) (F (.val<|.lst<|A.map wS) .un [])=some (b,F (.val<|.lst<|A.map wS) .un s)->
   jB s .kL (wS .drop) b=some (!gone ws i)->
   EV (d+1) (gu 720) [.lst<|ws.map wS,.int i] st=some (.lst ((if uD ws i&&!gone ws i then [1,3] else []).map λi:Nat=>SV.int i),st):=λb s h1 h2 h3=>by
   have k:cj (EV d) MM (.and [fu,.cmp .kL (.str<|sr 13) dR]) (F (.val b) (.val<|.bool<|uD ws i) s)=some (.bool<|uD ws i&&!gone ws i,F (.val b) (.val<|.bool<|uD ws i) s):=by
    cases uD ws i with
    |false=>exact lO rfl
    |true=>
     have q:=d7 (C:=EV d) (M:=MM) (op:=.kL) (hM:=.str<|sr 13) (jH:=dR) (σ:=F (.val b) (.val<|.bool true) s) (aq:=F (.val b) (.val<|.bool true) s) (x:=wS .drop) (y:=b) rfl rfl h3;refine lN rfl ?_;cases hg:gone ws i with
     |true=>rw[hg] at q;exact lO q
     |false=>rw[hg] at q;exact lN q rfl
   refine bR Pq rfl (by show((SV.lst<|ws.map wS).free&&true)=true;rfl) rfl (NG h hi<|aZ (xg c1 rfl)<|aZ (τ:=F (.val<|.lst<|A.map wS) .un []) (bO c2 rfl)<|aZ (bO h2 h1)<|aZ (τ:=F (.val b) (.val<|.bool<|uD ws i) s) (bO c4 rfl)<|tq<|BP<|Ct k) ?_;cases uD ws i&&!gone ws i with
   |true=>show((s++[SO.list [.int 1,.int 3]])[s.length]?.bind _).map _=_;rw[EH];rfl
   |false=>show((s++[SO.list []])[s.length]?.bind _).map _=_;rw[EH];rfl
  have l3:mq 3 (F (.val<|.lst<|A.map wS) .un [])=some (.lst<|A.map wS):=rfl;cases hs:j5 .set A with
  |true=>
   have e1:=Wg (C:=EV d) (s:=sr 40) (σ:=F (.val<|.lst<|A.map wS) .un []) (i:=3) (ws:=A) (e2:=.none) (v:=.none) rfl hA l3 rfl;rw[hs] at e1;have c3:cj (EV d) MM (.cmp .isIn (.str<|sr 40) dR) (F (.val<|.lst<|A.map wS) .un [])=some (.bool true,F (.val<|.lst<|A.map wS) .un []):=hs▸d7 rfl rfl (OX (st:=[]) .set A);have e2:=(Ct (jH:=.none) c3).symm.trans e1;refine fin (.lst<|(nj .set A).map wS) [] rfl (e_t c3 e2) ?_
   ·refine(SR .drop<|nj .set A).trans ?_;unfold gone;show _=some (!match j5 .set A with|true=>j5 .drop (nj .set A)|false=>true);rw[hs]
  |false=>have c3:cj (EV d) MM (.cmp .isIn (.str<|sr 40) dR) (F (.val<|.lst<|A.map wS) .un [])=some (.bool false,F (.val<|.lst<|A.map wS) .un []):=hs▸d7 rfl rfl (OX (st:=[]) .set A);refine fin (.h 0) [.list [wS .drop]] rfl (Wc c3 rfl) ?_;unfold gone;show _=some (!match j5 .set A with|true=>j5 .drop (nj .set A)|false=>true);rw[hs];kernel_rfl
def zD(s:List d9×List W)(w:W):List d9×List W:=match yR w with
 |true=>(s.1++[(s.2,some w)],[])
 |false=>(s.1,s.2++[w])
def oP(ws:List W):List d9×List W:=ws.foldl zD ([],[])
noncomputable def Bo(s:List d9×List W):List d9:=s.1++[(s.2,none)]
def lJ(ws:List W):List d9:=Bo<|oP ws
noncomputable def xf(s:List d9×List W):Nat×Nat:=(s.1.length,s.2.length)
def Ia(ws:List W):List (Nat×Nat):=(ak ws.length).map λi=>xf<|oP<|ws.take i
theorem uC(A:List d9)(x:d9):PS (A++[x])=PS A++(ak<|x.1.length+1).map λi=>(A.length,i):=by
 have h:(A++[x])[A.length]? =some x:=by rw[aA<|aG _,bF];rfl
 have:=mK h;rw[Vs] at this;rw[<-this,dG (by rw[aj];exact aG _)]
theorem Xr(s:List d9×List W)(w:W):PS (Bo<|zD s w)=PS (Bo s)++[xf<|zD s w]:=by
 obtain⟨D,cur⟩:=s;unfold zD;cases h:yR w with
 |true=>show PS ((D++[(cur,some w)])++[([],none)])=PS (D++[(cur,none)])++[((D++[(cur,some w)]).length,0)];rw[uC,uC,uC];rfl
 |false=>show PS (D++[(cur++[w],none)])=PS (D++[(cur,none)])++[(D.length,(cur++[w]).length)];rw[uC,uC];show PS D++(ak<|(cur++[w]).length+1).map (λi=>(D.length,i))=_;rw[eV,bf,aj,aO];rfl
theorem qR(ws:List W)(w:W):oP (ws++[w])=zD (oP ws) w:=by unfold oP;rw[jw];rfl
theorem rI{α:Type}{l:List α}{x:α}(h:l[n]? =some x):l.take (n+1)=l.take n++[x]:=by rw[ij,h];rfl
theorem Ip(ws:List W):∀n,n<=ws.length->PS (lJ<|ws.take n)=((ak n).map λi=>xf<|oP<|ws.take i)++[xf<|oP<|ws.take n]:=by
 intro n;induction n with
 |zero=>intro _;rfl
 |succ n ih=>intro h;have hx:=ay h;unfold lJ at ih ⊢;rw[rI hx,qR,Xr,ih<|cL h,eV,bf,<-qR,<-rI hx];rfl
theorem Gq(ws:List W):PS (lJ ws)=Ia ws++[xf<|oP ws]:=by have:=Ip ws ws.length<|aG _;rwa[cY] at this
theorem RN(s:List d9×List W):wP (Bo s) (xf s)=none:=by obtain⟨D,cur⟩:=s;show((D++[(cur,none)])[D.length]?.bind λx=>wd x cur.length)=_;rw[aA<|aG _,bF];show wd (cur,none) cur.length=none;unfold wd;rw[if_neg<|cp _]
theorem WV(s:List d9×List W)(w:W):wP (Bo<|zD s w) (xf s)=some w:=by
 obtain⟨D,cur⟩:=s;unfold zD;cases h:yR w with
 |true=>show(((D++[(cur,some w)])++[([],none)])[D.length]?.bind λx=>wd x cur.length)=_;rw[aO,aA<|aG _,bF];show wd (cur,some w) cur.length=_;unfold wd;rw[if_neg<|cp _]
 |false=>show((D++[(cur++[w],none)])[D.length]?.bind λx=>wd x cur.length)=_;rw[aA<|aG _,bF];show wd (cur++[w],none) cur.length=_;unfold wd;rw[if_pos (by rw[aj];exact cJ _),aA<|aG _,bF];rfl
theorem WU(s:List d9×List W)(w:W)(hp:p∈PS (Bo s))(hne:p≠xf s):wP (Bo<|zD s w) p=wP (Bo s) p:=by
 obtain⟨D,cur⟩:=s;obtain⟨b,i⟩:=p;refine dS (lF.mp hp) λx hx hi=>?_;have hx:(D++[(cur,none)])[b]? =some x:=hx;have hb:=(af.mp hx).1;rw[aj] at hb;by_cases q:b<D.length
 ·show((Bo<|zD (D,cur) w)[b]?.bind λx=>wd x i)=(Bo (D,cur))[b]?.bind λx=>wd x i;congr 1;unfold zD Bo;cases h:yR w with
  |true=>show((D++[(cur,some w)])++[([],none)])[b]? =(D++[(cur,none)])[b]?;rw[aO,aL q,aL q]
  |false=>show(D++[(cur++[w],none)])[b]? =(D++[(cur,none)])[b]?;rw[aL q,aL q]
 ·have hbe:b=D.length:=by
   have:=hb
   exact adv q this
  subst hbe
  rw[aA<|aG _,bF] at hx
  obtain rfl:(cur,none)=x:=aa hx
  have hlt:=i8 (show i<=cur.length from hi) λe=>hne (by rw[e];rfl)
  have r:wP (Bo (D,cur)) (D.length,i)=cur[i]?:=by show((D++[(cur,none)])[D.length]?.bind λx=>wd x i)=_;rw[aA<|aG _,bF];show wd (cur,none) i=_;unfold wd;rw[if_pos hlt]
  rw[r]
  unfold zD
  cases h:yR w with
  |true=>show(((D++[(cur,some w)])++[([],none)])[D.length]?.bind λx=>wd x i)=_;rw[aO,aA<|aG _,bF];show wd (cur,some w) i=_;unfold wd;rw[if_pos hlt]
  |false=>show((D++[(cur++[w],none)])[D.length]?.bind λx=>wd x i)=_;rw[aA<|aG _,bF];show wd (cur++[w],none) i=_;unfold wd;rw[if_pos (by rw[aj];omega),aL hlt]
theorem RM(ws:List W):∀n,n<=ws.length->∀i,i<n->wP (lJ<|ws.take n) (xf<|oP<|ws.take i)=ws[i]?:=by
 intro n;induction n with
 |zero=>intro _ i h;exact absurd h<|gF _
 |succ n ih=>
  intro h i hi;have hx:=ay h;have e:=rI hx;by_cases q:i=n
  ·subst q;show wP (Bo<|oP<|ws.take<|i+1) _=_;rw[e,qR,WV,hx]
  ·have hlt:i<n:=ZJ hi q;have hp:=Ip ws n<|cL h;have hm:xf (oP<|ws.take i)∈(ak n).map λi=>xf (oP<|ws.take i):=bI.mpr ⟨i,cf.mpr hlt,rfl⟩;have nd:=qT<|lJ<|ws.take n;rw[hp] at nd;have hne:=(c9.mp nd).2.2 _ hm _<|aE.mpr rfl;rw[<-ih (cL h) i hlt];show wP (Bo<|oP<|ws.take<|n+1) _=wP (Bo<|oP<|ws.take n) _;rw[e,qR];exact WU _ _ (by show _∈PS (lJ<|ws.take n);rw[hp];exact mz _ hm) hne
theorem MN(ws:List W):(PS<|lJ ws).map (wP<|lJ ws)=ws.map some++[none]:=by
 rw[Gq,bf];congr 1
 ·unfold Ia;rw[jW];refine fC λi=>?_;rw[ai,ai];by_cases q:i<ws.length
  ·rw[bJ q];have:=RM ws ws.length (aG _) i q;rw[cY] at this;show some (wP (lJ ws)<|xf<|oP<|ws.take i)=_;rw[this,ay q];rfl
  ·rw[gW (by rw[au];exact ar8 q),gW<|ar8 q];rfl
 ·show [wP (Bo<|oP ws)<|xf<|oP ws]=_;rw[RN]
theorem Gp(ws:List W):(PS<|lJ ws).length=ws.length+1:=by rw[Gq,aj];unfold Ia;rw[ag,au];rfl
theorem VQ(ws:List W)(h:i<ws.length):(PS<|lJ ws)[i]? =some (xf<|oP<|ws.take i):=by rw[Gq];unfold Ia;rw[aL (by rw[ag,au];exact h),ai,bJ h];rfl
structure GB(s:List d9×List W)(n:Nat):Prop where
 len:s.1.length+s.2.length<=n
 each:∀x∈s.1,x.1.length<=n/\(∀w∈x.1,yR w=false)/\∃w,x.2=some w/\yR w=true
 cur:∀w∈s.2,yR w=false
theorem abQ(ws:List W):∀(s:List d9×List W)(n:Nat),GB s n->GB (ws.foldl zD s) (n+ws.length):=by
 induction ws with
 |nil=>intro s n h;exact h
 |cons w ws ih=>
  intro s n h;have h1:GB (zD s w) (n+1):=by
   unfold zD;cases q:yR w with
   |true=>
    refine⟨?_,λx hx=>?_,λw h=>absurd h aK⟩
    ·have:=h.len;rw[aj];show s.1.length+1+0<=_;exact ae9 this
    ·rcases ct.mp hx with hx|hx
     ·refine kg (h.each x hx) λa b=>⟨eR a,b⟩
     ·rw[aE.mp hx];have:=h.len;exact⟨by show s.2.length<=_;exact ae8 this,h.cur,w,rfl,q⟩
   |false=>
    refine⟨?_,λx hx=>?_,λu hu=>?_⟩
    ·have:=h.len;show s.1.length+(s.2++[w]).length<=n+1;rw[aj];show s.1.length+(s.2.length+1)<=_;exact eQ this
    ·refine kg (h.each x hx) λa b=>⟨eR a,b⟩
    ·rcases ct.mp hu with hu|hu
     ·exact h.cur u hu
     ·rw[aE.mp hu];exact q
  have:=ih (zD s w) (n+1) h1;rw[show n+1+ws.length=n+(w::ws).length by rw[cZ];exact ar2] at this;exact this
theorem Pc(ws:List W):GB (oP ws) ws.length:=by have:=abQ ws ([],[]) 0 ⟨aG _,λz h=>absurd h aK,λz h=>absurd h aK⟩;rwa[cz] at this
theorem Xz{ws:List W}(h:ws.length<=30):nu (lJ ws):=by
 have g:=Pc ws;refine⟨?_,λx hx=>?_,λb x hx=>?_⟩
 ·have:=g.len;show((oP ws).1++[_]).length<=40;rw[aj];exact ae7 h this
 ·rcases ct.mp hx with hx|hx
  ·obtain⟨a,b,w,e,q⟩:=g.each x hx;exact⟨ae6 h a,b,λu hu=>by rw[e] at hu;rw[<-aa hu];exact q⟩
  ·rw[aE.mp hx];have:=g.len;exact⟨by show(oP ws).2.length<=_;exact ae5 h this,g.cur,λu hu=>by cases hu⟩
 ·have hx:((oP ws).1++[((oP ws).2,none)])[b]? =some x:=hx;have hb:=(af.mp hx).1;rw[aj] at hb;have hl:(lJ ws).length=(oP ws).1.length+1:=aj;rw[hl];by_cases q:b<(oP ws).1.length
  ·rw[aL q] at hx;obtain⟨_,_,w,e,_⟩:=g.each x<|aI hx;rw[e];exact⟨λh=>(by cases h),λh=>(ae4 hl q h)⟩
  ·have hbe:b=(oP ws).1.length:=by
    have:=hb
    exact An this q
   subst hbe
   rw[aA<|aG _,bF] at hx
   rw[<-aa hx]
   exact⟨λz=>rfl,λz=>rfl⟩
theorem Je(ws:List W):0<(lJ ws).length:=by show 0<((oP ws).1++[_]).length;rw[aj];exact qA _
section
variable{B:List d9}{b:Nat}{x:d9}{c:List Nat}
theorem Gw(B:List d9)(b:Nat):PS B=PS (B.take b)++QO B b:=by
 have h1:PS B=PS (B.take b++B.drop b):=by rw[dt]
 have h2:∀A D:List d9,∃R,PS (A++D)=PS A++R:=λA D=>⟨_,by unfold PS;rw[kA,j7]⟩;obtain⟨R,hR⟩:=h2 (B.take b)<|B.drop b;unfold QO;rw[h1,hR,sN]
theorem WI(h:B[b]? =some x)(hi:i<=x.1.length):(PS B)[(PS<|B.take b).length+i]? =some (b,i):=by have e:=Gw B b;rw[BL h] at e;rw[e,aA (bc ..),EU,aL (by rw[ag,au];exact ar4 hi),ai,bJ<|ar4 hi];rfl
theorem Mw{k:Nat}(hk:(PS B)[k]? =some p)(h:B[p.1]? =some x)(hi:p.2<=x.1.length):k=(PS<|B.take p.1).length+p.2:=
 (jv (af.mp hk).1<|qT B).mp (hk.trans (WI h hi).symm)
theorem Ny(h:B[b]? =some x)(G:Nat×Nat->Bool->Bool):(QO B<|b+1).foldr G false=Zn B G b:=by
 have hb:=(af.mp h).1;unfold Zn Fb;by_cases q:b+1<B.length
 ·rw[decide_eq_true q,pd]
 ·rw[decide_eq_false q,show b+1=B.length by exact adu hb q,Ii];rfl
theorem IY{k:Nat}(hk:(PS B)[k]? =some p):FP B G p=((PS B).drop k).foldr G false:=by
 refine dS (lF.mp<|aI hk) λx h hi=>?_;obtain⟨b,i⟩:=p;have e:=Mw hk h hi;have h:B[b]? =some x:=h;have hi:i<=x.1.length:=hi;have e2:(PS B).drop k=((ak<|x.1.length+1).drop i).map (λi=>(b,i))++QO B (b+1):=by have e1:=Gw B b;rw[BL h] at e1;rw[e1,e];show List.drop ((PS<|B.take b).length+i) _=_;rw[<-Vw,sN,xQ (by rw[ag,au];omega),uc]
 rw[Wu h,e2,Mn,Ny h];rfl
theorem T7(c:List Nat):∀b,b<=B.length->FV c B b=(PS<|B.take b).foldl (λv p=>BB c (wP B p) v) (v0 c):=by
 intro b;induction b with
 |zero=>intro _;rfl
 |succ b ih=>
  intro hb;have h:=ay hb;generalize B[b]'(hb)=x at h;rw[QA h,mK h,jw,<-ih<|cL hb];generalize FV c B b=v;have:∀n,Bl c x v n=((ak n).map λi=>(b,i)).foldl (λv p=>BB c (wP B p) v) v:=λn=>by
   induction n with
   |zero=>rfl
   |succ n ih=>
    rw[eV,bf,jw,<-ih];show BB c (wd x n) _=BB c (wP B (b,n)) _;have hw:wP B (b,n)=wd x n:=by unfold wP;rw[h];rfl
    rw[hw]
  exact this _
theorem SE{k:Nat}(hk:(PS B)[k]? =some p):HC c B p=((PS B).take k).foldl (λv p=>BB c (wP B p) v) (v0 c):=by
 refine dS (lF.mp<|aI hk) λx h hi=>?_;obtain⟨b,i⟩:=p;have e:=Mw hk h hi;have h:B[b]? =some x:=h;have hi:i<=x.1.length:=hi;have e2:(PS B).take k=PS (B.take b)++(ak i).map λi=>(b,i):=by have e1:=Gw B b;rw[BL h] at e1;rw[e1,e];show List.take ((PS<|B.take b).length+i) _=_;rw[List.take_length_add_append,xN (by rw[ag,au];omega),<-mh,List.take_range,fc<|by omega]
 rw[HB h,e2,jw,<-T7 c b<|be (af.mp h).1];generalize FV c B b=v;have key:∀n,Bl c x v n=((ak n).map λi=>(b,i)).foldl (λv p=>BB c (wP B p) v) v:=λn=>by
  induction n with
  |zero=>rfl
  |succ n ih=>
   rw[eV,bf,jw,<-ih];show BB c (wd x n) _=BB c (wP B (b,n)) _;have hw:wP B (b,n)=wd x n:=by unfold wP;rw[h];rfl
   rw[hw]
 exact key i
variable{ws:List W}{k:Nat}
def gS(t:Option W->Bool)(z:Option W)(q:Bool):Bool:=(q&&!NF z)||t z
theorem Eg(t:Option W->Bool):((PS<|lJ ws).drop k).foldr (λp q=>(q&&!NF (wP (lJ ws) p))||t (wP (lJ ws) p)) false=((ws.map some++[none]).drop k).foldr (gS t) false:=by rw[<-MN,<-uc,Vu];rfl
theorem Ux(ws:List W):nj .set (.set::ws)=[]:=rfl
theorem Ew(h:H2 w .set=false)(ws:List W):nj .set (w::ws)=w::nj .set ws:=by unfold nj;rw[eu,h];cases ws.findIdx? λx=>H2 x .set<;>rfl
theorem Qn(t:Option W->Bool)(hn:t none=false)(hs:t (some .set)=false)(l:List W):(l.map some++[none]).foldr (gS t) false=(nj .set l).any λw=>t (some w):=by
 induction l with
 |nil=>show((false&&!NF none)||t none)=false;rw[hn];rfl
 |cons w l ih=>
  show((((l.map some++[none]).foldr (gS t) false)&&!NF (some w))||t (some w))=_;rw[ih];cases q:H2 w .set with
  |true=>obtain rfl:=H0.mp q;rw[Ux,hs];show((_&&false)||false)=false;rw[VC];rfl
  |false=>
   rw[Ew q,mi];have:NF (some w)=false:=by cases w<;>first|rfl|exact ae q
   rw[this];show((_&&true)||_)=_;rw[mo,Bool.or_comm]
theorem sP(h:k<=ws.length):(ws.map some++[none]).drop k=(ws.drop k).map some++[none]:=by rw[xQ (by rw[ag];exact h),uc]
theorem VL(hk:k<ws.length)(hp:(PS<|lJ ws)[k]? =some p):FP (lJ ws) (Gu<|lJ ws) p=j5 .use (lh ws k):=by rw[IY hp];refine(Eg WW).trans ?_;rw[sP<|be hk,Qn WW rfl rfl];unfold j5 lh;congr 1;funext w;cases w<;>rfl
theorem I4(hk:k<ws.length)(hp:(PS<|lJ ws)[k]? =some p):FP (lJ ws) (Gd<|lJ ws) p=uD ws k:=by rw[IY hp];refine(Eg Y6).trans ?_;rw[sP<|be hk,Qn Y6 rfl rfl];unfold uD lh;congr 1
noncomputable def VP(q:Bool):W->Bool
 |.set=>true
 |.drop=>false
 |_=>q
def Xo(v:List Nat)(q:Bool):Bool:=QQ v==q&&(v.head? ==some 0)==q
theorem SA:fq.all (λc=>(m9 c.length).all λv=>[true,false].all λq=>W7.all λw=>!Xo v q||Xo (BB c (some w) v) (VP q w))=true:=by decide+kernel
theorem NL(hc:c∈fq)(hv:v∈m9 c.length)(h:Xo v q=true)(w:W):Xo (BB c (some w) v) (VP q w)=true:=by have:=ba.mp (ba.mp (ba.mp (ba.mp SA c hc) v hv) q<|by cases q<;>simp) w<|Bt w;rw[h] at this;exact this
theorem NM(hc:c∈fq)(l:List W):∀(v:List Nat)(q:Bool),v∈m9 c.length->Xo v q=true->Xo (l.foldl (λv w=>BB c (some w) v) v) (l.foldl VP q)=true:=by
 induction l with
 |nil=>intro v q hv h;exact h
 |cons w l ih=>intro v q hv h;exact ih _ _ (H8 hc hv)<|NL hc hv h w
theorem aa6:fq.all (λc=>Xo (v0 c) false)=true:=by decide+kernel
theorem JS(h:k<=ws.length):(ws.map some++[none]).take k=(ws.take k).map some:=by rw[xN (by rw[ag];exact h),mh]
theorem aa9(hc:c∈fq)(hk:k<ws.length)(hp:(PS<|lJ ws)[k]? =some p):QQ (HC c (lJ ws) p)=(ws.take k).foldl VP false:=by
 rw[SE hp];have e:((PS<|lJ ws).take k).foldl (λv p=>BB c (wP (lJ ws) p) v) (v0 c)=(ws.take k).foldl (λv w=>BB c (some w) v) (v0 c):=by have:=Vv (f:=wP<|lJ ws) (g:=λv z=>BB c z v) (l:=(PS<|lJ ws).take k) (init:=v0 c);rw[<-this,mh,MN,JS<|be hk,Vv]
 rw[e];have:=NM hc (ws.take k) (v0 c) false FO<|ba.mp aa6 c hc;exact beq_iff_eq.mp (bW.mp this).1
def gr(r:List W):Bool:=match j5 .set r with
 |true=>j5 .drop<|nj .set r
 |false=>true
theorem TS(w:W)(r:List W):gr (w::r)=!VP (!gr r) w:=by
 cases q:H2 w .set with
 |true=>obtain rfl:=H0.mp q;rfl
 |false=>
  unfold gr;have e1:j5 .set (w::r)=j5 .set r:=by unfold j5;rw[mi,q,Bool.false_or]
  rw[e1,Ew q];cases j5 .set r with
  |true=>show(H2 w .drop||j5 .drop (nj .set r))=!VP (!j5 .drop (nj .set r)) w;cases w<;>first|exact ae q|(cases j5 .drop (nj .set r)<;>rfl)
  |false=>cases w<;>first|exact ae q|rfl
theorem Yg(l:List W):l.foldl VP false=!gr l.reverse:=by
 have:∀r:List W,r.foldr (λw q=>VP q w) false=!gr r:=λr=>by
  induction r with
  |nil=>rfl
  |cons w r ih=>rw[List.foldr_cons,ih,TS,Bool.not_not]
 rw[<-this,List.foldr_reverse]
theorem DG(hc:c∈fq)(hk:k<ws.length)(hp:(PS<|lJ ws)[k]? =some p):QQ (HC c (lJ ws) p)=!gone ws k:=by rw[aa9 hc hk hp,Yg];rfl
theorem Ou{i k:Nat}:i∈CO l k↔i∈l\/i=k:=by
 unfold CO;by_cases h:k∈l
 ·rw[if_pos h];exact⟨.inl,λq=>q.elim id λe=>e▸h⟩
 ·rw[if_neg h,ct,aE]
theorem XF{S:Nat->List Nat}:∀(rs:List Nat),i∈QP S rs k r↔i∈S r\/(i=k/\r∈rs):=by
 intro rs;induction rs generalizing S with
 |nil=>exact⟨.inl,λh=>h.elim id λh=>absurd h.2 aK⟩
 |cons a rs ih=>
  show i∈QP (Rv S a k) rs k r↔_;rw[ih,aV];by_cases q:r=a
  ·subst q;rw[Bu,Ou];constructor
   ·rintro((h|h)|h)
    ·exact .inl h
    ·exact .inr ⟨h,.inl rfl⟩
    ·exact .inr ⟨h.1,.inr h.2⟩
   ·rintro(h|⟨h,_⟩)
    ·exact .inl<|.inl h
    ·exact .inl<|.inr h
  ·rw[vq q];constructor
   ·rintro(h|h)
    ·exact .inl h
    ·exact .inr ⟨h.1,.inr h.2⟩
   ·rintro(h|⟨h,e|h2⟩)
    ·exact .inl h
    ·exact absurd e q
    ·exact .inr ⟨h,h2⟩
def jU(c:List Nat)(B:List d9)(p:Nat×Nat)(r:Nat):Prop:=(FP B (Gu B) p=true/\r∈[1,2,3,4,5])\/((FP B (Gd B) p&&QQ (HC c B p))=true/\r∈[1,3])
theorem Oq{S:Nat->List Nat}:i∈qQ c B S k p r↔i∈S r\/(i=k/\jU c B p r):=by
 unfold qQ jU;cases h1:FP B (Gu B) p<;>cases h2:(FP B (Gd B) p&&QQ (HC c B p))<;>simp only[if_true,if_false,XF,dI,false_and,true_and,false_or,or_false,and_false]<;>try trivial
 rw[or_assoc,<-and_or_left]
theorem Tb(n:Nat):n<=(PS B).length->(i∈xt c B n r↔i<n/\∃p,(PS B)[i]? =some p/\jU c B p r):=by
 induction n with
 |zero=>intro _;exact⟨λh=>absurd h aK,λh=>absurd h.1<|gF _⟩
 |succ n ih=>
  intro h;have hp:=ay h;generalize (PS B)[n]'(h)=p at hp;show i∈(match (PS B)[n]? with|some p=>qQ c B (xt c B n) n p|none=>xt c B n) r↔_;rw[hp];show i∈qQ c B (xt c B n) n p r↔_;rw[Oq,ih<|cL h];constructor
  ·rintro(⟨h1,h2⟩|⟨rfl,h2⟩)
   ·exact⟨eP h1,h2⟩
   ·exact⟨cJ _,p,hp,h2⟩
  ·rintro⟨h1,u,h2,h3⟩;by_cases q:i=n
   ·subst q;rw[hp] at h2;obtain rfl:=aa h2;exact .inr ⟨rfl,h3⟩
   ·exact .inl ⟨ZJ h1 q,u,h2,h3⟩
theorem KI(hc:c∈fq)(hk:k<ws.length):(ak 6).filter (λr=>decide<|k∈xt c (lJ ws) (PS<|lJ ws).length r)=oG ws k:=by
 have hp:=VQ ws hk;have hl:k<(PS<|lJ ws).length:=by rw[Gp];exact ZI hk
 have e:∀r,k∈xt c (lJ ws) (PS<|lJ ws).length r↔(j5 .use (lh ws k)=true/\r∈[1,2,3,4,5])\/((uD ws k&&!gone ws k)=true/\r∈[1,3]):=λr=>by
  rw[Tb _<|aG _];constructor
  ·rintro⟨_,p,h1,h2⟩;unfold jU at h2;rwa[VL hk h1,I4 hk h1,DG hc hk h1] at h2
  ·intro h;refine⟨hl,_,hp,?_⟩;unfold jU;rwa[VL hk hp,I4 hk hp,DG hc hk hp]
 generalize hd:(uD ws k&&!gone ws k)=dd at e;have e2:(ak 6).filter (λr=>decide<|k∈xt c (lJ ws) (PS<|lJ ws).length r)=(ak 6).filter λr=>(j5 .use (lh ws k)&&[1,2,3,4,5].contains r)||(dd&&[1,3].contains r):=by congr 1;funext r;rw[je,decide_eq_true_eq,e,jd,dU,dU,gX,gX]
 rw[e2];unfold oG;rw[hd];cases j5 .use (lh ws k)<;>cases dd<;>rfl
end
noncomputable def aS(j:Nat):Nat:=if j=0 then 0 else 2+2*j
def aB(j:Nat):Nat:=aS j+1
theorem afj:aS j=0\/(1<=j/\aS j=2+2*j):=by
 unfold aS;by_cases h:j=0
 ·rw[if_pos h];exact .inl rfl
 ·rw[if_neg h];exact .inr ⟨vj h,rfl⟩
theorem TR(h:a<4+2*n)(h0:¬a<2)(h2:a≠2)(h3:a≠3):∃j,j<n+1/\(a=aS j\/a=aB j):=⟨(a-2)/2,by omega,by unfold aB aS;rw[if_neg<|by omega];omega⟩
theorem sU(j:Nat):aS j≠2/\aS j≠3/\aB j≠2/\aB j≠3:=by
 unfold aB;rcases afj with e|⟨h,e⟩
 ·rw[e];decide
 ·have:=e▸aY (gL 2 h) 2;exact LJ (cN<|a9 (by decide) this) (cN this) (cN<|eP<|a9 (by decide) this)<|cN<|eP this
theorem Wq(j:Nat):aB j<4+2*j:=by
 unfold aB;rcases afj with e|⟨h,e⟩
 ·rw[e];exact a9 (by decide)<|bc 4 _
 ·rw[e,vn];exact Nat.add_lt_add_right (by decide) _
def AP(n:Nat):List SV:=(ak n).map λj=>SV.h<|aB j
def pY.T1(st:List SO)(s:List d9×List W):Prop:=∀(j:Nat)(x:d9),(Bo s)[j]? =some x->st[aS j]? =some (.list<|x.1.map tj)/\st[aB j]? =some (.list [.h<|aS j,FZ j x.2])
structure pY(st:List SO)(s:List d9×List W)(sp:List (Nat×Nat)):Prop where
 len:st.length=4+2*s.1.length
 hb:st[2]? =some (.list (AP (s.1.length+1)))
 hs:st[3]? =some (.list (sp.map bg))
 at_:pY.T1 st s
theorem Gj{xs:List α}(h:xs.length=n+1):uy xs (-1)=xs[n]?:=by unfold uy;rw[kO (show decide ((-1:Int).natAbs<=eA)=true by decide)];show(if(0:Int)<= -1 then xs[(-1:Int).toNat]? else if -(xs.length:Int)<= -1 then xs[(-1+(xs.length:Int)).toNat]? else none)=_;rw[if_neg (by decide),if_pos<|Int.neg_le_neg (by rw[h];exact gN.mpr<|fS 1 n),h,Int.add_comm,show((n+1:Nat):Int)+ -1=n from Int.add_neg_cancel_right n 1];rfl
def tO(ws:List W)(q3 q4:OS)(st:List SO):bo:=⟨[.val<|.lst<|ws.map wS,.val<|.h 2,.val<|.h 3,jh q3,jh q4,.un,.un,.un,.un,.un],st⟩
theorem n4(s:List d9×List W):(Bo s)[s.1.length]? =some (s.2,none):=by unfold Bo;rw[aA<|aG _,bF];rfl
section
variable{C:bT}{ws:List W}{q3 q4:OS}{st:List SO}{s:List d9×List W}{sp:List (Nat×Nat)}
theorem Cb:(AP n).length=n:=by unfold AP;rw[ag,au]
theorem I1(H:pY st s sp):cj C MM (.sub bK<|.neg<|.int 1) (tO ws q3 q4 st)=some (.h<|aB s.1.length,tO ws q3 q4 st):=by refine bS rfl rfl<|qO H.hb ?_;rw[Gj Cb];unfold AP;rw[ai,bJ<|cJ _];rfl
theorem I0(H:pY st s sp):cj C MM (cQ (.sub bK<|.neg<|.int 1) 0) (tO ws q3 q4 st)=some (.h<|aS s.1.length,tO ws q3 q4 st):=
 bS (I1 H) rfl (qO (H.at_ _ _<|n4 s).2 rfl)
theorem PN(H:pY st s sp)(hl:s.1.length<=100):cj C MM (kH bK) (tO ws q3 q4 st)=some (.int (s.1.length+1:Nat),tO ws q3 q4 st):=by have:=gT (C:=C) (M:=MM) (e:=bK) (σ:=tO ws q3 q4 st) rfl (by show st[2]?.bind gE=_;rw[H.hb];rfl) (by rw[Cb];show _<=4000;exact adt hl);rwa[Cb] at this
theorem Xl(H:pY st s sp)(hl:s.1.length<=100)(hc:s.2.length<=100)(hp:sp.length<=100):∃st',pY st' s (sp++[xf s])/\kB C MM (.expr<|.bx dq 0 [.tup [.bin .sub (kH bK)<|.int 1,kH<|cQ (.sub bK<|.neg<|.int 1) 0]]) (tO ws q3 q4 st)=some (.next,tO ws q3 q4 st'):=by
 let K:List SO->bo:=tO ws q3 q4;have hst:=(H.at_ _ _<|n4 s).1;have e1:cj C MM (kH<|cQ (.sub bK<|.neg<|.int 1) 0) (K st)=some (.int (s.2.length:Nat),K st):=by have:=gT (C:=C) (M:=MM) (xs:=s.2.map tj) (I0 (C:=C) (ws:=ws) (q3:=q3) (q4:=q4) H) (by show st[aS s.1.length]?.bind gE=_;rw[hst];rfl) (by rw[ag];show _<=4000;exact ZH hc);rwa[ag] at this
 have e0:cj C MM (.bin .sub (kH bK)<|.int 1) (K st)=some (.int (s.1.length:Nat),K st):=by refine ip (PN H hl) rfl ?_;show some (SV.int<|((s.1.length+1:Nat):Int)-1)=_;congr 2;exact Int.sub_eq_iff_eq_add.mpr rfl
 have e3:kB C MM (.expr<|.bx dq 0 [.tup [.bin .sub (kH bK)<|.int 1,kH<|cQ (.sub bK<|.neg<|.int 1) 0]]) (K st)=some (.next,K<|st.set 3<|.list<|sp.map bg++[bg<|xf s]):=by
  refine Xm<|jj (x:=.h 3) (vs:=[bg<|xf s]) rfl ?_ ?_ (eT<|ro e0 e1)<|AL (k:=3) H.hs (by rw[ag];show _<=4000;exact ZH hp)
  ·show st[3]?.bind lD=none;rw[H.hs];rfl
  ·show(st[3]?.bind gE).isSome=true;rw[H.hs];rfl
 have ne:∀j,aS j≠3/\aB j≠3:=λj=>⟨(sU j).2.1,(sU j).2.2.2⟩;refine⟨_,⟨by rw[fP];exact H.len,cC H.hb (by exact of_decide_eq_true<|id<|de true),?_,λj x h=>?_⟩,e3⟩
 ·rw[bf];exact pF H.hs
 ·refine kg (H.at_ j x h) λa b=>?_;exact⟨cC a (ne j).1.symm,cC b (ne j).2.symm⟩
def LM:SV:=.tup [tS "panic",tS "end"]
theorem Hy(h:aS i=aS j):i=j:=by unfold aS at h;split at h<;>split at h<;>omega
theorem ZS:aS i≠aB j:=by unfold aB aS;split<;>split<;>omega
theorem Zh(s:List d9×List W)(h:j<s.1.length):(s.1++[(l,o1)])[j]? =(Bo s)[j]?:=by unfold Bo;rw[aL h,aL h]
theorem Zk(H:pY st s sp)(hw:yR w=false):pY (st.set (aS s.1.length)<|.list<|s.2.map tj++[tj w]) (zD s w) sp:=by
 have h1:=(H.at_ _ _<|n4 s).1;have h2:=(H.at_ _ _<|n4 s).2;have e:zD s w=(s.1,s.2++[w]):=by unfold zD;rw[hw]
 have n2:∀j,aS j≠2/\aS j≠3:=λj=>⟨(sU j).1,(sU j).2.1⟩;rw[e];refine⟨by rw[fP];exact H.len,cC H.hb (n2 _).1,cC H.hs (n2 _).2,λj x h=>?_⟩;by_cases q:j<s.1.length
 ·have h:(s.1++[(s.2++[w],none)])[j]? =some x:=h;rw[Zh s q] at h;refine kg (H.at_ j x h) λa b=>⟨cC a λe=>absurd (Hy e)<|ads q,cC b ZS⟩
 ·have h:(s.1++[(s.2++[w],none)])[j]? =some x:=h;have hj:=(af.mp h).1;rw[aj] at hj;obtain rfl:j=s.1.length:=by have:=hj;exact adv q this
  rw[aA<|aG _,bF] at h;obtain rfl:=aa h;refine⟨?_,cC h2 ZS⟩;show _=some (SO.list<|(s.2++[w]).map tj);rw[bf];exact pF h1
theorem Zm(H:pY st s sp)(hw:yR w=true):pY (Vt ((st.set (aB s.1.length)<|.list [.h<|aS s.1.length,FZ s.1.length<|some w])++([.list [],.list [.h st.length,LM]]:List SO)) 2<|SO.list<|AP (s.1.length+1)++[SV.h<|st.length+1]) (zD s w) sp:=by
 have h1:=(H.at_ _ _<|n4 s).1;have h2:=(H.at_ _ _<|n4 s).2;have e:zD s w=(s.1++[(s.2,some w)],[]):=by unfold zD;rw[hw]
 have n2:=sU;have hL:=H.len;let s1:List SO:=st.set (aB s.1.length)<|.list [.h<|aS s.1.length,FZ s.1.length<|some w];have l1:s1.length=st.length:=fP;have app:∀{a:Nat}{o:SO}{l:List SO},s1[a]? =some o->(s1++l)[a]? =some o:=λ{a o l} h=>by rw[aL<|iZ h];exact h
 have aN:aS (s.1.length+1)=st.length:=by unfold aS;rw[if_neg<|by omega];omega
 have bN:aB (s.1.length+1)=st.length+1:=by unfold aB;rw[aN]
 have g0:(s1++[.list [],.list [.h st.length,LM]])[st.length]? =some (.list []):=by rw[aA<|eD l1,l1,bF];rfl
 have g1:(s1++[.list [],.list [.h st.length,LM]])[st.length+1]? =some (.list [.h st.length,LM]):=by rw[aA<|ae3 hL l1,l1,show st.length+1-st.length=1 by exact ZG];rfl
 rw[e];refine⟨?_,?_,cC (app<|cC H.hs (n2 _).2.2.2)<|of_decide_eq_true<|id<|de true,λj x h=>?_⟩
 ·show(Vt (s1++[SO.list [],.list [.h st.length,LM]]) 2 _).length=4+2*(s.1++[(s.2,some w)]).length;rw[fP,aj,aj,l1,hL];show 4+2*s.1.length+2=4+2*(s.1.length+1);omega
 ·have e2:AP ((s.1++[(s.2,some w)]).length+1)=AP (s.1.length+1)++[.h<|st.length+1]:=by
   rw[aj]
   unfold AP
   rw[eV,bf]
   show _++[SV.h<|aB<|s.1.length+1]=_
   rw[bN];rfl
  show _=some (SO.list<|AP<|(s.1++[(s.2,some w)]).length+1)
  rw[e2]
  exact pF<|app<|cC H.hb (n2 _).2.2.1
 ·have h:((s.1++[(s.2,some w)])++[([],none)])[j]? =some x:=h;have hj:=(af.mp h).1;rw[aj,aj] at hj;have hj:=hj;by_cases q:j<s.1.length
  ·rw[aO,aL q] at h;obtain⟨a,b⟩:=H.at_ j x (by unfold Bo;rw[aL q];exact h);exact⟨cC (app<|cC a ZS.symm) (n2 j).1.symm,cC (app<|cC b λe=>absurd (Hy<|ku e)<|ads q) (n2 j).2.2.1.symm⟩
  ·by_cases q2:j=s.1.length
   ·subst q2;rw[aO,aA<|aG _,bF] at h;obtain rfl:=aa h;exact⟨cC (app<|cC h1 ZS.symm) (n2 _).1.symm,cC (app<|pF h2) (n2 _).2.2.1.symm⟩
   ·obtain rfl:j=s.1.length+1:=dw (aT hj)<|i8 (mf q)<|gp q2;rw[aA (by rw[aj];exact aG _),aj] at h;have h:[(([],none):d9)][s.1.length+1-(s.1.length+1)]? =some x:=h;rw[bF] at h;obtain rfl:=aa h;rw[aN,bN];exact⟨cC g0<|ae2 hL,cC g1<|ae1 hL⟩
end
section
def N6:E:=.list true [.list true [],.tup [.str<|sr 45,.str<|sr 46]]
noncomputable def Jh(e:E):S:=.expr<|.bx (cQ (.sub bK<|.neg<|.int 1) 0) 0 [e]
def aa3:E:=.tup [.str<|sr 24,.tup [.int 1,.tup []],.tup [.str<|sr 19,.tup [.str<|sr 30,d6 701 [],.int 0]]]
def aaP:E:=.tup [.str<|sr 25,.tup [.str<|sr 47,.tup [.int 1,.tup [.tup [.str<|sr 16,.int 1],.tup [.str<|sr 16,.int 0],.tup [.str<|sr 17]]]]]
def aa7:E:=.tup [.str<|sr 48]
def Wf:E:=.ite (iJ dR<|.str<|sr 13) (.tup [])<|.tup [.tup [.str<|sr 16,.bi .int [.kc dR<|.neg<|.int 1]]]
def D7:S:=.ifs (iJ (.kb dR<|.int 4)<|.str<|sr 13) [fj 4 Wf,.asg (.ix (.sub bK<|.neg<|.int 1)<|.int 1)<|.tup [.str<|sr 13,.tup [.int 1,fu],kH bK],.expr<|.bx bK 0 [N6]] [.ifs (iJ dR<|.str<|sr 40) [Jh aa3] [.ifs (iJ dR<|.str<|sr 19) [Jh aaP] [Jh aa7]]]
variable{d:Nat}{ws:List W}{q3 q4:OS}{st:List SO}{s:List d9×List W}{sp:List (Nat×Nat)}
theorem ZO(H:pY st s sp)(hc:s.2.length<=100)(he:cj C MM e (tO ws q3 q4 st)=some (tj w,tO ws q3 q4 st)):cX C MM [Jh e] (tO ws q3 q4 st)=some (.next,tO ws q3 q4<|st.set (aS s.1.length)<|.list<|s.2.map tj++[tj w]):=by
 have h1:=(H.at_ _ _<|n4 s).1;refine aZ (Xm<|jj (I0 H) ?_ ?_ (eT he)<|AL (xs:=s.2.map tj) h1 (by rw[ag];show _<=4000;exact ZH hc)) rfl
 ·show st[aS s.1.length]?.bind lD=none;rw[h1];rfl
 ·show(st[aS s.1.length]?.bind gE).isSome=true;rw[h1];rfl
theorem aa4(H:pY st s sp)(hc:s.2.length<=100)(hw:yR w=false):kB (EV<|d+2) MM D7 (tO ws (some<|wS w) q4 st)=some (.next,tO ws (some<|wS w) q4<|st.set (aS s.1.length)<|.list<|s.2.map tj++[tj w]):=by
 have h1:=Hh 3 w (EV<|d+2) (tO ws (some<|wS w) q4 st) rfl;rw[hw] at h1;refine xg h1 ?_;cases w with
 |set=>exact aZ (CV (by kernel_rfl)<|ZO H hc<|by kernel_rfl) rfl
 |use=>exact aZ (xg (aq:=tO ws (some<|wS .use) q4 st) (by kernel_rfl)<|aZ (CV (by kernel_rfl)<|ZO H hc<|rfl) rfl) rfl
 |rest=>exact aZ (xg (aq:=tO ws (some<|wS .rest) q4 st) (by kernel_rfl)<|aZ (xg (by kernel_rfl)<|ZO H hc<|rfl) rfl) rfl
 |_=>exact ae hw
theorem aa5(H:pY st s sp)(hl:s.1.length<=100)(hw:yR w=true):∃q4',kB (EV<|d+2) MM D7 (tO ws (some<|wS w) q4 st)=some (.next,tO ws (some<|wS w) q4'<|Vt ((st.set (aB s.1.length)<|.list [.h<|aS s.1.length,FZ s.1.length<|some w])++([.list [],.list [.h st.length,LM]]:List SO)) 2<|SO.list<|AP (s.1.length+1)++[SV.h<|st.length+1]):=by
 have h1:=Hh 3 w (EV<|d+2) (tO ws (some<|wS w) q4 st) rfl;rw[hw] at h1;have h2:=(H.at_ _ _<|n4 s).2;let K:OS->List SO->bo:=tO ws<|some<|wS w;let s1:List SO:=st.set (aB s.1.length)<|.list [.h<|aS s.1.length,FZ s.1.length<|some w];let s2:List SO:=s1++[.list [],.list [.h st.length,LM]];have l1:s1.length=st.length:=fP;have e1:cj (EV<|d+2) MM Wf (K q4 st)=some (oa w,K q4 st):=by cases w<;>first|exact ae hw|kernel_rfl
 have e2:kB (EV<|d+2) MM (.asg (.ix (.sub bK<|.neg<|.int 1)<|.int 1)<|.tup [.str<|sr 13,.tup [.int 1,fu],kH bK]) (K (some<|oa w) st)=some (.next,K (some<|oa w) s1):=
  uA (Y5 rfl (ro rfl rfl)<|PN H hl) (I1 H) rfl (rQ h2 (by show 1<2;decide)<|by decide)
 have n2:aB s.1.length≠2:=(sU _).2.2.1;have hb1:s1[2]? =some (.list<|AP<|s.1.length+1):=cC H.hb n2;have hb2:s2[2]? =some (.list<|AP<|s.1.length+1):=by rw[aL<|iZ hb1];exact hb1
 have e3:iq (EV<|d+2) MM [N6] (K (some<|oa w) s1)=some ([.h<|st.length+1],K (some<|oa w) s2):=by show some ([SV.h (s1++[SO.list []]).length],bo.mk (K (some<|oa w) s1).loc<|(s1++[SO.list []])++[SO.list [.h s1.length,LM]])=_;rw[aj,aO,l1];rfl
 have e4:kB (EV<|d+2) MM (.expr<|.bx bK 0 [N6]) (K (some<|oa w) s1)=some (.next,K (some<|oa w)<|s2.set 2<|.list<|AP (s.1.length+1)++[.h<|st.length+1]):=by
  refine Xm<|jj rfl ?_ ?_ e3<|AL hb2 (by rw[Cb];show _<=4000;exact adt hl)
  ·show s1[2]?.bind lD=none;rw[hb1];rfl
  ·show(s1[2]?.bind gE).isSome=true;rw[hb1];rfl
 refine⟨some<|oa w,CV h1<|aZ (bO e1<|by cases q4<;>rfl)<|aZ e2<|aZ e4 rfl⟩
theorem aiC(h:gd b x=some y):b=true/\x=y:=by
 cases b with
 |true=>exact⟨rfl,aa h⟩
 |false=>exact aW h
def Ws(st st':List SO):Prop:=st'.length=st.length/\∀(a:Nat),st'[a]? =st[a]?\/st'[a]? =some .gone
theorem D2(st:List SO):Ws st st:=⟨rfl,λz=>.inl rfl⟩
theorem rW(h:Ws a b)(k:Ws b c):Ws a c:=⟨k.1.trans h.1,λi=>by
 rcases k.2 i with e|e
 ·rw[e];exact h.2 i
 ·exact .inr e⟩
theorem B3{st:List SO}:Ws st (st.set k .gone):=⟨fP,λi=>by
 rw[wa];split
 ·split
  ·exact .inr rfl
  ·next h=>exact .inl (by rw[gW<|by omega])
 ·exact .inl rfl⟩
def ZU(n:Nat):Prop:=∀{v:SV}{st:List SO}{r:SV×List SO},freeze n v st=some r->Ws st r.2
def Jk(n:Nat):Prop:=∀{vs:List SV}{st:List SO}{r:List SV×List SO},b4 n vs st=some r->Ws st r.2
theorem Tw(i:Jk n):ZU (n+1):=λh=>IX h
 (λz z z z h=>dj h λq hf e=>e▸rW B3 (i hf)) (λz z z z z h=>dj h λq hf e=>e▸rW B3 (i hf)) (λz z z z z z h=>dj h λq hf e=>e▸rW B3 (i hf))
 (λz z h=>dj h λq hf e=>e▸i hf) λz e=>e▸D2 _
theorem OK(i1:ZU n)(i2:Jk n):Jk (n+1):=λh=>Ef h (λz e=>e▸D2 _) (λz z z q z h1 h2 e=>by subst e;exact rW (i1 h1)<|i2 (r:=q) h2)
theorem XR(n:Nat):ZU n/\Jk n:=by
 induction n with
 |zero=>exact⟨λh=>aW h,λh=>aW h⟩
 |succ n ih=>exact⟨Tw ih.2,OK ih.1 ih.2⟩
theorem Pk(n:Nat)(v:SV)(st:List SO)(w:SV)(st':List SO)(h:freeze n v st=some (w,st')):Ws st st':=(XR n).1 h
theorem KV(X:Nat->d9):∀(m k n:Nat)(st:List SO),(∀j,k<=j->j<k+m->st[aS j]? =some (.list<|(X j).1.map tj)/\st[aB j]? =some (.list [.h<|aS j,FZ j (X j).2]))->m+5<n->∃st',(∀(a:Nat),(∀j,aS j≠a/\aB j≠a)->st'[a]? =st[a]?)/\b4 n ((fi k m).map λj=>SV.h<|aB j) st=some ((fi k m).map λj=>wC j<|X j,st'):=λm=>by
 induction m with
 |zero=>
  intro k n st h hn;cases n with
  |zero=>exact absurd hn<|gF _
  |succ n=>exact⟨st,λz z=>rfl,rfl⟩
 |succ m ih=>
  intro k n st h hn;obtain⟨n,rfl⟩:∃q,n=q+6:=⟨n-6,(vh<|ah (show 6<=m+1+5 from fS ..)<|be hn).symm⟩;obtain⟨h1,h2⟩:=h k (aG _)<|adq;have stf:∀w,(tj w).free=true:=λw=>by cases w<;>rfl
  have tmf:(FZ k (X k).2).free=true:=by rcases(X k).2 with _|w;rfl;cases w<;>rfl
  have f1:freeze (n+3) (.h<|aS k) (st.set (aB k) .gone)=some (.lst<|(X k).1.map tj,(st.set (aB k) .gone).set (aS k) .gone):=by show((st.set (aB k) SO.gone)[aS k]?.bind _)=_;rw[cC h1 ZS.symm];show(b4 (n+2) ((X k).1.map tj) _).map _=_;rw[rh<|eN stf _];rfl
  have f2:freeze (n+5) (.h<|aB k) st=some (wC k<|X k,(st.set (aB k) .gone).set (aS k) .gone):=by show(st[aB k]?.bind _)=_;rw[h2];show(b4 (n+4) [SV.h<|aS k,FZ k (X k).2] _).map _=_;rw[gZ rfl f1<|rh (by show((FZ k (X k).2).free&&true)=true;rw[tmf];rfl)];rfl
  obtain⟨st',ek,e⟩:=ih (k+1) (n+5) ((st.set (aB k) .gone).set (aS k) .gone) (λj hj hj2=>by
   obtain⟨a,b⟩:=h j (be hj)<|adp hj2;have ne:aS k≠aS j:=λe=>by have:=Hy e;exact ae0 hj this
   exact⟨cC (cC a ZS.symm) ne,cC (cC b λe=>ne<|ku e) ZS⟩)<|aT hn
  exact⟨st',λa ha=>by rw[ek a ha,bV (ha k).1,bV (ha k).2],gZ rfl f2 e⟩
end
section
variable{d:Nat}{ws:List W}{q3 q4:OS}{st:List SO}{s:List d9×List W}{sp:List (Nat×Nat)}
noncomputable def M5:S:=.expr<|.bx dq 0 [.tup [.bin .sub (kH bK)<|.int 1,kH<|cQ (.sub bK<|.neg<|.int 1) 0]]
theorem R2(ws:List W)(i:Nat):(oP<|ws.take i).1.length+(oP<|ws.take i).2.length<=ws.length:=by have:=(Pc<|ws.take i).len;rw[cm] at this;exact aeZ this
theorem Th(h:ws.length<=30):∃q3 q4 st,pY st (oP ws) (Ia ws)/\cR (λx τ=>(dm EX x τ).bind λτ=>cX (EV<|d+2) MM [M5,D7] τ) (ws.map wS) (tO ws none none [.list [],.list [.h 0,LM],.list [.h 1],.list []])=some (.next,tO ws q3 q4 st):=by
 let P:Nat->bo->Prop:=λi τ=>∃q3 q4 st,τ=tO ws q3 q4 st/\pY st (oP<|ws.take i) ((ak i).map λj=>xf<|oP<|ws.take j);have h0:pY [.list [],.list [.h 0,LM],.list [.h 1],.list []] (oP<|ws.take 0) ((ak 0).map λj=>xf<|oP<|ws.take j):=⟨rfl,rfl,rfl,λj x hx=>by
  cases j with
  |zero=>obtain rfl:=aa (show some (([],none):d9)=some x from hx);exact⟨rfl,rfl⟩
  |succ j=>exact aW hx⟩
 obtain⟨τ,e,q3,q4,st,rfl,H⟩:=qW (f:=λx τ=>(dm EX x τ).bind λτ=>cX (EV<|d+2) MM [M5,D7] τ) P ws (tO ws none none [.list [],.list [.h 0,LM],.list [.h 1],.list []]) ⟨none,none,_,rfl,h0⟩ λi w hw τ hP=>by
  refine uk hP λq3 q4 st zz3 H=>?_;subst zz3;have hi:=(af.mp hw).1;have hl:=R2 ws i;obtain⟨s1,H1,e1⟩:=Xl (C:=EV<|d+2) (ws:=ws) (q3:=some<|wS w) (q4:=q4) H (ado h hl) (adn h hl) (by rw[ag,au];omega);have ht:oP (ws.take<|i+1)=zD (oP<|ws.take i) w:=by rw[rI hw,qR]
  have hs:(ak<|i+1).map (λj=>xf<|oP<|ws.take j)=(ak i).map (λj=>xf<|oP<|ws.take j)++[xf<|oP<|ws.take i]:=by rw[eV,bf];rfl
  have p1:dm EX (wS w) (tO ws q3 q4 st)=some (tO ws (some<|wS w) q4 st):=by cases q3<;>rfl
  cases hd:yR w with
  |true=>refine fT (aa5 (d:=d) (ws:=ws) (q4:=q4) H1 (ado h hl) hd) λq4' e2=>⟨_,aP p1<|aZ e1<|aZ e2 rfl,some<|wS w,q4',_,rfl,by rw[ht,hs];exact Zm H1 hd⟩
  |false=>have e2:=aa4 (d:=d) (ws:=ws) (q4:=q4) H1 (adn h hl) hd;exact⟨_,aP p1<|aZ e1<|aZ e2 rfl,some<|wS w,q4,_,rfl,by rw[ht,hs];exact Zk H1 hd⟩
 rw[cY] at H;exact QM q3 q4 st H e
theorem Io(h1:iu a as 0=none)(h2:a<iY):uB (c,as,vs) a v=some (.inst c (as++[a])<|vs++[v]):=by show(match iu a as 0 with|some j=>_|none=>_)=_;rw[h1];exact kO<|decide_eq_true h2
theorem at1{as:List Nat}{vs:List SV}{lo:List LV}(h1:iu a as 0=none)(h2:a<iY):Bm (.h st.length) a v ⟨lo,st++[.inst c as vs]⟩=some ⟨lo,st++[.inst c (as++[a])<|vs++[v]]⟩:=by
 refine aP rfl<|aP (a:=(c,as,vs)) ?_<|iB (Io h1 h2) ?_
 ·rw[EH];rfl
 ·show bo.mk lo ((st++[_]).set st.length _)=_;rw[NC]
theorem at2{as:List Nat}{vs:List SV}{y:SO}{lo:List LV}(h1:iu a as 0=none)(h2:a<iY):Bm (.h st.length) a v ⟨lo,st++[.inst c as vs,y]⟩=some ⟨lo,st++[.inst c (as++[a])<|vs++[v],y]⟩:=by
 refine aP rfl<|aP (a:=(c,as,vs)) ?_<|iB (Io h1 h2) ?_
 ·rw[EI];rfl
 ·show bo.mk lo ((st++[_,_]).set st.length _)=_;rw[ND]
theorem pt1{as:List Nat}{vs:List SV}{lo:List LV}{C:bT}(h1:iu a as 0=none)(h2:a<iY):BS C MM (.at b0 a) v ⟨.val (.h st.length)::lo,st++[.inst c as vs]⟩=some ⟨.val (.h st.length)::lo,st++[.inst c (as++[a])<|vs++[v]]⟩:=at1 h1 h2
theorem pt2{as:List Nat}{vs:List SV}{y:SO}{lo:List LV}{C:bT}(h1:iu a as 0=none)(h2:a<iY):BS C MM (.at b0 a) v ⟨.val (.h st.length)::lo,st++[.inst c as vs,y]⟩=some ⟨.val (.h st.length)::lo,st++[.inst c (as++[a])<|vs++[v],y]⟩:=at2 h1 h2
def Ac:List SV:=[.tup [.tup [tS "tuple",.tup []],.bool true,.none],.tup [TY,.bool true,tS "t"]]
def aij(k n:Nat)(s:List SO):bo:=⟨[.val<|.h k,.val<|tS "f",.val<|.int 0,.val<|.h n,.val<|.h 2,.val<|.hH [] [],.un],s⟩
theorem Uz:prog.cls 174=some ⟨128,.freeze⟩:=by kernel_rfl
theorem YT:prog.fns 174=none:=by kernel_rfl
theorem YW:prog.fns 128=some Ui:=by kernel_rfl
theorem S7(hn:st[n]? =some (.list Ac)):nX (EV d) MM 174 Ui [tS "f",.int 0,.h n,.h 2,.hH [] []] st=some (st++[.inst 174 [6,7,8,9,10] [tS "f",.int 0,.h<|st.length+1,.h 2,.hH [] []],.list Ac]):=by
 let I:List Nat->List SV->SO:=λas vs=>.inst 174 as vs;let G:List SO->bo:=aij st.length n;have hlt:=iZ hn;have e8:cj (EV d) MM (.bi .list [dR]) (G<|st++[I [6,7] [tS "f",.int 0]])=some (.h<|st.length+1,G<|st++[I [6,7] [tS "f",.int 0],.list Ac]):=by
  refine uT (eT rfl)<|aP (a:=Ac) ?_ ?_
  ·show(st++_)[n]?.bind gE=_;rw[aL hlt,hn];rfl
  ·show some (SV.h (st++[I [6,7] [tS "f",.int 0]]).length,bo.mk _<|(st++[I [6,7] [tS "f",.int 0]])++[SO.list Ac])=_;rw[aj,aO];rfl
 have Rx:cX (EV d) MM Ui.body (G<|st++[I [] []])=some (.next,G<|st++[I [6,7,8,9,10] [tS "f",.int 0,.h<|st.length+1,.h 2,.hH [] []],.list Ac]):=
  aZ (bO rfl<|pt1 rfl<|by decide) (aZ (bO rfl<|pt1 rfl<|by decide)<|aZ (bO e8<|pt2 rfl<|by decide)<|aZ (bO (Wc rfl rfl)<|pt2 rfl<|by decide)<|aZ (bO (Wc rfl rfl)<|pt2 rfl<|by decide) rfl)
 exact aP (aP rfl<|iB Rx rfl) rfl
noncomputable def XB(B:List d9)(j:Nat):d9:=(B[j]?).getD ([],none)
theorem MH{B:List d9}(h:j<B.length):B[j]? =some (XB B j):=by unfold XB;rw[ay h];rfl
theorem Qh(B:List d9):tZ B=(fi 0 B.length).map λj=>wC j (XB B j):=by
 refine fC λj=>?_;by_cases h:j<B.length
 ·rw[Wh<|MH h,ai,HQ<|h];show _=some (wC (0+1*j)<|XB B<|0+1*j);rw[show 0+1*j=j by exact aeY]
 ·rw[gW (by rw[ib];exact ar8 h),gW (by rw[ag,LF];exact ar8 h)]
theorem UQ{l:List SO}(h:∀(a:Nat)(o:SO),l[a]? =some o->o.low n=true):l.all (SO.low n)=true:=ba.mpr λo ho=>by refine fT (il ho) λa ha=>h a o ha
theorem Zl(H:pY st s sp)(a:Nat)(o:SO)(h:st[a]? =some o)(hn:4+2*s.1.length<=n):o.low n=true:=by
 have hlt:=iZ h;rw[H.len] at hlt;have hl:(Bo s).length=s.1.length+1:=aj;have stl:∀w,(tj w).low n=true:=λw=>by cases w<;>rfl
 have tml:∀j z,(FZ j z).low n=true:=λj z=>by rcases z with _|w;rfl;cases w<;>rfl
 have blt:∀k,k<n->oZ k n=true:=λk h=>by rw[Bi];exact h
 have key:∀j,j<s.1.length+1->(a=aS j\/a=aB j)->o.low n=true:=λj hj q=>by
  obtain⟨h1,h2⟩:=H.at_ j _ (MH (by rw[hl];exact hj));rcases q with rfl|rfl
  ·rw[h1] at h;rw[<-aa h];exact j3 stl _
  ·rw[h2] at h;rw[<-aa h];have hk:=a9 (QG<|Wq j)<|ah (aY (gL 2<|aT hj) 4) hn;show(oZ (aS j) n&&((FZ j (XB (Bo s) j).2).low n&&true))=true;rw[tml,blt _ hk];rfl
 by_cases h2:a=2
 ·subst h2;rw[H.hb] at h;rw[<-aa h];have:∀m,m<=s.1.length+1->SV.lows n (AP m)=true:=λm=>by
   induction m with
   |zero=>intro _;rfl
   |succ m ih=>
    intro hm;have e:AP (m+1)=AP m++[.h<|aB m]:=by unfold AP;rw[eV,bf];rfl
    have ap:∀l:List SV,SV.lows n l=true->SV.lows n (l++[.h<|aB m])=true:=λl=>by
     induction l with
     |nil=>intro _;show(oZ (aB m) n&&true)=true;rw[blt _<|a9 (Wq m)<|ah (aY (gL 2<|aT hm) 4) hn];rfl
     |cons x l ih2=>intro hx;refine kg (bW.mp hx) λa1 a2=>?_;show(x.low n&&SV.lows n (l++[.h<|aB m]))=true;rw[a1,ih2 a2];rfl
    rw[e];exact ap _<|ih<|be hm
  exact this _<|aG _
 ·by_cases h3:a=3
  ·subst h3;rw[H.hs] at h;rw[<-aa h];exact j3 (λy=>rfl) _
  ·by_cases h0:a<2
   ·exact key 0 (qA _) (by unfold aB aS;rw[if_pos rfl];exact aeX h0)
   ·refine dS (TR hlt h0 h2 h3) λj hj q=>key j hj q
theorem Yl:prog.fns 715=some Y1:=by kernel_rfl
theorem ahK(H:pY st s sp)(hl:s.1.length<=30):∃s4,s4[3]? =some (.list<|sp.map bg)/\EV (d+1) (gu 174) [tS "f",.int 0,.h st.length,.h 2,.hH [] []] (st++[.list Ac])=some (BD<|Bo s,s4):=by
 let s0:List SO:=st++[.list Ac];have h0l:s0.length=st.length+1:=aj;have hL:=H.len;have app:∀{a:Nat}{o:SO}{l:List SO},st[a]? =some o->(st++l)[a]? =some o:=λ{a o l} h=>by rw[aL<|iZ h];exact h
 have mk:=S7 (d:=d) (st:=s0) EH;let I:SO:=.inst 174 [6,7,8,9,10] [tS "f",.int 0,.h<|s0.length+1,.h 2,.hH [] []];let s1:List SO:=s0++[I,.list Ac];let s2:List SO:=s1.set s0.length .gone;let s3:List SO:=s2.set (s0.length+1) .gone;have a1:∀{a:Nat}{o:SO},st[a]? =some o->s3[a]? =some o:=λ{a o} h=>by have:=iZ h;exact cC (cC (by show((st++[SO.list Ac])++[I,.list Ac])[a]? =_;rw[aO];exact app h)<|cN (by rw[h0l];exact eP this))<|cN<|eP (by rw[h0l];exact eP this)
 have hbl:(Bo s).length=s.1.length+1:=aj;have aSl:∀j,aS j≠2/\aB j≠2:=λj=>⟨(sU j).1,(sU j).2.2.1⟩;obtain⟨s4,ek,eb⟩:=KV (XB<|Bo s) (s.1.length+1) 0 44 (s3.set 2 .gone) (λj z hj=>by obtain⟨b1,b2⟩:=H.at_ j _ (MH (by rw[hbl];exact aeW hbl hj));exact⟨cC (a1 b1) (aSl j).1.symm,cC (a1 b2) (aSl j).2.symm⟩)<|aeV hl hbl;have f2:freeze 45 (.h 2) s3=some (.lst<|tZ<|Bo s,s4):=by
  show(s3[2]?.bind _)=_;rw[a1 H.hb];show(b4 44 (AP<|s.1.length+1)<|s3.set 2 .gone).map _=_;have:AP (s.1.length+1)=(fi 0<|s.1.length+1).map λj=>SV.h (aB j):=by unfold AP;rw[List.range_eq_range']
  rw[this,eb,Qh,hbl];rfl
 have i1:s1[s0.length]? =some I:=EI;have i2:s2[s0.length+1]? =some (.list Ac):=cC CJ<|bZ<|cJ _;have fz1:freeze fz (.h s0.length) s1=some (BD<|Bo s,s4):=
  yW i1 (gZ rfl rfl<|gZ rfl rfl<|gZ rfl (by show(s2[s0.length+1]?.bind _)=_;rw[i2];rfl)<|gZ rfl f2<|rh rfl)
 refine kg (Pk _ _ _ _ _ fz1) λkl kk=>?_;have s1l:s1.length=s0.length+2:=aj;have cut:ll s0.length s4=some (s4.take s0.length):=by
  unfold ll;rw[decide_eq_false<|Rc (by rw[kl,s1l];exact Nat.lt_add_of_pos_right<|by decide)];refine kO<|UQ λa o h=>?_;have hlt:=iZ h;rw[cm] at hlt;have hlt:=a9 hlt<|ig _ _;rw[dT hlt] at h;rcases kk a with e|e
  ·rw[e] at h;by_cases q:a<st.length
   ·have h:((st++[SO.list Ac])++[I,.list Ac])[a]? =some o:=h;rw[aO,aL q] at h;exact Zl H a o h<|aeU h0l hL
   ·have hae:=dw (aT<|Mk hlt h0l)<|mf q;subst hae;have h:((st++[SO.list Ac])++[I,.list Ac])[st.length]? =some o:=h;rw[aO,aA<|aG _,bF] at h;rw[<-aa h];rfl
  ·rw[e] at h;rw[<-aa h];rfl
 refine⟨s4.take s0.length,?_,?_⟩
 ·rw[dT<|aeT hl h0l hL hbl];rw[ek 3 λj=>⟨(sU j).2.1,(sU j).2.2.2⟩];exact cC (a1 H.hs) (by decide)
 ·show(match prog.fns 174 with|some fn=>kR (EV d) MM fn [tS "f",.int 0,.h st.length,.h 2,.hH [] []] [] s0|none=>(prog.cls 174).bind λc=>(prog.fns c.init).bind λfn=>pT (EV d) MM 174 c.N5 fn [tS "f",.int 0,.h st.length,.h 2,.hH [] []] s0)=_;rw[YT];refine aP Uz<|aP YW ?_;exact aP mk<|aP fz1<|iB cut rfl
theorem Pj{ps:List (Nat×Nat)}(h3:st[3]? =some (.list<|ps.map bg)):(freeze fz (.h st.length)<|st++[.list [Jo bs L,.h 3]]).map (·.1)=some (.lst [Jo bs L,.lst<|ps.map bg]):=by
 have a0:(st++[SO.list [Jo bs L,.h 3]])[st.length]? =some (.list [Jo bs L,.h 3]):=EH;have a1:((st++[SO.list [Jo bs L,.h 3]]).set st.length .gone)[3]? =some (.list<|ps.map bg):=by rw[NC,aL<|iZ h3];exact h3
 have f:b4 49 [Jo bs L,.h 3] ((st++[SO.list [Jo bs L,.h 3]]).set st.length .gone)=some ([Jo bs L,.lst<|ps.map bg],((st++[SO.list [Jo bs L,.h 3]]).set st.length .gone).set 3 .gone):=by refine gZ rfl xn<|gZ rfl ?_<|rh rfl;show(_[3]?.bind _)=_;rw[a1];show(b4 46 (ps.map bg) _).map _=_;rw[rh<|eN (λz=>rfl) _];rfl
 show((st++[SO.list [Jo bs L,.h 3]])[st.length]?.bind _).map _=_;rw[a0];show((b4 49 [Jo bs L,.h 3] _).map _).map _=_;rw[f];rfl
def aaQ:List S:=[.for EX .over [.rl 0] [M5,D7],fj 5<|.list true [.tup [.tup [.str<|sr 3,.tup []],.bool true,.none],.tup [d6 701 [],.bool true,.str<|sr 49]],.ret<|.list true [d6 174 [.str<|sr 50,.int 0,jf,bK,.gU false],dq]]
theorem ags:cX (EV<|d+2) MM Y1.body (tO ws none none [])=cX (EV<|d+2) MM aaQ (tO ws none none [.list [],.list [.h 0,LM],.list [.h 1],.list []]):=by kernel_rfl
theorem ahh(h:ws.length<=30):EV (d+3) (gu 715) [.lst<|ws.map wS] st=some (.lst [BD<|lJ ws,.lst<|(Ia ws).map bg],st):=by
 refine uk (Th (d:=d) h) λq3 q4 s H e=>?_;have hl:=(Pc ws).len;refine dS (ahK (d:=d+1) H<|aeS h hl) λs4 h3 e4=>?_;change EV (d+2) _ _ _=some (BD<|lJ ws,s4) at e4;generalize lJ ws=B at e4 ⊢;let K:LV->List SO->bo:=λb s=>⟨[.val<|.lst<|ws.map wS,.val<|.h 2,.val<|.h 3,jh q3,jh q4,b,.un,.un,.un,.un],s⟩;have e5:kB (EV<|d+2) MM (fj 5<|.list true [.tup [.tup [.str<|sr 3,.tup []],.bool true,.none],.tup [d6 701 [],.bool true,.str<|sr 49]]) (K .un s)=some (.next,K (.val<|.h s.length)<|s++[.list Ac]):=by kernel_rfl
 have ea:iq (EV<|d+2) MM [.str<|sr 50,.int 0,jf,bK,.gU false] (K (.val<|.h s.length)<|s++[.list Ac])=some ([tS "f",.int 0,.h s.length,.h 2,.hH [] []],K (.val<|.h s.length)<|s++[.list Ac]):=rfl;have ec:cj (EV<|d+2) MM (d6 174 [.str<|sr 50,.int 0,jf,bK,.gU false]) (K (.val<|.h s.length)<|s++[.list Ac])=some (BD B,K (.val<|.h s.length) s4):=bY rfl ea e4;have e6:cj (EV<|d+2) MM (.list true [d6 174 [.str<|sr 50,.int 0,jf,bK,.gU false],dq]) (K (.val<|.h s.length)<|s++[.list Ac])=some (.h s4.length,K (.val<|.h s.length)<|s4++[.list [BD B,.h 3]]):=
  aP (mr ec<|eT rfl) rfl
 have e7:=
  ags.trans (aZ (gy (vs:=[.lst<|ws.map wS]) rfl rfl rfl e)<|aZ e5<|hY<|ff e6)
 exact bR Yl rfl (show((SV.lst<|ws.map wS).free&&true)=true from rfl) rfl e7<|Pj h3
end
section
variable{d:Nat}{ws:List W}{st:List SO}{S:Nat->List Nat}{L:List (Nat×Nat)}
theorem Ot(l:List Int):x∈ji i l↔x=i\/x∈l:=by
 induction l with
 |nil=>show x∈[i]↔_;rw[aE];exact⟨.inl,λh=>h.elim id λh=>absurd h aK⟩
 |cons y l ih=>
  show x∈(if i<=y then i::y::l else y::ji i l)↔_;split
  ·rw[aV]
  ·rw[aV,ih,aV];constructor
   ·rintro(h|h|h)
    ·exact .inr<|.inl h
    ·exact .inl h
    ·exact .inr<|.inr h
   ·rintro(h|h|h)
    ·exact .inr<|.inl h
    ·exact .inl h
    ·exact .inr<|.inr h
theorem Tc{n:Nat}(l:List Nat):(n:Int)∈srt l↔n∈l:=by
 induction l with
 |nil=>exact⟨λh=>absurd h aK,λh=>absurd h aK⟩
 |cons i l ih=>show(n:Int)∈ji i (srt l)↔_;rw[Ot,ih,aV];exact⟨λh=>h.elim (λh=>.inl<|pn.mp h) .inr,λh=>h.elim (λh=>.inl<|congrArg _ h) .inr⟩
theorem RY(l:List Int):fR (l.map SV.int)=some (l.map lL):=by
 induction l with
 |nil=>exact rfl
 |cons i l ih=>show(m6<|.int i).bind (λd=>(fR<|l.map SV.int).map λds=>d::ds)=_;rw[ih];rfl
theorem X4{n:Nat}{l:List Nat}:jB st .isIn (.int n) (QN l)=some (decide<|n∈l):=by
 show((fR<|(srt l).map SV.int).bind λds=>gd true<|ds.findIdx? λx=>bp x<|.int n).map (·.isSome)=_;rw[RY];show some (((srt l).map lL).findIdx? λx=>bp x<|.int n).isSome=_;congr 1;rw[sM,List.any_map,je,xd,decide_eq_true_eq,<-Tc l];constructor
 ·rintro⟨x,hx,e⟩;have:(x==n)=true:=e;rw[<-beq_iff_eq.mp this];exact hx
 ·intro h;exact⟨n,h,by show((n:Int)==n)=true;exact beq_self_eq_true _⟩
theorem TZ(hno:∀r,(∀p∈L,p.1≠r)->S r=[])(r:Nat):iA (TV S L) 4 [.int r,.lst []] σ=some (QN<|S r,σ):=by
 refine iB (?_:Td σ.st (TV S L) [.int r,.lst []]=_) rfl;unfold Td;refine aP rfl<|aP rfl<|aP (nZ r L) ?_;cases e:L.findIdx? (λp=>p.1==r) with
 |none=>
  have:=hno r λp hp q=>by have:=bU.mp e p hp;rw[q] at this;simp at this
  rw[this];rfl
 |some j=>obtain⟨hj,h1,_⟩:=bA.mp e;have hp:=ay hj;generalize L[j]'(hj)=p at hp h1;show(L.map λp=>QN<|S p.1)[j]? =_;rw[ai,hp,<-beq_iff_eq.mp h1];rfl
def Aj(ws:List W)(B:List d9)(R:List (Nat×Nat))(t:SV)(q6 q7 q8:OS):bo:=⟨[.val<|.lst<|ws.map wS,.val<|BD B,.val<|.lst<|(Ia ws).map bg,.val<|.inst 662 JM JL,.val<|.lst<|R.map bg,.cell 0,jh q6,jh q7,.cell 1,.un,.un,.un,.un,.un,.un,.un,.un,.un],[.cell<|some t,.cell q8]⟩
noncomputable def P9:E:=.comp false [none,none,some 8,some 5] bK td .gO [.int 6] [.cmp .isIn dq<|.bx dR 4 [bK,.list false []]]
theorem Uy{C:bT}(hno:∀r,(∀p∈L,p.1≠r)->S r=[]){B:List d9}{R:List (Nat×Nat)}{q6 q7:OS}{k:Nat}:cj C MM P9 (Aj ws B R (TV S L) q6 q7<|some<|.int k)=some (.lst (((ak 6).filter λr=>decide<|k∈S r).map λr:Nat=>SV.int r),Aj ws B R (TV S L) q6 q7<|some<|.int k):=by
 let s:List SO:=[.cell<|some<|TV S L,.cell<|some<|.int k];obtain⟨q',e1⟩:=wc (f:=λx τ=>(dm td x τ).bind λτ=>(kP C MM [.cmp .isIn dq<|.bx dR 4 [bK,.list false []]] τ).bind λq=>(gh q.1).bind λb=>match b with
    |true=>(cj C MM bK q.2).map λr=>([r.1],r.2)
    |false=>some ([],q.2)) (t:=λr=>decide<|k∈S r) (F:=λq=>⟨[.un,jh q,.cell 1,.cell 0],s⟩) (ak 6) [] none λr z q=>by
  let G:bo:=⟨[.un,.val<|.int r,.cell 1,.cell 0],s⟩
  refine aP (a:=G) (by cases q<;>rfl) ?_
  have g1:cj C MM (.bx dR 4 [bK,.list false []]) G=some (QN<|S r,G):=jj (aU:=G) (vs:=[.int r,.lst []]) rfl rfl rfl rfl<|TZ hno r
  have d1:cj C MM (.cmp .isIn dq<|.bx dR 4 [bK,.list false []]) G=some (.bool<|decide<|k∈S r,G):=d7 rfl g1 X4
  cases hd:decide (k∈S r) with
  |true=>rw[hd] at d1;exact aP (aP d1<|aP rfl rfl)<|aP rfl rfl
  |false=>rw[hd] at d1;exact aP (aP d1<|aP rfl rfl)<|aP rfl rfl
 have e2:=Cu (m:=false) (fr:=[none,none,some 8,some 5]) rfl (σ:=Aj ws B R (TV S L) q6 q7<|some<|.int k) (aq:=Aj ws B R (TV S L) q6 q7<|some<|.int k) (es:=[.int 6]) (vs:=[.int (6:Nat)]) rfl (j4<|by decide) rfl e1 (by rw[eX,ag];exact ah (rH ..)<|by decide);rw[eX,rU<|eN (λz=>rfl) _] at e2;exact e2
theorem KZ(p:Nat×Nat)(S:List (Nat×Nat)):s9 (bg p) (S.map bg)=some (S.findIdx? λq=>q==p):=by show((fR<|S.map bg).bind λds=>gd (decide<|(QR p).depth<=cw)<|ds.findIdx? λx=>bp x<|QR p)=_;rw[Dg];show some _=some _;rw[jx];congr 2;funext q;exact PH q p
theorem X6{R:List (Nat×Nat)}(nd:R.Nodup)(hl:R.length<=eA){i:Nat}{p:Nat×Nat}(h:R[i]? =some p){σ:bo}:iA (.lst<|R.map bg) 3 [bg p] σ=some (.int i,σ):=by
 refine iB (?_:vJ σ.st (.lst<|R.map bg) [bg p]=_) rfl;unfold vJ;have e:R.findIdx? (λq=>q==p)=some i:=by refine dS (GZ<|aI h) λj h1 h2=>?_;rw[h1];congr 1;exact(jv (af.mp h2).1 nd).mp<|h2.trans h.symm
 exact aP rfl<|aP rfl<|aP (uO (by rw[ag];exact hl))<|aP ((KZ p R).trans<|congrArg some e) rfl
theorem To(ws:List W)(i:Nat):oG ws i=[1,2,3,4,5]\/oG ws i=[1,3]\/oG ws i=[]:=by
 unfold oG;split
 ·exact .inl rfl
 ·split
  ·exact .inr<|.inl rfl
  ·exact .inr<|.inr rfl
theorem Oj(ws:List W)(i:Nat):jB st .ne (.lst ((oG ws i).map λr:Nat=>SV.int r)) (.lst ((oG ws i).map λr:Nat=>SV.int r))=some false:=by rcases To ws i with e|e|e<;>rw[e]<;>kernel_rfl
theorem Yk:prog.fns 725=some Y0:=by kernel_rfl
theorem acL(h:ws.length<=30):EV (d+17) (gu 725) [.lst<|ws.map wS] st=some (.bool true,st):=by
 have O:=Xz h;have hn:(PS<|lJ ws).length<=1000:=by rw[Gp];exact aeR h
 refine dS (ahv (d:=d+8) (st:=[.cell none,.cell none]) (was:=JM) (wvs:=JL) O (Je ws) hn) λLk hL e493=>?_;obtain⟨L,hnd,hno,e514⟩:=aht (d:=d) (st:=[.cell none,.cell none]) uY hL.2 (by rw[Gp];exact aeQ h);have e588:=ahm (d:=d+9) (st:=[.cell none,.cell none]) O (Je ws) hn;have e183:=UG (d:=d+13) (st:=[.cell none,.cell none]) O hn;have e715:=ahh (d:=d+13) (st:=[.cell none,.cell none]) h;have e694:=ahj (d+10) [.cell none,.cell none];have hc:uZ (lJ ws)∈fq:=uY;have live:∀k,k<ws.length->(ak 6).filter (λr=>decide<|k∈xt (uZ<|lJ ws) (lJ ws) (PS<|lJ ws).length r)=oG ws k:=λk hk=>KI hc hk;have at_:∀i,i<ws.length->(PS<|lJ ws)[i]? =some (xf<|oP<|ws.take i):=λi hi=>VQ ws hi;have nd:=qT<|lJ ws;generalize xt (uZ<|lJ ws) (lJ ws) (PS<|lJ ws).length=S at *;generalize Lu (uZ<|lJ ws) (lJ ws) JM JL Lk=M at *;generalize PS (lJ ws)=R at *;generalize lJ ws=B at *;let T:SV:=TV S L;let F:LV->LV->LV->LV->OS->bo:=λa b c e t=>⟨[.val<|.lst<|ws.map wS,a,b,c,e,.cell 0,.un,.un,.cell 1,.un,.un,.un,.un,.un,.un,.un,.un,.un],[.cell t,.cell none]⟩;let v1:LV:=.val<|BD B;let v2:LV:=.val<|.lst<|(Ia ws).map bg;let v3:LV:=.val<|.inst 662 JM JL;let v4:LV:=.val<|.lst<|R.map bg;have s1:kB (EV<|d+16) MM (.asg (.tp [.nm 1,.nm 2])<|d6 715 [b0]) (F .un .un .un .un none)=some (.next,F v1 v2 .un .un none):=bO (bY (aU:=F .un .un .un .un none) (vs:=[.lst<|ws.map wS]) rfl rfl e715) rfl;have s2:kB (EV<|d+16) MM (.asg (.tp [.nm 3,.nm 4])<|.tup [d6 694 [],d6 183 [bK]]) (F v1 v2 .un .un none)=some (.next,F v1 v2 v3 v4 none):=bO (ro (bY rfl rfl e694)<|bY (aU:=F v1 v2 .un .un none) (vs:=[BD B]) rfl rfl e183) rfl;have s3:kB (EV<|d+16) MM (fj 5<|d6 514 [bK,dR,fu,d6 588 [bK],d6 493 [bK,dR]]) (F v1 v2 v3 v4 none)=some (.next,Aj ws B R T none none none):=
  bO (bY rfl (mr rfl<|mr rfl<|mr rfl<|mr (bY (aU:=F v1 v2 v3 v4 none) (vs:=[BD B]) rfl rfl e588)<|eT<|bY (aU:=F v1 v2 v3 v4 none) (vs:=[BD B,.inst 662 JM JL]) rfl rfl e493) e514) rfl
 have hRl:R.length<=eA:=ah hn (by decide);let P:Nat->bo->Prop:=λi τ=>∃q6 q7 q8,τ=Aj ws B R T q6 q7 q8;obtain⟨τ,e,q6,q7,q8,rfl⟩:=qW (f:=λx τ=>(dm (.many [6,7]) x τ).bind λτ=>cX (EV<|d+16) MM [fj 8<|.bx fu 3 [qM],.ifs (.cmp .ne P9<|d6 720 [b0,jZ]) [.ret<|.bool false] []] τ) (g:=λq:(Nat×Nat)×Nat=>SV.tup [.int q.2,bg q.1]) P (Ia ws).zipIdx (Aj ws B R T none none none) ⟨none,none,none,rfl⟩ λi q hq τ hP=>by
  refine VH hP λq6 q7 q8 zz3=>?_;subst zz3;rw[mA,bq] at hq;refine dS hq λp hp zz2=>?_;subst zz2;have hi:i<ws.length:=by have:=(af.mp hp).1;unfold Ia at this;rwa[ag,au] at this
  have hpe:p=xf (oP<|ws.take i):=by unfold Ia at hp;rw[ai,bJ hi] at hp;exact(aa hp).symm
  have hR:R[i]? =some p:=by rw[hpe];exact at_ i hi
  let G:OS->bo:=λq=>Aj ws B R T (some<|.int i) (some<|bg p) q;have c1:cj (EV<|d+16) MM P9 (G<|some<|.int i)=some (.lst ((oG ws i).map λr:Nat=>SV.int r),G<|some<|.int i):=by rw[<-live i hi];exact Uy hno
  have c2:cj (EV<|d+16) MM (d6 720 [b0,jZ]) (G<|some<|.int i)=some (.lst ((oG ws i).map λr:Nat=>SV.int r),G<|some<|.int i):=bY (aU:=G<|some<|.int i) (vs:=[.lst<|ws.map wS,.int i]) rfl rfl (ahg (ah h<|of_decide_eq_true<|id<|de true)<|by omega);refine⟨G<|some<|.int i,aP (a:=G q8) ?_<|aZ (τ:=G<|some<|.int i) (bO (jj (aU:=G q8) (vs:=[bg p]) rfl rfl rfl rfl<|X6 nd hRl hR) rfl)<|aZ (xg (d7 c1 c2<|Oj ws i) rfl) rfl,some<|.int i,some<|bg p,some<|.int i,rfl⟩;show pG [6,7] [.int (0+i:Nat),bg p] (Aj ws B R T q6 q7 q8)=_;rw[cz];cases q6<;>cases q7<;>rfl
 have it:lH .enum [.lst<|(Ia ws).map bg]=some ((Ia ws).zipIdx.map λq:(Nat×Nat)×Nat=>SV.tup [.int q.2,bg q.1]):=by show some (((Ia ws).map bg).zipIdx.map _)=_;rw[Rg,jW];rfl
 have body:cX (EV<|d+16) MM Y0.body (F .un .un .un .un none)=some (.ret<|.bool true,Aj ws B R T q6 q7 q8):=aZ s1<|aZ s2<|aZ s3<|aZ (gy (eT rfl) it rfl e)<|hY<|ff rfl;exact bR Yk rfl (show((SV.lst<|ws.map wS).free&&true)=true from rfl) rfl body rfl
end
section
variable{d:Nat}{ws:List W}{st pre:List SO}
theorem tB{i j:Int}(h:j.natAbs<2^64):m7 .mul (.int i) (.int j)=some (.int<|i*j):=by show gd (decide (i.natAbs<2^64)||decide (j.natAbs<2^64)) (SV.int<|i*j)=_;rw[decide_eq_true h,Bool.or_true];rfl
theorem vI{i j:Int}(h:(j != 0)=true):m7 .mod (.int i) (.int j)=some (.int<|n8 i j):=by show(gd (j != 0)<|n8 i j).map SV.int=_;rw[h];rfl
theorem PQ{i j:Int}(h:(j != 0&&decide (j.natAbs<1073741824))=true):m7 .fdiv (.int i) (.int j)=some (.int<|wM i j):=by show(gd (j != 0&&decide (j.natAbs<1073741824))<|wM i j).map SV.int=_;rw[h];rfl
theorem CN{i j:Int}:m7 .add (.int i) (.int j)=some (.int<|i+j):=rfl
theorem Py{i:Int}(h:0<n):∃r:Nat,r<n/\n8 i n=r:=by have h1:=Int.fmod_nonneg_of_pos i<|adm h;have h2:=Int.fmod_lt_of_pos i<|adm h;exact⟨(n8 i n).toNat,(wL h1).mpr h2,Int.eq_natCast_toNat.mpr h1⟩
section
variable{C:bT}{M:b6}{σ aq aU:bo}{hM jH:E}{i j:Int}
theorem AW(h:cj C M hM σ=some (.int i,aq)):cj C M (.bi .int [hM]) σ=some (.int i,aq):=uT (eT h) rfl
end
def aih(k top:Nat)(q2:OS)(st:List SO):bo:=⟨[.val<|.h k,.val<|.int top,jh q2,.un],st⟩
theorem Yo:prog.fns 680=some Y2:=rfl
theorem Yn:prog.fns 687=some abU:=rfl
theorem Ym:prog.fns 708=some abT:=rfl
theorem Yp:prog.fns 673=some Cq:=rfl
theorem Yj:prog.fns 732=some YZ:=rfl
noncomputable def jn(a b:Int):SO:=.list [.int a,.int b]
theorem Zf(hk:st[k]? =some (jn a b))(h1:0<top)(h2:top<=8):∃(r:Nat)(a' b':Int),r<top/\EV (d+1) (gu 680) [.h k,.int top] st=some (.int r,st.set k<|jn a' b'):=by
 let F:OS->List SO->bo:=aih k top;have t0:((top:Int) != 0)=true:=by rw[bne_iff_ne];exact Int.natCast_ne_zero_iff_pos.mpr h1
 have i0:∀{q:OS}{s:List SO}{x y:Int},s[k]? =some (jn x y)->cj (EV d) MM (cQ b0 0) (F q s)=some (.int x,F q s):=λ{q s x y} h=>bS rfl rfl<|qO h rfl;have i1:∀{q:OS}{s:List SO}{x y:Int},s[k]? =some (jn x y)->cj (EV d) MM (cQ b0 1) (F q s)=some (.int y,F q s):=λ{q s x y} h=>bS rfl rfl<|qO h rfl;have cnd:cj (EV d) MM (.cmp .gt (cQ b0 0)<|.int 0) (F none st)=some (.bool<|decide<|0<a,F none st):=d7 (i0 hk) rfl rfl;have fin:∀{r:Nat}{q:OS}{s:List SO},s.length=st.length->cX (EV d) MM Y2.body (F none st)=some (.ret<|.int r,F q s)->EV (d+1) (gu 680) [.h k,.int top] st=some (.int r,s):=λ{r q s} hl h=>
  hK Yo (iO (lo:=(F q s).loc) rfl rfl rfl h rfl<|jA hl)
 cases ha:decide (0<a) with
 |true=>rw[ha] at cnd;refine dS (Py (i:=a) h1) λr hr e=>?_;have m1:=(vI t0).trans (by rw[e]);have d1:m7 .fdiv (.int a) (.int top)=some (.int<|wM a top):=PQ (by rw[t0,decide_eq_true (show(top:Int).natAbs<1073741824 by exact aeO h1 h2)];rfl);refine QM r (wM a top) b hr<|fin (q:=some<|.int r) fP ?_;refine hY<|CV cnd<|aZ (τ:=F (some<|.int r) st) (bO (ip (AW<|i0 hk) rfl m1) rfl)<|aZ (uA (ip (i0 hk) rfl d1) rfl rfl<|rQ hk (by show 0<2;decide)<|by decide)<|hY<|ff rfl
 |false=>
  rw[ha] at cnd;let b':Int:=n8 (b*39373+7) 2147483647;refine dS (Py (i:=b*39373+7) (n:=2147483647)<|by decide) λrb hb eb=>?_;let z:Int:=wM (n8 (b'*b') 2147483629) 32;refine dS (Py (i:=z) h1) λr hr e=>?_;have m1:=(vI t0).trans (by rw[e]);have hbn:b'.natAbs<2^64:=by have:b'=rb:=eb;rw[this];exact ah hb<|of_decide_eq_true<|id<|de true
  have hs:(st.set k<|jn a b')[k]? =some (jn a b'):=pF hk;refine QM r a b' hr<|fin (q:=none) fP ?_;refine aZ (xg cnd rfl)<|aZ (τ:=F none<|st.set k<|jn a b') (uA (v:=.int b') (ip (AW<|ip (ip (i1 hk) rfl<|tB<|by decide) rfl CN) rfl<|vI<|by decide) rfl rfl<|rQ hk (by show 1<2;decide)<|by decide)<|hY<|ff<|ip (AW<|ip (ip (AW<|ip (i1 hs) (i1 hs)<|tB hbn) rfl<|vI<|by decide) rfl<|PQ<|by decide) rfl m1
noncomputable def MW:List W:=[.set,.use,.drop,.d0,.d1,.d2,.drop,.rest]
theorem ahk(hk:st[k]? =some (jn a b)):∃(w:W)(a' b':Int),EV (d+2) (gu 687) [.h k,.lst<|MW.map wS] st=some (wS w,st.set k<|jn a' b'):=by
 refine uk (Zf (d:=d) (top:=8) hk (by decide)<|by decide) λr a' b' hr e=>?_;have hw:MW[r]? =some (MW[r]'(hr)):=ay hr;generalize MW[r]'(hr)=w at hw;let F:List SO->bo:=λs=>⟨[.val<|.h k,.val<|.lst<|MW.map wS,.un,.un],s⟩;have q:cj (EV<|d+1) MM (.sub bK<|d6 680 [b0,kH bK]) (F st)=some (wS w,F<|st.set k<|jn a' b'):=
  bS rfl (bY (aU:=F st) (vs:=[.h k,.int (8:Nat)]) rfl rfl e) (pB<|g6 (by rw[ai,hw];rfl) (by show r<=4000;exact aeN hr))
 exact y31 w a' b'<|hK Yn<|iO rfl rfl rfl (hY<|ff q) rfl<|jA fP
def CQ(pre:List SO)(q2:OS)(a b:Int)(ws:List W):bo:=⟨[.val<|.h pre.length,.val<|.h<|pre.length+1,jh q2,.un,.un,.un],pre++[jn a b,.list<|ws.map wS]⟩
def acW:List S:=[.expr<|.bx bK 0 [d6 687 [b0,.list false [.str<|sr 40,.str<|sr 19,.str<|sr 13,.str<|sr 41,.str<|sr 42,.str<|sr 43,.str<|sr 13,.str<|sr 44]]]]
theorem ahi(hp:∀n,pre.all (SO.low n)=true)(a b:Int):∃(ws:List W)(a' b':Int),ws.length<=10/\EV (d+3) (gu 708) [.h pre.length] (pre++[jn a b])=some (.lst<|ws.map wS,pre++[jn a' b']):=by
 refine uk (Zf (d:=d+1) (st:=pre++[jn a b]) (top:=2) EH (by decide)<|by decide) λr1 a1 b1 hr1 e1=>?_;rw[NC] at e1;refine uk (Zf (d:=d+1) (st:=pre++[jn a1 b1,.list<|(br r1 W.set).map wS]) (top:=8) EI (by decide)<|by decide) λr2 a2 b2 hr2 e2=>?_;rw[ND] at e2;let F:LV->List SO->bo:=λq s=>⟨[.val<|.h pre.length,q,.un,.un,.un,.un],s⟩;have s1:kB (EV<|d+2) MM (fj 1<|.rep true (.str<|sr 40)<|d6 680 [b0,.int 2]) (F .un<|pre++[jn a b])=some (.next,CQ pre none a1 b1<|br r1 W.set):=by refine bO (PM (x:=wS .set) rfl (bY (aU:=F .un<|pre++[jn a b]) (vs:=[.h pre.length,.int (2:Nat)]) rfl rfl e1) (by show r1<=4000;exact adl hr1)) ?_;rw[aj,aO,<-List.map_replicate];rfl
 let P:Nat->bo->Prop:=λi τ=>∃q a b ws,ws.length<=1+i/\τ=CQ pre q a b ws;obtain⟨τ,e,q,a3,b3,ws,hl,rfl⟩:=qW (f:=λx τ=>(dm MB x τ).bind λτ=>cX (EV<|d+2) MM acW τ) P (ak<|2+r2) (CQ pre none a2 b2<|br r1 W.set) ⟨none,a2,b2,_,by rw[lT];exact aT hr1,rfl⟩ λi x hx τ hP=>by
  refine x42 hP λq a b ws hl zz5=>?_;subst zz5;have hi:=(af.mp hx).1;rw[au] at hi;refine VH (ahk (d:=d) (st:=pre++[jn a b,.list<|ws.map wS]) EI) λw a' b' e=>?_;rw[ND] at e;let G:Int->Int->List W->bo:=λa b ws=>CQ pre (some<|.int x) a b ws;refine⟨G a' b'<|ws++[w],aP (a:=G a b ws) (by cases q<;>rfl)<|aZ (Xm (v:=.none)<|jj (aU:=G a' b' ws) rfl ?_ ?_ (eT<|bY (aU:=G a b ws) rfl (rfl) e)<|(AL CJ (by rw[ag];show _<=4000;omega)).trans ?_) rfl,some<|.int x,a',b',ws++[w],by rw[aj];show _+1<=_;exact eQ hl,rfl⟩
  ·show(pre++[jn a b,SO.list<|ws.map wS])[pre.length+1]?.bind lD=none;rw[CJ];rfl
  ·show((pre++[jn a b,SO.list<|ws.map wS])[pre.length+1]?.bind gE).isSome=true;rw[CJ];rfl
  ·rw[Xk];show some (SV.none,_)=some (SV.none,CQ pre (some<|.int x) a' b'<|ws++[w]);unfold CQ;rw[bf];rfl
 rw[au] at hl;refine QM ws a3 b3 (aeM hr2 hl) ?_;have s2:iq (EV<|d+2) MM [.bin .add (.int 2)<|d6 680 [b0,.int 8]] (CQ pre none a1 b1<|br r1 W.set)=some ([.int (2+r2:Nat)],CQ pre none a2 b2<|br r1 W.set):=by refine eT<|ip rfl (bY (aU:=CQ pre none a1 b1<|br r1 W.set) (vs:=[.h pre.length,.int (8:Nat)]) rfl rfl e2) ?_;congr 2
 have cut:ll (pre++[jn a b]).length (pre++[jn a3 b3,.gone])=some (pre++[jn a3 b3]):=by
  have hl:(pre++[jn a b]).length=(pre++[jn a3 b3]).length:=by rw[aj,aj];rfl
  have ha:pre++[jn a3 b3,.gone]=(pre++[jn a3 b3])++[.gone]:=by rw[aO];rfl
  rw[hl,ha];exact n3 (by rw[qF,hp];rfl)
 have fz1:freeze fz (.h<|pre.length+1) (pre++[jn a3 b3,.list<|ws.map wS])=some (.lst<|ws.map wS,pre++[jn a3 b3,.gone]):=by rw[rj CJ<|xY ws,Xk]
 exact hK Ym<|iO rfl rfl rfl (aZ s1<|aZ (gy s2 (j4 (by show _<=4000;exact aeL hr2)) rfl e)<|hY<|ff rfl) fz1 cut
def aii(ns:List Int)(k:Nat)(q2 q3 q4:OS)(st:List SO):bo:=⟨[.val<|.lst<|ns.map SV.int,.val<|.int k,jh q2,jh q3,jh q4,.un,.un,.un],st⟩
theorem ahl{ns:List Int}(hn:ns.length<=63){k:Nat}(hk:k<2):∃a b,EV (d+1) (gu 673) [.lst<|ns.map SV.int,.int k] st=some (.h st.length,st++[jn a b]):=by
 let F:OS->OS->OS->List SO->bo:=aii ns k;have s2:∃c:Int,cX (EV d) MM (Cq.body.take 2) (F none none none st)=some (.next,F (some<|.int c) none none st):=by
  have c1:cj (EV d) MM (.cmp .lt bK<|kH b0) (F (some<|.int 0) none none st)=some (.bool<|decide<|k<(ns.map SV.int).length,F (some<|.int 0) none none st):=d7 rfl (gT (xs:=ns.map SV.int) rfl rfl (by rw[ag];show _<=4000;exact adk hn))<|lG rfl;cases h:decide (k<(ns.map SV.int).length) with
  |false=>rw[h] at c1;exact⟨0,aZ (τ:=F (some<|.int 0) none none st) rfl<|aZ (xg c1 rfl) rfl⟩
  |true=>
   rw[h] at c1;have hlt:k<ns.length:=by have:=of_decide_eq_true h;rwa[ag] at this
   have e:cj (EV d) MM (.sub b0 bK) (F (some<|.int 0) none none st)=some (.int<|ns[k]'(hlt),F (some<|.int 0) none none st):=bS (aq:=F (some<|.int 0) none none st) (aU:=F (some<|.int 0) none none st) (x:=.lst<|ns.map SV.int) (y:=.int k) rfl rfl (pB<|g6 (by rw[ai,ay hlt];rfl) (by show k<=4000;exact adl hk));exact⟨ns[k]'(hlt),aZ (τ:=F (some<|.int 0) none none st) rfl<|aZ (CV c1<|aZ (bO e rfl) rfl) rfl⟩
 obtain⟨c,s2⟩:=s2;let g:Int:=if c< -1-c then -1-c else c
 let m:Int:=n8 ((n8 g 2147483629+7919*(k:Int)*(k:Int)+31*(k:Int)+17)*48271) 2147483647;let u:Int:=if decide ((10:Int)^18<=g) then 1 else 0
 have kn:(k:Int).natAbs<2^64:=by show k<2^64;exact ah hk<|of_decide_eq_true<|id<|de true
 have e3:cj (EV d) MM (.bi .max [.bi .int [dq],.bi .int [.bin .sub (.neg<|.int 1) dq]]) (F (some<|.int c) none none st)=some (.int g,F (some<|.int c) none none st):=rfl;let F3:bo:=F (some<|.int c) (some<|.int g) none st;have l1:cj (EV d) MM bK F3=some (.int k,F3):=rfl;have e4:cj (EV d) MM (.bin .mod (.bi .int [.bin .mul (.bin .add (.bin .add (.bin .add (.bin .mod (.bi .int [dR])<|.int 2147483629)<|.bin .mul (.bin .mul (.int 7919) bK) bK)<|.bin .mul (.int 31) bK)<|.int 17)<|.int 48271])<|.int 2147483647) F3=some (.int m,F3):=
  ip (AW<|ip (ip (ip (ip (ip (aq:=F3) (AW rfl) rfl<|vI (j:=2147483629)<|by decide) (ip (ip (aq:=F3) rfl l1<|tB kn) l1<|tB kn) CN) (ip (aq:=F3) rfl l1<|tB kn) CN) rfl CN) rfl<|tB (j:=48271)<|by decide) rfl (vI (j:=2147483647)<|by decide)
 let F4:bo:=F (some<|.int c) (some<|.int g) (some<|.int m) st;have un:u.natAbs<2^64:=by show(if decide ((10:Int)^18<=g) then(1:Int) else 0).natAbs<2^64;split<;>decide
 have pw:cj (EV d) MM (.bin .pow (.int 10)<|.int 18) F4=some (.int<|(10:Int)^18,F4):=by kernel_rfl
 have e5:cj (EV d) MM (.bin .mul dR<|.bi .int [.cmp .ge dR<|.bin .pow (.int 10)<|.int 18]) F4=some (.int<|g*u,F4):=
  ip (aq:=F4) (x:=.int g) (y:=.int u) rfl (uT (eT<|d7 (aq:=F4) (x:=.int g) rfl pw rfl) rfl) (tB un)
 have e6:cj (EV d) MM (.list true [.bin .mul dR<|.bi .int [.cmp .ge dR<|.bin .pow (.int 10)<|.int 18],fu]) F4=some (.h st.length,F (some<|.int c) (some<|.int g) (some<|.int m)<|st++[jn (g*u) m]):=
  aP (mr e5<|eT rfl) rfl
 refine⟨g*u,m,hK Yp ?_⟩;have body:=
  (yh (l:=Cq.body.take 2) (r:=Cq.body.drop 2) s2).trans (aZ (bO e3 rfl)<|aZ (bO e4 rfl)<|hY<|ff e6)
 show(tK Cq [SV.lst<|ns.map SV.int,SV.int k]).bind (λas=>(cX (EV d) MM Cq.body ⟨(cM Cq.kinds as [] st).1,(cM Cq.kinds as [] st).2⟩).map λq=>(YX q.1,q.2.st))=_;exact aP (a:=[SV.lst<|ns.map SV.int,SV.int k]) rfl<|iB body rfl
end
def nA(ns:List Int)(q:OS)(st:List SO):bo:=⟨[.val<|.lst<|ns.map SV.int,jh q,.un,.un,.un,.un,.un,.un,.un],st⟩
noncomputable def acV:List S:=[.ifs (.not<|d6 725 [d6 708 [d6 673 [b0,bK]]]) [.ret<|.bool false] []]
theorem VS(h:cj C M e σ=some (.bool true,aq)):cj C M (.not e) σ=some (.bool false,aq):=aP h rfl
theorem OI(ns:List Int)(hn:ns.length<=63):rn prog 40 (gu 732) [.lst<|ns.map SV.int] []=some (.bool true,[]):=by
 have s1:kB (EV 39) MM (.ifs (.not<|d6 725 [.list false [.str<|sr 40,.str<|sr 13,.str<|sr 44,.str<|sr 41]]) [.ret<|.bool false] []) (nA ns none [])=some (.next,nA ns none []):=
  xg (aq:=nA ns none []) (VS<|bY (f:=gu 725) (aq:=nA ns none []) (aU:=nA ns none []) (vs:=[.lst<|[W.set,.drop,.rest,.d0].map wS]) rfl (by kernel_rfl)<|acL (d:=22) (ws:=[.set,.drop,.rest,.d0])<|by decide) rfl
 let P:Nat->bo->Prop:=λi τ=>∃q pre,τ=nA ns q pre/\∀n,pre.all (SO.low n)=true;have len:∀m,m<=2->∃τ,cR (λx τ=>(dm td x τ).bind λτ=>cX (EV 39) MM acV τ) ((ak m).map λi:Nat=>SV.int i) (nA ns none [])=some (.next,τ)/\P (ak m).length τ:=λm hm=>
  qW P (ak m) (nA ns none []) ⟨none,[],rfl,λz=>rfl⟩ λi x hx τ hP=>by
   refine rJ hP λq pre zz2 hp=>?_;subst zz2;obtain⟨hi,hxi⟩:=af.mp hx;rw[au] at hi;rw[cq] at hxi;subst hxi;refine zC (ahl (d:=38) (st:=pre) hn (k:=i)<|by exact ah hi hm) λa b e1=>?_;refine uk (ahi (d:=36) hp a b) λws a' b' hl e2=>?_;let G:List SO->bo:=nA ns<|some<|.int i;have e:cj (EV 39) MM (d6 725 [d6 708 [d6 673 [b0,bK]]]) (G pre)=some (.bool true,G<|pre++[jn a' b']):=
    bY (f:=gu 725) (aq:=G pre) (aU:=G<|pre++[jn a' b']) (vs:=[.lst<|ws.map wS]) rfl (eT<|bY (f:=gu 708) (aq:=G pre) (aU:=G<|pre++[jn a b]) (vs:=[.h pre.length]) rfl (eT<|bY (f:=gu 673) (aq:=G pre) (aU:=G pre) (vs:=[.lst<|ns.map SV.int,.int i]) rfl rfl e1) e2) (acL (d:=22)<|by exact ah hl<|of_decide_eq_true<|id<|de true)
   exact⟨G<|pre++[jn a' b'],aP (a:=G pre) (by cases q<;>rfl)<|aZ (xg (VS e) rfl) rfl,some<|.int i,pre++[jn a' b'],rfl,λn=>by rw[qF,hp];rfl⟩
 have mm:∃m:Nat,m<=2/\iq (EV 39) MM [.bi .max [.int 1,.bi .min [.int 2,kH b0]]] (nA ns none [])=some ([.int m],nA ns none []):=by
  have l1:cj (EV 39) MM (kH b0) (nA ns none [])=some (.int ns.length,nA ns none []):=by have:=gT (C:=EV 39) (M:=MM) (e:=b0) (σ:=nA ns none []) (aq:=nA ns none []) (x:=.lst<|ns.map SV.int) (xs:=ns.map SV.int) rfl rfl (by rw[ag];show _<=4000;exact adk hn);rwa[ag] at this
  have l2:cj (EV 39) MM (.bi .min [.int 2,kH b0]) (nA ns none [])=some (.int (if(ns.length:Int)<2 then(ns.length:Int) else 2),nA ns none []):=uT (mr (aq:=nA ns none []) rfl<|eT l1) rfl;have l3:cj (EV 39) MM (.bi .max [.int 1,.bi .min [.int 2,kH b0]]) (nA ns none [])=some (.int (if(1:Int)<(if(ns.length:Int)<2 then(ns.length:Int) else 2) then(if(ns.length:Int)<2 then(ns.length:Int) else 2) else 1),nA ns none []):=uT (mr (aq:=nA ns none []) rfl<|eT l2) rfl;have h2:(if(1:Int)<(if(ns.length:Int)<2 then(ns.length:Int) else 2) then(if(ns.length:Int)<2 then(ns.length:Int) else 2) else 1)=((if ns.length<2 then 1 else 2:Nat):Int):=by
   by_cases q:ns.length<2
   ·rw[if_pos (show(ns.length:Int)<2 by exact Int.lt_toNat.mp q),if_pos q,if_neg (show ¬((1:Int)<(ns.length:Int)) from λh=>absurd (nN.mp (show((1:Nat):Int)<(ns.length:Int) from h))<|vk.mpr<|aT q)];rfl
   ·rw[if_neg (show ¬(ns.length:Int)<2 from λh=>q<|nN.mp h),if_neg q];rfl
  rw[h2] at l3;exact⟨if ns.length<2 then 1 else 2,by split;exact(by decide:1<=2);exact aG 2,eT l3⟩
 refine dS mm λm hm em=>?_;obtain⟨τ,e,q,pre,rfl,_⟩:=len m hm;have body:cX (EV 39) MM YZ.body (nA ns none [])=some (.ret<|.bool true,nA ns q pre):=aZ s1 (aZ (gy em (j4 (n:=m) (by show m<=4000;exact ah hm<|of_decide_eq_true<|id<|de true)) rfl e)<|hY<|ff rfl);exact bR (d:=39) Yj rfl (show((SV.lst<|ns.map SV.int).free&&true)=true from rfl) rfl body rfl
noncomputable abbrev pr:Program:=PySem.Challenge.pw_pf0171_01
def qK(i:Nat)(k:Option Nat):Option (Str×fh×List Stmt×Scope):=match pr.main.body[i]?,k with
 |some (.FunctionDef n ps b _ _ _ sc _ _ _),none=>some (n,ps,b,sc)
 |some (.ClassDef _ _ _ b _ _ _ _ _ _ _),some k=>match b[k]? with
  |some (.FunctionDef n ps b _ _ _ sc _ _ _)=>some (n,ps,b,sc)
  |_=>none
 |_,_=>none
structure FD where
 a:Addr
 i:Nat
 k:Option Nat
 q:String
 c:Addr
 d:Value
 m:Nat
structure CD where
 a:Addr
 ns:Addr
 n:String
 t1:Tok
 t2:Tok
 l:List (String×Tok×Value)
def mV(i:Nat):Value:=match i with
 |0=>(.str (o "lendcore.types") 228)
 |1=>(.str (o "lendcore.mir") 321)
 |2=>(.str (o "lendcore.flow") 486)
 |3=>(.str (o "lendcore.moves") 640)
 |4=>(.str (o "lendcore.borrowck") 911)
 |5=>(.str (o "lendcore.liveness") 939)
 |6=>(.str (o "lendcore.world") 1057)
 |7=>(.str (o "law_pf0171_01") 1192)
 |_=>.none
noncomputable def Em:List FD:=[⟨49,5,none,"parts_of",48,.none,0⟩,⟨56,6,none,"rebuilt",55,.none,0⟩,⟨61,7,none,"substituted",60,.none,0⟩,⟨66,8,none,"with_regions",65,.none,0⟩,⟨73,9,none,"no_region",72,.none,0⟩,⟨80,10,none,"erased",79,.none,0⟩,⟨87,11,none,"regions_in",86,.none,0⟩,⟨94,12,none,"matched",93,.none,0⟩,⟨101,13,none,"field_rows",100,.none,0⟩,⟨106,14,none,"fields_of",105,.none,0⟩,⟨113,15,none,"has_drop",112,.none,0⟩,⟨128,17,some 0,"Body.__init__",127,.ref 121,1⟩,⟨135,17,some 1,"Body.type_of",134,.none,1⟩,⟨149,17,some 3,"Body.statements",148,.none,1⟩,⟨156,17,some 4,"Body.terminator",155,.none,1⟩,⟨163,17,some 5,"Body.spot",162,.none,1⟩,⟨183,18,none,"points",182,.none,1⟩,⟨188,19,none,"successors",187,.none,1⟩,⟨193,20,none,"predecessors",192,.none,1⟩,⟨200,21,none,"field_type",199,.none,1⟩,⟨207,22,none,"projected",206,.none,1⟩,⟨214,23,none,"place_type",213,.none,1⟩,⟨221,24,none,"operands_of",220,.none,1⟩,⟨228,25,none,"operands_at",227,.none,1⟩,⟨233,26,none,"indices_of",232,.none,1⟩,⟨240,28,none,"joined",239,.none,2⟩,⟨247,29,none,"through",246,.none,2⟩,⟨254,30,none,"solve_forward",253,.none,2⟩,⟨261,31,none,"all_facts",260,.none,2⟩,⟨268,32,none,"behind_block",267,.none,2⟩,⟨275,33,none,"back_to",274,.none,2⟩,⟨282,34,none,"solve_backward",281,.none,2⟩,⟨289,35,none,"all_facts_before",288,.none,2⟩,⟨296,36,none,"looked_at",295,.none,2⟩,⟨303,37,none,"written_at",302,.none,2⟩,⟨310,38,none,"dropped_at",309,.none,2⟩,⟨317,39,none,"turned_at",316,.none,2⟩,⟨324,45,none,"has_own_drop",323,.none,3⟩,⟨338,46,some 0,"MovePaths.__init__",337,.none,3⟩,⟨345,46,some 1,"MovePaths.add",344,.none,3⟩,⟨352,46,some 2,"MovePaths.depth_of",351,.none,3⟩,⟨359,46,some 3,"MovePaths.cut",358,.none,3⟩,⟨366,46,some 4,"MovePaths.is_cut",365,.none,3⟩,⟨373,46,some 5,"MovePaths.number_of",372,.none,3⟩,⟨380,46,some 6,"MovePaths.is_exact",379,.none,3⟩,⟨401,46,some 9,"MovePaths.below",400,.none,3⟩,⟨422,47,some 0,"Moves.__init__",421,.none,3⟩,⟨429,47,some 1,"Moves.begin",428,.none,3⟩,⟨434,47,some 2,"Moves.turned",433,.none,3⟩,⟨441,47,some 3,"Moves.deeds",440,.none,3⟩,⟨448,47,some 4,"Moves.deeds_of",447,.none,3⟩,⟨455,47,some 5,"Moves.step",454,.none,3⟩,⟨462,47,some 6,"Moves.at",461,.none,3⟩,⟨469,47,some 7,"Moves.may_be",468,.none,3⟩,⟨504,49,none,"drop_regions",503,.none,4⟩,⟨509,50,none,"holds_something",508,.none,4⟩,⟨514,51,none,"live_regions",513,.none,4⟩,⟨522,54,none,"used_locals",521,.none,5⟩,⟨529,55,none,"is_return",528,.none,5⟩,⟨536,56,none,"dropped_locals",535,.none,5⟩,⟨543,57,none,"set_locals",542,.none,5⟩,⟨557,58,some 0,"Liveness.__init__",556,.none,5⟩,⟨564,58,some 1,"Liveness.use_step",563,.none,5⟩,⟨571,58,some 2,"Liveness.drop_step",570,.none,5⟩,⟨578,58,some 3,"Liveness.for_use",577,.none,5⟩,⟨585,58,some 4,"Liveness.for_drop",584,.none,5⟩,⟨608,60,some 0,"Adt.__init__",607,.ref 601,6⟩,⟨630,61,some 0,"ImplRow.__init__",629,.ref 623,6⟩,⟨652,62,some 0,"World.__init__",651,.ref 645,6⟩,⟨673,64,none,"_law_pool",672,.none,7⟩,⟨680,65,none,"_law_take",679,.none,7⟩,⟨687,66,none,"_law_one",686,.none,7⟩,⟨694,67,none,"_law_world",693,.none,7⟩,⟨701,68,none,"_law_type",700,.none,7⟩,⟨708,69,none,"_law_events",707,.none,7⟩,⟨715,70,none,"_law_body",714,.none,7⟩,⟨720,71,none,"_law_lives",719,.none,7⟩,⟨725,72,none,"_law_right",724,.none,7⟩,⟨732,73,none,"law",731,.none,7⟩]
noncomputable def fdM:List FD:=[⟨142,17,some 2,"Body.args",141,.none,1⟩,⟨171,17,some 6,"Body.new_local",170,.ref 164,1⟩,⟨387,46,some 7,"MovePaths.parent",386,.none,3⟩,⟨394,46,some 8,"MovePaths.children",393,.none,3⟩,⟨476,47,some 8,"Moves.is_surely_ready",475,.none,3⟩,⟨483,47,some 9,"Moves.may_be_ready",482,.none,3⟩,⟨490,47,some 10,"Moves.asked",489,.none,3⟩,⟨659,62,some 1,"World.is_field_seen",658,.none,6⟩]
def dsL:List (Addr×List Value):=[(121,[.none,.none]),(601,[.str (o "") 1071,.ref 600]),(623,[.int 0 1113]),(645,[.none])]
def Hm:List CD:=[⟨174,173,"Body",323,331,[("__module__",330,.str (o "lendcore.mir") 321),("__firstlineno__",334,.int 94 333),("__init__",346,.ref 128),("type_of",354,.ref 135),("args",361,.ref 142),("statements",369,.ref 149),("terminator",377,.ref 156),("spot",385,.ref 163),("new_local",395,.ref 171),("__static_attributes__",401,.ref 172),("__dict__",403,.ref 175),("__weakref__",405,.ref 176),("__doc__",406,.none)]⟩,⟨404,403,"MovePaths",658,666,[("__module__",665,.str (o "lendcore.moves") 640),("__firstlineno__",669,.int 292 668),("__init__",682,.ref 338),("add",694,.ref 345),("depth_of",705,.ref 352),("cut",713,.ref 359),("is_cut",721,.ref 366),("number_of",732,.ref 373),("is_exact",740,.ref 380),("parent",748,.ref 387),("children",756,.ref 394),("below",767,.ref 401),("__static_attributes__",775,.ref 402),("__dict__",777,.ref 405),("__weakref__",779,.ref 406),("__doc__",780,.none)]⟩,⟨493,492,"Moves",783,791,[("__module__",790,.str (o "lendcore.moves") 640),("__firstlineno__",794,.int 367 793),("__init__",804,.ref 422),("begin",814,.ref 429),("turned",820,.ref 434),("deeds",828,.ref 441),("deeds_of",841,.ref 448),("step",853,.ref 455),("at",861,.ref 462),("may_be",871,.ref 469),("is_surely_ready",880,.ref 476),("may_be_ready",889,.ref 483),("asked",898,.ref 490),("__static_attributes__",903,.ref 491),("__dict__",905,.ref 494),("__weakref__",907,.ref 495),("__doc__",908,.none)]⟩,⟨588,587,"Liveness",985,993,[("__module__",992,.str (o "lendcore.liveness") 939),("__firstlineno__",996,.int 504 995),("__init__",1007,.ref 557),("use_step",1017,.ref 564),("drop_step",1027,.ref 571),("for_use",1035,.ref 578),("for_drop",1043,.ref 585),("__static_attributes__",1049,.ref 586),("__dict__",1051,.ref 589),("__weakref__",1053,.ref 590),("__doc__",1054,.none)]⟩,⟨611,610,"Adt",1059,1067,[("__module__",1066,.str (o "lendcore.world") 1057),("__firstlineno__",1070,.int 529 1069),("__init__",1085,.ref 608),("__static_attributes__",1093,.ref 609),("__dict__",1095,.ref 612),("__weakref__",1097,.ref 613),("__doc__",1098,.none)]⟩,⟨633,632,"ImplRow",1101,1109,[("__module__",1108,.str (o "lendcore.world") 1057),("__firstlineno__",1112,.int 539 1111),("__init__",1128,.ref 630),("__static_attributes__",1137,.ref 631),("__dict__",1139,.ref 634),("__weakref__",1141,.ref 635),("__doc__",1142,.none)]⟩,⟨662,661,"World",1145,1153,[("__module__",1152,.str (o "lendcore.world") 1057),("__firstlineno__",1156,.int 550 1155),("__init__",1164,.ref 652),("is_field_seen",1175,.ref 659),("__static_attributes__",1184,.ref 660),("__dict__",1186,.ref 663),("__weakref__",1188,.ref 664),("__doc__",1189,.none)]⟩]
def LO:List (String×Value):=[("_wall",.ref 21),("LendError",.ref 39),("DROP",.str (o "Drop") 230),("parts_of",.ref 49),("rebuilt",.ref 56),("substituted",.ref 61),("with_regions",.ref 66),("no_region",.ref 73),("erased",.ref 80),("regions_in",.ref 87),("matched",.ref 94),("field_rows",.ref 101),("fields_of",.ref 106),("has_drop",.ref 113),("Body",.ref 174),("points",.ref 183),("successors",.ref 188),("predecessors",.ref 193),("field_type",.ref 200),("projected",.ref 207),("place_type",.ref 214),("operands_of",.ref 221),("operands_at",.ref 228),("indices_of",.ref 233),("joined",.ref 240),("through",.ref 247),("solve_forward",.ref 254),("all_facts",.ref 261),("behind_block",.ref 268),("back_to",.ref 275),("solve_backward",.ref 282),("all_facts_before",.ref 289),("looked_at",.ref 296),("written_at",.ref 303),("dropped_at",.ref 310),("turned_at",.ref 317),("READY",.int 0 642),("MOVED",.int 1 644),("UNSET",.int 2 646),("DROPPED",.int 3 648),("has_own_drop",.ref 324),("MovePaths",.ref 404),("Moves",.ref 493),("drop_regions",.ref 504),("holds_something",.ref 509),("live_regions",.ref 514),("NOTHING",.ref 515),("used_locals",.ref 522),("is_return",.ref 529),("dropped_locals",.ref 536),("set_locals",.ref 543),("Liveness",.ref 588),("Adt",.ref 611),("ImplRow",.ref 633),("World",.ref 662),("_law_pool",.ref 673),("_law_take",.ref 680),("_law_one",.ref 687),("_law_world",.ref 694),("_law_type",.ref 701),("_law_events",.ref 708),("_law_body",.ref 715),("_law_lives",.ref 720),("_law_right",.ref 725),("law",.ref 732)]
noncomputable def TU:List (String×Value):=[("len",.builtin "len"),("sorted",.builtin "sorted"),("max",.builtin "max"),("min",.builtin "min"),("list",.type "list"),("tuple",.type "tuple"),("frozenset",.type "frozenset"),("int",.type "int"),("dict",.type "dict"),("range",.type "range"),("enumerate",.type "enumerate"),("zip",.type "zip"),("set",.type "set"),("str",.type "str")]
def FD.it(x:FD):Str×fh×List Stmt×Scope:=(qK x.i x.k).getD default
def FD.obj(x:FD):Obj:={cls:=.type "function",data:=.func {name:=x.it.1,qualname:=o x.q,params:=x.it.2.1,body:=.stmts x.it.2.2.1,scope:=x.it.2.2.2,globals:=cE,closure:=[],defaults:=x.d,kwdefaults:=.none,pyModule:=mV x.m,code:=.ref x.c,builtins:=hU}}
def CD.obj(x:CD):Obj:={cls:=.type "type",data:=.cls {name:=o x.n,bases:=[.type "object"],mro:=[.ref x.a,.type "object"],ns:=x.ns,qualname:=o x.n},slots:=#[none,none,some<|.str (o x.n) x.t1,some<|.str (o x.n) x.t2,some<|.builtin "object.__new__",some<|.bool true]}
def CD.dict(P:kE)(x:CD):Obj:={cls:=.type "dict",data:=.dict ⟨x.l.map λe=>⟨nF P<|o e.1,.str (o e.1) e.2.1,e.2.2⟩⟩ 4}
def KF(P:kE):Frag:=(Em++fdM).map (λx=>(x.a,x.obj))++Hm.map (λx=>(x.a,x.obj))++Hm.map λx=>(x.ns,x.dict P)
noncomputable def Sw(P:kE):SetTable:={mask:=7,place:=#[],dummies:=#[],finger:=0,led:=!P.followText "set-order",moves:=0,plain:=true}
def cdO(n:String)(t1 t2 t3 t4:Tok)(l c:Int)(a b e:Addr)(v1 v2:Value)(i:Int):Obj:={cls:=.type "code",data:=.fields #[.str (o n) t1,.str (o n) t2,.str (o "/claim/cut.py") t3,.int l 0,.int c 0,.int 0 0,.int 0 0,.int 3 0,.ref a,.bool true,.int 181 0,.ref b,.none,v1,v2,.ref e,.int i 0,.int l 0,.str (o "/claim/cut.py") t4]}
noncomputable def TX:List (String×Value):=[("__builtins__",.ref 4)]
def KE(P:kE):Frag:=dsL.map (λx=>(x.1,({cls:=.type "tuple",data:=.seq ⟨x.2⟩ 0}:Obj)))++[(600,{cls:=.type "tuple",data:=.seq #[] 0}),(515,{cls:=.type "frozenset",data:=.set #[] 0 (Sw P)}),(82,pg #[]),(103,pg #[]),(4,{cls:=.type "module",dict:=some 0}),(86,cdO "regions_in" 275 276 277 282 47 1 81 82 85 (.ref 83) (.ref 84) 281),(105,cdO "fields_of" 306 307 308 310 76 3 102 103 104 .none .none 309)]
def KA(P:kE):Frag:=KF P++KE P
def KAs:List Addr:=(Em++fdM).map (·.a)++Hm.map (·.a)++Hm.map (·.ns)++dsL.map (·.1)++[600,515,82,103,4,86,105]
noncomputable def P8(h:Heap)(c:Addr):Option Value:=(h.get? c).bind λob=>match ob.data with
 |.fields vs=>vs[1]?
 |_=>none
noncomputable def R1:Option Value->Option Str
 |some (.str s _)=>some s
 |_=>none
noncomputable def WJ(h:Heap):Bool:=h.isNs cE&&h.isNs hU&&h.isNs Fg&&(h.nsMap Fg "sys.recursionlimit").isNone&&(h.nsMap Fg "sys.int_max_str_digits").isNone&&(h.get? sysModules).isSome
def obs(s:Shared):=(KAs.map s.heap.get?,Em.map λx=>R1<|P8 s.heap x.c,(TX++LO).map λx=>s.heap.nsMap cE<|o x.1,TU.map λx=>(s.heap.nsMap cE<|o x.1,s.heap.nsMap hU<|o x.1),WJ s.heap)
def val(w:cU):=((KA w.params).map λx=>some x.2,Em.map λx=>some<|o x.q,(TX++LO).map λx=>some x.2,TU.map λx=>((none:Option Value),some x.2),true)
noncomputable abbrev aa1:=PySem.W.Fast.tw10110043849684766642
noncomputable abbrev Xb:=PySem.W.Fast.tw14364793385576792824
noncomputable abbrev W5:=PySem.W.Fast.tw15667345088766844465
noncomputable def ofL:List Obj->Nat->BT->BT
 |[],_,t=>t
 |ob::l,n,t=>ofL l (n+1)<|t.ins n ob
def toT(s:Shared):SharedT:=⟨ofL s.heap.objs.toList 0 .nil,s.heap.objs.size,s.heap.life,s.gens,s.drawn,s.toks,s.os⟩
noncomputable def s0(w:cU)(os:v9):Shared:=⟨v8 w.params,#[],boot_drawn,boot_toks,os⟩
noncomputable def p0:Pos:={line:=0,col:=0,endLine:=0,endCol:=0}
noncomputable def p1:Pos:={line:=630,col:=0,endLine:=636,endCol:=15}
def Qi:List Stmt:=behindTheImports pr
def env:Env:={scope:=pr.main.scope,locals:=mainNs,globals:=mainNs,cells:=[],code:=.ref 13,frame:=some 14}
def stA(w:cU)(os:v9):SharedT:=(W5 Xb pr w 11 (some<|.ref 6) 12 (s0 w os)<|topStub pr).elim ⟨.nil,0,{},#[],{},0,os⟩ λr=>toT r.1
def Rx(w:cU)(os:v9):Option (Flow×SharedT×Code×Pos):=aa1 Xb pr w 11 (some<|.ref 6) 1 6000 (stA w os)<|piecesOf Qi env (qc Qi env) p0 [E5 p0]
def fl(aam:Heap)(s:Shared):Bool:=staticsOk (k6 pr.main.body) aam s.heap&&namesBound pr s.heap&&gensDone s&&laidKept aam s.heap
def q:Program:={pr with main:={pr.main with body:=pr.main.body.drop 73}}
def ui:List Str:=LO.map λx=>o x.1
noncomputable def Xt(s:Shared):Bool:=true
theorem ahf(w:cU)(os:v9):topGo lK pr w 11 (some<|.ref 6) 12 (s0 w os) (topStub pr)=some ((stA w os).abs,⟨denote lK<|.body Qi env,qc Qi env,p0,[E5 p0]⟩):=by kernel_rfl
theorem ahe(w:cU)(os:v9):(Rx w os).map (λr=>(r.1,r.2.2,fl (v8 w.params) r.2.1.abs,openSeen q ui (k6 pr.main.body) Xt true r.2.1.abs,obs r.2.1.abs))=some (.next,(qc Qi env,p1),true,openGood q ui,val w):=by kernel_rfl
theorem ahd(w:cU)(s:Shared):segRun lK pr w 11 (some<|.ref 6) 1 1 s (blockOf Qi env (qc Qi env) p0 [E5 p0])=some (.next,s,qc Qi env,p0):=by kernel_rfl
theorem ahb(w:cU)(s:Shared):topRun lK pr w 11 (some<|.ref 6) 2 s ⟨doneF .next,qc Qi env,p1,[E5 p0]⟩=some s:=by kernel_rfl
theorem ag5(w:cU):((v8 w.params).isNs cE&&(Array.mk []:Array GenState).size==0,(v8 w.params).objs.size,(v8 w.params).nsMap cE "__annotations__")=(true,11,some<|.ref 6):=by kernel_rfl
theorem WG(w:cU)(os:v9):Rx w os=segRunT lK pr w 11 (some<|.ref 6) 1 6000 (stA w os) (piecesOf Qi env (qc Qi env) p0 [E5 p0]):=by unfold Rx aa1 Xb;rw[<-PySem.W.Fast.te10110043849684766642,<-PySem.W.Fast.te14364793385576792824]
theorem MU(w:cU)(os:v9):∃s:Shared,topRun lK pr w 11 (some<|.ref 6) 6015 (s0 w os) (topStub pr)=some s/\fl (v8 w.params) s=true/\openSeen q ui (k6 pr.main.body) Xt true s=openGood q ui/\obs s=val w:=by obtain⟨⟨f,s,c,p⟩,h1,h2⟩:=bq.mp<|ahe w os;simp only[jX] at h2;obtain⟨rfl,⟨rfl,rfl⟩,h3,h4,h5⟩:=h2;rw[WG] at h1;exact⟨s.abs,go_top (n:=12) (N:=1+(6000+2)) (ahf w os)<|piece_block (n:=1) (ahd w _) (by have:=piece_app (rest:=[]) (segRun_of h1)<|piece_nil<|ahb w s.abs;rwa[bj] at this),h3,h4,h5⟩
theorem Tt{Xt:Shared->Bool}{α:Type}{Yf:Shared->α}{Ya:cU->α}{xD:kE->Heap}
  (open_:∀w:cU,(fencedOpening lK p w N).map (λs=>(s.heap,s.gens,s.drawn,s.toks))=some (xD w.params,L9,aay,aaj))
  (size:∀w:cU,((xD w.params).isNs cE&&L9.size==0,(xD w.params).objs.size,(xD w.params).nsMap cE "__annotations__")=(true,afY,ann))
  (Rx:∀(w:cU)(os:v9),∃s,topRun lK p w afY ann N ⟨xD w.params,L9,aay,aaj,os⟩ (topStub p)=some s/\(staticsOk (k6 p.main.body) (xD w.params) s.heap&&namesBound p s.heap&&gensDone s&&laidKept (xD w.params) s.heap)=true/\
   openSeen q ui (k6 p.main.body) Xt true s=openGood q ui/\Yf s=Ya w):LeftO p q ui Xt Yf Ya N:=λw=>by
 obtain⟨⟨h,gs,d,k,os⟩,e,e'⟩:=bq.mp<|open_ w
 obtain⟨rfl,rfl,rfl,rfl⟩:h=xD w.params/\gs=L9/\d=aay/\k=aaj:=by simpa using e'
 obtain⟨z1,z2,z3⟩:_/\_/\_:=by simpa only[jX] using size w
 obtain⟨s,r,l1,l2,l3⟩:=Rx w os
 have t:topFrom lK p w N ⟨xD w.params,gs,d,k,os⟩=some s:=by unfold topFrom;dsimp only;rw[z1,z2,z3,r];show(match (staticsOk (k6 p.main.body) (xD w.params) s.heap&&namesBound p s.heap&&gensDone s&&laidKept (xD w.params) s.heap) with|true=>_|false=>_)=_;rw[l1]
 unfold openEnds
 rw[e]
 show(topFrom lK p w N _).map _=_
 rw[t]
 exact congrArg some<|Vo l2 l3
theorem left:LeftO pr q ui Xt obs val 6015:=Tt (boot_open rfl (by decide) λz=>rfl) ag5 MU
def glT(x:Str):Option Value:=((LO++TU).find? λp=>jg (o p.1) x).map (·.2)
def CF(x:Str):Nat:=(we.findIdx? λy=>jg y x).getD 999
def GA(x:Str):Nat:=if jg x (o "noted") then 0 else 1
def tcc:TC:={gl:=glT,ns:=[],at_:=CF,nst:=GA,wW:=515}
def Of(a:Nat):Str:=(we[a]?).getD ⟨#[a+1000]⟩
theorem Hr:we.Nodup:=by decide+kernel
theorem A3:∀x∈we,x.cps.size≠1:=by decide+kernel
theorem SX(a b:Nat)(h:Of a=Of b):a=b:=by
 unfold Of at h;cases ha:we[a]? with
 |some x=>
  rw[ha] at h;cases hb:we[b]? with
  |some y=>rw[hb] at h;obtain rfl:x=y:=h;obtain⟨h1,h2⟩:=af.mp ha;obtain⟨h3,h4⟩:=af.mp hb;exact(List.getElem_inj Hr).mp<|h2.trans h4.symm
  |none=>rw[hb] at h;obtain rfl:x=⟨#[b+1000]⟩:=h;exact absurd rfl<|A3 _<|aI ha
 |none=>
  rw[ha] at h;cases hb:we[b]? with
  |some y=>rw[hb] at h;obtain rfl:⟨#[a+1000]⟩=y:=h;exact absurd rfl<|A3 _<|aI hb
  |none=>
   rw[hb] at h;have h:=h;injection h with h
   injection h with h
   injection h with h _
   exact Nat.add_right_cancel h
theorem abf(x:Str)(h:CF x<iY):Of (CF x)=x:=by
 unfold CF at h ⊢;cases q:we.findIdx? λy=>jg y x with
 |none=>rw[q] at h;exact absurd h (by decide)
 |some i=>obtain⟨hi,h1,_⟩:=bA.mp q;show Of i=x;unfold Of;rw[ay hi];exact oO h1
def tA(i j:Nat):Option (Str×fh×List Stmt×Scope×Pos):=match ((qK i none).getD default).2.2.1[j]? with
 |some (.FunctionDef n ps b _ _ _ sc _ _ pos)=>some (n,ps,b,sc,pos)
 |_=>none
def nI(i j:Nat)(q:Str):nz:=let x:=(tA i j).getD default
 {name:=x.1,qual:=q++".<locals>."++x.1,params:=x.2.1,body:=x.2.2.1,scope:=x.2.2.2.1,free:=(x.2.2.2.1.names.filter λp=>p.2==.free).map (·.1)}
def GI:nz:=nI 11 1<|o "regions_in"
def GH:nz:=nI 14 5<|o "fields_of"
def Kr:Pos:=((tA 11 1).getD default).2.2.2.2
def N4:Pos:=((tA 14 5).getD default).2.2.2.2
noncomputable def jQ(b:Addr):Bool:=b==82||b==103
def rA(h:Heap)(P:Addr)(pos:Pos)(c:Addr):Prop:=h.get? P=some (pg #[gV pos.line,gV pos.col,.ref c])
def wY(h:Heap)(P:Addr)(pos:Pos):Prop:=h.get? P=some (pg #[])\/∃c,rA h P pos c
theorem wY.keep{h h':Heap}(x:wY h P pos)(hP:jQ P=true)(k:∀b o,h.get? b=some o->jQ b=true->h'.get? b=some o):wY h' P pos:=
 x.imp (λe=>k _ _ e hP) (aD λz e=>k _ _ e hP)
theorem wY.there(x:wY h P pos):∃ob,h.get? P=some ob:=x.elim (λe=>⟨_,e⟩) λz=>z.elim λy e=>⟨_,e⟩
theorem wY.codes{h h':Heap}(x:wY h P pos)(hP:jQ P=true)(k:∀b o,h.get? b=some o->jQ b=true->h'.get? b=some o)(e:rA h' P pos c):rA h P pos c:=by
 rcases x with q|⟨c',q⟩
 ·have:=(k _ _ q hP).symm.trans e;injection this with this
  injection this with _ _ this
  injection this with this
  injection this with this
  cases this
 ·have:=(k _ _ q hP).symm.trans e;injection this with this
  injection this with _ _ this
  injection this with this
  injection this with this
  injection this with _ this
  injection this with _ this
  injection this with this
  injection this with this
  subst this;exact q
def ZZ(w:cU)(aC:Shared):dM where
 prog:=pr
 w:=w
 nm:=Of
 VT:=SX
 uM a:=Hm.any λx=>x.a==a
 nest k:=if k==0 then some GI else if k==1 then some GH else none
 base b:=if jQ b then none else aC.heap.get? b
 tab:=jQ
 n9 h:=wY h 82 Kr/\wY h 103 N4
 mI h h' x k _:=⟨x.1.keep rfl k,x.2.keep rfl k⟩
 Dm h b x e:=by
  rcases fH.mp e with e|e
  ·rw[beq_iff_eq.mp e];exact x.1.there
  ·rw[beq_iff_eq.mp e];exact x.2.there
 lQ h c q:=(rA h 82 Kr c/\q=GI.qual)\/(rA h 103 N4 c/\q=GH.qual)
 A0 h h' x k c q:=Or.imp (cP<|x.1.codes rfl k) (cP<|x.2.codes rfl k)
 s₀:=aC
structure lI(w:cU)(h:Heap):Prop where
 zE:(KA w.params).In h
 code:∀x∈Em,h.CodeRec (.ref x.c) (o x.q)
 g:∃mg,h.Ns cE mg/\(∀x∈TX++LO,mg (o x.1)=some x.2)/\∀x∈TU,mg (o x.1)=none
 b:∃mb,h.Ns hU mb/\∀x∈TU,mb (o x.1)=some x.2
 st:∃mc,h.Ns Fg mc/\mc "sys.recursionlimit"=none/\mc "sys.int_max_str_digits"=none
 sys:∃ob,h.get? sysModules=some ob
theorem lI.keeps(w:cU)(h h':Heap)(x:lI w h)(k:∀b o,h.get? b=some o->h'.get? b=some o):lI w h':=
 ⟨λa ob e=>k _ _<|x.zE a ob e,λy hy=>(x.code y hy).keeps k,x.g.imp λz=>cP λa=>a.keeps k,x.b.imp λz=>cP λa=>a.keeps k,x.st.imp λz=>cP λa=>a.keeps k,x.sys.imp λz=>k _ _⟩
theorem iP{l:List α}(h:l.map f=l.map g):∀x∈l,f x=g x:=by
 induction l with
 |nil=>intro x hx;exact absurd hx aK
 |cons a l ih=>
  rw[cS,cS,HR] at h;intro x hx;rcases aV.mp hx with e|e
  ·rw[e];exact h.1
  ·exact ih h.2 x e
theorem ZW(P:kE):KAs=(KA P).map (·.1):=rfl
theorem Sy(w:cU)(s:Shared)(h:obs s=val w):lI w s.heap:=by
 have e1:=congrArg kf h;have e2:Em.map (λx=>R1<|P8 s.heap x.c)=Em.map (λx=>some<|o x.q):=congrArg (λx=>x.2.1) h;have e3:=congrArg (λx=>x.2.2.1) h;have e4:TU.map (λx=>(s.heap.nsMap cE<|o x.1,s.heap.nsMap hU<|o x.1))=TU.map (λx=>(none,some x.2)):=congrArg (λx=>x.2.2.2.1) h;have e5:=congrArg (λx=>x.2.2.2.2) h;have e5:WJ s.heap=true:=e5;unfold WJ at e5;simp only[dU] at e5;obtain⟨⟨⟨⟨⟨a1,a2⟩,a3⟩,a4⟩,a5⟩,a6⟩:=e5;refine⟨Frag.in_of (ZW w.params) e1,λx hx=>?_,⟨_,wQ a1,iP e3,λx hx=>congrArg kf<|iP e4 x hx⟩,⟨_,wQ a2,λx hx=>congrArg sJ<|iP e4 x hx⟩,⟨_,wQ a3,bM.mp a4,bM.mp a5⟩,ie.mp a6⟩;have:=iP e2 x hx;unfold P8 at this;cases ho:s.heap.get? x.c with
 |none=>rw[ho] at this;exact aW this
 |some ob=>
  rw[ho] at this;have this:R1 (match ob.data with|.fields vs=>vs[1]?|_=>none)=some (o x.q):=this;cases hd:ob.data with
  |fields vs=>
   rw[hd] at this;have this:R1 vs[1]? =some (o x.q):=this;cases hv:vs[1]? with
   |none=>rw[hv] at this;exact aW this
   |some v=>
    rw[hv] at this;cases v with
    |str z t=>exact⟨x.c,ob,vs,t,rfl,ho,hd,by rw[hv,<-aa this]⟩
    |_=>exact aW this
  |_=>rw[hd] at this;exact aW this
def P0(a:Addr):List SV:=if a==128 then [.none,.none] else if a==608 then [.str<|o "",.tup []] else if a==630 then [.int 0] else if a==652 then [.none] else []
noncomputable def XT(a:Addr):Bool:=a==673||a==345
def FD.fn(x:FD):Fn:=MT tcc (XT x.a) x.it.2.1 (P0 x.a) x.it.2.2.1 x.it.2.2.2
theorem trU:Em.map (λx=>(x.a,x.fn))=fnL:=by kernel_rfl
theorem tr0:MT tcc false GI.params [] GI.body GI.scope=n0:=by kernel_rfl
theorem tr1:MT tcc false GH.params [] GH.body GH.scope=n1:=by kernel_rfl
theorem ag3:(Em.all λx=>Eh x.it.2.1 x.it.2.2.2 (P0 x.a)&&x.it.2.2.2.names.all λp=>!(p.2==.free))=true:=by kernel_rfl
theorem acG:(Eh GI.params GI.scope []&&GI.body.all qi&&(Eh GH.params GH.scope []&&GH.body.all qi))=true:=by kernel_rfl
theorem ahc:(Em.all λx=>(x.a==87&&x.c==86&&x.i==11&&x.k.isNone&&x.q=="regions_in")||(x.a==106&&x.c==105&&x.i==14&&x.k.isNone&&x.q=="fields_of")||x.it.2.2.1.all qi)=true:=by kernel_rfl
theorem acF:((((qK 11 none).getD default).2.2.1.take 1).all qi&&(((qK 11 none).getD default).2.2.1.drop 2).all qi&&((((qK 14 none).getD default).2.2.1.take 5).all qi&&(((qK 14 none).getD default).2.2.1.drop 6).all qi))=true:=by kernel_rfl
theorem ag7(P:kE):Hm.map (λx=>makesIn (KF P) x.a)=Hm.map (λz=>true):=by kernel_rfl
theorem Ze(P:kE):Hm.map (λx=>(dK (KF P) (.ref x.a) "__getattribute__",dK (KF P) (.ref x.a) "__getattr__",dK (KF P) (.ref x.a) "__setattr__"))=Hm.map (λz=>(some<|some<|.builtin "object.__getattribute__",some none,some<|some<|.builtin "object.__setattr__")):=by kernel_rfl
theorem acI(P:kE):Hm.map (λx=>((clsIn (KF P) x.a).any (·.hasDict),plainOver (KF P) x.a))=Hm.map (λz=>(true,true)):=by kernel_rfl
theorem aha(P:kE):Qa.map (λx=>(dK (KF P) (.ref x.1) "__init__",typeIn (KF P)<|.ref x.2.init))=Qa.map (λx=>(some<|some<|.ref x.2.init,some<|.type "function")):=by kernel_rfl
theorem ag4(P:kE):Hm.map (λx=>(ak 67).map λa=>(Q8.contains<|Of a,takerIn (KF P) x.a<|Of a,dK (KF P) (.ref x.a)<|Of a))=Hm.map (λx=>(ak 67).map λa=>(false,some none,some<|(prog.meths x.a a).map nE)):=by kernel_rfl
theorem acH(P:kE):(DS.flatMap (·.2)).map (λf=>(typeIn (KF P)<|.ref f.2,LC (KF P) (.ref f.2) "__get__",takesIn (KF P)<|.ref f.2))=(DS.flatMap (·.2)).map (λz=>(some<|.type "function",some<|some<|.builtin "function.__get__",some false)):=by kernel_rfl
section
variable{w:cU}{aC:Shared}
theorem Qx{P:kE}{ob:Obj}(h:(KF P).lookup a=some ob):(KA P).lookup a=some ob:=by unfold KA;rw[LD,h];rfl
theorem Qw:∀{P:kE}{a:Addr}{ob:Obj},(KF P).lookup a=some ob->jQ a=false:=by
 intro P a ob h;cases q:jQ a with
 |false=>rfl
 |true=>
  exfalso;rcases fH.mp q with e|e
  ·rw[beq_iff_eq.mp e] at h;exact cb _<|h.symm.trans<|by kernel_rfl
  ·rw[beq_iff_eq.mp e] at h;exact cb _<|h.symm.trans<|by kernel_rfl
theorem gA{ob:Obj}(h:aC.heap.get? a=some ob)(ht:jQ a=false):(ZZ w aC).base a=some ob:=by show(if jQ a then none else aC.heap.get? a)=_;rw[ht];exact h
theorem SQ{ob:Obj}(h:(ZZ w aC).base a=some ob):aC.heap.get? a=some ob/\jQ a=false:=by
 have h:(if jQ a then none else aC.heap.get? a)=some ob:=h;cases q:jQ a with
 |true=>rw[q] at h;exact aW h
 |false=>rw[q] at h;exact⟨h,rfl⟩
theorem XS(hk:(ZZ w aC).uM a=true):∃x∈Hm,x.a=a:=by refine dS (xd.mp hk) λx hx e=>⟨x,hx,beq_iff_eq.mp e⟩
theorem IH(Y:lI w aC.heap):∀a ob,(KF w.params).lookup a=some ob->(ZZ w aC).base a=some ob:=λa ob h=>gA (Y.zE a ob<|Qx h)<|Qw h
theorem IA(h:prog.meths c a=some f):(a,f)∈DS.flatMap (·.2):=by
 refine dS (gB.mp h) λl h1 h2=>?_;have m:∀{α:Type}{L:List (Nat×α)}{k:Nat}{v:α},L.lookup k=some v->(k,v)∈L:=by
  intro α L k v e;induction L with
  |nil=>exact aW e
  |cons p r ih=>
   obtain⟨j,x⟩:=p;rw[ck] at e;cases q:k==j with
   |true=>rw[q] at e;rw[beq_iff_eq.mp q,<-aa e];exact ax ..
   |false=>rw[q] at e;exact az _<|ih e
 exact xb.mpr ⟨_,m h1,m h2⟩
theorem Oo:∀p∈DS.flatMap (·.2),p.1<iY:=by decide+kernel
theorem kok(Y:lI w aC.heap):zx (ZZ w aC) (KF w.params) prog.meths where
 inK:=IH Y
 low c a f h:=Oo _ (IA h)
 ga c hc:=(XS hc).elim λx z=>z.2▸congrArg kf (iP (Ze w.params) x z.1)
 gn c hc:=(XS hc).elim λx z=>z.2▸congrArg (λz=>z.2.1) (iP (Ze w.params) x z.1)
 sa c hc:=(XS hc).elim λx z=>z.2▸congrArg (λz=>z.2.2) (iP (Ze w.params) x z.1)
 cd c hc:=(XS hc).elim λx z=>z.2▸congrArg kf (iP (acI w.params) x z.1)
 po c hc:=(XS hc).elim λx z=>z.2▸congrArg sJ (iP (acI w.params) x z.1)
 at_ c a hc ha:=by
  refine dS (XS hc) λx hx zz2=>?_;subst zz2;have h:=iP (iP (ag4 w.params) x hx) a<|cf.mpr ha;refine⟨congrArg kf h,congrArg (λz=>z.2.1) h,?_⟩;have h3:=congrArg (λz=>z.2.2) h;have h3:W.findIn (KF w.params) (.ref x.a) (Of a)=some ((prog.meths x.a a).map nE):=h3;cases q:prog.meths x.a a with
  |none=>rw[q] at h3;exact .inl ⟨h3,rfl⟩
  |some f=>rw[q] at h3;have h4:=iP (acH w.params) _<|IA q;exact .inr ⟨f,h3,rfl,congrArg kf h4,congrArg (λz=>z.2.1) h4,congrArg (λz=>z.2.2) h4⟩
theorem nmm:NmM (ZZ w aC):=⟨rfl,rfl,rfl,rfl,rfl,rfl⟩
theorem VN{mg mb:Str->Option Value}(Y:lI w aC.heap)(hg:aC.heap.Ns cE mg)(hb:aC.heap.Ns hU mb):zr (ZZ w aC) mg mb where
 g:=(mj hg).imp λy z=>⟨gA z.1 rfl,z.2⟩
 b:=(mj hb).imp λy z=>⟨gA z.1 rfl,z.2⟩
 st:=Y.st.elim λmc z=>(mj z.1).imp λob q=>⟨mc,gA q.1 rfl,q.2,z.2.1,z.2.2⟩
theorem Yh{mg mb:Str->Option Value}(hg:(∀x∈TX++LO,mg (o x.1)=some x.2)/\∀x∈TU,mg (o x.1)=none)(hb:∀x∈TU,mb (o x.1)=some x.2)(x:Str)(v:Value)(h:glT x=some v):mg x=some v\/(mg x=none/\mb x=some v):=by
 refine dS (bq.mp h) λp hp zz2=>?_;subst zz2;have hx:=oO<|qE (p:=λ(p:String×Value)=>jg (o p.1) x) hp;subst hx;rcases ct.mp (Bj hp) with m|m
 ·exact .inl<|hg.1 p<|jt _ m
 ·exact .inr ⟨hg.2 p m,hb p m⟩
theorem Xj:SG w #[] (Sw w.params) (λz=>False):=
 ⟨λz h=>(absurd h aK),λz h=>False.elim h,gq,λz h=>False.elim h,rfl,rfl,by
  unfold Sw;cases w.params.followText "set-order" with
  |true=>exact .inl rfl
  |false=>exact .inr rfl⟩
theorem SS(Y:lI w aC.heap):(ZZ w aC).base 515=some (yV #[] 0 (Sw w.params)):=gA (Y.zE _ _<|rfl) rfl
theorem aaS(Y:lI w aC.heap):jE (ZZ w aC) tcc where
 gl:=Y.g.imp λy z=>Y.b.imp λy q=>⟨VN Y z.1 q.1,Yh z.2 q.2⟩
 wW:=⟨0,_,SS Y,Xj⟩
 at_:=abf
theorem Wk(Y:lI w aC.heap){C:bT}(hC:pX (ZZ w aC) n C):vo (ZZ w aC) (KF w.params) prog.meths n C:=
 ⟨kok Y,nmm,hC,Y.sys.imp λz h=>gA h rfl⟩
theorem acY(P:kE):(KA P).lookup 86=some (cdO "regions_in" 275 276 277 282 47 1 81 82 85 (.ref 83) (.ref 84) 281):=by kernel_rfl
theorem Wm(P:kE):(KA P).lookup 105=some (cdO "fields_of" 306 307 308 310 76 3 102 103 104 .none .none 309):=by kernel_rfl
theorem Qd{h:Heap}(ho:h.get? a=some (cdO n t1 t2 t3 t4 l c a1 b e v1 v2 i))(hne:a≠b):CodeHd h a b:=
 ⟨_,_,_,_,_,_,_,_,_,ho,rfl,rfl,rfl,rfl,rfl,rfl,rfl,rfl,hne⟩
theorem aaI{mg:Str->Option Value}(Y:lI w aC.heap)(hg:∀x∈TX++LO,mg (o x.1)=some x.2)(hP:4≠P)(h:Heap)(hb:∀b o,(ZZ w aC).base b=some o->h.get? b=some o):h.BuiltinsAt mg P:=
 ⟨4,_,hg ("__builtins__",.ref 4) (ax ..),by decide,by decide,hP,hb _ _<|gA (Y.zE 4 {cls:=.type "module",dict:=some 0}<|rfl) rfl,rfl,rfl,rfl⟩
theorem Dk{h h':Heap}(x:wY h P pos)(e:h.get? P=some (pg ps))(hn:oW pos ps.toList=none)(e':h'.get? P=some (pg<|ps++#[gV pos.line,gV pos.col,.ref c'])):rA h' P pos c':=by
 rcases x with q|⟨c,q⟩
 ·have:=q.symm.trans e;injection this with this
  injection this with _ _ this
  injection this with this
  subst this;exact e'
 ·have:=q.symm.trans e;injection this with this
  injection this with _ _ this
  injection this with this
  subst this;exfalso;simp[oW,gV] at hn
theorem Dl(x:wY h P pos):∃ps,h.get? P=some (pg ps)/\TriplesOk ps.toList/\(oW pos ps.toList=none\/∃c',oW pos ps.toList=some (.ref c')/\rA h P pos c'):=by
 rcases x with q|⟨c,q⟩
 ·exact Aw _ q trivial<|.inl rfl
 ·exact Aw _ q trivial<|.inr ⟨c,by simp[oW,gV],q⟩
theorem r6(a:rA h P pos c)(b:rA h P pos c'):c=c':=by
 have:=a.symm.trans b;injection this with this
 injection this with _ _ this
 injection this with this
 injection this with this
 injection this with _ this
 injection this with _ this
 injection this with this
 injection this with this
theorem age{mg:Str->Option Value}(Y:lI w aC.heap)(h1:aC.heap.Ns cE mg)(hg:∀x∈TX++LO,mg (o x.1)=some x.2):u1 (ZZ w aC) mg 86 82 Kr GI.qual where
 tab:=rfl
 ns:=(mj h1).imp λu z=>⟨gA z.1 rfl,z.2⟩
 bi:=aaI Y hg (by decide)
 ne:=by decide
 code h x hb:=⟨Qd (hb _ _<|gA (Y.zE 86 _<|acY _) rfl) (by decide),(Dl x.1).imp λu z=>⟨z.1,z.2.1,z.2.2.imp id<|aD λu=>aH λe=>.inl ⟨e,rfl⟩⟩⟩
 grow h h' ps c' x e hn k e':=by
  have y:=Dk x.1 e hn e';have k':=λb ob e ne=>k b ob ne e;refine⟨⟨.inr ⟨c',y⟩,x.2.imp (λq=>k' _ _ q<|by decide)<|aD λu q=>k' _ _ q<|by decide⟩,λC3 q hq=>?_⟩;rcases hq with ⟨a,rfl⟩|⟨a,rfl⟩
  ·exact .inr ⟨r6 a y,rfl⟩
  ·refine .inl<|.inr ⟨?_,rfl⟩;rcases x.2 with q|⟨c,q⟩
   ·have:=(k' _ _ q<|by decide).symm.trans a;injection this with this
    injection this with _ _ this
    injection this with this
    injection this with this
    cases this
   ·have:=k' _ _ q (by decide);rw[r6 a this];exact q
theorem agd{mg:Str->Option Value}(Y:lI w aC.heap)(h1:aC.heap.Ns cE mg)(hg:∀x∈TX++LO,mg (o x.1)=some x.2):u1 (ZZ w aC) mg 105 103 N4 GH.qual where
 tab:=rfl
 ns:=(mj h1).imp λu z=>⟨gA z.1 rfl,z.2⟩
 bi:=aaI Y hg (by decide)
 ne:=by decide
 code h x hb:=⟨Qd (hb _ _<|gA (Y.zE 105 _<|Wm _) rfl) (by decide),(Dl x.2).imp λu z=>⟨z.1,z.2.1,z.2.2.imp id<|aD λu=>aH λe=>.inr ⟨e,rfl⟩⟩⟩
 grow h h' ps c' x e hn k e':=by
  have y:=Dk x.2 e hn e';have k':=λb ob e ne=>k b ob ne e;refine⟨⟨x.1.imp (λq=>k' _ _ q<|by decide)<|aD λu q=>k' _ _ q<|by decide,.inr ⟨c',y⟩⟩,λC3 q hq=>?_⟩;rcases hq with ⟨a,rfl⟩|⟨a,rfl⟩
  ·refine .inl<|.inl ⟨?_,rfl⟩;rcases x.1 with q|⟨c,q⟩
   ·have:=(k' _ _ q<|by decide).symm.trans a;injection this with this
    injection this with _ _ this
    injection this with this
    injection this with this
    cases this
   ·have:rA h' 82 Kr c:=k' _ _ q (by decide);rw[r6 a this];exact q
  ·exact .inr ⟨r6 a y,rfl⟩
end
noncomputable def kd(a:Addr):Nat:=if a==128 then 1 else if a==608 then 2 else if a==630 then 3 else if a==652 then 4 else 0
noncomputable def dvK:Nat->Value
 |1=>.ref 121|2=>.ref 601|3=>.ref 623|4=>.ref 645|_=>.none
def dfK:Nat->List SV
 |1=>[.none,.none]|2=>[.str<|o "",.tup []]|3=>[.int 0]|4=>[.none]|_=>[]
def dsK:Nat->List Value
 |1=>[.none,.none]|2=>[.str (o "") 1071,.ref 600]|3=>[.int 0 1113]|4=>[.none]|_=>[]
theorem ag9:Em.map (λx=>(x.d,P0 x.a))=Em.map (λx=>(dvK<|kd x.a,dfK<|kd x.a)):=by kernel_rfl
theorem ag6:Em.map (λx=>jQ x.a)=Em.map (λx=>false):=by kernel_rfl
theorem ag8(P:kE):Em.map (λx=>(KF P).lookup x.a)=Em.map (λx=>some x.obj):=by kernel_rfl
theorem ag2:(Qa.map λc=>(Hm.any λx=>x.a==c.1,match c.2.N5 with|.some []=>false|_=>true))=Qa.map λz=>(true,true):=by kernel_rfl
section
variable{w:cU}{aC:Shared}
theorem Y7(Y:lI w aC.heap){h:Heap}(hb:∀b o,(ZZ w aC).base b=some o->h.get? b=some o):∀k,EP h (dvK k)<|dsK k
 |1=>.inr ⟨121,_,0,#[.none,.none],rfl,hb _ _<|gA (Y.zE 121 {cls:=.type "tuple",data:=.seq #[.none,.none] 0}<|rfl) rfl,rfl,rfl⟩
 |2=>.inr ⟨601,_,0,#[.str (o "") 1071,.ref 600],rfl,hb _ _<|gA (Y.zE 601 {cls:=.type "tuple",data:=.seq #[.str (o "") 1071,.ref 600] 0}<|rfl) rfl,rfl,rfl⟩
 |3=>.inr ⟨623,_,0,#[.int 0 1113],rfl,hb _ _<|gA (Y.zE 623 {cls:=.type "tuple",data:=.seq #[.int 0 1113] 0}<|rfl) rfl,rfl,rfl⟩
 |4=>.inr ⟨645,_,0,#[.none],rfl,hb _ _<|gA (Y.zE 645 {cls:=.type "tuple",data:=.seq #[.none] 0}<|rfl) rfl,rfl,rfl⟩
 |0=>.inl ⟨rfl,rfl⟩
 |_+5=>.inl ⟨rfl,rfl⟩
theorem Xn(Y:lI w aC.heap):∀k,ei (ZZ w aC) (ZZ w aC).base [] (dfK k)<|dsK k
 |1=>⟨_,_,rfl,rfl,_,_,rfl,rfl,rfl⟩
 |2=>⟨_,_,rfl,⟨_,rfl⟩,_,_,rfl,⟨600,#[],0,rfl,gA (Y.zE 600 {cls:=.type "tuple",data:=.seq #[] 0}<|rfl) rfl,rfl⟩,rfl⟩
 |3=>⟨_,_,rfl,⟨_,rfl⟩,rfl⟩
 |4=>⟨_,_,rfl,rfl,rfl⟩
 |0=>rfl
 |_+5=>rfl
theorem Iw(e:((qK i none).getD default).2.2.1[j]? =some (.FunctionDef name params body ds r tp scope ts b pos)):tA i j=some (name,params,body,scope,pos):=by unfold tA;rw[e]
theorem S5(Y:lI w aC.heap)(h1:aC.heap.Ns cE mg)(hg:∀x∈TX++LO,mg (o x.1)=some x.2)
  (e:((qK 11 none).getD default).2.2.1[1]? =some (.FunctionDef name params body [] none [] scope none name pos)) (hx:pK scope.names=some x):tM (ZZ w aC) mg (GA name) (λenv=>env.code=.ref 86/\env.qual=o "regions_in"++".<locals>.") name params body scope pos x:=by
 have q:=Iw e
 have a1:(tA 11 1).map (λz=>(GA z.1,z.2.1.defaults.isEmpty,z.2.1.kw_defaults.isEmpty))=some (0,true,true):=rfl
 rw[q] at a1
 injection a1 with a1
 simp only[jX] at a1
 refine qe a1 λb1 b2 b3=>?_
 have hq:GI={name:=name,qual:=o "regions_in"++".<locals>."++name,params:=params,body:=body,scope:=scope,free:=(scope.names.filter λp=>p.2==.free).map (·.1)}:=by unfold GI nI;rw[q];rfl
 have hp:Kr=pos:=by unfold Kr;rw[q];rfl
 have han:∀env,annTrees GI.params none env=[]:=λenv=>rfl
 have hZ:(ZZ w aC).nest (GA name)=some GI:=by rw[b1];rfl
 refine⟨⟨GI,hZ,by rw[hq],by rw[hq],by rw[hq],?_⟩,bt.mp b2,bt.mp b3,λenv=>?_,λenv ni hf hn=>?_⟩
 ·rw[hq];refine dS (bq.mp hx) λp h2 zz2=>?_;subst zz2;show(scope.names.filter λp=>p.2==.free).map (·.1)=[p.1];rw[kK h2 id];rfl
 ·have:=han env;rw[hq] at this;exact this
 ·obtain rfl:=aa<|hZ.symm.trans hn;exact⟨86,82,hf.1,hp▸age Y h1 hg,by rw[hf.2,hq]⟩
theorem S4(Y:lI w aC.heap)(h1:aC.heap.Ns cE mg)(hg:∀x∈TX++LO,mg (o x.1)=some x.2)
  (e:((qK 14 none).getD default).2.2.1[5]? =some (.FunctionDef name params body [] none [] scope none name pos)) (hx:pK scope.names=some x):tM (ZZ w aC) mg (GA name) (λenv=>env.code=.ref 105/\env.qual=o "fields_of"++".<locals>.") name params body scope pos x:=by
 have q:=Iw e
 have a1:(tA 14 5).map (λz=>(GA z.1,z.2.1.defaults.isEmpty,z.2.1.kw_defaults.isEmpty))=some (1,true,true):=rfl
 rw[q] at a1
 injection a1 with a1
 simp only[jX] at a1
 refine qe a1 λb1 b2 b3=>?_
 have hq:GH={name:=name,qual:=o "fields_of"++".<locals>."++name,params:=params,body:=body,scope:=scope,free:=(scope.names.filter λp=>p.2==.free).map (·.1)}:=by unfold GH nI;rw[q];rfl
 have hp:N4=pos:=by unfold N4;rw[q];rfl
 have han:∀env,annTrees GH.params none env=[]:=λenv=>rfl
 have hZ:(ZZ w aC).nest (GA name)=some GH:=by rw[b1];rfl
 refine⟨⟨GH,hZ,by rw[hq],by rw[hq],by rw[hq],?_⟩,bt.mp b2,bt.mp b3,λenv=>?_,λenv ni hf hn=>?_⟩
 ·rw[hq];refine dS (bq.mp hx) λp h2 zz2=>?_;subst zz2;show(scope.names.filter λp=>p.2==.free).map (·.1)=[p.1];rw[kK h2 id];rfl
 ·have:=han env;rw[hq] at this;exact this
 ·obtain rfl:=aa<|hZ.symm.trans hn;exact⟨105,103,hf.1,hp▸agd Y h1 hg,by rw[hf.2,hq]⟩
theorem Po(Y:lI w aC.heap)(hx:x∈Em):si (ZZ w aC) prog.meths x.a x.fn x.it.2.1 x.it.2.2.1 x.it.2.2.2 (o x.q) (.ref x.c) (dsK<|kd x.a):=by
 have hk:=iP ag9 x hx;have hk1:x.d=dvK (kd x.a):=congrArg kf hk;have hk2:P0 x.a=dfK (kd x.a):=congrArg sJ hk;have hc:=ba.mp ag3 x hx;refine u6 Y.g λmg h1 hg hg2=>⟨λn C hC=>?_,λh hb=>?_,?_,λp hp e=>?_⟩
 ·refine AU (mg:=mg) (Wk Y hC) (aaS Y) (cI hc λa z=>a) λs hs=>?_;have hd:=ba.mp ahc x hx;rcases fH.mp hd with hd|hd
  ·rcases fH.mp hd with hd|hd
   ·exact cI hd λhd d5=>cI hd λhd d4=>cI hd λhd d3=>cI hd λd1 d2=>by
     have d2:=beq_iff_eq.mp d2;have d3:=beq_iff_eq.mp d3;have d4:=bM.mp d4;have d5:=beq_iff_eq.mp d5;have hi:x.it=(qK 11 none).getD default:=by unfold FD.it;rw[d3,d4]
     rw[hi] at hs;rcases EF (cI acF λa z=>a) s hs with h|h
     ·exact .inl h
     ·refine .inr λname params body scope pos y e hy=>?_;rw[d2,d5];exact S5 Y h1 hg (e▸h) hy
   ·exact cI hd λhd d5=>cI hd λhd d4=>cI hd λhd d3=>cI hd λd1 d2=>by
     have d2:=beq_iff_eq.mp d2;have d3:=beq_iff_eq.mp d3;have d4:=bM.mp d4;have d5:=beq_iff_eq.mp d5;have hi:x.it=(qK 14 none).getD default:=by unfold FD.it;rw[d3,d4]
     rw[hi] at hs;rcases EF (cI acF λz a=>a) s hs with h|h
     ·exact .inl h
     ·refine .inr λname params body scope pos y e hy=>?_;rw[d2,d5];exact S4 Y h1 hg (e▸h) hy
  ·exact .inl<|ba.mp hd s hs
 ·refine⟨⟨x.obj,_,hb _ _<|gA (Y.zE _ _<|Qx<|iP (ag8 w.params) x hx)<|iP ag6 x hx,rfl,rfl,rfl,rfl,rfl,rfl,rfl,rfl,rfl,?_⟩,?_⟩
  ·show EP h x.d _;rw[hk1];exact Y7 Y hb _
  ·refine x44 (Y.code x hx) λc ob vs t e1 e2 e3 e4=>y44 c ob vs t e1 (hb _ _<|gA e2 ?_) e3 e4;have:=iP (f:=λx=>jQ x.c) (g:=λz=>false) (rfl) x hx;rw[<-rE e1];exact this
 ·show ei _ _ _ (P0 x.a) _;rw[hk2];exact Xn Y _
 ·have h:=ba.mp (cI hc λz b=>b) p hp;rw[e] at h;exact ae h
theorem Ar{α:Type}{L:List (Addr×α)}:∀{a:Addr}{v:α},L.lookup a=some v->(a,v)∈L:=by
 induction L with
 |nil=>intro _ _ e;exact aW e
 |cons pq r ih=>
  obtain⟨j,x⟩:=pq;intro a v e;rw[ck] at e;cases q:a==j with
  |true=>rw[q] at e;rw[beq_iff_eq.mp q,<-aa e];exact ax ..
  |false=>rw[q] at e;exact az _<|ih e
theorem DQ(Y:lI w aC.heap){ni:nz}(h:(Eh ni.params ni.scope []&&ni.body.all qi)=true)(e:MT tcc false ni.params [] ni.body ni.scope=fn)(hf:ni.free=(ni.scope.names.filter λp=>p.2==.free).map (·.1)):A9 (ZZ w aC) prog.meths fn ni:=by subst e;refine u6 Y.g λmg h1 hg hg2=>⟨rfl,hf,λn C code hC=>AU (mg:=mg) (Wk Y hC) (aaS Y) (cI h λa z=>a) λs hs=>.inl<|ba.mp (cI h λz b=>b) s hs⟩
theorem Xs(Y:lI w aC.heap):ru (ZZ w aC) (KF w.params) prog where
 top:=Y.g.imp λu z=>Y.b.imp λu q=>VN Y z.1 q.1
 fns a fn h:=by
  have m:=Ar h;rw[<-trU] at m;refine dS (bI.mp m) λx hx e=>?_;injection e with e1 e2
  subst e1 e2;exact y61 _ _ _ _ _ _ (Po Y hx)
 cls a c h:=by have m:=Ar h;have hx:=iP ag2 _ m;have hi:=iP (aha w.params) _ m;have hk:(ZZ w aC).uM a=true:=congrArg kf hx;refine dS (XS hk) λy hy zz2=>?_;subst zz2;exact⟨⟨IH Y,iP (ag7 w.params) y hy,congrArg kf hi,congrArg sJ hi,hk⟩,λe=>by have q:(match c.N5 with|.some []=>false|_=>true)=true:=congrArg sJ hx;rw[e] at q;exact ae q⟩
 nest k fn h:=by
  have h:(if(k==0)=true then some n0 else if(k==1)=true then some n1 else none)=some fn:=h;cases q:k==0 with
  |true=>rw[q] at h;obtain rfl:=beq_iff_eq.mp q;exact⟨GI,rfl,DQ Y (cI acG λa u=>a) (tr0.trans<|aa h) rfl⟩
  |false=>
   rw[q] at h;cases q1:k==1 with
   |true=>rw[q1] at h;obtain rfl:=beq_iff_eq.mp q1;exact⟨GH,rfl,DQ Y (cI acG λu a=>a) (tr1.trans<|aa h) rfl⟩
   |false=>rw[q1] at h;exact aW h
end
abbrev CP:Prop:=∀ns:List Int,ns.length<=63->rn prog 40 (.raw<|.ref 732) [.lst<|ns.map SV.int] []=some (.bool true,[])
noncomputable abbrev AB:OpenLaw:=PySem.Challenge.rw_pf0171_01
theorem TF:Me R xs .int=true->∃ns:List Int,xs=ns.map sI:=by
 induction xs with
 |nil=>exact λz=>⟨[],rfl⟩
 |cons x xs ih=>intro h;refine kg (bW.mp (show(WShape.has R x .int&&Me R xs .int)=true from h)) λh1 h2=>fT (hasW_int h1) λi zz1=>?_;subst zz1;refine fT (ih h2) λns zz1=>?_;subst zz1;exact⟨i::ns,rfl⟩
theorem UN(h:AB.row.toRowW.claim.pre args=true):∃ns:List Int,args=[.list<|ns.map sI]/\ns.length<=63:=by
 refine kg (pre_splitW h) λh1 h2=>jG (hasAllW_cons h1) λd r zz2 h3 h4=>?_;subst zz2;refine dS (hasW_list h3) λxs zz1 h5=>?_;subst zz1;refine fT (TF h5) λns zz1=>?_;subst zz1;obtain rfl:=hasAllW_nil h4;refine⟨ns,rfl,?_⟩;let F:Bool->Bool:=λb=>WTm.holds [] (.and (.not<|.lit<|.bool b) (.lit<|.bool true)) {args:=[.list<|ns.map sI]};have e:AB.pre.holds [] {args:=[.list<|ns.map sI]}=F (decide<|(63:Int)<((ns.map sI).length:Int)):=rfl;have h2:=e.symm.trans h2;rw[ag] at h2;cases q:decide ((63:Int)<ns.length) with
 |true=>rw[q] at h2;exact ae h2
 |false=>exact gN.mp<|qH.mp<|of_decide_eq_false q
theorem NH:∀{ns:List Int}{vs:List Value},WellAll P h vs (ns.map sI)->ei Z g [] (ns.map SV.int) vs:=λ{ns}=>by
 induction ns with
 |nil=>intro vs h;cases h;rfl
 |cons i ns ih=>
  intro vs h;cases h with
  |cons h r=>cases h with
   |int _ t=>exact Av _ _ rfl ⟨t,rfl⟩<|ih r
section
variable{w:cU}{aC:Shared}
theorem JU(Y:lI w aC.heap):b7 (ZZ w aC) [] (ZZ w aC).base (λz=>none) [] aC where
 keep b ob e:=(SQ e).1
 fix b ob e:=aW e
 len:=rfl
 objs k ob p h:=aW h
 uniq i j x oi oj p q h:=aW h
 off k ob p x h:=aW h
 top b ob e:=e
 tabs:=⟨.inl<|Y.zE 82 _<|rfl,.inl<|Y.zE 103 _<|rfl⟩
 hW b e:=⟨by show(if jQ b then none else aC.heap.get? b)=none;rw[show jQ b=true from e];rfl,rfl⟩
 tY b ob e:=aW e
 same:=⟨rfl,rfl,rfl⟩
 codes c q h:=by
  have k:∀{P:Addr}{pos:Pos},aC.heap.get? P=some (pg #[])->rA aC.heap P pos c->False:=λe a=>by
   have:=e.symm.trans a;injection this with this
   injection this with _ _ this
   injection this with this
   injection this with this
   cases this
  rcases h with ⟨a,_⟩|⟨a,_⟩
  ·exact(k (Y.zE 82 _<|rfl) a).elim
  ·exact(k (Y.zE 103 _<|rfl) a).elim
theorem Li:t6 40 callerA:=⟨rfl,by decide,by decide⟩
theorem ON(Y:lI w aC.heap)(h:jQ b=true):isCodeTable aC.heap b:=by
 rcases fH.mp h with e|e
 ·rw[beq_iff_eq.mp e];exact⟨86,_,_,Y.zE 86 _<|acY _,rfl,rfl,rfl⟩
 ·rw[beq_iff_eq.mp e];exact⟨105,_,_,Y.zE 105 _<|Wm _,rfl,rfl,rfl⟩
theorem It{h':Heap}(Y:lI w aC.heap){pos:Pos}(hP:jQ P=true)(e:aC.heap.get? P=some (pg #[]))(x:wY h' P pos){ob:Obj}(e':aC.heap.get? P=some ob):asItWas aC.heap h' P ob:=by
 obtain rfl:=aa<|e.symm.trans e';rcases x with q|⟨c,q⟩
 ·exact .inl q
 ·exact .inr<|.inl ⟨ON Y hP,rfl,#[],#[gV pos.line,gV pos.col,.ref c],rfl,q⟩
theorem abc{st:List SO}(Y:lI w aC.heap)(S:b7 (ZZ w aC) st g fx ρ s'):OldK aC.heap s'.heap:=by
 have k:∀b ob,aC.heap.get? b=some ob->asItWas aC.heap s'.heap b ob:=λb ob e=>by
  cases q:jQ b with
  |false=>exact .inl<|S.fy b ob<|gA e q
  |true=>
   rcases fH.mp q with r|r
   ·obtain rfl:=beq_iff_eq.mp r;exact It Y rfl (Y.zE 82 _<|rfl) S.tabs.1 e
   ·obtain rfl:=beq_iff_eq.mp r;exact It Y rfl (Y.zE 103 _<|rfl) S.tabs.2 e
 refine⟨k,λb ob e=>?_⟩;rcases k b ob e with h|⟨_,_,_,_,_,h⟩|⟨_,_,⟨_,_,_,h,_⟩,_⟩
 ·exact⟨_,h⟩
 ·exact⟨_,h⟩
 ·exact⟨_,h⟩
theorem OJ(H:CP){cl:Str->Option Addr}{mean:ExcName->Option Value}(Y:lI w aC.heap)(hg:aC.gens=#[]){args:List WData}{vals:List Value}(hpre:AB.row.toRowW.claim.pre args=true)(hw:WellAll w.params aC.heap vals args){E:Value->Shared->Prop}:
  av (model pr w) callerA (PySem.call (.ref 732) vals) (λv s'=>GoodWG AB.row.toRowW.claim cl mean args aC (.ok<|.ret v) s') E aC:=by
 refine dS (UN hpre) λns zz1 hl=>?_
 subst zz1
 cases hw with
 |cons h1 h2=>
  cases h2 with
  |nil=>
   cases h1 with
   |@list a vs xs ho hv=>
    have hb:jQ a=false:=by
     cases q:jQ a with
     |false=>rfl
     |true=>
      exfalso;have k:aC.heap.get? a=some (pg #[]):=by
       rcases fH.mp q with r|r
       ·rw[beq_iff_eq.mp r];exact Y.zE 82 _<|rfl
       ·rw[beq_iff_eq.mp r];exact Y.zE 103 _<|rfl
      have:=k.symm.trans ho;injection this with this
      injection this with this
      cases this
    have hC:=Qe (Xs Y) 40 _ _ _ _ _ (H ns hl) callerA _ _ _ aC (.ref 732) [.ref a] Li (JU Y) ⟨rfl,rfl⟩ ⟨_,_,rfl,⟨a,_,0,rfl,gA ho hb,NH hv⟩,rfl⟩;refine hC.2 E _ λg' bQ s' y X S r=>?_;obtain rfl:y=.bool true:=r;refine LJ (.inl ⟨.bool true,.bool true,[],rfl,λz=>rfl,.bool true,?_,λz=>⟨gq,λz h=>absurd h aK⟩⟩) (abc Y S) S.same.2.2<|.of_eq<|S.same.1.trans hg;kernel_rfl
end
theorem OH(H:CP)(d:DefRec)(kwd:List (Str×ao))(hd:d.name=o "law"):WalkO q ui (λz z=>True) lI AB.row.toRowW d kwd λf vs=>PySem.call f vs:=λw s₀ aC mg mb G Y a ob pm cd doc dV kV h1 h2 h3 h4 h5 h6 args vals as hpre hlay hrd hwl hlo=>by
 have ha:a=732:=by
  refine u6 Y.g λmg' g1 g2 z=>?_;obtain⟨x1,x2,x3,x4,x5,x6,x7⟩:=g1;obtain⟨y1,y2,y3,y4,y5,y6,y7⟩:=G.T.g;obtain rfl:=aa<|x4.symm.trans y4;have e:x2=y2:=by have:=x5.symm.trans y5;injection this
  subst e;have h8:mg (o "law")=mg' (o "law"):=(y7 _).symm.trans<|x7 _;have h9:mg' (o "law")=some (.ref 732):=g2 ("law",.ref 732) (by refine jt _<|aI (i:=LO.length-1) ?_;kernel_rfl);rw[hd,h8,h9] at h5;injection h5 with h5
  injection h5 with h5
  exact h5.symm
 subst ha;exact OJ H Y h6 hpre hwl
theorem Uv:∃d kwd,defOf q AB.row.name=some (d,kwd)/\d.name=o "law"/\AB.row.prog.theDef AB.row.name=some (d.params,d.body,d.scope)/\kwWritten? d.params.kwonlyargs d.params.kw_defaults=some kwd:=by
 have h:(defOf q AB.row.name).map (λx=>(x.1.name,AB.row.prog.theDef AB.row.name,kwWritten? x.1.params.kwonlyargs x.1.params.kw_defaults))=(defOf q AB.row.name).map (λx=>(o "law",some (x.1.params,x.1.body,x.1.scope),some x.2)):=rfl;have h0:(defOf q AB.row.name).isSome=true:=rfl;obtain⟨⟨d,kwd⟩,e⟩:=ie.mp h0;rw[e] at h;injection h with h
 simp only[jX] at h;exact VG d kwd e h.1 h.2.1 h.2.2
section
set_option maxHeartbeats 8000000
theorem ws0:PySem.W.Fast.tw9446332074065402090 AB=true:=by kernel_rfl
theorem ws:AB.wellSaid=true:=by rw[PySem.W.Fast.te9446332074065402090];exact ws0
end
section
set_option maxHeartbeats 8000000
theorem ok1:(chainsOk q&&opensWell AB.row.prog&&(frees AB.row.toRowW&&AB.row.within.isEmpty))=true:=by decide+kernel
theorem ok2:AB.row.prog.bare:=⟨rfl,rfl,rfl,rfl,rfl,by decide+kernel⟩
theorem ok3:AB.row.toRowW.promised:=⟨[.list []],by decide+kernel,by decide+kernel⟩
end
theorem N1:CP:=λns h=>OI ns h
end Internal.Mine
end
set_option maxHeartbeats 8000000 in
open Internal.Mine in
theorem PySem.Challenge.cw_pf0171_01_holds : PySem.Challenge.rw_pf0171_01.Holds := by
 refine RK Uv λd kwd e1 e2 e3 e4=>⟨ws,W.holds_open left Sy lI.keeps (λz z=>trivial) (λz z z z z=>trivial) e1 e3 e4 (λs z=>recFacts_of rfl) rfl (row_said ws) ok1 ok2 ok3<|OH N1 d kwd e2⟩
