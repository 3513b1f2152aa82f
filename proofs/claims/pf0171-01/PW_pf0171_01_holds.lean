import PyProof.Rows.All
import OpenK.AllK
import Wide.All
import Open.Tops
import Lean
import PySem.Challenge.RW_pf0171_01
set_option maxRecDepth 100000
set_option linter.all false
set_option autoImplicit true
set_option relaxedAutoImplicit true
set_option Elab.async false
set_option genCtorIdx false
set_option tactic.hygienic false
set_option backward.match.sparseCases false
set_option genSizeOf false
set_option genSizeOfSpec false
set_option genInjectivity false
set_option bootstrap.genMatcherCode false
open And renaming imp->gI,imp_left->cx,imp_right->aG,intro->OI,left->Hb
open Array renaming any_toList->JF,eq_empty_of_size_eq_zero->gF,forIn_toList->eY,getD_eq_getD_getElem?->lr,getElem?_eq_getElem->fU,getElem?_eq_none->gQ,getElem?_eq_some_iff->xn,getElem?_toList->bh,isEmpty_iff->I8,length_toList->aL,replicate->NY,toList_push->I7
open Bool renaming and_eq_true->dr,and_eq_true_iff->bK,and_false->Si,and_true->kE,eq_iff_iff->g8,false_and->Sh,false_eq_true->dc,false_ne_true->a8,noConfusion->ae,not_eq_true'->tO,or_eq_true->g7,or_eq_true_iff->eI,true_and->mP
open Eq renaming ndrec->gP,refl->cN,symm->ck
open Exists renaming imp->aA
open ForInStep renaming yield->dC
open Iff renaming rfl->NX
open Int renaming fdiv->ui,fmod->md,le_of_lt->C5,le_trans->cw,lt_of_le_of_lt->jl,lt_of_not_ge->OB,lt_trans->C4,min_eq_left->xl,natCast_nonneg->jk,natCast_pos->Sd,not_le->JD,not_lt->oh,ofNat_inj->mW,ofNat_le->fG,ofNat_lt->lU,toNat->OA,toNat_eq_zero->NW,toNat_le->C3,toNat_lt->uh,toNat_natCast->jO,toNat_of_nonneg->i3
open List renaming Perm->cQ,all_append->oa,all_eq_true->aZ,any_cons->kA,any_eq_false->JC,any_eq_true->uH,append_assoc->aM,append_nil->a9,contains_iff_mem->fP,dropLast_eq_take->C2,drop_append_of_le_length->vf,drop_drop->Sa,drop_eq_getElem_cons->dN,drop_eq_nil_of_le->nX,drop_left->qi,drop_length->nE,drop_zero->iF,eq_nil_of_length_eq_zero->ve,ext_getElem->uG,ext_getElem?->eE,filterMap_cons->eH,filterMap_map->I6,filter_cons_of_neg->AN,filter_cons_of_pos->AM,find?_some->n9,findIdx?_cons->dF,findIdx?_eq_none_iff->bI,findIdx?_eq_some_iff_getElem->bo,findIdx?_isSome->qh,findIdx?_map->ij,findIdx?_toArray->C1,flatMap_append->iY,foldl_append->ig,foldl_map->R9,foldr_append->JB,foldr_map->R8,forIn_cons->cb,forIn_nil->gH,getD_eq_getElem?_getD->iE,getElem?_append_left->aK,getElem?_append_right->az,getElem?_eq_getElem->ax,getElem?_eq_none->fO,getElem?_eq_some_iff->af,getElem?_inj->ie,getElem?_map->ai,getElem?_of_mem->gk,getElem?_range'->E4,getElem?_range->bx,getElem?_set->tN,getElem?_set_ne->bJ,getElem?_set_self->dJ,getElem?_take_of_lt->dq,getElem?_toArray->C0,getElem?_zipIdx->kM,getElem_map->km,getElem_mem->kl,getElem_range->b3,getElem_reverse->qg,isEmpty_iff->bg,length->E3,length_append->aj,length_cons->cI,length_drop->e8,length_eq_zero_iff->AL,length_filter_le->pe,length_map->ag,length_range'->I5,length_range->ar,length_replicate->kb,length_reverse->eG,length_set->eO,length_take->bZ,length_zip->Oz,length_zipIdx->sy,lookup_append->I4,lookup_cons->bY,map_append->a6,map_congr_left->gE,map_cons->cA,map_drop->rt,map_eq_nil_iff->q7,map_fst_zip->nD,map_map->iO,map_nil->lM,map_take->kz,mem_append->b4,mem_append_left->kL,mem_append_right->ib,mem_cons->aQ,mem_cons_of_mem->ay,mem_cons_self->aw,mem_filter->k6,mem_flatMap->uF,mem_iff_getElem?->pd,mem_map->bw,mem_of_find?_eq_some->yQ,mem_of_getElem?->aH,mem_range->bV,mem_reverse->uE,mem_singleton->aD,mem_zipIdx_iff_getElem?->g6,modify_nil->Oy,modify_succ_cons->CZ,modify_zero_cons->CY,nil_append->d8,noConfusion->kj,nodup_append->cL,nodup_cons->d7,nodup_nil->fg,not_mem_nil->aJ,of_mem_zip->Ox,pairwise_cons->ek,perm_ext_iff_of_nodup->xQ,range'->en,range'_succ->NV,range->ak,range_succ->d6,replicate->bf,replicate_succ->qZ,reverse_cons->JA,set->R7,set_append_right->ia,size_toArray->mv,take_add_one->gj,take_append_drop->cV,take_append_of_le_length->vd,take_left->R6,take_length->cH,take_of_length_le->c9,take_succ_cons->qY,toList_toArray->qX,zipIdx_append->jh,zipIdx_cons->NU,zipIdx_map->Ow,zipIdx_nil->Ov,zip_cons_cons->jg
open List.Pairwise renaming nil->kN
open List.Perm renaming swap->G9
open List.cons renaming inj->gO,injEq->E5
open Nat renaming add_comm->ug,add_le_add->iK,add_le_add_left->aV,add_le_add_right->fq,add_right_comm->sO,add_sub_cancel_left->Cz,blt->mO,blt_eq->yP,eq_of_lt_succ_of_not_lt->xO,eq_or_lt_of_le->Jz,eq_zero_of_le_zero->jN,exists_eq_add_of_le->Cy,exists_eq_succ_of_ne_zero->kS,le_add_left->eR,le_add_right->a4,le_antisymm->cX,le_max_left->xj,le_max_right->vc,le_of_add_le_add_left->Au,le_of_eq->dK,le_of_lt->a5,le_of_lt_succ->aP,le_of_not_lt->ku,le_of_succ_le->ct,le_of_succ_le_succ->n8,le_refl->aF,le_succ->iJ,le_succ_of_le->dZ,le_trans->ah,lt_add_right->Ou,lt_irrefl->b0,lt_of_add_right_lt->n7,lt_of_le_of_lt->aE,lt_of_le_of_ne->gZ,lt_of_lt_of_eq->Jy,lt_of_lt_of_le->aY,lt_of_succ_lt->NT,lt_of_succ_lt_succ->CW,lt_or_ge->lT,lt_succ_of_le->dY,lt_succ_of_lt->dX,lt_succ_self->cp,lt_trans->n6,min_eq_left->ei,min_eq_right->nS,min_le_left->gi,min_le_right->dt,min_self->CV,mod_lt->sN,mul_le_mul_left->fE,ne_of_gt->cv,ne_of_lt->bN,ne_zero_of_lt->NS,noConfusion->R4,not_le_of_lt->Ot,not_lt->sM,not_lt_of_le->kr,not_lt_zero->fu,not_succ_le_self->G8,not_succ_le_zero->qw,pos_of_ne_zero->sL,sub_add_cancel->sJ,sub_le->Jx,sub_le_of_le_add->G7,sub_self->bt,sub_succ_lt_self->G6,sub_zero->uf,succ->je,succ_add_eq_add_succ->fc,succ_le_succ->iR,succ_lt_succ->u9,succ_ne_self->Oq,succ_ne_zero->e9,succ_pos->n5,zero_add->b9,zero_le->dW,zero_lt_of_lt->NR,zero_lt_succ->u7
open Nat.succ renaming inj->jf
open Ne renaming symm->ff
open Option renaming any_eq_true->E2,bind_eq_bind->CU,bind_eq_some_iff->fo,bind_some->mN,isNone_iff_eq_none->bB,isSome_iff_exists->gh,isSome_none->qW,map->E1,map_eq_some_iff->be,map_some->kK,noConfusion->E0,pure_def->Jv,some_ne_none->bU
open Option.some renaming inj->aa,injEq->pZ
open Prod renaming ext->R2,fst->i8,snd->qf
open Prod.mk renaming inj->fy,injEq->iQ
open PyProof renaming noPylong_small->yO
open PyProof.Rows renaming IntsAre->kC,IntsAre->mM,IsTup->mU,Subscript_->CS,args_tupleiter_next->RZ,assignInOrder_cons->u5,entry_tupleiter_next->Oj,exec_Assign->Oi,iter_tuple->ud,slot_tuple_getitem->mS,slot_tupleiter_next->mo,sortedHeap->CI,tail_any->jc
open PyProof.Rows.F renaming entry_set_update_loop->E6,plain_set_update_loop->om
open PyProof.Rows.IntsAre renaming int_at->nR,length->od
open PyProof.Rows.LCg renaming NsObj->q8,ns_obj->kB
open PySem renaming Arguments->el,Around->bq,Builtin->d9,Expr->ao,Fin->As,IsPair->vg,IsZip->xk,NameKind->cj,Operator->xi,OsState->tM,Params->jj,Reads->jD,ReadsAll->lS,Sem->xM,Slot->Jt,Stmt->xh,World->cD,ZipApart->pW,argsOk->lq,assign->n4,assignEach->u6,attributeBase->G4,backTo->sI,beq_builtin_none->yK,binaryOp->mT,builtinLookup_eq_fast->bT,builtinsNs->fY,cStatics->CR,call_meets->u4,cellOf->yJ,checkBuiltinCall->yI,checkTypeCall->G3,codeAmong->mK,codeAny->jb,codeAny_builtin->jG,codeAny_call_builtin->Om,codeAny_of_tree->AK,compEnvC->pU,compPost->CQ,compTurn->CP,compareOp->dP,dictFind->CO,dictGet->xg,dictSet->Jr,entryFor->kq,entryFor_alias->CN,entryFor_of_tree->fT,evalEach->CL,evalPart_none->G0,evalPart_some->GZ,firstArgMember->sH,foldedSetIterable->xf,getItem->nV,hashInt->gD,holding->jF,importedModules->jE,intKind->eV,intKind_is->ll,intText?->Oo,isSubtype_type->dx,letOwnedTupleGo->gC,mainGlobals->cg,plainId_quiet->uC,pyIter->jL,pyNext->qu,rawInt->fN,recursionLimit->CK,relayAll->sG,setAttr->R0,setItem->ki,setWalkUnseen->uB,signature?_of->jC,sizeLine_eq->hY,slicePicked->Ar,sliceRange->CJ,slot_dict_contains->u3,slot_dict_getitem->xe,slot_list_getitem->nU,spliced->tK,standAt->kp,starEach->jB,storeSet->Oh,strKind->mu,swappedStores->jA,swapsWith->I2,swapsWithSole->GX,table->xd,treeTable->j0,truthy->nQ,typeLookup->lj,typeLookup_type->cZ,wpAny->au,wpAny_Constant_str->u2,wpAny_Name->CG,wpAny_Slice->Og,wpAny_alloc->lQ,wpAny_askSetting->gX,wpAny_attempt->uA,wpAny_binaryOp_same->RY,wpAny_bind->aI,wpAny_call->qt,wpAny_callSpecial?_slot->cC,wpAny_callSpecialUnlessNone?_slot->w3,wpAny_call_entry->bl,wpAny_comprehension_free->GW,wpAny_execs_nil->AJ,wpAny_field->di,wpAny_getItem_str_slice->I1,wpAny_holding->aO,wpAny_isInstance->cP,wpAny_isTrue_BoolOp->RX,wpAny_ite_split->qV,wpAny_loadName_cell->RW,wpAny_loadName_free->RU,wpAny_loadName_local->Of,wpAny_mono->d3,wpAny_newFunctionEnv->Oe,wpAny_newObj_type->dE,wpAny_notOrdered_dict->rq,wpAny_of_eq->lP,wpAny_onRaise->GV,wpAny_pure->ab,wpAny_pyIter_list->xc,wpAny_pyIter_slot->xb,wpAny_richCompare_same_room->Cx,wpAny_rule->c5,wpAny_seqItems->eU,wpAny_sequenceKey->nT,wpAny_setField->mQ,wpAny_setField_rec->ic,wpAny_setState_of->bu,wpAny_specialOf->gB,wpAny_standAt->c8,wpAny_truthy_bool->eT,wpAny_typeOf->ko,wpAny_updateDictKeys->Od,wpAny_updateSeq_pair->Oc
open PySem.Around renaming under_of_weight->fA,under_plainId->iy
open PySem.Builtin.Dict renaming missed->xm
open PySem.Builtin.Frozenset renaming newClass->OH,oneOther->OG,sizeOf->OF,updateFrom->OE
open PySem.Builtin.Int renaming intBits->xR
open PySem.Builtin.List renaming listLengthHint->rz
open PySem.Builtin.Range renaming rangeFitsLong->jP,rangeSize->dj,small->hW
open PySem.Builtin.Slice renaming sliceAdjust->sz,slicePlaces->kD
open PySem.Builtin.SmallTypes renaming nextOf->p8
open PySem.Builtin.Str renaming strSliceIndices->cJ
open PySem.Builtin.Tuple renaming tupleHashOf->ez,tupleItemsOf->ru
open PySem.Code renaming body->nH,builtin->jI,compLoop->Av,compStart->Sg
open PySem.F renaming args_zip_next_1->xN,called_set->i4,entry_zip_next->yN,plainAttrs_dict->Sf,plainAttrs_list->nG,slot_dict_get->yR,slot_dict_setdefault->Ha,slot_list_extend->OD,slot_list_index->Se,slot_str_getitem->OC,slot_tuple_hash->nF,slot_zip_next->jH,sub_list_frozenset->JE
open PySem.Heap renaming SameBut->da,get?_push_of_some->aq,get?_push_size->bp,get?_update_other->nY,get?_update_self->cW,lt_size->bW,size_push->fK
open PySem.Heap.Ns renaming of_isNs->uj
open PySem.Heap.SameBut renaming refl->kT,update->cq
open PySem.NameKind renaming cell->p7,free->cK,noConfusion->cE
open PySem.Obj renaming cls_mapFields->ue,data_mapFields->gY,isFreed_of_fields->p6,mapDictKeys->R3,mapFields->jd,mapSeq->Jw
open PySem.PyData renaming canLayAll0->hV,depthAll->kJ,eqv->bc,int->j3,keyHash->lL,list->o9,noConfusion->gN,str->EZ,strOk->c6,tuple->R1
open PySem.SetTable renaming below->uD,bits->pY,fill->w4,fits->lZ,grown->hZ,laid->lY,layClean->CT,leap->pX,road->Ju,runEnd->gM,sizeAbove->c0,turns->nW
open PySem.SetTable.layClean renaming free->cT
open PySem.Str renaming ofString->jM
open PySem.Value renaming builtin->yM,int->g5,isInt->mq,isStrOf->yL,none->lR,ref->lK,type->ka
open PySem.Value.ref renaming inj->o8
open PySem.W renaming boot_heap->tL,copiedNames->Ol,emptyDict->pT,findIn->de,instObj->lJ,lookIn->Jq,putL->GY,specialIn->I3,tabObj->mR,topFrame->CH
open PySem.W.FB renaming owner_frozenset->jz,slot_frozenset_contains->mr
open PySem.W.Looks renaming ld->CX,of_pure->R5
open PySem.W.WData renaming int->qe
open PySem.W.WShape renaming hasItems->Js
open PySem.Walks renaming list->G5
open PySem.pickOrder renaming go->qv
open PySem PySem.W PySem.Calls PyProof.Rows PySem.SeqAt PySem.Builtin.Frozenset PySem.Spec
noncomputable section
namespace Internal.Mine
theorem Ib{α:Type}:∀{l:List α},l.length<=1->l=[]\/∃x,l=[x]:=λ{l} h=>by
 cases l with
 |nil=>exact .inl rfl
 |cons x r=>cases r with
  |nil=>exact .inr ⟨x,rfl⟩
  |cons y r=>exact absurd (n8 h)<|qw _
theorem LO{α:Type}{l:List α}(h:l.length=1):∃x,l=[x]:=(Ib<|dK h).elim (λe=>by rw[e] at h;exact absurd h.symm<|e9 0) id
theorem SN{α:Type}{l:List α}(h:l.length=2):∃x y,l=[x,y]:=by
 cases l with
 |nil=>exact absurd h.symm<|e9 _
 |cons x r=>obtain⟨y,e⟩:=LO<|jf h;exact⟨x,y,by rw[e]⟩
theorem zx{α:Type}{b x y:α}(h:b∈[x,y]):b=x\/b=y:=(aQ.mp h).imp id aD.mp
theorem agF{α:Type}{b x y z:α}(h:b∈[x,y,z]):b=x\/b=y\/b=z:=(aQ.mp h).imp id zx
section
variable{A B C D E F P:Prop}
theorem i9(r:A/\B)(k:A->B->P):P:=k r.1 r.2
theorem nK(r:A/\B/\C)(k:A->B->C->P):P:=i9 r.2<|k r.1
theorem x04(r:A/\B/\C/\D)(k:A->B->C->D->P):P:=nK r.2<|k r.1
theorem x05(r:A/\B/\C/\D/\E)(k:A->B->C->D->E->P):P:=x04 r.2<|k r.1
theorem I9(r:A)(a:B)(b:C)(c:D):A/\B/\C/\D:=⟨r,a,b,c⟩
end
section
variable{α:Type}{A B C D E F:α->Prop}{P:Prop}
theorem eS(r:∃a,A a)(k:∀a,A a->P):P:=r.elim k
theorem dn(r:∃a,A a/\B a)(k:∀a,A a->B a->P):P:=r.elim λa r=>i9 r<|k a
theorem sA(r:∃a,A a/\B a/\C a)(k:∀a,A a->B a->C a->P):P:=r.elim λa r=>nK r<|k a
theorem Ja(r:∃a,A a/\B a/\C a/\D a)(k:∀a,A a->B a->C a->D a->P):P:=r.elim λa r=>x04 r<|k a
theorem x15(r:∃a,A a/\B a/\C a/\D a/\E a)(k:∀a,A a->B a->C a->D a->E a->P):P:=r.elim λa r=>x05 r<|k a
theorem x16(r:∃a,A a/\B a/\C a/\D a/\E a/\F a)(k:∀a,A a->B a->C a->D a->E a->F a->P):P:=r.elim λa r=>x05 r.2<|k a r.1
theorem xX(a:α)(r:A a)(b:B a)(c:C a):∃a,A a/\B a/\C a:=⟨a,r,b,c⟩
theorem y14(a:α)(r:A a)(b:B a)(c:C a)(d:D a):∃a,A a/\B a/\C a/\D a:=⟨a,r,b,c,d⟩
theorem y16(a:α)(r:A a)(b:B a)(c:C a)(d:D a)(e:E a)(f:F a):∃a,A a/\B a/\C a/\D a/\E a/\F a:=⟨a,r,b,c,d,e,f⟩
end
section
variable{α β:Type}{A B C D E F:α->β->Prop}{P:Prop}
theorem w5(r:∃a b,A a b)(k:∀a b,A a b->P):P:=r.elim λa r=>eS r<|k a
theorem pg(r:∃a b,A a b/\B a b)(k:∀a b,A a b->B a b->P):P:=r.elim λa r=>dn r<|k a
theorem iz(r:∃a b,A a b/\B a b/\C a b)(k:∀a b,A a b->B a b->C a b->P):P:=r.elim λa r=>sA r<|k a
theorem O0(r:∃a b,A a b/\B a b/\C a b/\D a b)(k:∀a b,A a b->B a b->C a b->D a b->P):P:=r.elim λa r=>Ja r<|k a
theorem x25(r:∃a b,A a b/\B a b/\C a b/\D a b/\E a b)(k:∀a b,A a b->B a b->C a b->D a b->E a b->P):P:=r.elim λa r=>x15 r<|k a
theorem x26(r:∃a b,A a b/\B a b/\C a b/\D a b/\E a b/\F a b)(k:∀a b,A a b->B a b->C a b->D a b->E a b->F a b->P):P:=r.elim λa r=>x16 r<|k a
theorem XI(a:α)(b:β)(r:A a b)(c:B a b):∃a b,A a b/\B a b:=⟨a,b,r,c⟩
theorem xW(a:α)(b:β)(r:A a b)(c:B a b)(d:C a b):∃a b,A a b/\B a b/\C a b:=⟨a,b,r,c,d⟩
theorem Sm(a:α)(b:β)(r:A a b)(c:B a b)(d:C a b)(e:D a b):∃a b,A a b/\B a b/\C a b/\D a b:=⟨a,b,r,c,d,e⟩
theorem y25(a:α)(b:β)(r:A a b)(c:B a b)(d:C a b)(e:D a b)(f:E a b):∃a b,A a b/\B a b/\C a b/\D a b/\E a b:=⟨a,b,r,c,d,e,f⟩
end
section
variable{α β γ:Type}{A B C D E F:α->β->γ->Prop}{P:Prop}
theorem Sn(r:∃a b c,A a b c)(k:∀a b c,A a b c->P):P:=r.elim λa r=>w5 r<|k a
theorem rF(r:∃a b c,A a b c/\B a b c)(k:∀a b c,A a b c->B a b c->P):P:=r.elim λa r=>pg r<|k a
theorem nZ(r:∃a b c,A a b c/\B a b c/\C a b c)(k:∀a b c,A a b c->B a b c->C a b c->P):P:=r.elim λa r=>iz r<|k a
theorem x34(r:∃a b c,A a b c/\B a b c/\C a b c/\D a b c)(k:∀a b c,A a b c->B a b c->C a b c->D a b c->P):P:=r.elim λa r=>O0 r<|k a
theorem XK(r:∃a b c,A a b c/\B a b c/\C a b c/\D a b c/\E a b c)(k:∀a b c,A a b c->B a b c->C a b c->D a b c->E a b c->P):P:=r.elim λa r=>x25 r<|k a
theorem x36(r:∃a b c,A a b c/\B a b c/\C a b c/\D a b c/\E a b c/\F a b c)(k:∀a b c,A a b c->B a b c->C a b c->D a b c->E a b c->F a b c->P):P:=r.elim λa r=>x26 r<|k a
theorem y31(a:α)(b:β)(c:γ)(r:A a b c):∃a b c,A a b c:=⟨a,b,c,r⟩
theorem NZ(a:α)(b:β)(c:γ)(r:A a b c)(d:B a b c):∃a b c,A a b c/\B a b c:=⟨a,b,c,r,d⟩
theorem W1(a:α)(b:β)(c:γ)(r:A a b c)(d:B a b c)(e:C a b c):∃a b c,A a b c/\B a b c/\C a b c:=⟨a,b,c,r,d,e⟩
theorem y35(a:α)(b:β)(c:γ)(r:A a b c)(d:B a b c)(e:C a b c)(f:D a b c)(g:E a b c):∃a b c,A a b c/\B a b c/\C a b c/\D a b c/\E a b c:=⟨a,b,c,r,d,e,f,g⟩
end
section
variable{α β γ δ:Type}{A B C D E F:α->β->γ->δ->Prop}{P:Prop}
theorem x41(r:∃a b c d,A a b c d)(k:∀a b c d,A a b c d->P):P:=r.elim λa r=>Sn r<|k a
theorem XJ(r:∃a b c d,A a b c d/\B a b c d)(k:∀a b c d,A a b c d->B a b c d->P):P:=r.elim λa r=>rF r<|k a
theorem OZ(r:∃a b c d,A a b c d/\B a b c d/\C a b c d)(k:∀a b c d,A a b c d->B a b c d->C a b c d->P):P:=r.elim λa r=>nZ r<|k a
theorem x44(r:∃a b c d,A a b c d/\B a b c d/\C a b c d/\D a b c d)(k:∀a b c d,A a b c d->B a b c d->C a b c d->D a b c d->P):P:=r.elim λa r=>x34 r<|k a
theorem x45(r:∃a b c d,A a b c d/\B a b c d/\C a b c d/\D a b c d/\E a b c d)(k:∀a b c d,A a b c d->B a b c d->C a b c d->D a b c d->E a b c d->P):P:=r.elim λa r=>XK r<|k a
theorem x46(r:∃a b c d,A a b c d/\B a b c d/\C a b c d/\D a b c d/\E a b c d/\F a b c d)(k:∀a b c d,A a b c d->B a b c d->C a b c d->D a b c d->E a b c d->F a b c d->P):P:=r.elim λa r=>x36 r<|k a
theorem y41(a:α)(b:β)(c:γ)(d:δ)(r:A a b c d):∃a b c d,A a b c d:=⟨a,b,c,d,r⟩
theorem y42(a:α)(b:β)(c:γ)(d:δ)(r:A a b c d)(e:B a b c d):∃a b c d,A a b c d/\B a b c d:=⟨a,b,c,d,r,e⟩
theorem XH(a:α)(b:β)(c:γ)(d:δ)(r:A a b c d)(e:B a b c d)(f:C a b c d):∃a b c d,A a b c d/\B a b c d/\C a b c d:=⟨a,b,c,d,r,e,f⟩
theorem y44(a:α)(b:β)(c:γ)(d:δ)(r:A a b c d)(e:B a b c d)(f:C a b c d)(g:D a b c d):∃a b c d,A a b c d/\B a b c d/\C a b c d/\D a b c d:=⟨a,b,c,d,r,e,f,g⟩
theorem y45(a:α)(b:β)(c:γ)(d:δ)(r:A a b c d)(e:B a b c d)(f:C a b c d)(g:D a b c d)(h:E a b c d):∃a b c d,A a b c d/\B a b c d/\C a b c d/\D a b c d/\E a b c d:=⟨a,b,c,d,r,e,f,g,h⟩
end
section
variable{α β γ δ ε ζ:Type}{A B C D E F:α->β->γ->δ->ε->ζ->Prop}{P:Prop}
theorem x61(r:∃a b c d e f,A a b c d e f)(k:∀a b c d e f,A a b c d e f->P):P:=r.elim λa r=>r.elim λb r=>x41 r<|k a b
theorem y61(a:α)(b:β)(c:γ)(d:δ)(e:ε)(f:ζ)(r:A a b c d e f):∃a b c d e f,A a b c d e f:=⟨a,b,c,d,e,f,r⟩
end
section
variable{α:Type}{M:Model}{A:bq}{Q:α->Shared->Prop}{E:Value->Shared->Prop}{s:Shared}{a b:xM α}
theorem sQ(h:au M A b Q E s):au M A (if(false=true) then a else b) Q E s:=h
theorem JU{_:Decidable c}(H:c)(h:au M A a Q E s):au M A (if c then a else b) Q E s:=by rw[if_pos H];exact h
theorem sC{_:Decidable c}(H:¬c)(h:au M A b Q E s):au M A (if c then a else b) Q E s:=by rw[if_neg H];exact h
theorem W2{_:Decidable c}(H:c->au M A a Q E s)(d:¬c->au M A b Q E s):au M A (if c then a else b) Q E s:=by
 by_cases h:c
 ·exact JU h<|H h
 ·exact sC h<|d h
theorem JT(h:au M A a Q E s):au M A (if(true=true) then a else b) Q E s:=h
end
def Aft{α c:Type}(M:Model)(A:bq)(k:α->xM c)(Q:c->Shared->Prop)(E:Value->Shared->Prop)(a:α)(s:Shared):Prop:=au M A (k a) Q E s
theorem aU{α c:Type}{M:Model}{A:bq}{m:xM α}{k:α->xM c}{Q:c->Shared->Prop}{E:Value->Shared->Prop}{s:Shared}(h:au M A m (Aft M A k Q E) E s):au M A (m>>=k) Q E s:=aI h
theorem W9:((n0+(n1+1))=((n0+1)+n1)):=ck<|fc n0 n1
theorem W8{n0:Nat}{n1:Nat}{n:Nat}(h:(n<=n1))(H:(n0=n)):(n0<=n1):=ck H▸h
theorem ar2:(((n0+1)+n1)=(n0+(n1+1))):=fc n0 n1
theorem ar3(h:(n0<=1000)):(n0<=4000):=ah h<|of_decide_eq_true<|id<|cN true
theorem ar4(h:(n0<=n1)):(n0<(n1+1)):=dY h
theorem ar5(h:(n0<n1))(H:(¬((n0+1)=n1))):((n0+1)<n1):=gZ h H
theorem ar7{n0:Nat}{n1:Nat}(h:(¬(n1<=n0))):(n0<=n1):=Nat.le_of_not_ge h
theorem ar8{n0:Nat}{n1:Nat}(h:(¬(n1<n0))):(n0<=n1):=ku h
theorem ar9(h:(n0<=32)):(n0<=40):=ah h<|of_decide_eq_true<|id<|cN true
theorem WK(h:((n0+1)=n1)):(¬((n0+1)<n1)):=h▸kr (cp n0)
theorem ace(h:((n0+1)<(n1+1))):(n0<n1):=aP h
theorem WJ(H:(0<n0))(h:(n0<=40)):(n0<=4000):=ah h<|of_decide_eq_true<|id<|cN true
theorem WI(h:(n0<=40)):(n0<=4000):=ah h<|of_decide_eq_true<|id<|cN true
theorem WE(h:(n0<n1)):(n0<(n1+1)):=dZ h
theorem WD(h:(n0<=100)):(n0<=4000):=ah h<|of_decide_eq_true<|id<|cN true
theorem WC:(((n0+1)-n0)=1):=Nat.add_sub_self_left n0 1
theorem abO{n0:Nat}{n1:Nat}{n:Nat}(h:(n=n1))(H:(n0<n)):(n0<n1):=h▸H
theorem WB(h:(n0<=4000)):(n0<=16777216):=ah h<|of_decide_eq_true<|id<|cN true
theorem WA(h:((n1+4)<n0)):((n0<(n1+4))\/((n1+4)<n0)):=Or.inr h
theorem abm:(0<(n0+2)):=a5<|eR (je 0).succ n0
theorem abk:(1<(n0+2)):=aP<|eR (je 1).succ n0
theorem abf(h:((n1+1)=n))(H:(n0<n)):(n0<=n1):=gP (motive:=λ{n}=>n0<n->n0<=n1) aP h H
theorem abc:(¬((n0+1)<=n0)):=kr<|aF n0
theorem aa9(h:((n0+(n+1))=n1)):(n0<n1):=h▸dY (a4 n0 n)
theorem aa2{n0:Nat}{n1:Nat}(h:(n0<n1)):(n0<=n1):=a5 h
theorem aaV:((0+n0)=n0):=b9 n0
theorem aaS(H:(0<n0))(h:(n0<=40)):(n0<1000):=aE h<|of_decide_eq_true<|id<|cN true
theorem aaP:(1≠0):=of_decide_eq_true<|id<|cN true
theorem aaF{n0:Nat}{n1:Nat}(h:(n1<n0)):(n0≠n1):=cv h
theorem aau(h:(¬(n0<n1)))(H:(n0<(n1+1))):(n0=n1):=xO H h
theorem aas(h:(n0<=100)):((n0+1)<=4000):=aE h<|of_decide_eq_true<|id<|cN true
theorem aar{n0:Nat}{n1:Nat}(h:(n1<n0)):(¬(n0=n1)):=cv h
theorem aaq:(n0<(n0+(n1+1))):=dY<|a4 n0 n1
theorem aam(h:(0<n0)):(0<((n0:Nat):Int)):=Sd.mpr h
theorem aal(h:(n0<2)):(n0<=4000):=ah (a5 h)<|of_decide_eq_true<|id<|cN true
theorem aak(h:(n0<=63)):(n0<=4000):=ah h<|of_decide_eq_true<|id<|cN true
theorem aai(H:(n<(n1+1)))(h:(n0=(n1-n))):(n0<=n1):=ck h▸Jx n1 n
theorem aah(h:(n1<=1)):(p0->(n1<=1)):=λa=>h
theorem aaf:((n0-0)=(n0-0)):=cN<|n0-0
theorem aae{n0:Nat}{n1:Nat}{n:Nat}(h:(n1=n))(H:(n0<n)):(n0<n1):=ck h▸H
theorem afd(h:(n0<64)):(n0<=16777216):=ah (a5 h)<|of_decide_eq_true<|id<|cN true
theorem aac(h:((n0+65)<n1)):((n0+64)<n1):=a5 h
theorem Z9(h:(n0<=1)):(n0<64):=aE h<|of_decide_eq_true<|id<|cN true
theorem afc(h:((n0+1)<=(n1+1))):(n0<=n1):=aP h
theorem NG{n:Int}(h:n.natAbs<=m): -(m:Int)<=n/\n<=m:=⟨Int.neg_le_of_neg_le<|cw (Int.natAbs_neg n▸Int.le_natAbs)<|fG.mpr h,cw Int.le_natAbs<|fG.mpr h⟩
theorem Z7{n0:Nat}{n1:Nat}{n:Nat}(H:(n0<=(n+n1)))(a:(n1<=n0)):(((n0-n1)+((n+n1)-n0))=n):=by obtain⟨k,rfl⟩:=Cy a;have h:=Au<|ug n n1▸H;rw[Cz,ug n n1,Nat.add_sub_add_left];exact Nat.add_sub_cancel' h
theorem Z5(h:(n0<=0)):(n0=0):=jN h
theorem Z4(h:(0<=i))(H:(i<32)):((OA i)<32):=(uh h).mpr H
theorem ae7(h:((n1+1)=n))(H:(n0<n)):(n0<=(n1+1)):=gP (motive:=λ{n}=>n0<n->n0<=n1+1) a5 h H
theorem aeU(H:(1=n0))(h:(1<n0)):False:=gP (motive:=λ{n0}=>1<n0->False) (λh=>b0 1 h) H h
theorem acg{n0:Nat}{n1:Nat}{n:Nat}(H:(n0=n1))(h:(n0<n))(a:(n1=n)):False:=gP (motive:=λ{n0}=>n0<n->False) (λh=>gP (motive:=λ{n1}=>n1<n->False) (λh=>b0 n h) (ck a) h) (ck H) h
theorem acf{n0:Nat}{n1:Nat}(h:(n0<n1))(H:(n0=n1)):False:=gP (motive:=λ{n0}=>n0<n1->False) (λh=>b0 n1 h) (ck H) h
theorem acb(h:(n0<64)):(n0<=4000):=ah (a5 h)<|of_decide_eq_true<|id<|cN true
theorem ab2(h:(n1=(4+(2*n))))(H:(n0=n1)):(n0<=(n1+1)):=ck H▸ck h▸a5 (cp<|4+2*n)
theorem abZ(h:((n0+1)<=n1))(H:(n0=n1)):False:=gP (motive:=λ{n0}=>n0+1<=n1->False) (λh=>b0 n1 h) (ck H) h
theorem abT(h:(n1=(n+1)))(H:(n=(4+(2*n0)))):((4+(2*n0))<=n1):=ck h▸ck H▸a5 (cp<|4+2*n0)
theorem abS(a:(n1<=30))(h:(n0=(n+1)))(H:(n=(4+(2*n1))))(b:(N=(n1+1))):(3<n0):=ck h▸ck H▸dZ (a4 (je 3)<|2*n1)
theorem abQ(h:(n0<=30)):((n0+1)<=1000):=aE h<|of_decide_eq_true<|id<|cN true
theorem abN(H:(0<n0))(h:(n0<=8)):((Int.natAbs ((n0:Nat):Int))<1073741824):=aE h<|of_decide_eq_true<|id<|cN true
theorem abM(h:(n0<8)):(n0<=4000):=ah (a5 h)<|of_decide_eq_true<|id<|cN true
theorem abz(h:(n0=(n1+1))):(0<n0):=ck h▸aP (eR (je 0).succ n1)
theorem abx(H:(n0=n1))(h:((n0+1)<=n1)):False:=gP (motive:=λ{n0}=>n0+1<=n1->False) (λh=>b0 n1 h) (ck H) h
theorem abt(H:(n=n0))(h:(n0=0)):(n0<=n1):=gP (motive:=λ{n0}=>n0=0->n0<=n1) (λh=>ck h▸aP (u7 n1)) H h
theorem abq(h:(n0=n1))(H:(n1=1)):(n0<=1):=ck h▸ck H▸aP (cp 1)
theorem abp(h:(n0=n1))(H:(n1=1)):(0<n0):=ck h▸ck H▸aP (cp<|je 0)
theorem abd(h:(n0<=67)):((n0+1)<=(16777216+1)):=aE h<|of_decide_eq_true<|id<|cN true
theorem aba(h:(n0<64))(H:(n1=n0))(a:(n=n0)):(n0<=16777216):=ah (a5 h)<|of_decide_eq_true<|id<|cN true
theorem aa0{n0:Nat}{n1:Nat}{N:Nat}{n:Nat}{c:Nat}(h:(N<=n))(H:(n0=N))(a:(n=n1))(b:(c=n)):(n0<=n1):=ck H▸a▸gP (motive:=λ{n}=>N<=n->N<=n) (λh=>h) b h
theorem aaZ{n0:Nat}{n1:Nat}{b:Nat}{n:Nat}{N:Nat}{a:Nat}{f:Nat}(h:(n<=(N+a)))(H:(n1=N))(c:(b=a))(d:(n=n0))(e:(f=n)):(n0<=(n1+b)):=d▸ck H▸ck c▸gP (motive:=λ{n}=>n<=N+a->n<=N+a) (λh=>h) e h
theorem aaY{n0:Nat}{n1:Nat}{N:Nat}{n:Nat}{c:Nat}(H:(n0=N))(a:(n=n1))(b:(c=n))(h:(N<=n)):(n0<=n1):=ck H▸a▸gP (motive:=λ{n}=>N<=n->N<=n) (λh=>h) b h
theorem aaX{n0:Nat}{n1:Nat}{n:Nat}{N:Nat}(H:(n=N))(a:(n0=n))(h:(n<=n1)):(n0<=n1):=ck a▸gP (motive:=λ{n}=>n<=n1->n<=n1) (λh=>h) (ck H) h
theorem aaW{n0:Nat}{n1:Nat}{N:Nat}{n:Nat}(H:(n1=N))(h:(n=n1))(a:(n0<n)):(n0<n1):=gP (motive:=λ{n1}=>n=n1->n0<n1) (λh=>h▸a) (ck H) h
theorem aaJ(h:(n=(n1+1)))(H:(n0<n)):(n0<=n1):=gP (motive:=λ{n}=>n0<n->n0<=n1) aP (ck h) H
theorem aaH(h:(n0<=63)):(n0<64):=aE h<|of_decide_eq_true<|id<|cN true
theorem aaD(h:(n0<=32)):(n0<4096):=aE h<|of_decide_eq_true<|id<|cN true
theorem WG(h:(n0<(n1+1)))(H:(¬(n0=n1))):(n0<n1):=gZ (aP h) H
theorem Wz(h:((n1+4)<n0)):((n0<(n1+3))\/((n1+3)<n0)):=.inr<|NT h
theorem Wy(h:((n1+4)<n0)):((n0<n1)\/(n1<n0)):=.inr<|aE (a4 n1 4) h
theorem Wx(h:((n1+4)<n0)):((n0<(n1+1))\/((n1+1)<n0)):=.inr<|aE (aV (by decide) n1) h
theorem Ww(h:((n+4)<n1))(H:(n0<n)):((n0<n1)\/(n1<n0)):=.inl<|n6 H<|aE (a4 _ 4) h
theorem abu(h:(n1<=1000)):((min n0 n1)<=4000):=ah (dt _ _)<|ah h<|by decide
theorem abj(H:(n0≠(n1+1)))(a:(¬(n0<=n1))):(¬(n0<=(n1+1))):=λh=>a<|aP<|gZ h H
theorem afe(h:((n0+(n1+1))=n)):(((n0+1)+n1)=n):=(fc n0 n1).trans h
theorem aaK(h:(4<=n0)):(1≠n0):=bN<|aY (by decide) h
theorem aaz(H:(n1<=1000))(h:(n0<=1000)):((min n0 n1)<=4000):=ah (gi _ _)<|ah h<|by decide
theorem aat(h:(n0<n1))(H:(¬((n0+1)<n1))):((n0+1)=n1):=cX h<|ku H
theorem aap(h:(n0<((n1+1)+n))):(n0<(n1+(n+1))):=aY h<|dK<|fc n1 n
theorem aao(h:(n1<=30))(H:((n0+n)<=n1)):(n0<=100):=ah (ah (a4 _ _) H)<|ah h<|by decide
theorem aan(h:(n1<=30))(H:((n+n0)<=n1)):(n0<=100):=ah (ah (eR _ _) H)<|ah h<|by decide
theorem aaj(h:(n1<=40))(H:((n0+1)<n1)):((n0+1)<=4000):=ah (a5 H)<|ah h<|by decide
theorem aag(h:((n1+n)=0))(H:((n1=n0)/\p)):(n0=0):=H.1.symm.trans (Nat.eq_zero_of_add_eq_zero h).1
theorem aad(h:((n0+65)<n1)):(((n0+1)+8)<n1):=aE (aV (show 9<=65 by decide) n0) h
theorem aab{n0:Nat}{n1:Nat}{n:Nat}{N:Nat}{a:Nat}(h:((min n1 n)<=a))(H:((n0+a)<N)):((n0+(min n1 n))<N):=aE (aV h n0) H
theorem aaa(h:(((n0+1)+a)<N))(H:(n<=a)):(((n0+1)+(min n1 n))<N):=aE (aV (ah (dt _ _) H) _) h
theorem Z8(h:((n0+64)<n))(H:(n1<=8)):(((n0+(4*n1))+4)<n):=aE (fq (aV (fE 4 H) n0) 4)<|aE (aV (show 36<=64 by decide) n0) h
theorem Z6{n0:Nat}{n1:Nat}{n:Nat}(h:(n0<(min n1 n))):(n0<n1):=aY h<|gi _ _
theorem afb(h:(n<=n1))(H:(n0=(n+N)))(a:(N<=1)):(n0<=(n1+1)):=H▸iK h a
theorem afa(h:(n0<=3)):((n0+2)<=4000):=ah (fq h 2) (by decide)
theorem ae9(h:((n0=0)\/((n0=1)\/(n0=2)))):((n0+2)<=4):=by rcases h with rfl|rfl|rfl<;>decide
theorem ae8(h:((n0=0)\/((n0=1)\/(n0=2)))):(n0<=4):=by rcases h with rfl|rfl|rfl<;>decide
theorem ae6(H:(n0≠0)):(¬(n0<=0)):=λh=>H<|jN h
theorem ae5(h:(n0<n1))(H:(n1<=40)):((n0+1)<=4000):=ah h<|ah H<|by decide
theorem ae4(h:(n0<n))(H:(n1<=1000))(a:(n<=40)):((n0<=4000)/\((n1+1)<=4000)):=⟨ah (a5 h)<|ah a<|by decide,ah (iR H)<|by decide⟩
theorem ae3(h:(n0<n))(H:((n+1)<=n1)):(n0<=n1):=a5<|n6 h H
theorem ae2{n0:Nat}{n1:Nat}(h:(n0<=n1))(H:(¬(n0<n1))):(n0=n1):=cX h<|ku H
theorem ae1(h:(n1<=(N+1)))(H:((n0+(N+1))<=n)):((n0+n1)<=n):=ah (aV h n0) H
theorem aeZ(h:(n1<=1000))(H:(n0<=n1)):(n0<=4000):=ah H<|ah h<|by decide
theorem aeY(h:(n0<(n1+1))):((min n0<|n1+1)=n0):=ei<|a5 h
theorem aeX(h:(n1<=40))(H:(n0<n1)):(n0<=4000):=ah (a5 H)<|ah h<|by decide
theorem aeW(h:(4<=n0)):(n0≠1):=cv<|aY (by decide) h
theorem aeV(h:(4<=n0)):(n0≠2):=cv<|aY (by decide) h
theorem ach(h:(3<n0)):(n0≠1):=cv<|n6 (by decide) h
theorem acd(h:(n0=0))(H:(4<=n0)):False:=absurd (h▸H) (by decide)
theorem aca{n0:Nat}{n1:Nat}{n:Nat}(h:(n<=n1))(H:(n0<n)):(n0<=n1):=a5<|aY H h
theorem ab9{n0:Nat}{n1:Nat}{n:Nat}:((min n0<|n1-n)<=n1):=ah (dt _ _)<|Jx _ _
theorem ab8(h:((n0+n)<=n1)):(((n0+1)+0)<=(n1+1)):=iR<|ah (a4 _ _) h
theorem ab7(h:((n+n0)<=n1)):(n0<=(n1+1)):=dZ<|ah (eR _ _) h
theorem ab6(h:(n1<=30))(H:((n0+n)<=n1)):((n0+1)<=40):=ah (iR<|ah (ah (a4 _ _) H) h) (by decide)
theorem ab5(h:(n1<=30))(H:(n0<=n1)):(n0<=1000):=ah H<|ah h<|by decide
theorem ab4(h:(n1<=30))(H:((n+n0)<=n1)):(n0<=1000):=ah (ah (eR _ _) H)<|ah h<|by decide
theorem ab3{p0:Prop}(a:(n1=(n+1)))(h:(N<n))(H:((N+1)=(n+1))):p0:=absurd (jf H)<|bN h
theorem ab1(h:(n0=(4+(2*n1)))):(2≠n0):=bN<|h▸aY (by decide) (a4 4 _)
theorem ab0(h:(n0=(4+(2*n1)))):(2≠(n0+1)):=bN<|dX<|h▸aY (by decide) (a4 4 _)
theorem abY{n0:Nat}{n1:Nat}{n:Nat}{N:Nat}(h:((n0+n1)<=(min N n))):((n0+n1)<=n):=ah h<|dt _ _
theorem abX:((0+(1*n0))=n0):=(b9 _).trans<|Nat.one_mul _
theorem abI:((0+(1*(n0+1)))=(n0+1)):=(b9 _).trans<|Nat.one_mul _
theorem abW(H:(n0<2)):((n0=0)\/(n0=(0+1))):=(lT n0 1).elim (λh=>.inl<|Nat.lt_one_iff.mp h) λh=>.inr<|cX (aP H) h
theorem abV(H:(n=(n1+1)))(h:(n0<(0+(n1+1)))):(n0<(n1+1)):=aY h<|dK<|b9 _
theorem abU(h:(n0<=30))(H:(n1=(n0+1))):(((n0+1)+5)<44):=aE (fq h 6) (by decide)
theorem abR(h:(n1<=30))(H:((n0+n)<=n1)):(n0<=30):=ah (ah (a4 _ _) H) h
theorem abP(h:(n0<=30)):((n0+1)<64):=aE (iR h) (by decide)
theorem abL(h:(n1<8))(H:(n0<=(1+(2+n1)))):(n0<=10):=ah H<|aV (aV (aP h) 2) 1
theorem abK(h:(n0<8)):((2+n0)<=4000):=ah (aV (a5 h) 2) (by decide)
theorem abJ(h:(n<=1000))(H:(n0<=n))(a:(n1<=n)):((n0+n1)<=4000):=ah (iK H a)<|ah (iK h h)<|by decide
theorem abH(a:(0<n1))(h:(n1<=40))(H:((n0+1)<n1)):((n0+1)<=4000):=ah (a5 H)<|ah h<|by decide
theorem abG(H:(0<n0))(h:(n0<=40)):((n0+1)<49):=aE (iR h) (by decide)
theorem abF(h:((n1+n0)<=n1)):(n0=0):=jN<|Au h
theorem abE(a:(0<n1))(h:(n1<=40))(H:((n0+1)<=n1)):(n0<=4000):=ah (ct H)<|ah h<|by decide
theorem abD(a:(0<n1))(h:(n1<=40))(H:((n0+1)<=n1)):((n0+1)<=4000):=ah H<|ah h<|by decide
theorem abC(h:(n0<=64)):(¬(n0>16777216)):=kr<|ah h<|by decide
theorem abB(h:((n+n1)<=31))(H:(n0=n)):(((n0+n1)*2)<=63):=H▸ah (Nat.mul_le_mul_right 2 h) (by decide)
theorem abA(h:(n1=n0)):(n0<=((n1+n)*2)):=h▸ah (a4 _ _) (Nat.le_mul_of_pos_right _<|by decide)
theorem aby(h:(n1<=12))(H:(n0<=12)):((n0+n1)<=31):=ah (iK H h) (by decide)
theorem abw{i:Int}{I:Int}(h:(i<I))(H:(I<i)):(i=I):=absurd (C4 h H)<|Int.lt_irrefl _
theorem abv(h:((n1-n0)=0))(H:(n0<=n1)):(n0=n1):=cX H<|Nat.le_of_sub_eq_zero h
theorem abr(h:(n0<=1))(a:(n1=n0))(H:(¬(n0=0))):(n0=1):=cX h<|sL H
theorem abo(h:(n0<=1))(H:(¬(n0=0))):(n0=1):=cX h<|sL H
theorem abn(h:(n1<=1))(H:(n0<n1)):(n0<=1):=a5<|aY H h
theorem abl(h:(n1<=1))(H:(n0<n1)):(n0=0):=Nat.lt_one_iff.mp<|aY H h
theorem afW(h:((-4000)<=i))(H:(i<=4000)):((-(2^63))<=i):=cw (by decide) h
theorem afV(H:((-4000)<=i))(h:(i<=4000)):(i<(2^63)):=jl h (by decide)
theorem abi(h:((n0+65)<n1)):((n0+8)<n1):=aE (aV (show 8<=65 by decide) n0) h
theorem abh(h:(((n0+(100*n))+100)<n1)):((n0+65)<n1):=aE (iK (a4 n0<|100*n) (show 65<=100 by decide)) h
theorem abe{n0:Nat}{n1:Nat}{n:Nat}:((min (n0-n1)<|n-n1)<=n):=ah (dt _ _)<|Jx _ _
theorem abb(h:(n1<64))(H:(n0=n1)):(n0<=16777216):=H▸ah (a5 h) (by decide)
theorem aa8(h:(((n0+(4*n))+4)<n1)):(n0<n1):=aE (ah (a4 n0<|4*n)<|a4 _ 4) h
theorem afU(h:(((n0+(4*(max n1 N)))+4)<n))(H:(n1<=(max n1 N))):(((n0+(4*n1))+4)<n):=aE (fq (aV (fE 4 H) n0) 4) h
theorem afT(h:(((n0+(4*(max N n1)))+4)<n))(H:(n1<=(max N n1))):(((n0+(4*n1))+4)<n):=aE (fq (aV (fE 4 H) n0) 4) h
theorem aa7(h:((n0+64)<N))(H:(n1<=8))(a:((min n1 n)<=n1)):((n0+(min n1 n))<N):=aE (aV (ah a<|ah H<|by decide) n0) h
theorem aa6(h:(n0<=n1)):((0+n0)<=n1):=ah (dK<|b9 _) h
theorem aa5(h:(n0<(0+n1))):(n0<n1):=aY h<|dK<|b9 _
theorem aa4(h:(((n0+(8*(n1+1)))+8)<n)):(((n0+(8*n1))+10)<n):=aE (aV (show 10<=16 by decide)<|n0+8*n1) h
theorem aa3(h:(((n0+(100*(n1+1)))+100)<n)):(((n0+(100*n1))+110)<n):=aE (aV (show 110<=200 by decide)<|n0+100*n1) h
theorem aa1(h:(((n0+(8*n))+10)<n1)):(n0<n1):=aE (ah (a4 n0<|8*n)<|a4 _ 10) h
theorem aaU{i:Int}(h:(i<=1000)):(i<=1000000):=cw h (by decide)
theorem aaT(h:(n1<=4000))(H:(n0=n1)):(((n0:Nat):Int)<(2^63)):=jl (fG.mpr<|H▸h) (by decide)
theorem aaR(h:((-((4000:Nat):Int))<=i)):((-(2^63))<=i):=cw (by decide) h
theorem aaQ(h:(i<=((4000:Nat):Int)))(H:((-(2^63))<=i)):(i<(2^63)):=jl h (by decide)
theorem aaO(H:(0<=i))(h:(i<=((4000:Nat):Int))):(i<(2^63)):=jl h (by decide)
theorem aaN(h:(n1=n))(H:(((n0:Nat):Int)<((n:Nat):Int))):(n0<n1):=h▸lU.mp H
theorem aaM(h:(n1<=4000))(H:(n=n1))(a:(n0<n)):(((n0:Nat):Int)<((2^63)-1)):=Int.lt_of_lt_of_le (lU.mpr a)<|cw (fG.mpr<|H▸h)<|by decide
theorem aaL(h:(n1<=n0)):(0<((n0+1)-n1)):=Nat.sub_pos_of_lt<|dY h
theorem aaI(h:((n0+(n1+1))<=(n+1))):(((n0+1)+n1)<=(n+1)):=ah (dK<|fc n0 n1) h
theorem aaG(h:((0<=i)/\(i<32))):((OA i)<32):=(uh h.1).mpr h.2
theorem aaE(h:((0<=i)/\(i<32))):((((OA i):Nat):Int)=i):=i3 h.1
theorem aaC(h:(((n0+(100*n))+100)<n1)):((n0+70)<n1):=aE (iK (a4 n0<|100*n) (show 70<=100 by decide)) h
theorem aaB{p0:Prop}(h:((n1+2)<n1)):p0:=absurd h<|kr<|a4 _ _
theorem aay(h:((n1+4)<n0)):(¬(n0<n1)):=kr<|a5<|aE (a4 _ 4) h
theorem aax(h:((n0+70)<n1)):((((n0+1)+1)+64)<n1):=aE (aV (show 66<=70 by decide) n0) h
theorem aaw(h:((n0+4)<n1)):((n0<n1)\/(n1<n0)):=.inl<|aE (a4 _ 4) h
theorem aav(h:((n0+4)<n1)):(((n0+1)<n1)\/(n1<(n0+1))):=.inl<|aE (aV (by decide) n0) h
theorem arA{a d n:Nat}(h:a<=n)(H:n<=a+d):a+(d-(a+d-n))=n:=(Nat.add_sub_assoc (Nat.sub_le_iff_le_add.mpr<|ug a d▸aV h d) a).symm.trans<|Nat.sub_sub_self H
theorem arB{p d v:Nat}(a:v<=p)(h:p<=v+d)(H:d<=p):p-d+(v+d-p)=v:=Z7 h H
set_option genCtorIdx false in
inductive SV where
 |none
 |bool (b:Bool)
 |int (i:Int)
 |str (s:Str)
 |raw (v:Value)
 |tup (xs:List SV)
 |lst (xs:List SV)
 |fW (ks vs:List SV)
 |cY (xs:List Int)
 |inst (c:Addr) (as:List Nat) (vs:List SV)
 |rh (f:Addr) (self:SV)
 |Jg (k:Nat) (cs:List Nat)
 |h (k:Nat)
 deriving Inhabited
noncomputable def SV.ctorIdx(x:SV):Nat:=@SV.casesOn (λz=>Nat) x (nat_lit 0) (λz=>nat_lit 1) (λz=>nat_lit 2) (λz=>nat_lit 3) (λz=>nat_lit 4) (λz=>nat_lit 5) (λz=>nat_lit 6) (λz z=>nat_lit 7) (λz=>nat_lit 8) (λz z z=>nat_lit 9) (λz z=>nat_lit 10) (λz z=>nat_lit 11) λz=>nat_lit 12
set_option genCtorIdx false in
inductive SO where
 |list (xs:List SV)
 |dict (ks vs:List SV)
 |inst (c:Addr) (as:List Nat) (vs:List SV)
 |cell (v:Option SV)
 |gone
 deriving Inhabited
noncomputable def SO.ctorIdx(x:SO):Nat:=@SO.casesOn (λz=>Nat) x (λz=>nat_lit 0) (λz z=>nat_lit 1) (λz z z=>nat_lit 2) (λz=>nat_lit 3)<|nat_lit 4
set_option genCtorIdx false in
inductive LV where
 |un
 |val (v:SV)
 |cell (k:Nat)
 deriving Inhabited
noncomputable def LV.ctorIdx(x:LV):Nat:=@LV.casesOn (λz=>Nat) x (nat_lit 0) (λz=>nat_lit 1) λz=>nat_lit 2
set_option genCtorIdx false in
structure ba where
 loc:List LV
 st:List SO
 deriving Inhabited
set_option genCtorIdx true in
inductive BI where
 |len|list|tuple|sorted|ja|cY|int|max|min|j7|qI
 deriving DecidableEq
set_option genCtorIdx true in
inductive IK where
 |over|fH|m8|enum|zip
 deriving DecidableEq
set_option genCtorIdx true in
inductive OP where
 |add|sub|mul|fdiv|mod|pow|bor
 deriving DecidableEq
set_option genCtorIdx true in
inductive CM where
 |eq|ne|lt|le|gt|ge|is|jt|isIn|jr
 deriving DecidableEq
set_option genCtorIdx false in
inductive TN where
 |one (i:Nat)
 |many (is:List Nat)
noncomputable def TN.ctorIdx(x:TN):Nat:=@TN.casesOn (λz=>Nat) x (λz=>nat_lit 0) λz=>nat_lit 1
set_option genCtorIdx false in
inductive E where
 |none
 |bool (b:Bool)
 |int (i:Int)
 |str (s:Str)
 |glob (v:Value)
 |xD
 |loc (i:Nat)
 |tup (es:List E)
 |list (m:Bool) (es:List E)
 |fM (m:Bool)
 |B6 (k v:Str)
 |oR (i:Nat)
 |attr (e:E) (a:Nat)
 |sub (e i:E)
 |i6 (e i:E)
 |i5 (e i:E)
 |vJ (e:E)
 |bin (op:OP) (l r:E)
 |and (es:List E)
 |or (es:List E)
 |not (e:E)
 |neg (e:E)
 |cmp (op:CM) (l r:E)
 |Ae (o1 o2:CM) (l m r:E)
 |ite (c t e:E)
 |bi (b:BI) (es:List E)
 |rep (m:Bool) (e n:E)
 |call (f:E) (es:List E)
 |bj (o:E) (a:Nat) (es:List E)
 |comp (m:Bool) (fr:List (Option Nat)) (elt:E) (t:TN) (ik:IK) (its:List E) (cs:List E)
 |Cd (fr:List (Option Nat)) (elt:E) (t:TN) (ik:IK) (its:List E) (t2:TN) (e2:E)
 |yu (fr:List (Option Nat)) (k v:E) (t:TN) (e:E)
 |bad
 deriving Inhabited
noncomputable def E.ctorIdx(x:E):Nat:=@E.casesOn (λz=>Nat) x (nat_lit 0) (λz=>nat_lit 1) (λz=>nat_lit 2) (λz=>nat_lit 3) (λz=>nat_lit 4) (nat_lit 5) (λz=>nat_lit 6) (λz=>nat_lit 7) (λz z=>nat_lit 8) (λz=>nat_lit 9) (λz z=>nat_lit 10) (λz=>nat_lit 11) (λz z=>nat_lit 12) (λz z=>nat_lit 13) (λz z=>nat_lit 14) (λz z=>nat_lit 15) (λz=>nat_lit 16) (λz z z=>nat_lit 17) (λz=>nat_lit 18) (λz=>nat_lit 19) (λz=>nat_lit 20) (λz=>nat_lit 21) (λz z z=>nat_lit 22) (λz z z z z=>nat_lit 23) (λz z z=>nat_lit 24) (λz z=>nat_lit 25) (λz z z=>nat_lit 26) (λz z=>nat_lit 27) (λz z z=>nat_lit 28) (λz z z z z z z=>nat_lit 29) (λz z z z z z z=>nat_lit 30) (λz z z z z=>nat_lit 31)<|nat_lit 32
set_option genCtorIdx false in
inductive T where
 |nm (i:Nat)
 |at (o:E) (a:Nat)
 |ix (o i:E)
 |tp (ts:List T)
 deriving Inhabited
set_option genCtorIdx false in
inductive S where
 |expr (e:E)
 |asg (t:T) (e:E)
 |ifs (c:E) (a b:List S)
 |for (t:TN) (ik:IK) (its:List E) (body:List S)
 |tR (c:E) (body:List S)
 |ret (e:E)
 |defn (i:Nat) (k:Nat) (cs:List Nat)
 |bad
 deriving Inhabited
set_option genCtorIdx false in
inductive FL where
 |next
 |ret (v:SV)
 deriving Inhabited
noncomputable def FL.ctorIdx(x:FL):Nat:=@FL.casesOn (λz=>Nat) x (nat_lit 0) λz=>nat_lit 1
noncomputable abbrev bO:E:=.loc 0
noncomputable abbrev bz:E:=.loc 1
noncomputable abbrev cU:E:=.loc 2
noncomputable abbrev dm:E:=.loc 3
noncomputable abbrev eA:E:=.loc 4
noncomputable abbrev g9:E:=.loc 5
noncomputable abbrev iS:E:=.loc 6
noncomputable abbrev ou:E:=.loc 7
noncomputable abbrev xr:E:=.loc 8
noncomputable abbrev De:E:=.loc 9
noncomputable abbrev yY:E:=.loc 10
noncomputable abbrev vm:E:=.loc 11
noncomputable abbrev qz:E:=.loc 12
noncomputable abbrev OW:E:=.loc 13
noncomputable abbrev agi:E:=.loc 14
noncomputable abbrev agh:E:=.loc 15
noncomputable abbrev agg:E:=.loc 16
noncomputable abbrev agf:E:=.loc 17
noncomputable abbrev age:E:=.loc 18
noncomputable abbrev agd:E:=.loc 19
noncomputable abbrev cy(e:E)(k:Int):E:=.sub e<|.int k
noncomputable abbrev TJ(a:Addr):E:=.glob<|.ref a
noncomputable abbrev dy(a:Addr)(es:List E):E:=.call (.glob<|.ref a) es
noncomputable abbrev fh(a:Addr):SV:=.raw<|.ref a
noncomputable abbrev et(i:Nat)(e:E):S:=.asg (.nm i) e
noncomputable abbrev gG(a b:E):E:=.cmp .eq a b
noncomputable abbrev eM(n:Nat):E:=.attr bO n
noncomputable abbrev jm(e:E):E:=.bi .len [e]
noncomputable abbrev zo0:TN:=.one 0
noncomputable abbrev qy:TN:=.one 1
noncomputable abbrev JO:TN:=.one 2
noncomputable abbrev CB:TN:=.one 3
noncomputable abbrev OV:TN:=.one 4
noncomputable abbrev Sl:TN:=.one 5
noncomputable abbrev CA:TN:=.one 6
noncomputable abbrev zo7:TN:=.one 7
noncomputable abbrev OU:TN:=.one 8
noncomputable abbrev zo9:TN:=.one 9
noncomputable abbrev agc:TN:=.one 10
noncomputable abbrev agb:TN:=.one 11
noncomputable abbrev JP:TN:=.one 12
noncomputable abbrev AQ:TN:=.one 13
noncomputable abbrev aga:TN:=.one 14
noncomputable abbrev af9:TN:=.one 15
noncomputable def gd{a:Type}(c:Bool)(x:a):Option a:=match c with|true=>some x|false=>none
noncomputable def one{a:Type}:List a->Option a|[x]=>some x|_=>none
noncomputable def xo{a:Type}:List a->Option (a×a)|[x,y]=>some (x,y)|_=>none
noncomputable def Sj{a:Type}:List a->Option (a×a×a)|[x,y,z]=>some (x,y,z)|_=>none
noncomputable def jy:SV->Option Int|.int i=>some i|_=>none
noncomputable def wM:SV->Option (List SV)|.tup xs=>some xs|_=>none
noncomputable def Ti:SV->Option (List SV)|.lst xs=>some xs|_=>none
noncomputable def qO:SV->Option (List Int)|.cY xs=>some xs|_=>none
noncomputable def Tg:SV->Option Str|.str s=>some s|_=>none
noncomputable def Rv:SV->Option Nat|.h k=>some k|_=>none
noncomputable def ft:SO->Option (List SV)|.list xs=>some xs|_=>none
noncomputable def m1:SO->Option (List SV×List SV)|.dict k vs=>some (k,vs)|_=>none
noncomputable def jT:SO->Option (Addr×List Nat×List SV)|.inst c a vs=>some (c,a,vs)|_=>none
noncomputable def m2:SO->Option (Option SV)|.cell v=>some v|_=>none
noncomputable def hH(a b:Str):Bool:=a.cps.toList==b.cps.toList
noncomputable def eu(x:Str):List (Str×cj)->Nat->Option (Nat×cj)
 |[],_=>none
 |p::r,i=>match hH p.1 x with
  |true=>some (i,p.2)
  |false=>eu x r<|i+1
mutual
noncomputable def ls:SV->Option PyData
 |.none=>some .none
 |.bool b=>some<|.bool b
 |.int i=>some<|.int i
 |.str s=>gd (c6 s)<|.str s
 |.tup xs=>(eQ xs).map .tuple
 |.lst xs=>(eQ xs).map .list
 |_=>none
noncomputable def eQ:List SV->Option (List PyData)
 |[]=>some []
 |x::xs=>(ls x).bind λd=>(eQ xs).map λs=>d::s
end
noncomputable abbrev b7:Nat:=8
mutual
noncomputable def eF:PyData->Bool
 |.int _=>true
 |.str s=>c6 s
 |.tuple xs=>qJ xs
 |_=>false
noncomputable def qJ:List PyData->Bool
 |[]=>true
 |x::xs=>eF x&&qJ xs
end
noncomputable def fQ:PyData->Nat
 |.int _=>0
 |.str _=>1
 |_=>2
def cF(k:SV)(a:List SV):Option (Option Nat):=(ls k).bind λd=>(eQ a).bind λs=>
 gd (eF d&&s.all (λx=>eF x&&fQ x==fQ d)&&decide (d.depth<=b7)) (s.findIdx? λx=>bc x d)
def qx(k:SV)(xs:List SV):Option (Option Nat):=(ls k).bind λd=>(eQ xs).bind λs=>gd (decide<|d.depth<=b7)<|s.findIdx? λx=>bc x d
noncomputable def rU(xs:List Int):Bool:=xs.all (λi=>decide (0<=i)&&decide (i<32))&&decide (xs.length<=12)
noncomputable abbrev dI:Nat:=4000
noncomputable def SV.free:SV->Bool
 |.h _=>false
 |.Jg _ _=>false
 |.tup xs=>go xs
 |.rh _ s=>s.free
 |_=>true
where go:List SV->Bool
 |[]=>true
 |x::xs=>x.free&&go xs
noncomputable def bS(vs:List SV):Bool:=SV.free.go vs
def rO{a:Type}(xs:List a)(i:Int):Option a:=(gd (decide<|i.natAbs<=dI) ()).bind λz=>if 0<=i then xs[i.toNat]? else if -(xs.length:Int)<=i then xs[(i+xs.length).toNat]? else none
noncomputable def du(n:Nat)(i:Int):Nat:=if 0<=i then min i.toNat n else(i+n).toNat
noncomputable def kZ(i:Int):List Int->List Int
 |[]=>[i]
 |x::xs=>if i<x then i::x::xs else if i=x then x::xs else x::kZ i xs
def fi(xs:List Int):List Int:=xs.foldr kZ []
noncomputable def hK(i:Int):List Int->List Int
 |[]=>[i]
 |x::xs=>if i<=x then i::x::xs else x::hK i xs
def gR(xs:List Int):List Int:=xs.foldr hK []
noncomputable def iL:List SV->Option (List Int)
 |[]=>some []
 |x::xs=>(jy x).bind λi=>(iL xs).map (i::·)
def il(st:List SO):SV->Option (List SV)
 |.lst xs=>some xs
 |.h k=>st[k]?.bind ft
 |_=>none
def hU(st:List SO):SV->Option (List SV×List SV)
 |.fW s vs=>some (s,vs)
 |.h k=>st[k]?.bind m1
 |_=>none
def oN(st:List SO):SV->Option (Addr×List Nat×List SV)
 |.inst c a vs=>some (c,a,vs)
 |.h k=>st[k]?.bind jT
 |_=>none
noncomputable def gq(a:Nat):List Nat->Nat->Option Nat
 |[],_=>none
 |x::xs,i=>if x==a then some i else gq a xs (i+1)
def s7:SV->Option (List SV)
 |.tup xs=>some xs
 |.lst xs=>some xs
 |.cY xs=>gd (decide<|xs.length<=1)<|xs.map .int
 |.fW k _=>(iL k).map λz=>k
 |_=>none
def jX:IK->List SV->Option (List SV)
 |.over,vs=>(one vs).bind s7
 |.fH,vs=>(one vs).bind λv=>(jy v).bind λn=>gd (decide<|n.natAbs<=dI)<|(ak n.toNat).map λ(i:Nat)=>SV.int (i:Int)
 |.m8,vs=>(Sj vs).bind λv=>(jy v.1).bind λa=>(jy v.2.1).bind λb=>(jy v.2.2).bind λc=>
   gd (c== -1&&decide (a.natAbs<=dI)&&decide (b.natAbs<=dI)) ((ak (a-b).toNat).map λ(i:Nat)=>SV.int<|a-(i:Int))
 |.enum,vs=>(one vs).bind λv=>(Ti v).map λxs=>xs.zipIdx.map λp=>.tup [.int p.2,p.1]
 |.zip,vs=>(xo vs).bind λv=>(wM v.1).bind λxs=>(wM v.2).bind λy=>gd (xs.isEmpty&&y.isEmpty) []
noncomputable def U0:TN->Bool
 |.many is=>is.length==2
 |_=>false
noncomputable def Lu:IK->String
 |.over=>""|.fH=>"range"|.m8=>"range"|.enum=>"enumerate"|.zip=>"zip"
noncomputable def nIK:IK->Nat
 |.over=>0|.fH=>1|.m8=>3|.enum=>1|.zip=>2
noncomputable def uQ:IK->Bool
 |.enum=>true
 |.zip=>true
 |_=>false
def oJ(ik:IK)(t:TN):Bool:=!uQ ik||U0 t
def gu(i:Nat)(v:SV)(σ:ba):Option ba:=σ.loc[i]?.bind λ
 |.cell k=>(σ.st[k]?.bind m2).map λz=>{σ with st:=σ.st.set k<|.cell<|some v}
 |_=>some {σ with loc:=σ.loc.set i<|.val v}
noncomputable def m5:List Nat->List SV->ba->Option ba
 |[],[],σ=>some σ
 |i::is,v::vs,σ=>(gu i v σ).bind<|m5 is vs
 |_,_,_=>none
def cS(t:TN)(v:SV)(σ:ba):Option ba:=match t with
 |.one i=>gu i v σ
 |.many is=>(wM v).bind λx=>m5 is x σ
noncomputable def alloc(o:SO)(σ:ba):SV×ba:=(.h σ.st.length,{σ with st:=σ.st++[o]})
noncomputable def fa:SV->Option Bool
 |.bool b=>some b
 |_=>none
noncomputable def Z1:SV->Option Int
 |.int i=>some i
 |.bool b=>some (if b then 1 else 0)
 |_=>none
def Jc(f:Int->Int->Option Int)(a b:SV):Option SV:=(jy a).bind λi=>(jy b).bind λj=>(f i j).map .int
def W4(f:List Int->List Int->Option (List Int))(a b:SV):Option SV:=(qO a).bind λi=>(qO b).bind λj=>(f i j).map .cY
noncomputable def ur:SV->Bool
 |.cY _=>true
 |_=>false
def lu:OP->SV->SV->Option SV
 |.add,a,b=>Jc (λi j=>some<|i+j) a b
 |.sub,a,b=>match ur a with
  |true=>W4 (λx y=>gd (decide (x.length/4<=y.length)||y.isEmpty)<|x.filter λi=>!y.contains i) a b
  |false=>Jc (λi j=>some<|i-j) a b
 |.mul,a,b=>(jy a).bind λi=>(Z1 b).bind λj=>gd (decide (i.natAbs<2^64)||decide (j.natAbs<2^64))<|.int<|i*j
 |.fdiv,a,b=>Jc (λi j=>gd (j != 0&&decide (j.natAbs<1073741824))<|ui i j) a b
 |.mod,a,b=>Jc (λi j=>gd (j != 0)<|md i j) a b
 |.pow,a,b=>Jc (λi j=>gd (decide (0<=j)&&decide (j<=1000)&&decide (i.natAbs<2^64))<|i^j.toNat) a b
 |.bor,a,b=>W4 (λx y=>gd (rU<|fi<|x++y)<|fi<|x++y) a b
def lz(st:List SO):SV->Option (List SV)
 |.tup xs=>some xs
 |v=>il st v
def mY(st:List SO):SV->Option PyData
 |.h k=>(st[k]?.bind ft).bind λxs=>(eQ xs).map .list
 |v=>ls v
def Q3(st:List SO)(a b:SV):Option Bool:=match ur a with
 |true=>(qO a).bind λx=>(qO b).map λy=>x==y
 |false=>(mY st a).bind λd=>(mY st b).bind λD=>gd (decide<|min d.depth D.depth<=b7)<|bc d D
def Ec(st:List SO)(a b:SV):Option Bool:=match ur b with
 |true=>(qO b).bind λx=>(jy a).map λi=>x.contains i
 |false=>match hU st b with
  |some p=>(cF a p.1).map (·.isSome)
  |none=>(lz st b).bind λx=>(qx a x).map (·.isSome)
noncomputable def yV:SV->Option Bool
 |.none=>some true
 |.raw _=>none
 |_=>some false
noncomputable def isN(b:SV):Bool:=match b with
 |.none=>true
 |_=>false
def Ma(f:Int->Int->Bool)(a b:SV):Option Bool:=(jy a).bind λi=>(jy b).map λj=>f i j
def ir(st:List SO):CM->SV->SV->Option Bool
 |.eq,a,b=>Q3 st a b
 |.ne,a,b=>(Q3 st a b).map (!·)
 |.lt,a,b=>Ma (λi j=>decide<|i<j) a b
 |.le,a,b=>Ma (λi j=>decide<|i<=j) a b
 |.gt,a,b=>Ma (λi j=>decide<|j<i) a b
 |.ge,a,b=>Ma (λi j=>decide<|j<=i) a b
 |.is,a,b=>(gd (isN b) ()).bind λz=>yV a
 |.jt,a,b=>(gd (isN b) ()).bind λz=>(yV a).map (!·)
 |.isIn,a,b=>Ec st a b
 |.jr,a,b=>(Ec st a b).map (!·)
def fb(st:List SO)(v i:SV):Option SV:=match hU st v with
 |some p=>(cF i p.1).bind λr=>r.bind λj=>p.2[j]?
 |none=>(lz st v).bind λx=>(jy i).bind λi=>rO x i
noncomputable def dh(m:Bool)(xs:List SV)(σ:ba):SV×ba:=match m||!bS xs with
 |true=>alloc (.list xs) σ
 |false=>(.lst xs,σ)
def si(n:Nat)(i:Int):Bool:=decide (n<=dI)&&decide (i.natAbs<=dI)
def i5(σ:ba)(v i:SV):Option (SV×ba):=(jy i).bind λi=>match v with
 |.tup x=>gd (si x.length i) (.tup<|x.take<|du x.length i,σ)
 |.str s=>gd (si s.cps.size i) (.str ⟨(s.cps.toList.take<|du s.cps.toList.length i).toArray⟩,σ)
 |v=>(il σ.st v).bind λx=>gd (si x.length i)<|dh false (x.take<|du x.length i) σ
def i6(σ:ba)(v i:SV):Option (SV×ba):=(jy i).bind λi=>match v with
 |.str s=>gd (si s.cps.size i) (.str ⟨(s.cps.toList.drop<|du s.cps.toList.length i).toArray⟩,σ)
 |v=>(il σ.st v).bind λx=>gd (si x.length i)<|dh false (x.drop<|du x.length i) σ
def XE(s:Str):Option Int:=(one s.cps.toList).bind λc=>gd (decide (48<=c)&&decide (c<=57))<|(c:Int)-48
def L5(st:List SO)(v:SV):Option (List Int):=((il st v).orElse λz=>(hU st v).map (·.1)).bind iL
def ZY:SV->Option SV
 |.int i=>some<|.int i
 |.bool b=>some<|.int (if b then 1 else 0)
 |.str s=>(XE s).map .int
 |_=>none
def builtin(st:List SO):BI->List SV->Option SV
 |.len,vs=>(one vs).bind λv=>(lz st v).bind λxs=>gd (decide<|xs.length<=dI)<|.int xs.length
 |.tuple,vs=>(one vs).bind λv=>(lz st v).bind λxs=>gd (decide<|xs.length<=dI)<|.tup xs
 |.sorted,vs=>(one vs).bind λv=>match ur v with
  |true=>(qO v).bind λxs=>gd (decide<|xs.length<=1)<|.lst<|xs.map .int
  |false=>(L5 st v).bind λis=>gd (decide<|is.length<64)<|.lst<|(gR is).map .int
 |.ja,vs=>(one vs).bind λv=>((il st v).bind iL).bind λis=>gd (decide ((fi is).length<=1)&&rU (fi is))<|.lst<|(fi is).map .int
 |.cY,vs=>match vs with
  |[]=>some<|.cY []
  |v::r=>(gd r.isEmpty ()).bind λz=>((il st v).bind iL).bind λis=>gd (rU<|fi is)<|.cY<|fi is
 |.int,vs=>(one vs).bind ZY
 |.max,vs=>(xo vs).bind λv=>Jc (λa b=>some (if a<b then b else a)) v.1 v.2
 |.min,vs=>(xo vs).bind λv=>Jc (λa b=>some (if b<a then b else a)) v.1 v.2
 |.j7,vs=>(xo vs).bind λv=>(wM v.1).bind λxs=>(wM v.2).bind λY=>match xs with
  |[]=>gd Y.isEmpty<|.fW [] []
  |x::r=>(gd r.isEmpty ()).bind λz=>(Tg x).bind λs=>(one Y).bind λy=>gd (c6 s&&y.free)<|.fW [.str s] [y]
 |_,_=>none
noncomputable abbrev gT:Nat:=67
noncomputable abbrev fz:Nat:=50
def kF(i:Nat)(σ:ba):Option SV:=σ.loc[i]?.bind λ
 |.val v=>some v
 |.cell k=>(σ.st[k]?.bind m2).bind id
 |.un=>none
mutual
noncomputable def freeze:Nat->SV->List SO->Option (SV×List SO)
 |0,_,_=>none
 |n+1,v,st=>match v with
  |.h k=>st[k]?.bind λ
   |.list xs=>(bP n xs<|st.set k .gone).map λr=>(.lst r.1,r.2)
   |.dict s vs=>(gd (bS s) ()).bind λz=>(bP n vs<|st.set k .gone).map λr=>(.fW s r.1,r.2)
   |.inst c a vs=>(bP n vs<|st.set k .gone).map λr=>(.inst c a r.1,r.2)
   |_=>none
  |.tup xs=>(bP n xs st).map λr=>(.tup r.1,r.2)
  |v=>gd v.free (v,st)
noncomputable def bP:Nat->List SV->List SO->Option (List SV×List SO)
 |0,_,_=>none
 |n+1,vs,st=>match bS vs with
  |true=>some (vs,st)
  |false=>match vs with
   |[]=>some ([],st)
   |v::r=>(freeze n v st).bind λp=>(bP n r p.2).map λq=>(p.1::q.1,q.2)
end
noncomputable def SO.live:SO->Bool
 |.gone=>false
 |_=>true
noncomputable def kg:List SO->List SO
 |[]=>[]
 |o::r=>match (kg r).isEmpty&&!o.live with
  |true=>[]
  |false=>o::kg r
noncomputable abbrev uW:Nat:=0
noncomputable abbrev RC:Nat:=1
noncomputable abbrev aff:Nat:=2
noncomputable abbrev WS:Nat:=3
noncomputable abbrev ack:Nat:=4
noncomputable abbrev ma:Nat:=5
noncomputable def wi(r:Option Nat)(vs:List SV)(d:SV):Option SV:=match r with
 |some j=>vs[j]?
 |none=>some d
noncomputable def tU(r:Option Nat)(k:List SV)(key:SV):List SV:=match r with
 |some _=>k
 |none=>k++[key]
noncomputable def tT(r:Option Nat)(vs:List SV)(val:SV):List SV:=match r with
 |some j=>vs.set j val
 |none=>vs++[val]
def td(st:List SO)(o:SV)(args:List SV):Option SV:=(one args).bind λv=>(il st o).bind λx=>(gd (decide<|x.length<=dI) ()).bind λz=>(qx v x).bind λr=>r.map λi=>.int i
noncomputable def E9:List SV->Option (SV×SV)
 |[x]=>some (x,.none)
 |[x,d]=>some (x,d)
 |_=>none
def Qk(st:List SO)(o:SV)(args:List SV):Option SV:=(E9 args).bind λp=>(hU st o).bind λq=>(cF p.1 q.1).bind λr=>wi r q.2 p.2
def zz(k:Nat)(v:SV)(σ:ba):Option ba:=(σ.st[k]?.bind ft).bind λx=>gd (decide<|x.length<=dI) {σ with st:=σ.st.set k<|.list<|x++[v]}
def zy(k:Nat)(v:SV)(σ:ba):Option ba:=(σ.st[k]?.bind ft).bind λx=>(il σ.st v).bind λy=>gd (decide<|x.length+y.length<=dI) {σ with st:=σ.st.set k<|.list<|x++y}
def UM(k:Nat)(σ:ba):Option (SV×ba):=(σ.st[k]?.bind ft).bind λx=>x.getLast?.bind λv=>gd (decide<|x.length<=dI) (v,{σ with st:=σ.st.set k<|.list x.dropLast})
noncomputable def DG(k:Nat)(x d:SV)(p:List SV×List SV)(r:Option Nat)(σ:ba):ba:=match r with
 |some _=>σ
 |none=>{σ with st:=σ.st.set k<|.dict (p.1++[x])<|p.2++[d]}
def l3(k:Nat)(x d:SV)(σ:ba):Option (SV×ba):=(σ.st[k]?.bind m1).bind λp=>(cF x p.1).bind λr=>
 (gd (x.free&&decide (p.1.length<=dI)) ()).bind λz=>(wi r p.2 d).map λv=>(v,DG k x d p r σ)
def oG(st:List SO)(o:SV)(a:Nat):Bool:=if a==ack||a==ma then(hU st o).isSome else(il st o).isSome
def gx(o:SV)(a:Nat)(args:List SV)(σ:ba):Option (SV×ba):=match a with
 |0=>(Rv o).bind λk=>(one args).bind λv=>(zz k v σ).map λb=>(.none,b)
 |1=>(Rv o).bind λk=>(one args).bind λv=>(zy k v σ).map λb=>(.none,b)
 |2=>(Rv o).bind λk=>(gd args.isEmpty ()).bind λz=>UM k σ
 |3=>(td σ.st o args).map (·,σ)
 |4=>(Qk σ.st o args).map (·,σ)
 |5=>(Rv o).bind λk=>(xo args).bind λp=>l3 k p.1 p.2 σ
 |_=>none
abbrev bH:=SV->List SV->List SO->Option (SV×List SO)
abbrev bQ:=Addr->Nat->Option Addr
noncomputable def gW(fr:List (Option Nat))(l:List LV):List LV:=fr.map λ
 |.none=>.un
 |.some j=>(l[j]?).getD .un
def EG(M:bQ)(st:List SO)(o:SV)(a:Nat):Option SV:=(oN st o).bind λi=>match gq a i.2.1 0 with
 |some j=>i.2.2[j]?
 |none=>(M i.1 a).map λf=>.rh f o
def rR(i:Addr×List Nat×List SV)(a:Nat)(v:SV):Option SO:=match gq a i.2.1 0 with
 |some j=>some<|.inst i.1 i.2.1<|i.2.2.set j v
 |none=>gd (decide<|a<gT)<|.inst i.1 (i.2.1++[a])<|i.2.2++[v]
def yT(o:SV)(a:Nat)(v:SV)(σ:ba):Option ba:=(Rv o).bind λk=>(σ.st[k]?.bind jT).bind λi=>(rR i a v).map λs=>{σ with st:=σ.st.set k s}
def mX(o i v:SV)(σ:ba):Option ba:=(Rv o).bind λk=>match σ.st[k]?.bind ft with
 |some x=>(jy i).bind λi=>gd (decide (0<=i)&&decide (i<x.length)&&decide (i<=dI)) {σ with st:=σ.st.set k<|.list<|x.set i.toNat v}
 |none=>(σ.st[k]?.bind m1).bind λp=>(gd (i.free&&decide (p.1.length<=dI)) ()).bind λz=>(cF i p.1).map λr=>{σ with st:=σ.st.set k<|.dict (tU r p.1 i)<|tT r p.2 v}
noncomputable def sd(f:SV->ba->Option (SV×SV×ba)):List SV->List SV->List SV->ba->Option (List SV×List SV×ba)
 |k,vs,[],σ=>some (k,vs,σ)
 |k,vs,x::r,σ=>(f x σ).bind λq=>(cF q.1 k).bind λo=>(gd (q.1.free&&decide (k.length<=dI)) ()).bind λz=>sd f (tU o k q.1) (tT o vs q.2.1) r q.2.2
def Mx(i:Nat)(σ:ba):Option (SV×ba):=(kF i σ).bind λv=>match Rv v with
 |some _=>(freeze fz v σ.st).bind λp=>(gu i p.1 {σ with st:=p.2}).map λa=>(p.1,a)
 |none=>some (v,σ)
noncomputable def fF(f:SV->ba->Option (List SV×ba)):List SV->List SV->ba->Option (List SV×ba)
 |a,[],σ=>some (a,σ)
 |a,x::r,σ=>(f x σ).bind λq=>fF f (a++q.1) r q.2
def wJ(b:BI)(vs:List SV)(σ:ba):Option (SV×ba):=match b with
 |.qI=>(one vs).bind λv=>(jy v).bind λn=>gd (decide<|n.natAbs<=dI)<|alloc (.list<|(ak n.toNat).map λ(i:Nat)=>SV.int (i:Int)) σ
 |.list=>(one vs).bind λv=>(il σ.st v).bind λx=>gd (decide<|x.length<=dI)<|alloc (.list x) σ
 |b=>(builtin σ.st b vs).map (·,σ)
noncomputable def TG(σ:ba)(r:SV×List SO):SV×ba:=(r.1,{σ with st:=r.2})
mutual
noncomputable def bX(C:bH)(M:bQ):E->ba->Option (SV×ba)
 |.none,σ=>some (.none,σ)
 |.bool b,σ=>some (.bool b,σ)
 |.int i,σ=>some (.int i,σ)
 |.str s,σ=>some (.str s,σ)
 |.glob v,σ=>some (.raw v,σ)
 |.xD,σ=>some (.cY [],σ)
 |.loc i,σ=>(kF i σ).map λv=>(v,σ)
 |.oR i,σ=>Mx i σ
 |.tup es,σ=>(gp C M es σ).bind λp=>gd (decide<|p.1.length<=dI) (.tup p.1,p.2)
 |.list m es,σ=>(gp C M es σ).bind λp=>gd (decide<|p.1.length<=dI)<|dh m p.1 p.2
 |.fM m,σ=>some (match m with|true=>alloc (.dict [] []) σ|false=>(.fW [] [],σ))
 |.B6 k v,σ=>gd (c6 k) (.fW [.str k] [.str v],σ)
 |.attr e a,σ=>(bX C M e σ).bind λp=>(EG M p.2.st p.1 a).map (·,p.2)
 |.sub e i,σ=>(bX C M e σ).bind λp=>(bX C M i p.2).bind λq=>(fb q.2.st p.1 q.1).map (·,q.2)
 |.i6 e i,σ=>(bX C M e σ).bind λp=>(bX C M i p.2).bind λq=>i6 q.2 p.1 q.1
 |.i5 e i,σ=>(bX C M e σ).bind λp=>(bX C M i p.2).bind λq=>i5 q.2 p.1 q.1
 |.vJ e,σ=>(bX C M e σ).bind λp=>(il p.2.st p.1).bind λxs=>gd (decide<|xs.length<=dI)<|dh false xs.reverse p.2
 |.bin op l r,σ=>(bX C M l σ).bind λp=>(bX C M r p.2).bind λq=>(lu op p.1 q.1).map (·,q.2)
 |.and es,σ=>jv C M es σ
 |.or es,σ=>B2 C M es σ
 |.not e,σ=>(bX C M e σ).bind λp=>(fa p.1).map λb=>(.bool !b,p.2)
 |.neg e,σ=>(bX C M e σ).bind λp=>(jy p.1).map λi=>(.int<|-i,p.2)
 |.cmp op l r,σ=>(bX C M l σ).bind λp=>(bX C M r p.2).bind λq=>(ir q.2.st op p.1 q.1).map λx=>(.bool x,q.2)
 |.Ae o1 o2 l m r,σ=>(bX C M l σ).bind λp=>(bX C M m p.2).bind λq=>(ir q.2.st o1 p.1 q.1).bind λb=>match b with
  |true=>(bX C M r q.2).bind λt=>(ir t.2.st o2 q.1 t.1).map λx=>(.bool x,t.2)
  |false=>some (.bool false,q.2)
 |.ite c t e,σ=>(bX C M c σ).bind λp=>(fa p.1).bind λb=>match b with
  |true=>bX C M t p.2
  |false=>bX C M e p.2
 |.bi b es,σ=>(gp C M es σ).bind λp=>wJ b p.1 p.2
 |.rep m e n,σ=>(bX C M e σ).bind λp=>(bX C M n p.2).bind λq=>(jy q.1).bind λk=>gd (decide<|k.natAbs<=dI)<|dh m (bf k.toNat p.1) q.2
 |.call f es,σ=>(bX C M f σ).bind λp=>(gp C M es p.2).bind λq=>(C p.1 q.1 q.2.st).map<|TG q.2
 |.bj o a es,σ=>(bX C M o σ).bind λp=>match oN p.2.st p.1 with
  |some i=>(gd (gq a i.2.1 0).isNone ()).bind λu=>(M i.1 a).bind λf=>(gp C M es p.2).bind λq=>(C (.raw<|.ref f) (p.1::q.1) q.2.st).map<|TG q.2
  |none=>(gd (oG p.2.st p.1 a) ()).bind λu=>(gp C M es p.2).bind λq=>gx p.1 a q.1 q.2
 |.comp m fr L t ik g cs,σ=>(gp C M g σ).bind λp=>(jX ik p.1).bind λitems=>(gd (oJ ik t) ()).bind λu=>
   (fF (λx τ=>(cS t x τ).bind λτ=>(jv C M cs τ).bind λq=>(fa q.1).bind λb=>match b with
    |true=>(bX C M L q.2).map λr=>([r.1],r.2)
    |false=>some ([],q.2)) [] items ⟨gW fr p.2.loc,p.2.st⟩).bind λz=>gd (decide<|z.1.length<=dI)<|dh m z.1 {p.2 with st:=z.2.st}
 |.Cd fr L t ik g t2 e2,σ=>(gp C M g σ).bind λp=>(jX ik p.1).bind λitems=>(gd (oJ ik t) ()).bind λu=>
   (fF (λx τ=>(cS t x τ).bind λτ=>(bX C M e2 τ).bind λq=>(s7 q.1).bind λI=>
    fF (λy τ=>(cS t2 y τ).bind λτ=>(bX C M L τ).map λr=>([r.1],r.2)) [] I q.2) [] items ⟨gW fr p.2.loc,p.2.st⟩).bind λz=>
     gd (decide<|z.1.length<=dI) (dh false z.1 {p.2 with st:=z.2.st})
 |.yu fr k v t e,σ=>(bX C M e σ).bind λp=>(s7 p.1).bind λitems=>
   (sd (λx τ=>(cS t x τ).bind λτ=>(bX C M k τ).bind λq=>(bX C M v q.2).map λr=>(q.1,r.1,r.2)) [] [] items ⟨gW fr p.2.loc,p.2.st⟩).bind λz=>
    gd (bS z.2.1) (.fW z.1 z.2.1,{p.2 with st:=z.2.2.st})
 |.bad,_=>none
noncomputable def gp(C:bH)(M:bQ):List E->ba->Option (List SV×ba)
 |[],σ=>some ([],σ)
 |e::es,σ=>(bX C M e σ).bind λp=>(gp C M es p.2).map λr=>(p.1::r.1,r.2)
noncomputable def jv(C:bH)(M:bQ):List E->ba->Option (SV×ba)
 |[],σ=>some (.bool true,σ)
 |e::es,σ=>(bX C M e σ).bind λp=>(fa p.1).bind λb=>match b with
  |true=>jv C M es p.2
  |false=>some (.bool false,p.2)
noncomputable def B2(C:bH)(M:bQ):List E->ba->Option (SV×ba)
 |[],σ=>some (.bool false,σ)
 |e::es,σ=>(bX C M e σ).bind λp=>(fa p.1).bind λb=>match b with
  |false=>B2 C M es p.2
  |true=>some (.bool true,p.2)
end
noncomputable def Dg:SV->Option (List SV)
 |.tup xs=>some xs
 |.lst xs=>some xs
 |_=>none
mutual
noncomputable def zq(C:bH)(M:bQ):T->SV->ba->Option ba
 |.nm i,v,σ=>gu i v σ
 |.at o a,v,σ=>(bX C M o σ).bind λp=>yT p.1 a v p.2
 |.ix o i,v,σ=>(bX C M o σ).bind λp=>(bX C M i p.2).bind λq=>mX p.1 q.1 v q.2
 |.tp ts,v,σ=>(Dg v).bind λxs=>vS C M ts xs σ
noncomputable def vS(C:bH)(M:bQ):List T->List SV->ba->Option ba
 |[],[],σ=>some σ
 |t::ts,v::vs,σ=>(zq C M t v σ).bind<|vS C M ts vs
 |_,_,_=>none
end
noncomputable def cz(f:SV->ba->Option (FL×ba)):List SV->ba->Option (FL×ba)
 |[],σ=>some (.next,σ)
 |x::r,σ=>(f x σ).bind λq=>match q.1 with
  |.next=>cz f r q.2
  |.ret v=>some (.ret v,q.2)
noncomputable def gV(c:ba->Option (SV×ba))(f:ba->Option (FL×ba)):Nat->ba->Option (FL×ba)
 |0,_=>none
 |n+1,σ=>(c σ).bind λp=>(fa p.1).bind λb=>match b with
  |false=>some (.next,p.2)
  |true=>(f p.2).bind λq=>match q.1 with
   |.next=>gV c f n q.2
   |.ret v=>some (.ret v,q.2)
noncomputable def LH:LV->Option Nat
 |.cell k=>some k
 |_=>none
mutual
noncomputable def ji(C:bH)(M:bQ):S->ba->Option (FL×ba)
 |.expr e,σ=>(bX C M e σ).map λr=>(.next,r.2)
 |.asg t e,σ=>(bX C M e σ).bind λp=>(zq C M t p.1 p.2).map λτ=>(.next,τ)
 |.ifs c a b,σ=>(bX C M c σ).bind λp=>(fa p.1).bind λx=>match x with
  |true=>cG C M a p.2
  |false=>cG C M b p.2
 |.for t ik s d,σ=>(gp C M s σ).bind λp=>(jX ik p.1).bind λitems=>(gd (oJ ik t) ()).bind λz=>cz (λx τ=>(cS t x τ).bind λτ=>cG C M d τ) items p.2
 |.tR c d,σ=>gV (bX C M c) (cG C M d) 1000 σ
 |.ret e,σ=>(bX C M e σ).map λr=>(.ret r.1,r.2)
 |.defn i k cs,σ=>(cs.mapM λj=>σ.loc[j]?.bind LH).bind λh=>(gu i (.Jg k h) σ).map λτ=>(.next,τ)
 |.bad,_=>none
noncomputable def cG(C:bH)(M:bQ):List S->ba->Option (FL×ba)
 |[],σ=>some (.next,σ)
 |s::r,σ=>(ji C M s σ).bind λq=>match q.1 with
  |.next=>cG C M r q.2
  |.ret v=>some (.ret v,q.2)
end
set_option genCtorIdx false in
inductive NK where
 |loc|p9|W5 (i:Nat)
noncomputable abbrev iH(n:Nat):List NK:=bf n .loc
noncomputable def NK.ctorIdx(x:NK):Nat:=@NK.casesOn (λz=>Nat) x (nat_lit 0) (nat_lit 1) λz=>nat_lit 2
set_option genCtorIdx false in
structure Fn where
 np:Nat
 uT:List SV
 kinds:List NK
 body:List S
 keep:Bool
set_option genCtorIdx false in
inductive Xa where
 |freeze|keep|some (as:List Nat)
noncomputable def Xa.ctorIdx(x:Xa):Nat:=@Xa.casesOn (λz=>Nat) x (nat_lit 0) (nat_lit 1) λz=>nat_lit 2
set_option genCtorIdx false in
structure Cls where
 init:Addr
 Lh:Xa
set_option genCtorIdx false in
structure C9 where
 fns:Addr->Option Fn
 nest:Nat->Option Fn
 cls:Addr->Option Cls
 meths:bQ
mutual
noncomputable def SV.low(n:Nat):SV->Bool
 |.h k=>mO k n
 |.Jg _ cs=>cs.all λk=>mO k n
 |.tup xs=>SV.lows n xs
 |.rh _ s=>s.low n
 |_=>true
noncomputable def SV.lows(n:Nat):List SV->Bool
 |[]=>true
 |x::xs=>x.low n&&SV.lows n xs
end
noncomputable def SO.low(n:Nat):SO->Bool
 |.list xs=>SV.lows n xs
 |.dict _ vs=>SV.lows n vs
 |.inst _ _ vs=>SV.lows n vs
 |.cell (some v)=>v.low n
 |_=>true
noncomputable def SY(vs:List SV):LV:=match vs with
 |[]=>.un
 |v::_=>.val v
noncomputable def cu:List NK->List SV->List Nat->List SO->List LV×List SO
 |[],_,_,st=>([],st)
 |.loc::s,vs,cs,st=>let r:=cu s vs.tail cs st;(SY vs::r.1,r.2)
 |.p9::s,vs,cs,st=>let r:=cu s vs.tail cs<|st++[.cell vs.head?];(.cell st.length::r.1,r.2)
 |.W5 i::s,vs,cs,st=>let r:=cu s vs cs st;((match cs[i]? with|some k=>.cell k|none=>.un)::r.1,r.2)
def qP(fn:Fn)(args:List SV):Option (List SV):=
 gd (decide (args.length<=fn.np)&&decide (fn.np<=args.length+fn.uT.length)) (args++fn.uT.drop (args.length+fn.uT.length-fn.np))
noncomputable def VW:FL->SV
 |.ret v=>v
 |.next=>.none
def nM(C:bH)(M:bQ)(fn:Fn)(args:List SV)(cs:List Nat)(st:List SO):Option (SV×List SO):=
 (qP fn args).bind λa=>(cG C M fn.body ⟨(cu fn.kinds a cs st).1,(cu fn.kinds a cs st).2⟩).map λq=>(VW q.1,q.2.st)
def jK(n:Nat)(st:List SO):Option (List SO):=match decide (st.length<=n) with
 |true=>some st
 |false=>gd ((st.take n).all<|SO.low n)<|st.take n
def jx(C:bH)(M:bQ)(fn:Fn)(args:List SV)(cs:List Nat)(st:List SO):Option (SV×List SO):=match fn.keep with
 |true=>nM C M fn args cs st
 |false=>match bS args&&cs.isEmpty with
  |true=>(nM C M fn args cs []).bind λp=>(freeze fz p.1 p.2).map λr=>(r.1,st)
  |false=>(nM C M fn args cs st).bind λp=>(freeze fz p.1 p.2).bind λr=>(jK st.length r.2).map λs=>(r.1,s)
noncomputable def fC(k:Nat):List Nat->List SO->Option (List SO)
 |[],st=>some st
 |a::r,st=>(st[k]?.bind jT).bind λo=>(gq a o.2.1 0).bind λj=>o.2.2[j]?.bind λv=>(freeze fz v st).bind λp=>
   (p.2[k]?.bind jT).bind λO=>(gd (O.1==o.1) ()).bind λz=>fC k r<|p.2.set k<|.inst o.1 O.2.1<|O.2.2.set j p.1
def l5(C:bH)(M:bQ)(a:Addr)(fn:Fn)(args:List SV)(st:List SO):Option (List SO):=(nM C M fn (.h st.length::args) []<|st++[.inst a [] []]).bind λp=>gd (isN p.1) p.2
def nu(C:bH)(M:bQ)(a:Addr)(p:Xa)(fn:Fn)(args:List SV)(st:List SO):Option (SV×List SO):=match p with
 |.freeze=>match bS args with
  |true=>(l5 C M a fn args []).bind λt=>(freeze fz (.h 0) t).map λr=>(r.1,st)
  |false=>(l5 C M a fn args st).bind λt=>(freeze fz (.h st.length) t).bind λr=>(jK st.length r.2).map λs=>(r.1,s)
 |.keep=>(l5 C M a fn args st).map λt=>(.h st.length,t)
 |.some A=>(l5 C M a fn args st).bind λt=>(fC st.length A t).bind λb=>(jK (kg b).length b).map λs=>(.h st.length,s)
noncomputable def Th:Value->Option Addr
 |.ref a=>some a
 |_=>none
noncomputable def oT(P:C9):Nat->bH
 |0=>λz z z=>none
 |d+1=>λf args st=>match f with
  |.raw v=>(Th v).bind λa=>match P.fns a with
   |some fn=>jx (oT P d) P.meths fn args [] st
   |none=>(P.cls a).bind λc=>(P.fns c.init).bind λfn=>nu (oT P d) P.meths a c.Lh fn args st
  |.rh a s=>(P.fns a).bind λfn=>jx (oT P d) P.meths fn (s::args) [] st
  |.Jg k cs=>(P.nest k).bind λfn=>jx (oT P d) P.meths fn args cs st
  |_=>none
theorem lvV(h:LV.val a=LV.val b):a=b:=by injection h
theorem lvC(h:LV.cell a=LV.cell b):a=b:=by injection h
theorem svB(h:SV.bool a=SV.bool b):a=b:=by injection h
section
variable{α β γ:Type}{P:Prop}
theorem aR(e:(none:Option α)=some x):P:=E0 rfl<|heq_of_eq e
theorem iG{x:α}(e:some x=none):P:=aR e.symm
theorem av{x:Option α}{b:β}(e:x.bind f=some b)(k:∀a,x=some a->f a=some b->P):P:=by
 cases x with
 |none=>exact aR e
 |some a=>exact k a rfl e
theorem cR{x:Option α}{b:β}(e:x.map f=some b)(k:∀a,x=some a->f a=b->P):P:=by
 cases x with
 |none=>exact aR e
 |some a=>exact k a rfl<|aa e
theorem iZ{c:Bool}(e:gd c x=some y)(k:c=true->x=y->P):P:=by
 cases c with
 |false=>exact aR e
 |true=>exact k rfl<|aa e
theorem pJ{c:Bool}{b:β}(e:(gd c ()).bind f=some b)(k:c=true->f ()=some b->P):P:=by
 cases c with
 |false=>exact aR e
 |true=>exact k rfl e
theorem jq(e:one l=some x)(k:l=[x]->P):P:=k (by rcases l with _|⟨a,_|_⟩<;>first|exact congrArg (λz=>[z]) (aa e)|exact aR e)
theorem y4{l:List α}{x:α×α}(e:xo l=some x)(k:l=[x.1,x.2]->P):P:=k (by rcases l with _|⟨a,_|⟨b,_|_⟩⟩<;>first|exact congrArg (λz:α×α=>[z.1,z.2]) (aa e)|exact aR e)
theorem Uc{l:List α}{x:α×α×α}(e:Sj l=some x)(k:l=[x.1,x.2.1,x.2.2]->P):P:=k (by rcases l with _|⟨a,_|⟨b,_|⟨c,_|_⟩⟩⟩<;>first|exact congrArg (λz:α×α×α=>[z.1,z.2.1,z.2.2]) (aa e)|exact aR e)
theorem cn{a b:Bool}(e:(a&&b)=true)(k:a=true->b=true->P):P:=k (bK.mp e).1 (bK.mp e).2
theorem eW[Decidable p](e:decide p=true):p:=of_decide_eq_true e
theorem qj{l:List α}{r:List β}{a x:α}{b y:β}(L:r.length=l.length)(h:(l++[a])[i]? =some x)(H:(r++[b])[i]? =some y)(k:l[i]? =some x->r[i]? =some y->P)(d:i=l.length->a=x->b=y->P):P:=by
 rcases Nat.lt_trichotomy i l.length with q|q|q
 ·rw[aK q] at h;rw[aK<|L▸q] at H;exact k h H
 ·subst q;rw[az<|aF _,bt] at h;rw[<-L,az<|aF _,bt] at H;exact d rfl (aa h)<|aa H
 ·rw[fO (by rw[aj];exact q)] at h;cases h
end
section
variable{P:Prop}{v:SV}{o:SO}
theorem gA(e:jy v=some i)(k:v=.int i->P):P:=k (by cases v<;>first|exact congrArg SV.int (aa e)|exact aR e)
theorem wL(e:wM v=some i)(k:v=.tup i->P):P:=k (by cases v<;>first|exact congrArg SV.tup (aa e)|exact aR e)
theorem Wu(e:Ti v=some i)(k:v=.lst i->P):P:=k (by cases v<;>first|exact congrArg SV.lst (aa e)|exact aR e)
theorem pO(e:qO v=some i)(k:v=.cY i->P):P:=k (by cases v<;>first|exact congrArg SV.cY (aa e)|exact aR e)
theorem Ws(e:Tg v=some i)(k:v=.str i->P):P:=k (by cases v<;>first|exact congrArg SV.str (aa e)|exact aR e)
theorem IS(e:Rv v=some i)(k:v=.h i->P):P:=k (by cases v<;>first|exact congrArg SV.h (aa e)|exact aR e)
theorem y7(e:fa v=some i)(k:v=.bool i->P):P:=k (by cases v<;>first|exact congrArg SV.bool (aa e)|exact aR e)
theorem Pk(e:ft o=some xs)(k:o=.list xs->P):P:=k (by cases o<;>first|exact congrArg SO.list (aa e)|exact aR e)
theorem Pm(e:m1 o=some p)(k:o=.dict p.1 p.2->P):P:=k (by cases o<;>first|exact congrArg (λp:List SV×List SV=>SO.dict p.1 p.2) (aa e)|exact aR e)
theorem Pl(e:jT o=some p)(k:o=.inst p.1 p.2.1 p.2.2->P):P:=k (by cases o<;>first|exact congrArg (λp:Addr×List Nat×List SV=>SO.inst p.1 p.2.1 p.2.2) (aa e)|exact aR e)
theorem Pn(e:m2 o=some p)(k:o=.cell p->P):P:=k (by cases o<;>first|exact congrArg SO.cell (aa e)|exact aR e)
variable{st:List SO}{j:Nat}
theorem tD(e:st[j]?.bind ft=some xs):st[j]? =some (.list xs):=av e λy h q=>Pk q λz=>z▸h
theorem EH(e:st[j]?.bind m1=some p):st[j]? =some (.dict p.1 p.2):=av e λy h q=>Pm q λz=>z▸h
theorem Ah(e:st[j]?.bind jT=some p):st[j]? =some (.inst p.1 p.2.1 p.2.2):=av e λy h q=>Pl q λz=>z▸h
theorem Nz(e:st[j]?.bind m2=some p):st[j]? =some (.cell p):=av e λy h q=>Pn q λz=>z▸h
theorem adt(e:il st v=some xs)(k1:v=.lst xs->P)(k2:∀k,v=.h k->st[k]? =some (.list xs)->P):P:=by cases v<;>first|exact k1 (congrArg SV.lst<|aa e)|exact k2 _ rfl (tD e)|exact aR e
theorem ad5(e:hU st v=some p)(k1:v=.fW p.1 p.2->P)(k2:∀k,v=.h k->st[k]? =some (.dict p.1 p.2)->P):P:=by cases v<;>first|exact k1 (congrArg (λp:List SV×List SV=>SV.fW p.1 p.2)<|aa e)|exact k2 _ rfl (EH e)|exact aR e
theorem adu(e:oN st v=some p)(k1:v=.inst p.1 p.2.1 p.2.2->P)(k2:∀k,v=.h k->st[k]? =some (.inst p.1 p.2.1 p.2.2)->P):P:=by cases v<;>first|exact k1 (congrArg (λp:Addr×List Nat×List SV=>SV.inst p.1 p.2.1 p.2.2)<|aa e)|exact k2 _ rfl (Ah e)|exact aR e
theorem X0(e:lz st v=some xs)(k1:v=.tup xs->P)(k2:il st v=some xs->P):P:=by cases v<;>first|exact k1 (congrArg SV.tup<|aa e)|exact k2 e
end
section
variable{C:bH}{M:bQ}{σ bk:ba}{v:SV}{P:Prop}{a b c:E}{es:List E}
theorem dQ{α β:Type}{a A:α}{b B:β}(e:(a,b)=(A,B))(k:a=A->b=B->P):P:=Prod.noConfusion rfl rfl (heq_of_eq e) λx y=>k (eq_of_heq x)<|eq_of_heq y
theorem KY{α:Type}{x:Option α}{b:α×ba}(e:x.map (·,τ)=some b)(k:x=some b.1->τ=b.2->P):P:=cR e λa h q=>by subst q;exact k h rfl
theorem Ea(e:Jc f x y=some v)(k:∀i j c,x=.int i->y=.int j->f i j=some c->.int c=v->P):P:=av e λi I e=>av e λj J e=>cR e λc d e=>gA I λh=>gA J λH=>k i j c h H d e
theorem Um(e:W4 f x y=some v)(k:∀i j c,x=.cY i->y=.cY j->f i j=some c->.cY c=v->P):P:=av e λi I e=>av e λj J e=>cR e λc d e=>pO I λh=>pO J λH=>k i j c h H d e
theorem Bu(h:(m||!bS xs)=true):dh m xs σ=alloc (.list xs) σ:=by unfold dh;rw[h]
theorem v8(h:(m||!bS xs)=false):dh m xs σ=(.lst xs,σ)/\SV.free.go xs=true:=by
 refine⟨by unfold dh;rw[h],?_⟩;cases q:bS xs with
 |true=>exact q
 |false=>rw[q] at h;cases m<;>cases h
theorem uO(e:kF i σ=some v)(k:σ.loc[i]? =some (.val v)->P)(d:∀j,σ.loc[i]? =some (.cell j)->σ.st[j]? =some (.cell<|some v)->P):P:=av e λl h e=>by
 cases l with
 |un=>exact aR e
 |val w=>exact k<|h.trans<|congrArg (λz=>some<|LV.val z)<|aa e
 |cell j=>exact av e λo H e=>d j h<|(Nz H).trans<|congrArg (λz=>some<|SO.cell z) e
theorem zi(e:gu i v σ=some bk)(d:∀j O,σ.loc[i]? =some (.cell j)->σ.st[j]? =some (.cell O)->{σ with st:=σ.st.set j<|.cell<|some v}=bk->P)(k:∀l,σ.loc[i]? =some l->(∀j,l≠.cell j)->{σ with loc:=σ.loc.set i<|.val v}=bk->P):P:=av e λl h e=>by
 cases l with
 |un=>exact k _ h (λy z=>LV.noConfusion z)<|aa e
 |val w=>exact k _ h (λy z=>LV.noConfusion z)<|aa e
 |cell j=>exact cR e λo H e=>d j o h (Nz H) e
theorem mB:hH x y=true↔x=y:=⟨λh=>by have h:=beq_iff_eq.mp h;obtain⟨⟨l⟩⟩:=x;obtain⟨⟨L⟩⟩:=y;exact congrArg (λz=>Str.mk ⟨z⟩) h,λh=>h▸beq_self_eq_true _⟩
theorem mD{a b:Str}(h:hH a b=true):a=b:=mB.mp h
theorem J9{a b:Str}(h:hH a b=false):a≠b:=λe=>a8<|h.symm.trans<|mB.mpr e
end
section
variable{C:bH}{M:bQ}{σ bk:ba}{v:SV}{P:Prop}{a b c:E}{es:List E}
theorem m7(e:some (x,τ)=some (v,bk))(k:x=v->τ=bk->P):P:=dQ (aa e) k
theorem By{d:Type}{x:Option d}{f:d->SV}(e:x.map (λy=>(f y,τ))=some (v,bk))(k:∀y,x=some y->f y=v->τ=bk->P):P:=cR e λy h q=>dQ q<|k y h
theorem gd1{b:Bool}(e:gd b (x,τ)=some (v,bk))(k:b=true->x=v->τ=bk->P):P:=iZ e λh q=>dQ q<|k h
theorem YK(V:bX C M (.loc i) σ=some (v,bk))(k:kF i σ=some v->σ=bk->P):P:=By V λy h e d=>k (e▸h) d
theorem YG(e:bX C M (.tup es) σ=some (v,bk))(k:∀vs,gp C M es σ=some (vs,bk)->vs.length<=dI->.tup vs=v->P):P:=av e λp h e=>gd1 e λq d f=>k p.1 (f▸h) (eW q) d
theorem Vc(V:bX C M (.list m es) σ=some (v,bk))(k:∀vs τ,gp C M es σ=some (vs,τ)->vs.length<=dI->dh m vs τ=(v,bk)->P):P:=av V λp h V=>iZ V λq e=>k p.1 p.2 h (eW q) e
theorem QK(e:bX C M (.B6 x y) σ=some (v,bk))(k:c6 x=true->.fW [.str x] [.str y]=v->σ=bk->P):P:=gd1 e k
theorem Ve(e:bX C M (.attr a i) σ=some (v,bk))(k:∀o,bX C M a σ=some (o,bk)->EG M bk.st o i=some v->P):P:=av e λp h e=>By e λy H f d=>k p.1 (d▸h)<|f▸d▸H
theorem YH(e:bX C M (.sub a b) σ=some (v,bk))(k:∀o aC j,bX C M a σ=some (o,aC)->bX C M b aC=some (j,bk)->fb bk.st o j=some v->P):P:=
 av e λp h e=>av e λq H e=>By e λy g f d=>k p.1 p.2 q.1 h (d▸H)<|f▸d▸g
theorem U9(e:bX C M (.i5 a b) σ=some (v,bk))(k:∀o aC j aT,bX C M a σ=some (o,aC)->bX C M b aC=some (j,aT)->i5 aT o j=some (v,bk)->P):P:=av e λp h e=>av e λq H e=>k p.1 p.2 q.1 q.2 h H e
theorem Mb(e:bX C M (.i6 a b) σ=some (v,bk))(k:∀o aC j aT,bX C M a σ=some (o,aC)->bX C M b aC=some (j,aT)->i6 aT o j=some (v,bk)->P):P:=av e λp h e=>av e λq H e=>k p.1 p.2 q.1 q.2 h H e
theorem QJ(V:bX C M (.vJ a) σ=some (v,bk))(k:∀o aC xs,bX C M a σ=some (o,aC)->il aC.st o=some xs->xs.length<=dI->dh false xs.reverse aC=(v,bk)->P):P:=av V λp h V=>av V λxs H V=>iZ V λq e=>k p.1 p.2 xs h H (eW q) e
theorem YM(e:bX C M (.bin op a b) σ=some (v,bk))(k:∀x aC y,bX C M a σ=some (x,aC)->bX C M b aC=some (y,bk)->lu op x y=some v->P):P:=
 av e λp h e=>av e λq H e=>By e λy g d f=>k p.1 p.2 q.1 h (f▸H)<|d▸g
theorem SU(e:bX C M (.not a) σ=some (v,bk))(k:∀x d,bX C M a σ=some (x,bk)->fa x=some d->.bool (!d)=v->P):P:=av e λp h e=>By e λd H f g=>k p.1 d (g▸h) H f
theorem YJ(e:bX C M (.neg a) σ=some (v,bk))(k:∀i,bX C M a σ=some (.int i,bk)->.int (-i)=v->P):P:=av e λp h e=>By e λi H d f=>gA H λg=>k i (by rw[h,<-f,<-g]) d
theorem SX(e:bX C M (.cmp op a b) σ=some (v,bk))(k:∀x aC y d,bX C M a σ=some (x,aC)->bX C M b aC=some (y,bk)->ir bk.st op x y=some d->.bool d=v->P):P:=
 av e λp h e=>av e λq H e=>By e λd i g f=>k p.1 p.2 q.1 d h (f▸H) (f▸i) g
theorem Mc(e:bX C M (.Ae O r a b c) σ=some (v,bk))(l:∀x aC y aT z d,bX C M a σ=some (x,aC)->bX C M b aC=some (y,aT)->ir aT.st O x y=some true->bX C M c aT=some (z,bk)->ir bk.st r y z=some d->.bool d=v->P)
  (n:∀x aC y,bX C M a σ=some (x,aC)->bX C M b aC=some (y,bk)->ir bk.st O x y=some false->.bool false=v->P):P:=
 av e λp h e=>av e λq H e=>av e λd i e=>by
  cases d with
  |true=>exact av e λt j e=>By e λd k g f=>l p.1 p.2 q.1 q.2 t.1 d h H i (f▸j) (f▸k) g
  |false=>exact m7 e λg f=>n p.1 p.2 q.1 h (f▸H) (f▸i) g
theorem SW(e:bX C M (.ite a b c) σ=some (v,bk))(k:∀x aC d,bX C M a σ=some (x,aC)->fa x=some d->bX C M (match d with|true=>b|false=>c) aC=some (v,bk)->P):P:=
 av e λp h e=>av e λd H e=>k p.1 p.2 d h H (by cases d<;>exact e)
theorem Md(e:bX C M (.bi f es) σ=some (v,bk))(k:∀vs τ,gp C M es σ=some (vs,τ)->wJ f vs τ=some (v,bk)->P):P:=av e λp h e=>k p.1 p.2 h e
theorem YI(V:bX C M (.rep m a b) σ=some (v,bk))(k:∀x aC i aT,bX C M a σ=some (x,aC)->bX C M b aC=some (.int i,aT)->i.natAbs<=dI->dh m (bf i.toNat x) aT=(v,bk)->P):P:=
 av V λp h V=>av V λq d V=>av V λi H V=>iZ V λl e=>gA H λH=>k p.1 p.2 i q.2 h (by rw[d,<-H]) (eW l) e
theorem Te{x:Option (SV×List SO)}(e:x.map (TG τ)=some (v,bk))(k:∀st,x=some (v,st)->{τ with st:=st}=bk->P):P:=cR e λr h q=>dQ q λd f=>k r.2 (by rw[h,<-d]) f
theorem Vd(V:bX C M (.call a es) σ=some (v,bk))(k:∀f aC vs aT st,bX C M a σ=some (f,aC)->gp C M es aC=some (vs,aT)->C f vs aT.st=some (v,st)->{aT with st:=st}=bk->P):P:=
 av V λp h V=>av V λq H V=>Te V λst d e=>k p.1 p.2 q.1 q.2 st h H d e
theorem Vb(V:bX C M (.bj a i es) σ=some (v,bk))(k:∀o aC z f vs aT st,bX C M a σ=some (o,aC)->oN aC.st o=some z->gq i z.2.1 0=none->M z.1 i=some f->gp C M es aC=some (vs,aT)->C (.raw<|.ref f) (o::vs) aT.st=some (v,st)->{aT with st:=st}=bk->P)
  (j:∀o aC vs aT,bX C M a σ=some (o,aC)->oN aC.st o=none->oG aC.st o i=true->gp C M es aC=some (vs,aT)->gx o i vs aT=some (v,bk)->P):P:=
 av V λp h V=>by
  cases hi:oN p.2.st p.1 with
  |some z=>rw[hi] at V;exact pJ V λn V=>av V λf g V=>av V λq H V=>Te V λst d e=>k p.1 p.2 z f q.1 q.2 st h hi (bB.mp n) g H d e
  |none=>rw[hi] at V;exact pJ V λn V=>av V λq H V=>j p.1 p.2 q.1 q.2 h hi n H V
theorem YL(V:gp C M (a::es) σ=some (vs,bk))(k:∀x aC xs,bX C M a σ=some (x,aC)->gp C M es aC=some (xs,bk)->x::xs=vs->P):P:=av V λp h V=>cR V λr H e=>dQ e λd f=>k p.1 p.2 r.1 h (by rw[H,<-f]) d
theorem Ge(e:jv C M (a::es) σ=some (v,bk))(k:∀x aC,bX C M a σ=some (x,aC)->fa x=some true->jv C M es aC=some (v,bk)->P)(i:∀x,bX C M a σ=some (x,bk)->fa x=some false->.bool false=v->P):P:=
 av e λp h e=>av e λd H e=>by
  cases d with
  |true=>exact k p.1 p.2 h H e
  |false=>exact m7 e λf g=>i p.1 (g▸h) H f
theorem Va(e:B2 C M (a::es) σ=some (v,bk))(k:∀x aC,bX C M a σ=some (x,aC)->fa x=some false->B2 C M es aC=some (v,bk)->P)(i:∀x,bX C M a σ=some (x,bk)->fa x=some true->.bool true=v->P):P:=
 av e λp h e=>av e λd H e=>by
  cases d with
  |false=>exact k p.1 p.2 h H e
  |true=>exact m7 e λf g=>i p.1 (g▸h) H f
end
abbrev FH:=Addr->Option Obj
abbrev dM:=List<|Addr×Addr
structure lH where
 name:Str
 qual:Str
 params:el
 body:List xh
 scope:Scope
 free:List Str
structure dg where
 prog:Program
 w:cD
 nm:Nat->Str
 SA:∀a b,nm a=nm b->a=b
 r6:Addr->Bool
 nest:Nat->Option lH
 base:FH
 tab:Addr->Bool
 me:Heap->Prop
 kU:∀h h',me h->(∀b o,h.get? b=some o->tab b=true->h'.get? b=some o)->(∀b o,base b=some o->h'.get? b=some o)->me h'
 A0:∀h b,me h->tab b=true->∃o,h.get? b=some o
 j8:Heap->Addr->Str->Prop
 yy:∀h h',me h->(∀b o,h.get? b=some o->tab b=true->h'.get? b=some o)->∀c q,j8 h' c q->j8 h c q
 s₀:Shared
mutual
noncomputable def dT(w:cD):PyData->Int
 |.int i=>gD i
 |.str s=>hashStr w s
 |.tuple xs=>reduceHash<|ez<|k3 w xs
 |_=>0
noncomputable def k3(w:cD):List PyData->List Int
 |[]=>[]
 |x::xs=>dT w x::k3 w xs
end
structure nz(w:cD)(ks:List SV)(ds:List PyData)(hs:List Int):Prop where
 py:eQ ks=some ds
 key:∀d∈ds,eF d=true
 deep:∀d∈ds,d.depth<=b7
 nodup:ds.Nodup
 afG:∀d∈ds,∀d'∈ds,fQ d=fQ d'
 hash:hs=ds.map (dT w)
theorem nz.nil(w:cD):nz w [] [] []:=⟨rfl,λz h=>(absurd h aJ),λz h=>(absurd h aJ),fg,λz h=>(absurd h aJ),rfl⟩
def SG.T1(es:Array (Int×Value))(p:Int->Prop):Prop:=∀e∈es.toList,∃i t,e=(gD i,g5 i t)/\p i
def SG.T2(es:Array (Int×Value))(p:Int->Prop):Prop:=∀i,p i->∃t,(gD i,g5 i t)∈es.toList
structure SG(w:cD)(es:Array (Int×Value))(t:SetTable)(p:Int->Prop):Prop where
 each:SG.T1 es p
 all:SG.T2 es p
 nodup:(es.toList.map (·.1)).Nodup
 low:∀i,p i->0<=i/\i<32
 fits:t.fits es.size=true
 Iw:t.dummies=#[]
 led:w.params.followText "set-order"=true\/t.led=true
structure Cs(w:cD)(es:Array (Int×Value))(t:SetTable)(xs:List Int):Prop where
 g:SG w es t (·∈xs)
 sorted:xs.Pairwise (·<·)
 small:rU xs=true
structure EU(Z:dg)(c:Addr)(as:List Nat):Prop where
 nodup:as.Nodup
 low:∀a∈as,a<gT
 cls:Z.r6 c=true
noncomputable def e7(nm:Nat->Str):List Nat->List DictEntry->Prop
 |[],[]=>True
 |a::A,e::es=>(∃t,e.key=.str (nm a) t)/\e7 nm A es
 |_,_=>False
inductive Cw(Z:dg)(g:FH)(k:Nat)(cells:List Addr)(a:Addr):Prop
 |mk (fd:FuncData) (ni:lH) (c:Addr) (oc:Obj) (vs:Array Value) (t:Tok) (h1:g a=some {cls:=.type "function",data:=.func fd}) (h2:Z.nest k=some ni) (h3:fd.qualname=ni.qual) (h4:fd.params=ni.params) (h5:fd.body=.stmts ni.body) (h6:fd.scope=ni.scope)
  (h7:fd.globals=cg) (h8:fd.builtins=fY) (h9:fd.defaults=.none) (h10:fd.kwdefaults=.none) (h11:fd.closure.map (·.2)=cells) (h12:fd.closure.map (·.1)=ni.free)
  (h13:fd.code=.ref c) (h14:g c=some oc) (h15:oc.data=.fields vs) (h16:vs[1]? =some (.str ni.qual t))
noncomputable abbrev lV(vs:Array Value)(n:Nat):Obj:={cls:=.type "list",data:=.seq vs n}
noncomputable abbrev O7(vs:Array Value)(n:Nat):Obj:={cls:=.type "tuple",data:=.seq vs n}
noncomputable abbrev w8(c:String)(es:Array (Int×Value))(n:Nat)(t:SetTable):Obj:={cls:=.type c,data:=.set es n t}
abbrev wj(es:Array (Int×Value))(n:Nat)(t:SetTable):Obj:=w8 "frozenset" es n t
noncomputable abbrev ZJ(v:Option Value):Obj:={cls:=.type "cell",data:=.cell v}
mutual
noncomputable def RV(Z:dg)(g:FH)(ρ:dM):SV->Value->Prop
 |.none,v=>v=.none
 |.bool b,v=>v=.bool b
 |.int i,v=>∃t,v=.int i t
 |.str s,v=>∃t,v=.str s t
 |.raw x,v=>v=x/\handedIn x=true
 |.tup xs,v=>∃a vs n,v=.ref a/\g a=some (O7 vs n)/\dD Z g ρ xs vs.toList
 |.lst xs,v=>∃a vs n,v=.ref a/\g a=some (lV vs n)/\dD Z g [] xs vs.toList
 |.fW j vs,v=>∃a es n,v=.ref a/\g a=some (dictOf es n)/\dD Z g [] j (es.map (·.key))/\dD Z g [] vs (es.map (·.val))/\(∃D,nz Z.w j D<|es.map (·.hash))/\a≠sysModules
 |.cY xs,v=>∃a es n t,v=.ref a/\g a=some (wj es n t)/\Cs Z.w es t xs
 |.inst c A vs,v=>∃a d es n,v=.ref a/\g a=some (lJ c d)/\g d=some (dictOf es n)/\e7 Z.nm A es/\EU Z c A/\dD Z g [] vs (es.map (·.val))
 |.rh f s,v=>∃a V,v=.ref a/\g a=some (methodObj (.ref f) V)/\RV Z g ρ s V
 |.Jg k cs,v=>∃a e,v=.ref a/\cs.map (λc=>(ρ[c]?).map (·.1))=e.map some/\Cw Z g k e a
 |.h k,v=>∃p,ρ[k]? =some p/\v=.ref p.1
noncomputable def dD(Z:dg)(g:FH)(ρ:dM):List SV->List Value->Prop
 |[],vs=>vs=[]
 |x::xs,vs=>∃v V,vs=v::V/\RV Z g ρ x v/\dD Z g ρ xs V
end
def RO(Z:dg)(g:FH)(ρ:dM)(h:Heap):SO->Addr×Addr->Prop
 |.list xs,p=>p.1=p.2/\∃vs n,h.get? p.1=some (lV vs n)/\dD Z g ρ xs vs.toList
 |.dict k vs,p=>p.1=p.2/\∃es n,h.get? p.1=some (dictOf es n)/\dD Z g [] k (es.map (·.key))/\dD Z g ρ vs (es.map (·.val))/\(∃d,nz Z.w k d<|es.map (·.hash))/\p.1≠sysModules
 |.inst c a vs,p=>p.1≠p.2/\∃es n,h.get? p.1=some (lJ c p.2)/\h.get? p.2=some (dictOf es n)/\e7 Z.nm a es/\EU Z c a/\dD Z g ρ vs (es.map (·.val))
 |.cell v,p=>p.1=p.2/\∃o O,h.get? p.1=some o/\o.data=.cell O/\match v with|none=>O=none|some x=>∃y,O=some y/\RV Z g ρ x y
 |.gone,_=>True
structure dG(g:FH)(ρ:dM)(g':FH)(dp:dM):Prop where
 g:∀b o,g b=some o->g' b=some o
 ρ:∃more,dp=ρ++more
theorem dG.refl(g:FH)(ρ:dM):dG g ρ g ρ:=⟨λz z e=>e,[],by simp⟩
theorem dG.trans{g g' G:FH}{ρ c a:dM}(x:dG g ρ g' c)(y:dG g' c G a):dG g ρ G a:=by refine eS x.ρ λm H=>eS y.ρ λM h=>?_;exact⟨λb o e=>y.g b o<|x.g b o e,m++M,by rw[h,H,aM]⟩
theorem dG.at{g g':FH}{ρ a:dM}(x:dG g ρ g' a){k:Nat}{p:Addr×Addr}(h:ρ[k]? =some p):a[k]? =some p:=by refine eS x.ρ λm H=>?_;rw[H,aK (af.mp h).1];exact h
theorem dG.nil{g g':FH}{ρ a:dM}(x:dG g ρ g' a):dG g [] g' []:=⟨x.g,[],rfl⟩
theorem Cw.mono{Z:dg}{g g':FH}(x:∀b o,g b=some o->g' b=some o):Cw Z g k e a->Cw Z g' k e a:=
 λh=>by
  cases h with
  |mk D N c O V t n p r v w y z A B H d f i j l m=>exact .mk D N c O V t (x _ _ n) p r v w y z A B H d f i (x _ _ j) l m
theorem PR{ρ a:dM}(h:∀(k:Nat)(p:Addr×Addr),ρ[k]? =some p->a[k]? =some p):∀{cs:List Nat}{l:List Addr},cs.map (λc=>(ρ[c]?).map (·.1))=l.map some->cs.map (λc=>(a[c]?).map (·.1))=l.map some:=λ{cs}=>by
 induction cs with
 |nil=>exact λe=>e
 |cons c cs i=>
  intro l e;cases l with
  |nil=>exact nomatch e
  |cons b l=>have e:=gO e;exact List.cons_eq_cons.mpr ⟨cR e.1 λp d H=>by show(a[c]?).map _=_;rw[h _ _ d,<-H];rfl,i e.2⟩
mutual
theorem RV.oE{Z:dg}{g g':FH}{ρ a:dM}(x:dG g ρ g' a):∀(V:SV)(v:Value),RV Z g ρ V v->RV Z g' a V v
 |.none,_=>id
 |.bool _,_=>id
 |.int _,_=>id
 |.str _,_=>id
 |.raw _,_=>id
 |.tup xs,_=>aA λz=>aA λz=>aA λz=>aG<|gI (x.g _ _)<|dD.oE x xs _
 |.lst xs,_=>aA λz=>aA λz=>aA λz=>aG<|gI (x.g _ _)<|dD.oE x.nil xs _
 |.fW k vs,_=>aA λz=>aA λz=>aA λz=>aG<|gI (x.g _ _)<|gI (dD.oE x.nil k _)<|cx<|dD.oE x.nil vs _
 |.cY _,_=>aA λz=>aA λz=>aA λz=>aA λz=>aG<|cx<|x.g _ _
 |.inst _ _ vs,_=>aA λz=>aA λz=>aA λz=>aA λz=>aG<|gI (x.g _ _)<|gI (x.g _ _)<|aG<|aG<|dD.oE x.nil vs _
 |.rh _ s,_=>aA λz=>aA λz=>aG<|gI (x.g _ _)<|RV.oE x s _
 |.Jg _ _,_=>aA λz=>aA λz=>aG<|gI (PR λz z=>x.at)<|Cw.mono x.g
 |.h _,_=>aA λz=>cx x.at
theorem dD.oE{Z:dg}{g g':FH}{ρ a:dM}(x:dG g ρ g' a):∀(xs:List SV)(vs:List Value),dD Z g ρ xs vs->dD Z g' a xs vs
 |[],_=>id
 |y::Y,_=>aA λz=>aA λz=>aG<|gI (RV.oE x y _)<|dD.oE x Y _
end
theorem RV.mono{Z:dg}{g g':FH}{ρ a:dM}(x:dG g ρ g' a):RV Z g ρ V v->RV Z g' a V v:=RV.oE x V v
theorem dD.mono{Z:dg}{g g':FH}{ρ a:dM}(x:dG g ρ g' a):dD Z g ρ xs vs->dD Z g' a xs vs:=dD.oE x xs vs
theorem dG.i7(g:FH)(ρ:dM):dG g [] g ρ:=⟨λz z e=>e,ρ,rfl⟩
mutual
theorem RV.wq{Z:dg}{g:FH}{ρ a:dM}:∀(V:SV)(v:Value),V.free=true->RV Z g ρ V v->RV Z g a V v
 |.none,_,_=>id
 |.bool _,_,_=>id
 |.int _,_,_=>id
 |.str _,_,_=>id
 |.raw _,_,_=>id
 |.tup xs,_,f=>aA λz=>aA λz=>aA λz=>aG<|aG<|dD.wq xs _ f
 |.lst _,_,_=>id
 |.fW _ _,_,_=>id
 |.cY _,_,_=>id
 |.inst _ _ _,_,_=>id
 |.rh _ s,_,f=>aA λz=>aA λz=>aG<|aG<|RV.wq s _ f
 |.Jg _ _,_,f=>absurd f a8
 |.h _,_,f=>absurd f a8
theorem dD.wq{Z:dg}{g:FH}{ρ c:dM}:∀(xs:List SV)(vs:List Value),SV.free.go xs=true->dD Z g ρ xs vs->dD Z g c xs vs
 |[],_,_=>id
 |y::Y,_,f=>aA λz=>aA λz=>aG<|gI (RV.wq y _<|cn f λa z=>a)<|dD.wq Y _<|cn f λz b=>b
end
theorem RV.free{Z:dg}{g:FH}{ρ a:dM}{V:SV}:V.free=true->RV Z g ρ V v->RV Z g a V v:=RV.wq V v
theorem dD.free{Z:dg}{g:FH}{ρ a:dM}:SV.free.go xs=true->dD Z g ρ xs vs->dD Z g a xs vs:=dD.wq xs vs
theorem RO.mono{Z:dg}{g g':FH}{ρ a:dM}{h h':Heap}(x:dG g ρ g' a){p:Addr×Addr}(k:∀b o,b=p.1\/b=p.2->h.get? b=some o->h'.get? b=some o)(r:RO Z g ρ h O p):RO Z g' a h' O p:=by
 revert r;cases O with
 |list xs=>exact aG<|aA λz=>aA λz=>gI (k _ _<|.inl rfl)<|dD.mono x
 |dict d vs=>exact aG<|aA λz=>aA λz=>gI (k _ _<|.inl rfl)<|gI (dD.mono x.nil)<|cx<|dD.mono x
 |inst c as vs=>exact aG<|aA λz=>aA λz=>gI (k _ _<|.inl rfl)<|gI (k _ _<|.inr rfl)<|aG<|aG<|dD.mono x
 |cell v=>
  refine aG<|aA λz=>aA λz=>gI (k _ _<|.inl rfl)<|aG ?_;cases v with
  |none=>exact id
  |some v=>exact aA λz=>aG<|RV.mono x
 |gone=>exact id
def bR.T1(fx:FH)(s:Shared):Prop:=∀b o,fx b=some o->s.heap.get? b=some o
def bR.T2(Z:dg)(st:List SO)(g:FH)(ρ:dM)(s:Shared):Prop:=∀(k:Nat)(o:SO)(p:Addr×Addr),st[k]? =some o->ρ[k]? =some p->RO Z g ρ s.heap o p
def bR.T3(st:List SO)(ρ:dM):Prop:=∀(i j:Nat)(x:Addr)(O J:SO)(p q:Addr×Addr),st[i]? =some O->O.live=true->ρ[i]? =some p->st[j]? =some J->J.live=true->ρ[j]? =some q->(x=p.1\/x=p.2)->(x=q.1\/x=q.2)->i=j
def bR.T4(Z:dg)(st:List SO)(g:FH)(fx:FH)(ρ:dM):Prop:=∀(k:Nat)(o:SO)(p:Addr×Addr)(x:Addr),st[k]? =some o->o.live=true->ρ[k]? =some p->(x=p.1\/x=p.2)->g x=none/\fx x=none/\Z.tab x=false
def bR.T5(Z:dg)(g:FH)(fx:FH):Prop:=∀b,Z.tab b=true->g b=none/\fx b=none
def bR.T6(Z:dg)(g:FH)(s:Shared):Prop:=∀c q,Z.j8 s.heap c q->∃o v t,g c=some o/\o.data=.fields v/\v[1]? =some (.str q t)
structure bR(Z:dg)(st:List SO)(g:FH)(fx:FH)(ρ:dM)(s:Shared):Prop where
 keep:∀b o,g b=some o->s.heap.get? b=some o
 fix:bR.T1 fx s
 len:ρ.length=st.length
 objs:bR.T2 Z st g ρ s
 uniq:bR.T3 st ρ
 off:bR.T4 Z st g fx ρ
 top:∀b o,Z.base b=some o->g b=some o
 tabs:Z.me s.heap
 f6:bR.T5 Z g fx
 q9:∀b o,fx b=some o->g b=none
 same:s.gens=Z.s₀.gens/\s.drawn=Z.s₀.drawn/\s.os=Z.s₀.os
 codes:bR.T6 Z g s
section
variable{Z:dg}{st:List SO}{g fx:FH}{ρ:dM}{s:Shared}
theorem bR.eC(S:bR Z st g fx ρ s):∀b o,Z.base b=some o->s.heap.get? b=some o:=λb o e=>S.keep b o<|S.top b o e
theorem bR.j9(S:bR Z st g fx ρ s){g':FH}{h':Heap}(X:∀b o,g b=some o->g' b=some o)(k:∀b o,s.heap.get? b=some o->Z.tab b=true->h'.get? b=some o):
  ∀c q,Z.j8 h' c q->∃o vs t,g' c=some o/\o.data=.fields vs/\vs[1]? =some (.str q t):=λc q h=>
 (S.codes c q<|Z.yy _ _ S.tabs k c q h).imp λz=>aA λz=>aA λz=>cx<|X _ _
theorem bR.rho(S:bR Z st g fx ρ s){k:Nat}{o:SO}(h:st[k]? =some o):∃p,ρ[k]? =some p:=by have:=(af.mp h).1;rw[<-S.len] at this;exact⟨_,ax this⟩
theorem RO.there(r:RO Z g ρ h O p)(l:O.live=true)(H:x=p.1\/x=p.2):∃o,h.get? x=some o:=by
 cases O with
 |list xs=>obtain⟨e,vs,n,a,_⟩:=r;rcases H with rfl|rfl;exact⟨_,a⟩;exact⟨_,e▸a⟩
 |dict k vs=>obtain⟨e,es,n,a,_⟩:=r;rcases H with rfl|rfl;exact⟨_,a⟩;exact⟨_,e▸a⟩
 |inst c as vs=>obtain⟨e,es,n,a,b,_⟩:=r;rcases H with rfl|rfl;exact⟨_,a⟩;exact⟨_,b⟩
 |cell v=>obtain⟨e,o,V,a,_⟩:=r;rcases H with rfl|rfl;exact⟨_,a⟩;exact⟨_,e▸a⟩
 |gone=>exact ae l
noncomputable def dO(Z:dg)(g:FH)(h h':Heap)(ex:Addr->Bool):FH:=λb=>match g b with
 |some o=>some o
 |none=>if(h.get? b).isNone&&!ex b&&!Z.tab b then h'.get? b else none
theorem b6(e:g b=some o):dO Z g h h' ex b=some o:=by unfold dO;rw[e]
theorem fk(S:bR Z st g fx ρ s){h':Heap}(n:s.heap.get? b=none)(e:h'.get? b=some o)(x:ex b=false)(t:Z.tab b=false):dO Z g s.heap h' ex b=some o:=by
 unfold dO;cases q:g b with
 |some O=>rw[S.keep b O q] at n;exact iG n
 |none=>simp[n,x,t,e]
theorem kc(e:dO Z g h h' ex b=some o):g b=some o\/(h.get? b=none/\ex b=false/\Z.tab b=false/\h'.get? b=some o):=by
 unfold dO at e;cases q:g b with
 |some O=>rw[q] at e;exact .inl e
 |none=>
  rw[q] at e;dsimp only at e;split at e
  ·rename_i c
   simp only[dr,bB,tO] at c;exact .inr ⟨c.1.1,c.1.2,c.2,e⟩
  ·exact aR e
theorem cM{h h':Heap}(e:h.get? b=some o)(H:g b=none):dO Z g h h' ex b=none:=by unfold dO;rw[H,e];rfl
theorem bR.pj(S:bR Z st g fx ρ s)(h:Z.tab b=true):∃o,s.heap.get? b=some o:=Z.A0 _ _ S.tabs h
theorem bR.fresh(S:bR Z st g fx ρ s)(h:s.heap.get? b=none):g b=none/\fx b=none/\Z.tab b=false:=by
 refine⟨?_,?_,?_⟩
 ·cases q:g b with
  |none=>rfl
  |some o=>rw[S.keep b o q] at h;exact iG h
 ·cases q:fx b with
  |none=>rfl
  |some o=>rw[S.fix b o q] at h;exact iG h
 ·cases q:Z.tab b with
  |false=>rfl
  |true=>obtain⟨o,e⟩:=S.pj q;rw[e] at h;exact iG h
theorem bR.iM(S:bR Z st g fx ρ s){k:Nat}{o:SO}{p:Addr×Addr}{x:Addr}(H:st[k]? =some o)(h:o.live=true)(a:ρ[k]? =some p)(b:x=p.1\/x=p.2):∃ob,s.heap.get? x=some ob:=
 (S.objs k o p H a).there h b
theorem dG.grown:dG g ρ (dO Z g h h' ex) ρ:=⟨λz z e=>b6 e,[],by simp⟩
theorem bR.grow(S:bR Z st g fx ρ s){h':Heap}(d:Nat)(h:∀b o,s.heap.get? b=some o->h'.get? b=some o):
  bR Z st (Mine.dO Z g s.heap h' λz=>false) fx ρ {s with heap:=h',toks:=d} where
 keep b o e:=by
  rcases kc e with q|q
  ·exact h _ _<|S.keep _ _ q
  ·exact q.2.2.2
 fix b o e:=h _ _ (S.fix b o e)
 len:=S.len
 objs k o p ho hp:=(S.objs k o p ho hp).mono dG.grown λb ob z e=>h _ _ e
 uniq:=S.uniq
 off k o p x ho hl hp hx:=by refine nK (S.off k o p x ho hl hp hx) λa b c=>⟨?_,b,c⟩;refine eS (S.iM ho hl hp hx) λob e=>?_;unfold dO;rw[a,e];rfl
 top b o e:=b6 (S.top b o e)
 tabs:=Z.kU _ _ S.tabs (λb o e z=>h b o e) λb o e=>h _ _ (S.eC b o e)
 f6 b hb:=by refine⟨?_,(S.f6 b hb).2⟩;unfold dO;rw[(S.f6 b hb).1,hb];simp
 q9 b o e:=cM (S.fix b o e) (S.q9 b o e)
 same:=S.same
 codes:=S.j9 (λz z e=>b6 e) λb o e z=>h b o e
theorem Ml(e:g b=none)(x:ex b=true):dO Z g h h' ex b=none:=by unfold dO;rw[e,x];simp
theorem bR.alloc(S:bR Z st g fx ρ s){h':Heap}(t':Nat)(l:∀b o,s.heap.get? b=some o->h'.get? b=some o)(C:SO)(p:Addr×Addr)(w:s.heap.get? p.1=none)(A:s.heap.get? p.2=none)
  (r:RO Z (Mine.dO Z g s.heap h' λb=>b==p.1||b==p.2) (ρ++[p]) h' C p):
  bR Z (st++[C]) (Mine.dO Z g s.heap h' λb=>b==p.1||b==p.2) fx (ρ++[p]) {s with heap:=h',toks:=t'}:=by
 have X:dG g ρ (dO Z g s.heap h' λb=>b==p.1||b==p.2) (ρ++[p]):=⟨λy y e=>b6 e,[p],rfl⟩
 have D:∀{i:Nat}{o:SO}{q:Addr×Addr}{x:Addr},st[i]? =some o->o.live=true->ρ[i]? =some q->(x=q.1\/x=q.2)->¬(x=p.1\/x=p.2):=λh L H c=>by
  refine eS (S.iM h L H c) λob e=>?_;rintro(z|z)
  ·exact aR<|w.symm.trans<|z▸e
  ·exact aR<|A.symm.trans<|z▸e
 refine⟨λb o e=>?_,λb o e=>l _ _<|S.fix b o e,by rw[aj,aj,S.len];rfl,λk o q h H=>?_,λi j x U V q Y t I v m J n c d=>?_,λk o q x h L H c=>?_,λb o e=>b6<|S.top b o e,Z.kU _ _ S.tabs (λb o e y=>l b o e) λb o e=>l _ _<|S.eC b o e,λb B=>⟨?_,(S.f6 b B).2⟩,λb o e=>cM (S.fix b o e)<|S.q9 b o e,S.same,S.j9 (λy y e=>b6 e) λb o e y=>l b o e⟩
 ·rcases kc e with q|q
  ·exact l _ _<|S.keep _ _ q
  ·exact q.2.2.2
 ·exact qj S.len h H (λh H=>(S.objs k o q h H).mono X λb ob y e=>l _ _ e) λy a b=>a▸b▸r
 ·exact qj S.len t v (λh H=>qj S.len m n (λO Q=>S.uniq i j x U V q Y h I H O J Q c d) λy y b=>absurd (b▸d)<|D h I H c)
   λM y b=>qj S.len m n (λO Q=>absurd (b▸c)<|D O J Q d) λN y y=>M.trans N.symm
 ·refine qj S.len h H (λh H=>?_) λy y b=>?_
  ·refine eS (S.iM h L H c) λob e=>⟨cM e (S.off k o q x h L H c).1,(S.off k o q x h L H c).2⟩
  ·have c:=b▸c;have f:=S.fresh<|c.elim (λz=>z▸w) λz=>z▸A;exact⟨Ml f.1 (by simpa using c),f.2⟩
 ·unfold dO;rw[(S.f6 b B).1,B];simp
theorem pz(e:(st.set k so')[i]? =some o):(i=k/\o=so'/\k<st.length)\/(i≠k/\st[i]? =some o):=by
 rw[tN] at e;split at e
 ·rename_i q
  split at e
  ·exact .inl ⟨q.symm,(aa e).symm,by assumption⟩
  ·exact aR e
 ·rename_i q
  exact .inr ⟨λz=>q z.symm,e⟩
theorem bR.upd(S:bR Z st g fx ρ s){h':Heap}(t':Nat){k:Nat}{O so':SO}{p:Addr×Addr}(m:st[k]? =some O)(f:O.live=true)(t:ρ[k]? =some p)
  (w:∀b o,b≠p.1->b≠p.2->s.heap.get? b=some o->h'.get? b=some o) (r:RO Z (Mine.dO Z g s.heap h' λy=>false) ρ h' so' p):
  bR Z (st.set k so') (Mine.dO Z g s.heap h' λy=>false) fx ρ {s with heap:=h',toks:=t'}:=by
 have Q:∀{b:Addr}{o:Obj},(g b=some o\/fx b=some o)->b≠p.1/\b≠p.2:=by
  intro b o e;refine⟨λz=>?_,λz=>?_⟩
  ·refine nK (S.off k O p b m f t<|.inl z) λa c y=>?_;rcases e with e|e
   ·rw[a] at e;exact aR e
   ·rw[c] at e;exact aR e
  ·refine nK (S.off k O p b m f t<|.inr z) λa c y=>?_;rcases e with e|e
   ·rw[a] at e;exact aR e
   ·rw[c] at e;exact aR e
 have n:∀{b:Addr},Z.tab b=true->b≠p.1/\b≠p.2:=by
  intro b B;refine⟨λz=>?_,λz=>?_⟩
  ·have:=(S.off k O p b m f t<|.inl z).2.2;rw[B] at this;exact ae this
  ·have:=(S.off k O p b m f t<|.inr z).2.2;rw[B] at this;exact ae this
 have d:=λb o e=>w b o (Q<|.inl e).1 (Q<|.inl e).2<|S.keep b o e
 refine⟨?_,λb o e=>w b o (Q<|.inr e).1 (Q<|.inr e).2<|S.fix b o e,by simp[S.len],?_,?_,?_,λb o e=>b6<|S.top b o e,Z.kU _ _ S.tabs (λb o e B=>w b o (n B).1 (n B).2 e) λb o e=>d _ _<|S.top b o e,?_,λb o e=>cM (S.fix b o e)<|S.q9 b o e,S.same,S.j9 (λy y e=>b6 e) λb o e B=>w b o (n B).1 (n B).2 e⟩
 ·intro b o e;rcases kc e with q|q
  ·exact d _ _ q
  ·exact q.2.2.2
 ·intro i o q H h;rcases pz H with ⟨rfl,rfl,_⟩|⟨N,H⟩
  ·rw[t] at h;obtain rfl:=aa h;exact r
  ·by_cases L:o.live=true
   ·refine(S.objs i o q H h).mono dG.grown λb ob B e=>w b ob (λz=>N ?_) (λz=>N ?_) e
    ·exact S.uniq i k b o O q p H L h m f t B<|.inl z
    ·exact S.uniq i k b o O q p H L h m f t B<|.inr z
   ·cases o<;>first|exact U rfl L|trivial
 ·intro i j x oi oj q q' H L h Y V hqj M hx';have get:∀{i:Nat}{o:SO},(st.set k so')[i]? =some o->o.live=true->∃v,st[i]? =some v/\v.live=true:=by
   intro i o e l;rcases pz e with ⟨rfl,rfl,_⟩|⟨_,e⟩
   ·exact⟨O,m,f⟩
   ·exact⟨o,e,l⟩
  refine dn (get H L) λoi' D I=>dn (get Y V) λoj' G J=>?_;exact S.uniq i j x oi' oj' q q' D I h G J hqj M hx'
 ·intro i o q x H L h M;have:∃v,st[i]? =some v/\v.live=true:=by
   rcases pz H with ⟨rfl,rfl,_⟩|⟨_,e⟩
   ·exact⟨O,m,f⟩
   ·exact⟨o,e,L⟩
  refine dn this λv C A=>nK (S.off i v q x C A h M) λa b c=>?_;refine⟨?_,b,c⟩;refine eS (S.iM C A h M) λob e=>?_;unfold dO;rw[a,e];rfl
 ·intro b B;refine⟨?_,(S.f6 b B).2⟩;unfold dO;rw[(S.f6 b B).1,B];simp
noncomputable def frozen(g:FH)(h:Heap)(p:Addr×Addr):FH:=λb=>if b=p.1\/b=p.2 then h.get? b else g b
theorem dG.frozen(S:bR Z st g fx ρ s){k:Nat}{O:SO}{p:Addr×Addr}(H:st[k]? =some O)(h:O.live=true)(a:ρ[k]? =some p):dG g ρ (frozen g s.heap p) ρ:=by refine⟨λb o e=>?_,[],by simp⟩;unfold Mine.frozen;rw[if_neg (λz=>by rw[(S.off k O p b H h a z).1] at e;exact aR e)];exact e
theorem bR.freeze(S:bR Z st g fx ρ s){k:Nat}{O:SO}{p:Addr×Addr}(f:st[k]? =some O)(d:O.live=true)(m:ρ[k]? =some p):bR Z (st.set k .gone) (Mine.frozen g s.heap p) fx ρ s:=by
 have X:=dG.frozen S f d m;have get:∀{i:Nat}{o:SO},(st.set k .gone)[i]? =some o->o.live=true->i≠k/\st[i]? =some o:=by
  intro i o e l;rcases pz e with ⟨rfl,rfl,_⟩|⟨n,e⟩
  ·exact ae l
  ·exact⟨n,e⟩
 refine⟨?_,S.fix,by simp[S.len],?_,?_,?_,λb o e=>X.g _ _<|S.top b o e,S.tabs,?_,?_,S.same,S.j9 X.g λy y e y=>e⟩
 ·intro b o e;unfold frozen at e;split at e
  ·exact e
  ·exact S.keep b o e
 ·intro i o q H Q;by_cases h:o.live=true
  ·exact(S.objs i o q (get H h).2 Q).mono X λy y y e=>e
  ·cases o<;>first|exact r rfl h|trivial
 ·intro i j x I A q C H h Q J L v t w;exact S.uniq i j x I A q C (get H h).2 h Q (get J L).2 L v t w
 ·intro i o q x H h Q t;refine i9 (get H h) λn H=>nK (S.off i o q x H h Q t) λa b c=>?_;refine⟨?_,b,c⟩;unfold frozen;rw[if_neg λz=>n<|S.uniq i k x o O q p H h Q f d m t z];exact a
 ·intro b B;refine⟨?_,(S.f6 b B).2⟩;unfold frozen;rw[if_neg (λz=>by have:=(S.off k O p b f d m z).2.2;rw[B] at this;exact ae this)];exact(S.f6 b B).1
 ·intro b o e;unfold frozen;rw[if_neg (λz=>by have:=(S.off k O p b f d m z).2.1;rw[e] at this;exact iG this)];exact S.q9 b o e
noncomputable def g0(fx:FH)(a:Addr)(o:Obj):FH:=λb=>if b=a then some o else fx b
theorem cO{fx:FH}:g0 fx a o a=some o:=by simp[g0]
theorem cm{fx:FH}(h:b≠a):g0 fx a o b=fx b:=by simp[g0,h]
theorem bR.weaken(S:bR Z st g fx ρ s)(h:∀b o,f b=some o->fx b=some o):bR Z st g f ρ s where
 keep:=S.keep
 fix b o e:=S.fix b o (h b o e)
 len:=S.len
 objs:=S.objs
 uniq:=S.uniq
 off k o p x ho hl hp hx:=by
  refine nK (S.off k o p x ho hl hp hx) λa b c=>⟨a,?_,c⟩;cases q:f x with
  |none=>rfl
  |some O=>rw[h x O q] at b;exact iG b
 top:=S.top
 tabs:=S.tabs
 f6 b hb:=by
  refine⟨(S.f6 b hb).1,?_⟩;cases q:f b with
  |none=>rfl
  |some O=>have:=(S.f6 b hb).2;rw[h b O q] at this;exact iG this
 q9 b o e:=S.q9 b o (h b o e)
 same:=S.same
 codes:=S.codes
theorem bR.Em(S:bR Z st g fx ρ s){h':Heap}(f:Nat)(h:∀b o,s.heap.get? b=some o->h'.get? b=some o)(a:Addr)(o:Obj)(n:s.heap.get? a=none)(H:h'.get? a=some o):
  bR Z st (Mine.dO Z g s.heap h' λb=>b==a) (g0 fx a o) ρ {s with heap:=h',toks:=f} where
 keep b ob e:=by
  rcases kc e with q|q
  ·exact h _ _<|S.keep _ _ q
  ·exact q.2.2.2
 fix b ob e:=by
  unfold g0 at e;split at e
  ·rename_i q;obtain rfl:=aa e;rw[q];exact H
  ·exact h _ _ (S.fix b ob e)
 len:=S.len
 objs k o p H hp:=(S.objs k o p H hp).mono ⟨λy y e=>b6 e,[],by simp⟩ λb ob y e=>h _ _ e
 uniq:=S.uniq
 off k so p x hso hl hp hx:=by refine nK (S.off k so p x hso hl hp hx) λQ c d=>eS (S.iM hso hl hp hx) λob e=>?_;refine⟨cM e Q,?_,d⟩;rw[cm (λz=>by rw[z,n] at e;exact aR e)];exact c
 top b o e:=b6 (S.top b o e)
 tabs:=Z.kU _ _ S.tabs (λb o e y=>h b o e) λb o e=>h _ _ (S.eC b o e)
 f6 b hb:=by refine eS (S.pj hb) λob e=>⟨cM e (S.f6 b hb).1,?_⟩;rw[cm (λz=>by rw[z,n] at e;exact aR e)];exact(S.f6 b hb).2
 q9 b ob e:=by
  unfold g0 at e;split at e
  ·rename_i q;unfold dO;rw[(S.fresh<|q▸n).1];simp[q]
  ·exact cM (S.fix b ob e) (S.q9 b ob e)
 same:=S.same
 codes:=S.j9 (λy y e=>b6 e) λb o e y=>h b o e
theorem bR.El(S:bR Z st g fx ρ s){h':Heap}(B:Nat){a:Addr}{o n:Obj}(A:fx a=some o)(i:∀b ob,b≠a->s.heap.get? b=some ob->h'.get? b=some ob)(m:h'.get? a=some n):
  bR Z st (Mine.dO Z g s.heap h' λy=>false) (g0 fx a n) ρ {s with heap:=h',toks:=B}:=by
 have G:=S.q9 a o A
 have c:=λb ob e=>i b ob (λz=>by rw[z,G] at e;exact aR e)<|S.keep b ob e
 have f:∀{k:Nat}{O:SO}{p:Addr×Addr}{x:Addr},st[k]? =some O->O.live=true->ρ[k]? =some p->(x=p.1\/x=p.2)->x≠a:=by intro k O p x h l d j z;have:=(S.off k O p x h l d j).2.1;rw[z,A] at this;exact iG this
 refine⟨?_,?_,S.len,?_,S.uniq,?_,λb o e=>b6<|S.top b o e,Z.kU _ _ S.tabs (λb ob e H=>i b ob (λz=>by have:=(S.f6 b H).2;rw[z,A] at this;exact iG this) e) λb o e=>c _ _<|S.top b o e,?_,?_,S.same,S.j9 (λy y e=>b6 e) λb ob e H=>i b ob (λz=>by have:=(S.f6 b H).2;rw[z,A] at this;exact iG this) e⟩
 ·intro b ob e;rcases kc e with q|q
  ·exact c _ _ q
  ·exact q.2.2.2
 ·intro b ob e;unfold g0 at e;split at e
  ·rename_i q;obtain rfl:=aa e;rw[q];exact m
  ·rename_i q;exact i _ _ q<|S.fix b ob e
 ·intro k O p h d;by_cases l:O.live=true
  ·exact(S.objs k O p h d).mono ⟨λy y e=>b6 e,[],by simp⟩ λb ob H e=>i b ob (f h l d H) e
  ·cases O<;>first|exact r rfl l|trivial
 ·intro k O p x h l d j;refine nK (S.off k O p x h l d j) λQ v w=>eS (S.iM h l d j) λob e=>?_;refine⟨cM e Q,?_,w⟩;rw[cm<|f h l d j];exact v
 ·intro b H;refine eS (S.pj H) λob e=>⟨cM e (S.f6 b H).1,?_⟩;rw[cm (λz=>by have:=(S.f6 b H).2;rw[z,A] at this;exact iG this)];exact(S.f6 b H).2
 ·intro b ob e;unfold g0 at e;split at e
  ·rename_i q;rw[q];exact cM (S.fix a o A) G
  ·exact cM (S.fix b ob e)<|S.q9 b ob e
theorem bR.settle{a:Addr}{o:Obj}(S:bR Z st g (g0 fx a o) ρ s)(N:fx a=none):bR Z st (g0 g a o) fx ρ s:=by
 have G:=S.q9 a o cO;have n:∀{b:Addr}{ob:Obj},fx b=some ob->b≠a:=λe z=>by rw[z,N] at e;exact aR e
 have X:dG g ρ (g0 g a o) ρ:=⟨λb ob e=>by rw[cm (λz=>by rw[z,G] at e;exact aR e)];exact e,[],by simp⟩;refine⟨?_,λb ob e=>S.fix b ob (by rw[cm<|n e];exact e),S.len,λk O p h c=>(S.objs k O p h c).mono X λy y y e=>e,S.uniq,?_,λb ob e=>X.g _ _<|S.top b ob e,S.tabs,?_,?_,S.same,S.j9 X.g λy y e y=>e⟩
 ·intro b ob e;unfold g0 at e;split at e
  ·rename_i q;obtain rfl:=aa e;rw[q];exact S.fix a o cO
  ·exact S.keep b ob e
 ·intro k O p x h l c d;refine nK (S.off k O p x h l c d) λf Q i=>?_;have A:x≠a:=λz=>by rw[z,cO] at Q;exact iG Q
  rw[cm A] at Q;exact⟨by rw[cm A];exact f,Q,i⟩
 ·intro b B;have q:=S.f6 b B;have H:b≠a:=λz=>by rw[z,cO] at q;cases q.2
  rw[cm H] at q;exact⟨by rw[cm H];exact q.1,q.2⟩
 ·intro b ob e;rw[cm<|n e];exact S.q9 b ob (by rw[cm<|n e];exact e)
theorem bR.adopt(S:bR Z st g (g0 fx a o) ρ s)(G:fx a=none)(v:SO)(r:RO Z g (ρ++[(a,a)]) s.heap v (a,a)):bR Z (st++[v]) g fx (ρ++[(a,a)]) s:=by
 have Y:=S.q9 a o cO;have X:dG g ρ g (ρ++[(a,a)]):=⟨λy y e=>e,[(a,a)],rfl⟩;have V:∀{b:Addr}{ob:Obj},fx b=some ob->g0 fx a o b=some ob:=λ{b ob} e=>(cm λz=>aR<|G.symm.trans<|z▸e).trans e;have N:∀{b:Addr},g0 fx a o b=none->b≠a/\fx b=none:=λ{b} e=>by have B:b≠a:=λz=>aR<|(show g0 fx a o a=none from z▸e).symm.trans cO;exact⟨B,(cm B).symm.trans e⟩
 have xo:∀{x:Addr},x=a\/x=a->x=a:=λh=>h.elim id id;have D:∀{i:Nat}{v:SO}{q:Addr×Addr}{x:Addr},st[i]? =some v->v.live=true->ρ[i]? =some q->(x=q.1\/x=q.2)->x≠a:=λl m h3 h4=>(N (S.off _ _ _ _ l m h3 h4).2.1).1;refine⟨S.keep,λb ob e=>S.fix b ob<|V e,by rw[aj,aj,S.len];rfl,λk d p O w=>?_,λi j x oi oj q q' I L A n J t f c=>?_,λk d p x O hl w f=>?_,S.top,S.tabs,λb B=>⟨(S.f6 b B).1,(N (S.f6 b B).2).2⟩,λb ob e=>S.q9 b ob<|V e,S.same,S.codes⟩
 ·exact qj S.len O w (λl m=>(S.objs k d p l m).mono X λy y y e=>e) λy a b=>a▸b▸r
 ·exact qj S.len I A (λM U=>qj S.len n t (λH Q=>S.uniq i j x oi oj q q' M L U H J Q f c) λy y b=>absurd (xo (by subst b;exact c))<|D M L U f)
   λhi y b=>qj S.len n t (λH Q=>absurd (xo (by subst b;exact f))<|D H J Q c) λhj y y=>hi.trans hj.symm
 ·refine qj S.len O w (λl m=>?_) λy y b=>?_
  ·have q:=S.off k d p x l hl m f;exact⟨q.1,(N q.2.1).2,q.2.2⟩
  ·have C:x=a:=xo (by subst b;exact f);subst C;refine⟨Y,G,?_⟩;cases q:Z.tab x with
   |false=>rfl
   |true=>exact aR<|(S.f6 x q).2.symm.trans cO
open Classical in
def r7(st:List SO)(ρ:dM)(h:Heap)(fx:FH):FH:=λb=>if ∃(k:Nat)(o:SO)(p:Addr×Addr),st[k]? =some o/\o.live=true/\ρ[k]? =some p/\(b=p.1\/b=p.2) then h.get? b else fx b
theorem BN(S:bR Z st g fx ρ s)(e:fx b=some o):r7 st ρ s.heap fx b=some o:=by
 unfold r7;rw[if_neg]
 ·exact e
 ·rintro⟨k,O,p,h,H,a,c⟩;have:=(S.off k O p b h H a c).2.1;rw[e] at this;exact iG this
theorem bR.hide(S:bR Z st g fx ρ s):bR Z [] g (r7 st ρ s.heap fx) [] s:=by
 refine⟨S.keep,?_,rfl,λk o p h=>by simp at h,λi j x I J p q h=>by simp at h,λk o p x h=>by simp at h,S.top,S.tabs,?_,?_,S.same,S.codes⟩
 ·intro b o e;unfold r7 at e;split at e
  ·exact e
  ·exact S.fix b o e
 ·intro b B;refine⟨(S.f6 b B).1,?_⟩;unfold r7;rw[if_neg]
  ·exact(S.f6 b B).2
  ·rintro⟨k,O,p,H,a,c,d⟩;have:=(S.off k O p b H a c d).2.2;rw[B] at this;exact ae this
 ·intro b o e;unfold r7 at e;split at e
  ·rename_i q
   refine x34 q λk O p H a c d=>(S.off k O p b H a c d).1
  ·exact S.q9 b o e
theorem bR.JX{g':FH}{t:List SO}{f:dM}{s':Shared}(S:bR Z st g fx ρ s)(X:∀b o,g b=some o->g' b=some o)(a:bR Z t g' (r7 st ρ s.heap fx) f s'):bR Z st g' fx ρ s':=by
 have l:∀{k:Nat}{O:SO}{p:Addr×Addr}{b:Addr},st[k]? =some O->O.live=true->ρ[k]? =some p->(b=p.1\/b=p.2)->r7 st ρ s.heap fx b=s.heap.get? b:=by intro k O p b i j m n;unfold r7;rw[if_pos ⟨k,O,p,i,j,m,n⟩]
 refine⟨a.keep,λb o e=>a.fix b o<|BN S e,S.len,?_,S.uniq,?_,λb o e=>X _ _<|S.top b o e,a.tabs,?_,λb o e=>a.q9 b o<|BN S e,a.same,a.codes⟩
 ·intro k O p h c;by_cases H:O.live=true
  ·exact(S.objs k O p h c).mono ⟨X,[],by simp⟩ λb ob B e=>a.fix b ob (by rw[l h H c B];exact e)
  ·cases O<;>first|exact r rfl H|trivial
 ·intro k O p x h H c d;refine nK (S.off k O p x h H c d) λw Q v=>eS (S.iM h H c d) λob e=>?_;exact⟨a.q9 x ob (by rw[l h H c d];exact e),Q,v⟩
 ·intro b B;refine⟨(a.f6 b B).1,(S.f6 b B).2⟩
end
abbrev bL:=List<|Str×cj
structure wU(Z:dg)(mg mb:Str->Option Value):Prop where
 g:∃o,Z.base cg=some o/\q8 o mg
 b:∃o,Z.base fY=some o/\q8 o mb
 st:∃o mc,Z.base CR=some o/\q8 o mc/\mc "sys.recursionlimit"=none/\mc "sys.int_max_str_digits"=none
def dA.T1(ns:bL)(env:Env):Prop:=∀n,ns.lookup n=some .local->env.kindOf n=some .local
def dA.T2(ns:bL)(env:Env):Prop:=∀n,ns.lookup n=some .cell->env.kindOf n=some .cell
def dA.T3(ns:bL)(env:Env):Prop:=∀n,ns.lookup n=some .free->env.kindOf n=some .cell\/env.kindOf n=some .free
def dA.T4(ns:bL)(env:Env):Prop:=∀n,ns.lookup n=some .globalImplicit->env.kindOf n=some .globalImplicit
def dA.T5(ns:bL):Prop:=∀p∈ns,(p.1==("__debug__":Str))=false/\(p.1==("__classdict__":Str))=false
structure dA(ns:bL)(env:Env):Prop where
 kind:env.scope.kind=.function
 loc:dA.T1 ns env
 cell:dA.T2 ns env
 free:dA.T3 ns env
 glob:dA.T4 ns env
 globals:env.globals=cg
 builtins:env.builtins=fY
 nodup:(ns.map (·.1)).Nodup
 nf:dA.T5 ns
def kP.T1(Z:dg)(g:FH)(ρ:dM)(ns:bL)(lo:List LV)(m:Str->Option Value):Prop:=∀(i:Nat)(n:Str),ns[i]? =some (n,cj.local)->∃l,lo[i]? =some l/\(l=LV.un\/∃v y,l=LV.val v/\m n=some y/\RV Z g ρ v y)
def kP.T2(ρ:dM)(env:Env)(ns:bL)(lo:List LV):Prop:=∀(i:Nat)(n:Str)(k:cj),ns[i]? =some (n,k)->(k=.cell\/k=.free)->∃c p,lo[i]? =some (LV.cell c)/\ρ[c]? =some p/\env.cells.lookup n=some p.1
structure kP(Z:dg)(g:FH)(ρ:dM)(env:Env)(ns:bL)(lo:List LV)(m:Str->Option Value):Prop where
 loc:kP.T1 Z g ρ ns lo m
 p9:kP.T2 ρ env ns lo
structure o5(Z:dg)(g:FH)(ρ:dM)(env:Env)(ns:bL)(loc:List LV)(fx:FH):Prop where
 is:∃o m,fx env.locals=some o/\q8 o m/\kP Z g ρ env ns loc m
structure c7(Z:dg)(ns:bL)(env:Env)(σ:ba)(g fx:FH)(ρ:dM)(s:Shared):Prop where
 eN:bR Z σ.st g fx ρ s
 yp:o5 Z g ρ env ns σ.loc fx
structure rj(n:Nat)(A:bq):Prop where
 handled:A.handled=none
 depth:A.depth+8*n+8<CK
 units:A.units+100*n+100<cLine
noncomputable abbrev Mo(Z:dg):Model:=model Z.prog Z.w
def br(Z:dg)(A:bq)(t:xM Value)(st':List SO)(v:SV)(g fx:FH)(ρ:dM)(s:Shared):Prop:=
 ∀(E:Value->Shared->Prop)(Q:Value->Shared->Prop),(∀g' dp a y,dG g ρ g' dp->bR Z st' g' fx dp a->RV Z g' dp v y->Q y a)->au (Mo Z) A t Q E s
def pP(Z:dg)(A:bq)(t:xM Unit)(st':List SO)(g fx:FH)(ρ:dM)(s:Shared):Prop:=
 ∀(E:Value->Shared->Prop)(Q:Unit->Shared->Prop),(∀g' dp a,dG g ρ g' dp->bR Z st' g' fx dp a->Q () a)->au (Mo Z) A t Q E s
section
variable{Z:dg}{st st':List SO}{g g' fx:FH}{ρ dp:dM}{s:Shared}{env:Env}{ns:bL}{σ:ba}{A:bq}{E:Value->Shared->Prop}
theorem bR.tok(S:bR Z st g fx ρ s)(t:Nat):bR Z st g fx ρ {s with toks:=t}:=⟨S.keep,S.fix,S.len,S.objs,S.uniq,S.off,S.top,S.tabs,S.f6,S.q9,S.same,S.codes⟩
theorem kP.mono{loc:List LV}{m:Str->Option Value}(x:dG g ρ g' dp)(L:kP Z g ρ env ns loc m):kP Z g' dp env ns loc m where
 loc i n h:=by refine dn (L.loc i n h) λl a b=>⟨l,a,b.imp id ?_⟩;rintro⟨v,y,e,c,r⟩;exact xW v y e c (r.mono x)
 p9 i n k h hk:=(L.p9 i n k h hk).imp λz=>aA λz=>aG<|cx x.at
theorem o5.mono(x:dG g ρ g' dp)(F:o5 Z g ρ env ns l fx):o5 Z g' dp env ns l fx:=⟨F.is.imp λz=>aA λz=>aG<|aG λc=>c.mono x⟩
theorem o5.Yf(F:o5 Z g ρ env ns l fx)(S:bR Z st g fx ρ s):∃m,s.heap.Ns env.locals m/\kP Z g ρ env ns l m:=
 F.is.elim λy z=>z.imp λy z=>⟨z.2.1.ns<|S.fix _ _ z.1,z.2.2⟩
theorem PY{ns:bL}:∀{j:Nat},eu x ns j=some r->∃d,r.1=j+d/\ns[d]? =some (x,r.2)/\ns.lookup x=some r.2:=by
 induction ns with
 |nil=>intro _ h;exact aR h
 |cons p ns i=>
  intro j h;unfold eu at h;cases q:hH p.1 x with
  |true=>
   rw[q] at h;have a:=mD q;have H:=aa h;refine xX 0 (H▸rfl) ?_ ?_
   ·rw[<-H,<-a];rfl
   ·rw[<-H,<-a,bY,beq_self_eq_true]
  |false=>rw[q] at h;refine sA (i h) λd b c e=>xX (d+1) (b.trans<|fc j d) c ?_;rw[bY,beq_eq_false_iff_ne.mpr<|ff<|J9 q];exact e
theorem gw(h:eu x ns 0=some (i,k)):ns[i]? =some (x,k)/\ns.lookup x=some k:=by refine dn (PY h) λd H a=>?_;have H:i=d:=H.trans<|b9 d;subst H;exact a
theorem H8(hp:eu x ns 0=some (i,k))(a:k=.local\/k=.cell\/k=.free)
  (t:kF i σ=some v) (V:dA ns env) (G:c7 Z ns env σ g fx ρ s) (h:∀y,RV Z g ρ v y->Q y s):
  au (Mo Z) A (eval (.Name x C) env) Q E s:=by
 refine i9 (gw hp) λI B=>dn (G.yp.Yf G.eN) λm hn L=>?_
 have D:=V.nf _<|aH I
 have e:(k=.cell\/k=.free)->(env.kindOf x=some .cell\/env.kindOf x=some .free)->au (Mo Z) A (eval (.Name x C) env) Q E s:=by intro w n;refine iz (L.p9 i x k I w) λc p H f b=>uO t (λh=>LV.noConfusion<|aa<|H.symm.trans h) λj J Y=>?_;obtain rfl:=lvC<|aa<|H.symm.trans J;obtain⟨_,o,ov,M,d,y,rfl,r⟩:=G.eN.objs _ _ p Y f;exact CG (n.elim (λa=>RW V.kind a b ⟨_,M,d⟩<|h y r) λa=>RU V.kind a b ⟨_,M,d⟩ (h y r) D.2) D.1
 rcases a with rfl|rfl|rfl
 ·refine dn (L.loc i x I) λlv H f=>?_;rcases f with rfl|⟨v',y,rfl,b,r⟩
  ·exact uO t (λh=>LV.noConfusion<|aa<|H.symm.trans h) λj J z=>LV.noConfusion<|aa<|H.symm.trans J
  ·refine uO t (λU=>?_) λj J z=>LV.noConfusion<|aa<|H.symm.trans J;obtain rfl:=lvV<|aa<|H.symm.trans U;exact CG (Of V.kind (V.loc _ B) hn b<|h y r) D.1
 ·exact e (.inl rfl)<|.inl<|V.cell _ B
 ·exact e (.inr rfl)<|V.free _ B
theorem kP.store{loc:List LV}{m:Str->Option Value}(L:kP Z g ρ env ns loc m)(V:dA ns env)(I:ns[i]? =some (x,.local))(r:RV Z g ρ v y):
  kP Z g ρ env ns (loc.set i<|.val v) (λn=>if n=x then some y else m n) where
 loc j n H:=by
  refine dn (L.loc j n H) λl h1 h2=>?_;by_cases h:j=i
  ·subst h;obtain⟨rfl,-⟩:=fy<|aa<|I.symm.trans H;refine⟨.val v,?_,.inr ⟨v,y,rfl,by simp,r⟩⟩;rw[dJ (af.mp h1).1]
  ·refine⟨l,by rw[bJ<|ff h];exact h1,h2.imp id ?_⟩;rintro⟨t,Y,e,d,f⟩;refine xW t Y e ?_ f;have N:n≠x:=by
    rintro rfl;have b:(ns.map (·.1))[j]? =some n:=by rw[ai,H];rfl
    have e2:(ns.map (·.1))[i]? =some n:=by rw[ai,I];rfl
    exact h<|(ie (af.mp b).1 V.nodup).mp<|b.trans e2.symm
   exact(if_neg N).trans d
 p9 j n k H a:=by
  refine pg (L.p9 j n k H a) λc p h1 h2=>XI c p ?_ h2;have h:j≠i:=by rintro rfl;obtain⟨rfl,rfl⟩:=fy<|aa<|I.symm.trans H;rcases a with a|a<;>exact cE a
  rw[bJ<|ff h];exact h1
theorem jR{k:cj}{bk:ba}{Q:Unit->Shared->Prop}(hp:eu x ns 0=some (i,k))(hk:k=.local\/k=.cell)
  (he:gu i v σ=some bk) (V:dA ns env) (G:c7 Z ns env σ g fx ρ s) (r:RV Z g ρ v y)
  (h:∀g' o s',dG g ρ g' ρ->c7 Z ns env bk g' (g0 fx env.locals o) ρ s'->Q () s'):
  au (Mo Z) A (storeName env x y) Q E s:=by
 refine i9 (gw hp) λM hl=>iz G.yp.is λoL m w hO L=>?_
 have N:=hO.ns<|G.eN.fix _ _ w
 have n:(env.scope.kind==.class||(env.scope.kind==.module&&env.locals != env.globals))=false:=by rw[V.kind];rfl
 rcases hk with rfl|rfl
 ·refine dn (L.loc i x M) λlv f t=>zi he (λj ov J z z=>?_) λlv' z z e=>?_
  ·rcases t with rfl|⟨_,_,rfl,_⟩<;>exact LV.noConfusion<|aa<|f.symm.trans J
  subst e;refine wpAny_storeName_local (V.loc _ hl) N (λh' U a=>?_) n;refine dn (kB U) λO H B=>h _ O _ ⟨λz z e=>b6 e,[],by simp⟩ ⟨G.eN.El _ w (λb ob D e=>(a.2 b D).trans e) H,⟨O,_,cO,B,?_⟩⟩;exact(L.store V M r).mono ⟨λz z e=>b6 e,[],by simp⟩
 ·refine iz (L.p9 i x _ M<|.inl rfl) λc p f t h3=>zi he (λj ov J hc e=>?_) λlv J N z=>absurd (aa<|J.symm.trans f)<|N c;obtain rfl:=lvC<|aa<|f.symm.trans J;subst e
  ·obtain⟨Y,o,ov',ho,d,_⟩:=G.eN.objs c _ p hc t;refine wpAny_storeName_cell V.kind (V.cell _ hl) h3 ⟨_,ho,d⟩ λh' I a=>?_;have C:dG g ρ (dO Z g s.heap h' λz=>false) ρ:=⟨λz z e=>b6 e,[],by simp⟩;have S':=G.eN.upd s.toks (so':=.cell<|some v) hc rfl t (λb o D z e=>(a.2 b D).trans e) ?_
   ·refine h _ oL _ C ⟨S'.weaken ?_,⟨oL,m,cO,hO,L.mono C⟩⟩;intro b o e;unfold g0 at e;split at e
    ·rename_i q;rw[q];obtain rfl:=aa e;exact w
    ·exact e
   ·refine dn I λO H d=>⟨Y,O,some y,H,d,y,rfl,r.mono C⟩
end
section
section
variable{Z:dg}{g:FH}{ρ:dM}{h:Heap}
mutual
theorem vu{P:SV->PyData->Prop}{Q:List SV->List PyData->Prop}(n:P .none .none)(b:∀b,P (.bool b)<|.bool b)(i:∀i,P (.int i)<|.int i)(s:∀s,c6 s=true->P (.str s) (.str s))(t:∀xs D,Q xs D->P (.tup xs) (.tuple D))(l:∀xs D,Q xs D->P (.lst xs) (.list D))(z:Q [] [])(c:∀x xs d D,P x d->Q xs D->Q (x::xs) (d::D)):∀{v:SV}{d:PyData},ls v=some d->P v d
 |.none,_,e=>aa e▸n
 |.bool x,_,e=>aa e▸b x
 |.int x,_,e=>aa e▸i x
 |.str x,_,e=>iZ e λq e=>e▸s x q
 |.tup xs,_,e=>cR e λD e H=>H▸t xs D (my n b i s t l z c e)
 |.lst xs,_,e=>cR e λD e H=>H▸l xs D (my n b i s t l z c e)
 |.raw _,_,e=>aR e
 |.fW _ _,_,e=>aR e
 |.cY _,_,e=>aR e
 |.inst _ _ _,_,e=>aR e
 |.rh _ _,_,e=>aR e
 |.Jg _ _,_,e=>aR e
 |.h _,_,e=>aR e
theorem my{P:SV->PyData->Prop}{Q:List SV->List PyData->Prop}(n:P .none .none)(b:∀b,P (.bool b)<|.bool b)(i:∀i,P (.int i)<|.int i)(s:∀s,c6 s=true->P (.str s) (.str s))(t:∀xs D,Q xs D->P (.tup xs) (.tuple D))(l:∀xs D,Q xs D->P (.lst xs) (.list D))(z:Q [] [])(c:∀x xs d D,P x d->Q xs D->Q (x::xs) (d::D)):∀{xs:List SV}{D:List PyData},eQ xs=some D->Q xs D
 |[],_,e=>aa e▸z
 |x::xs,_,e=>av e λd H e=>cR e λD a f=>f▸c x xs d D (vu n b i s t l z c H) (my n b i s t l z c a)
end
abbrev RE(Z:dg)(g:FH)(h:Heap)(V:SV)(d:PyData):Prop:=∀{ρ:dM}{v:Value},RV Z g ρ V v->∃a,jD h v d a
abbrev NH(Z:dg)(g:FH)(h:Heap)(xs:List SV)(d:List PyData):Prop:=∀{ρ:dM}{v:List Value},dD Z g ρ xs v->∃a,lS h v d a
theorem Fy:RE Z g h .none .none:=λ{_ _} r=>by obtain rfl:=r;exact⟨_,.none⟩
theorem FA(b:Bool):RE Z g h (.bool b) (.bool b):=λ{_ _} r=>by obtain rfl:=r;exact⟨_,.bool b⟩
theorem K7(i:Int):RE Z g h (.int i) (.int i):=λ{_ _} r=>by obtain⟨t,rfl⟩:=r;exact⟨_,.int i t⟩
theorem K3(s:Str)(_:c6 s=true):RE Z g h (.str s) (.str s):=λ{_ _} r=>by obtain⟨t,rfl⟩:=r;exact⟨_,.str s t⟩
theorem K2(k:∀b o,g b=some o->h.get? b=some o)(xs:List SV)(d:List PyData)(q:NH Z g h xs d):RE Z g h (.tup xs) (.tuple d):=λ{_ _} r=>by refine nZ r λa v n c H e=>?_;subst c;exact(q e).elim λz r=>⟨_,.tuple (k _ _ H) rfl rfl r⟩
theorem K6(k:∀b o,g b=some o->h.get? b=some o)(xs:List SV)(d:List PyData)(q:NH Z g h xs d):RE Z g h (.lst xs) (.list d):=λ{_ _} r=>by refine nZ r λa v n c H e=>?_;subst c;exact(q e).elim λz r=>⟨_,.list (k _ _ H) rfl rfl r⟩
theorem K5:NH Z g h [] []:=λ{_ _} r=>by obtain rfl:=r;exact⟨_,.nil⟩
theorem Fz(x:SV)(xs:List SV)(d:PyData)(D:List PyData)(q1:RE Z g h x d)(q2:NH Z g h xs D):NH Z g h (x::xs) (d::D):=λ{_ _} r=>by refine iz r λv V c e f=>?_;subst c;exact(q1 e).elim λz a=>(q2 f).elim λz b=>⟨_,.cons a b⟩
theorem RV.reads(k:∀b o,g b=some o->h.get? b=some o){ρ:dM}(e:ls V=some d)(r:RV Z g ρ V v):∃c,jD h v d c:=
 vu (P:=λa b=>RE Z g h a b) Fy FA K7 K3 (K2 k) (K6 k) K5 Fz e r
theorem dD.reads(k:∀b o,g b=some o->h.get? b=some o){ρ:dM}(e:eQ xs=some d)(r:dD Z g ρ xs vs):∃c,lS h vs d c:=
 my (P:=λa b=>RE Z g h a b) Fy FA K7 K3 (K2 k) (K6 k) K5 Fz e r
theorem F1{d:PyData}(a:d.canLay0=true)(b:hV D=true):hV (d::D)=true:=bK.mpr ⟨a,b⟩
theorem vt(e:ls v=some d):d.canLay0=true:=
 vu (Q:=λz D=>hV D=true) rfl (λz=>rfl) (λz=>rfl) (λz h=>h) (λz z h=>h) (λz z h=>h) rfl (λz z z z=>F1) e
theorem sT(e:eQ xs=some d):hV d=true:=
 my (Q:=λz d=>hV d=true) rfl (λz=>rfl) (λz=>rfl) (λz h=>h) (λz z h=>h) (λz z h=>h) rfl (λz z z z=>F1) e
theorem dD.length:∀{vs:List Value}{ρ:dM},dD Z g ρ xs vs->vs.length=xs.length:=by
 induction xs with
 |nil=>intro vs ρ r;obtain rfl:=r;rfl
 |cons x xs i=>intro vs ρ r;obtain⟨v,V,rfl,_,a⟩:=r;exact congrArg (·+1)<|i a
theorem dD.get{ρ:dM}:∀{vs:List Value}{i:Nat},dD Z g ρ xs vs->xs[i]? =some x->∃v,vs[i]? =some v/\RV Z g ρ x v:=by
 induction xs with
 |nil=>intro vs i _ e;exact aR e
 |cons y xs I=>
  intro vs i r e;refine iz r λv V z a b=>?_;subst z;cases i with
  |zero=>obtain rfl:=aa e;exact⟨v,rfl,a⟩
  |succ i=>exact I (i:=i) b e
theorem dD.append{ρ:dM}(r:dD Z g ρ xs vs)(a:dD Z g ρ y ws):dD Z g ρ (xs++y) (vs++ws):=by
 induction xs generalizing vs with
 |nil=>obtain rfl:=r;exact a
 |cons x xs i=>obtain⟨v,V,rfl,b,c⟩:=r;exact⟨v,_,rfl,b,i c⟩
theorem dD.set{ρ:dM}(r:dD Z g ρ xs vs)(b:RV Z g ρ x v):dD Z g ρ (xs.set i x) (vs.set i v):=by
 induction xs generalizing vs i with
 |nil=>obtain rfl:=r;rfl
 |cons y xs I=>
  refine iz r λw V z c a=>?_;subst z;cases i with
  |zero=>exact xW v V rfl b a
  |succ i=>exact xW w _ rfl c<|I a
theorem dD.take{ρ:dM}:∀{vs:List Value}(n:Nat),dD Z g ρ xs vs->dD Z g ρ (xs.take n) (vs.take n):=by
 induction xs with
 |nil=>intro vs n r;obtain rfl:=r;cases n<;>rfl
 |cons x xs i=>
  intro vs n r;cases n with
  |zero=>rfl
  |succ n=>obtain⟨v,V,rfl,a,b⟩:=r;exact⟨v,_,rfl,a,i n b⟩
theorem dD.drop{ρ:dM}:∀{vs:List Value}(n:Nat),dD Z g ρ xs vs->dD Z g ρ (xs.drop n) (vs.drop n):=by
 induction xs with
 |nil=>intro vs n r;obtain rfl:=r;cases n<;>rfl
 |cons x xs i=>
  intro vs n r;cases n with
  |zero=>exact r
  |succ n=>obtain⟨v,V,rfl,b,a⟩:=r;exact i n a
theorem dD.reverse{ρ:dM}:∀{vs:List Value},dD Z g ρ xs vs->dD Z g ρ xs.reverse vs.reverse:=by
 induction xs with
 |nil=>intro vs r;obtain rfl:=r;rfl
 |cons x xs i=>intro vs r;refine iz r λv V z a b=>?_;subst z;rw[JA,JA];exact(i b).append ⟨v,[],rfl,a,rfl⟩
theorem dD.one{ρ:dM}(r:RV Z g ρ x v):dD Z g ρ [x] [v]:=⟨v,[],rfl,r,rfl⟩
theorem dD.i7{ρ:dM}(r:dD Z g [] xs vs):dD Z g ρ xs vs:=r.mono<|dG.i7 g ρ
end
section
variable{Z:dg}{st:List SO}{g fx:FH}{ρ:dM}{s:Shared}{A:bq}
set_option tactic.hygienic true in
theorem k4(S:bR Z st g fx ρ s)(e:mY st V=some d)(r:RV Z g ρ V v):(∃a,jD s.heap v d a)/\d.canLay0=true:=by
 have b:ls V=some d->(∃a,jD s.heap v d a)/\d.canLay0=true:=λe=>⟨RV.reads S.keep e r,vt e⟩;cases V<;>try exact b e
 rename_i k
 refine av e λx f e=>cR e λD c H=>?_;subst H;refine dn r λp i z=>?_;subst z;obtain⟨_,l,n,O,j⟩:=S.objs k _ p (tD f) i;refine eS (dD.reads S.keep c j) λa q=>⟨⟨_,.list O rfl rfl q⟩,by simpa[PyData.canLay0] using sT c⟩
theorem OR(S:bR Z st g fx ρ s)(e:mY st a=some d)(B:mY st b=some D)(r:RV Z g ρ a v)(i:RV Z g ρ b V)
  (H:min d.depth D.depth<=b7) (U:A.units+b7<cLine):br Z A (dP .Eq v V) st (.bool<|bc d D) g fx ρ s:=by
 obtain⟨⟨j,c⟩,l⟩:=k4 S e r
 obtain⟨⟨k,f⟩,L⟩:=k4 S B i
 intro E Q h
 exact compareEq_reads c f l L (aab H U)<|h g ρ s _ (.refl _ _) S rfl
theorem ON(S:bR Z st g fx ρ s)(e:mY st a=some d)(f:mY st b=some D)(r:RV Z g ρ a v)(k:RV Z g ρ b V)
  (H:min d.depth D.depth<=b7) (U:A.units+b7<cLine):br Z A (dP .NotEq v V) st (.bool<|!bc d D) g fx ρ s:=by
 obtain⟨⟨c,i⟩,l⟩:=k4 S e r
 obtain⟨⟨B,j⟩,L⟩:=k4 S f k
 intro E Q h
 exact neOverData Z.prog Z.w A E s v V d D c B Q i j l L (aab H U)<|h g ρ s _ (.refl _ _) S rfl
theorem mi(S:bR Z st g fx ρ s)(e:il st V=some xs)(r:RV Z g ρ V v):∃a vs n,v=.ref a/\s.heap.get? a=some (lV vs n)/\dD Z g ρ xs vs.toList:=by
 refine adt e (λh=>?_) λk h d=>?_
 ·subst h;refine nZ r λa vs n c H b=>?_;subst c;exact W1 a vs n rfl (S.keep _ _ H) b.i7
 ·subst h;refine dn r λp f z=>?_;subst z;obtain⟨_,vs,n,H,b⟩:=S.objs _ _ p d f;exact W1 _ vs n rfl H b
theorem DB(S:bR Z st g fx ρ s)(e:lz st V=some xs)(r:RV Z g ρ V v):∃a vs n,v=.ref a/\(s.heap.get? a=some (lV vs n)\/s.heap.get? a=some (O7 vs n))/\dD Z g ρ xs vs.toList:=by
 refine X0 e (λh=>?_) λe=>?_
 ·subst h;refine nZ r λa vs n z H f=>?_;subst z;exact W1 a vs n rfl (.inr<|S.keep _ _ H) f
 ·refine nZ (mi S e r) λa vs n b c d=>W1 a vs n b (.inl c) d
theorem B0(p:a->Bool)(xs:List a):(xs.findIdx? p).isSome=xs.any p:=by
 induction xs with
 |nil=>exact rfl
 |cons x xs I=>rw[dF,kA];cases h:p x<;>simp[I]
theorem U6(S:bR Z st g fx ρ s)(B:lz st b=some xs)(y:(qx a xs).map (·.isSome)=some r)(I:RV Z g ρ a v)(J:RV Z g ρ b V)
  (U:A.units+1+b7<cLine):br Z A (dP .In v V) st (.bool r) g fx ρ s/\br Z A (dP .NotIn v V) st (.bool<|!r) g fx ρ s:=by
 refine cR y λo O C=>av O λd m O=>av O λD p O=>iZ O λw O=>?_
 subst O C
 have j:=of_decide_eq_true w
 refine nZ (DB S B J) λl vs n z L G=>?_
 subst z
 refine eS (dD.reads S.keep p G) λk t=>eS (RV.reads S.keep m I) λY f=>?_
 have x:=sT p
 have e:=vt m
 have H:A.units+1+min (kJ D) d.depth<cLine:=aaa U j
 rw[B0]
 rcases L with L|L
 ·have c:jD s.heap (.ref l) (.list D) (l::k):=.list L rfl rfl t;exact⟨λE Q h=>in_list_reads c f x e H<|h g ρ s _ (.refl _ _) S rfl,λE Q h=>notIn_list_reads c f x e H<|h g ρ s _ (.refl _ _) S rfl⟩
 ·have c:jD s.heap (.ref l) (.tuple D) k:=.tuple L rfl rfl t;exact⟨λE Q h=>in_tuple_reads c f x e H<|h g ρ s _ (.refl _ _) S rfl,λE Q h=>notIn_tuple_reads c f x e H<|h g ρ s _ (.refl _ _) S rfl⟩
theorem Yx:∀{D:List PyData},qJ D=true->∀d∈D,eF d=true:=λ{D}=>by
 induction D with
 |nil=>exact λz z h=>absurd h aJ
 |cons x a i=>exact λh d H=>(aQ.mp H).elim (λe=>e▸(bK.mp h).1)<|i (bK.mp h).2 d
mutual
theorem pF{P:PyData->Prop}(H:∀i,P<|.int i)(a:∀s,c6 s=true->P (.str s))(b:∀D,qJ D=true->(∀d∈D,P d)->P (.tuple D)):∀d,eF d=true->P d
 |.int i,_=>H i
 |.str s,h=>a s h
 |.tuple D,h=>b D h<|BG H a b D h
 |.none,h=>ae h
 |.bool _,h=>ae h
 |.list _,h=>ae h
 |.dict _,h=>ae h
theorem BG{P:PyData->Prop}(H:∀i,P<|.int i)(a:∀s,c6 s=true->P (.str s))(b:∀D,qJ D=true->(∀d∈D,P d)->P (.tuple D)):∀D,qJ D=true->∀d∈D,P d
 |[],_,_,m=>absurd m aJ
 |x::xs,h,d,m=>(aQ.mp m).elim (λe=>e▸pF H a b x (bK.mp h).1)<|BG H a b xs (bK.mp h).2 d
end
abbrev Tp(a:PyData):Prop:=∀b,eF b=true->(bc a b=true↔a=b)
theorem H2(h:bc a b=false)(k:a≠b):bc a b=true↔a=b:=⟨λe=>ae<|h.symm.trans e,λe=>absurd e k⟩
theorem L0:∀{a:List PyData},(∀d∈a,Tp d)->∀b:List PyData,qJ b=true->(PyData.eqvAll a b=true↔a=b):=λ{a}=>by
 induction a with
 |nil=>
  intro _ b _;cases b with
  |nil=>exact⟨λz=>rfl,λz=>rfl⟩
  |cons y Y=>exact⟨λe=>ae e,λe=>kj rfl<|heq_of_eq e⟩
 |cons x k I=>
  intro h b H;cases b with
  |nil=>exact⟨λe=>ae e,λe=>kj rfl<|heq_of_eq e⟩
  |cons y Y=>have H:=bK.mp H;have i:=h x (aw ..) y H.1;have j:=I (λd m=>h d<|ay _ m) Y H.2;exact⟨λe=>(bK.mp e).elim λc f=>(i.mp c)▸(j.mp f)▸rfl,λe=>gO e |>.elim λc f=>bK.mpr ⟨i.mpr c,j.mpr f⟩⟩
theorem pG(H:eF a=true):eF b=true->(bc a b=true↔a=b):=
 pF (P:=Tp) (λi b hb=>by
  cases b with
  |int j=>exact⟨λe=>congrArg j3<|eq_of_beq e,λe=>beq_iff_eq.mpr<|j3.inj e⟩
  |str _=>exact H2 rfl λe=>gN e
  |tuple _=>exact H2 rfl λe=>gN e
  |_=>exact ae hb) (λs z b hb=>by
  cases b with
  |str j=>exact⟨λe=>congrArg EZ<|eq_of_beq e,λe=>beq_iff_eq.mpr<|EZ.inj e⟩
  |int _=>exact H2 rfl λe=>gN e
  |tuple _=>exact H2 rfl λe=>gN e
  |_=>exact ae hb) (λd hd I b hb=>by
  cases b with
  |tuple y=>exact(L0 I y hb).trans ⟨λe=>congrArg R1 e,R1.inj⟩
  |int _=>exact H2 rfl λe=>gN e
  |str _=>exact H2 rfl λe=>gN e
  |_=>exact ae hb) a H b
theorem LZ:∀{D:List PyData},(∀d∈D,d.canLay0=true)->hV D=true:=λ{D}=>by
 induction D with
 |nil=>exact λz=>rfl
 |cons x a i=>exact λh=>bK.mpr ⟨h x (aw ..),i λd m=>h d<|ay _ m⟩
theorem zD:∀{d:PyData},eF d=true->d.canLay0=true:=λ{d} h=>
 pF (λz=>rfl) (λz h=>h) (λz z i=>LZ i) d h
mutual
noncomputable def uS:PyData->Nat
 |.tuple xs=>sg xs+1
 |_=>1
noncomputable def sg:List PyData->Nat
 |[]=>0
 |x::xs=>uS x+sg xs
end
end
end
section
variable{prog:Program}{w:cD}
theorem rdI(r:jD h v (.int i) a):∃t,v=.int i t/\a=[]:=by cases r with|int _ t=>exact⟨t,rfl,rfl⟩
theorem rdS(r:jD h v (.str i) a):∃t,v=.str i t/\a=[]:=by cases r with|str _ t=>exact⟨t,rfl,rfl⟩
theorem rdT{ds:List PyData}(r:jD h v (.tuple ds) as):∃a o vs n,v=.ref a/\h.get? a=some o/\o.cls=.type "tuple"/\o.data=.seq vs n/\lS h vs.toList ds as:=by cases r with|tuple h1 h2 h3 H=>exact⟨_,_,_,_,rfl,h1,h2,h3,H⟩
theorem rdN(r:lS h vs [] a):vs=[]/\a=[]:=by cases r;exact⟨rfl,rfl⟩
theorem rdC{ds:List PyData}(r:lS h vs (d::ds) c):∃v V a b,vs=v::V/\c=a++b/\jD h v d a/\lS h V ds b:=by cases r with|cons e f=>exact⟨_,_,_,_,rfl,rfl,e,f⟩
theorem BO(ds:List PyData):k3 w ds=ds.map (dT w):=by
 induction ds with
 |nil=>rfl
 |cons d ds i=>exact congrArg (dT w d::·) i
theorem W6{ds:List PyData}(h:d∈ds):d.depth<=kJ ds:=by
 induction ds with
 |nil=>exact absurd h aJ
 |cons x a i=>
  rcases aQ.mp h with rfl|h
  ·exact xj _ _
  ·exact ah (i h)<|vc _ _
theorem Uw(b:Array Int)(x:Int)(l:List Int):b.push x++l.toArray=b++(x::l).toArray:=by simp
theorem Wv(h:a+4*(m+1)+4<cLine):a+1+4*m+4<cLine:=aE (by omega) h
abbrev tI(prog:Program)(w:cD)(d:PyData):Prop:=∀{A:bq}{E:Value->Shared->Prop}{s:Shared}{v:Value}{as:List Addr}{Q:Int->Shared->Prop},jD s.heap v d as->A.units+4*d.depth+4<cLine->
  Q (dT w d) {s with toks:=s.toks+uS d}->au (model prog w) A (pyHash v) Q E s
theorem Mj(i:Int):tI prog w (.int i):=λr z h=>by refine dn (rdI r) λt a z=>?_;subst a;exact(eV prog w).pyHash (by simp[eV,mq]) h
theorem Mi(x:Str)(_:c6 x=true):tI prog w (.str x):=λr z h=>by refine dn (rdS r) λt a z=>?_;subst a;exact(strKind prog w).pyHash (by simp[mu,yL]) h
section
variable{A:bq}{E:Value->Shared->Prop}
theorem Eg(H:∀v b,f v b=(do let h<-pyHash v;pure (.yield<|b.push h)))(U:A.units+4*m+4<cLine){ds:List PyData}:∀{s:Shared}{vs:List Value}{as:List Addr}{b:Array Int}{Q:Array Int->Shared->Prop},(∀d∈ds,tI prog w d)->lS s.heap vs ds as->
  kJ ds<=m->Q (b++(ds.map<|dT w).toArray) {s with toks:=s.toks+sg ds}->au (model prog w) A (forIn vs b f) Q E s:=by
 induction ds with
 |nil=>intro s vs as b Q _ r _ h;refine i9 (rdN r) λa c=>?_;subst a;subst c;rw[gH];have h:Q (b++#[]) s:=h;rw[Array.append_empty] at h;exact ab h
 |cons d ds i=>intro s vs as b Q k r hm h;refine x44 (rdC r) λz z z z e g j l=>?_;subst e;subst g;rw[cb,H];refine aU<|aU<|k d (aw ..) j (aE (fq (aV (fE 4<|ah (xj ..) hm) _) _) U)<|ab ?_;refine i (λd m=>k d<|ay _ m) l (ah (vc ..) hm) ?_;rw[Uw,Nat.add_assoc];exact h
end
theorem Mh(ds:List PyData)(ih:∀d∈ds,tI prog w d):tI prog w (.tuple ds):=λ{A E s v as Q} r hu h=>by
 refine x45 (rdT r) λa o vs n zz4 ho hc hd hr=>?_;subst zz4;have hT:s.TypeIs (.ref a) "tuple":=⟨o,ho,hc⟩;refine aU<|wpAny_cRoomFor_or (.inr<|aa8 hu) ?_;refine aU<|gB hT nF.lookup ?_;show au _ _ (if(some (yM "tuple.__hash__")==some lR)=true then _ else _) Q E s;rw[yK];refine sQ<|aU<|gB hT nF.lookup ?_;show au _ _ (callSpecialIfBoundUnlessNone? (.ref a) "__hash__" _>>=_) Q E s;refine aU<|wpAny_callSpecialIfBoundUnlessNone?_slot hT nF<|bl nF hT F.entry_tuple_hash ?_<|F.args_tuple_hash_1 _;show au _ _ (ru (.ref a)>>=_) _ _ s;refine aU<|wpAny_tupleItemsOf ho hd ?_;refine aI ?_;rw[<-eY];refine Eg (λz z=>rfl) (Wv hu) ih hr (aF _) ?_;have hm:((#[]:Array Int)++(ds.map<|dT w).toArray).toList=k3 w ds:=by simp[BO]
 dsimp only;rw[hm];refine wpAny_ret_mkInt ?_;show au _ _ (if(decide (-(2:Int)^63<=ez (k3 w ds))&&decide (ez (k3 w ds)<2^63))=true then _ else _) Q E _;change Q (reduceHash<|ez<|k3 w ds) {s with toks:=s.toks+sg ds+1} at h;unfold reduceHash at h;by_cases hr:(decide (-(2:Int)^63<=ez (k3 w ds))&&decide (ez (k3 w ds)<2^63))=true
 ·rw[if_pos hr] at h ⊢;exact ab h
 ·rw[if_neg hr] at h ⊢;exact aU<|c5<|ab h
theorem vR(h:eF d=true):tI prog w d:=pF Mj Mi (λds z=>Mh ds) d h
abbrev pQ(prog:Program)(w:cD)(d:PyData):Prop:=∀{n:Nat}{A:bq}{E:Value->Shared->Prop}{s:Shared}{v:Value}{as:List Addr}{Q:Bool->Shared->Prop},jD s.heap v d as->d.depth<=n->Q true s->au (model prog w) A (eqIsQuiet n v) Q E s
theorem HR(i:Int):pQ prog w (.int i):=λ{n _ _ _ _ _ _} r _ h=>by refine dn (rdI r) λt a z=>?_;subst a;rw[eqIsQuiet_byValue n rfl];exact ab h
theorem HP(x:Str)(_:c6 x=true):pQ prog w (.str x):=λ{n _ _ _ _ _ _} r _ h=>by refine dn (rdS r) λt a z=>?_;subst a;rw[eqIsQuiet_byValue n rfl];exact ab h
theorem Bl{A:bq}{E:Value->Shared->Prop}{s:Shared}{n:Nat}{Q:B->Shared->Prop}
  (p:∀v,(∀(a:Bool->Shared->Prop)(c:Value->Shared->Prop),a true s->au (model prog w) A (eqIsQuiet n v) a c s)->au (model prog w) A (f v b) (λx s'=>s'=s/\x=.yield b) E s) (h:Q b s) {ds:List PyData}:∀{vs:List Value}{as:List Addr},(∀d∈ds,pQ prog w d)->lS s.heap vs ds as->kJ ds<=n->au (model prog w) A (forIn vs b f) Q E s:=by
 induction ds with
 |nil=>intro vs as _ r _;refine i9 (rdN r) λg i=>?_;subst g;subst i;exact ab h
 |cons d ds I=>intro vs as l r N;refine x44 (rdC r) λz z z z j k t y=>?_;subst j;subst k;rw[cb];refine aU<|d3 (p _ λa c H=>l d (aw ..) t (ah (xj ..) N) H) ?_ λz z e=>e;rintro x s' ⟨rfl,rfl⟩;exact I (λd m=>l d<|ay _ m) y<|ah (vc ..) N
theorem HO(ds:List PyData)(ih:∀d∈ds,pQ prog w d):pQ prog w (.tuple ds):=λ{n A E s v as Q} r hn h=>by
 refine x45 (rdT r) λa o vs m zz4 ho hc hd hr=>?_;subst zz4;have hT:s.TypeIs (.ref a) "tuple":=⟨o,ho,hc⟩;cases n with
 |zero=>exact absurd hn<|qw _
 |succ n=>
  unfold eqIsQuiet;refine aU<|gB hT F.slot_tuple_eq.lookup ?_;refine aU<|cP hT isSubtype_tuple_tuple ?_;refine sQ<|aU<|eU ho hd ?_;refine aU ?_;rw[<-eY];refine Bl (λv h'=>?_) ?_ ih hr<|n8 hn
  ·refine aU<|h' _ _ ?_;refine sQ<|ab ⟨rfl,rfl⟩
  ·exact ab h
theorem HQ(h:eF d=true):pQ prog w d:=pF HR HP (λds z=>HO ds) d h
abbrev EO(h h':Heap)(d:PyData):Prop:=∀{v:Value}{a:List Addr},jD h v d a->jD h' v d a
theorem Bi{ds:List PyData}:∀{vs:List Value}{a:List Addr},(∀d∈ds,EO h h' d)->lS h vs ds a->lS h' vs ds a:=by
 induction ds with
 |nil=>intro vs a _ r;obtain⟨rfl,rfl⟩:=rdN r;exact .nil
 |cons d ds i=>
  intro vs a k r;cases r with
  |cons b c=>exact .cons (k d (aw ..) b)<|i (λd m=>k d<|ay _ m) c
theorem zC{h h':Heap}(k:∀b o,h.get? b=some o->o.cls=.type "tuple"->(∃vs n,o.data=.seq vs n)->h'.get? b=some o)(g:eF d=true):EO h h' d:=
 pF (P:=λd=>EO h h' d) (λi z z r=>by obtain⟨t,rfl,rfl⟩:=rdI r;exact .int _ t) (λs z z z r=>by obtain⟨t,rfl,rfl⟩:=rdS r;exact .str _ t)
  (λds z I z z r=>by refine x45 (rdT r) λz z z z a e H c f=>?_;subst a;exact .tuple (k _ _ e H ⟨_,_,c⟩) H c<|Bi I f) d g
noncomputable instance afQ:DecidableEq PyData:=λa b=>Classical.propDecidable<|a=b
theorem Es(H:eF a=true)(B:eF b=true):bc a b=decide (a=b):=by
 by_cases h:a=b
 ·rw[decide_eq_true h];exact(pG H B).mpr h
 ·rw[decide_eq_false h];cases q:bc a b with
  |false=>rfl
  |true=>exact absurd ((pG H B).mp q) h
def Tv(prog:Program)(w:cD):HeapKind prog w PyData where
 is h k a:=(∃z,k=.tuple z)/\eF k=true/\k.depth<=b7/\∃g,jD h (.ref a) k g
 hash:=dT w
 draws:=uS
 room A:=A.units+64<cLine
 inj:=λ{h a x y} i Y=>by obtain⟨_,c,_,g,j⟩:=i;obtain⟨_,f,_,B,l⟩:=Y;exact Reads.unique x y _ _ _ (zD c) j l
 keeps:=λ{h G k a d o es C} x O p v=>by
  obtain⟨t,c,f,g,r⟩:=x;refine⟨t,c,f,g,zC (λb ob e I H=>?_) c r⟩;have N:b≠d:=by rintro rfl;rw[O] at e;obtain rfl:=aa e;refine w5 H λV n H=>?_;rw[p] at H;cases H
  exact(v.2 b N).trans e
 pyHash:=λ{A E s k a Q} U x h=>by obtain⟨_,c,f,g,r⟩:=x;exact vR c r (by simp only[b7] at f;exact Z8 U f) h
 eqBool:=λ{A E s x y a b Q} U i Y h=>by obtain⟨_,c,f,g,j⟩:=i;obtain⟨_,m,J,B,l⟩:=Y;refine eqBoolOverData prog w A E s _ _ x y g B Q j l (zD c) (zD m) (by simp only[b7] at f;have:=gi x.depth y.depth;exact aa7 U f this) ?_;rw[Es c m];exact h
 quiet:=λ{A E s k a Q} x h=>by obtain⟨_,c,f,g,r⟩:=x;exact HQ (n:=8) c r f h
end
noncomputable def Dd(h:Heap)(w:cD):List PyData->List DictEntry->Prop
 |[],es=>es=[]
 |d::ds,es=>∃e a,es=e::a/\(∃b,jD h e.key d b)/\e.hash=dT w d/\Dd h w ds a
theorem Dd.of{h:Heap}{w:cD}(k:∀b o,g b=some o->h.get? b=some o):∀{ds:List PyData}{es:List DictEntry},eQ j=some ds->dD Z g [] j (es.map (·.key))->es.map (·.hash)=ds.map (dT w)->Dd h w ds es:=by
 induction j with
 |nil=>intro ds es e r _;obtain rfl:=aa e;exact q7.mp r
 |cons x C I=>
  intro ds es e r H;refine av e λd m e=>cR e λl p t=>?_;subst t;refine iz r λv V f y B=>?_;cases es with
  |nil=>exact kj rfl<|heq_of_eq f
  |cons N a=>refine i9 (gO f) λz c=>?_;subst z;subst c;have H:=gO H;exact Sm N a rfl (RV.reads k m y) H.1<|I p B H.2
theorem Dd.mem{w:cD}{ds:List PyData}:∀{es:List DictEntry},Dd h w ds es->∀e∈es,∃d∈ds,(∃a,jD h e.key d a)/\e.hash=dT w d:=by
 induction ds with
 |nil=>intro _ r e H;rw[r] at H;exact absurd H aJ
 |cons d ds i=>
  intro es r e H;obtain⟨k,c,rfl,q,g,r⟩:=r;rcases aQ.mp H with rfl|H
  ·exact xX d aw q g
  ·obtain⟨b,f,j⟩:=i r e H;exact⟨b,ay _ f,j⟩
theorem Dd.findIdx{w:cD}{p:Value->Bool}{q:PyData->Bool}{ds:List PyData}:∀{es:List DictEntry},Dd h w ds es->(∀d∈ds,∀v a,jD h v d a->p v=q d)->es.findIdx? (λe=>p e.key)=ds.findIdx? q:=by
 induction ds with
 |nil=>intro _ r _;rw[r];rfl
 |cons d ds i=>intro es r H;obtain⟨e,c,rfl,⟨a,g⟩,_,r⟩:=r;rw[dF,dF,H d aw _ _ g,i r λb f=>H b<|ay _ f]
theorem pH(h:eF x=true):(∃j,x=.int j)\/(∃s,x=.str s)\/∃y,x=.tuple y:=by
 cases x with
 |int j=>exact .inl ⟨j,rfl⟩
 |str s=>exact .inr<|.inl ⟨s,rfl⟩
 |tuple y=>exact .inr<|.inr ⟨y,rfl⟩
 |_=>exact ae h
theorem QB(h:eF x=true)(k:fQ x=0):∃j,x=.int j:=by
 rcases pH h with h|⟨s,rfl⟩|⟨y,rfl⟩
 ·exact h
 ·exact absurd k<|e9 0
 ·exact absurd k<|e9 1
theorem QA(h:eF x=true)(k:fQ x=1):∃j,x=.str j:=by
 rcases pH h with ⟨j,rfl⟩|h|⟨y,rfl⟩
 ·exact absurd k.symm<|e9 0
 ·exact h
 ·exact absurd (jf k)<|e9 0
theorem Qz(h:eF x=true)(k:fQ x=2):∃y,x=.tuple y:=by
 rcases pH h with ⟨j,rfl⟩|⟨s,rfl⟩|h
 ·exact absurd k.symm<|e9 1
 ·exact absurd (jf k).symm<|e9 0
 ·exact h
theorem qE(r:jD h v (.int i) a):∃t,v=.int i t:=(rdI r).imp λz=>Hb
theorem qD(r:jD h v (.str i) a):∃t,v=.str i t:=(rdS r).imp λz=>Hb
theorem vP(r:jD h v (.tuple i) b):∃a,v=.ref a:=(rdT r).imp λy z=>z.elim λy z=>z.elim λy z=>z.elim λy z=>z.1
theorem Dd.heap{prog:Program}{w:cD}{ds:List PyData}:∀{es:List DictEntry},Dd h w ds es->(∀d∈ds,eF d=true/\d.depth<=b7/\fQ d=2)->
  ∃xs:List (PyData×Addr×Value),es=xs.map (entryOfKey<|Tv prog w)/\xs.map (·.1)=ds/\∀x∈xs,(Tv prog w).is h x.1 x.2.1:=by
 induction ds with
 |nil=>intro _ r _;exact⟨[],r,rfl,λz h=>absurd h aJ⟩
 |cons d ds I=>
  intro es r p;obtain⟨e,m,rfl,⟨j,i⟩,b,r⟩:=r;refine sA (I r λl C=>p l<|ay _ C) λxs t v B=>nK (p d aw) λg G J=>?_;refine eS (Qz g J) λY f=>?_;subst f;refine eS (vP i) λa k=>xX ((.tuple Y,a,e.val)::xs) ?_ (congrArg (_::·) v) λx c=>?_
  ·obtain⟨H,y,val⟩:=e;have b:H=_:=b;have k:y=_:=k;rw[t,b,k];rfl
  ·rcases aQ.mp c with rfl|c
   ·exact⟨⟨Y,rfl⟩,g,G,j,k▸i⟩
   ·exact B x c
theorem BZ{ds:List PyData}(a:eF d=true)(k:∀x∈ds,eF x=true)(H:ds.Nodup)(h:ds[j]? =some d):ds.findIdx? (λx=>bc x d)=some j:=by
 induction ds generalizing j with
 |nil=>simp at h
 |cons x c i=>
  rw[dF];have b:=k x aw;rw[d7] at H;cases j with
  |zero=>simp at h;subst h;rw[(pG b a).mpr rfl];rfl
  |succ j=>
   simp at h;have e:x≠d:=by rintro rfl;exact H.1<|aH h
   have:bc x d=false:=by
    cases q:bc x d with
    |false=>rfl
    |true=>exact absurd ((pG b a).mp q) e
   rw[this,i (λy Y=>k y<|ay _ Y) H.2 h];rfl
theorem tj{ds:List PyData}(a:eF d=true)(k:∀x∈ds,eF x=true)(J:∀j:Nat,ds[j]?≠some d):ds.findIdx? (λx=>bc x d)=none:=by
 rw[bI];intro x H;cases q:bc x d with
 |false=>rfl
 |true=>have:=(pG (k x H) a).mp q;subst this;refine eS (pd.mp H) λj h=>absurd h<|J j
theorem uM{es:List a}(h:e∈es.toArray):e∈es:=by simpa using h
theorem L3(prog:Program)(w:cD)(j:Int)(t:Tok):(eV prog w).is j (.int j t)=true:=by simp[eV,mq]
theorem L2(prog:Program)(w:cD)(j:Str)(t:Tok):(mu prog w).is j (.str j t)=true:=by simp[mu,yL]
theorem QE(prog:Program)(w:cD)(i j:Int)(t:Tok):(eV prog w).is i (.int j t)=bc (.int j) (.int i):=by simp[eV,mq,bc]
theorem Pe(prog:Program)(w:cD)(i j:Str)(t:Tok):(mu prog w).is i (.str j t)=bc (.str j) (.str i):=by simp[mu,yL,bc]
section
variable{prog:Program}{w:cD}{A:bq}{E:Value->Shared->Prop}{s:Shared}{D:Addr}{n:Nat}{es:List DictEntry}{ds:List PyData}{Q:Option Nat->Shared->Prop}
theorem MP(X:Dd s.heap w ds es)(b:s.heap.get? D=some (dictOf es n))(key:∀x∈ds,∃j,x=.int j)(h:Q (ds.findIdx? λx=>bc x<|.int i) s):au (model prog w) A (CO D (.int i t)<|dT w<|.int i) Q E s:=by
 refine wpAny_dictFind_of (L3 ..) b rfl (λe c=>?_) ?_
 ·obtain⟨d,H,⟨a,q⟩,f⟩:=X.mem e<|uM c;refine eS (key d H) λj z=>?_;subst z;refine eS (qE q) λt k=>⟨j,k▸L3 ..,f⟩
 ·rw[C1,X.findIdx λd H v a q=>?_]
  ·exact h
  ·refine eS (key d H) λj z=>?_;subst z;refine eS (qE q) λt z=>?_;subst z;exact QE ..
theorem MO(X:Dd s.heap w ds es)(b:s.heap.get? D=some (dictOf es n))(key:∀x∈ds,∃j,x=.str j)(h:Q (ds.findIdx? λx=>bc x<|.str i) s):au (model prog w) A (CO D (.str i t)<|dT w<|.str i) Q E s:=by
 refine wpAny_dictFind_of (L2 ..) b rfl (λe c=>?_) ?_
 ·obtain⟨d,H,⟨a,q⟩,f⟩:=X.mem e<|uM c;refine eS (key d H) λj z=>?_;subst z;refine eS (qD q) λt k=>⟨j,k▸L2 ..,f⟩
 ·rw[C1,X.findIdx λd H v a q=>?_]
  ·exact h
  ·refine eS (key d H) λj z=>?_;subst z;refine eS (qD q) λt z=>?_;subst z;exact Pe ..
theorem MN(X:Dd s.heap w ds es)(z:s.heap.get? D=some (dictOf es n))(f:eF (.tuple y)=true)(H:∀x∈ds,eF x=true/\x.depth<=b7/\fQ x=2)(i:ds.Nodup)(B:(R1 y).depth<=b7)
  (r:jD s.heap (.ref a) (.tuple y) l) (U:A.units+64<cLine) (h:Q (ds.findIdx? λx=>bc x<|.tuple y) s):au (model prog w) A (CO D (.ref a)<|dT w<|.tuple y) Q E s:=by
 refine sA (Dd.heap (prog:=prog) X H) λC m c v=>wpAny_dictFind_heap (knd:=Tv prog w) (k:=.tuple y) U ⟨⟨y,rfl⟩,f,B,l,r⟩ z rfl m v (by rw[c];exact i) (λN=>?_) λj p J=>?_
 ·rw[tj f (λx b=>(H x b).1) λj J=>?_] at h
  ·exact h
  ·rw[<-c,ai,be] at J;refine dn J λx b e=>N j x.2 (by rw[b,<-e])
 ·rw[BZ f (λx b=>(H x b).1) i (by rw[<-c,ai,J];rfl)] at h;exact h
theorem Aa(X:Dd s.heap w ds es)(b:s.heap.get? D=some (dictOf es n))(c:eF d=true)(k:∀x∈ds,eF x=true/\x.depth<=b7/\fQ x=fQ d)(N:ds.Nodup)(e:d.depth<=b7)
  (r:jD s.heap v d f) (U:A.units+64<cLine) (h:Q (ds.findIdx? λx=>bc x d) s):au (model prog w) A (CO D v<|dT w d) Q E s:=by
 rcases pH c with ⟨i,rfl⟩|⟨i,rfl⟩|⟨y,rfl⟩
 ·refine eS (qE r) λt z=>?_;subst z;exact MP X b (λx H=>QB (k x H).1 (k x H).2.2) h
 ·refine eS (qD r) λt z=>?_;subst z;exact MO X b (λx H=>QA (k x H).1 (k x H).2.2) h
 ·refine eS (vP r) λa z=>?_;subst z;exact MN X b c k N e r U h
end
structure fZ(Z:dg)(g:FH)(ρ:dM)(s:Shared)(D:Addr)(ks vs:List SV)(es:List DictEntry)(n:Nat):Prop where
 at_:s.heap.get? D=some (dictOf es n)
 keys:dD Z g [] ks (es.map (·.key))
 vals:dD Z g ρ vs (es.map (·.val))
 ok:∃ds,nz Z.w ks ds (es.map (·.hash))
 no:D≠sysModules
section
variable{Z:dg}{st:List SO}{g fx:FH}{ρ:dM}{s:Shared}{A:bq}{E:Value->Shared->Prop}{D:Addr}{ks vs:List SV}{es:List DictEntry}{n:Nat}
theorem tw(S:bR Z st g fx ρ s)(e:hU st V=some (ks,vs))(r:RV Z g ρ V v):∃D es n,v=.ref D/\fZ Z g ρ s D ks vs es n:=by
 refine ad5 e (λh=>?_) λk h i=>?_
 ·subst h;refine x36 r λa es n f O H b c d=>?_;subst f;exact⟨a,es,n,rfl,S.keep _ _ O,H,b.i7,c,d⟩
 ·subst h;refine dn r λp j z=>?_;subst z;obtain⟨_,es,n,O,H,b,c,d⟩:=S.objs _ _ p i j;exact⟨_,es,n,rfl,O,H,b,c,d⟩
theorem oS(e:cF k ks=some r):∃d c,ls k=some d/\eQ ks=some c/\eF d=true/\(∀x∈c,eF x=true/\fQ x=fQ d)/\d.depth<=b7/\r=c.findIdx? (λx=>bc x d):=
 av e λd H e=>av e λc f e=>iZ e λh m=>cn h λh l=>cn h λi j=>⟨d,c,H,f,i,λx p=>cn (aZ.mp j x p) λa b=>⟨a,beq_iff_eq.mp b⟩,eW l,m.symm⟩
theorem fZ.len(X:fZ Z g ρ s D ks vs es n):es.length=ks.length/\es.length=vs.length:=by have h:=X.keys.length;have H:=X.vals.length;simp only[ag] at h H;exact⟨h,H⟩
theorem fZ.typeIs(X:fZ Z g ρ s D ks vs es n):s.TypeIs (.ref D) "dict":=⟨_,X.at_,rfl⟩
theorem tu(k:∀b o,g b=some o->s.heap.get? b=some o)(X:fZ Z g ρ s D ks vs es n)(e:cF key ks=some r)(m:RV Z g ρ key v)(U:A.units+64<cLine):
  ∃d p,ls key=some d/\(∀(E:Value->Shared->Prop)(Q:Int->Shared->Prop),Q (dT Z.w d) {s with toks:=p}->au (Mo Z) A (pyHash v) Q E s)/\
   (∀(E:Value->Shared->Prop)(Q:Option Nat->Shared->Prop)(t:Nat),Q r {s with toks:=t}->au (Mo Z) A (CO D v<|dT Z.w d) Q E {s with toks:=t}):=by
 refine x26 (oS e) λd y c f i j H z=>?_
 subst z
 refine eS X.ok λl K=>?_
 have:=K.py
 rw[f] at this
 obtain rfl:=aa this
 refine eS (RV.reads k c m) λw q=>xW d (s.toks+uS d) c (λE Q h=>vR i q (by simp only[b7] at H;exact Z8 U H) h) λE Q t h=>?_
 exact Aa (Dd.of k f X.keys K.hash) X.at_ i (λx a=>⟨(j x a).1,K.deep x a,(j x a).2⟩) K.nodup H q U h
theorem qN(k:∀b o,g b=some o->s.heap.get? b=some o)(X:fZ Z g ρ s D ks vs es n)(e:cF key ks=some r)(a:RV Z g ρ key v)(U:A.units+64<cLine)
  (h:∀t,Q (r.bind λj=>(es[j]?).map (·.val)) {s with toks:=t}):au (Mo Z) A (xg D v) Q E s:=by
 refine iz (tu k X e a U) λd c i H f=>?_
 unfold xg
 try with_reducible refine aO ?_
 refine aU<|H _ _<|aU<|f _ _ _ ?_
 cases r with
 |none=>exact ab<|h _
 |some j=>refine aI<|wpAny_dictEntries X.at_ rfl ?_;have:=h c;simp only[mN] at this;simp only[C0];exact ab this
theorem Eo{xs:List a}(h:xs.findIdx? p=some j):j<xs.length:=by obtain⟨H,_⟩:=bo.mp h;exact H
theorem En(e:cF k ks=some (some j)):j<ks.length:=by
 refine x26 (oS e) λd b c h f m p r=>?_;have:=Eo r.symm;have l:∀{a:List SV}{y:List PyData},eQ a=some y->y.length=a.length:=by
  intro a;induction a with
  |nil=>intro y e;obtain rfl:=aa e;rfl
  |cons x a i=>intro y e;exact av e λz z e=>cR e λz Q H=>by rw[<-H];simp[i Q]
 rw[l h] at this;exact this
theorem y8:∀{y:List SV}{a es:List PyData},eQ xs=some a->eQ y=some es->eQ (xs++y)=some (a++es):=by
 induction xs with
 |nil=>intro _ _ _ e b;obtain rfl:=aa e;exact b
 |cons x xs i=>intro _ _ _ e b;exact av e λd h e=>cR e λa H c=>by rw[<-c];show(ls x).bind (λd=>(eQ<|xs++_).map λa=>d::a)=_;rw[h,i H b];rfl
theorem nz.push(K:nz w ks c v)(e:cF k ks=some none)(j:ls k=some d):nz w (ks++[k]) (c++[d]) (v++[dT w d]):=by
 refine x26 (oS e) λz m f i a p r t=>?_;rw[j] at f;cases f;have:=K.py;rw[i] at this;cases this;have b:eQ [k]=some [d]:=by show(ls k).bind _=_;rw[j];rfl
 refine⟨y8 i b,λx h=>?_,λx h=>?_,?_,λx h y H=>?_,by simp[K.hash]⟩
 ·rcases b4.mp h with h|h
  ·exact K.key x h
  ·obtain rfl:=aD.mp h;exact a
 ·rcases b4.mp h with h|h
  ·exact K.deep x h
  ·obtain rfl:=aD.mp h;exact r
 ·rw[cL];refine⟨K.nodup,by simp,λx h y H=>?_⟩;simp only[aD] at H;subst H;rintro rfl;have:=bI.mp t.symm x h;rw[(pG a a).mpr rfl] at this;exact ae this
 ·have l:∀x∈c++[d],fQ x=fQ d:=λx h=>by
   rcases b4.mp h with h|h
   ·exact(p x h).2
   ·obtain rfl:=aD.mp h;rfl
  rw[l x h,l y H]
noncomputable def nN(r:Option Nat)(hsh:Int)(k v:Value)(es:List DictEntry):List DictEntry:=match r with
 |some j=>es.modify j λe=>{e with val:=v}
 |none=>es++[⟨hsh,k,v⟩]
theorem nr(k:∀b o,g b=some o->s.heap.get? b=some o)(X:fZ Z g ρ s D ks vs es n)(e:cF key ks=some r)(i:RV Z g ρ key V)(U:A.units+64<cLine)(l:ks.length<=dI)
  (h:∀d h' t N,ls key=some d->h'.get? D=some (dictOf (nN r (dT Z.w d) V v es) N)->da D s.heap h'->Q () {s with heap:=h',toks:=t}):au (Mo Z) A (Jr D V v) Q E s:=by
 refine iz (tu k X e i U) λd a H c f=>?_
 have z:es.length<=sizeLine:=by rw[X.len.1];unfold dI at l;rw[hY];exact WB l
 unfold Jr
 try with_reducible refine aO ?_
 refine aI<|c _ _ ?_
 unfold dictSetHashed
 try with_reducible refine aO ?_
 refine aI<|f _ _ _ ?_
 cases r with
 |none=>refine aU (c5<|Od (s:={s with toks:=a}) X.at_ rfl (h d _ _ (n+1) H ?_ (cq ..)) (by simpa using z)<|by simp);rw[cW _ X.at_ rfl];exact congrArg (λx=>some<|({cls:=.type "dict",data:=.dict x<|n+1}:Obj)) (List.push_toArray ..)
 |some j=>refine aU (c5<|aU<|wpAny_updateDict (s:={s with toks:=a}) X.at_ rfl (wpAny_point<|h d _ _ n H ?_ (cq ..))<|by simp);rw[cW _ X.at_ rfl];exact congrArg (λx=>some<|({cls:=.type "dict",data:=.dict x n}:Obj)) List.modify_toArray
theorem mmS{g:a->b}(h:∀x,g (f x)=g x):∀(l:List a)(j:Nat),(l.modify j f).map g=l.map g:=λl=>by
 induction l with
 |nil=>intro j;rw[Oy]
 |cons x l i=>
  intro j;cases j with
  |zero=>rw[CY,cA,h,cA]
  |succ j=>rw[CZ,cA,i,cA]
theorem mmV{g:a->b}(h:∀x,g (f x)=v):∀(l:List a)(j:Nat),(l.modify j f).map g=(l.map g).set j v:=λl=>by
 induction l with
 |nil=>intro j;rw[Oy];rfl
 |cons x l i=>
  intro j;cases j with
  |zero=>rw[CY,cA,h,cA,List.set_cons_zero]
  |succ j=>rw[CZ,cA,i,cA,List.set_cons_succ]
theorem zo{s':Shared}(x:dG g ρ g' a)(X:fZ Z g ρ s D ks vs es n)(e:cF key ks=some r)(c:ls key=some d)(i:RV Z g ρ key k)(h:key.free=true)(V:RV Z g' a val v)
  (H:s'.heap.get? D=some (dictOf (nN r (dT Z.w d) k v es) N)):fZ Z g' a s' D (tU r ks key) (tT r vs val) (nN r (dT Z.w d) k v es) N:=by
 refine eS X.ok λb K=>?_
 cases r with
 |some j=>
  refine⟨H,?_,?_,⟨b,?_⟩,X.no⟩
  ·rw[show(nN (some j) (dT Z.w d) k v es).map (·.key)=es.map (·.key) from mmS (f:=λe=>{e with val:=v}) (λz=>rfl) es j];exact X.keys.mono x.nil
  ·rw[show(nN (some j) (dT Z.w d) k v es).map (·.val)=(es.map (·.val)).set j v from mmV (f:=λe=>{e with val:=v}) (λz=>rfl) es j];exact(X.vals.mono x).set V
  ·rw[show(nN (some j) (dT Z.w d) k v es).map (·.hash)=es.map (·.hash) from mmS (f:=λe=>{e with val:=v}) (λz=>rfl) es j];exact K
 |none=>
  refine⟨H,?_,?_,⟨b++[d],?_⟩,X.no⟩
  ·rw[show(nN none (dT Z.w d) k v es).map (·.key)=es.map (·.key)++[k] from a6];exact(X.keys.mono x.nil).append<|.one<|(i.free h).mono x.nil
  ·rw[show(nN none (dT Z.w d) k v es).map (·.val)=es.map (·.val)++[v] from a6];exact(X.vals.mono x).append<|.one V
  ·rw[show(nN none (dT Z.w d) k v es).map (·.hash)=es.map (·.hash)++[dT Z.w d] from a6];exact K.push e c
end
section
variable{Z:dg}{st:List SO}{g fx:FH}{ρ:dM}{s:Shared}{A:bq}{E:Value->Shared->Prop}
noncomputable abbrev mG(Z:dg)(g:FH)(h h':Heap):FH:=dO Z g h h' λz=>false
theorem aX:dG g ρ (dO Z g h h' ex) ρ:=⟨λz z e=>b6 e,[],by simp⟩
theorem bR.Qa(S:bR Z st g fx ρ s){h':Heap}(t:Nat)(H:∀b o,s.heap.get? b=some o->h'.get? b=some o)(h:s.heap.get? a=none)(O:h'.get? a=some o):
  bR Z st (mG Z g s.heap h') fx ρ {s with heap:=h',toks:=t}/\mG Z g s.heap h' a=some o:=
 ⟨S.grow t H,fk S h O rfl (S.fresh h).2.2⟩
theorem bA(h:Heap):h.get? h.objs.size=none:=by
 cases e:h.get? h.objs.size with
 |none=>rfl
 |some o=>exact absurd (bW e)<|b0 _
theorem dH{h:Heap}{o:Obj}(H:o.isFreed=false:=by rfl):(h.push o).get? h.objs.size=some o:=bp _ H
theorem b8{h:Heap}:∀b ob,h.get? b=some ob->(h.push o).get? b=some ob:=λz z e=>aq _ e
theorem bR.P9(S:bR Z st g fx ρ s){h':Heap}(t:Nat)(d:∀b o,s.heap.get? b=some o->h'.get? b=some o)(H:s.heap.get? a=none)(O:SO)(r:∀g' c,dG g ρ g' c->RO Z g' c h' O (a,a)):
  ∃g',bR Z (st++[O]) g' fx (ρ++[(a,a)]) {s with heap:=h',toks:=t}/\dG g ρ g' (ρ++[(a,a)])/\RV Z g' (ρ++[(a,a)]) (.h st.length) (.ref a):=by
 have X:dG g ρ (dO Z g s.heap h' λb=>b==a||b==a) (ρ++[(a,a)]):=⟨λz z e=>b6 e,[(a,a)],rfl⟩
 exact⟨_,S.alloc t d O (a,a) H H<|r _ _ X,X,(a,a),by rw[<-S.len];simp,rfl⟩
theorem vZ(S:bR Z st g fx ρ s){h':Heap}(t:Nat)(k:∀b o,s.heap.get? b=some o->h'.get? b=some o){vs:Array Value}{n:Nat}(N:s.heap.get? a=none)(O:h'.get? a=some (lV vs n))
  (r:dD Z g ρ xs vs.toList) (m:Bool) (σ:ba) (d:σ.st=st):∃g' c,bR Z (dh m xs σ).2.st g' fx c {s with heap:=h',toks:=t}/\dG g ρ g' c/\RV Z g' c (dh m xs σ).1 (.ref a)/\(dh m xs σ).2.loc=σ.loc:=by
 subst d
 cases hf:m||!bS xs with
 |true=>rw[Bu hf];refine sA (S.P9 t k N (.list xs) λg' c x=>⟨rfl,vs,n,O,r.mono x⟩) λg' h H f=>Sm g' _ h H f rfl
 |false=>rw[(v8 hf).1];refine i9 (S.Qa t k N O) λh H=>Sm _ ρ h aX ⟨a,vs,n,rfl,H,(r.free (v8 (σ:=σ) hf).2).mono (aX (ρ:=ρ)).nil⟩ rfl
theorem s9(S:bR Z st g fx ρ s){h':Heap}(t:Nat)(c:∀b o,s.heap.get? b=some o->h'.get? b=some o){vs:Array Value}{n:Nat}(N:s.heap.get? a=none)(O:h'.get? a=some (O7 vs n))
  (d:dD Z g ρ xs vs.toList):bR Z st (mG Z g s.heap h') fx ρ {s with heap:=h',toks:=t}/\RV Z (mG Z g s.heap h') ρ (.tup xs) (.ref a):=by
 refine i9 (S.Qa t c N O) λh H=>⟨h,a,vs,n,rfl,H,d.mono aX⟩
variable{D:Addr}{ks vs:List SV}{es:List DictEntry}{n:Nat}
theorem s8(X:fZ Z g ρ s D ks vs es n):(D==sysModules)=false:=by
 cases h:D==sysModules with
 |false=>rfl
 |true=>exact absurd (beq_iff_eq.mp h) X.no
theorem fZ.val(X:fZ Z g ρ s D ks vs es n){j:Nat}{v:SV}(h:vs[j]? =some v):∃e,es[j]? =some e/\RV Z g ρ v e.val:=by refine dn (X.vals.get h) λy H a=>?_;rw[ai,be] at H;refine dn H λe b z=>?_;subst z;exact⟨e,b,a⟩
theorem OQ(S:bR Z st g fx ρ s)(eb:hU st b=some (ks,vs))(he:(cF a ks).map (·.isSome)=some r)(ra:RV Z g ρ a va)(rb:RV Z g ρ b vb)
  (hu:A.units+65<cLine):br Z A (dP .In va vb) st (.bool r) g fx ρ s/\br Z A (dP .NotIn va vb) st (.bool<|!r) g fx ρ s:=by
 refine dn (be.mp he) λo ho zz2=>?_
 subst zz2
 refine rF (tw S eb rb) λD es n zz3 X=>?_
 subst zz3
 have hlt:=λj (h:o=some j)=>En<|h▸ho
 have main:∀(E:Value->Shared->Prop) Q,(∀t,Q o.isSome {s with toks:=t})->au (Mo Z) A (contains (.ref D) va) Q E s:=by
  intro E Q h;unfold contains;try with_reducible refine aO ?_
  refine aU<|gB X.typeIs u3.lookup ?_;show au _ _ (if(some (yM "dict.__contains__")==some lR)=true then _ else _) _ E s;refine sC (by rw[yK];exact a8)<|aU<|w3 X.typeIs u3
   (bl u3 X.typeIs entry_dict_contains ?_<|args_dict_contains _ _)
  show au _ _ (xg D va>>=_) _ _ s;refine aU (qN S.keep X ho ra (by simpa -iota using hu) λt=>?_);cases o with
  |some j=>have hj:=hlt j rfl;rw[<-X.len.1] at hj;simp -iota only[mN,ax hj,kK];exact ab ⟨_,rfl,eT<|h t⟩
  |none=>exact aU<|wpAny_pendingKey_other (s8 X)<|ab ⟨_,rfl,eT<|h t⟩
 refine⟨λE Q h=>?_,λE Q h=>?_⟩
 ·show au _ _ (do return .bool (<-contains (.ref D) va)) Q E s;exact aU<|main _ _ λt=>ab<|h g ρ _ _ (.refl _ _) (S.tok t) rfl
 ·show au _ _ (do return .bool (!(<-contains (.ref D) va))) Q E s;exact aU<|main _ _ λt=>ab<|h g ρ _ _ (.refl _ _) (S.tok t) rfl
theorem zM(S:bR Z st g fx ρ s){a b v:SV}{V B:Value}{j:Nat}(c:hU st b=some (ks,vs))(f:cF a ks=some (some j))(i:vs[j]? =some v)(r:RV Z g ρ a V)(k:RV Z g ρ b B)
  (U:A.units+65<cLine):br Z A (nV B V) st v g fx ρ s/\s.TypeIs B "dict":=by
 refine rF (tw S c k) λD es n z X=>?_
 subst z
 refine⟨λE Q h=>?_,X.typeIs⟩
 refine dn (X.val i) λe H d=>?_
 unfold nV
 try with_reducible refine aO ?_
 refine aU<|nT X.typeIs (by decide) ?_
 refine aU<|cC X.typeIs xe
  (bl xe X.typeIs entry_dict_getitem ?_<|args_dict_getitem _ _)
 show au _ _ (xg D V>>=_) _ _ s
 refine aU<|qN S.keep X f r (by simpa -iota using U) λt=>?_
 simp -iota only[mN,H,kK]
 exact ab ⟨_,rfl,ab<|h g ρ _ _ (.refl _ _) (S.tok t) d⟩
theorem sh(S:bR Z st g fx ρ s)(X:fZ Z g ρ s D ks vs es n){a:SV}{V:Value}{r:Option Nat}(b:cF a ks=some r)(i:RV Z g ρ a V)(U:A.units+64<cLine){d v:SV}{dv:Value}(l:RV Z g ρ d dv)
  (H:wi r vs d=some v) {Q:Option Value->Shared->Prop} (h:∀t o,(∀y,o=some y->RV Z g ρ v y)->(o=none->v=d)->Q o {s with toks:=t}):au (Mo Z) A (xg D V) Q E s:=by
 refine qN S.keep X b i U λt=>?_
 cases r with
 |none=>exact h t none (λy e=>aR e) λz=>(aa H).symm
 |some j=>refine dn (X.val H) λe c f=>?_;simp -iota only[mN,c,kK];exact h t _ (λy e=>by obtain rfl:=aa e;exact f) λe=>iG e
theorem Ij(S:bR Z st g fx ρ s)(e:hU st b=some (ks,vs))(f:cF a ks=some r)(j:RV Z g ρ a V)(B:RV Z g ρ b k)
  (i:wi r vs SV.none=some v) (U:A.units+65<cLine):br Z A (call (.builtin "dict.get") [k,V]) st v g fx ρ s:=by
 refine rF (tw S e B) λD es n z X=>?_
 subst z
 intro E Q h
 refine bl yR X.typeIs F.entry_dict_get ?_<|F.args_dict_get_2 _ _
 show au _ _ (xg D V>>=_) _ _ s
 refine aU<|sh (d:=.none) S X f j (by simpa -iota using U) rfl i λt o H c=>?_
 cases o with
 |some y=>exact ab ⟨y,rfl,h g ρ _ _ (.refl _ _) (S.tok t)<|H y rfl⟩
 |none=>show au _ _ (xm D V>>=_) _ _ _;rw[c rfl] at h;exact aU<|wpAny_missed_other (s8 X)<|ab ⟨.none,rfl,h g ρ _ _ (.refl _ _) (S.tok t) rfl⟩
theorem Ii(S:bR Z st g fx ρ s)(e:hU st b=some (ks,vs))(i:cF a ks=some r)(k:RV Z g ρ a V)(B:RV Z g ρ b l)(c:RV Z g ρ d dv)
  (j:wi r vs d=some v) (U:A.units+65<cLine):br Z A (call (.builtin "dict.get") [l,V,dv]) st v g fx ρ s:=by
 refine rF (tw S e B) λD es n z X=>?_
 subst z
 intro E Q h
 refine bl yR X.typeIs F.entry_dict_get ?_<|F.args_dict_get_3 _ _ _
 show au _ _ (xg D V>>=_) _ _ s
 refine aU<|sh S X i k (by simpa -iota using U) c j λt o H f=>?_
 cases o with
 |some y=>exact ab ⟨y,rfl,h g ρ _ _ (.refl _ _) (S.tok t)<|H y rfl⟩
 |none=>show au _ _ (xm D V>>=_) _ _ _;rw[f rfl] at h;exact aU<|wpAny_missed_other (s8 X)<|ab ⟨dv,rfl,h g ρ _ _ (.refl _ _) (S.tok t) c⟩
theorem x9(S:bR Z st g fx ρ s)(a:st[k]? =some (.dict ks vs))(c:ρ[k]? =some p)(X:fZ Z g ρ s p.1 ks vs es n)(e:cF key ks=some r)(i:ls key=some d)(l:RV Z g ρ key V)(h:key.free=true)(m:RV Z g ρ val v)
  {h':Heap} (O:h'.get? p.1=some (dictOf (nN r (dT Z.w d) V v es) N)) (j:da p.1 s.heap h'):
  bR Z (st.set k<|.dict (tU r ks key)<|tT r vs val) (mG Z g s.heap h') fx ρ {s with heap:=h',toks:=f}:=by
 refine i9 (S.objs k _ p a c) λH z=>S.upd f a rfl c (λb o B z e=>(j.2 b B).trans e) ?_
 have Y:=zo (s':={s with heap:=h',toks:=f}) (g':=mG Z g s.heap h') aX X e i l h (m.mono aX) O
 exact⟨H,_,_,Y.at_,Y.keys,Y.vals,Y.ok,Y.no⟩
theorem Mk(S:bR Z st g fx ρ s)(e:st[k]? =some (.dict ks vs))(r:RV Z g ρ (.h k) v):∃p es n,ρ[k]? =some p/\v=.ref p.1/\fZ Z g ρ s p.1 ks vs es n:=by refine dn r λp H z=>?_;subst z;obtain⟨_,es,n,O,a,b,c,d⟩:=S.objs _ _ p e H;exact⟨p,es,n,H,rfl,O,a,b,c,d⟩
theorem zk(S:bR Z st g fx ρ s)(H:st[k]? =some (.dict ks vs))(e:cF a ks=some r)(i:a.free=true)(c:RV Z g ρ a V)(B:RV Z g ρ (.h k) x)(w:RV Z g ρ v b)(l:ks.length<=dI)
  (U:A.units+65<cLine):pP Z A (ki x V b) (st.set k<|.dict (tU r ks a)<|tT r vs v) g fx ρ s:=by
 refine nZ (Mk S H B) λp es n j z X=>?_
 subst z
 intro E Q h
 unfold ki
 try with_reducible refine aO ?_
 refine aU<|nT X.typeIs (by decide) ?_
 refine aU<|cC X.typeIs slot_dict_setitem
  (bl slot_dict_setitem X.typeIs entry_dict_setitem ?_<|args_dict_setitem _ _ _)
 show au _ _ (d9.Dict.notOrdered "__setitem__" ⟨[.ref p.1,V,b],[]⟩>>=_) _ _ s
 refine aU<|rq X.typeIs ?_
 show au _ _ (Jr p.1 V b>>=_) _ _ s
 refine aU<|nr S.keep X e c (by simpa -iota using U) l λd y t N f O m=>ab ⟨.none,rfl,ab ?_⟩
 exact h _ ρ _ aX<|x9 S H j X e f c i w O m
theorem uo(S:bR Z st g fx ρ s){k:Nat}{a d v:SV}{va vb dv:Value}{r:Option Nat}(hk:st[k]? =some (.dict ks vs))(he:cF a ks=some r)(hf:a.free=true)(ra:RV Z g ρ a va)(rb:RV Z g ρ (.h k) vb)(rd:RV Z g ρ d dv)(hl:ks.length<=dI)
  (hv:wi r vs d=some v)
  (hu:A.units+65<cLine):∀{lc:List LV},br Z A (call (.builtin "dict.setdefault") [vb,va,dv]) (DG k a d (ks,vs) r ⟨lc,st⟩).st v g fx ρ s:=by
 obtain⟨p,es,n,hp,rfl,X⟩:=Mk S hk rb
 intro lc E Q h
 refine bl Ha X.typeIs F.entry_dict_setdefault ?_<|F.args_dict_setdefault_3 _ _ _
 refine aU<|aU<|rq X.typeIs ?_
 refine ab<|sC (by rw[s8 X];exact a8) ?_
 refine aU ?_
 obtain⟨dd,tk,h1,hh,hfind⟩:=tu (A:=A.in1) S.keep X he ra (by simpa using hu)
 unfold dictSetDefault
 try with_reducible refine aO ?_
 refine aU<|hh _ _<|aU<|hfind _ _ _ ?_
 cases r with
 |some j=>obtain⟨e,q1,q2⟩:=X.val hv;refine aI<|wpAny_dictEntries X.at_ rfl ?_;simp only[C0,q1];exact aU<|c5<|ab<|ab ⟨_,rfl,h g ρ _ _ (.refl _ _) (S.tok tk) q2⟩
 |none=>
  have hsz:es.length<=sizeLine:=by rw[X.len.1];unfold dI at hl;rw[hY];exact WB hl
  refine aU (c5<|aU<|Od X.at_ rfl (ab<|ab ⟨_,rfl,?_⟩) (by simpa using hsz)<|by simp);have ho:(s.heap.update p.1<|R3 λx=>x.push ⟨dT Z.w dd,va,dv⟩).get? p.1=some (dictOf (nN none (dT Z.w dd) va dv es)<|n+1):=by rw[cW _ X.at_ rfl];simp[R3,nN]
  obtain rfl:=aa hv;exact h _ ρ _ _ aX (x9 S hk hp X he h1 ra hf rd ho (cq ..))<|rd.mono aX
end
section
variable{Z:dg}{st:List SO}{g fx:FH}{ρ:dM}{s:Shared}{A:bq}{E:Value->Shared->Prop}
theorem gz(h:n<=dI):n<=sizeLine:=by unfold dI at h;rw[hY];exact WB h
theorem br.of(S:bR Z st g fx ρ s)(r:RV Z g ρ v y)(h:∀(E:Value->Shared->Prop)(Q:Value->Shared->Prop),(∀k,Q y {s with toks:=k})->au (Mo Z) A t Q E s):br Z A t st v g fx ρ s:=
 λE Q H=>h E Q λk=>H g ρ _ _ (.refl _ _) (S.tok k) r
theorem br.ofInt(S:bR Z st g fx ρ s)(h:∀(E:Value->Shared->Prop)(Q:Value->Shared->Prop),(∀k u,Q (.int i u) {s with toks:=k})->au (Mo Z) A t Q E s):br Z A t st (.int i) g fx ρ s:=
 λE Q H=>h E Q λk u=>H g ρ _ _ (.refl _ _) (S.tok k) ⟨u,rfl⟩
theorem br.ofBool(S:bR Z st g fx ρ s)(h:∀(E:Value->Shared->Prop)(Q:Value->Shared->Prop),(∀a,Q (.bool b) {s with toks:=a})->au (Mo Z) A t Q E s):br Z A t st (.bool b) g fx ρ s:=
 br.of S rfl h
theorem br.yf(S:bR Z st g fx ρ s)(h:∀(E:Value->Shared->Prop)(Q:Value->Shared->Prop),(∀h' k y,(∀b o,s.heap.get? b=some o->h'.get? b=some o)->RV Z (mG Z g s.heap h') ρ v y->Q y {s with heap:=h',toks:=k})->au (Mo Z) A t Q E s):br Z A t st v g fx ρ s:=
 λE Q a=>h E Q λh' k y H r=>a _ ρ _ _ aX (S.grow k H) r
theorem Nu{a:Int}(h:a.natAbs<2^64):xR a<=64:=by
 unfold xR;by_cases H:a.natAbs=0
 ·have:a=0:=Int.natAbs_eq_zero.mp H;subst this;decide
 ·have:=(Nat.log2_lt H).mpr h;split<;>omega
noncomputable def Ll:OP->xi
 |.add=>.Add|.sub=>.Sub|.mul=>.Mult|.fdiv=>.FloorDiv|.mod=>.Mod|.pow=>.Pow|.bor=>.BitOr
theorem BK(S:bR Z st g fx ρ s)(e:Jc f a b=some v)(r:RV Z g ρ a x)(d:RV Z g ρ b y)
  (h:∀i j c t u,f i j=some c->∀(E:Value->Shared->Prop)(Q:Value->Shared->Prop),(∀l u,Q (.int c u) {s with toks:=l})->au (Mo Z) A (mT op (.int i t)<|.int j u) Q E s):br Z A (mT op x y) st v g fx ρ s:=
 Ea e λi j c H B C V=>by subst H B V;refine eS r λt z=>?_;subst z;refine eS d λu z=>?_;subst z;exact .ofInt S<|h i j c t u C
theorem Yl(S:bR Z st g fx ρ s)(e:lu .mul a b=some v)(d:RV Z g ρ a x)(r:RV Z g ρ b y):br Z A (mT .Mult x y) st v g fx ρ s:=
 av e λi I e=>av e λj H e=>iZ e λB V=>gA I λc=>by
  subst c V;refine eS d λt z=>?_;subst z;cases b<;>first|exact aR H|skip
  ·obtain rfl:=r;obtain rfl:=aa H;exact .ofInt S λE Q h=>IntBool.mul_int_bool<|h _ _
  ·refine eS r λu z=>?_;subst z;obtain rfl:=aa H;exact .ofInt S λE Q h=>P.mul_int (h _ _)<|((g7 _ _).mp B).elim (λq=>.of_left<|Nu<|eW q) λq=>.of_right<|Nu<|eW q
theorem IM(S:bR Z st g fx ρ s)(e:lu op a b=some v)(r:RV Z g ρ a x)(B:RV Z g ρ b y)(f:ur a=false):
  br Z A (mT (Ll op) x y) st v g fx ρ s:=by
 cases op with
 |add=>exact BK S e r B λi j c t u H E Q h=>by obtain rfl:=aa H;exact P.add_int<|h _ _
 |sub=>
  have e:Jc (λi j=>some<|i-j) a b=some v:=by
   have:lu .sub a b=match ur a with|true=>W4 _ a b|false=>Jc (λi j=>some<|i-j) a b:=rfl
   rw[this,f] at e;exact e
  exact BK S e r B λi j c t u H E Q h=>by obtain rfl:=aa H;exact P.sub_int<|h _ _
 |mul=>exact Yl S e r B
 |fdiv=>exact BK S e r B λi j c t u H E Q h=>iZ H λhb H=>cn hb λh1 h2=>by subst H;exact floordiv_int (bne_iff_ne.mp h1) (h _ _)<|.inl<|yO<|eW h2
 |mod=>exact BK S e r B λi j c t u H E Q h=>iZ H λhb H=>by subst H;exact PyProof.Rows.mod_int (bne_iff_ne.mp hb)<|h _ _
 |pow=>exact BK S e r B λi j c t u H E Q h=>iZ H λhb H=>cn hb λhb h3=>cn hb λh1 h2=>by subst H;exact pow_int_small (eW h1) (by have:=eW h2;exact aaU this) (eW h3)<|h _ _
 |bor=>exact Um e λz z z d z z z=>absurd (d▸f) ae
theorem UI(S:bR Z st g fx ρ s)(r:RV Z g ρ (.int i) x):br Z A (unaryOp .USub x) st (.int<|-i) g fx ρ s:=by refine eS r λt z=>?_;subst z;exact .ofInt S λE Q h=>neg_int<|h _ _
theorem FY(S:bR Z st g fx ρ s)(r:RV Z g ρ (.int i) x)(b:RV Z g ρ (.int j) y):
  br Z A (dP .Lt x y) st (.bool<|decide<|i<j) g fx ρ s/\br Z A (dP .LtE x y) st (.bool<|decide<|i<=j) g fx ρ s/\
  br Z A (dP .Gt x y) st (.bool<|decide<|j<i) g fx ρ s/\br Z A (dP .GtE x y) st (.bool<|decide<|j<=i) g fx ρ s:=by
 obtain⟨t,rfl⟩:=r;obtain⟨u,rfl⟩:=b
 exact I9 (.ofBool S λE Q h=>P.lt_int<|h _) (.ofBool S λE Q h=>P.le_int<|h _) (.ofBool S λE Q h=>P.gt_int<|h _)<|.ofBool S λE Q h=>P.ge_int<|h _
theorem Ig(e:yV a=some b)(r:RV Z g ρ a x):(x==lR)=b:=by
 cases a<;>first|exact aR e|skip
 all_goals obtain rfl:=aa e
 ·obtain rfl:=r;rfl
 ·obtain rfl:=r;rfl
 ·obtain⟨_,rfl⟩:=r;rfl
 ·obtain⟨_,rfl⟩:=r;rfl
 all_goals obtain⟨_,r⟩:=r
 ·obtain⟨_,_,rfl,_⟩:=r;rfl
 ·obtain⟨_,_,rfl,_⟩:=r;rfl
 ·obtain⟨_,_,rfl,_⟩:=r;rfl
 ·obtain⟨_,_,_,rfl,_⟩:=r;rfl
 ·obtain⟨_,_,_,rfl,_⟩:=r;rfl
 ·obtain⟨_,rfl,_⟩:=r;rfl
 ·obtain⟨_,rfl,_⟩:=r;rfl
 ·obtain⟨_,rfl⟩:=r;rfl
theorem SQ(S:bR Z st g fx ρ s)(e:yV a=some b)(r:RV Z g ρ a x)(B:RV Z g ρ .none y):br Z A (dP .Is x y) st (.bool b) g fx ρ s/\br Z A (dP .IsNot x y) st (.bool<|!b) g fx ρ s:=by obtain rfl:=B;have H:=Ig e r;refine⟨.ofBool S λE Q h=>is_none (by rw[H];exact h _),.ofBool S λE Q h=>?_⟩;show au _ _ (do return .bool (!(<-isSame x .none))) Q E s;rw[isSame_none];exact aU<|ab<|ab (by rw[H];exact h _)
theorem B5:∀c:Fin 10,Oo (⟨#[48+c.val]⟩:PySem.Str)=some (c.val:Int):=by decide+kernel
theorem Ew(c:Nat)(h:48<=c)(H:c<=57):Oo (⟨#[c]⟩:PySem.Str)=some ((c:Int)-48):=by refine eS (Cy h) λd z=>?_;subst z;exact(B5 ⟨d,by omega⟩).trans<|congrArg some (by rw[Int.natCast_add];show(d:Int)=_;exact ck<|(λ{b a c}=>Int.sub_eq_iff_eq_add'.mpr) rfl)
set_option tactic.hygienic true in
theorem U4(S:bR Z st g fx ρ s)(e:ZY a=some v)(r:RV Z g ρ a x):br Z A (call (.type "int") [x]) st v g fx ρ s:=by
 cases a<;>first|exact aR e|skip
 ·obtain rfl:=r;obtain rfl:=aa e;exact .ofInt S λE Q h=>call_int_bool<|h _ _
 ·refine eS r λt b=>?_;subst b;obtain rfl:=aa e;exact .ofInt S λE Q h=>call_int_int<|h _ _
 ·rename_i q
  refine eS r λt b=>?_;subst b;refine cR e λi e V=>av e λc C e=>iZ e λB I=>cn B λH d=>jq C λf=>?_;subst V I;obtain rfl:q=(⟨#[c]⟩:Str):=by obtain⟨⟨l⟩⟩:=q;exact congrArg (λz=>Str.mk ⟨z⟩) f
  exact .ofInt S λE Q h=>KIN.call_text (Ew c (eW H)<|eW d) (by simp[Str.length])<|h _ _
theorem LF(b:A.handled=none)(S:bR Z st g fx ρ s)(r:RV Z g ρ (.int i) x)(B:RV Z g ρ (.int j) y):
  br Z A (call (.builtin "max") [x,y]) st (.int (if i<j then j else i)) g fx ρ s/\br Z A (call (.builtin "min") [x,y]) st (.int (if j<i then j else i)) g fx ρ s:=by
 obtain⟨t,rfl⟩:=r;obtain⟨u,rfl⟩:=B
 refine⟨.yf S λE Q h=>max_two_ints b λH a k=>h H a _ k ?_,.yf S λE Q h=>min_two_ints b λH a k=>h H a _ k ?_⟩
 ·by_cases c:i<j
  ·simp only[c,gt_iff_lt,if_true];exact⟨u,rfl⟩
  ·simp only[c,gt_iff_lt,if_false];exact⟨t,rfl⟩
 ·by_cases c:j<i
  ·simp only[c,if_true];exact⟨u,rfl⟩
  ·simp only[c,if_false];exact⟨t,rfl⟩
theorem UO(S:bR Z st g fx ρ s)(e:lz st a=some xs)(L:xs.length<=dI)(r:RV Z g ρ a x):br Z A (call (.builtin "len") [x]) st (.int xs.length) g fx ρ s:=by
 refine nZ (DB S e r) λl v n b O c=>?_;subst b;have H:=c.length;simp only[aL] at H;have z:(v.size:Int)<2^63:=by unfold dI at L;exact aaT L H
 refine .ofInt S λE Q h=>?_;rcases O with O|O
 ·refine call_len_list ⟨_,O,rfl,n,rfl⟩ z ?_;rw[H];exact h _ _
 ·refine P.len_tuple O (JD.mpr z) ?_;rw[H];exact h _ _
theorem HH(e:rO xs i=some x):∃k,seqIndex? i xs.length=some k/\xs[k]? =some x/\ -(dI:Int)<=i/\i<=dI/\(0<=i->k=i.toNat)/\(¬0<=i->k=(i+xs.length).toNat/\ -(xs.length:Int)<=i):=by
 refine pJ e λb e=>?_;have b:=eW b;by_cases H:0<=i
 ·rw[if_pos H] at e;have l:=(af.mp e).1;exact y16 i.toNat (seqIndex_of H<|(uh H).mp l) e ((NG b).1) ((NG b).2) (λz=>rfl) λh=>absurd H h
 ·rw[if_neg H] at e;by_cases n: -(xs.length:Int)<=i
  ·rw[if_pos n] at e;exact y16 _ (seqIndex_neg (OB H) n) e ((NG b).1) ((NG b).2) (λh=>absurd h H) λz=>⟨rfl,n⟩
  ·rw[if_neg n] at e;exact aR e
theorem BQ(S:bR Z st g fx ρ s)(e:lz st a=some xs)(V:rO xs k=some v)(r:RV Z g ρ a x)(M:RV Z g ρ (.int k) i):
  br Z A (nV x i) st v g fx ρ s/\(s.TypeIs x "list"\/s.TypeIs x "tuple"):=by
 refine nZ (DB S e r) λl U n f O B=>?_
 subst f
 refine eS M λt z=>?_
 subst z
 refine x16 (HH V) λj C D m p G I=>?_
 have H:=B.length
 simp only[aL] at H
 refine dn (B.get D) λy d w=>?_
 rw[bh] at d
 have L: -(2:Int)^63<=k:=by unfold dI at m;exact aaR m
 have b:k<2^63:=by unfold dI at p;exact aaQ p L
 rcases O with O|O
 ·refine⟨.of S w λE Q h=>?_,.inl ⟨_,O,rfl⟩⟩;by_cases c:0<=k
  ·have:=G c;subst this;exact wpAny_getItem_list ⟨_,O,rfl,n,rfl⟩ c b d<|h _
  ·refine i9 (I c) λJ N=>wpAny_getItem_list_neg ⟨_,O,rfl,n,rfl⟩ (OB c) (by rw[H];exact N) L (by rw[H,<-J];exact d)<|h _
 ·refine⟨.of S w λE Q h=>?_,.inr ⟨_,O,rfl⟩⟩;exact P.getItem_tuple O L b (by rw[H];exact C) d<|h _
theorem zL(S:bR Z st g fx ρ s)(b:st[k]? =some (.list xs))(r:RV Z g ρ (.h k) v):∃p vs n,ρ[k]? =some p/\p.1=p.2/\v=.ref p.1/\s.heap.get? p.1=some (lV vs n)/\dD Z g ρ xs vs.toList:=by refine dn r λp a z=>?_;subst z;obtain⟨H,vs,n,O,c⟩:=S.objs _ _ p b a;exact y35 p vs n a H rfl O c
theorem nh(S:bR Z st g fx ρ s)(a:st[k]? =some (.list xs))(c:ρ[k]? =some p)(h:p.1=p.2)(d:da p.1 s.heap h')(O:h'.get? p.1=some (lV vs n))(r:dD Z g ρ y vs.toList):
  bR Z (st.set k<|.list y) (mG Z g s.heap h') fx ρ {s with heap:=h',toks:=f}:=
 S.upd f a rfl c (λb o H z e=>(d.2 b H).trans e) ⟨h,vs,n,O,r.mono aX⟩
theorem tZ(f:Array Value->Array Value)(vs:Array Value)(n:Nat):∃N,Jw f (lV vs n)=lV (f vs) N:=⟨_,rfl⟩
theorem IT(S:bR Z st g fx ρ s){σ bk:ba}(b:σ.st=st)(e:zz k v σ=some bk)(r:RV Z g ρ (.h k) x)(V:RV Z g ρ v y):br Z A (call (.builtin "list.append") [x,y]) bk.st .none g fx ρ s/\bk.loc=σ.loc:=by subst b;refine av e λt H e=>iZ e λL e=>?_;have H:=tD H;have L:=eW L;subst e;refine XK (zL S H r) λp m n f a z d c=>?_;subst z;have l:=c.length;simp only[aL] at l;refine⟨λE Q h=>append_at d (λj i O=>?_)<|gz<|W8 L l,rfl⟩;exact h _ ρ _ _ aX (nh S H f a i O<|by simpa using c.append (.one V)) rfl
theorem UA(S:bR Z st g fx ρ s){σ bk:ba}(i:σ.st=st)(e:UM k σ=some (v,bk))(r:RV Z g ρ (.h k) x):br Z A (call (.builtin "list.pop") [x]) bk.st v g fx ρ s/\bk.loc=σ.loc:=by
 subst i;refine av e λa H e=>av e λI V e=>iZ e λL e=>dQ e λt e=>?_;have H:=tD H;have L:=eW L;subst e t;refine XK (zL S H r) λp m n C f z B b=>?_;subst z;have l:=b.length;simp only[aL] at l;rw[List.getLast?_eq_getElem?] at V;refine dn (b.get V) λy j w=>?_;rw[bh,<-l] at j;refine⟨λE Q h=>Copied.pop_at B j (λG D O=>?_)<|gz<|W8 L l,rfl⟩;refine h _ ρ _ _ aX (nh S H C f D O ?_)<|w.mono aX;have c:m.pop.toList=m.toList.take (a.length-1):=by rw[Array.toList_pop,C2,b.length]
 have d:a.dropLast=a.take (a.length-1):=C2;rw[c,d];exact b.take<|a.length-1
theorem It(S:bR Z st g fx ρ s){σ bk:ba}(f:σ.st=st)(e:zy k v σ=some bk)(r:RV Z g ρ (.h k) x)(G:RV Z g ρ v y):br Z A (call (.builtin "list.extend") [x,y]) bk.st .none g fx ρ s/\bk.loc=σ.loc:=by
 subst f;refine av e λt c e=>av e λI Y e=>iZ e λL e=>?_;have c:=tD c;have L:=eW L;subst e;refine XK (zL S c r) λp V n w d i O m=>?_;subst i;refine nZ (mi S Y G) λb ws D z B a=>?_;subst z;have H:=m.length;have l:=a.length;simp only[aL] at H l;have j:=gz L;refine⟨λE Q h=>u4 OD ⟨_,O,rfl⟩ F.entry_list_extend (F.args_list_extend_2 _ _)
  (AutoSeq1.list_extend_list_list_0 p.1 V n b ws D (extend_door (by rw[H,l];exact j)) (gz<|by omega) (by rw[H,l];exact dZ j)) ⟨O,B,?_⟩,rfl⟩
 refine eS (tZ (λt=>t++ws) V n) λC N=>h _ ρ _ _ aX (nh (vs:=V++ws) (n:=C) S c w d (cq ..) ?_<|by simpa using m.append a) rfl;rw[cW _ O rfl];exact congrArg some N
theorem zj(S:bR Z st g fx ρ s){k:Nat}{xs:List SV}{i:Int}{v:SV}{x vi y:Value}(hk:st[k]? =some (.list xs))(h0:0<=i)(h1:i<xs.length)(h2:i<=dI)(r:RV Z g ρ (.h k) x)(ri:RV Z g ρ (.int i) vi)(rv:RV Z g ρ v y):
  pP Z A (ki x vi y) (st.set k<|.list<|xs.set i.toNat v) g fx ρ s:=by
 refine XK (zL S hk r) λp vs n hp hpp zz5 ho rs=>?_
 subst zz5
 refine eS ri λt zz1=>?_
 subst zz1
 have hlen:=rs.length
 simp only[aL] at hlen
 intro E Q h
 have hl:s.heap.IsList p.1 vs:=⟨_,ho,rfl,n,rfl⟩
 unfold ki
 try with_reducible refine aO ?_
 first|refine aU (ab ?_)|skip
 refine aU<|nT hl.typeIs (by decide) ?_
 refine aU<|cC hl.typeIs slot_list_setitem
  (bl slot_list_setitem hl.typeIs entry_list_setitem ?_<|args_list_setitem _ _ _)
 show au _ _ (d9.List.listSubscript? (.int i t)>>=_) _ _ s
 refine aU<|wpAny_listSubscript_int (fitsIndex_of h0 (by unfold dI at h2;exact aaO h0 h2)) ?_
 refine eS (Int.eq_ofNat_of_zero_le h0) λj zz1=>?_
 subst zz1
 have hj:j<vs.size:=aaN hlen h1
 have hx':=fU hj
 refine aU<|aU<|wpAny_seqItemAt ho rfl<|ab ?_
 rw[hx']
 refine eS (tZ (·.setIfInBounds j y) vs n) λn' hn=>?_
 have hfin:(s.heap.update p.1<|Jw (·.setIfInBounds j y)).get? p.1=some (lV (vs.setIfInBounds j y) n'):=by rw[cW _ ho rfl];exact congrArg some hn
 have key:Q () {s with heap:=s.heap.update p.1<|Jw (·.setIfInBounds j y)}:=by refine h _ ρ _ aX<|nh S hk hp hpp (cq ..) hfin ?_;have:=rs.set (i:=j) rv;simpa using this
 refine aU<|wpAny_setSeqItemAt ho rfl ?_
 first
  |exact aU<|ab<|ab ⟨.none,rfl,ab key⟩
  |exact ab ⟨.none,rfl,ab key⟩
theorem L8(S:bR Z st g fx ρ s)(Y:il st o=some xs)(p:xs.length<=dI)(f:qx v xs=some (some j))(r:RV Z g ρ o x)(rv:RV Z g ρ v y)(M:A.units+1+b7<cLine):br Z A (call (.builtin "list.index") [x,y]) st (.int j) g fx ρ s:=by
 refine nZ (mi S Y r) λl V n b O C=>?_;subst b;refine av f λd c f=>av f λG k f=>iZ f λI f=>?_;have D:=eW I;refine eS (dD.reads S.keep k C) λas B=>eS (RV.reads S.keep c rv) λbs qa=>?_;have w:=sT k;have la:=vt c;have e:=C.length;simp only[aL] at e;have a:=(readsAll_map _ _ _ w B).symm;have i:=f;rw[a,ij] at i;obtain⟨J,t,N⟩:=bo.mp i;have H:j<V.size:=by simpa using J
 have U:A.units+1+min (kJ G) d.depth<cLine:=aaa M D;exact .ofInt S λE Q h=>u4 Se ⟨_,O,rfl⟩ F.entry_list_index (F.args_list_index_2 _ _)
  (list_indexAt l V n none #[] y (λz=>bc (readOf s.heap z) d) j H (by unfold dI at p;exact aaM p e H) (by simpa using t) λm hm L=>by simpa using N m L) ⟨O,items_eqAt B qa w la U,h _ _⟩
theorem J0(S:bR Z st g fx ρ s)(e:lz st a=some xs)(L:xs.length<=dI)(r:RV Z g ρ a x):br Z A (call (.type "tuple") [x]) st (.tup xs) g fx ρ s:=by
 refine X0 e (λi=>?_) λj=>?_
 ·subst i;refine nZ r λt v n z O c=>?_;subst z;exact .of S ⟨t,v,n,rfl,O,c⟩ λE Q h=>call_tuple_same ⟨_,S.keep _ _ O,rfl,n,rfl⟩<|h _
 ·refine nZ (mi S j r) λl v n z O c=>?_;subst z;have H:=c.length;simp only[aL] at H;refine .yf S λE Q h=>call_tuple_list ⟨_,O,rfl,n,rfl⟩ (λd f=>?_)<|gz<|W8 L H;have N:s.heap.get? d.objs.size=none:=by
   cases q:s.heap.get? d.objs.size with
   |none=>rfl
   |some o=>exact absurd (bW<|f _ _ q)<|b0 _
  have k:∀b o,s.heap.get? b=some o->(d.push<|O7 v 0).get? b=some o:=λb o q=>b8 _ _<|f b o q;exact h _ _ _ k (s9 S s.toks k N dH c).2
end
theorem Er(h:l[i]? =some x):cQ l (x::l.eraseIdx i):=by
 obtain⟨H,rfl⟩:=af.mp h;rw[List.eraseIdx_eq_take_drop_succ];have:l=l.take i++l[i]::l.drop (i+1):=by rw[List.getElem_cons_drop,cV]
 exact(cQ.of_eq this).trans List.perm_middle
theorem P0(next:Nat->Nat)(f:Nat):∀(k:Nat)(left:List b)(out:Array b),left.length<=f->cQ (qv next f k left out).toList (out.toList++left):=by
 induction f with
 |zero=>intro k left out h;have:left=[]:=AL.mp (by exact Z5 h);subst this;show cQ out.toList (out.toList++[]);rw[a9]
 |succ f i=>
  intro k left out h;cases left with
  |nil=>show cQ out.toList (out.toList++[]);rw[a9]
  |cons a r=>
   have l:next k%(a::r).length<(a::r).length:=sN _<|n5 _
   have H:=ax l;rw[show qv next (f+1) k (a::r) out=@Option.rec b (λz=>Array b) out (λx=>qv next f (k+1) ((a::r).eraseIdx<|next k%(a::r).length)<|out.push x) ((a::r)[next k%(a::r).length]?) from by kernel_rfl,H];refine(i (k+1) _ _ ?_).trans ?_
   ·rw[List.length_eraseIdx_of_lt l];exact G7 h
   ·rw[I7,aM];exact cQ.append_left _ (Er H).symm
theorem HX(next:Nat->Nat)(xs:Array a):cQ (pickOrder next xs).toList xs.toList:=by
 have:=P0 next xs.size 0 xs.toList #[] (by simp)
 show cQ (qv next xs.size 0 xs.toList #[]).toList xs.toList;simpa using this
theorem PX(m:Nat):0<m+1:=n5 m
noncomputable def pD(m:Nat):Nat->Nat->Nat->Bool
 |0,_,_=>false
 |k+1,i,j=>i==j||pD m k ((i*5+1)%(m+1)) j
def wQ(m:Nat):Bool:=(ak<|m+1).all λi=>(ak<|m+1).all λj=>pD m (m+1) i j
theorem adv:wQ 7=true:=by decide+kernel
theorem YP:wQ 15=true:=by decide+kernel
theorem YO:wQ 31=true:=by decide+kernel
theorem YN:wQ 63=true:=by decide+kernel
def iX(m:Nat):Prop:=m=7\/m=15\/m=31\/m=63
theorem ada(h:iX m)(H:i<=m)(J:j<=m):pD m (m+1) i j=true:=by
 have k:wQ m=true->pD m (m+1) i j=true:=λa=>by have:=aZ.mp a i (bV.mpr<|by exact ar4 H);exact aZ.mp this j<|bV.mpr<|by exact ar4 J
 rcases h with rfl|rfl|rfl|rfl
 ·exact k adv
 ·exact k YP
 ·exact k YO
 ·exact k YN
theorem HM(h:i<=m):i<=gM m i/\gM m i<=m:=by unfold gM;split<;>omega
theorem yW(owner:Array (Option Nat))(f i p:Nat):cT m owner (f+1) i p=@Option.rec Nat (λz=>Option Nat) (cT m owner f (pX m i p).1 (pX m i p).2) (λk=>some<|i+k) ((ak<|gM m i+1-i).find? λk=>(owner.getD (i+k)<|some 0).isNone):=by kernel_rfl
theorem Im(owner:Array (Option Nat))(f:Nat):∀(i:Nat),i<=m->cT m owner f i 0=none->∀n,n<=f->∀j,pD m n i j=true->(owner.getD j<|some 0).isNone=false:=by
 induction f with
 |zero=>intro i I h n N j H;obtain rfl:=Z5 N;exact ae H
 |succ f b=>
  intro i I h n N j H;rw[yW] at h;cases hf:(ak<|gM m i+1-i).find? λk=>(owner.getD (i+k)<|some 0).isNone with
  |some k=>rw[hf] at h;cases h
  |none=>
   rw[hf] at h;cases n with
   |zero=>exact ae H
   |succ n=>
    rcases eI.mp (show(i==j||pD m n ((i*5+1)%(m+1)) j)=true from H) with H|H;obtain rfl:=eq_of_beq H
    ·rw[List.find?_eq_none] at hf;have:=hf 0 (bV.mpr (by have:=(HM I).1;exact aaL this));simpa[Option.isSome_iff_ne_none] using this
    ·have a:cT m owner f ((i*5+1)%(m+1)) 0=none:=by
      simpa[pX] using h
     exact b _ (by have:=sN (i*5+1)<|PX m;exact aP this) a n (by exact afc N) j H
theorem QV(owner:Array (Option Nat))(f:Nat):∀(i p j:Nat),cT m owner f i p=some j->(owner.getD j<|some 0).isNone=true:=by
 induction f with
 |zero=>intro i p j h;cases h
 |succ f I=>
  intro i p j h;rw[yW] at h;cases hk:(ak<|gM m i+1-i).find? λk=>(owner.getD (i+k)<|some 0).isNone with
  |some k=>rw[hk] at h;obtain rfl:=aa h;have:=n9 hk;exact this
  |none=>rw[hk] at h;exact I _ _ j h
theorem xV{owner:Array (Option Nat)}:(owner.getD j<|some 0).isNone=true↔owner[j]? =some none:=by
 rw[lr];cases h:owner[j]? with
 |none=>simp
 |some x=>cases x<;>simp
theorem EE(a:0<=h)(H:h<32):pY h<32:=by unfold pY;exact lU.mp (by rw[i3<|Int.emod_nonneg _<|by decide,Int.emod_eq_of_lt a<|C4 H<|by decide];exact H)
theorem Il{m:Nat}(c:iX m){owner:Array (Option Nat)}{j:Nat}(H:owner[j]? =some none)(s:owner.size=m+1){b:Nat}(B:b<32):
  ∃k,cT m owner (nW m) (b%(m+1)) b=some k/\owner[k]? =some none:=by
 have h:j<=m:=by obtain⟨q,_⟩:=xn.mp H;exact aaJ s q
 have M:b%(m+1)<=m:=by have:=sN b<|PX m;exact aP this
 cases e:cT m owner (nW m) (b%(m+1)) b with
 |some k=>exact⟨k,rfl,xV.mp<|QV owner _ _ _ k e⟩
 |none=>
  exfalso;have d:=e;unfold nW at e;rw[show m+15=(m+14)+1 from rfl] at e;rw[yW] at e;cases hf:(ak<|gM m (b%(m+1))+1-b%(m+1)).find? λk=>(owner.getD (b%(m+1)+k)<|some 0).isNone with
  |some k=>rw[hf] at e;cases e
  |none=>
   rw[hf] at e;have a:cT m owner (m+14) ((b%(m+1)*5+1)%(m+1)) 0=none:=by have:b/32=0:=Nat.div_eq_of_lt B;simpa[pX,this] using e
   have:=Im owner (m+14) _ (by have:=sN (b%(m+1)*5+1)<|PX m;omega) a (m+1) (by omega) j (ada c (by have:=sN (b%(m+1)*5+1)<|PX m;omega) h);rw[xV.mpr H] at this;exact ae this
theorem xw{l:List (Option Nat)}:∀{j:Nat},l[j]? =some none->cQ ((l.set j<|some k).filterMap id) (k::l.filterMap id):=by
 induction l with
 |nil=>intro j h;exact E0 rfl<|heq_of_eq h
 |cons x l i=>
  intro j h;cases j with
  |zero=>obtain rfl:=aa h;exact .rfl
  |succ j=>
   have i:=i (j:=j) h;cases x with
   |none=>exact i
   |some y=>exact(i.cons y).trans<|G9 _ _ _
theorem xA{l:List (Option Nat)}(h:(l.filterMap id).length<l.length):∃j:Nat,l[j]? =some none:=by
 induction l with
 |nil=>simp at h
 |cons x l i=>
  cases x with
  |none=>exact⟨0,rfl⟩
  |some y=>simp only[eH,id,cI] at h;refine eS (i<|by exact ace h) λj H=>?_;exact⟨j+1,by simpa using H⟩
noncomputable def uP(m:Nat)(a:Option (Array (Option Nat)×Nat))(h:Int):Option (Array (Option Nat)×Nat):=do
 let(owner,k)<-a;let j<-cT m owner (nW m) (pY h%(m+1)) (pY h)
 pure (owner.setIfInBounds j<|some k,k+1)
theorem BE(m:Nat)(h:Array Int):CT m h=(h.foldl (uP m)<|some (NY (m+1) none,0)).map (·.1):=rfl
theorem LQ{m:Nat}(M:iX m)(s:List Int):∀(owner:Array (Option Nat))(k:Nat),(∀h∈s,0<=h/\h<32)->owner.size=m+1->cQ (owner.toList.filterMap id) (ak k)->k+s.length<=m+1->
  ∃w,s.foldl (uP m) (some (owner,k))=some (w,k+s.length)/\w.size=m+1/\cQ (w.toList.filterMap id) (ak<|k+s.length):=by
 induction s with
 |nil=>exact λowner k z H a z=>⟨owner,rfl,H,a⟩
 |cons h s I=>
  intro owner k c H a b;have l:(owner.toList.filterMap id).length<owner.toList.length:=by rw[a.length_eq,ar,aL,H];simp only[cI] at b;exact n7 b
  refine eS (xA l) λj J=>?_;rw[bh] at J;refine dn (Il M J H<|EE (c h aw).1 (c h aw).2) λq g Q=>?_;have t:uP m (some (owner,k)) h=some (owner.setIfInBounds q<|some k,k+1):=by unfold uP;simp[g]
  rw[List.foldl_cons,t];have p:cQ ((owner.setIfInBounds q<|some k).toList.filterMap id) (ak<|k+1):=by rw[Array.toList_setIfInBounds];refine(xw (by rw[bh];exact Q)).trans ?_;refine(a.cons k).trans ?_;rw[d6];exact(List.perm_append_singleton _ _).symm
  obtain⟨O,e,d,f⟩:=I (owner.setIfInBounds q<|some k) (k+1) (λx i=>c x<|ay _ i) (by simpa using H) p (by simp only[cI] at b;exact aaI b);rw[show k+(h::s).length=k+1+s.length by rw[cI];exact W9];exact xX O e d f
theorem BC(M:iX m){s:Array Int}(H:∀h∈s.toList,0<=h/\h<32)(N:s.size<=m+1):∃owner,CT m s=some owner/\owner.size=m+1/\cQ (owner.toList.filterMap id) (ak s.size):=by
 obtain⟨o,e,a,b⟩:=LQ M s.toList (NY (m+1) none) 0 H (by simp) (by
  rw[Array.toList_replicate];have:∀n:Nat,(bf n (none:Option Nat)).filterMap id=[]:=by
   intro n;induction n with
   |zero=>rfl
   |succ n i=>simpa[qZ] using i
  rw[this];simp) (by simpa using N)
 refine xX o ?_ a (by simpa using b);rw[BE,<-Array.foldl_toList,e];rfl
theorem Qx{led plain:Bool}(M:iX m){s:Array Int}(d:∀h∈s.toList,0<=h/\h<32)(H:s.size<=m):
  ∃t r,lY m finger moves led plain s=some (t,r)/\cQ r.toList (ak s.size)/\t.fits s.size=true/\t.dummies=#[]/\t.led=led:=by
 refine sA (BC M d<|dZ H) λo b c a=>?_
 have L:∀(l:List (Option Nat)),((ak l.length).filterMap λj=>(l[j]?.getD none).map (j,·)).map (·.2)=l.filterMap id:=by
  intro l;rw[List.map_filterMap];have:(λj:Nat=>E1 (λx:Nat×Nat=>x.2)<|(l[j]?.getD none).map (j,·))=λj=>l[j]?.getD none:=by funext j;cases l[j]?.getD none<;>rfl
  rw[this];induction l with
  |nil=>rfl
  |cons x l I=>
   rw[cI,List.range_succ_eq_map,eH,I6];have e:((λj:Nat=>(x::l)[j]?.getD none)∘je)=λj=>l[j]?.getD none:=by funext j;simp
   rw[e,I (by funext j;cases l[j]?.getD none<;>rfl)];cases x<;>simp
 have i:((ak<|m+1).filterMap λj=>(o.getD j none).map (j,·)).map (·.2)=o.toList.filterMap id:=by rw[<-L o.toList,aL,c];congr 2;funext j;rw[lr,bh]
 have n:((ak<|m+1).filterMap λj=>(o.getD j none).map (j,·)).length=s.size:=by rw[<-ag (f:=(·.2)),i,a.length_eq,ar]
 refine y25 _ _ (by unfold lY;rw[b];rfl) ?_ ?_ rfl rfl
 ·rw[qX,i];exact a
 ·simp only[lZ,w4,mv,ag,n,beq_self_eq_true,mP,Array.size_empty,Nat.add_zero,decide_eq_true_eq];exact H
theorem DQ{es:Array (Int×Value)}{r:Array Nat}(h:cQ r.toList (ak es.size)):cQ (r.filterMap (es[·]?)).toList es.toList:=by rw[Array.toList_filterMap];exact(h.filterMap _).trans (by rw[filterMap_getElem?_range])
theorem zg(h:n<=63):iX (c0 n-1)/\n<=c0 n-1/\c0 n<=64:=by
 have:∀k:Fin 64,(c0 k-1=7\/c0 k-1=15\/c0 k-1=31\/c0 k-1=63)/\k.val<=c0 k-1/\c0 k<=64:=by decide+kernel
 exact this ⟨n,by exact aaH h⟩
theorem f9(h:0<=i)(H:i<32):gD i=i:=by
 have:∀k:Fin 32,gD k.val=k.val:=by decide+kernel
 have:=this ⟨i.toNat,Z4 h H⟩;rw[show((⟨i.toNat,Z4 h H⟩:Fin 32).val:Int)=i by simp;exact Int.max_eq_left h] at this;exact this
section
variable{w:cD}{es es':Array (Int×Value)}{t t':SetTable}{p p':Int->Prop}
theorem SG.perm(G:SG w es t p)(h:cQ es'.toList es.toList)(f:t'.fits es'.size=true)(d:t'.dummies=#[])(l:w.params.followText "set-order"=true\/t'.led=true):SG w es' t' p:=
 ⟨λe H=>G.each e<|h.mem_iff.mp H,λi I=>(G.all i I).imp λz q=>h.mem_iff.mpr q,(h.map _).nodup_iff.mpr G.nodup,G.low,f,d,l⟩
theorem SG.congr(G:SG w es t p)(h:∀i,p i↔p' i):SG w es t p':=
 ⟨λe a=>(G.each e a).imp λi q=>q.imp λk q=>⟨q.1,(h i).mp q.2⟩,λi H=>G.all i<|(h i).mpr H,G.nodup,λi H=>G.low i<|(h i).mpr H,G.fits,G.Iw,G.led⟩
theorem SG.push{x:Value}(G:SG w es t p)(n:¬p i)(h0:0<=i/\i<32)(h:cQ es'.toList (es.toList++[(gD i,.int i k)]))(l:t'.fits es'.size=true)(hd:t'.dummies=#[])(L:w.params.followText "set-order"=true\/t'.led=true):SG w es' t' (λj=>p j\/j=i) where
 each e d:=by
  rcases b4.mp (h.mem_iff.mp d) with d|d
  ·refine pg (G.each e d) λj k q r=>XI j k q<|.inl r
  ·rw[aD] at d;exact XI i k d (.inr rfl)
 all j H:=by
  rcases H with H|rfl
  ·refine eS (G.all j H) λk q=>⟨k,h.mem_iff.mpr<|kL _ q⟩
  ·exact⟨k,h.mem_iff.mpr<|ib _<|aD.mpr rfl⟩
 nodup:=by rw[(h.map _).nodup_iff,a6,cL];refine⟨G.nodup,by simp,λa g b hb=>?_⟩;simp only[cA,lM,aD] at hb;subst hb;refine dn (bw.mp g) λe d z=>?_;subst z;refine pg (G.each e d) λj m z H=>?_;subst z;intro f;dsimp only at f;rw[f9 (G.low j H).1 (G.low j H).2,f9 h0.1 h0.2] at f;exact n (f▸H)
 low j H:=by
  rcases H with H|rfl
  ·exact G.low j H
  ·exact h0
 fits:=l
 Iw:=hd
 led:=L
theorem SG.hashes(G:SG w es t p):∀h∈(es.map (·.1)).toList,0<=h/\h<32:=by intro h H;rw[Array.toList_map] at H;refine dn (bw.mp H) λe a z=>?_;subst z;refine pg (G.each e a) λi k z I=>?_;subst z;have:=G.low i I;rw[f9 this.1 this.2];exact this
theorem SG.size(G:SG w es t p){xs:List Int}(n:xs.Nodup)(x:∀i,p i↔i∈xs):es.size=xs.length:=by
 have d:∀i,i∈es.toList.map (·.1)↔i∈xs:=by
  intro i;rw[<-x];constructor
  ·intro h;refine dn (bw.mp h) λe f z=>?_;subst z;refine pg (G.each e f) λj k z H=>?_;subst z;rw[f9 (G.low j H).1 (G.low j H).2];exact H
  ·intro h;refine eS (G.all i h) λk q=>bw.mpr ⟨_,q,f9 (G.low i h).1 (G.low i h).2⟩
 have a:=G.nodup.length_le_of_subset λi h=>(d i).mp h;have b:=n.length_le_of_subset λi h=>(d i).mpr h;simp at a b;exact cX a b
theorem SG.LP(G:SG w es t p):es.size<=32:=by
 have h:=G.nodup.length_le_of_subset λi H=>by have:=G.hashes i (by simpa using H);exact bw.mpr ⟨i.toNat,bV.mpr<|aaG this,aaE this⟩
 simpa using h
theorem SG.elems{prog:Program}(G:SG w es t p):ElemsOf (eV prog w) es.toList:=λe h=>by refine pg (G.each e h) λi k a z=>?_;subst a;exact⟨⟨i,ll _ _ _ _,rfl⟩,rfl⟩
theorem SG.scan{x:Value}(G:SG w es t p)(h:x.scannable=true):byScan x es=true:=
 byScan_of (prog:=default) h (by have:=G.LP;unfold scanBound;exact aaD this) G.elems
theorem SG.empty{led:Bool}(l:w.params.followText "set-order"=true\/led=true):SG w #[] (.fresh 0 0 led) λz=>False:=
 ⟨λe H=>by simp at H,λz h=>h.elim,by simp,λz h=>h.elim,rfl,rfl,l⟩
end
section
variable{c:String}{prog:Program}{w:cD}{A:bq}{E:Value->Shared->Prop}{s:Shared}
def ux(c:String)(w:cD)(h:Heap)(a:Addr)(p:Int->Prop):Prop:=∃es e t,h.get? a=some (w8 c es e t)/\SG w es t p
theorem ux.congr{p p':Int->Prop}(F:ux c w h a p)(e:∀i,p i↔p' i):ux c w h a p':=F.imp λz=>aA λz=>aA λz=>aG λG=>G.congr e
theorem ux.typeIs{p:Int->Prop}(F:ux c w s.heap a p):s.TypeIs (.ref a) c:=F.elim λz F=>F.elim λz F=>F.elim λz F=>⟨_,F.1,rfl⟩
abbrev FS(w:cD)(h:Heap)(a:Addr)(p:Int->Prop):Prop:=ux "frozenset" w h a p
theorem zU{p:Int->Prop}(F:ux c w s.heap a p)(h:∀r:Option Nat,(r.isSome=true↔p i)->Q r s):au (model prog w) A (setFind a (.int i g)<|gD i) Q E s:=by
 refine rF F λes f t O G=>?_;have m:(∃e∈es.toList,(eV prog w).is i e.2=true)↔p i:=by
  constructor
  ·rintro⟨e,H,I⟩;refine pg (G.each e H) λj k z J=>?_;subst z;have:j=i:=by simpa[eV,mq] using I.symm
   exact this▸J
  ·intro I;refine eS (G.all i I) λk q=>⟨_,q,ll _ _ _ _⟩
 refine aI<|bu O rfl G.fits ?_;dsimp only;rw[G.scan rfl];simp only[↓reduceIte];refine aU<|c5 ?_;refine aU<|wpAny_setScan_of (ll _ _ _ _) O rfl G.fits G.elems ?_;cases hr:List.findIdx? (λe=>(eV prog w).is i e.2) es.toList with
 |none=>refine ab<|h none ?_;rw[<-m];simp only[qW,dc,false_iff];rintro⟨e,H,d⟩;have:=bI.mp hr e H;rw[d] at this;exact ae this
 |some j=>refine ab<|h (some<|0+j) ?_;rw[<-m];obtain⟨J,b,_⟩:=bo.mp hr;simp only[Option.isSome_some,true_iff];exact⟨es.toList[j],kl J,b⟩
theorem kW(t:SetTable)(n:Nat):(t.standIn n).dummies=#[]/\(t.standIn n).led=t.led:=⟨rfl,rfl⟩
theorem vV{t:SetTable}(n:Nat)(h:t.dummies=#[]):(t.orStandIn n).dummies=#[]/\(t.orStandIn n).led=t.led:=by
 unfold SetTable.orStandIn;split
 ·exact⟨h,rfl⟩
 ·exact kW t n
theorem La{t:SetTable}(j:Nat)(h:t.dummies=#[]):(t.put j).1.dummies=#[]/\(t.put j).1.led=t.led:=by unfold SetTable.put;refine⟨?_,rfl⟩;dsimp only;rw[h];rfl
set_option tactic.hygienic true in
theorem BB{t:SetTable}{es:Array (Int×Value)}(H:t.dummies=#[]):(layNew t es h x).2.1.dummies=#[]/\(layNew t es h x).2.1.led=t.led:=by
 unfold layNew;split
 ·rename_i slot wd _
  have:=La slot H;have q:=vV (SetTable.insertAt es (t.put slot).2 (h,x)).size this.1;exact⟨q.1,q.2.trans this.2⟩
 ·exact kW t _
set_option tactic.hygienic true in
theorem xx{t:SetTable}{es:Array (Int×Value)}:(sG t es n).2.1.dummies=#[]/\(sG t es n).2.1.led=t.led:=by
 unfold sG;split
 ·rename_i t' order hr
  have:t'.dummies=#[]/\t'.led=t.led:=by unfold SetTable.relaid lY at hr;simp only[CU,fo,Jv,pZ,iQ] at hr;refine sA hr λo z a z=>?_;subst a;exact⟨rfl,rfl⟩
  dsimp only;split
  ·exact this
  ·exact kW t _
 ·exact kW t _
theorem oy{es es':Array (Int×Value)}{t t':SetTable}(H:s.heap.get? a=some (w8 c es e t))(z:es'.size<=40)
  (h:∀h',da a s.heap h'->h'.get? a=some (w8 c es' (e+1) t')->Q () {s with heap:=h'}):au (model prog w) A (Oh a es' t') Q E s:=by
 refine wpAny_storeSet_of H rfl (h _ (cq ..) ?_) (by rw[hY];exact ah z<|of_decide_eq_true<|id<|cN true)
 have:=cW (Obj.putSet es' t') H rfl
 exact this
theorem Fl{g:Bool->xM Unit}(y:∀(b:Bool)(f:Shared)(Q:Unit->Shared->Prop),Q () f->au (model prog w) A (g b) Q E f)
  {es e:Array (Int×Value)} {t d:SetTable} {p:Int->Prop} (B:s.heap.get? a=some (w8 c es C t)) (G:SG w e d p) {R:Option Bool->Shared->Prop}
  (h:∀h',da a s.heap h'->ux c w h' a p->R (some true) {s with heap:=h'}):
  au (model prog w) A (do
    Oh a e d
    if(!D&&d.tooFull)=true then do
      g (sG d e<|hZ e.size).2.2
      Oh a (sG d e<|hZ e.size).1 (sG d e<|hZ e.size).2.1
      pure (some true)
     else pure (some true)) R E s:=by
 have z:e.size<=40:=by have:=G.LP;exact ar9 this
 refine aU<|oy B z λI i O=>?_
 split
 ·have j:=relayAll_perm d e<|hZ e.size;have H:=relayAll_fits d e<|hZ e.size;have r:=xx (t:=d) (es:=e) (n:=hZ e.size);generalize L:sG d e (hZ e.size)=Rl at j H r ⊢;obtain⟨k,M,v⟩:=Rl;dsimp only at j H r ⊢;have x:k.size<=40:=by rw[<-aL,j.length_eq,aL];exact z
  refine aU<|y _ _ _ ?_;refine aU<|oy O x λJ m l=>?_;exact ab<|h _ (i.trans m) ⟨_,_,_,l,G.perm j H r.1<|G.led.imp id λq=>r.2.trans q⟩
 ·exact ab<|h _ i ⟨_,_,_,O,G⟩
theorem EL{p:Int->Prop}(F:ux c w s.heap a p)(hi:0<=i/\i<32){Q:Bool->Shared->Prop}
  (h:∀h' b,da a s.heap h'->ux c w h' a (λj=>p j\/j=i)->Q b {s with heap:=h'}):au (model prog w) A (setAddHashed a (.int i tk)<|gD i) Q E s:=by
 refine rF F λes ep t ho G=>?_
 have hmem:(∃e∈es.toList,(eV prog w).is i e.2=true)↔p i:=by
  constructor
  ·rintro⟨e,he,hi⟩;refine pg (G.each e he) λj tk' zz2 hj=>?_;subst zz2;have:j=i:=by simpa[eV,mq] using hi.symm
   exact this▸hj
  ·intro hi;refine eS (G.all i hi) λtk' q=>⟨_,q,ll _ _ _ _⟩
 refine aO<|aI<|bu ho rfl G.fits ?_
 dsimp only
 rw[G.scan rfl]
 simp only[↓reduceIte]
 refine aU<|aU<|c5 ?_
 refine aU<|wpAny_setScan_of (ll _ _ _ _) ho rfl G.fits G.elems ?_
 cases hr:List.findIdx? (λe=>(eV prog w).is i e.2) es.toList with
 |some j=>obtain⟨hj,hpj,_⟩:=bo.mp hr;have hpi:=hmem.mp ⟨es.toList[j],kl hj,hpj⟩;refine ab<|ab ?_;refine h s.heap _ (kT a s.heap) ⟨es,ep,t,ho,G.congr λj=>⟨.inl,λq=>q.elim id λe=>e▸hpi⟩⟩
 |none=>
  have hnp:¬p i:=λhpi=>by refine dn (hmem.mpr hpi) λe he hp=>?_;have:=bI.mp hr e he;rw[hp] at this;exact ae this
  have hgw:∀(b:Bool){bG:Shared}{Q':Unit->Shared->Prop},Q' () bG->au (model prog w) A (match b with|true=>rule "set.scan.the-table-gave-way"|false=>pure ()) Q' E bG:=
   λb bG Q' hq=>by cases b<;>first|exact ab hq|exact c5 hq
  have hperm:=layNew_perm t es (gD i)<|.int i tk;have hfits:=layNew_fits t es (gD i)<|.int i tk;have hdumm:=BB (es:=es) (h:=gD i) (x:=.int i tk) G.Iw;generalize hL:layNew t es (gD i) (.int i tk)=L at hperm hfits hdumm ⊢;obtain⟨es1,t1,wasDummy,gave⟩:=L;dsimp only at hperm hfits hdumm ⊢;have G1:=G.push (x:=.none) hnp hi (by simpa using hperm) hfits hdumm.1<|G.led.imp id λq=>hdumm.2.trans q;refine aU<|hgw _ ?_;have fin:=λh' x y=>h h' true x y;split
  ·refine aU ?_;rw[hashByValue_scannable 8 rfl];refine ab<|Fl ?_ ho G1 λh' x y=>ab<|fin h' x y;intro b bG Q' hq;cases b<;>first|exact ab hq|exact c5 hq
  ·refine aI<|ab ?_;simp only[↓reduceIte];refine Fl ?_ ho G1 λh' x y=>ab<|fin h' x y;intro b bG Q' hq;cases b<;>first|exact ab hq|exact c5 hq
end
section
variable{c:String}{prog:Program}{w:cD}{A:bq}{E:Value->Shared->Prop}{s:Shared}
theorem pN(I:List d->Shared->Prop)(step:∀x r s,I (x::r) s->∀a:ForInStep e->Shared->Prop,(∀s',I r s'->a (.yield b) s')->au (model prog w) A (f x b) a E s)(l:List d):∀(s:Shared),I l s->(∀s',I [] s'->Q b s')->au (model prog w) A (forIn l b f) Q E s:=by
 induction l with
 |nil=>intro s h H;rw[gH];exact ab<|H s h
 |cons x r i=>intro s h H;rw[cb];exact aU<|step x r s h _ λs' h'=>i s' h' H
theorem fJ(H:s.heap.get? a=some (w8 c es e t))(G:SG w es t p)(h:Q es s):au (model prog w) A (setEntries a) Q E s:=
 wpAny_setEntries_of H rfl G.fits h
theorem ph(h:Q (w.params.followText "set-order") s):au (model prog w) A setsByText Q E s:=by unfold setsByText;exact aU<|gX<|ab h
theorem Bm(h:∀b∈d,∃q,ux c w s.heap b q)(C:Q true s):au (model prog w) A (setsQuiet d) Q E s:=by
 unfold setsQuiet;refine aU<|pN (λl k=>k=s/\∀b∈l,b∈d) (λa r k I D m=>?_) d s ⟨rfl,λz q=>q⟩ ?_
 ·refine i9 I λg y=>?_;subst g;refine XJ (h a<|y a aw) λq v L t O G=>aU<|fJ O G<|aU ?_;rw[<-eY];refine pN (λl f=>f=k/\∀e∈l,e∈v.toList) (λe M f J B H=>?_) v.toList k ⟨rfl,λz q=>q⟩ ?_
  ·refine i9 J λg j=>?_;subst g;refine pg (G.each e<|j e aw) λi N p z=>?_;subst p;exact ab<|H _ ⟨rfl,λx n=>j x<|ay _ n⟩
  ·rintro f ⟨rfl,_⟩;exact ab<|m _ ⟨rfl,λx n=>y x<|ay _ n⟩
 ·rintro k ⟨rfl,_⟩;exact ab C
theorem vn(ho:s.heap.get? a=some (w8 c es ep t))(G:SG w es t p)(hc:(w.params.followText "set-order"||t.led&&t.plain||decide (es.size<=1))=true)
  (h:∀l:Array (Int×Value),cQ l.toList es.toList->Q l s):au (model prog w) A (setWalk a) Q E s:=by
 unfold setWalk
 refine aU<|bu ho rfl G.fits ?_
 dsimp only
 refine aU<|ph ?_
 cases hb:w.params.followText "set-order" with
 |true=>refine JT<|aU<|gX<|ab<|h _<|HX _ _
 |false=>
  rw[hb] at hc;simp -iota only[Bool.false_or,g7,dr,decide_eq_true_eq] at hc;refine sQ ?_;have hd:(!t.plain&&decide (es.size>1))=false:=by
   rcases hc with hc|hc
   ·simp -iota [hc.2]
   ·simp;exact aah hc
  have hm:(!t.led&&decide (es.size>1))=false:=by
   rcases hc with hc|hc
   ·simp -iota [hc.1]
   ·simp;exact aah hc
  show au _ _ (if(!t.plain&&decide (es.size>1))=true then _ else _) Q E s;rw[hd];refine sQ<|aU ?_;show au _ _ (if(!t.led&&decide (es.size>1))=true then _ else _) _ E s;rw[hm];refine sQ<|ab<|ab<|h _ .rfl
theorem JV(ho:s.heap.get? a=some (w8 c es ep t))(G:SG w es t p)(hot:∀b∈others,∃q,ux c w s.heap b q)
  (h:∀l:Array (Int×Value),cQ l.toList es.toList->Q l s):au (model prog w) A (uB a others none) Q E s:=by
 unfold uB
 refine aU<|bu ho rfl G.fits ?_
 dsimp only
 refine aI<|ph ?_
 split
 ·rename_i hc
  exact vn ho G hc h
 ·refine aU<|Bm (c:=c) (λb hb=>?_) ?_
  ·rcases aQ.mp hb with rfl|hb
   ·exact y42 p es ep t ho G
   ·exact hot b hb
  ·refine sQ<|aU<|c5<|ab<|h _ .rfl
theorem AR(ho:s.heap.get? a=some (w8 c es ep t))(G:SG w es t p)(hot:∀b∈others,∃q,ux c w s.heap b q)(F:ux c w s.heap f q)
  (h:∀(l:Array (Int×Value)) h',cQ l.toList es.toList->da f s.heap h'->ux c w h' f q->Q l {s with heap:=h'}):au (model prog w) A (uB a others<|some f) Q E s:=by
 have h0:=λl hl=>h l s.heap hl (kT _ _) F
 unfold uB
 refine aU<|bu ho rfl G.fits ?_
 dsimp only
 refine aI<|ph ?_
 split
 ·rename_i hc
  exact vn ho G hc h0
 ·rename_i hc
  refine aU<|Bm (c:=c) (λb hb=>?_) ?_
  ·rcases aQ.mp hb with rfl|hb
   ·exact y42 p es ep t ho G
   ·exact hot b hb
  ·refine sQ<|aU<|c5 ?_;refine rF F λef epf tf hof Gf=>aI<|bu hof rfl Gf.fits ?_;dsimp only;split
   ·refine aU (oy hof (by have:=Gf.LP;exact ar9 this) λh' hs' ho'=>ab<|h _ _ .rfl hs' ⟨_,_,_,ho',?_⟩);have hb:w.params.followText "set-order"=false:=by
     cases hb:w.params.followText "set-order" with
     |false=>rfl
     |true=>rw[hb] at hc;simp at hc
    refine⟨Gf.each,Gf.all,Gf.nodup,Gf.low,Gf.fits,Gf.Iw,.inr ?_⟩;have h1:=Gf.led;have h2:=G.led;rw[hb] at h1 h2;simp at h1 h2;simp -iota [h1,h2]
   ·exact ab<|h0 _ .rfl
theorem vM{es:Array (Int×Value)}{g:SetTable}{p:Int->Prop}(G:SG w es g p){led plain:Bool}(H:iX m)(n:es.size<=m)(l:w.params.followText "set-order"=true\/led=true):
  ∃t r,lY m finger moves led plain (es.map (·.1))=some (t,r)/\(r.filterMap (es[·]?)).size=es.size/\SG w (r.filterMap (es[·]?)) t p:=by
 refine x25 (Qx (finger:=finger) (moves:=moves) (led:=led) (plain:=plain) H G.hashes<|by simpa -iota using n) λt r b e a d f=>?_
 rw[Array.size_map] at e a
 have h:=DQ e
 have z:(r.filterMap (es[·]?)).size=es.size:=by rw[<-aL,h.length_eq,aL]
 exact xW t r b z<|G.perm h (by rw[z];exact a) d<|l.imp id λq=>f.trans q
theorem K0{p:Int->Prop}(F:ux c w s.heap a p)(hn:n<=63)(hs:∀es ep t,s.heap.get? a=some (w8 c es ep t)->es.size<=n){Q:Unit->Shared->Prop}
  (h:∀h',da a s.heap h'->(∃es ep t,h'.get? a=some (w8 c es ep t)/\SG w es t p/\iX t.mask/\n<=t.mask)->Q () {s with heap:=h'}):au (model prog w) A (setRelay a n) Q E s:=by
 refine rF F λes ep t ho G=>?_
 have hsz:=hs _ _ _ ho
 refine nK (zg hn) λhm hnm h64=>?_
 unfold setRelay
 refine aI<|bu ho rfl G.fits ?_
 dsimp only
 refine sC (by rw[hY];exact abC h64)<|iz (vM (finger:=t.finger) (moves:=t.movedTo<|c0 n-1) (plain:=t.plain) G hm (ah hsz hnm) G.led) λt' order e1 e2 G'=>?_
 have hmask:t'.mask=c0 n-1:=by unfold lY at e1;simp -iota only[CU,fo,Jv,pZ,iQ] at e1;refine sA e1 λo z zz2 z=>?_;subst zz2;rfl
 have hre:t.relaid (es.map (·.1)) n=some (t',order):=e1
 rw[hre]
 refine aU ?_
 show au _ _ (if((order.filterMap (es[·]?)).size != es.size)=true then _ else _) _ E s
 refine sC (by rw[e2];simp)<|ab ?_
 refine oy ho (by rw[e2];have:=G.LP;exact ah this<|of_decide_eq_true<|id<|cN true) λh' hs' ho'=>h h' hs' ⟨_,_,_,ho',G',hmask▸hm,hmask▸hnm⟩
theorem Gj{c:String}(h:w8 c es p t=w8 c f e g):es=f/\p=e/\t=g:=by
 have H:=congrArg Obj.data h;injection H with a b d
 exact⟨a,b,d⟩
set_option tactic.hygienic true in
theorem PO(H:s.heap.get? a=some (w8 c es i t))(G:SG w es t p)(N:es.size+n<=31)
  (h:∀h',da a s.heap h'->(∃e d b,h'.get? a=some (w8 c e d b)/\SG w e b p/\((b=t/\(t.fill+n)*5<t.mask*3)\/(iX b.mask/\n<=b.mask)))->Q () {s with heap:=h'}):au (model prog w) A (setRoomFor a n) Q E s:=by
 unfold setRoomFor
 refine aI<|bu H rfl G.fits ?_
 dsimp only
 have g:t.place.size=es.size:=by have:=G.fits;simp -iota only[lZ,dr,beq_iff_eq] at this;exact this.1
 unfold SetTable.roomFor
 split
 ·rename_i wanted hw
  split at hw
  ·obtain rfl:=aa hw;refine K0 ⟨es,i,t,H,G⟩ (abB N g) (λe d b O=>?_) λh' f z=>h h' f (z.imp λy=>aA λy=>aA λy z=>⟨z.1,z.2.1,.inr ⟨z.2.2.1,by have:=z.2.2.2;omega⟩⟩);rw[show e=es from(Gj<|aa<|O.symm.trans H).1];exact abA g
  ·exact aR hw
 ·rename_i hw
  have:=λz=>hw _<|if_pos z;exact ab<|h s.heap (kT _ _) ⟨_,_,_,H,G,.inl ⟨rfl,Nat.lt_of_not_le this⟩⟩
theorem Bw{p q:Int->Prop}{es eo:Array (Int×Value)}{t to:SetTable}(hab:a≠b)(ho:s.heap.get? a=some (w8 c es ep t))(G:SG w es t p)(hb:s.heap.get? b=some (w8 c eo epo to))(Go:SG w eo to q)
  (hn:es.size+eo.size<=31) (hm:es.size=0->t.mask=7) {each:xM Unit} (heach:∀s' (Q':Unit->Shared->Prop),s'.heap.get? b=s.heap.get? b->Q' () s'->au (model prog w) A each Q' E s') {Q:Unit->Shared->Prop}
  (h:∀h',da a s.heap h'->ux c w h' a (λi=>p i\/q i)->(eo.size=0->h'=s.heap)->Q () {s with heap:=h'}):au (model prog w) A (setMerge a b each) Q E s:=by
 unfold setMerge
 refine sC (by simpa -iota using hab)<|aI<|bu hb rfl Go.fits ?_
 dsimp only
 split
 ·rename_i he
  have hq:∀i,¬q i:=λi hi=>by refine eS (Go.all i hi) λtk hx=>?_;rw[I8.mp he] at hx;simp at hx
  exact ab<|h s.heap (kT _ _) ⟨_,_,_,ho,G.congr λi=>⟨.inl,λz=>z.elim id λz=>(hq i z).elim⟩⟩ λu=>rfl
 ·rename_i he
  have hne:∀h':Heap,eo.size=0->h'=s.heap:=λu z=>absurd (I8.mpr<|gF z) he;refine aU (PO ho G (by omega) λh1 hs1 hh1=>?_);refine nZ hh1 λes1 ep1 t1 ho1 G1 ht1=>?_;have hb1:=(hs1.2 b<|ff hab).trans hb;refine aI<|bu ho1 rfl G1.fits ?_;dsimp only;have hled:w.params.followText "set-order"=true\/(t1.led&&to.led)=true:=by
   rcases G1.led with z|z
   ·exact .inl z
   ·rcases Go.led with z'|z'
    ·exact .inl z'
    ·exact .inr (by simp -iota [z,z'])
  have hp1:t1.fill=0->∀i,¬p i:=λhf i hi=>by
   refine eS (G1.all i hi) λtk hx=>?_;have:es1.size=0:=by have:=G1.fits;simp -iota only[lZ,dr,beq_iff_eq] at this;unfold w4 at hf;exact aag hf this
   rw[gF this] at hx;simp at hx
  have hset:∀{es2:Array (Int×Value)}{t2:SetTable},t1.fill=0->SG w es2 t2 q->es2.size<=40->au (model prog w) A (Oh a es2 t2) Q E {s with heap:=h1}:=by intro es2 t2 hf G2 hz;refine oy ho1 hz λh2 hs2 ho2=>h h2 (hs1.trans hs2) ⟨_,_,_,ho2,G2.congr λi=>⟨.inr,λz=>z.elim (λz=>(hp1 hf i z).elim) id⟩⟩<|hne _
  have hle:=Go.LP;cases hr:t1.road to with
  |slotForSlot=>
   have hf:t1.fill=0:=by
    unfold Ju at hr;split at hr
    ·cases hr
    ·rename_i z;simpa -iota using z
   exact hset hf (Go.perm .rfl Go.fits Go.Iw hled)<|ar9 hle
  |clean=>
   have hf:t1.fill=0:=by
    unfold Ju at hr;split at hr
    ·cases hr
    ·rename_i z;simpa -iota using z
   have hgm:iX t1.mask/\eo.size<=t1.mask:=by
    rcases ht1 with ⟨rfl,ht1⟩|ht1
    ·have hz:es.size=0:=by
      have:=G.fits
      simp -iota only[lZ,dr,beq_iff_eq] at this
      unfold w4 at hf
      exact aag hf this
     have h7:=hm hz
     rw[h7]
     exact⟨.inl rfl,by rw[h7,hf] at ht1;omega⟩
    ·exact ht1
   refine iz (vM (finger:=t1.finger) (moves:=t1.moves) (plain:=t1.plain&&to.plain) Go hgm.1 hgm.2 hled) λt' order e1 e2 G'=>?_;dsimp only;rw[e1];refine aU ?_;show au _ _ (if((order.filterMap (eo[·]?)).size != eo.size)=true then _ else _) _ E _;refine sC (by rw[e2];simp)<|ab ?_;exact hset hf G' (by rw[e2];exact ah hle<|of_decide_eq_true<|id<|cN true)
  |oneByOne=>
   dsimp only;refine aI<|AR hb1 Go (λc hc=>?_) ⟨_,_,_,ho1,G1⟩ λl h2 hl hs2 F2=>?_
   ·obtain rfl:=aD.mp hc;exact⟨p,_,_,_,ho1,G1⟩
   ·rw[<-eY];have hsub:=λe he=>Go.each e<|hl.mem_iff.mp he;refine aU<|pN (λr s'=>(∃h',s'={s with heap:=h'}/\da a s.heap h')/\(∀e∈r,e∈l.toList)/\∃p',ux c w s'.heap a p'/\∀i,(p i\/q i)↔(p' i\/∃tk,(gD i,g5 i tk)∈r))
     (λe r s' hI Q' hQ'=>?_) l.toList _ ⟨⟨h2,rfl,hs1.trans hs2⟩,λu z=>z,p,F2,λi=>⟨λz=>z.imp id λz=>(Go.all i z).imp λu y=>hl.mem_iff.mpr y,λz=>z.imp id λtky=>by
      refine eS tky λtk y=>pg (hsub _ y) λj tk' e' hj=>?_;obtain rfl:i=j:=by injection e' with _ e';injection e'
      exact hj⟩⟩ ?_
    ·obtain⟨⟨h',rfl,hs'⟩,hr',p',F',hp'⟩:=hI;refine pg (hsub e<|hr' e aw) λi tk zz2 hi=>?_;subst zz2;refine aU<|aO<|EL F' (Go.low i hi) λh3 b' hs3 F3=>?_;have hb3:=((hs'.trans hs3).2 b<|ff hab).trans hb;refine aU<|heach _ _ (hb3.trans hb.symm) ?_;refine aI<|bu hb3 rfl Go.fits ?_;dsimp only;refine sC (by simp -iota)<|ab<|hQ' _ ⟨⟨h3,rfl,hs'.trans hs3⟩,λx hx=>hr' x<|ay _ hx,_,F3,λj=>?_⟩;rw[hp' j];constructor
     ·rintro(z|⟨tk',z⟩)
      ·exact .inl<|.inl z
      ·rcases aQ.mp z with z|z
       ·refine .inl<|.inr ?_;injection z with _ z;injection z
       ·exact .inr ⟨tk',z⟩
     ·rintro((z|rfl)|⟨tk',z⟩)
      ·exact .inl z
      ·exact .inr ⟨tk,aw⟩
      ·exact .inr ⟨tk',ay _ z⟩
    ·rintro s' ⟨⟨h',rfl,hs'⟩,_,p',F',hp'⟩;exact ab<|h h' hs' (F'.congr λi=>by rw[hp' i];simp)<|hne _
end
section
variable{prog:Program}{w:cD}{A:bq}{E:Value->Shared->Prop}{s:Shared}
theorem Io(I:List c->Shared->Prop)(D:d->Shared->Prop)(step:∀x r s,I (x::r) s->∀a:ForInStep d->Shared->Prop,(∀s',I r s'->a (.yield b) s')->(∀y s',D y s'->a (.done y) s')->au (model prog w) A (f x b) a E s)(l:List c):∀(s:Shared),I l s->(∀s',I [] s'->Q b s')->(∀y s',D y s'->Q y s')->au (model prog w) A (forIn l b f) Q E s:=by
 induction l with
 |nil=>intro s h H hd;rw[gH];exact ab<|H s h
 |cons x r i=>intro s h H hd;rw[cb];exact aU<|step x r s h _ (λs' h'=>i s' h' H hd) λy s' h'=>ab<|hd y s' h'
theorem wt{d a:Type}{f:d->a->xM (ForInStep a)}{b:a}{Q:a->Shared->Prop}(h:Q b s){l:List d}(step:∀e∈l,∀c:ForInStep a->Shared->Prop,c (.yield b) s->au (model prog w) A (f e b) c E s):au (model prog w) A (forIn l b f) Q E s:=by
 induction l with
 |nil=>exact ab h
 |cons x r i=>rw[cb];exact aU<|step x (aw ..) _<|i λe H=>step e<|ay _ H
theorem l6{d a:Type}{f:d->a->xM (ForInStep a)}{b:a}{Q:a->Shared->Prop}(h:Q b s){l:Array d}(step:∀e∈l.toList,∀c:ForInStep a->Shared->Prop,c (.yield b) s->au (model prog w) A (f e b) c E s):au (model prog w) A (forIn l b f) Q E s:=by rw[<-eY];exact wt h step
theorem vA:isSubtype (.type "frozenset") (.type "set")=pure false:=by rw[dx];kernel_rfl
theorem mA:isSubtype (.type "frozenset") (.type "frozenset")=pure true:=by rw[dx];kernel_rfl
theorem iD(h:s.TypeIs v "frozenset")(H:Q true s):au (model prog w) A (isAnySet v) Q E s:=by refine aU<|cP h vA ?_;exact cP h mA H
theorem GI(h:s.TypeIs (.ref a) "frozenset")(H:Q (.type "frozenset") s):au (model prog w) A (baseOf a) Q E s:=by refine aI<|cP h vA ?_;simp only[dc,if_false];exact ab H
theorem yh
  (h:∀h' t,(∀b o,s.heap.get? b=some o->h'.get? b=some o)->h'.get? s.heap.objs.size=some (wj #[] 0 t)->SG w #[] t (λz=>False)->t.mask=7->Q (.ref s.heap.objs.size) {s with heap:=h'}):
  au (model prog w) A (newSet<|.type "frozenset") Q E s:=by
 refine aU<|ph ?_
 simp only[newObj]
 refine aU<|lQ<|ab ?_
 refine h _ _ b8 dH (SG.empty ?_) rfl
 cases w.params.followText "set-order"<;>simp
theorem SG.nc(G:SG w es t p)(h:es.size=0):∀i,¬p i:=λi H=>by refine eS (G.all i H) λk x=>?_;rw[gF h] at x;simp at x
theorem SG.zf(G:SG w es t p)(h:∀i,¬p i):es.size=0:=by
 cases hs:es.size with
 |zero=>rfl
 |succ n=>have:=fU<|abz hs;refine pg (G.each es[0]<|Array.getElem_mem_toList _) λi k z H=>(h i H).elim
theorem Gw(ho:s.heap.get? a=some (wj es ep t))(G:SG w es t p)(hn:es.size<=12)
  (h:∀h' es' ep' t',(∀b o,s.heap.get? b=some o->h'.get? b=some o)->h'.get? s.heap.objs.size=some (wj es' ep' t')->SG w es' t' p->(es'.size=0->t'.mask=7)->Q (.ref s.heap.objs.size) {s with heap:=h'}):
  au (model prog w) A (copyOf a) Q E s:=by
 refine aU<|GI ⟨_,ho,rfl⟩ ?_
 refine aU<|yh λh1 t1 hk1 ho1 G1 hm1=>?_
 refine aU<|ab ?_
 have hne:s.heap.objs.size≠a:=λe=>by have:=bA s.heap;rw[e,ho] at this;exact iG this
 refine aU<|Bw hne ho1 G1 (hk1 _ _ ho) G (by simp;exact ah hn<|of_decide_eq_true<|id<|cN true) (λy=>hm1) (λs' Q' y hq=>ab hq) λh2 hs2 F2 hz=>ab ?_
 have hk2:=λb o e=>(hs2.2 b (λz=>by rw[z,bA] at e;exact aR e)).trans<|hk1 b o e
 by_cases hes:es.size=0
 ·have hh:=hz hes;dsimp only at hh;subst hh;exact h _ _ _ _ hk2 ho1 (G1.congr λi=>⟨λz=>z.elim,λz=>(G.nc hes i z).elim⟩) λy=>hm1
 ·refine rF F2 λes' ep' t' ho' G'=>?_;have G':=G'.congr (p':=p) λi=>by simp
  refine h _ _ _ _ hk2 ho' G' λz=>absurd (G.zf<|G'.nc z) hes
theorem Kw(name:String)(a b:Value):slot1 name ⟨[a,b],[]⟩=pure (a,b):=rfl
theorem rM(h:Q (a,b) s):au (model prog w) A (slot1 name ⟨[a,b],[]⟩) Q E s:=by rw[Kw];exact ab h
theorem oo{h:Heap}(e:h.get? b=some o):h.objs.size≠b:=λz=>by rw[<-z,bA] at e;exact aR e
theorem Yc(ho:s.heap.get? a=some (wj es ep t))(G:SG w es t p)(hn:es.size<=12)(hb:s.heap.get? b=some (wj eo epo to))(Go:SG w eo to q)(hno:eo.size<=12)
  (h:∀h',(∀b o,s.heap.get? b=some o->h'.get? b=some o)->FS w h' s.heap.objs.size (λi=>p i\/q i)->Q (.done<|.ret<|.ref s.heap.objs.size) {s with heap:=h'}):
  au (model prog w) A (d9.«frozenset.__or__» ⟨[.ref a,.ref b],[]⟩) Q E s:=by
 have hTa:s.TypeIs (.ref a) "frozenset":=⟨_,ho,rfl⟩
 have hTb:s.TypeIs (.ref b) "frozenset":=⟨_,hb,rfl⟩
 refine aU<|rM<|aU<|aU<|iD hTa<|iD hTb<|sQ<|aU ?_
 refine ab<|aU ?_
 refine aU<|Gw ho G hn λh1 es1 ep1 t1 hk1 ho1 G1 hm1=>?_
 have fin:∀h',(∀b o,s.heap.get? b=some o->h'.get? b=some o)->FS w h' s.heap.objs.size (λi=>p i\/q i)->au (model prog w) A (ret<|.ref s.heap.objs.size) Q E {s with heap:=h'}:=
  λh' x y=>ab<|h h' x y
 by_cases hab:b=a
 ·subst hab;obtain⟨rfl,rfl,rfl⟩:=Gj<|aa<|hb.symm.trans ho;refine sC (by simp)<|ab<|fin _ hk1 ⟨_,_,_,ho1,G1.congr λi=>⟨.inl,λz=>z.elim id λz=>?_⟩⟩;refine eS (Go.all i z) λtk hx=>pg (G.each _ hx) λj tk' e hj=>?_;injection e with _ e;injection e with e
  exact e▸hj
 ·have hne:(lK b != lK a)=true:=by simpa using hab
  refine JU hne ?_;have hrb:s.heap.objs.size≠b:=λe=>by have:=bA s.heap;rw[e,hb] at this;exact iG this
  have hb1:=hk1 _ _ hb;refine aU<|ab ?_;refine aU<|aO ?_;refine aU<|iD ⟨_,hb1,rfl⟩ ?_;refine JT<|aU ?_;refine ab<|aU ?_;refine aU<|bu hb1 rfl Go.fits<|ab ?_;have hes1:es1.size<=12:=by
   by_cases z:es1.size=0
   ·exact ck z▸a5 (u7 11)
   ·have:(es1.toList.map (·.1)).length<=(es.toList.map (·.1)).length:=G1.nodup.length_le_of_subset λi hi=>by
     refine dn (bw.mp hi) λe he zz2=>?_
     subst zz2
     refine pg (G1.each e he) λj tk zz2 hj=>?_
     subst zz2
     refine eS (G.all j hj) λtk' hx=>bw.mpr ⟨_,hx,rfl⟩
    simp at this
    exact ah this hn
  refine Bw hrb ho1 G1 hb1 Go (aby hno hes1) hm1 (λs' Q' hbs hq=>?_) λh2 hs2 F2 u=>ab<|fin _ (λc o e=>?_) F2
  ·delta unchanged setEpoch;refine aI<|aI<|bu (hbs.trans hb1) rfl Go.fits<|ab ?_;refine sC (by simp)<|ab hq
  ·exact(hs2.2 c (λz=>by rw[z,bA] at e;exact aR e)).trans<|hk1 c o e
theorem j4(H:s.heap.get? a=some (wj es e t))(G:SG w es t p)(h:Q es.size s):au (model prog w) A (OF a) Q E s:=by exact aU<|fJ H G<|ab h
theorem y2{id:String}{es:Array (Int×Value)}{t:SetTable}{p:Int->Prop}(ho:s.heap.get? a=some (wj es ep t))(G:SG w es t p){Q:Unit->Shared->Prop}(h:Q () s):au (model prog w) A (unchanged id a ep) Q E s:=by refine aI<|aI<|bu ho rfl G.fits<|ab ?_;refine sC (by simp)<|ab h
theorem M3{id:String}{a e:Array (Int×Value)}{t to:SetTable}{p q:Int->Prop}(O:s.heap.get? r=some (wj a j t))(G:SG w a t p)(H:s.heap.get? b=some (wj e f to))(g:SG w e to q)(z:e.size=0)(n:b≠r){Q:Unit->Shared->Prop}(h:Q () s):au (model prog w) A (differenceUpdate id r<|.ref b) Q E s:=by
 refine sC (by simpa using n)<|aU<|iD ⟨_,H,rfl⟩<|JT<|aU ?_;refine ab (aU<|j4 H g<|aU<|j4 O G<|sC (by rw[z];simp) ?_);refine aU<|aU<|bu H rfl g.fits<|ab<|aU<|aO<|aU<|JV H g (λc C=>?_) λl d=>?_
 ·obtain rfl:=aD.mp C;exact⟨p,_,_,_,O,G⟩
 ·have L:l.toList=[]:=by
   rw[gF z] at d
   exact List.perm_nil.mp d
  show au _ _ (forIn l _ _>>=_) _ _ _
  rw[<-eY,L,gH]
  refine aU<|ab<|ab ?_
  refine aI<|bu O rfl G.fits ?_
  refine sC ?_<|ab h
  delta SetTable.tooManyDummies;rw[G.Iw];simp
def adb(q:Int->Prop)(r:List (Int×Value))(j:Int):Prop:=¬q j/\∃t,(gD j,g5 j t)∈r
def wV(p q p':Int->Prop)(r:List (Int×Value)):Prop:=∀i,(p i/\¬q i)↔(p' i\/adb q r i)
theorem zX(e:(gD i,g5 i t)=(gD j,g5 j u)):i=j:=by injection e with _ e;injection e
theorem wV.add(h:wV p q p' ((gD i,g5 i t)::r))(H:¬q i):wV p q (λj=>p' j\/j=i) r:=λj=>(h j).trans ⟨λz=>z.elim (λz=>.inl<|.inl z) λY=>Y.2.elim λa z=>(aQ.mp z).elim (λz=>.inl<|.inr<|zX z) λz=>.inr ⟨Y.1,a,z⟩,
 λz=>z.elim (λz=>z.elim .inl λe=>.inr ⟨e▸H,t,e▸aw⟩) λY=>.inr ⟨Y.1,Y.2.imp λy z=>ay _ z⟩⟩
theorem wV.skip(h:wV p q p' ((gD i,g5 i t)::r))(H:q i):wV p q p' r:=λj=>(h j).trans ⟨λz=>z.elim .inl λY=>Y.2.elim λa z=>(aQ.mp z).elim (λz=>absurd (zX z▸H) Y.1) λz=>.inr ⟨Y.1,a,z⟩,
 λz=>z.elim .inl λY=>.inr ⟨Y.1,Y.2.imp λy z=>ay _ z⟩⟩
theorem wV.start(G:SG w es t p)(h:cQ l es.toList):wV p q (λu=>False) l:=λi=>⟨λz=>.inr ⟨z.2,(G.all i z.1).imp λu y=>h.mem_iff.mpr y⟩,λz=>z.elim (λf=>f.elim) λY=>⟨by obtain⟨z,a,y⟩:=Y;refine pg (G.each _<|h.mem_iff.mp y) λj k e H=>zX e▸H,Y.1⟩⟩
theorem wV.done(h:wV p q p' [])(i:Int):p' i↔(p i/\¬q i):=((h i).trans ⟨λz=>z.elim id λz=>z.2.elim λy z=>absurd z aJ,.inl⟩).symm
def acm(w:cD)(s:Shared)(H:Heap)(p q:Int->Prop)(l:List (Int×Value))(r:List (Int×Value))(s':Shared):Prop:=(∃h,s'={s with heap:=h}/\da s.heap.objs.size H h)/\(∀e∈r,e∈l)/\∃a,FS w s'.heap s.heap.objs.size a/\wV p q a r
theorem xG{id:String}{es D:Array (Int×Value)}{t to:SetTable}{p q:Int->Prop}(m:s.heap.get? a=some (wj es ep t))(G:SG w es t p)(hn:es.size<=12)(B:s.heap.get? b=some (wj D epo to))(C:SG w D to q)(hno:es.size/4<=D.size\/D.size=0){Q:Value->Shared->Prop}
  (h:∀h',(∀b o,s.heap.get? b=some o->h'.get? b=some o)->FS w h' s.heap.objs.size (λi=>p i/\¬q i)->Q (.ref s.heap.objs.size) {s with heap:=h'}):
  au (model prog w) A (difference id a<|.ref b) Q E s:=by
 have Y:s.TypeIs (.ref a) "frozenset":=⟨_,m,rfl⟩
 have hTb:s.TypeIs (.ref b) "frozenset":=⟨_,B,rfl⟩
 refine aU<|iD hTb<|sQ<|aU ?_
 refine ab<|sQ<|JT<|aU<|j4 B C<|aU<|j4 m G<|W2 (λM=>?_) λM=>?_
 ·have hz:D.size=0:=by omega
  refine aU<|c5<|aU<|Gw m G hn λh1 es1 ep1 t1 k O v hm1=>aU ?_;exact ab<|aU<|aO<|M3 O v (k _ _ B) C hz (oo B).symm<|ab<|h _ k ⟨_,_,_,O,v.congr λi=>⟨λz=>⟨z,C.nc hz i⟩,λz=>z.1⟩⟩
 ·refine aU<|GI Y<|aU<|yh λh1 t1 k O v hm1=>aU ?_;refine ab ?_;have L:=k _ _ B;have g:=k _ _ m;refine aU<|aU<|bu g rfl G.fits<|ab<|aU<|aO<|aU<|JT<|AR g G (λc M=>?_) ⟨_,_,_,O,v⟩ λl h2 hl hs2 F2=>?_
  ·rcases aQ.mp M with rfl|M
   ·exact y42 q _ _ _ L C
   ·obtain rfl:=aD.mp M;exact⟨_,_,_,_,O,v⟩
  ·show au _ _ (forIn l _ _>>=_) _ _ _;rw[<-eY];refine aU<|pN (acm w s h1 p q l.toList) (λe r s' hI Q' I=>?_) l.toList _ ⟨⟨h2,rfl,hs2⟩,λy z=>z,_,F2,.start G hl⟩ ?_
   ·obtain⟨⟨h',rfl,H⟩,N,p',V,d⟩:=hI;refine pg (G.each e<|hl.mem_iff.mp<|N e aw) λi tk zz2 hi=>?_;subst zz2;have hr:=λx hx=>N x<|ay _ hx;have J:=(H.2 a (oo m).symm).trans g;refine aU<|aO<|JT<|aU<|zU ⟨_,_,_,(H.2 b (oo B).symm).trans L,C⟩ λfound f=>aU<|ab<|W2 (λn=>?_) λn=>?_
    ·refine aU<|EL V (G.low i hi) λh3 b' U F3=>ab<|aU<|y2 (s:={s with heap:=h3}) ((U.2 a (oo m).symm).trans J) G<|ab<|I _ ⟨⟨h3,rfl,H.trans U⟩,hr,_,F3,d.add λz=>?_⟩;rw[f.mpr z] at n;exact ae n
    ·exact ab<|aU<|y2 J G<|ab<|I _ ⟨⟨h',rfl,H⟩,hr,_,V,d.skip<|f.mp (by cases found with|none=>exact absurd rfl n|some _=>rfl)⟩
   ·rintro s' ⟨⟨h',rfl,H⟩,_,p',V,d⟩;exact ab<|ab<|h h' (λc o e=>(H.2 c (oo e).symm).trans<|k c o e)<|V.congr d.done
theorem Uj{es e:Array (Int×Value)}{t to:SetTable}{p q:Int->Prop}(O:s.heap.get? a=some (wj es f t))(G:SG w es t p)(N:es.size<=12)(c:s.heap.get? b=some (wj e d to))(g:SG w e to q)(n:es.size/4<=e.size\/e.size=0){Q:As->Shared->Prop}
  (h:∀h',(∀b o,s.heap.get? b=some o->h'.get? b=some o)->FS w h' s.heap.objs.size (λi=>p i/\¬q i)->Q (.done<|.ret<|.ref s.heap.objs.size) {s with heap:=h'}):
  au (model prog w) A (d9.«frozenset.__sub__» ⟨[.ref a,.ref b],[]⟩) Q E s:=by
 have H:s.TypeIs (.ref a) "frozenset":=⟨_,O,rfl⟩
 have B:s.TypeIs (.ref b) "frozenset":=⟨_,c,rfl⟩
 refine aU<|rM<|aU<|aU<|iD H<|iD B<|sQ<|aU ?_
 exact ab<|aU<|xG O G N c g n λh' x y=>ab<|h h' x y
theorem lA(h:Q true s):au (model prog w) A (quietEq<|.int i t) Q E s:=ab h
theorem x4{id:String}{es eo:Array (Int×Value)}{t to:SetTable}{p q:Int->Prop}(ho:s.heap.get? a=some (wj es ep t))(G:SG w es t p)(hb:s.heap.get? b=some (wj eo epo to))(Go:SG w eo to q)(hsz:es.size=eo.size){Q:Bool->Shared->Prop}
  (h:∀r,(r=true↔∀i,p i->q i)->Q r s):au (model prog w) A (subsetOf id a b) Q E s:=by
 refine aI<|j4 ho G<|aI<|j4 hb Go ?_
 refine sC (by omega)<|aU<|aU<|bu ho rfl G.fits<|ab ?_
 refine aU<|aU<|fJ ho G<|aU<|fJ hb Go<|aU ?_
 refine wt ?_ λe he Q' hQ'=>?_
 ·obtain⟨s',rfl⟩:∃s',s'=s:=⟨s,rfl⟩;refine ab<|aU<|Io (λr s''=>s''=s'/\(∀e∈r,e∈es.toList)/\∀i,p i->q i\/∃tk,(gD i,g5 i tk)∈r) (λy s''=>s''=s'/\y=(some false,())/\¬∀i,p i->q i) (λe r s'' hI Q' hQ' hD'=>?_) es.toList _ ⟨rfl,λu z=>z,λi hi=>.inr<|G.all i hi⟩ ?_ ?_
  ·refine nK hI λzz0 hr hall=>?_;subst zz0;refine pg (G.each e<|hr e aw) λi tk zz2 hi=>?_;subst zz2;refine aI<|aO<|zU ⟨_,_,_,hb,Go⟩ λfound hfound=>?_;split
   ·rename_i hnf
    refine ab<|hD' _ _ ⟨rfl,rfl,λz=>?_⟩;have:=hfound.mpr<|z i hi;rw[bB] at hnf;rw[hnf] at this;exact ae this
   ·rename_i hnf
    have hq:=hfound.mp (by cases found with|none=>exact absurd rfl hnf|some _=>rfl);refine aU<|y2 ho G<|ab<|hQ' _ ⟨rfl,λx hx=>hr x<|ay _ hx,λj hj=>?_⟩;rcases hall j hj with z|⟨tk',z⟩
    ·exact .inl z
    ·rcases aQ.mp z with z|z
     ·have:j=i:=by injection z with _ z;injection z
      exact .inl<|this▸hq
     ·exact .inr ⟨tk',z⟩
  ·rintro s'' ⟨rfl,_,hall⟩;refine ab<|h true ⟨λu i hi=>(hall i hi).elim (λz=>z) λz=>z.elim λu z=>absurd z aJ,λu=>rfl⟩
  ·rintro y s'' ⟨rfl,rfl,hn⟩;exact ab<|h false ⟨λz=>ae z,λz=>absurd z hn⟩
 ·have:=(b4.mp he).elim (λhe=>(G.each e he).imp λu=>aA λu=>Hb) λhe=>(Go.each e he).imp λu=>aA λu=>Hb;refine w5 this λi tk zz2=>?_;subst zz2;exact aU<|lA<|sQ<|ab hQ'
theorem pK(G:SG w es t p)(i:Int):i∈es.toList.map (·.1)↔p i/\(0<=i/\i<32):=by
 constructor
 ·intro h;refine dn (bw.mp h) λe a z=>?_;subst z;refine pg (G.each e a) λj k z J=>?_;subst z;have:=G.low j J;rw[f9 this.1 this.2];exact⟨J,this⟩
 ·rintro⟨h,H⟩;refine eS (G.all i h) λk x=>bw.mpr ⟨_,x,f9 H.1 H.2⟩
theorem JH(G:SG w es t p)(g:SG w e to q)(hsz:es.size=e.size)(h:∀i,p i->q i)(i:Int)(Q:q i):p i:=by
 apply Classical.byContradiction;intro n;have l:=g.low i Q;have b:=d7.mpr ⟨λz=>n ((pK G i).mp z).1,G.nodup⟩;have a:=b.length_le_of_subset λj H=>by
  rcases aQ.mp H with rfl|H
  ·exact(pK g j).mpr ⟨Q,l⟩
  ·have:=(pK G j).mp H;exact(pK g j).mpr ⟨h j this.1,this.2⟩
 simp at a;exact abx hsz a
theorem Gh(G:SG w es t p)(g:SG w e to q)(z:∀i,p i↔q i):cQ (es.toList.map (·.1)) (e.toList.map (·.1)):=
 (xQ G.nodup g.nodup).mpr λi=>(pK G i).trans<|(and_congr (z i) NX).trans (pK g i).symm
theorem S0(G:SG w es t p)(g:SG w e to q)(h:(es.size != e.size)=true):¬∀i,p i↔q i:=λz=>by have:=(Gh G g z).length_eq;rw[ag,ag,aL,aL] at this;rw[this,bne_self_eq_false] at h;exact ae h
theorem Gi(G:SG w es t p)(g:SG w e to q)(h:(hashOf (es.toList.map (·.1)) != hashOf (e.toList.map (·.1)))=true):¬∀i,p i↔q i:=λz=>by rw[hashOf_perm<|Gh G g z,bne_self_eq_false] at h;exact ae h
theorem zO(h:¬P):false=true↔P:=⟨λz=>ae z,λz=>absurd z h⟩
theorem Zw{es k:Array (Int×Value)}{t to:SetTable}{p q:Int->Prop}(O:s.heap.get? a=some (wj es J t))(G:SG w es t p)(j:s.heap.get? b=some (wj k v to))(g:SG w k to q){Q:As->Shared->Prop}
  (h:∀r:Bool,(r=true↔∀i,p i↔q i)->Q (.done<|.ret<|.bool r) s):au (model prog w) A (d9.«frozenset.__eq__» ⟨[.ref a,.ref b],[]⟩) Q E s:=by
 have l:s.TypeIs (.ref a) "frozenset":=⟨_,O,rfl⟩
 have B:s.TypeIs (.ref b) "frozenset":=⟨_,j,rfl⟩
 refine aU<|rM<|aU<|iD B<|sQ<|aU ?_
 refine ab<|aU ?_
 refine ab<|aU<|j4 O G<|aU<|j4 j g<|aU<|W2 (λH=>ab<|ab<|h false<|zO<|S0 G g H) λH=>?_
 have H:es.size=k.size:=by simpa using H
 refine aU<|aU<|cP l mA<|cP B mA<|JT<|aI<|fJ O G<|aI<|fJ j g ?_
 refine W2 ?_ ?_
 intro x
 refine aU<|l6 ?_ λe m n c=>?_
 ·refine aU<|l6 ?_ λe m n c=>?_
  ·exact aU<|c5<|ab<|ab<|h false<|zO<|Gi G g x
  refine pg (g.each e m) λi D d y=>?_;subst d;exact aU<|lA<|sQ<|ab c
 ·refine pg (G.each e m) λi D d y=>?_;subst d;exact aU<|lA<|sQ<|ab c
 ·intro _;exact x4 O G j g H λr C=>ab<|h r<|C.trans ⟨λz i=>⟨z i,JH G g H z i⟩,λz i I=>(z i).mp I⟩
theorem Yj{es k:Array (Int×Value)}{t to:SetTable}{p q:Int->Prop}(O:s.heap.get? a=some (wj es J t))(G:SG w es t p)(j:s.heap.get? b=some (wj k v to))(g:SG w k to q){Q:As->Shared->Prop}
  (h:∀r:Bool,(r=true↔∀i,p i↔q i)->Q (.done<|.ret<|.bool !r) s):au (model prog w) A (d9.«frozenset.__ne__» ⟨[.ref a,.ref b],[]⟩) Q E s:=by
 have l:s.TypeIs (.ref a) "frozenset":=⟨_,O,rfl⟩
 have B:s.TypeIs (.ref b) "frozenset":=⟨_,j,rfl⟩
 refine aU<|rM<|aU<|iD B<|sQ<|aU ?_
 refine ab<|aU ?_
 refine ab<|aU<|j4 O G<|aU<|j4 j g<|aU<|W2 (λH=>ab<|ab<|h false<|zO<|S0 G g H) λH=>?_
 have H:es.size=k.size:=by simpa using H
 refine aU<|aU<|cP l mA<|cP B mA<|JT<|aI<|fJ O G<|aI<|fJ j g ?_
 refine W2 ?_ ?_
 intro x
 refine aU<|l6 ?_ λe m n c=>?_
 ·refine aU<|l6 ?_ λe m n c=>?_
  ·exact aU<|c5<|ab<|ab<|h false<|zO<|Gi G g x
  refine pg (g.each e m) λi D d y=>?_;subst d;exact aU<|lA<|sQ<|ab c
 ·refine pg (G.each e m) λi D d y=>?_;subst d;exact aU<|lA<|sQ<|ab c
 ·intro _;exact x4 O G j g H λr C=>ab<|h r<|C.trans ⟨λz i=>⟨z i,JH G g H z i⟩,λz i I=>(z i).mp I⟩
end
namespace FF
theorem vG:Jt "frozenset" "__sub__" "frozenset.__sub__":=
 .of (owner:="frozenset") (n:="__sub__") (by rw[cZ,bT];kernel_rfl) (by decide+kernel) (by decide+kernel) (by decide+kernel)
  (by first|exact .inl (by decide+kernel)|exact .inr<|by decide+kernel) (by rw[dx];kernel_rfl)
theorem zd:Jt "frozenset" "__or__" "frozenset.__or__":=
 .of (owner:="frozenset") (n:="__or__") (by rw[cZ,bT];kernel_rfl) (by decide+kernel) (by decide+kernel) (by decide+kernel)
  (by first|exact .inl (by decide+kernel)|exact .inr<|by decide+kernel) (by rw[dx];kernel_rfl)
theorem Fv:Jt "frozenset" "__eq__" "frozenset.__eq__":=
 .of (owner:="frozenset") (n:="__eq__") (by rw[cZ,bT];kernel_rfl) (by decide+kernel) (by decide+kernel) (by decide+kernel)
  (by first|exact .inl (by decide+kernel)|exact .inr<|by decide+kernel) (by rw[dx];kernel_rfl)
theorem Fu:Jt "frozenset" "__ne__" "frozenset.__ne__":=
 .of (owner:="frozenset") (n:="__ne__") (by rw[cZ,bT];kernel_rfl) (by decide+kernel) (by decide+kernel) (by decide+kernel)
  (by first|exact .inl (by decide+kernel)|exact .inr<|by decide+kernel) (by rw[dx];kernel_rfl)
theorem entry_sub:kq xd "frozenset.__sub__"=some d9.«frozenset.__sub__»:=fT<|rfl
theorem MV:kq xd "frozenset.__or__"=some d9.«frozenset.__or__»:=fT<|rfl
theorem entry_eq:kq xd "frozenset.__eq__"=some d9.«frozenset.__eq__»:=fT<|rfl
theorem MX:kq xd "frozenset.__ne__"=some d9.«frozenset.__ne__»:=fT<|rfl
theorem NC(a b:Value):lq "frozenset.__sub__" ⟨[a,b],[]⟩:=by delta lq;rw[jC (n:=['_','_','b','u','s','_','_']) (rfl) jz];kernel_rfl
theorem Rw(a b:Value):lq "frozenset.__or__" ⟨[a,b],[]⟩:=by delta lq;rw[jC (n:=['_','_','r','o','_','_']) (rfl) jz];kernel_rfl
theorem args_eq(a b:Value):lq "frozenset.__eq__" ⟨[a,b],[]⟩:=by delta lq;rw[jC (n:=['_','_','q','e','_','_']) (rfl) jz];kernel_rfl
theorem Ry(a b:Value):lq "frozenset.__ne__" ⟨[a,b],[]⟩:=by delta lq;rw[jC (n:=['_','_','e','n','_','_']) (rfl) jz];kernel_rfl
theorem MQ:fillsNumberSlot (.type "frozenset") "sub"=pure true:=by
 have h:lj (.type "frozenset") (dunderR "sub")=pure (some<|.builtin "frozenset.__rsub__"):=by rw[cZ,bT];kernel_rfl
 exact fillsNumberSlot_of vG.lookup (by decide+kernel) h
theorem QW:fillsNumberSlot (.type "frozenset") "or"=pure true:=by
 have h:lj (.type "frozenset") (dunderR "or")=pure (some<|.builtin "frozenset.__ror__"):=by rw[cZ,bT];kernel_rfl
 exact fillsNumberSlot_of zd.lookup (by decide+kernel) h
end FF
theorem tY:j∈kZ i xs↔j=i\/j∈xs:=by
 induction xs with
 |nil=>simp[kZ]
 |cons x xs I=>
  unfold kZ;split
  ·simp
  ·split
   ·rename_i h;subst h;simp
   ·simp only[aQ,I];constructor
    ·rintro(h|h|h)
     ·exact .inr<|.inl h
     ·exact .inl h
     ·exact .inr<|.inr h
    ·rintro(h|h|h)
     ·exact .inr<|.inl h
     ·exact .inl h
     ·exact .inr<|.inr h
theorem vC{xs:List Int}:xs.Pairwise (·<·)->(kZ i xs).Pairwise (·<·):=by
 induction xs with
 |nil=>intro _;simp[kZ]
 |cons x xs I=>
  intro h;rw[ek] at h;unfold kZ;split
  ·rename_i hi
   rw[ek,ek];refine⟨λy H=>?_,h⟩;rcases aQ.mp H with rfl|H
   ·exact hi
   ·have:=h.1 y H;exact C4 hi this
  ·split
   ·rw[ek];exact h
   ·rename_i h1 h2
    rw[ek];refine⟨λy H=>?_,I h.2⟩;rcases tY.mp H with rfl|H
    ·omega
    ·exact h.1 y H
theorem iT:j∈fi xs↔j∈xs:=by
 induction xs with
 |nil=>simp[fi]
 |cons x xs i=>show j∈kZ x (fi xs)↔_;rw[tY,i,aQ]
theorem jS(xs:List Int):(fi xs).Pairwise (·<·):=by
 induction xs with
 |nil=>exact kN
 |cons x xs i=>exact vC<|i
theorem js{xs:List Int}(h:xs.Pairwise (·<·)):xs.Nodup:=h.imp λh=>Int.ne_of_lt h
theorem k7:rU xs=true↔(∀i∈xs,0<=i/\i<32)/\xs.length<=12:=by delta rU;simp[aZ]
theorem Ds{xs y:List Int}(x:xs.Pairwise (·<·))(H:y.Pairwise (·<·))(h:∀i,i∈xs↔i∈y):xs=y:=
 ((xQ (js x)<|js H).mpr h).eq_of_pairwise (λa b z z c d=>abw c d) x H
section
variable{Z:dg}{st:List SO}{g fx:FH}{ρ:dM}{s:Shared}{A:bq}{E:Value->Shared->Prop}
theorem Cs.size(S:Cs w es t xs):es.size=xs.length:=S.g.size (js S.sorted) λz=>NX
theorem Cs.UQ(S:Cs w es t xs):es.size<=12:=by rw[S.size];exact(k7.mp S.small).2
theorem YR{xs:List Int}(F:FS Z.w h' a p)(h:∀o,h'.get? a=some o->g' a=some o)(d:xs.Pairwise (·<·))(x:∀i,p i↔i∈xs)(H:rU xs=true):RV Z g' ρ (.cY xs) (.ref a):=by refine rF F λc b t e G=>⟨a,c,b,t,rfl,h _ e,G.congr x,d,H⟩
theorem br.FO(S:bR Z st g fx ρ s){xs:List Int}(d:xs.Pairwise (·<·))(x:∀i,p i↔i∈xs)(a:rU xs=true)
  (h:∀(E:Value->Shared->Prop)(Q:Value->Shared->Prop),(∀h' k,(∀b o,s.heap.get? b=some o->h'.get? b=some o)->FS Z.w h' s.heap.objs.size p->Q (.ref s.heap.objs.size) {s with heap:=h',toks:=k})->au (Mo Z) A t Q E s):br Z A t st (.cY xs) g fx ρ s:=
 .yf S λE Q c=>h E Q λh' k H F=>c h' k _ H<|YR F (λo e=>fk S (bA _) e rfl (S.fresh<|bA _).2.2) d x a
theorem Vh(S:bR Z st g fx ρ s){a b:List Int}(C:(decide (a.length/4<=b.length)||b.isEmpty)=true)(r:RV Z g ρ (.cY a) x)(j:RV Z g ρ (.cY b) y):br Z A (mT .Sub x y) st (.cY<|a.filter λi=>!b.contains i) g fx ρ s:=by refine OZ r λl v n t c H d=>?_;subst c;refine OZ j λm O N to c B e=>?_;subst c;have H:=S.keep _ _ H;have B:=S.keep _ _ B;refine br.FO (p:=λi=>i∈a/\¬i∈b) S (d.sorted.filter _) (λi=>by simp[k6]) (k7.mpr ⟨λi I=>(k7.mp d.small).1 i (k6.mp I).1,ah (pe _ _) (k7.mp d.small).2⟩) λE Q h=>RY ⟨_,H,rfl⟩ ⟨_,B,rfl⟩ FF.MQ FF.vG<|bl FF.vG ⟨_,H,rfl⟩ FF.entry_sub ?_<|FF.NC _ _;refine Uj H d.g d.UQ B e.g ?_ λf k F=>⟨_,rfl,(λz=>nomatch z),h f _ k F⟩;rw[d.size,e.size];exact((g7 _ _).mp C).imp eW λh=>AL.mpr<|bg.mp h
theorem VX(S:bR Z st g fx ρ s)(C:rU (fi<|a++b)=true)(r:RV Z g ρ (.cY a) x)(j:RV Z g ρ (.cY b) y):br Z A (mT .BitOr x y) st (.cY<|fi<|a++b) g fx ρ s:=by refine OZ r λl v n t c H d=>?_;subst c;refine OZ j λm p N to c B e=>?_;subst c;have H:=S.keep _ _ H;have B:=S.keep _ _ B;refine br.FO S (jS _) (λi=>by rw[iT,b4]) C λE Q h=>RY ⟨_,H,rfl⟩ ⟨_,B,rfl⟩ FF.QW FF.zd<|bl FF.zd ⟨_,H,rfl⟩ FF.MV ?_<|FF.Rw _ _;exact Yc H d.g d.UQ B e.g e.UQ λf k F=>⟨_,rfl,(λz=>nomatch z),h f _ k F⟩
theorem Rt(S:bR Z st g fx ρ s)(e:lu op a b=some v)(r:RV Z g ρ a x)(B:RV Z g ρ b y):br Z A (mT (Ll op) x y) st v g fx ρ s:=by
 cases hf:ur a with
 |false=>exact IM S e r B hf
 |true=>
  have no:∀{i:Int},a=.int i->br Z A (mT (Ll op) x y) st v g fx ρ s:=λh=>absurd (h▸hf) ae;cases op with
  |sub=>
   have e:W4 (λx y=>gd (decide (x.length/4<=y.length)||y.isEmpty)<|x.filter λi=>!y.contains i) a b=some v:=by
    have:lu .sub a b=match ur a with|true=>W4 (λx y=>gd (decide (x.length/4<=y.length)||y.isEmpty)<|x.filter λi=>!y.contains i) a b|false=>Jc (λi j=>some<|i-j) a b:=rfl
    rw[this,hf] at e;exact e
   exact Um e λi j c h1 h2 H V=>iZ H λhb H=>by subst h1 h2 V H;exact Vh S hb r B
  |bor=>exact Um e λi j c h1 h2 H V=>iZ H λhb H=>by subst h1 h2 V H;exact VX S hb r B
  |mul=>exact av e λi I z=>gA I no
  |add=>exact Ea e λi j c h1 z z z=>no h1
  |fdiv=>exact Ea e λi j c h1 z z z=>no h1
  |mod=>exact Ea e λi j c h1 z z z=>no h1
  |pow=>exact Ea e λi j c h1 z z z=>no h1
theorem Q2(S:bR Z st g fx ρ s)(j:RV Z g ρ (.cY a) x)(p:RV Z g ρ (.cY b) y)(U:A.units<cLine):
  br Z A (dP .Eq x y) st (.bool<|a==b) g fx ρ s/\br Z A (dP .NotEq x y) st (.bool<|!(a==b)) g fx ρ s:=by
 refine OZ j λl v n t c H e=>?_
 subst c
 refine OZ p λm O w to c B f=>?_
 subst c
 have H:=S.keep _ _ H
 have B:=S.keep _ _ B
 have k:∀r:Bool,(r=true↔∀i,i∈a↔i∈b)->r=(a==b):=λr d=>by
  cases r with
  |true=>rw[Ds e.sorted f.sorted<|d.mp rfl];simp
  |false=>symm;rw[beq_eq_false_iff_ne];rintro rfl;have:=d.mpr λi=>NX;exact ae this
 refine⟨.ofBool S λE Q h=>?_,.ofBool S λE Q h=>?_⟩
 ·show au _ _ (richCompare .Eq (.ref l)<|.ref m) Q E s;refine Cx ⟨_,H,rfl⟩ ⟨_,B,rfl⟩ FF.Fv (bl FF.Fv ⟨_,H,rfl⟩ FF.entry_eq ?_<|FF.args_eq _ _) U;exact Zw H e.g B f.g λr d=>⟨_,rfl,(λz=>nomatch z),by rw[<-k r d] at h;exact h _⟩
 ·show au _ _ (richCompare .NotEq (.ref l)<|.ref m) Q E s;refine Cx ⟨_,H,rfl⟩ ⟨_,B,rfl⟩ FF.Fu (bl FF.Fu ⟨_,H,rfl⟩ FF.MX ?_<|FF.Ry _ _) U;exact Yj H e.g B f.g λr d=>⟨_,rfl,(λz=>nomatch z),by rw[<-k r d] at h;exact h _⟩
theorem QF(S:bR Z st g fx ρ s)(ra:RV Z g ρ (.int i) x)(rb:RV Z g ρ (.cY b) y):
  br Z A (dP .In x y) st (.bool<|b.contains i) g fx ρ s/\br Z A (dP .NotIn x y) st (.bool<|!b.contains i) g fx ρ s:=by
 obtain⟨tk,rfl⟩:=ra
 refine OZ rb λm eo no to zz4 hb Sb=>?_
 subst zz4
 have hb:=S.keep _ _ hb
 have hT:s.TypeIs (.ref m) "frozenset":=⟨_,hb,rfl⟩
 have main:∀(E:Value->Shared->Prop) Q,(∀t,Q (b.contains i) {s with toks:=t})->au (Mo Z) A (contains (.ref m)<|.int i tk) Q E s:=by
  intro E Q h;delta contains;try with_reducible refine aO ?_
  refine aU<|gB hT mr.lookup ?_;refine sC (by rw[yK];exact a8)<|aU<|w3 hT mr
   (bl mr hT FB.entry_frozenset_contains ?_<|FB.args_frozenset_contains_2 _ _)
  delta d9.«frozenset.__contains__» OG;simp only[List.isEmpty_nil,bind_assoc];refine aU<|ab ?_;refine aU<|ab ?_;refine aU<|wpAny_tryCatch ?_;refine aO<|aU<|(eV Z.prog Z.w).pyHash (ll _ _ _ _) ?_;refine aU<|zU ⟨_,_,_,hb,Sb.g⟩ λr hr=>?_;refine ab ?_;have:r.isSome=b.contains i:=by
   cases hc:b.contains i with
   |true=>exact hr.mpr (by simpa using hc)
   |false=>
    cases hq:r.isSome with
    |false=>rfl
    |true=>have:=hr.mp hq;simp at hc;exact absurd this hc
  rw[this];exact ab ⟨_,rfl,eT<|h _⟩
 refine⟨λE Q h=>?_,λE Q h=>?_⟩
 ·show au _ _ (do return .bool (<-contains (.ref m)<|.int i tk)) Q E s;exact aU<|main _ _ λt=>ab<|h g ρ _ _ (.refl _ _) (S.tok t) rfl
 ·show au _ _ (do return .bool (!(<-contains (.ref m)<|.int i tk))) Q E s;exact aU<|main _ _ λt=>ab<|h g ρ _ _ (.refl _ _) (S.tok t) rfl
end
namespace FF
theorem Ly:mroOf (.type "frozenset")=pure [.type "frozenset",.type "object"]:=by rw[mroOf_type];kernel_rfl
theorem xB:lj (.type "frozenset") "__new__"=pure (some<|.builtin "frozenset.__new__"):=by rw[cZ,bT];kernel_rfl
theorem sY:Jt "frozenset" "__init__" "object.__init__":=
 .of (owner:="object") (n:="__init__") (by rw[cZ,bT];kernel_rfl) (by decide+kernel) (by decide+kernel) (by decide+kernel)
  (by first|exact .inl (by decide+kernel)|exact .inr<|by decide+kernel) (by rw[dx];kernel_rfl)
theorem lb:TypeCalled "frozenset" "frozenset.__new__" "object.__init__":=
 ⟨by decide+kernel,by decide+kernel,⟨_,_,Ly⟩,madeBy_type Ly xB (by decide+kernel),by decide+kernel,by rw[dx];kernel_rfl,sY⟩
theorem Dj:G3 "frozenset" ⟨[],[]⟩=pure ():=by kernel_rfl
theorem H0:yI "frozenset.__new__" ⟨[.type "frozenset"],[]⟩=pure ():=by kernel_rfl
theorem Di(a:Value):G3 "frozenset" ⟨[a],[]⟩=pure ():=by kernel_rfl
theorem HZ(a:Value):yI "frozenset.__new__" ⟨[.type "frozenset",a],[]⟩=pure ():=by kernel_rfl
theorem Iu:kq xd "frozenset.__new__"=some d9.«frozenset.__new__»:=fT (by kernel_rfl)
end FF
section
variable{prog:Program}{w:cD}{A:bq}{R:Result->Shared->Prop}{I:Addr}{fp wr:List Addr}{G:Array GenState->Array GenState->Prop}{n:Nat}{P:Nat->Value->Prop}{St:Nat->Shared->Prop}
theorem FZ(W:WalksS prog w A.in1 I fp wr G n P St)(S:Addr)(f:S∉fp)(val:Nat->Int)(V:∀i v,P i v->∃t,v=.int (val i) t)(L:∀i,i<n->0<=val i/\val i<32):
  ∀(k i:Nat)(s:Shared),n-i=k->i<=n->St i s->ux c w s.heap S (λj=>∃m,m<i/\val m=j)->
   (∀s',Moved (S::wr) G s s'->ux c w s'.heap S (λj=>∃m,m<n/\val m=j)->R (.ok<|.ret .none) s')->
   jb (model prog w) A (.builtin "set.update.loop" ⟨[.ref S,.ref I],[]⟩) R s:=by
 have g:S∉wr:=λh=>f<|W.sub _ h
 have H:∀b∈wr,b∈S::wr:=λb B=>ay _ B
 intro k
 induction k with
 |zero=>
  intro i s hk hi a Q O;have hin:i=n:=by exact abv hk hi
  subst hin;refine jG E6 ?_;rw[iy om _];refine aU<|W.done s _ _ a λs' M=>?_;exact ab<|O s' (M.mono H) (by refine rF Q λJ D t ho r=>?_;exact⟨J,D,t,M.heap S _ g ho,r⟩)
 |succ k ih=>
  intro i s hk hi a Q O;have l:i<n:=by exact Nat.lt_of_sub_eq_succ hk
  refine jG E6 ?_;rw[iy om _];refine aU<|W.item i s _ _ l a λv s' hP z M=>?_;obtain⟨t,rfl⟩:=V i v hP;have U:ux c w s'.heap S (λj=>∃m,m<i/\val m=j):=by refine rF Q λJ D tb ho r=>?_;exact NZ J D tb (M.heap S _ g ho) r
  refine aU<|aO ?_;refine aO ?_;refine aU<|(eV prog w).pyHash (k:=val i) (ll _ _ _ _) ?_;refine EL (s:={s' with toks:=s'.toks+1}) U (L i l) λh' b y Y=>?_;have hSi:ux c w h' S (λj=>∃m,m<i+1/\val m=j):=Y.congr λj=>by
   constructor
   ·rintro(⟨m,N,C⟩|rfl)
    ·exact⟨m,by exact WE N,C⟩
    ·exact⟨i,by omega,rfl⟩
   ·rintro⟨m,N,C⟩;by_cases x:m=i
    ·exact .inr (by rw[<-C,x])
    ·exact .inl ⟨m,by exact WG N x,C⟩
  refine ab ⟨uC om _,ih (i+1) _ (by omega) l (W.frame _ s' _ _ z (iJ _) λb B o e=>?_) hSi λs'' p d=>?_⟩
  ·rw[y.2 b (λh:b=S=>f (by rw[<-h];exact B))];exact e
  ·refine O s'' (Moved.trans W.gtrans ((M.mono H).then_heap (iJ _) λb o B e=>?_) p) d;rw[y.2 b (λh:b=S=>B (by rw[h];exact aw))];exact e
end
section
variable{prog:Program}{w:cD}{A:bq}{E:Value->Shared->Prop}{s:Shared}
theorem Mt:MeetsIn prog w (d9.«frozenset.__new__» ⟨[.type "frozenset"],[]⟩)
  (λA R s=>∀h',(∀b o,s.heap.get? b=some o->h'.get? b=some o)->FS w h' s.heap.objs.size (λz=>False)->R (.ok<|.ret<|.ref s.heap.objs.size) {s with heap:=h'}):=
 .of_wp λA R s h=>by
  have H:=FF.lb.sub;have i:=FF.sY.lookup;delta d9.«frozenset.__new__» OH;obtain⟨p,g,d,t,os⟩:=s;dsimp only
  wp_walk
  refine gX<|ab ?_;dsimp only;simp only[newObj];refine aU<|lQ<|ab<|ab ⟨_,rfl,h _ b8 ⟨_,_,_,dH,SG.empty ?_⟩⟩;show _\/(!w.params.followText "set-order")=true;cases w.params.followText "set-order"<;>simp
theorem Ms:MeetsIn prog w (d9.«frozenset.__new__» ⟨[.type "frozenset",.ref l],[]⟩)
  (λA R s=>A.handled=none/\s.heap.IsList l items/\kC items.toList r/\(∀i∈r,0<=i/\i<32)/\∀h' J,(∀b o,s.heap.get? b=some o->h'.get? b=some o)->FS w h' s.heap.objs.size (λj=>j∈r)->R (.ok<|.ret<|.ref s.heap.objs.size) {s with heap:=h',toks:=J}):=
 .of_wp λA R s h=>by
  refine x05 h λhh Q hi O h=>?_;have hsub:=FF.lb.sub;have hinit:=FF.sY.lookup;have D:=F.sub_list_set;have C:=JE;have hne:(ka "list"==ka "dict")=false:=by decide
  have hne2:(ka "list"==ka "frozenset")=false:=by decide
  have hT:=Q.typeIs;obtain⟨p,g,d,J,os⟩:=s;dsimp only at Q hT h
  wp_walk
  refine gX<|ab ?_;simp only[newObj];refine aU<|lQ<|ab ?_;refine aU ?_;refine ab ?_;generalize L:(!(model prog w).w.params.followText "set-order")=led;have L:(!w.params.followText "set-order")=led:=L;have hS:(p.push {cls:=.type "frozenset",data:=.set #[] 0 (.fresh 0 0 led)}).get? p.objs.size=some (wj #[] 0 (.fresh 0 0 led)):=dH;have x:l<p.objs.size:=by obtain⟨o,ho,_⟩:=Q;exact bW ho
  have H:(p.push {cls:=.type "frozenset",data:=.set #[] 0 (.fresh 0 0 led)}).IsList l items:=Q.push _;have U:FS w (p.push {cls:=.type "frozenset",data:=.set #[] 0 (.fresh 0 0 led)}) p.objs.size (λy=>False):=⟨_,_,_,hS,SG.empty (by rw[<-L];cases w.params.followText "set-order"<;>simp)⟩;refine aU<|aO ?_;refine aU ?_;refine aU<|cP (s:={heap:=p.push {cls:=.type "frozenset",data:=.set #[] 0 (.fresh 0 0 led)},gens:=g,drawn:=d,toks:=J,os:=os}) H.typeIs D ?_;refine cP (s:={heap:=p.push {cls:=.type "frozenset",data:=.set #[] 0 (.fresh 0 0 led)},gens:=g,drawn:=d,toks:=J,os:=os}) H.typeIs C ?_;refine sQ ?_;refine aI<|ko (s:={heap:=p.push {cls:=.type "frozenset",data:=.set #[] 0 (.fresh 0 0 led)},gens:=g,drawn:=d,toks:=J,os:=os}) H.typeIs ?_;rw[hne];refine sQ ?_;refine aU<|xc H ?_;refine aU<|wpAny_runValue ?_;have hh3:A.in1.in1.handled=none:=by simp[hh]
  have B:l≠(p.push {cls:=.type "frozenset",data:=.set #[] 0 (.fresh 0 0 led)}).objs.size:=by rw[fK];exact bN<|dX x
  have hSf:p.objs.size∉[(p.push {cls:=.type "frozenset",data:=.set #[] 0 (.fresh 0 0 led)}).objs.size,l]:=by rw[fK];simp only[aQ,aD,aJ,or_false,not_or];exact⟨bN<|cp _,cv x⟩
  have V:∀(i:Nat)(v:Value),items[i]? =some v->∃t,v=.int ((λi=>r.getD i 0) i) t:=λi v hv=>
   nR hi i v (by rw[bh];exact hv)
  have N:=od hi;rw[aL] at N;have a:∀i,i<items.size->r.getD i 0∈r:=λi h=>by rw[iE,ax<|by exact abO N h];exact kl _
  refine FZ (c:="frozenset") ((G5 hh3 _ l B items).toS) p.objs.size hSf (λi=>r.getD i 0) V (λi h=>O _<|a i h) (items.size-0) 0 _ (by exact aaf) (dW _)
   ⟨⟨_,bp _ rfl,rfl,rfl⟩,H.push _⟩ ?_ ?_
  ·refine rF U λes ep t ho G=>?_;exact NZ es ep t (aq _ ho)<|G.congr λj=>⟨λf=>f.elim,λz=>z.elim λy z=>absurd z.1<|fu _⟩
  ·intro s' M Y;obtain⟨h',g',d',tk',os'⟩:=s';have eg:g'=g:=M.gens;have ed:d'=d:=M.drawn;have eo:os'=os:=M.os;subst eg;subst ed;subst eo;refine ab<|ab<|ab ⟨_,rfl,h h' tk' (λb o e=>?_)<|Y.congr λj=>?_⟩
   ·have hb:=bW e;have hb1:b≠p.objs.size:=bN hb;have hb2:b≠(p.push {cls:=.type "frozenset",data:=.set #[] 0 (.fresh 0 0 led)}).objs.size:=by rw[fK];exact bN<|dX hb
    exact M.heap b o (by simp only[aQ,aD,aJ,or_false,not_or];exact⟨hb1,hb2⟩)<|aq _<|aq _ e
   ·constructor
    ·rintro⟨m,h1,rfl⟩;exact a m h1
    ·intro hj;obtain⟨m,M⟩:=pd.mp hj;have:=(af.mp M).1;exact⟨m,by exact aae N this,by rw[iE,M];rfl⟩
end
section
variable{prog:Program}{w:cD}{A:bq}{E:Value->Shared->Prop}{s:Shared}
theorem tB(a:Value)
  (h:Q₁ (.ref s.heap.objs.size) {s with heap:=s.heap.push {cls:=.type "set",dict:=none,data:=.set #[] 0 (.fresh 0 0<|!w.params.followText "set-order")}}):
  jb (model prog w) A (.call (.builtin "set.__new__") ⟨[.type "set",a],[]⟩) (wants Q₁ E) s:=by
 refine AK ?_
 refine aU<|lP (F.newCall_set_1 a)<|ab ⟨uC F.plain_set_new _,jG F.entry_set_new ?_⟩
 rw[iy F.plain_set_new _]
 have b:=sub_set_self
 obtain⟨p,g,d,k,os⟩:=s
 wp_walk
 refine gX<|ab ?_
 simp only[newObj]
 refine aU<|lQ<|ab ?_
 exact ab h
noncomputable abbrev KL(led:Bool):Obj:={cls:=.type "set",dict:=none,data:=.set #[] 0 (.fresh 0 0 led)}
theorem D0{items:Array Value}(H:mM items.toList n):(∀(i:Nat)(v:Value),items[i]? =some v->∃t,v=.int (n.getD i 0) t)/\(∀i,i<items.size->n.getD i 0∈n)/\∀j,(∃m,m<items.size/\n.getD m 0=j)↔j∈n:=by
 have l:=od H;rw[aL] at l;have g:∀i,i<items.size->n.getD i 0∈n:=λi h=>by rw[iE,ax<|by exact abO l h];exact kl _
 refine⟨λi v V=>nR H i v (by rw[bh];exact V),g,λj=>⟨λz=>z.elim λm z=>z.2▸g m z.1,λJ=>?_⟩⟩;obtain⟨m,M⟩:=pd.mp J;exact⟨m,by have:=(af.mp M).1;exact aae l this,by rw[iE,M];rfl⟩
set_option maxHeartbeats 3200000 in
theorem Bc{S l:Addr}{items:Array Value}{n:List Int}{led:Bool}{R:As->Shared->Prop}
  (hh:A.handled=none) (k:s.heap.get? S=some (KL led)) (hG:SG w #[] (.fresh 0 0 led) λy=>False) (U:s.heap.IsList l items) (hi:mM items.toList n) (O:∀i∈n,0<=i/\i<32) (N:l≠S)
  (h:∀(h':Heap)(tk:Nat),ux "set" w h' S (λj=>j∈n)->(∀b o,b≠S->s.heap.get? b=some o->h'.get? b=some o)->R (.done<|.ret .none) {s with heap:=h',toks:=tk}):
  au (model prog w) A (d9.«set.__init__» ⟨[.ref S,.ref l],[]⟩) R E s:=by
 refine nK (D0 hi) λv g a=>?_
 have L:=U
 obtain⟨ol,D,H,nl,d⟩:=U
 obtain⟨ocls,J,G,t⟩:=ol
 simp only at H d
 subst H;subst d
 have hT:s.TypeIs (.ref S) "set":=⟨_,k,rfl⟩
 have Y:=F.sub_list_set
 have V:=JE
 have hnd:(ka "list"==ka "dict")=false:=by decide
 have hsub:=sub_set_self
 have C:l<s.heap.objs.size:=bW D
 have x:S<s.heap.objs.size:=bW k
 have B:S∉[s.heap.objs.size,l]:=λm=>(zx m).elim (bN x)<|ff N
 unfold d9.«set.__init__» noKeywords OE
 generalize I:jL=PI
 wp_walk
 subst I
 refine xc L ?_
 refine aU<|wpAny_runValue ?_
 refine FZ (c:="set") ((G5 (by simp[hh]) _ l (bN C) items).toS) S B (λi=>n.getD i 0) v (λi h=>O _<|g i h) (items.size-0) 0 _ (by exact aaf) (dW _)
  ⟨⟨_,bp _ rfl,rfl,rfl⟩,L.push _⟩ ⟨_,_,_,aq _ k,hG.congr λj=>⟨λf=>f.elim,λz=>z.elim λy z=>absurd z.1<|fu _⟩⟩ λs' m p=>?_
 obtain⟨h',g',d',Q,M⟩:=s'
 have eg:g'=s.gens:=m.gens
 have ed:d'=s.drawn:=m.drawn
 have eo:M=s.os:=m.os
 subst eg;subst ed;subst eo
 refine ab ?_
 exact ab<|h h' Q (p.congr a) λb o hb e=>m.heap b o (λm=>(aQ.mp m).elim hb λm=>bN (bW e)<|aD.mp m)<|aq _ e
set_option maxHeartbeats 3200000 in
theorem Ci{l:Addr}{items:Array Value}{ns:List Int}{Q:Value->Shared->Prop}
  (hh:A.handled=none) (hl:s.heap.IsList l items) (hi:mM items.toList ns) (hlow:∀i∈ns,0<=i/\i<32)
  (h:∀(h':Heap)(tk:Nat),ux "set" w h' s.heap.objs.size (λj=>j∈ns)->
   (∀b o,s.heap.get? b=some o->h'.get? b=some o)->Q (.ref s.heap.objs.size) {s with heap:=h',toks:=tk}):
  au (model prog w) A (call (.type "set") [.ref l]) Q E s:=by
 refine w5 i4.mro λc tl hmro=>?_
 have hmade:=i4.made
 have hsub:=i4.sub
 have h1:=i4.notType
 have h2:=i4.canCreate
 have hct:=F.typeCall_set_1<|.ref l
 refine qt<|AK ?_
 refine ab ⟨Code.quiet_builtin _ (by decide+kernel),jG F.entry_type_call ?_⟩
 rw[bq.under_plain (weight_type_call_type "set" [.ref l] []) rfl]
 repeat (any_goals (first|assumption|wp_step))
 refine codeAny_mono (tB (.ref l) (E:=E) (Q₁:=λobj bG=>obj=.ref s.heap.objs.size/\bG={s with heap:=s.heap.push<|KL<|!w.params.followText "set-order"}) ⟨rfl,rfl⟩) λr bG hr=>?_
 cases r with
 |error e=>exact hr
 |ok fl=>
  cases fl with
  |ret obj=>
   obtain⟨rfl,rfl⟩:=hr;have hS:(s.heap.push<|KL<|!w.params.followText "set-order").get? s.heap.objs.size=some (KL<|!w.params.followText "set-order"):=bp _ rfl;have hT:Shared.TypeIs {s with heap:=s.heap.push<|KL<|!w.params.followText "set-order"} (.ref s.heap.objs.size) "set":=⟨_,hS,rfl⟩;have hli:=i4.init.lookup;have hbi:=i4.init.bind<|.ref s.heap.objs.size;repeat (any_goals (first|assumption|wp_step))
   refine codeAny_mono (Om (R:=wants (λr iA=>r=.none/\∃h' tk,iA={s with heap:=h',toks:=tk}/\ux "set" w h' s.heap.objs.size (λj=>j∈ns)/\
     (∀b o,s.heap.get? b=some o->h'.get? b=some o)) E) i4.init.plain F.entry_set_init<|check_set_init_1 hT ?_) λyH iA Jk=>?_
   ·refine Bc (by simp[hh]) hS (SG.empty<|by cases w.params.followText "set-order"<;>simp) (hl.push _) hi hlow ?_ λh' tk hF hk=>⟨rfl,h',tk,rfl,hF,λb o e=>hk b o (bN<|bW e)<|aq _ e⟩;refine dn hl λol hol z=>?_;exact bN<|bW hol
   ·cases yH with
    |error e=>exact Jk
    |ok Xu=>
     cases Xu with
     |ret r=>
      obtain⟨rfl,h',tk,rfl,hS',hk'⟩:=Jk;repeat (any_goals (first|assumption|wp_step))
      exact h _ _ hS' hk'
     |_=>exact Jk.elim
  |_=>exact hr.elim
namespace FF
theorem rL:Jt "frozenset" "__iter__" "frozenset.__iter__":=
 .of (owner:="frozenset") (n:="__iter__") (by rw[cZ,bT];kernel_rfl) (by decide+kernel) (by decide+kernel) (by decide+kernel)
  (by first|exact .inl (by decide+kernel)|exact .inr<|by decide+kernel) (by rw[dx];kernel_rfl)
theorem xF:kq xd "frozenset.__iter__"=some d9.«frozenset.__iter__»:=fT (by kernel_rfl)
theorem wy:kq xd "set.__iter__"=some d9.«frozenset.__iter__»:=
 CN (id':="frozenset.__iter__") (by kernel_rfl) rfl (by decide+kernel) (by kernel_rfl)
theorem Aj(a:Value):lq "frozenset.__iter__" ⟨[a],[]⟩:=by unfold lq;rw[jC (id:="frozenset.__iter__") (n:=['_','_','r','e','t','i','_','_']) (o:=['t','e','s','n','e','z','o','r','f']) (by kernel_rfl) jz];kernel_rfl
theorem iC:Jt "set_iterator" "__next__" "set_iterator.__next__":=
 .of (owner:="set_iterator") (n:="__next__") (by rw[cZ,bT];kernel_rfl) (by decide+kernel) (by decide+kernel) (by decide+kernel)
  (by first|exact .inl (by decide+kernel)|exact .inr<|by decide+kernel) (by rw[dx];kernel_rfl)
theorem qn:kq xd "set_iterator.__next__"=some d9.«set_iterator.__next__»:=fT (by kernel_rfl)
end FF
end
namespace FF
theorem Bq:Manifest.owners.lookup (String.ofList ['r','o','t','a','r','e','t','i','_','t','e','s'].reverse)=some Manifest.sig_set_iterator:=by kernel_rfl
theorem sm(a:Value):lq "set_iterator.__next__" ⟨[a],[]⟩:=by unfold lq;rw[jC (id:="set_iterator.__next__") (n:=['_','_','t','x','e','n','_','_']) (o:=['r','o','t','a','r','e','t','i','_','t','e','s']) (by kernel_rfl) Bq];kernel_rfl
theorem rK:Jt "set_iterator" "__iter__" "set_iterator.__iter__":=
 .of (owner:="set_iterator") (n:="__iter__") (by rw[cZ,bT];kernel_rfl) (by decide+kernel) (by decide+kernel) (by decide+kernel)
  (by first|exact .inl (by decide+kernel)|exact .inr<|by decide+kernel) (by rw[dx];kernel_rfl)
theorem Ai(a:Value):lq "set_iterator.__iter__" ⟨[a],[]⟩:=by unfold lq;rw[jC (id:="set_iterator.__iter__") (n:=['_','_','r','e','t','i','_','_']) (o:=['r','o','t','a','r','e','t','i','_','t','e','s']) (by kernel_rfl) Bq];kernel_rfl
theorem xE:kq xd "set_iterator.__iter__"=some d9.«dict_keyiterator.__iter__»:=
 CN (id':="dict_keyiterator.__iter__") (by kernel_rfl) rfl (by decide+kernel) (by kernel_rfl)
end FF
section
variable{c:String}{prog:Program}{w:cD}{A:bq}{E:Value->Shared->Prop}{s:Shared}
def IY(h:Heap)(it a:Addr)(l i n e:Nat):Prop:=∃o,h.get? it=some o/\o.cls=.type "set_iterator"/\o.data=.fields #[.int l 0,.int i 0,.ref a,.int n 0,.int e 0]
theorem IY.typeIs(x:IY s.heap it a l i n e):s.TypeIs (.ref it) "set_iterator":=x.imp λz h=>⟨h.1,h.2.1⟩
theorem IY.at{h h':Heap}(x:IY h it a l i n p)(e:∀o,h.get? it=some o->h'.get? it=some o):IY h' it a l i n p:=x.imp λz=>cx<|e _
theorem Wo(xs:Array Nat)(h:xs.size<=1):uD xs 0=0:=by obtain⟨l⟩:=xs;rcases Ib h with rfl|⟨j,rfl⟩<;>rfl
theorem Wn(xs:Array Nat)(h:xs.size=1):uD xs (xs.getD 0 0+1)=1:=by obtain⟨l⟩:=xs;obtain⟨j,rfl⟩:=LO h;exact(show uD ⟨[j]⟩ (j+1)=(if j<j+1 then 1 else 0) by kernel_rfl).trans<|if_pos<|cp j
theorem DO{l es:Array (Int×Value)}(p:cQ l.toList es.toList)(h:es.size<=1):l=es:=by
 have H:l.toList=es.toList:=by
  rw[<-aL] at h;revert p h;generalize es.toList=ys;intro p h;rcases Ib h with rfl|⟨y,rfl⟩
  ·exact List.perm_nil.mp p
  ·exact List.perm_singleton.mp p
 exact Array.toList_inj.mp H
theorem vK(O:s.heap.get? a=some (w8 c es n t))(G:SG w es t p)(g:es.size<=1)
  (v:i<=1) (f:w.params.followText "set-order"=true\/(i=0->L=0)/\(i=1->L=t.place.getD 0 0+1))
  (h:∀next:Nat,(w.params.followText "set-order"=true\/(i=0->next=t.place.getD 0 0+1))->Q ((es[i]?).map λe=>(e.2,next)) s):au (model prog w) A (setNext a L i n) Q E s:=by
 have H:t.place.size=es.size:=by have:=G.fits;simp -iota only[lZ,dr,beq_iff_eq] at this;exact this.1
 refine aU<|bu O rfl G.fits ?_
 refine aU<|ph ?_
 cases hb:w.params.followText "set-order" with
 |true=>simp -iota only[if_true,bne_self_eq_false,dc,if_false];refine aU (vn O G (by rw[hb];rfl) λl x=>ab ?_);rw[DO x g];exact h L<|.inl hb
 |false=>
  rw[hb] at f;simp -iota only[dc,false_or] at f;refine sQ ?_;have r:(!t.plain&&decide (es.size>1))=false:=by simp;exact λa=>g
  show au _ _ (if(!t.plain&&decide (es.size>1))=true then _ else _) Q E s;rw[r];refine sQ ?_;have D:t.led=true:=by
   rcases G.led with z|z
   ·rw[hb] at z;exact ae z
   ·exact z
  refine aU ?_;show au _ _ (if(!t.led&&!es.isEmpty)=true then _ else _) _ E s;rw[D];simp -iota only[Bool.not_true,Sh,dc,if_false];refine ab<|ab ?_;by_cases m:es.size=0
  ·have d:∀k:Nat,es[k]? =none:=λk=>gQ (by exact abt H m);rw[d];have:=h 0;rw[d] at this;by_cases I:i=0
   ·have:=h (t.place.getD 0 0+1)<|.inr λy=>rfl;rw[d] at this;exact this
   ·have:=h 0<|.inr λz=>absurd z I;rw[d] at this;exact this
  ·have b:es.size=1:=by exact abr g H m
   by_cases I:i=0
   ·subst I;rw[f.1 rfl,Wo _<|by exact abq H b];have d:es[0]? =some es[0]:=fU (by exact dK<|id<|ck b);have j:t.place[0]? =some t.place[0]:=fU (by exact abp H b);have:=h (t.place.getD 0 0+1)<|.inr λy=>rfl;rw[d] at this ⊢;rw[lr,j] at this;rw[j];exact this
   ·have B:i=1:=by exact abo v I
    subst B;rw[f.2 rfl,Wn _<|by exact ck H▸ck b▸cN 1];have d:es[1]? =none:=gQ (by omega);have:=h 0<|.inr λz=>absurd z I;rw[d] at this ⊢;exact this
theorem x8(C:c="frozenset"\/c="set")(O:s.heap.get? a=some (w8 c es k t))(G:SG w es t p)(m:es.size<=1)
  (h:Q (.ref s.heap.objs.size) {s with heap:=s.heap.push {cls:=.type "set_iterator",data:=.fields #[.int 0 0,.int 0 0,.ref a,.int es.size 0,.int k 0]}}):au (model prog w) A (jL<|.ref a) Q E s:=by
 have H:s.TypeIs (.ref a) c:=⟨_,O,rfl⟩
 have b:∀{d:bq},au (model prog w) d (d9.«frozenset.__iter__» ⟨[.ref a],[]⟩) (λi g=>∃v,i=.done (.ret v)/\∃T r,g.TypeIs v T/\lj (.type T) "__next__"=pure (some r)/\Q v g) E s:=by
  intro d;refine aU ?_;refine aU<|ab ?_;refine ab ?_;refine aU<|aU<|fJ O G<|ab ?_;refine aU<|aU<|bu O rfl G.fits<|aU<|ph<|ab ?_;have n:(!w.params.followText "set-order"&&(!t.plain&&decide (es.size>1)))=false:=by simp;exact λa j=>m
  show au _ _ (if(!w.params.followText "set-order"&&(!t.plain&&decide (es.size>1)))=true then _ else _) _ _ s;rw[n];refine sQ ?_;refine aU<|ab ?_;refine aU<|aU<|bu O rfl G.fits<|ab ?_;refine aU<|dE<|ab ⟨_,rfl,"set_iterator",_,⟨_,bp _ rfl,rfl⟩,FF.iC.lookup,?_⟩;exact h
 rcases C with rfl|rfl
 ·exact xb H FF.rL<|bl FF.rL H FF.xF b<|FF.Aj _
 ·exact xb H F.slot_set_iter<|bl F.slot_set_iter H FF.wy b<|F.args_set_iter_1 _
theorem Walks.fs(hh:A.handled=none)(hc:c="frozenset"\/c="set")(I a:Addr)(N:a≠I)(G:SG w es t p)(L:es.size<=1):
  Walks prog w A I [I,a] [I] es.size (λi v=>(es[i]?).map (·.2)=some v) (λi h=>i<=es.size/\h.get? a=some (w8 c es Y t)/\∃l,IY h I a l i es.size Y/\(w.params.followText "set-order"=true\/(i=0->l=0)/\(i=1->l=t.place.getD 0 0+1))) where
 sub:=λb B=>by simp at B;simp -iota [B]
 frame:=λy y y f hk=>⟨f.1,hk a (by simp -iota) _ f.2.1,f.2.2.imp λy=>cx λx=>x.at λo e=>hk I (by simp -iota) o e⟩
 item:=λi s Q E M f g=>by
  obtain⟨_,O,l,x,J⟩:=f;refine sA (id x) λV H C d=>?_;have r:es[i]? =some es[i]:=fU M;refine aU<|uA<|cC (name:=jM "__next__") x.typeIs FF.iC
   (bl FF.iC x.typeIs FF.qn ?_<|FF.sm _)
  refine aU<|ab ?_;refine aU<|wpAny_fieldsOf H d ?_;refine aI<|fJ O G ?_;refine sC (by simp -iota) ?_;refine aU ?_;simp -iota only[jO];refine vK O G L (by exact abn L M) J λnext n=>?_
  rw[r];refine aU (mQ H d (by simp -iota) ?_);have j:(s.heap.update I<|jd (·.setIfInBounds 0 (.int next 0))).get? I=some (jd (·.setIfInBounds 0 (.int next 0)) V):=cW _ H<|p6<|gY d _;have D:(jd (·.setIfInBounds 0 (.int next 0)) V).data=.fields #[.int next 0,.int i 0,.ref a,.int es.size 0,.int Y 0]:=by rw[gY d];simp
  refine aU (mQ (s:={s with heap:=s.heap.update I<|jd (·.setIfInBounds 0 (.int next 0))}) j D (by simp -iota) ?_);refine ab ⟨_,rfl,?_⟩;have k:da I s.heap ((s.heap.update I<|jd (·.setIfInBounds 0 (.int next 0))).update I<|jd (·.setIfInBounds 1 (.int ((i:Int)+1) 0))):=
   (cq ..).trans (cq ..)
  have U:=cW (jd (·.setIfInBounds 1 (.int ((i:Int)+1) 0))) j<|p6<|gY D _;refine ab<|g _ _ s.toks (by rw[r];rfl) ⟨M,(k.2 a N).trans O,next,⟨_,U,?_,?_⟩,n.imp id λz=>⟨λq=>absurd q<|e9 i,λq=>z<|by exact ck<|(λ{a b}=>Nat.succ_inj.mp)<|id<|ck q⟩⟩ λb o B e=>(k.2 b λq=>B<|by simp -iota [q]).trans e
  ·rw[ue,ue];exact C
  ·rw[gY D];simp
 done:=λs Q E f g=>by
  obtain⟨_,O,l,x,J⟩:=f;refine sA (id x) λV H C d=>?_;have r:es[es.size]? =none:=gQ<|aF _;refine aU<|uA<|cC (name:=jM "__next__") x.typeIs FF.iC
   (bl FF.iC x.typeIs FF.qn ?_<|FF.sm _)
  refine aU<|ab ?_;refine aU<|wpAny_fieldsOf H d ?_;refine aI<|fJ O G ?_;refine sC (by simp -iota) ?_;refine aU ?_;simp -iota only[jO];refine vK O G L (by omega) J λnext n=>?_
  rw[r];refine aU (mQ H d (by simp -iota) ?_);refine aU ?_;simp -iota only[newExc,newTuple];refine aU (dE ?_<|by size_fits);refine aI (m:=sH _ _) (lP (a:=lR) (by first|rfl|(simp -iota only[sH];rfl)) ?_);refine dE ?_ (by size_fits);simp -iota only[raiseNew];refine aU<|wpAny_handled ?_;rw[show A.in1.handled=none from hh];refine aU<|ab<|wpAny_throw ?_;refine aU<|cP (T:="StopIteration") (b:=true) ⟨_,bp _ rfl,rfl⟩ isSubtype_stop ?_;exact ab (g _ s.toks λb o B e=>(((cq ..).extBut.push _).push _) b o (λh=>B<|by simp -iota [h]) e)
 self:=λy y y y f g=>by obtain⟨_,O,l,x,J⟩:=f;refine xb x.typeIs FF.rK<|bl FF.rK x.typeIs FF.xE ?_<|FF.Ai _;exact ab ⟨_,rfl,"set_iterator",_,x.typeIs,FF.iC.lookup,g⟩
end
namespace FF
theorem Bb:Jt "frozenset" "__len__" "frozenset.__len__":=
 .of (owner:="frozenset") (n:="__len__") (by rw[cZ,bT];kernel_rfl) (by decide+kernel) (by decide+kernel) (by decide+kernel)
  (by first|exact .inl (by decide+kernel)|exact .inr<|by decide+kernel) (by rw[dx];kernel_rfl)
end FF
theorem Bx:j∈hK i xs↔j=i\/j∈xs:=by
 induction xs with
 |nil=>simp[hK]
 |cons x xs I=>
  unfold hK;split
  ·simp
  ·simp only[aQ,I];constructor
   ·rintro(h|h|h)
    ·exact .inr<|.inl h
    ·exact .inl h
    ·exact .inr<|.inr h
   ·rintro(h|h|h)
    ·exact .inr<|.inl h
    ·exact .inl h
    ·exact .inr<|.inr h
theorem zt:cQ (hK i xs) (i::xs):=by
 induction xs with
 |nil=>exact .rfl
 |cons x xs h=>
  unfold hK;split
  ·exact .rfl
  ·exact(h.cons x).trans<|G9 _ _ _
theorem D7{xs:List Int}:xs.Pairwise (·<=·)->(hK i xs).Pairwise (·<=·):=by
 induction xs with
 |nil=>intro _;simp[hK]
 |cons x xs I=>
  intro h;rw[ek] at h;unfold hK;split
  ·rename_i hi
   rw[ek,ek];refine⟨λy H=>?_,h⟩;rcases aQ.mp H with rfl|H
   ·exact hi
   ·have:=h.1 y H;exact cw hi this
  ·rename_i hi
   rw[ek];refine⟨λy H=>?_,I h.2⟩;rcases Bx.mp H with rfl|H
   ·exact Int.le_of_not_le hi
   ·exact h.1 y H
theorem xy(xs:List Int):cQ (gR xs) xs:=by
 induction xs with
 |nil=>exact .rfl
 |cons x xs i=>show cQ (hK x<|gR xs) _;exact zt.trans<|(i).cons x
theorem BA(xs:List Int):(gR xs).Pairwise (·<=·):=by
 induction xs with
 |nil=>exact kN
 |cons x xs i=>exact D7<|i
theorem A5(p:cQ y xs)(h:y.Pairwise (·<=·)):y=gR xs:=
 (p.trans (xy xs).symm).eq_of_pairwise (λa b z z H c=>Int.le_antisymm H c) h (BA xs)
section
variable{Z:dg}{st:List SO}{g fx:FH}{ρ:dM}{s:Shared}{A:bq}{E:Value->Shared->Prop}
theorem tg:∀{is:List Int},iL xs=some is->xs=is.map .int:=by
 induction xs with
 |nil=>intro _ e;exact aa e▸rfl
 |cons x xs I=>intro is e;exact av e λi H e=>cR e λJ j h=>gA H λa=>by subst a h;rw[I j];rfl
theorem Eb{g:FH}{ρ:dM}{is:List Int}:∀{vs:List Value},dD Z g ρ (is.map .int) vs->kC vs is:=by
 induction is with
 |nil=>intro _ r;exact(show _=[] from r)▸.nil
 |cons i is h=>intro _ r;obtain⟨v,V,rfl,⟨t,rfl⟩,a⟩:=r;exact .cons i t<|h a
theorem wg{g:FH}{ρ:dM}(e:iL xs=some is)(r:dD Z g ρ xs vs):kC vs is:=Eb<|tg e▸r
theorem Ga{g:FH}{ρ:dM}:∀{is:List Int}{vs:List Value},kC vs is->dD Z g ρ (is.map .int) vs:=λ{is}=>by
 induction is with
 |nil=>intro vs h;cases h;rfl
 |cons i is I=>intro vs h;cases h with|cons n t r=>exact⟨_,_,rfl,⟨t,rfl⟩,I r⟩
theorem Qu(h:g' a=some (lV vs n))(i:kC vs.toList is):RV Z g' ρ (.lst<|is.map .int) (.ref a):=⟨a,vs,n,rfl,h,Ga i⟩
theorem BH(C:c="frozenset"\/c="set")(H:s.TypeIs (.ref r) c)(h:Q false s):au (model prog w) A (rz<|.ref r) Q E s:=by
 unfold rz;rcases C with rfl|rfl
 ·refine aI<|gB H FF.Bb.lookup ?_;generalize i:("frozenset.__len__":String)=id0
  wp_delta
  rw[show splitId id0=some ("frozenset","__len__") from by subst i;decide+kernel];subst i;refine aU (cP (b:=true) H (by rw[dx];kernel_rfl) ?_);refine qV (λa=>absurd a<|by decide) λz=>?_;refine qV (λz=>?_) (λa=>absurd (by decide+kernel) a);refine aU<|ko H ?_;exact ab h
 ·refine aI<|gB H F.slot_set_len.lookup ?_;generalize i:("set.__len__":String)=id0
  wp_delta
  rw[show splitId id0=some ("set","__len__") from by subst i;decide+kernel];subst i;refine aU (cP (b:=true) H (by rw[dx];kernel_rfl) ?_);refine qV (λa=>absurd a<|by decide) λz=>?_;refine qV (λz=>?_) (λa=>absurd (by decide+kernel) a);refine aU<|ko H ?_;exact ab h
theorem UZ(H:c="frozenset"\/c="set")(G:SG w es t p)(b:es.size<=1):
  KdlSrc prog w c a a es.size (λi v=>(es[i]?).map (·.2)=some v) (λh=>h.get? a=some (w8 c es e t)) where
 type:=λy m=>⟨_,m,rfl⟩
 there:=λy m=>⟨bW m,bW m⟩
 keep:=λy y m k=>k a (.inl rfl) _ m
 notList:=by rcases H with rfl|rfl<;>decide
 notTuple:=by rcases H with rfl|rfl<;>decide
 hint:=λy y y y m Q=>BH H ⟨_,m,rfl⟩ Q
 iter:=λy y d m=>⟨_,_,λy y Q=>x8 H m G b Q,Walks.fs d H _ a (bN<|bW m) G b,⟨dW _,aq _ m,0,⟨_,bp _ rfl,rfl,rfl⟩,.inr ⟨λy=>rfl,λz=>(nomatch z)⟩⟩⟩
theorem sU{h:Heap}(H:b≠a)(e:h.get? b=some o):(CI h a vs out).get? b=some o:=by unfold CI;rw[nY _ _<|ff H];exact aq _<|aq _<|(nY _ _<|ff H).trans e
theorem xq{h:Heap}{vs:List Value}(e:h.get? a=some (seqObj "list" vs.toArray n)):∃N,(CI h a vs out).get? a=some (lV out N):=by unfold CI;have H:=get?_update_seq e λz=>#[];exact⟨_,get?_update_seq (aq _<|aq _ H) λz=>out⟩
end
noncomputable def over(fx:FH)(w:List Addr)(h:Heap):FH:=λb=>if b∈w then h.get? b else fx b
theorem kY{fx:FH}(H:b∈w):over fx w h b=h.get? b:=by simp[over,H]
theorem dS{fx:FH}(H:b∉w):over fx w h b=fx b:=by simp[over,H]
section
variable{Z:dg}{st:List SO}{g fx:FH}{ρ:dM}{s:Shared}{A:bq}{E:Value->Shared->Prop}
theorem bR.enter(S:bR Z st g fx ρ s){h':Heap}(d:Nat)(h:∀b o,s.heap.get? b=some o->h'.get? b=some o)(n:∀b∈w,s.heap.get? b=none):
  bR Z st (Mine.dO Z g s.heap h' λb=>decide<|b∈w) (over fx w h') ρ {s with heap:=h',toks:=d} where
 keep b ob e:=by
  rcases kc e with q|q
  ·exact h _ _<|S.keep _ _ q
  ·exact q.2.2.2
 fix b ob e:=by
  unfold over at e;split at e
  ·exact e
  ·exact h _ _ (S.fix b ob e)
 len:=S.len
 objs k o p ho hp:=(S.objs k o p ho hp).mono ⟨λy y e=>b6 e,[],by simp⟩ λb ob y e=>h _ _ e
 uniq:=S.uniq
 off k so p x hso hl hp hx:=by refine nK (S.off k so p x hso hl hp hx) λQ a c=>eS (S.iM hso hl hp hx) λob e=>?_;refine⟨cM e Q,?_,c⟩;rw[dS (λz=>by rw[n x z] at e;exact aR e)];exact a
 top b o e:=b6 (S.top b o e)
 tabs:=Z.kU _ _ S.tabs (λb o e y=>h b o e) λb o e=>h _ _ (S.eC b o e)
 f6 b hb:=by refine eS (S.pj hb) λob e=>⟨cM e (S.f6 b hb).1,?_⟩;rw[dS (λz=>by rw[n b z] at e;exact aR e)];exact(S.f6 b hb).2
 q9 b ob e:=by
  unfold over at e;split at e
  ·rename_i q;unfold dO;rw[(S.fresh<|n b q).1];simp[q]
  ·exact cM (S.fix b ob e) (S.q9 b ob e)
 same:=S.same
 codes:=S.j9 (λy y e=>b6 e) λb o e y=>h b o e
theorem bR.turn(S:bR Z st g (over fx w s.heap) ρ s){h':Heap}(D:Nat)(c:∀b∈w,∃o,s.heap.get? b=some o)(i:∀b o,b∉w->s.heap.get? b=some o->h'.get? b=some o):
  bR Z st (Mine.dO Z g s.heap h' λy=>false) (over fx w h') ρ {s with heap:=h',toks:=D}:=by
 have G:=λb h=>by refine eS (c b h) λo e=>S.q9 b o (by rw[kY h];exact e)
 have a:=λb ob e=>i b ob (λz=>by rw[G b z] at e;exact aR e)<|S.keep b ob e
 have f:∀{k:Nat}{O:SO}{p:Addr×Addr}{x:Addr},st[k]? =some O->O.live=true->ρ[k]? =some p->(x=p.1\/x=p.2)->x∉w:=by intro k O p x H l d j z;have:=(S.off k O p x H l d j).2.1;refine eS (c x z) λo e=>?_;rw[kY z,e] at this;exact iG this
 have t:∀b,Z.tab b=true->b∉w:=λb h z=>by have:=(S.f6 b h).2;refine eS (c b z) λo e=>?_;rw[kY z,e] at this;exact iG this
 refine⟨?_,?_,S.len,?_,S.uniq,?_,λb o e=>b6<|S.top b o e,Z.kU _ _ S.tabs (λb ob e h=>i b ob (t b h) e) λb o e=>a _ _<|S.top b o e,?_,?_,S.same,S.j9 (λy y e=>b6 e) λb ob e h=>i b ob (t b h) e⟩
 ·intro b ob e;rcases kc e with q|q
  ·exact a _ _ q
  ·exact q.2.2.2
 ·intro b ob e;by_cases h:b∈w
  ·rw[kY h] at e;exact e
  ·rw[dS h] at e;exact i b ob h<|S.fix b ob (by rw[dS h];exact e)
 ·intro k O p H d;by_cases l:O.live=true
  ·exact(S.objs k O p H d).mono ⟨λy y e=>b6 e,[],by simp⟩ λb ob h e=>i b ob (f H l d h) e
  ·cases O<;>first|exact r rfl l|trivial
 ·intro k O p x H l d j;refine nK (S.off k O p x H l d j) λB Q C=>eS (S.iM H l d j) λob e=>?_;refine⟨cM e B,?_,C⟩;have:=f H l d j;rw[dS this] at Q ⊢;exact Q
 ·intro b h;refine eS (S.pj h) λob e=>?_;have:=t b h;have q:=S.f6 b h;refine⟨cM e q.1,?_⟩;rw[dS this] at q ⊢;exact q.2
 ·intro b ob e;by_cases h:b∈w
  ·refine eS (c b h) λo v=>cM v<|G b h
  ·rw[dS h] at e;have m:over fx w s.heap b=some ob:=by rw[dS h];exact e
   exact cM (S.fix b ob m)<|S.q9 b ob m
theorem bR.leave(S:bR Z st g (over fx w s.heap) ρ s)(h:∀b∈w,fx b=none):bR Z st g fx ρ s:=
 S.weaken λb o e=>by rw[dS (λz=>by rw[h b z] at e;exact aR e)];exact e
def eX.T1(w:List Addr)(G:FH)(St:Nat->Heap->Prop):Prop:=∀i h H,St i h->(∀b o,(b∈w\/G b=some o)->h.get? b=some o->H.get? b=some o)->St i H
def eX.T2(w:List Addr)(St:Nat->Heap->Prop):Prop:=∀i h,St i h->∀b∈w,∃o,h.get? b=some o
def eX.T3(prog:Program)(w:cD)(Z:dg)(A:bq)(I:Addr)(r:List Addr)(items:List SV)(G:FH)(a:dM)(tup:Bool)(St:Nat->Heap->Prop):Prop:=∀i x s (Q:Option Value->Shared->Prop) (E:Value->Shared->Prop) (tgt:Expr),items[i]? =some x->(tup=true->∃e k p,tgt=.Tuple e k p)->St i s.heap->
  (∀v H t,(∀b o,b∉r->s.heap.get? b=some o->H.get? b=some o)->
   (∀d c,(∀b o,G b=some o->d b=some o)->(∃m,c=a++m)->(∀b o,b∉r->s.heap.get? b=none->H.get? b=some o->d b=some o)->RV Z d c x v)->
   (∀b∈r,∃o,H.get? b=some o)->
   (∀(f:Unit->Shared->Prop)(E':Value->Shared->Prop),(∀h,(∀b o,b∉r->H.get? b=some o->h.get? b=some o)->St (i+1) h->f () {s with heap:=h,toks:=t})->au (model prog w) A (gC tgt (.ref I) v) f E' {s with heap:=H,toks:=t})->
   Q (some v) {s with heap:=H,toks:=t})->au (model prog w) A (qu<|.ref I) Q E s
def eX.T4(prog:Program)(w:cD)(A:bq)(I:Addr)(r:List Addr)(items:List SV)(St:Nat->Heap->Prop):Prop:=∀s (Q:Option Value->Shared->Prop) (E:Value->Shared->Prop),St items.length s.heap->(∀h t,(∀b o,b∉r->s.heap.get? b=some o->h.get? b=some o)->Q none {s with heap:=h,toks:=t})->au (model prog w) A (qu<|.ref I) Q E s
def eX.T5(prog:Program)(w:cD)(A:bq)(I:Addr)(St:Nat->Heap->Prop):Prop:=∀i s (Q:Value->Shared->Prop) (E:Value->Shared->Prop),St i s.heap->Q (.ref I) s->au (model prog w) A (jL<|.ref I) Q E s
structure eX(prog:Program)(w:cD)(Z:dg)(A:bq)(I:Addr)(wr:List Addr)(items:List SV)(qs:FH)(qd:dM)(tup:Bool)(St:Nat->Heap->Prop):Prop where
 frame:eX.T1 wr qs St
 there:eX.T2 wr St
 item:eX.T3 prog w Z A I wr items qs qd tup St
 done:eX.T4 prog w A I wr items St
 self:eX.T5 prog w A I St
noncomputable def pB(T:String):Bool:=!["enumerate","zip","dict_itemiterator","dict_reverseitemiterator","odict_iterator","itertools.zip_longest","itertools.pairwise"].contains T
set_option backward.match.sparseCases true in
theorem wb{prog:Program}{w:cD}{o:Obj}{T:String}(ho:s.heap.get? I=some o)(hc:o.cls=.type T)(hT:pB T=true)(tgt:Expr){Q:Unit->Shared->Prop}(h:Q () s):
  au (model prog w) A (gC tgt (.ref I) v) Q E s:=by
 have main:au (model prog w) A (do
   let(.ref r,.ref a):=(lK I,v)|return
   let o<-load r
   match o.cls,o.data with
   |.type n,.fields vs=>
    if ["enumerate","zip","dict_itemiterator","dict_reverseitemiterator","odict_iterator","itertools.zip_longest","itertools.pairwise"].contains n&&vs[0]? ==some (fN a) then
     rule "for.unpacks-the-owned-tuple"
     updateField r 0 .none
   |_,_=>pure ()) Q E s:=by
  cases v<;>try exact ab h
  dsimp only
  refine aI<|wpAny_load ho ?_
  rw[hc]
  have hT':["enumerate","zip","dict_itemiterator","dict_reverseitemiterator","odict_iterator","itertools.zip_longest","itertools.pairwise"].contains T=false:=by simpa[pB] using hT
  cases o.data<;>dsimp only<;>try exact ab h
  rw[hT']
  simp only[Sh,dc,if_false]
  exact ab h
 cases tgt<;>first|exact ab h|exact main
theorem eX.plain{prog:Program}{w:cD}{p:List Addr}{P:Nat->Value->Prop}{St:Nat->Heap->Prop}{items:List SV}{T:String}(W:Walks prog w A I p [I] n P St)(N:items.length=n)
  (y:pB T=true) (t:∀i h,St i h->∃o,h.get? I=some o/\o.cls=.type T)
  (m:G I=none) (f:∀b∈p,b=I\/∃o,G b=some o) (r:∀i x v,items[i]? =some x->P i v->RV Z G c x v):
  eX prog w Z A I [I] items G c false (λi h=>St i h/\∀b o,G b=some o->h.get? b=some o) where
 frame i h h' st k:=⟨W.frame i h h' st.1 λb H o e=>by
  rcases f b H with rfl|⟨L,l⟩
  ·exact k b o (.inl<|by simp) e
  ·have:=st.2 b L l;rw[e] at this;obtain rfl:=aa this;exact k b o (.inr l) e,λb o e=>k b o (.inr e)<|st.2 b o e⟩
 there i h st b H:=by obtain rfl:=aD.mp H;refine dn (t i h st.1) λo O z=>⟨o,O⟩
 item i x s Q E tgt hx _ st hQ:=by
  refine dn (t _ _ st.1) λoI D z=>W.item i s Q E (by rw[<-N];exact(af.mp hx).1) st.1 λv h' M V a k=>?_;have d:∀b o,G b=some o->h'.get? b=some o:=by
   intro b o e;by_cases H:b=I
   ·rw[H,m] at e;exact aR e
   ·exact k b o (by simpa using H)<|st.2 b o e
  refine hQ v h' M k (λg' U B j z=>(r i x v hx V).mono ⟨B,j⟩) (λb H=>?_) λQ' Y J=>?_
  ·obtain rfl:=aD.mp H;refine dn (t _ _ a) λo O z=>⟨o,O⟩
  ·refine dn (t _ _ a) λo O C=>wb O C y tgt (J h' (λz z z e=>e) ⟨a,d⟩)
 done s Q E st hQ:=W.done s Q E (N▸st.1) hQ
 self i s Q E st hQ:=W.self i s Q E st.1 hQ
end
section
variable{Z:dg}{st:List SO}{g fx:FH}{ρ:dM}{s:Shared}{A:bq}{E:Value->Shared->Prop}
abbrev qU(Z:dg)(A:bq)(st:List SO)(items:List SV)(tup:Bool)(g fx:FH)(ρ:dM)(s:Shared)(Q:Value->Shared->Prop):Prop:=
 ∀G h k I w t,dG g ρ G ρ->bR Z st G (over fx w h) ρ {s with heap:=h,toks:=k}->(∀b∈w,s.heap.get? b=none)->eX Z.prog Z.w Z A I w items G ρ tup t->t 0 h->Q (.ref I) {s with heap:=h,toks:=k}
def rE(Z:dg)(A:bq)(t:xM Value)(st:List SO)(items:List SV)(tup:Bool)(g fx:FH)(ρ:dM)(s:Shared):Prop:=
 ∀E Q,qU Z A st items tup g fx ρ s Q->au (Mo Z) A t Q E s
theorem rE.plain(S:bR Z st g fx ρ s){t:xM Value}{items:List SV}{T:String}{I:Obj}{c:List Addr}{P:Nat->Value->Prop}{St:Nat->Heap->Prop}
  (m:∀(E:Value->Shared->Prop)(Q:Value->Shared->Prop),Q (.ref s.heap.objs.size) {s with heap:=s.heap.push I}->au (Mo Z) A t Q E s)
  (W:Walks Z.prog Z.w A s.heap.objs.size c [s.heap.objs.size] n P St) (N:items.length=n) (k:pB T=true) (y:∀i h,St i h->∃o,h.get? s.heap.objs.size=some o/\o.cls=.type T)
  (p:∀b∈c,b=s.heap.objs.size\/∃o,g b=some o) (j:∀g' i x v,dG g ρ g' ρ->items[i]? =some x->P i v->RV Z g' ρ x v) (d:St 0 (s.heap.push I)):rE Z A t st items false g fx ρ s:=by
 intro E Q r
 refine m E Q ?_
 have l:∀b o,s.heap.get? b=some o->(s.heap.push I).get? b=some o:=b8
 have f:∀b∈[s.heap.objs.size],s.heap.get? b=none:=λb H=>by obtain rfl:=aD.mp H;exact bA _
 have a:=S.enter s.toks l f
 have X:dG g ρ (dO Z g s.heap (s.heap.push I) λb=>decide<|b∈[s.heap.objs.size]) ρ:=aX
 have G:(dO Z g s.heap (s.heap.push I) λb=>decide<|b∈[s.heap.objs.size]) s.heap.objs.size=none:=by unfold dO;rw[(S.fresh<|bA _).1];simp
 refine r _ _ s.toks _ _ _ X a f (eX.plain W N k y G (λb H=>(p b H).imp id<|aA λz=>X.g _ _) λi x v=>j _ i x v X) ⟨d,λb o e=>?_⟩
 exact a.keep b o e
theorem Bg(j:A.handled=none)(S:bR Z st g fx ρ s){xs:List SV}(r:RV Z g ρ (.tup xs) x):rE Z A (jL x) st xs false g fx ρ s:=by
 refine nZ r λa V n c H e=>?_;subst c;have L:s.heap.IsTuple a V:=⟨_,S.keep _ _ H,rfl,n,rfl⟩;have l:=bW<|S.keep _ _ H;refine rE.plain S (λE Q h=>wpAny_pyIter_tuple L h) (Walks.tuple j _ a (bN l) V) (by rw[<-e.length,aL]) (by decide) (λi h st=>st.1.imp λz h=>⟨h.1,h.2.1⟩)
  (λb B=>by
   rcases zx B with rfl|rfl
   ·exact .inl rfl
   ·exact .inr ⟨_,H⟩) (λG i x v X m k=>?_) ⟨⟨_,dH,rfl,rfl⟩,L.push _⟩
 refine dn (e.get m) λp d f=>?_;rw[bh,k] at d;obtain rfl:=aa d;exact f.mono X
theorem Bh(j:A.handled=none)(S:bR Z st g fx ρ s){xs:List SV}(r:RV Z g ρ (.lst xs) x):rE Z A (jL x) st xs false g fx ρ s:=by
 refine nZ r λa V n c H e=>?_;subst c;have L:s.heap.IsList a V:=⟨_,S.keep _ _ H,rfl,n,rfl⟩;have l:=bW<|S.keep _ _ H;refine rE.plain S (λE Q h=>xc L h) (G5 j _ a (bN l) V) (by rw[<-e.length,aL]) (by decide) (λi h st=>st.1.imp λz h=>⟨h.1,h.2.1⟩)
  (λb B=>by
   rcases zx B with rfl|rfl
   ·exact .inl rfl
   ·exact .inr ⟨_,H⟩) (λG i x v X m k=>?_) ⟨⟨_,dH,rfl,rfl⟩,L.push _⟩
 refine dn (e.get m) λp d f=>?_;rw[bh,k] at d;obtain rfl:=aa d;exact(f.mono X.nil).mono<|dG.i7 _ _
theorem HJ(D:A.handled=none)(S:bR Z st g fx ρ s){xs:List Int}(l:xs.length<=1)(r:RV Z g ρ (.cY xs) x):rE Z A (jL x) st (xs.map .int) false g fx ρ s:=by
 refine OZ r λa B n t d O G=>?_;subst d;have H:=S.keep _ _ O;have L:=bW H;have f:B.size<=1:=by rw[G.size];exact l
 refine rE.plain S (λE Q h=>x8 (.inl rfl) H G.g f h) (Walks.fs D (.inl rfl) _ a (bN L) G.g f) (by rw[ag,G.size]) (by decide) (λi h st=>st.2.2.elim λu z=>z.1.imp λu h=>⟨h.1,h.2.1⟩)
  (λb C=>by
   rcases zx C with rfl|rfl
   ·exact .inl rfl
   ·exact .inr ⟨_,O⟩) (λN i x v X w V=>?_) ⟨dW _,aq _ H,0,⟨_,dH,rfl,rfl⟩,.inr ⟨λu=>rfl,λz=>(nomatch z)⟩⟩
 rw[ai,be] at w;refine dn w λj J c=>?_;subst c;refine dn (be.mp V) λe m c=>?_;subst c;obtain⟨k,M,rfl,p⟩:=G.g.each e (by rw[<-bh] at m;exact aH m);have I:i=0:=by have:=(af.mp J).1;exact abl l this
 have:k=j:=by
  rcases Ib l with e|⟨y,e⟩<;>rw[e,I] at J<;>rw[e] at p
  ·exact aR J
  ·rw[aD.mp p];exact aa J
 subst this;exact⟨M,rfl⟩
theorem JK(prog:Program)(w:cD):KeysOf (eV prog w) (#[]:Array DictEntry):=λe h=>absurd (uM h) aJ
theorem Hc{n:DictEntry}{es:List DictEntry}(h:∃k,(eV prog w).is k n.key=true/\n.hash=(eV prog w).hash k)(q:KeysOf (eV prog w) es.toArray):KeysOf (eV prog w) (n::es).toArray:=λz H=>
 (aQ.mp<|uM H).elim (λe=>e▸h) λH=>q z (by simpa using H)
theorem Iz{g:FH}:∀{is:List Int}{es:List DictEntry}{D:List PyData},iL k=some is->dD Z g [] k (es.map (·.key))->eQ k=some D->es.map (·.hash)=D.map (dT w)->
  KeysOf (eV prog w) es.toArray/\Pairs (eV prog w) es (is.zip<|es.map (·.val))/\is.length=es.length/\D=is.map .int:=by
 induction k with
 |nil=>intro is es D e r b H;obtain rfl:=aa e;obtain rfl:=aa b;obtain rfl:=q7.mp r;exact I9 (JK prog w) (.nil) rfl rfl
 |cons x k z=>
  intro is es D e r b H;refine av e λi I e=>cR e λM l J=>gA I λy=>av b λd t b=>cR b λj p c=>?_;subst y J c;obtain rfl:=aa t;obtain⟨v,V,a,⟨N,rfl⟩,L⟩:=r;cases es with
  |nil=>exact kj rfl<|heq_of_eq a
  |cons n m=>
   have a:=gO a;have H:=gO H;refine x04 (z l (a.2▸L) p H.2) λQ B C G=>?_;have h:(eV prog w).is i n.key=true:=by rw[show n.key=_ from a.1];exact ll _ _ _ _
   exact I9 (Hc ⟨i,h,H.1⟩ Q) (.cons h rfl B) (congrArg je C)<|congrArg _ G
theorem DW{is:List Int}(h:(is.map j3).Nodup):is.Nodup:=by unfold List.Nodup at *;rw[List.pairwise_map] at h;exact h.imp λh e=>h (by rw[e])
theorem t6(X:fZ Z g ρ s D k vs es n)(e:iL k=some is):s.heap.DictAt (eV Z.prog Z.w) D (is.zip<|es.map (·.val)) n/\(is.zip<|es.map (·.val)).length=is.length/\es.length=is.length:=by refine eS X.ok λd K=>x04 (Iz (prog:=Z.prog) e X.keys K.py K.hash) λa b Q c=>?_;have h:(is.zip<|es.map (·.val)).map (·.1)=is:=nD (by simp[Q]);refine⟨⟨_,es.toArray,X.at_,⟨rfl,rfl,rfl⟩,rfl,a,b,?_⟩,by rw[Oz,ag,Q,CV],Q.symm⟩;rw[h];have:=K.nodup;rw[c] at this;exact DW this
set_option tactic.hygienic true in
theorem KV(C:A.handled=none)(S:bR Z st g fx ρ s){c vs:List SV}{is:List Int}(e:iL c=some is)(r:RV Z g ρ (.fW c vs) x):rE Z A (jL x) st c false g fx ρ s:=by
 refine x36 r λa t n p O I M N U=>?_;subst p;have X:fZ Z g ρ s a c vs t n:=⟨S.keep _ _ O,I,M.i7,N,U⟩;refine nK (t6 X e) λD L z=>?_;have l:=D.lt_size;refine rE.plain S (λE Q h=>wpAny_pyIter_dict (s8 X) D h) (Walks.dictKeys C _ a (bN l) _ n) (by rw[L,tg e,ag]) (by decide) (λi h st=>st.1.imp λz h=>⟨h.1,h.2.1⟩)
  (λb B=>by
   rcases zx B with rfl|rfl
   ·exact .inl rfl
   ·exact .inr ⟨_,O⟩) (λY i x v X w V=>?_) ⟨⟨_,dH,rfl,rfl⟩,D.push _⟩
 refine pg V λk y G d=>?_;rw[tg e,ai,be] at w;refine dn w λj J f=>?_;subst f;have:k=j:=by
  have H:((is.zip<|t.map (·.val)).map (·.1))[i]? =some k:=by rw[ai,G];rfl
  rw[nD (by simp;exact dK<|id<|ck<|by assumption)] at H;rw[J] at H;obtain rfl:=aa H;rfl
 subst this;cases v<;>simp only[eV,mq] at d<;>(try cases d);rename_i m tk
 have:m=k:=by simpa using d
 subst this;exact⟨tk,rfl⟩
theorem vh(a b:Int):dj a b (-1)=if a>b then a-b else 0:=by
 unfold dj;rw[if_neg<|by decide];split
 ·simp only[Int.neg_neg,Int.ediv_one];omega
 ·rfl
theorem vL(d:A.handled=none)(S:bR Z st g fx ρ s){t u v:Tok}(e:IsRange s.heap r a b c t u v)(f:hW a b c=true){items:List SV}(k:(items.length:Int)=dj a b c)
  (H:∀(i:Nat)(x:SV),items[i]? =some x->x=SV.int (a+(i:Int)*c)):rE Z A (jL<|.ref r) st items false g fx ρ s:=by
 refine rE.plain (T:="range_iterator") S (λE Q h=>wpAny_pyIter_range e f h) (Walks.range d s.heap.objs.size a c items.length) rfl (by decide) (λi h st=>?_)
  (λb B=>by simp only[aD] at B;exact .inl B) (λG i x v X j V=>?_) ?_
 ·exact⟨_,st,rfl⟩
 ·refine eS V λt z=>?_;subst z;rw[H i x j];exact⟨t,rfl⟩
 ·have:=dH (h:=s.heap) (o:={cls:=.type "range_iterator",dict:=none,data:=.fields #[fN a,fN<|dj a b c,fN c],slots:=#[]});rw[<-k] at this ⊢;simpa using this
theorem Q4{xs:List SV}{i:Nat}{x:SV}(h:(xs.zipIdx.map λp=>SV.tup [.int p.2,p.1])[i]? =some x):∃y,xs[i]? =some y/\x=.tup [.int i,y]:=by rw[ai,be] at h;obtain⟨⟨y,j⟩,H,rfl⟩:=h;rw[kM,be] at H;obtain⟨Y,H,e⟩:=H;cases e;exact⟨y,H,by simp⟩
theorem nm2(h:b∉[x,y]):b≠x/\b≠y:=⟨λe=>h (e▸aw ..),λe=>h<|e▸ay _ (aw ..)⟩
theorem m22:y∈[x,y]:=ay _ (aw ..)
theorem PE{h:Heap}{w:List Addr}(k:∀b∈w,∃o,h.get? b=some o):h.objs.size∉w:=λm=>(k _ m).elim λz e=>aR<|(bA h).symm.trans e
abbrev WZ(l it:Addr)(vs:Array Value)(n:Nat)(i:Nat)(h:Heap):Prop:=(∃d,IsEnum h (it+1) it i d)/\h.IsListIter it l i/\h.get? l=some (lV vs n)
theorem B3(l it:Addr)(vs:Array Value)(n:Nat):eX.T2 [it+1,it] (WZ l it vs n):=λi h st b H=>by
 rcases zx H with rfl|rfl
 ·exact st.1.elim λz h=>⟨_,h⟩
 ·exact st.2.1.elim λz h=>⟨_,h.1⟩
theorem Q5{l it:Addr}{vs:Array Value}{n:Nat}{G:FH}{j:dM}{xs:List SV}(rs:dD Z G [] xs vs.toList)(L:l≠it+1)(I:l≠it):eX.T3 Z.prog Z.w Z A (it+1) [it+1,it] (xs.zipIdx.map λp=>.tup [.int p.2,p.1]) G j true (WZ l it vs n):=λi x c Q E tgt hx U st hQ=>by
 refine Sn (U rfl) λV k p N=>?_;subst N;refine dn (Q4 hx) λy hj M=>?_;subst M;refine dn (rs.get hj) λv q1 q2=>?_;rw[bh] at q1;have D:=PE<|B3 l it vs n i _ st;obtain⟨⟨old,h1⟩,h2,Y⟩:=st;refine wpAny_pyNext_enum_item h1 h2 ⟨_,Y,rfl,n,rfl⟩ q1 (Oq it) λm O t d C a=>hQ _ m (c.toks+1) (λb o B e=>a b o (nm2 B).1 (nm2 B).2 e) (λg' dp hg z w=>?_) (λb B=>?_) λQ' E' J=>?_
 ·exact⟨_,_,_,rfl,w _ _ D (bA _) d,_,_,rfl,⟨c.toks,rfl⟩,_,_,rfl,(q2.mono ⟨hg,[],rfl⟩).mono<|dG.i7 _ _,rfl⟩
 ·rcases zx B with rfl|rfl
  ·exact⟨_,O⟩
  ·exact t.elim λz h=>⟨_,h.1⟩
 ·exact wpAny_letOwnedTupleGo_enum O λr f H=>J r (λb o B e=>(H.2 b (nm2 B).1).trans e) ⟨⟨_,f⟩,t.at λo y=>(H.2 it (Oq it).symm).trans y,(H.2 l L).trans<|a l _ L I Y⟩
theorem Iv(v:A.handled=none){vs:Array Value}(C:dD Z G [] xs vs.toList)(t:G l=some (lV vs n))(e:xs.length=vs.size)(L:l≠it+1)(I:l≠it):eX Z.prog Z.w Z A (it+1) [it+1,it] (xs.zipIdx.map λp=>.tup [.int p.2,p.1]) G f true (WZ l it vs n) where
 frame:=λi h j st k=>⟨st.1.elim λd H=>⟨d,k _ _ (.inl (aw ..)) H⟩,st.2.1.at λo x=>k it o (.inl m22) x,k _ _ (.inr t) st.2.2⟩
 there:=B3 l it vs n
 item:=Q5 C L I
 done:=λa Q E st c=>by obtain⟨⟨d,H⟩,m,r⟩:=st;rw[ag,sy,e] at H m;exact wpAny_pyNext_enum_end v H m ⟨_,r,rfl,n,rfl⟩ (gQ<|aF _) λj w=>c j a.toks λb o B y=>w b o (nm2 B).2 y
 self:=λi a Q E st c=>st.1.elim λz H=>wpAny_pyIter_enum H c
theorem HK(i:A.handled=none)(S:bR Z st g fx ρ s)(r:RV Z g ρ (.lst xs) x):
  ∀E Q,qU Z A st (xs.zipIdx.map λp=>.tup [.int p.2,p.1]) true g fx ρ s Q->au (Mo Z) A (call (.type "enumerate") [x]) (λe a=>au (Mo Z) A (jL e) Q E a) E s:=λE Q j=>by
 refine nZ r λl v n z O c=>?_
 subst z
 have h:=S.keep _ _ O
 have t:=bW h
 refine call_enumerate_1 h λd H I m k=>wpAny_pyIter_enum H ?_
 have f:∀b∈[s.heap.objs.size+1,s.heap.objs.size],s.heap.get? b=none:=λb B=>by
  cases q:s.heap.get? b with
  |none=>rfl
  |some o=>exact absurd (bW q)<|(zx B).elim (λe=>e▸sM.mpr (iJ _)) λe=>e▸b0 _
 have X:dG g ρ (dO Z g s.heap d λb=>decide<|b∈[s.heap.objs.size+1,s.heap.objs.size]) ρ:=aX
 exact j _ _ s.toks _ _ _ X (S.enter s.toks k f) f (Iv i (c.mono X.nil) (X.g _ _ O) (by rw[<-c.length,aL]) (bN<|dX t)<|bN t) ⟨⟨_,H⟩,I,k _ _ h⟩
theorem qU.grow{h':Heap}(k:∀b o,s.heap.get? b=some o->h'.get? b=some o)(d:qU Z A st items tup g fx ρ s Q):
  qU Z A st items tup (mG Z g s.heap h') fx ρ {s with heap:=h',toks:=i} Q:=
 λG h e I w c X a f L H=>d G h e I w c (aX.trans X) a (λb B=>by
  cases q:s.heap.get? b with
  |none=>rfl
  |some o=>have:=k _ _ q;rw[f b B] at this;exact aR this) L H
theorem qm(h: -10000<=i)(H:i<=10000):jP i=true:=by unfold jP;rw[decide_eq_true<|cw (by decide) h,decide_eq_true<|jl H<|by decide];rfl
theorem UJ{n:Int}(h:n.natAbs<=4000): -4000<=n/\n<=4000:=NG h
theorem ads{a b:Int}(h:a.natAbs<=4000)(H:b.natAbs<=4000):((a-b).toNat:Int)<=10000:=fG.mpr<|C3.mpr<|cw (Int.sub_le_sub (UJ h).2 (UJ H).1)<|by decide
theorem xS{n:Int}(h:n.natAbs<=dI):hW 0 n 1=true/\dj 0 n 1=(n.toNat:Int):=by
 have r:dj 0 n 1=n.toNat:=by
  rw[rangeSize_one];split
  ·next q=>rw[Int.sub_zero,i3<|C5 q]
  ·next q=>rw[NW.mpr<|oh.mp q];rfl
 refine⟨?_,r⟩;have H:=UJ h;have fn:=qm (cw (by decide) H.1) (cw H.2<|by decide);have f:=qm (cw (by decide)<|jk _) (fG.mpr<|C3.mpr<|cw H.2<|by decide);unfold hW;rw[r];simp only[qm (i:=0) (by decide) (by decide),fn,qm (i:=1) (by decide) (by decide),f,show(1:Int)>0 by decide,if_true,dr,g7,decide_eq_true_eq,beq_iff_eq,true_and,and_true];exact .inr<|qm (by rw[show n+(1-1)=n from Int.add_zero n];exact cw (by decide) H.1) (by rw[show n+(1-1)=n from Int.add_zero n];exact cw H.2<|by decide)
theorem C6{a b:Int}(h:a.natAbs<=dI)(H:b.natAbs<=dI):hW a b (-1)=true/\dj a b (-1)=((a-b).toNat:Int):=by
 have r:dj a b (-1)=((a-b).toNat:Int):=by
  rw[vh];split
  ·next q=>rw[i3<|Int.sub_nonneg_of_le<|C5 q]
  ·next q=>rw[NW.mpr<|Int.sub_nonpos_of_le<|oh.mp q];rfl
 refine⟨?_,r⟩;unfold dI at h H;have c:=qm (cw (by decide) (UJ h).1) (cw (UJ h).2<|by decide);have B:=qm (cw (by decide) (UJ H).1) (cw (UJ H).2<|by decide);have fn:=qm (cw (by decide)<|jk _)<|ads h H;have f:jP (-1)=true:=qm (by decide) (by decide);unfold hW;rw[r];simp only[c,B,fn,f,show ¬((-1:Int)>0) by decide,if_false,dr,g7,decide_eq_true_eq,beq_iff_eq,true_and,and_true];exact .inr<|qm (by omega)<|by omega
theorem Bk{f:Nat->SV}(h:((ak n).map f)[i]? =some x):x=f i:=by rw[ai] at h;exact cR h λj J b=>by obtain⟨a,H⟩:=af.mp J;rw[b3] at H;rw[<-b,H]
theorem HL(m:A.handled=none)(S:bR Z st g fx ρ s)(N:ik≠.over)(J:ik≠.zip)(e:jX ik vs=some items)(r:dD Z g ρ vs xs):
  ∀E Q,qU Z A st items (uQ ik) g fx ρ s Q->au (Mo Z) A (call (.type<|Lu ik) xs) (λx f=>au (Mo Z) A (jL x) Q E f) E s:=by
 intro E Q p
 cases ik with
 |over=>exact absurd rfl N
 |zip=>exact absurd rfl J
 |fH=>refine av e λv h1 e=>av e λn h2 e=>iZ e λl h=>jq h1 λh1=>gA h2 λh2=>?_;subst h1 h2 h;obtain⟨x,j,rfl,⟨t,rfl⟩,d⟩:=r;obtain rfl:=d;refine i9 (xS<|eW l) λB C=>call_range_1 ?_;have k:∀b o,s.heap.get? b=some o->(s.heap.push {cls:=.type "range",data:=.fields #[.int 0 s.toks,.int n t,.int 1<|s.toks+1]}).get? b=some o:=b8;exact vL m (S.grow (s.toks+1+1) k) dH B (by rw[C,ag,ar]) (λi x w=>(Bk w).trans<|congrArg SV.int<|by omega) E Q<|p.grow k
 |m8=>refine av e λv h1 e=>av e λa h2 e=>av e λb h3 e=>av e λc H e=>iZ e λl h=>cn l λl hb=>cn l λI G=>Uc h1 λh1=>gA h2 λh2=>gA h3 λh3=>gA H λH=>?_;obtain rfl:=beq_iff_eq.mp I;rw[h2,h3,H] at h1;subst h1 h;obtain⟨x,j,rfl,⟨t,rfl⟩,y,Y,rfl,⟨u,rfl⟩,z,M,rfl,⟨v,rfl⟩,d⟩:=r;obtain rfl:=d;refine i9 (C6 (eW G)<|eW hb) λB C=>call_range_3 (by decide) ?_ (.inl<|yO<|by decide);have k:∀c o,s.heap.get? c=some o->(s.heap.push {cls:=.type "range",data:=.fields #[.int a t,.int b u,.int (-1) v]}).get? c=some o:=b8;exact vL m (S.grow s.toks k) dH B (by rw[C,ag,ar]) (λi x w=>(Bk w).trans<|congrArg SV.int<|by omega) E Q<|p.grow k
 |enum=>refine av e λv h1 e=>cR e λxs h2 h=>jq h1 λh1=>Wu h2 λh2=>?_;subst h1 h2 h;refine iz r λx j D L d=>?_;subst D;obtain rfl:=d;exact HK m S L E Q p
end
structure TC where
 gl:Str->Option Value
 ns:List (Str×cj)
 at_:Str->Nat
 nst:Str->Nat
 uq:Addr
noncomputable def v7:ao->Option Str|.Name x _=>some x|_=>none
noncomputable def yB:ao->Option (ao×Str×Pos)|.Attribute o a p=>some (o,a,p)|_=>none
noncomputable def GD:ao->Option (ao×List ao×List Keyword)|.Call f args k _=>some (f,args,k)|_=>none
noncomputable def r4:ao->Option (List ao)|.List es _=>some es|_=>none
noncomputable def y5:ao->Option (List ao)|.Tuple es _ _=>some es|_=>none
noncomputable def vI:ao->Option (Option ao×Option ao×Option ao)|.Slice l u s _=>some (l,u,s)|_=>none
noncomputable def Ez:ao->Option Const|.Constant k _ _=>some k|_=>none
noncomputable def Yi:ao->Option ao|.UnaryOp .USub e _=>some e|_=>none
noncomputable def adk:Const->Option Str|.str s=>some s|_=>none
noncomputable def YC:Const->Bool|.int i=>i==1|_=>false
def wc(e:ao):Bool:=((Yi e).bind Ez).any YC
def Uk(e:ao):Option Str:=(Ez e).bind adk
noncomputable def TA:ao->Bool|.Starred ..=>true|_=>false
noncomputable def XC:ao->Bool|.Set ..=>true|_=>false
def bD(e:ao):Bool:=!TA e
def eJ(e:ao):Bool:=!XC e
def rW(e:ao):Bool:=(vI e).isNone
def rC(e:ao):Bool:=(yB e).isNone
def jQ(e:ao):Bool:=(v7 e).isSome
def BJ(e:ao):Bool:=(v7 e).any λx=>x==("super":Str)
def ip(e:ao):Bool:=(GD e).any λq=>BJ q.1&&q.2.1.isEmpty&&q.2.2.isEmpty
noncomputable def U3:ao->Bool
 |.ListComp ..=>true
 |.SetComp ..=>true
 |.DictComp ..=>true
 |_=>false
def rX(e:ao):Bool:=!U3 e
noncomputable def oM:cj->Bool|.local=>true|.cell=>true|.free=>true|_=>false
noncomputable def oK:cj->Bool|.local=>true|.cell=>true|_=>false
noncomputable def F8:cj->Bool|.globalImplicit=>true|_=>false
noncomputable def F9:cj->Bool|.free=>true|_=>false
noncomputable def zI:cj->Bool|.cell=>true|.free=>true|_=>false
noncomputable def ob:Option E->E|some t=>t|none=>.bad
noncomputable def UG:Option S->S|some t=>t|none=>.bad
noncomputable def yn(c:TC):Value->E
 |.int i _=>.int i
 |.str s _=>.str s
 |.ref a=>match a==c.uq with
  |true=>.xD
  |false=>.glob<|.ref a
 |_=>.bad
def BP(c:TC)(x:Str)(k:cj):Option Value:=(gd (F8 k) ()).bind λz=>c.gl x
def rY(c:TC)(x:Str):E:=ob ((eu x c.ns 0).map λp=>match oM p.2 with
 |true=>.loc p.1
 |false=>ob<|(BP c x p.2).map<|yn c)
noncomputable def bOf:Value->Option (Bool×String)
 |.builtin b=>some (true,b)
 |.type b=>some (false,b)
 |_=>none
def b5(c:TC)(e:ao):Option (Bool×String):=(v7 e).bind λx=>(eu x c.ns 0).bind λp=>(BP c x p.2).bind bOf
noncomputable def opE:xi->Option OP
 |.Add=>some .add|.Sub=>some .sub|.Mult=>some .mul|.FloorDiv=>some .fdiv|.Mod=>some .mod|.Pow=>some .pow|.BitOr=>some .bor|_=>none
noncomputable def zF:xi->Bool|.Mult=>true|_=>false
noncomputable def IF:PySem.CmpOp->CM
 |.Eq=>.eq|.NotEq=>.ne|.Lt=>.lt|.LtE=>.le|.Gt=>.gt|.GtE=>.ge|.Is=>.is|.IsNot=>.jt|.In=>.isIn|.NotIn=>.jr
def iN(c:TC)(s:Scope):List (Option Nat):=s.names.map λp=>match F9 p.2 with
 |true=>(eu p.1 c.ns 0).map (·.1)
 |false=>none
noncomputable def LG{c d:Type}(f:c->Option d):List c->Option (List d)
 |[]=>some []
 |a::l=>(f a).bind λb=>(LG f l).map (b::·)
def Fk(c:TC)(e:ao):Option Nat:=(v7 e).bind λx=>(eu x c.ns 0).bind λp=>gd (oK p.2) p.1
def vw(c:TC)(e:ao):Option TN:=match y5 e with
 |some s=>(LG (Fk c) s).map TN.many
 |none=>(Fk c e).map TN.one
noncomputable def H7:E->Option Nat|.loc i=>some i|_=>none
def nP(c:TC)(t:E)(e:ao):E:=match (v7 e).bind λx=>H7 (rY c x) with
 |some i=>.oR i
 |none=>t
def Cb(t:List (Str×cj))(p:Str×cj):Bool:=match p.2 with
 |.local=>true
 |.globalImplicit=>true
 |.free=>(eu p.1 t 0).any λq=>zI q.2
 |_=>false
noncomputable def s6(x:Str):Bool:=!(x==("__debug__":Str))&&!(x==("__classdict__":Str))
def nt(t n:List (Str×cj)):Bool:=n.all (Cb t)&&decide (n.map (·.1)).Nodup&&n.all λp=>s6 p.1
noncomputable def TB:ScopeKind->Bool|.function=>true|_=>false
def rP(c:TC)(s:Scope):Bool:=nt c.ns s.names&&TB s.kind
def vX(t e:ao):Bool:=rX e||!jQ t
def Lr(t e:ao):Bool:=((y5 t).isNone&&(r4 t).isNone)||(y5 e).isNone
noncomputable def mz(vs:List ao):Bool:=vs.all (foldedForSure 8)||!vs.all (constantsAlone 8)
noncomputable def C8:BI->Bool×String
 |.len=>(true,"len")|.list=>(false,"list")|.tuple=>(false,"tuple")|.sorted=>(true,"sorted")|.ja=>(true,"sorted")|.cY=>(false,"frozenset")|.int=>(false,"int")
 |.max=>(true,"max")|.min=>(true,"min")|.j7=>(false,"dict")|.qI=>(false,"list")
noncomputable def vU:BI->Bool
 |.list=>false|.ja=>false|.j7=>false|.qI=>false|_=>true
def zr(b:Bool×String):Option BI:=[BI.len,.tuple,.cY,.int,.max,.min].find? λi=>vU i&&C8 i==b
def mx(c:TC)(nm:String)(e:ao):Option (List ao):=(GD e).bind λq=>gd (q.2.2.isEmpty&&b5 c q.1==some (false,nm)&&q.2.1.all bD) q.2.1
def zE(c:TC)(e:ao):Option (IK×List ao):=(GD e).bind λq=>(gd (q.2.2.isEmpty&&q.2.1.all bD) ()).bind λz=>
 ([IK.fH,.m8,.enum,.zip].find? λi=>b5 c q.1==some (false,Lu i)&&q.2.1.length==nIK i).map λi=>(i,q.2.1)
noncomputable def zG:IK->Bool|.enum=>true|_=>false
noncomputable def trK:Const->E
 |.none=>.none|.bool b=>.bool b|.int i=>.int i|.str s=>.str s|_=>.bad
def Ra(s:List (Option ao))(vs:List ao):Option (Str×Str):=(one s).bind λk=>k.bind λk=>(Uk k).bind λa=>(one vs).bind λv=>(Uk v).map λb=>(a,b)
def Dm(m:Bool)(k:List (Option ao))(vs:List ao):E:=match k.isEmpty&&vs.isEmpty with
 |true=>.fM m
 |false=>ob<|(Ra k vs).map λp=>.B6 p.1 p.2
noncomputable def eB(c:TC)(s:Scope):TC:={c with ns:=s.names}
mutual
noncomputable def fB:Nat->TC->Bool->ao->E
 |0,_,_,_=>.bad
 |n+1,c,m,e=>match e with
  |.Constant k _ _=>trK k
  |.Name x _=>rY c x
  |.Tuple es _ _=>ob<|gd (es.all bD)<|.tup<|es.map<|fB n c m
  |.List es _=>ob<|gd (es.all bD)<|.list m<|es.map<|fB n c m
  |.Dict ks vs _=>Dm m ks vs
  |.Attribute o a _=>ob<|gd (!ip o&&decide (c.at_ a<gT))<|.attr (fB n c false o)<|c.at_ a
  |.Subscript v s _=>match vI s with
   |some q=>match q.1,q.2.1,q.2.2 with
    |none,none,some e=>ob<|gd (wc e)<|.vJ<|fB n c false v
    |none,some u,none=>.i5 (fB n c false v)<|fB n c false u
    |some l,none,none=>.i6 (fB n c false v)<|fB n c false l
    |_,_,_=>.bad
   |none=>.sub (fB n c false v)<|fB n c false s
  |.BinOp l op r _=>match (gd (zF op) ()).bind λz=>r4 l with
   |some es=>ob<|(one es).bind λx=>gd (bD x)<|.rep m (fB n c false x)<|fB n c false r
   |none=>ob<|(opE op).map λo=>.bin o (fB n c false l)<|fB n c false r
  |.BoolOp op es _=>ob<|gd (!es.isEmpty) (match op with|.And=>.and (es.map<|fB n c false)|.Or=>.or (es.map<|fB n c false))
  |.UnaryOp op e _=>match op with
   |.Not=>.not<|fB n c false e
   |.USub=>.neg<|fB n c false e
   |_=>.bad
  |.Compare l w rs _=>match xo w with
   |none=>ob<|(one w).bind λo=>(one rs).bind λr=>gd (eJ r)<|.cmp (IF o) (fB n c false l)<|fB n c false r
   |some o=>ob<|(xo rs).bind λr=>gd (eJ r.2)<|.Ae (IF o.1) (IF o.2) (fB n c false l) (fB n c false r.1)<|fB n c false r.2
  |.IfExp t b o _=>.ite (fB n c false t) (fB n c m b)<|fB n c m o
  |.Call f args Y pos=>ob ((gd (Y.isEmpty&&args.all bD) ()).bind λz=>match yB f with
   |some q=>(gd (!ip q.1&&decide (c.at_ q.2.1<gT)&&q.2.2.endLine==pos.line&&decide (args.length<30)) ()).bind λz=>match c.at_ q.2.1==uW with
    |true=>(one args).map λe=>.bj (fB n c false q.1) (c.at_ q.2.1) [nP c (fB n c true e) e]
    |false=>some<|.bj (fB n c false q.1) (c.at_ q.2.1)<|args.map<|fB n c<|c.at_ q.2.1==ma
   |none=>match b5 c f with
    |some b=>some<|trB n c b args
    |none=>some<|.call (fB n c false f)<|args.map<|fB n c false)
  |.ListComp L G C _=>ob ((gd (rP c C) ()).bind λz=>match xo G with
   |none=>(one G).bind λg=>(gd (g.is_async==0) ()).bind λz=>(vw (eB c C) g.target).bind λN=>(Dl n c g.iter).map λp=>
     .comp (m&&(r4 L).isSome) (iN c C) (fB n (eB c C) (m&&(r4 L).isSome) L) N p.1 p.2 (g.ifs.map<|fB n (eB c C) false)
   |some g=>(gd (g.1.is_async==0&&g.2.is_async==0&&g.1.ifs.isEmpty&&g.2.ifs.isEmpty&&eJ g.2.iter) ()).bind λz=>
     (vw (eB c C) g.1.target).bind λN=>(vw (eB c C) g.2.target).bind λtn2=>(Dl n c g.1.iter).map λp=>
     .Cd (iN c C) (fB n (eB c C) false L) N p.1 p.2 tn2 (fB n (eB c C) false g.2.iter))
  |.DictComp k v G C _=>ob<|(gd (rP c C) ()).bind λz=>(one G).bind λg=>(gd (g.is_async==0&&g.ifs.isEmpty&&eJ g.iter) ()).bind λz=>
    (vw (eB c C) g.target).map λN=>.yu (iN c C) (fB n (eB c C) false k) (fB n (eB c C) false v) N<|nP c (fB n c false g.iter) g.iter
  |_=>.bad
noncomputable def trB:Nat->TC->Bool×String->List ao->E
 |0,_,_,_=>.bad
 |n+1,c,b,args=>match zr b with
  |some B=>.bi B<|args.map<|fB n c false
  |none=>match b==(false,"list") with
   |true=>match ((one args).bind<|mx c "range").bind one with
    |some a=>.bi .qI [fB n c false a]
    |none=>.bi .list<|args.map<|fB n c false
   |false=>match b==(true,"sorted") with
    |true=>match ((one args).bind<|mx c "set").bind one with
     |some a=>.bi .ja [fB n c false a]
     |none=>.bi .sorted<|args.map<|fB n c false
    |false=>ob<|(gd (b==(false,"dict")) ()).bind λz=>(((one args).bind<|mx c "zip").bind xo).map λp=>.bi .j7 [fB n c false p.1,fB n c false p.2]
noncomputable def Dl:Nat->TC->ao->Option (IK×List E)
 |0,_,_=>none
 |n+1,c,it=>match zE c it with
  |some q=>some (q.1,q.2.map λa=>match zG q.1 with|true=>nP c (fB n c false a) a|false=>fB n c false a)
  |none=>gd (eJ it) (.over,[nP c (fB n c false it) it])
end
noncomputable def TX:Nat->TC->ao->Option T
 |0,_,_=>none
 |n+1,c,e=>match e with
  |.Name x _=>(eu x c.ns 0).bind λp=>gd (oK p.2)<|.nm p.1
  |.Attribute o a _=>gd (decide<|c.at_ a<gT)<|.at (fB n c false o) (c.at_ a)
  |.Subscript o i _=>gd (rW i)<|.ix (fB n c false o)<|fB n c false i
  |.Tuple es _ _=>(gd (es.all bD) ()).bind λz=>(LG (TX n c) es).map .tp
  |_=>none
noncomputable def SS:ao->Bool|.ListComp _ g _ _=>g.length==1|_=>false
def NB(t e:ao):Bool:=match (y5 t).bind λs=>(y5 e).map λv=>(s,v) with
 |some q=>mz q.2&&(q.1.any (λe=>!jQ e)||q.1.length==2)
 |none=>Lr t e&&(vX t e||SS e)
noncomputable def W3:Nat->TC->xh->S
 |0,_,_=>.bad
 |n+1,c,s=>match s with
  |.Expr e _=>UG<|gd (rX e)<|.expr<|fB n c false e
  |.Assign ts v _=>UG<|(one ts).bind λt=>(gd (NB t v&&bD t) ()).bind λz=>(TX n c t).map λt=>.asg t<|fB n c true v
  |.If t a b _=>.ifs (fB n c false t) (a.map<|W3 n c)<|b.map<|W3 n c
  |.For t it d r _=>UG<|(gd r.isEmpty ()).bind λz=>(vw c t).bind λN=>(Dl n c it).map λp=>.for N p.1 p.2 (d.map<|W3 n c)
  |.While t d r _=>UG<|gd r.isEmpty<|.tR (fB n c false t)<|d.map<|W3 n c
  |.Return v _=>UG<|v.map λe=>.ret<|fB n c true e
  |_=>.bad
def m9(n:List (Str×cj)):Option Str:=(one<|n.filter λp=>p.2==.free).map λp=>p.1
def Ss(c:TC)(s:xh):S:=match s with
 |.FunctionDef a _ _ d ret f e t b _=>UG<|(gd (d.isEmpty&&ret.isNone&&f.isEmpty&&t.isNone&&hH a b) ()).bind λz=>(eu b c.ns 0).bind λp=>
   (m9 e.names).bind λx=>(eu x c.ns 0).bind λq=>gd (oK p.2&&zI q.2)<|.defn p.1 (c.nst a) [q.1]
 |s=>W3 30 c s
def e6(free:List Str)(n:List (Str×cj)):List NK:=n.map λp=>match p.2 with
 |.cell=>.p9
 |.free=>.W5<|(free.findIdx? λx=>hH x p.1).getD 0
 |_=>.loc
def J2(c:TC)(keep:Bool)(params:el)(uT:List SV)(body:List xh)(scope:Scope):Fn:=
 {np:=params.args.length,uT,kinds:=e6 ((scope.names.filter λp=>p.2==.free).map (·.1)) scope.names,body:=body.map<|Ss<|eB c scope,keep}
structure iw(Z:dg)(c:TC):Prop where
 gl:∃mg mb,wU Z mg mb/\∀x v,c.gl x=some v->mg x=some v\/(mg x=none/\mb x=some v)
 uq:∃ep t,Z.base c.uq=some (wj #[] ep t)/\SG Z.w #[] t (λz=>False)
 at_:∀a,c.at_ a<gT->Z.nm (c.at_ a)=a
section
variable{Z:dg}{C:bH}{M:bQ}{n:Nat}{ns:bL}{c:TC}
def tG(Z:dg)(ns:bL)(env:Env)(bk:ba)(v:SV)(g fx:FH)(ρ:dM)(Q:Value->Shared->Prop):Prop:=
 ∀G f a d y,dG g ρ G a->(∀b,b≠env.locals->f b=fx b)->c7 Z ns env bk G f a d->RV Z G a v y->Q y d
def yE(Z:dg)(ns:bL)(env:Env)(bk:ba)(b:Bool)(g fx:FH)(ρ:dM)(Q:Bool->Shared->Prop):Prop:=
 ∀G f a d,dG g ρ G a->(∀b,b≠env.locals->f b=fx b)->c7 Z ns env bk G f a d->Q b d
def wY(Z:dg)(ns:bL)(env:Env)(bk:ba)(g fx:FH)(ρ:dM)(Q:Unit->Shared->Prop):Prop:=
 ∀G f a d,dG g ρ G a->(∀b,b≠env.locals->f b=fx b)->c7 Z ns env bk G f a d->Q () d
def GL(Z:dg)(ns:bL)(env:Env)(bk:ba)(vs:List SV)(g fx:FH)(ρ:dM)(Q:List Value->Shared->Prop):Prop:=
 ∀G f a d y,dG g ρ G a->(∀b,b≠env.locals->f b=fx b)->c7 Z ns env bk G f a d->dD Z G a vs y->Q y d
theorem tG.of{env:Env}{bk:ba}{g fx G f:FH}{ρ a:dM}(X:dG g ρ G a)(F:∀b,b≠env.locals->f b=fx b)(P:tG Z ns env bk v g fx ρ Q):tG Z ns env bk v G f a Q:=
 λj x d k y i e=>P j x d k y (X.trans i) λb h=>(e b h).trans<|F b h
theorem yE.of{env:Env}{bk:ba}{g fx G f:FH}{ρ a:dM}(X:dG g ρ G a)(F:∀b,b≠env.locals->f b=fx b)(P:yE Z ns env bk v g fx ρ Q):yE Z ns env bk v G f a Q:=
 λj x d k i e=>P j x d k (X.trans i) λb h=>(e b h).trans<|F b h
theorem wY.of{env:Env}{bk:ba}{g fx G f:FH}{ρ a:dM}(X:dG g ρ G a)(F:∀b,b≠env.locals->f b=fx b)(P:wY Z ns env bk g fx ρ Q):wY Z ns env bk G f a Q:=
 λj x d k i e=>P j x d k (X.trans i) λb h=>(e b h).trans<|F b h
theorem GL.of{env:Env}{bk:ba}{g fx G f:FH}{ρ a:dM}(X:dG g ρ G a)(F:∀b,b≠env.locals->f b=fx b)(P:GL Z ns env bk v g fx ρ Q):GL Z ns env bk v G f a Q:=
 λj x d k y i e=>P j x d k y (X.trans i) λb h=>(e b h).trans<|F b h
def eK(Z:dg)(n:Nat)(ns:bL)(C:bH)(M:bQ)(t:E)(e:ao):Prop:=
 ∀σ bk v,bX C M t σ=some (v,bk)->∀env A g fx ρ s,dA ns env->rj n A->c7 Z ns env σ g fx ρ s->∀E Q,tG Z ns env bk v g fx ρ Q->au (Mo Z) A (eval e env) Q E s
def lW(Z:dg)(n:Nat)(ns:bL)(C:bH)(M:bQ)(t:E)(e:ao):Prop:=
 ∀σ bk v b,bX C M t σ=some (v,bk)->fa v=some b->∀env A g fx ρ s,dA ns env->rj n A->c7 Z ns env σ g fx ρ s->∀E Q,yE Z ns env bk b g fx ρ Q->au (Mo Z) A (isTrue e env<|eval e env) Q E s
def oX(Z:dg)(n:Nat)(ns:bL)(C:bH)(M:bQ)(ts:List E)(es:List ao):Prop:=
 ∀σ bk v,gp C M ts σ=some (v,bk)->∀env A g fx ρ s,dA ns env->rj n A->c7 Z ns env σ g fx ρ s->∀p E Q,GL Z ns env bk v g fx ρ Q->au (Mo Z) A (tK<|sI p<|jB es env) Q E s
variable{env:Env}{A:bq}{g fx:FH}{ρ:dM}{s:Shared}{σ bk:ba}{R:Value->Shared->Prop}
theorem c7.with(G:c7 Z ns env σ g fx ρ s)(X:dG g ρ g' a)(S:bR Z bk.st g' fx a s')(h:bk.loc=σ.loc):c7 Z ns env bk g' fx a s':=
 ⟨S,h▸G.yp.mono X⟩
theorem br.post(Y:br Z A t a v g fx ρ s)(G:c7 Z ns env σ g fx ρ s)(H:bk.st=a)(h:bk.loc=σ.loc)(P:tG Z ns env bk v g fx ρ Q):au (Mo Z) A t Q R s:=
 Y R Q λd b e y X S r=>P d fx b e y X (λz z=>rfl) (G.with X (H▸S) h) r
theorem pP.post(Y:pP Z A t a g fx ρ s)(G:c7 Z ns env σ g fx ρ s)(H:bk.st=a)(h:bk.loc=σ.loc)(P:wY Z ns env bk g fx ρ Q):au (Mo Z) A t Q R s:=
 Y R Q λd b e X S=>P d fx b e X (λz z=>rfl)<|G.with X (H▸S) h
theorem tG.now(P:tG Z ns env σ v g fx ρ Q)(G:c7 Z ns env σ g fx ρ s)(t:Nat)(r:RV Z g ρ v y):Q y {s with toks:=t}:=
 P g fx ρ _ y (.refl _ _) (λz z=>rfl) (G.with (.refl _ _) (G.eN.tok t) rfl) r
theorem lW.value(h:eK Z n ns C M t e)(k:∀env:Env,isTrue e env (eval e env)=(do let v<-eval e env;kp e.pos;jF [v] (nQ v))):lW Z n ns C M t e:=
 λσ bk v b i B env A g fx ρ s V H G E Q P=>wpAny_isTrue_value (h σ bk v i env A g fx ρ s V H G E _ λj f a m y X F d r=>y7 B λl=>by subst l;obtain rfl:=r;exact eT<|P j f a m X F d)<|k env
theorem Kf:eK Z n ns C M .none (.Constant .none k p):=
 λσ bk v b env A g fx ρ s V h G E Q P=>m7 b λe a=>by subst e a;exact wpAny_Constant_none<|P.now G s.toks rfl
theorem Kk:eK Z n ns C M (.bool b) (.Constant (.bool b) k p):=
 λσ bk v d env A g fx ρ s V h G E Q P=>m7 d λe a=>by subst e a;exact wpAny_Constant_bool<|P.now G s.toks rfl
theorem Fs:eK Z n ns C M (.int i) (.Constant (.int i) k p):=
 λσ bk v b env A g fx ρ s V h G E Q P=>m7 b λe a=>by subst e a;exact wpAny_Constant_int<|P.now G _ ⟨_,rfl⟩
theorem Pr:eK Z n ns C M (.str x) (.Constant (.str x) k p):=
 λσ bk v b env A g fx ρ s V h G E Q P=>m7 b λe a=>by subst e a;exact u2<|P.now G _ ⟨_,rfl⟩
theorem ke(T:iw Z c)(V:dA ns env)(G:c7 Z ns env σ g fx ρ s)(f:eu x ns 0=some (i,.globalImplicit))(j:c.gl x=some v)(h:Q v s):
  au (Mo Z) A (eval (.Name x r) env) Q R s:=by
 refine i9 (gw f) λI e=>pg T.gl λw t p L=>?_
 have d:=V.nf _<|aH I
 refine dn p.g λy O k=>dn p.b λob b B=>?_
 have H:=k.ns<|G.eN.eC _ _ O
 have a:=B.ns<|G.eN.eC _ _ b
 rw[<-V.globals] at H
 rw[<-V.builtins] at a
 exact Name_function_global V.kind (V.glob _ e) ((L x v j).elim (λm=>loadGlobal_global H m h) λm=>loadGlobal_builtin H m.1 a m.2 h) d.1
theorem Dv(h:∀t,x=some t->eK Z n ns C M t e):eK Z n ns C M (ob x) e:=by
 cases x with
 |none=>exact λσ bk v V=>aR V
 |some t=>exact h t rfl
theorem My(h:oM k=true):k=.local\/k=.cell\/k=.free:=by cases k<;>first|exact .inl rfl|exact .inr (.inl rfl)|exact .inr (.inr rfl)|exact ae h
theorem za(h:oK k=true):k=.local\/k=.cell:=by cases k<;>first|exact .inl rfl|exact .inr rfl|exact ae h
theorem XD(h:F8 k=true):k=.globalImplicit:=by cases k<;>first|rfl|exact ae h
theorem Mm{P:Prop}(h:BP c x k=some v)(f:k=.globalImplicit->c.gl x=some v->P):P:=pJ h λH a=>f (XD H) a
set_option tactic.hygienic true in
theorem Hq(T:iw Z c)(h:eu x ns 0=some (i,.globalImplicit))(H:c.gl x=some v):eK Z n ns C M (yn c v) (.Name x p):=by
 intro σ bk u d env A g fx ρ s V m G E Q P;cases v<;>first|exact aR d|skip
 ·exact m7 d λe b=>by subst e b;exact ke T V G h H<|P.now G s.toks ⟨_,rfl⟩
 ·exact m7 d λe b=>by subst e b;exact ke T V G h H<|P.now G s.toks ⟨_,rfl⟩
 ·rename_i a
  cases ha:a==c.uq with
  |true=>rw[show yn c (.ref a)=.xD by show(match a==c.uq with|true=>Mine.E.xD|false=>.glob<|.ref a)=_;rw[ha]] at d;obtain rfl:=beq_iff_eq.mp ha;refine pg T.uq λk t B j=>m7 d λe b=>by subst e b;exact ke T V G h H<|P.now G s.toks ⟨_,_,_,_,rfl,G.eN.top _ _ B,j.congr λi=>⟨λf=>f.elim,λf=>absurd f aJ⟩,kN,rfl⟩
  |false=>rw[show yn c (.ref a)=.glob (.ref a) by show(match a==c.uq with|true=>Mine.E.xD|false=>.glob<|.ref a)=_;rw[ha]] at d;exact m7 d λe b=>by subst e b;exact ke T V G h H<|P.now G s.toks ⟨rfl,rfl⟩
theorem Kg(T:iw Z c)(d:c.ns=ns):eK Z n ns C M (rY c x) (.Name x O):=by
 subst d;refine Dv λt h=>cR h λp b h=>?_;cases hk:oM p.2 with
 |true=>rw[hk] at h;subst h;exact λσ bk v e env A g fx ρ s V i G E Q P=>YK e λH a=>by subst a;exact H8 b (My hk) H V G λy r=>P.now G s.toks r
 |false=>rw[hk] at h;subst h;exact Dv λt h=>cR h λv f h=>Mm f λH a=>by subst h;exact Hq T (b.trans<|congrArg some<|R2 rfl H) a
theorem P1(h:opE o=some p):o=Ll p:=by cases o<;>first|exact aR h|(obtain rfl:=aa h;rfl)
theorem Pz(hl:eK Z n ns C M tl l)(hr:eK Z n ns C M tr r):eK Z n ns C M (.bin op tl tr) (.BinOp l (Ll op) r pos):=
 λσ bk v ev env A g fx ρ s V J G E Q P=>YM ev λa d b U Y hw=>wpAny_BinOp<|hl σ d a U env A g fx ρ s V J G E _ λp f h B y m i k t=>
  hr d bk b Y env A p f h B V J k E _ λI D H L z x j e w=>(Rt e.eN hw (t.mono x) w).post e rfl rfl<|(P.of m i).of x j
end
theorem mh(h:bD e=true):jB (e::es) env=(false,eval e env)::jB es env:=by cases e<;>first|rfl|exact ae h
theorem zv(h:eJ e=true)(op:CmpOp):behindInMarks op e=false:=by cases e<;>first|rfl|exact ae h
section
variable{Z:dg}{C:bH}{M:bQ}{n:Nat}{ns:bL}{c:TC}
theorem mF:oX Z n ns C M [] []:=λf b d v env A g fx ρ s V h G p E Q P=>dQ (aa v) λe a=>by subst e a;exact ab<|P g fx ρ s [] (.refl _ _) (λz z=>rfl) G rfl
theorem jU(hs:bD e=true)(h:eK Z n ns C M t e)(hl:oX Z n ns C M ts es):oX Z n ns C M (t::ts) (e::es):=
 λσ bk vs ev env A g fx ρ s V hA G pos E Q P=>YL ev λv aC ws e1 e2 hv=>by subst hv;rw[mh hs];show au _ _ (tK<|(false,eval e env)::sI pos (jB es env)) Q E s;unfold tK;refine aI<|h σ aC v e1 env A g fx ρ s V hA G E _ λfD lX eh bG y lO AI Ob AA=>?_;refine sC a8<|aU<|ab<|aU<|aO<|hl aC _ ws e2 env A fD lX eh bG V hA Ob pos E _ λi0 n3 iP iA ys sE GU u1 yH=>ab ?_;exact(P.of lO AI) i0 n3 iP iA _ sE GU u1 ⟨y,ys,rfl,AA.mono sE,yH⟩
theorem Po(h:oX Z n ns C M ts es):eK Z n ns C M (.tup ts) (.Tuple es k O):=
 λB D v t env A g fx ρ s V H G E Q P=>YG t λj m L w=>by subst w;refine wpAny_Tuple (h B _ j m env A g fx ρ s V H G O E _ λi f b e Y x d a r=>⟨by rw[r.length];exact gz L,?_⟩);obtain⟨l,y⟩:=s9 (vs:=Y.toArray) a.eN e.toks b8 (bA _) dH r;exact(P.of x d) _ f b _ _ aX (λz z=>rfl) (a.with aX l rfl) y
theorem Kh(h:oX Z n ns C M ts es):eK Z n ns C M (.list m ts) (.List es p):=
 λN O v H env A g fx ρ s V I G E Q P=>Vc H λB b D L J=>by refine wpAny_List (h N _ B D env A g fx ρ s V I G p E _ λw f j e Y x d a r=>⟨by rw[r.length];exact gz L,?_⟩);obtain⟨U,i,k,t,y,l⟩:=vZ (vs:=Y.toArray) a.eN e.toks b8 (bA _) dH r m b rfl;rw[J] at k y l;exact(P.of x d) _ f i _ _ t (λz z=>rfl) (a.with t k l) y
theorem Fq(h:eK Z n ns C M t e):eK Z n ns C M (.neg t) (.UnaryOp .USub e O):=
 λw z v m env A g fx ρ s V H G E Q P=>YJ m λi l p=>by subst p;exact wpAny_UnaryOp<|h w _ _ l env A g fx ρ s V H G E _ λj b d k y x f a r=>(UI a.eN r).post a rfl rfl<|P.of x f
theorem fV(h:Mine.fa v=some b):v=.bool b:=y7 h id
theorem Kr(h:lW Z n ns C M t e):lW Z n ns C M (.not t) (.UnaryOp .Not e p):=
 λk l v b f B env A g fx ρ s V i G E Q P=>SU f λw d a H j=>by subst j;obtain rfl:=aa B;exact wpAny_isTrue_Not<|h k _ w d a H env A g fx ρ s V i G E _ P
theorem Pu(h:eK Z n ns C M t e):eK Z n ns C M (.not t) (.UnaryOp .Not e O):=
 λB D v m env A g fx ρ s V p G E Q P=>SU m λw d l H z=>by subst z;obtain rfl:=fV H;refine wpAny_UnaryOp<|h B _ _ l env A g fx ρ s V p G E _ λk i j a y x f b r=>?_;obtain rfl:=r;show au _ _ (do return .bool (!(<-nQ<|.bool d))) Q E a;exact aU<|eT<|ab<|(P.of x f).now b a.toks rfl
section
variable{st:List SO}{g fx:FH}{ρ:dM}{s:Shared}{A:bq}
theorem t5(S:bR Z st g fx ρ s)(e:Q3 st a b=some r)(f:RV Z g ρ a x)(B:RV Z g ρ b y)(U:A.units+b7<cLine):
  br Z A (dP .Eq x y) st (.bool r) g fx ρ s/\br Z A (dP .NotEq x y) st (.bool<|!r) g fx ρ s:=by
 unfold Q3 at e
 cases hf:ur a with
 |true=>rw[hf] at e;exact av e λi h e=>cR e λj H d=>pO h λQ=>pO H λk=>by subst Q k d;exact Q2 S f B<|n7 U
 |false=>rw[hf] at e;exact av e λl h e=>av e λm H e=>iZ e λD d=>by subst d;exact⟨OR S h H f B (eW D) U,ON S h H f B (eW D) U⟩
theorem t4(S:bR Z st g fx ρ s)(e:Ec st a b=some r)(d:RV Z g ρ a x)(B:RV Z g ρ b y)(h:A.units+65<cLine):
  br Z A (dP .In x y) st (.bool r) g fx ρ s/\br Z A (dP .NotIn x y) st (.bool<|!r) g fx ρ s:=by
 unfold Ec at e
 cases hf:ur b with
 |true=>rw[hf] at e;exact av e λi H e=>cR e λj k f=>pO H λQ=>gA k λm=>by subst Q m f;exact QF S d B
 |false=>
  rw[hf] at e;cases hd:hU st b with
  |some p=>rw[hd] at e;exact OQ S hd e d B h
  |none=>rw[hd] at e;exact av e λt l e=>U6 S l e d B (by simp -iota only[b7];exact aad h)
theorem UH{x:Option Bool}(e:x.map (!·)=some r)(h:∀d,x=some d->br Z A t st (.bool<|!d) g fx ρ s):br Z A t st (.bool r) g fx ρ s:=cR e λd H a=>by subst a;exact h d H
theorem iu(S:bR Z st g fx ρ s)(e:ir st (IF o) a b=some r)(h:RV Z g ρ a x)(B:RV Z g ρ b y)(U:A.units+65<cLine):
  br Z A (dP o x y) st (.bool r) g fx ρ s:=by
 have H:A.units+b7<cLine:=by simp -iota only[b7];exact abi U
 have l:∀{f:Int->Int->Bool}{t:xM Value},Ma f a b=some r->(∀i j,RV Z g ρ (.int i) x->RV Z g ρ (.int j) y->br Z A t st (.bool<|f i j) g fx ρ s)->br Z A t st (.bool r) g fx ρ s:=λm k=>
  av m λi h1 m=>cR m λj h2 p=>gA h1 λq1=>gA h2 λq2=>by subst q1 q2 p;exact k i j h B
 have I:∀{u:Option Bool},((gd (isN b) ()).bind λz=>u)=some r->b=.none/\u=some r:=λe=>pJ e λh1 h2=>⟨by cases b<;>first|rfl|exact ae h1,h2⟩
 cases o with
 |Eq=>exact(t5 S e h B H).1
 |NotEq=>exact UH e λd h1=>(t5 S h1 h B H).2
 |Lt=>exact l e λi j h B=>(FY S h B).1
 |LtE=>exact l e λi j h B=>(FY S h B).2.1
 |Gt=>exact l e λi j h B=>(FY S h B).2.2.1
 |GtE=>exact l e λi j h B=>(FY S h B).2.2.2
 |Is=>exact(SQ S (I e).2 h<|(I e).1▸B).1
 |IsNot=>exact UH (I e).2 λd h1=>(SQ S h1 h<|(I e).1▸B).2
 |In=>exact(t4 S e h B U).1
 |NotIn=>exact UH e λd h1=>(t4 S h1 h B U).2
end
theorem rj.u{A:bq}(h:rj n A):A.units+65<cLine:=by have:=h.units;exact abh this
theorem br.test{g fx:FH}{ρ:dM}{s:Shared}{A:bq}(Y:br Z A t i (.bool d) g fx ρ s)(h:∀g' f s',dG g ρ g' f->bR Z i g' fx f s'->Q d s'):au (Mo Z) A t (λv s'=>au (Mo Z) A (nQ v) Q R s') R s:=
 Y R _ λG a e y x b r=>by obtain rfl:=r;exact eT<|h G a e x b
theorem Py(hl:eK Z n ns C M tl l)(hr:eK Z n ns C M tr r)(hs:eJ r=true):eK Z n ns C M (.cmp (IF o) tl tr) (.Compare l [o] [r] pos):=
 λσ bk v ev env A g fx ρ s V J G E Q P=>SX ev λa e b d Y eb hd hv=>by
  subst hv;exact wpAny_Compare1 (hl σ e a Y env A g fx ρ s V J G E _ λw h i H y t j p B=>hr e _ b eb env A w h i H V J p E _ λN I L O z x k f D=>
   (iu f.eN hd (B.mono x) D J.u).post f rfl rfl ((P.of t j).of x k))<|zv hs _
theorem Kt(hl:eK Z n ns C M tl l)(hr:eK Z n ns C M tr r)(hs:eJ r=true):lW Z n ns C M (.cmp (IF o) tl tr) (.Compare l [o] [r] pos):=
 λσ bk v bb ev hb env A g fx ρ s V hA G E Q P=>SX ev λa e b d ea eb hd hv=>by
  subst hv;obtain rfl:=aa hb;exact wpAny_isTrue_Compare1 (hl σ e a ea env A g fx ρ s V hA G E _ λJ i k U y I t D N=>hr e _ b eb env A J i k U V hA D E _ λi0 j iP iA z x B f O=>
   (iu f.eN hd (N.mono x) O hA.u).test λL m Y h H=>((P.of I t).of x B) L j m Y h (λw w=>rfl)<|f.with h H rfl)<|zv hs _
theorem nj(h:eJ r=true):lastMarks [a,O] [m,r]=false:=zv h O
theorem Ki(hl:eK Z n ns C M tl l)(hm:eK Z n ns C M tm m)(hr:eK Z n ns C M tr r)(hs:eJ r=true):
  eK Z n ns C M (.Ae (IF o1) (IF o2) tl tm tr) (.Compare l [o1,o2] [m,r] pos):=
 λσ bk v ev env A g fx ρ s V hA G E Q P=>Mc ev
  (λa e b aT w d ea eb hd ec hd' hv=>by subst hv;refine Compare_chain (hl σ e a ea env A g fx ρ s V hA G E _ λJ i j O y H p B L=>?_)<|nj hs;refine chain_link<|hm e aT b eb env A J i j O V hA B E _ λi0 I iP iA z h t f k=>?_;refine iu f.eN hd (L.mono h) k hA.u _ _ λlg Y U acY x D N=>?_;obtain rfl:=N;refine eT ?_;rw[if_pos rfl];refine chain_last<|hr aT _ w ec env A lg I Y U V hA (f.with x D rfl) E _ λqr AG rl uc u pS sF u0 sD=>?_;exact(iu u0.eN hd' ((k.mono x).mono pS) sD hA.u).post u0 rfl rfl<|(((P.of H p).of h t).of x λq q=>rfl).of pS sF)
  (λa e b ea eb hd hv=>by subst hv;refine Compare_chain (hl σ e a ea env A g fx ρ s V hA G E _ λJ i j O y H p B L=>?_)<|nj hs;refine chain_link<|hm e _ b eb env A J i j O V hA B E _ λi0 I iP iA z h t f k=>?_;refine iu f.eN hd (L.mono h) k hA.u _ _ λlg Y U acY x D N=>?_;obtain rfl:=N;refine eT ?_;rw[if_neg a8];exact(((P.of H p).of h t).of x λq q=>rfl).now (f.with x D rfl) U.toks rfl)
theorem HD(hl:eK Z n ns C M tl l)(hm:eK Z n ns C M tm m)(hr:eK Z n ns C M tr r)(hs:eJ r=true):
  lW Z n ns C M (.Ae (IF o1) (IF o2) tl tm tr) (.Compare l [o1,o2] [m,r] pos):=
 λσ bk v bb ev hb env A g fx ρ s V hA G E Q P=>Mc ev
  (λa e b aT w d ea eb hd ec hd' hv=>by subst hv;obtain rfl:=aa hb;refine isTrue_chain (hl σ e a ea env A g fx ρ s V hA G E _ λL i k U y J B H O=>?_)<|nj hs;refine test_link<|hm e aT b eb env A L i k U V hA H E _ λi0 j iP iA z h D f t=>?_;refine(iu f.eN hd (O.mono h) t hA.u).test λN p Y x I=>?_;rw[if_pos rfl];refine test_last<|hr aT _ w ec env A N j p Y V hA (f.with x I rfl) E _ λqr AG rl uc u pS sF u0 sD=>?_;exact(iu u0.eN hd' ((t.mono x).mono pS) sD hA.u).test λAF Xd Az Xx Tt=>((((P.of J B).of h D).of x λq q=>rfl).of pS sF) AF AG Xd Az Xx (λq q=>rfl)<|u0.with Xx Tt rfl)
  (λa e b ea eb hd hv=>by subst hv;obtain rfl:=aa hb;refine isTrue_chain (hl σ e a ea env A g fx ρ s V hA G E _ λL i k U y J B H O=>?_)<|nj hs;refine test_link<|hm e _ b eb env A L i k U V hA H E _ λi0 j iP iA z h D f t=>?_;refine(iu f.eN hd (O.mono h) t hA.u).test λN p Y x I=>?_;rw[if_neg a8];exact((P.of J B).of h D) N j p Y x (λq q=>rfl)<|f.with x I rfl)
theorem Pw(y:lW Z n ns C M J e)(B:eK Z n ns C M N a)(z:eK Z n ns C M L b):eK Z n ns C M (.ite J N L) (.IfExp e a b O):=
 λU p v r env A g fx ρ s V H G E Q P=>SW r λw f d t D r=>wpAny_IfExp (y U f w d t D env A g fx ρ s V H G E _ λl x h m k i j=>by
  cases d with
  |true=>rw[if_pos rfl];exact B f p v r env A l x h m V H j E Q<|P.of k i
  |false=>rw[if_neg a8];exact z f p v r env A l x h m V H j E Q<|P.of k i)
theorem Ks(z:lW Z n ns C M N e)(J:lW Z n ns C M Y a)(D:lW Z n ns C M U b):lW Z n ns C M (.ite N Y U) (.IfExp e a b O):=
 λσ p v B r t env A g fx ρ s V H G E Q P=>SW r λw f d y L r=>by
  show au _ _ (do if<-isTrue e env (eval e env) then isTrue a env (eval a env) else isTrue b env (eval b env)) Q E s;refine aI<|z σ f w d y L env A g fx ρ s V H G E _ λl x h m k i j=>?_;cases d with
  |true=>refine JU rfl ?_;exact J f p v B r t env A l x h m V H j E Q<|P.of k i
  |false=>refine sC a8 ?_;exact D f p v B r t env A l x h m V H j E Q<|P.of k i
noncomputable def ot(Z:dg)(n:Nat)(ns:bL)(C:bH)(M:bQ):List Mine.E->List ao->Prop
 |[],[]=>True
 |t::ts,e::es=>(eK Z n ns C M t e/\lW Z n ns C M t e)/\ot Z n ns C M ts es
 |_,_=>False
abbrev OT(Z:dg)(n:Nat)(ns:bL)(op:BoolOp)(r:Option (SV×ba))(σ:ba)(es:List ao):Prop:=∀v a b,r=some (v,a)->fa v=some b->∀env A g fx ρ s,dA ns env->rj n A->c7 Z ns env σ g fx ρ s->∀E Q,yE Z ns env a b g fx ρ Q->au (Mo Z) A (allTrue op es env) Q E s
theorem se{P:List Mine.E->List ao->Prop}(z:P [] [])(k:∀t x ts es,eK Z n ns C M t x->lW Z n ns C M t x->P ts es->P (t::ts) (x::es)):∀{es:List ao},ot Z n ns C M ts es->P ts es:=by
 induction ts with
 |nil=>
  intro es h;cases es with
  |nil=>exact z
  |cons _ _=>exact h.elim
 |cons t ts i=>
  intro es h;cases es with
  |nil=>exact h.elim
  |cons x es=>exact k t x ts es h.1.1 h.1.2<|i h.2
theorem Cp(h:ot Z n ns C M ts es):∀{σ:ba},OT Z n ns .And (jv C M ts σ) σ es:=
 se (P:=λts es=>∀{σ:ba},OT Z n ns .And (jv C M ts σ) σ es) (λ{σ} v r b p B env A g fx ρ s V H G E Q P=>m7 p λm D=>by subst m D;obtain rfl:=aa B;exact wpAny_allTrue_And_nil<|P g fx ρ s (.refl _ _) (λz z=>rfl) G)
 (λt x ts es _ h J {σ} v r b p B env A g fx ρ s V H G E Q P=>wpAny_allTrue_And_cons (Ge p
  (λw l m y p=>h σ l w true m y env A g fx ρ s V H G E _ λj f a k i d e=>by rw[if_pos rfl];exact J v r b p B env A j f a k V H e E Q<|P.of i d)
  λw m y I=>by subst I;obtain rfl:=aa B;exact h σ _ w false m y env A g fx ρ s V H G E _ λj f a k i d e=>by rw[if_neg a8];exact P j f a k i d e)) h
theorem EK(h:ot Z n ns C M ts es):∀{σ:ba},OT Z n ns .Or (B2 C M ts σ) σ es:=
 se (P:=λts es=>∀{σ:ba},OT Z n ns .Or (B2 C M ts σ) σ es) (λ{σ} v r b p B env A g fx ρ s V H G E Q P=>m7 p λm D=>by subst m D;obtain rfl:=aa B;exact wpAny_allTrue_Or_nil<|P g fx ρ s (.refl _ _) (λz z=>rfl) G)
 (λt x ts es _ h J {σ} v r b p B env A g fx ρ s V H G E Q P=>wpAny_allTrue_Or_cons (Va p
  (λw l m y p=>h σ l w false m y env A g fx ρ s V H G E _ λj f a k i d e=>by rw[if_neg a8];exact J v r b p B env A j f a k V H e E Q<|P.of i d)
  λw m y I=>by subst I;obtain rfl:=aa B;exact h σ _ w true m y env A g fx ρ s V H G E _ λj f a k i d e=>by rw[if_pos rfl];exact P j f a k i d e)) h
theorem Kv(h:ot Z n ns C M ts es):lW Z n ns C M (.and ts) (.BoolOp .And es p):=
 λd a v b e B env A g fx ρ s V H G E Q P=>RX<|Cp h v a b e B env A g fx ρ s V H G E Q P
theorem PC(h:ot Z n ns C M ts es):lW Z n ns C M (.or ts) (.BoolOp .Or es p):=
 λd a v b e B env A g fx ρ s V H G E Q P=>RX<|EK h v a b e B env A g fx ρ s V H G E Q P
set_option backward.match.sparseCases true in
theorem t8{A:bq}{s:Shared}
  (h:au (Mo Z) A (eval x env) (λv bG=>∃b,v=.bool b/\(match op,b with|.And,false|.Or,true=>Q v bG|_,_=>au (Mo Z) A (boolOp pos op<|CL (x2::es) env) Q R bG)) R s):au (Mo Z) A (boolOp pos op<|CL (x::x2::es) env) Q R s:=by
 show au _ _ (do
  let v<-eval x env
  kp pos
  let t<-jF [v]<|nQ v;match op,t with
  |.And,false|.Or,true=>pure v
  |_,_=>boolOp pos op<|CL (x2::es) env) Q R s
 refine aU<|d3 h (λv bG kR=>aU<|c8<|aU<|aO ?_) λy y z=>z
 obtain⟨b,rfl,kR⟩:=kR
 refine eT ?_
 cases op<;>cases b<;>first|exact kR|exact ab kR
abbrev GQ(Z:dg)(n:Nat)(ns:bL)(p:Pos)(op:BoolOp)(r:Option (SV×ba))(σ:ba)(es:List ao):Prop:=∀v a,r=some (v,a)->∀env A g fx ρ s,dA ns env->rj n A->c7 Z ns env σ g fx ρ s->∀E Q,tG Z ns env a v g fx ρ Q->au (Mo Z) A (boolOp p op<|CL es env) Q E s
theorem ED(h:ot Z n ns C M (t::ts) (x::es)):∀{σ:ba},GQ Z n ns O .And (jv C M (t::ts) σ) σ (x::es):=
 se (P:=λts es=>∀(t:E) x,eK Z n ns C M t x->∀{σ:ba},GQ Z n ns O .And (jv C M (t::ts) σ) σ<|x::es) (λt x h {σ} v D z env A g fx ρ s V B G E Q P=>Ge z
  (λw m p H z=>m7 z λa b=>by subst a b;obtain rfl:=fV H;exact h σ _ _ p env A g fx ρ s V B G E Q P)
  λw p H I=>by subst I;obtain rfl:=fV H;exact h σ _ _ p env A g fx ρ s V B G E Q P)
 (λN U ts es J _ L t x h {σ} v D z env A g fx ρ s V B G E Q P=>t8 (Ge z
  (λw m p H z=>h σ m w p env A g fx ρ s V B G E _ λk f d l y j e i r=>by obtain rfl:=fV H;exact⟨true,r,L N U J v D z env A k f d l V B i E Q<|P.of j e⟩)
  λw p H I=>by subst I;obtain rfl:=fV H;exact h σ _ _ p env A g fx ρ s V B G E _ λk f d l y j e i r=>⟨false,r,P k f d l _ j e i r⟩)) h.2 t x h.1.1
theorem IJ(h:ot Z n ns C M (t::ts) (x::es)):∀{σ:ba},GQ Z n ns O .Or (B2 C M (t::ts) σ) σ (x::es):=
 se (P:=λts es=>∀(t:E) x,eK Z n ns C M t x->∀{σ:ba},GQ Z n ns O .Or (B2 C M (t::ts) σ) σ<|x::es) (λt x h {σ} v D z env A g fx ρ s V B G E Q P=>Va z
  (λw m p H z=>m7 z λa b=>by subst a b;obtain rfl:=fV H;exact h σ _ _ p env A g fx ρ s V B G E Q P)
  λw p H I=>by subst I;obtain rfl:=fV H;exact h σ _ _ p env A g fx ρ s V B G E Q P)
 (λN U ts es J _ L t x h {σ} v D z env A g fx ρ s V B G E Q P=>t8 (Va z
  (λw m p H z=>h σ m w p env A g fx ρ s V B G E _ λk f d l y j e i r=>by obtain rfl:=fV H;exact⟨false,r,L N U J v D z env A k f d l V B i E Q<|P.of j e⟩)
  λw p H I=>by subst I;obtain rfl:=fV H;exact h σ _ _ p env A g fx ρ s V B G E _ λk f d l y j e i r=>⟨true,r,P k f d l _ j e i r⟩)) h.2 t x h.1.1
theorem OK(h:ot Z n ns C M (t::ts) (x::es)):eK Z n ns C M (.and (t::ts)) (.BoolOp .And (x::es) p):=λb a v e env A g fx ρ s V H G E Q P=>ED h v a e env A g fx ρ s V H G E Q P
theorem Un(h:ot Z n ns C M (t::ts) (x::es)):eK Z n ns C M (.or (t::ts)) (.BoolOp .Or (x::es) p):=λb a v e env A g fx ρ s V H G E Q P=>IJ h v a e env A g fx ρ s V H G E Q P
end
def wZ.T1(Z:dg)(K:Frag):Prop:=∀a o,K.lookup a=some o->Z.base a=some o
def wZ.T2(Z:dg)(K:Frag):Prop:=∀c,Z.r6 c=true->de K (.ref c) "__getattribute__"=some (some<|.builtin "object.__getattribute__")
def wZ.T3(Z:dg)(K:Frag):Prop:=∀c,Z.r6 c=true->de K (.ref c) "__getattr__"=some none
def wZ.T4(Z:dg)(K:Frag):Prop:=∀c,Z.r6 c=true->de K (.ref c) "__setattr__"=some (some<|.builtin "object.__setattr__")
def wZ.T5(Z:dg)(K:Frag):Prop:=∀c,Z.r6 c=true->(clsIn K c).any (·.hasDict)=true
def wZ.T6(Z:dg)(K:Frag)(M:bQ):Prop:=∀c a,Z.r6 c=true->a<gT->Ol.contains (Z.nm a)=false/\takerIn K c (Z.nm a)=some none/\
  ((de K (.ref c) (Z.nm a)=some none/\M c a=none)\/∃f,de K (.ref c) (Z.nm a)=some (some<|.ref f)/\M c a=some f/\typeIn K (.ref f)=some (.type "function")/\I3 K (.ref f) "__get__"=some (some<|.builtin "function.__get__")/\takesIn K (.ref f)=some false)
structure wZ(Z:dg)(K:Frag)(M:bQ):Prop where
 YD:wZ.T1 Z K
 low:∀c a f,M c a=some f->a<gT
 ga:wZ.T2 Z K
 gn:wZ.T3 Z K
 sa:wZ.T4 Z K
 cd:wZ.T5 Z K
 po:∀c,Z.r6 c=true->plainOver K c=true
 at_:wZ.T6 Z K M
section
variable{Z:dg}{K:Frag}{M:bQ}{st:List SO}{g fx:FH}{ρ:dM}{s:Shared}{A:bq}
theorem wZ.here(O:wZ Z K M)(S:bR Z st g fx ρ s):K.In s.heap:=λa o e=>S.eC _ _<|O.YD a o e
structure k5(Z:dg)(g:FH)(ρ:dM)(h:Heap)(x d:Addr)(c:Addr)(as:List Nat)(vs:List SV)(es:List DictEntry)(n:Nat):Prop where
 obj:h.get? x=some (lJ c d)
 dict:h.get? d=some (dictOf es n)
 rel:e7 Z.nm as es
 ok:EU Z c as
 vals:dD Z g ρ vs (es.map (·.val))
theorem L6(S:bR Z st g fx ρ s)(e:oN st V=some i)(r:RV Z g ρ V v):∃x d es n,v=.ref x/\k5 Z g ρ s.heap x d i.1 i.2.1 i.2.2 es n:=
 adu e (λq=>by
  subst q;refine x46 r λa d es n j h H b c f=>?_;subst j;exact⟨a,d,es,n,rfl,S.keep _ _ h,S.keep _ _ H,b,c,f.i7⟩) λk q l=>by
  subst q;refine dn r λp m z=>?_;subst z;obtain⟨N,es,n,h,H,b,c,f⟩:=S.objs _ _ p l m;exact⟨_,_,es,n,rfl,h,H,b,c,f⟩
theorem k5.inst(X:k5 Z g ρ h x d c a vs es n):InstAt h x (lJ c d) c (some<|dictOf es n):=⟨X.obj,rfl,rfl,X.dict⟩
theorem rG{e f:Type}{P:List e->List f->Prop}(z:P [] [])(c:∀a d b B,P d B->P (a::d) (b::B))(l:∀a d,P (a::d) [])(r:∀b B,P []<|b::B)(d:List e):∀B,P d B:=by
 induction d with
 |nil=>intro B;cases B with
  |nil=>exact z
  |cons b B=>exact r b B
 |cons a d i=>intro B;cases B with
  |nil=>exact l a d
  |cons b B=>exact c a d b B<|i B
theorem e7.length{nm:Nat->Str}:e7 nm a es->es.length=a.length:=
 rG (P:=λa es=>e7 nm a es->es.length=a.length) (λz=>rfl) (λz z z z i h=>congrArg je<|i h.2) (λz z h=>h.elim) (λz z h=>h.elim) a es
theorem L4{Z:dg}:(Value.str (Z.nm b) t).isStr (Z.nm a)=(b==a):=by
 simp only[Value.isStr];by_cases h:b=a
 ·subst h;simp
 ·have:=λe=>h<|Z.SA _ _ e;rw[beq_eq_false_iff_ne.mpr this,beq_eq_false_iff_ne.mpr h]
theorem BM:∀{es:List DictEntry}{i:Nat},e7 Z.nm c es->(gq a c i=none/\es.find? (·.key.isStr (Z.nm a))=none/\es.findIdx? (·.key.isStr (Z.nm a))=none)\/∃j e,gq a c i=some (i+j)/\es[j]? =some e/\es.find? (·.key.isStr (Z.nm a))=some e/\es.findIdx? (·.key.isStr (Z.nm a))=some j:=by
 induction c with
 |nil=>
  intro es i h;cases es with
  |nil=>exact .inl ⟨rfl,rfl,rfl⟩
  |cons _ _=>exact h.elim
 |cons b c I=>
  intro es i h;cases es with
  |nil=>exact h.elim
  |cons e es=>
   obtain⟨⟨t,n⟩,l⟩:=h;show((if(b==a)=true then some i else gq a c (i+1))=none/\_)\/∃j k,(if(b==a)=true then some i else gq a c (i+1))=_/\_;rw[List.find?_cons,dF,n,L4];cases b==a with
   |true=>exact .inr ⟨0,e,rfl,rfl,rfl,rfl⟩
   |false=>
    rcases I l with ⟨H,d,f⟩|⟨j,k,H,d,f,m⟩
    ·exact .inl ⟨H,d,congrArg (E1 λi=>i+1) f⟩
    ·exact .inr ⟨j+1,k,H.trans<|congrArg some ar2,d,f,congrArg (E1 λi=>i+1) m⟩
theorem AO:∀{es:List DictEntry},e7 Z.nm a es->es.any (·.refKey)=false:=by
 induction a with
 |nil=>
  intro es h;cases es with
  |nil=>rfl
  |cons _ _=>exact h.elim
 |cons b a i=>
  intro es h;cases es with
  |nil=>exact h.elim
  |cons e es=>obtain⟨⟨t,c⟩,H⟩:=h;rw[kA,i H,Bool.or_false];unfold DictEntry.refKey;rw[c]
theorem k5.look(X:k5 Z g ρ h x d c f vs es n)(a:Nat):
  (gq a f 0=none/\Jq (Z.nm a) (dictOf es n)=some none)\/∃j e v,gq a f 0=some j/\es[j]? =some e/\Jq (Z.nm a) (dictOf es n)=some (some e.val)/\vs[j]? =some v/\RV Z g ρ v e.val:=by
 have l:∀r,es.find? (·.key.isStr (Z.nm a))=r->Jq (Z.nm a) (dictOf es n)=some (r.map (·.val)):=by
  intro r p;show(match es.toArray.toList.find? (·.key.isStr (Z.nm a)) with|some e=>some (some e.val)|none=>if es.toArray.toList.any (·.refKey) then none else some none)=_;rw[qX,p];cases r with
  |some e=>rfl
  |none=>dsimp only;rw[AO X.rel];rfl
 rcases BM X.rel with ⟨b,H,_⟩|⟨j,e,b,H,k,_⟩
 ·exact .inl ⟨b,l _ H⟩
 ·have J:j<vs.length:=by
   have V:=X.vals.length
   rw[ag] at V
   exact V▸(af.mp H).1
  refine dn (X.vals.get<|ax J) λy i m=>?_
  rw[ai,H] at i
  obtain rfl:=aa i
  exact .inr ⟨j,e,_,by simpa using b,H,l _ k,ax J,m⟩
theorem k5.found(O:wZ Z K M)(X:k5 Z g ρ h x d c m vs es n)(i:a<gT)(l:Jq (Z.nm a) (dictOf es n)=some (some v)):findObj K c (some<|dictOf es n) (Z.nm a)=some (.value v):=by
 refine dn (any_some<|O.cd c X.ok.cls) λC D j=>?_;refine nK (O.at_ c a X.ok.cls i) λz z k=>?_;have w:W.ownOf C (some<|dictOf es n) (Z.nm a)=some (some v):=by unfold W.ownOf;rw[if_pos j];exact l
 delta findObj;rw[D];show(de K (.ref c)<|Z.nm a).bind _=_;rcases k with ⟨H,_⟩|⟨f,H,_,_,b,e⟩
 ·rw[H];show(W.ownOf C (some<|dictOf es n)<|Z.nm a).bind _=_;rw[w];rfl
 ·rw[H];show(I3 K (.ref f) "__get__").bind _=_;rw[b];show(takesIn K<|.ref f).bind _=_;rw[e];show(W.ownOf C (some<|dictOf es n)<|Z.nm a).bind _=_;rw[w];rfl
theorem k5.bound(O:wZ Z K M)(X:k5 Z g ρ h x d c t vs es n)(m:M c a=some f)(L:Jq (Z.nm a) (dictOf es n)=some none):
  findObj K c (some<|dictOf es n) (Z.nm a)=some (.bind (.builtin "function.__get__")<|.ref f)/\de K (.ref c) (Z.nm a)=some (some<|.ref f)/\typeIn K (.ref f)=some (.type "function"):=by
 refine dn (any_some<|O.cd c X.ok.cls) λD C l=>?_
 refine nK (O.at_ c a X.ok.cls<|O.low _ _ _ m) λN z p=>?_
 have w:W.ownOf D (some<|dictOf es n) (Z.nm a)=some none:=by unfold W.ownOf;rw[if_pos l];exact L
 rcases p with ⟨_,H⟩|⟨v,e,H,i,j,k⟩
 ·rw[H] at m;exact aR m
 ·rw[H] at m;obtain rfl:=aa m;refine⟨?_,e,i⟩;delta findObj;rw[C];show(de K (.ref c)<|Z.nm a).bind _=_;rw[e];show(I3 K _ "__get__").bind _=_;rw[j];show(takesIn K _).bind _=_;rw[k];show(W.ownOf D (some<|dictOf es n)<|Z.nm a).bind _=_;rw[w];show(if(Ol.contains (Z.nm a)&&_)=true then none else _)=_;rw[N];rfl
set_option tactic.hygienic true in
theorem RV.P6(r:RV Z g ρ V v):handedIn v=true:=by
 cases V;case raw x=>obtain⟨rfl,h⟩:=r;exact h
 all_goals first|(obtain rfl:=r;rfl)|(obtain⟨_,rfl⟩:=r;rfl)|(obtain⟨_,_,_,rfl,_⟩:=r;rfl)|(obtain⟨_,_,_,_,rfl,_⟩:=r;rfl)|(obtain⟨_,_,rfl,_⟩:=r;rfl)|(obtain⟨_,_,rfl⟩:=r;rfl)
theorem Cj(O:wZ Z K M)(S:bR Z st g fx ρ s)(e:EG M st D a=some v)(r:RV Z g ρ D x)(t:a<gT):br Z A (getAttr x (Z.nm a) true) st v g fx ρ s:=av e λi I e=>by
 refine XJ (L6 S I r) λy d J n z X=>?_;subst z;have b:=O.here S;rcases X.look a with ⟨H,c⟩|⟨j,N,w,H,c,m,p,k⟩
 ·rw[H] at e;exact cR e λf C V=>by subst V;refine nK (X.bound O C c) λB G l=>.yf S λE Q h=>get_bind b X.inst (O.ga _ X.ok.cls) B (O.gn _ X.ok.cls) ?_;refine qt<|fn_get b l ?_;exact ab<|h _ _ _ b8 ⟨_,_,rfl,fk S (bA _) dH rfl (S.fresh<|bA _).2.2,r.mono aX⟩
 ·rw[H] at e;obtain rfl:=aa<|p.symm.trans e;exact .of S k λE Q h=>get_value b X.inst (O.ga _ X.ok.cls) (X.found O t m) k.P6<|h _
end
theorem DZ{n:Nat}{i:Int}(h:i<0):i+n<=n:=by have:=Int.add_le_add_right (C5 h) n;rwa[Int.zero_add] at this
theorem Ab(n:Nat)(i:Int):du n i<=n:=by
 delta du;split
 ·exact dt _ _
 ·next h=>exact C3.mpr<|DZ<|JD.mp h
theorem FT{n:Nat}{i:Int}(h:0<=i):max 0 (min i n)=min i n:=Int.max_eq_right<|Int.le_min.mpr ⟨h,jk _⟩
theorem ad6(a n:Nat):((min a n:Nat):Int)=min (a:Int) n:=by
 rcases Nat.le_total a n with h|h
 ·rw[ei h,xl<|fG.mpr h]
 ·rw[nS h,Int.min_eq_right<|fG.mpr h]
theorem kh(n:Nat)(i:Int):((du n i:Nat):Int)=max 0 (min (if i<0 then i+n else i) n):=by
 delta du;rcases Int.lt_or_le i 0 with h|h
 ·rw[if_neg<|JD.mpr h,if_pos h,xl<|DZ h,Int.max_comm];exact Int.ofNat_toNat _
 ·rw[if_pos h,if_neg<|oh.mpr h,FT h,ad6,i3 h]
theorem GA(n:Nat)(i:Int):clipAt n i=du n i:=Int.ofNat.inj<|(clipAt_cast n i).trans (kh n i).symm
theorem uU(h:k<=n):du n (k:Int)=k:=by delta du;rw[if_pos<|jk k,jO,ei h]
theorem HW(items:Array Value)(i:Int):slicePick items none (some i) none=(items.toList.take<|du items.size i).toArray:=by rw[slicePick_plain];show((items.toList.drop 0).take<|clipAt _ i-0).toArray=_;rw[GA,uf,iF]
theorem DL(items:Array Value)(i:Int):slicePick items (some i) none none=(items.toList.drop<|du items.size i).toArray:=by rw[slicePick_plain];show((items.toList.drop<|clipAt _ i).take<|items.size-clipAt _ i).toArray=_;rw[GA,c9 (by rw[e8,aL];exact aF _)]
section
variable{Z:dg}{st:List SO}{g fx:FH}{ρ:dM}{s:Shared}{A:bq}
theorem sZ{σ:ba}(S:bR Z σ.st g fx ρ s){xs Y:List SV}{lo I t:Option Int}(e:il σ.st o=some xs)(r:RV Z g ρ o x)(m:s.heap.IsSliceOf D V G vs)
  (v:IsPart V lo) (U:IsPart G I) (w:IsPart vs t) (j:t≠some 0) (k:xs.length<=dI) (p:∀items:Array Value,items.size=xs.length->dD Z g ρ xs items.toList->dD Z g ρ Y (slicePick items lo I t).toList)
  {E:Value->Shared->Prop} {Q:Value->Shared->Prop} (h:∀g' a s' y,dG g ρ g' a->bR Z (dh false Y σ).2.st g' fx a s'->RV Z g' a (dh false Y σ).1 y->Q y s'):
  au (Mo Z) A (nV x<|.ref D) Q E s/\s.TypeIs x "list":=by
 refine nZ (mi S e r) λl vs n z O b=>?_
 subst z
 have L:s.heap.IsList l vs:=⟨_,O,rfl,n,rfl⟩
 have H:=b.length
 simp -iota only[aL] at H
 refine⟨wpAny_getItem_list_slice L m v U w j ?_<|gz<|W8 k H,L.typeIs⟩
 obtain⟨g',a,d,f,B,c⟩:=vZ S s.toks b8 (bA _) dH (p vs H b) false σ rfl
 exact h g' a _ _ f d B
theorem D3(m:Bool)(xs:List SV)(σ:ba):(dh m xs σ).2.loc=σ.loc:=by delta dh;cases m||!bS xs<;>rfl
theorem Cq(i:Int)(n:Nat):sz none (some i) 1 (n:Int)=(0,((du n i:Nat):Int)):=by
 show((0:Int),if i<0 then max (i+n) 0 else min i n)=_;rw[kh];refine congrArg (Prod.mk 0) ?_;rcases Int.lt_or_le i 0 with h|h
 ·rw[if_pos h,if_pos h,xl<|DZ h,Int.max_comm]
 ·rw[if_neg<|oh.mpr h,if_neg<|oh.mpr h,FT h]
theorem Bp(k:Nat):kD 0 (k:Int) 1=k:=by
 show(if(0:Int)<k then((k:Int)-0-1)/1+1 else 0).toNat=k;rcases Nat.eq_zero_or_pos k with rfl|h
 ·rfl
 ·rw[if_pos<|Sd.mpr h,Int.ediv_one,Int.sub_zero,Int.sub_add_cancel];rfl
theorem rN{E:Value->Shared->Prop}{Q:Int×Int×Nat->Shared->Prop}(hs:s.heap.IsSliceOf sl .none (.int i u) .none)(h:Q (0,1,du n i) s):
  au (model prog w) A (d9.Slice.sliceApplied (.ref sl)<|pure (n:Int)) Q E s:=by
 refine sA (id hs) λos hos hcs hds=>aU<|aU<|di hos hds (x:=.none) rfl<|aU<|di hos hds (x:=.int i u) rfl<|aU<|di hos hds (x:=.none) rfl<|ab ?_
 refine aU<|slicePart_none ?_
 refine sC (by decide)<|aU<|slicePart_none<|aU<|slicePart_int<|aU<|ab ?_
 show au _ _ (match sz none (some i) 1 n with|(lo,hi)=>pure (lo,(1:Int),kD lo hi 1)) _ _ s
 rw[Cq i n]
 show au _ _ (pure ((0:Int),(1:Int),kD (0:Int) ((du n i):Int) 1)) _ _ s
 rw[Bp]
 exact ab h
theorem UB(xs:Array Value)(k:Nat):((ak k).filterMap λ(j:Nat)=>xs[((0:Int)+(j:Int)*1).toNat]?).toArray=(xs.toList.take k).toArray:=by
 have e:(λ(j:Nat)=>xs[((0:Int)+j*1).toNat]?)=λj=>xs[0+j]?:=by
  funext j;have:((0:Int)+j*1).toNat=0+j:=by rw[Int.mul_one,Int.zero_add,b9];rfl
  rw[this]
 rw[e];have:=pick_run xs 0 k;rw[I6] at this;have a:((λx=>xs[x]?)∘λx=>0+x)=λj=>xs[0+j]?:=rfl;rw[a] at this;rw[this,iF]
theorem HE(S:bR Z st g fx ρ s)(r:RV Z g ρ (.tup xs) x)(hs:s.heap.IsSliceOf sl .none (.int i u) .none)(hl:xs.length<=dI):
  br Z A (nV x<|.ref sl) st (.tup<|xs.take<|du xs.length i) g fx ρ s/\s.TypeIs x "tuple":=by
 refine nZ r λt vs n zz3 ho rs=>?_
 subst zz3
 have ho':=S.keep _ _ ho
 have ht:mU s.heap t vs:=⟨_,ho',rfl,n,rfl⟩
 have hlen:=rs.length
 simp -iota only[aL] at hlen
 refine⟨λE Q h=>?_,ht.typeIs⟩
 refine sA (id hs) λos hos hcs hds=>?_
 have hTs:s.TypeIs (.ref sl) "slice":=⟨os,hos,hcs⟩
 have hsz:sizeOk (.seq (vs.toList.take<|du vs.size i).toArray):=by show(vs.toList.take<|du vs.size i).toArray.size<=sizeLine;rw[mv,bZ,aL];exact ah (dt _ _)<|gz<|W8 hl hlen
 delta nV
 try with_reducible refine aO ?_
 first|refine aU (ab ?_)|skip
 refine aU<|nT ht.typeIs (by decide) ?_
 refine aU<|cC ht.typeIs mS
  (bl mS ht.typeIs entry_tuple_getitem ?_<|args_tuple_getitem _ _)
 show au _ _ (ru (.ref t)>>=_) _ _ s
 refine aU<|tupleItemsOf_ ht ?_
 refine aI<|ko hTs ?_
 refine JU (by decide)<|aU<|rN hs ?_
 show au _ _ (if((0:Int)==0&&(1:Int)==1&&(du vs.size i)==vs.size)=true then _ else _) _ _ s
 by_cases hw:du vs.size i=vs.size
 ·have hyes:((0:Int)==0&&(1:Int)==1&&(du vs.size i)==vs.size)=true:=by rw[hw];simp
  refine JU hyes ?_;have e:xs.take (du xs.length i)=xs:=by rw[<-hlen,hw,hlen,cH]
  rw[e] at h;refine aI<|aU<|ko ht.typeIs<|ab ?_;show au _ _ (if((ka "tuple"==ka "tuple")=true) then _ else _) _ _ s;refine JU (by decide)<|aU<|c5<|ab ⟨_,rfl,ab<|h g ρ s (.ref t) (.refl _ _) S ⟨t,vs,n,rfl,ho,rs⟩⟩
 ·have hno:¬(((0:Int)==0&&(1:Int)==1&&(du vs.size i)==vs.size)=true):=by
   have:(du vs.size i==vs.size)=false:=by rw[beq_eq_false_iff_ne];exact hw
   rw[this];simp
  rw[if_neg hno,UB vs _]
  obtain⟨S',r'⟩:=s9 (vs:=(vs.toList.take<|du vs.size i).toArray) S s.toks b8 (bA _) dH (by simpa -iota [hlen] using rs.take (du xs.length i))
  have hq:=h _ ρ _ _ aX S' r'
  first
   |exact aI<|dE (ab ⟨_,rfl,ab hq⟩) hsz
   |exact aI<|dE (aU<|ab<|ab ⟨_,rfl,ab hq⟩) hsz
   |exact aU<|aI<|dE (ab<|ab ⟨_,rfl,ab hq⟩) hsz
   |exact aU<|aI<|dE (ab ⟨_,rfl,ab hq⟩) hsz
theorem yl(x:Str)(z:x.cps.size<=dI)(lo i:Option Int)(a b:Nat)(H:a<=b)(c:b<=x.length)(e:cJ lo i 1 x.length=cJ (some (a:Int)) (some (b:Int)) 1 x.length)(u l:Option (Int×Tok))(L:l.map (·.1)=lo)(U:u.map (·.1)=i)
  (h:∀j k,Q (.str ⟨((x.cps.toList.drop a).take<|b-a).toArray⟩ j) {s with toks:=k}):(sliceMade x t l u none).post Q s:=by
 have p:(Ar x l u none).filterMap (x.cps[·]?)=(x.cps.toList.drop a).take (b-a):=by delta Ar;rw[L,U];show(cJ lo i 1 x.length).filterMap _=_;rw[e];exact StrLaws.sliced_plain x H c
 have n:(Ar x l u none).length=b-a:=by delta Ar;rw[L,U];show(cJ lo i 1 x.length).length=_;rw[e,StrLaws.strSliceIndices_plain H c];simp
 delta sliceMade
 split
 ·rename_i hw
  simp -iota only[Option.map_none,Option.getD_none,dr,beq_iff_eq] at hw;rw[n] at hw;have d:a=0:=by omega
  have B:b=x.length:=by omega
  have f:(⟨((x.cps.toList.drop a).take<|b-a).toArray⟩:Str)=x:=by subst d B;rw[iF,uf,c9<|by simp -iota [Str.length]]
  have:=h t s.toks;rw[f] at this;exact this
 ·rw[p];refine⟨?_,h _ _⟩;show(((x.cps.toList.drop a).take<|b-a).toArray).size<=_;refine ah ?_<|gz z;simp -iota only[mv,bZ,e8,aL];exact abe
theorem J7(i:Int)(n:Nat):cJ none (some i) 1 n=cJ (some ((0:Nat):Int)) (some ((du n i:Nat):Int)) 1 n:=by show CJ 0 (max 0<|min (if i<0 then i+n else i) n) 1=CJ (max 0<|min (if((0:Nat):Int)<0 then((0:Nat):Int)+n else((0:Nat):Int)) n) (max 0<|min (if((du n i):Int)<0 then((du n i):Int)+n else((du n i):Int)) n) 1;rw[<-kh,<-kh,<-kh,uU<|dW n,uU<|Ab n i];rfl
theorem J8(i:Int)(n:Nat):cJ (some i) none 1 n=cJ (some ((du n i:Nat):Int)) (some (n:Int)) 1 n:=by show CJ (max 0<|min (if i<0 then i+n else i) n) n 1=CJ (max 0<|min (if((du n i):Int)<0 then((du n i):Int)+n else((du n i):Int)) n) (max 0<|min (if(n:Int)<0 then n+n else n) n) 1;rw[<-kh,<-kh,<-kh,uU<|Ab n i,uU<|aF n]
theorem HF(S:bR Z st g fx ρ s)(r:RV Z g ρ (.str x) v)(H:s.heap.IsSliceOf L .none (.int i u) .none)(b:x.cps.size<=dI):
  br Z A (nV v<|.ref L) st (.str ⟨(x.cps.toList.take<|du x.cps.toList.length i).toArray⟩) g fx ρ s/\s.TypeIs v "str":=by
 refine eS r λt z=>?_
 subst z
 refine⟨λE Q h=>I1 (l:=none) (u:=some (i,u)) (st:=none) H rfl ?_,typeIs_str _ _ _⟩
 have e:x.length=x.cps.toList.length:=aL.symm
 refine yl x b none (some i) 0 (du x.length i) (dW _) (Ab _ _) (J7 i _) _ _ rfl rfl λc k=>?_
 rw[e,uf,iF]
 exact h g ρ _ _ (.refl _ _) (S.tok k) ⟨c,rfl⟩
theorem vH(S:bR Z st g fx ρ s)(r:RV Z g ρ (.str x) v)(H:s.heap.IsSliceOf L (.int i u) .none .none)(b:x.cps.size<=dI):
  br Z A (nV v<|.ref L) st (.str ⟨(x.cps.toList.drop<|du x.cps.toList.length i).toArray⟩) g fx ρ s/\s.TypeIs v "str":=by
 refine eS r λt z=>?_
 subst z
 refine⟨λE Q h=>I1 (l:=some (i,u)) (u:=none) (st:=none) H rfl ?_,typeIs_str _ _ _⟩
 have e:x.length=x.cps.toList.length:=aL.symm
 refine yl x b (some i) none (du x.length i) x.length (Ab _ _) (aF _) (J8 i _) _ _ rfl rfl λc k=>?_
 rw[e,c9 (by rw[e8];exact aF _)]
 exact h g ρ _ _ (.refl _ _) (S.tok k) ⟨c,rfl⟩
end
theorem rI(h:rW l=true)(o i:Value):subscripted l false o i=operate [o,i] (nV o i):=by cases l<;>first|rfl|exact ae h
theorem kO{env:Env}(h:ip o=false):G4 o attr env whole=whole:=by
 cases o with
 |Call f as k pos=>
  cases f with
  |Name id p=>
   cases as with
   |nil=>
    cases k with
    |nil=>
     have this:(id != ("super":Str))=true:=by
      rw[bne];cases q:id==("super":Str) with
      |false=>rfl
      |true=>rw[show ip (.Call (.Name id p) [] [] pos)=((id==("super":Str))&&true&&true) from rfl,q] at h;exact ae h
     delta G4;dsimp only;rw[this];rfl
    |cons=>rfl
   |cons=>rfl
  |_=>rfl
 |_=>rfl
section
variable{P:Prop}{σ:ba}{v i:SV}{r:SV×ba}
theorem Nc{n:Nat}(h:si n j=true):n<=dI:=cn h λh z=>eW h
theorem QI(e:i5 σ v i=some r)(b:∀k xs,i=.int k->v=.tup xs->xs.length<=dI->(.tup<|xs.take<|du xs.length k,σ)=r->P)(d:∀k x,i=.int k->v=.str x->x.cps.size<=dI->(.str ⟨(x.cps.toList.take<|du x.cps.toList.length k).toArray⟩,σ)=r->P)
  (f:∀k xs,i=.int k->il σ.st v=some xs->xs.length<=dI->dh false (xs.take<|du xs.length k) σ=r->P):P:=av e λk H e=>gA H λH=>by
 cases v with
 |tup xs=>exact iZ e λh e=>b k xs H rfl (Nc h) e
 |str x=>exact iZ e λh e=>d k x H rfl (Nc h) e
 |_=>exact av e λxs a e=>iZ e λh e=>f k xs H a (Nc h) e
theorem Ih(e:i6 σ v i=some r)(b:∀k x,i=.int k->v=.str x->x.cps.size<=dI->(.str ⟨(x.cps.toList.drop<|du x.cps.toList.length k).toArray⟩,σ)=r->P)
  (d:∀k xs,i=.int k->il σ.st v=some xs->xs.length<=dI->dh false (xs.drop<|du xs.length k) σ=r->P):P:=av e λk H e=>gA H λH=>by
 cases v with
 |str x=>exact iZ e λh e=>b k x H rfl (Nc h) e
 |_=>exact av e λxs a e=>iZ e λh e=>d k xs H a (Nc h) e
end
section
variable{Z:dg}{C:bH}{M:bQ}{K:Frag}{n:Nat}{ns:bL}{c:TC}{env:Env}{A:bq}{g fx:FH}{ρ:dM}{s:Shared}{σ bk:ba}{E:Value->Shared->Prop}{Q:Value->Shared->Prop}
theorem Km(O:wZ Z K M)(h:eK Z n ns C M t e)(ha:a<gT)(hx:Z.nm a=x)(hs:ip e=false):eK Z n ns C M (.attr t a) (.Attribute e x L):=
 λσ bk v ev env A g fx ρ s V hA G E Q P=>Ve ev λo e1 hw=>by
  subst hx;show au _ _ (do
   let o<-G4 _ _ env (eval _ env)
   kp L.atName
   let r<-jF [o] (getAttr o (Z.nm a) true)
   letTemporaryGo _ o r
   pure r) Q E s
  rw[kO hs];exact aU<|h σ _ _ e1 env A g fx ρ s V hA G E _ λY J N bG y m j b B=>aU<|c8<|aU<|aO<|(Cj O b.eN hw B ha).post b rfl rfl
   λw f d H z p k l D=>aU<|wpAny_letTemporaryGo<|ab<|(P.of m j) w f d H z p k l D
abbrev NL(Z:dg)(A:bq)(y z:Value)(E Q:Value->Shared->Prop)(s:Shared):Prop:=∃T,s.TypeIs y T/\(∃id,lj (.type T) "__getitem__"=pure (some<|.builtin id))/\au (Mo Z) A (nV y z) Q E s
theorem XX(S:bR Z σ.st g fx ρ s){o j v:SV}(w:fb σ.st o j=some v)(b:RV Z g ρ o y)(d:RV Z g ρ j z)(e:rj n A)(h:∀g' a s' x,dG g ρ g' a->bR Z σ.st g' fx a s'->RV Z g' a v x->Q x s'):NL Z A y z E Q s:=by
 unfold fb at w;cases hd:hU σ.st o with
 |some p=>rw[hd] at w;exact av w λr f w=>av w λk m w=>by subst m;obtain⟨Y,H⟩:=zM S hd f w d b e.u;exact xX _ H ⟨_,xe.lookup⟩<|Y E Q h
 |none=>
  rw[hd] at w;exact av w λt O w=>av w λi I l=>gA I λq=>by
   subst q;obtain⟨Y,H⟩:=BQ S O l b d;rcases H with H|H
   ·exact xX _ H ⟨_,nU.lookup⟩<|Y E Q h
   ·exact xX _ H ⟨_,mS.lookup⟩<|Y E Q h
theorem Pq{e i:ao}(he:eK Z n ns C M te e)(hi:eK Z n ns C M ti i)(hs:rW i=true):eK Z n ns C M (.sub te ti) (.Subscript e i pos):=
 λσ bk v ev env A g fx ρ s V J G E Q P=>YH ev λo k j e1 e2 hw=>by refine CS<|he σ _ _ e1 env A g fx ρ s V J G E _ λB f h I y w l t D=>?_;refine hi k _ _ e2 env A B f h I V J t E _ λO d N U z b m a H=>?_;obtain⟨T,hT,⟨id,hl⟩,Y⟩:=XX a.eN hw (D.mono b) H J λg' L s' x X S r=>((P.of w l).of b m) g' d L s' x X (λu u=>rfl) (a.with X S rfl) r;exact jc hT hl Y<|rI hs _ _
theorem ta(G:c7 Z ns env σ g fx ρ s)(a b c:Value):∃g',dG g ρ g' ρ/\c7 Z ns env σ g' fx ρ {s with heap:=s.heap.push {cls:=.type "slice",data:=.fields #[a,b,c]}}/\(s.heap.push {cls:=.type "slice",data:=.fields #[a,b,c]}).IsSliceOf s.heap.objs.size a b c:=
 ⟨_,aX,G.with aX (G.eN.grow s.toks b8) rfl,Heap.IsSliceOf.new ..⟩
theorem tG.list{v:SV}(P:tG Z ns env bk v g fx ρ Q)(G:c7 Z ns env σ g fx ρ s)(e:dh false Y σ=(v,bk)):∀g' a s' y,dG g ρ g' a->bR Z (dh false Y σ).2.st g' fx a s'->RV Z g' a (dh false Y σ).1 y->Q y s':=by have h:=D3 false Y σ;rw[e] at h ⊢;exact λg' a s' y X S r=>P g' fx a s' y X (λz z=>rfl) (G.with X S h) r
theorem Uo(G:c7 Z ns env σ g fx ρ s){o j v:SV}(D:i5 σ o j=some (v,bk))(p:RV Z g ρ o y)(w:RV Z g ρ j z)(h:s.heap.IsSliceOf O .none z .none)(P:tG Z ns env bk v g fx ρ Q):NL Z A y (.ref O) E Q s:=
 QI D
  (λk U H f l e=>dQ e λb d=>by subst H f b d;obtain⟨t,rfl⟩:=w;obtain⟨Y,a⟩:=HE G.eN p h l;exact⟨_,a,⟨_,mS.lookup⟩,Y.post G rfl rfl P⟩)
  (λk x H f l e=>dQ e λb d=>by subst H f b d;obtain⟨t,rfl⟩:=w;obtain⟨Y,a⟩:=HF G.eN p h l;exact⟨_,a,⟨_,OC.lookup⟩,Y.post G rfl rfl P⟩)
  (λk U H I l e=>by subst H;obtain⟨t,rfl⟩:=w;obtain⟨B,a⟩:=sZ G.eN I p h .none (.int k t) .none aR l (λm J N=>by rw[HW,J];exact N.take _)<|P.list G e;exact⟨_,a,⟨_,nU.lookup⟩,B⟩)
theorem Ky(G:c7 Z ns env σ g fx ρ s){o j v:SV}(D:i6 σ o j=some (v,bk))(b:RV Z g ρ o y)(d:RV Z g ρ j z)(h:s.heap.IsSliceOf O z .none .none)(P:tG Z ns env bk v g fx ρ Q):NL Z A y (.ref O) E Q s:=
 Ih D
  (λk x H w l e=>dQ e λf p=>by subst H w f p;obtain⟨t,rfl⟩:=d;obtain⟨Y,a⟩:=vH G.eN b h l;exact⟨_,a,⟨_,OC.lookup⟩,Y.post G rfl rfl P⟩)
  (λk U H I l e=>by subst H;obtain⟨t,rfl⟩:=d;obtain⟨B,a⟩:=sZ G.eN I b h (.int k t) .none .none aR l (λm J N=>by rw[DL,J];exact N.drop _)<|P.list G e;exact⟨_,a,⟨_,nU.lookup⟩,B⟩)
theorem Ke{e i:ao}(he:eK Z n ns C M te e)(hi:eK Z n ns C M ti i):eK Z n ns C M (.i5 te ti) (.Subscript e (.Slice none (some i) none p) pos):=
 λσ bk v ev env A g fx ρ s V hA G E Q P=>U9 ev λo h j aT e1 e2 hw=>by refine CS<|he σ _ _ e1 env A g fx ρ s V hA G E _ λD f d J y B k m H=>Og ?_;rw[G0,GZ];refine ab<|hi h _ _ e2 env A D f d J V hA m E _ λi0 N U iA z a l t I=>ab ?_;refine sA (ta t .none z .none) λlg x w O=>?_;obtain⟨T,hT,⟨id,hl⟩,Y⟩:=Uo w hw ((H.mono a).mono x) (I.mono x) O<|((P.of B k).of a l).of x λu u=>rfl;exact jc hT hl Y rfl
theorem Du{e i:ao}(he:eK Z n ns C M te e)(hi:eK Z n ns C M ti i):eK Z n ns C M (.i6 te ti) (.Subscript e (.Slice (some i) none none p) pos):=
 λσ bk v ev env A g fx ρ s V hA G E Q P=>Mb ev λo h j aT e1 e2 hw=>by refine CS<|he σ _ _ e1 env A g fx ρ s V hA G E _ λD f d J y B k m H=>Og ?_;rw[G0,GZ];refine hi h _ _ e2 env A D f d J V hA m E _ λi0 N U iA z a l t I=>ab<|ab ?_;refine sA (ta t z .none .none) λlg x w O=>?_;obtain⟨T,hT,⟨id,hl⟩,Y⟩:=Ky w hw ((H.mono a).mono x) (I.mono x) O<|((P.of B k).of a l).of x λu u=>rfl;exact jc hT hl Y rfl
theorem Hp(he:eK Z n ns C M te e):eK Z n ns C M (.vJ te) (.Subscript e (.Slice none none (some<|.UnaryOp .USub (.Constant (.int 1) k p1) p2) p) pos):=
 λσ bk v N env A g fx ρ s V hA G E Q P=>QJ N λo a xs e1 hx hl N=>by refine CS<|he σ _ _ e1 env A g fx ρ s V hA G E _ λD f h J y B j m H=>Og ?_;rw[G0,GZ];refine ab<|ab<|Fq (C:=C) (M:=M) (Fs) a a (.int<|-1) rfl env A D f h J V hA m E _ λi0 Y iP iA z x l w I=>?_;refine sA (ta w .none .none z) λlg d b hsl=>?_;obtain⟨t,rfl⟩:=I;obtain⟨hq,hT⟩:=sZ b.eN hx ((H.mono x).mono d) hsl .none .none (.int (-1) t) (λq=>nomatch q) hl (λitems hz rs=>by rw[krv_pick];exact rs.reverse)<|(((P.of B j).of x l).of d λu u=>rfl).list b N;exact jc hT nU.lookup hq rfl
end
theorem dD.replicate{Z:dg}{g:FH}{ρ:dM}(r:RV Z g ρ x v)(n:Nat):dD Z g ρ (bf n x) (bf n v):=by
 induction n with
 |zero=>exact rfl
 |succ n i=>exact xW v _ rfl r i
theorem Mz(v:Value)(n:Nat):(List.foldl (λ(x a:Array Value)=>x++a) #[] (bf n #[v])).toList=bf n v:=by
 rw[listMul_foldl];have h:(bf n [v]).flatten=bf n v:=by
  induction n with
  |zero=>rfl
  |succ n i=>rw[qZ,List.flatten_cons,i,qZ];rfl
 simpa -iota using h
section
variable{Z:dg}{C:bH}{M:bQ}{n:Nat}{ns:bL}{c:TC}{st:List SO}{g fx:FH}{ρ:dM}{s:Shared}{A:bq}
theorem rV(S:bR Z st g fx ρ s)(m:∃o,Z.base sysModules=some o)(h:s.heap.get? a=none):a≠sysModules:=by rintro rfl;refine eS m λo H=>?_;rw[S.eC _ _ H] at h;exact iG h
theorem Hs(k:∃o,Z.base sysModules=some o):eK Z n ns C M (.fM m) (.Dict [] [] p):=
 λw r v e env A g fx ρ s V t G E Q P=>by
  refine wpAny_Dict_empty ?_;have h:=rV G.eN k<|bA s.heap;cases m with
  |true=>have e:=e;exact m7 e λa b=>by subst a b;refine sA (G.eN.P9 s.toks b8 (bA _) (.dict [] []) λi l x=>⟨rfl,[],0,dH,rfl,rfl,⟨[],.nil _⟩,h⟩) λi f H j=>P i fx _ _ _ H (λz z=>rfl) (G.with H f rfl) j
  |false=>have e:=e;exact m7 e λa b=>by subst a b;refine i9 (G.eN.Qa (h':=s.heap.push<|dictOf [] 0) s.toks b8 (bA _) dH) λf H=>P _ fx _ _ _ aX (λz z=>rfl) (G.with aX f rfl) ⟨_,[],0,rfl,H,rfl,rfl,⟨[],.nil _⟩,h⟩
theorem BX(h:c6 k=true):cF (.str k) []=some none:=by show((gd (c6 k)<|EZ k).bind λd=>(eQ []).bind λD=>gd (eF d&&D.all (λx=>eF x&&fQ x==fQ d)&&decide (d.depth<=b7))<|D.findIdx? λx=>bc x d)=_;rw[h];show gd (c6 k&&true&&decide ((EZ k).depth<=b7)) none=_;rw[h];rfl
theorem Hr(hm:∃o,Z.base sysModules=some o):eK Z n ns C M (.B6 k v) (.Dict [some<|.Constant (.str k) a p] [.Constant (.str v) b q] pos):=
 λσ bk w ev env A g fx ρ s V hA G E Q P=>QK ev λhok e1 e2=>by
  subst e1 e2;have hno:=rV G.eN hm<|bA s.heap;have hshape:(evalEachOpt [some<|.Constant (.str k) a p] env).zip ((CL [.Constant (.str v) b q] env).map λv=>do let x<-v;kp pos;pure x)
    =[(eval (.Constant (.str k) a p) env,(do let x<-eval (.Constant (.str v) b q) env;kp pos;pure x:xM Value))].map λp=>(some p.1,p.2):=rfl
  rw[arm_eval_Dict,hshape,dictDisplay_pairs [(_,_)] (List.cons_ne_nil _ _) (show 1<17 by decide)];refine aU<|c8<|aU ?_;refine aU<|lQ<|aU<|aO ?_;refine JU (by simp -iota)<|aU<|evalPairs_cons<|u2<|aU<|u2<|aU<|c8<|ab<|evalPairs_nil<|aO ?_;rw[cb];have X:fZ Z g ρ {s with heap:=s.heap.push<|dictOf [] 0,toks:=s.toks+1+1} s.heap.objs.size [] [] [] 0:=⟨dH,rfl,rfl,⟨[],.nil _⟩,hno⟩;have hkp:∀b o,g b=some o->(s.heap.push<|dictOf [] 0).get? b=some o:=λb o e=>b8 b o<|G.eN.keep b o e;have hf:=BX hok;refine aI (aI<|aI<|nr hkp X hf ⟨_,rfl⟩ (by have:=hA.u;exact aac this) (dW _) λd h' t n' h1 ho hs=>ab ?_);dsimp only;rw[gH];have hk:=λb o e=>(hs.2 b<|bN<|bW e).trans<|b8 b o e;refine ab<|ab<|ab<|ab ?_;refine i9 (G.eN.Qa t hk (bA _) ho) λS' hg=>?_;have Y:=zo (val:=.str v) (s':={s with heap:=h',toks:=t}) (g':=mG Z g s.heap h') aX X hf h1 (RV.mono (dG.refl g ρ) (⟨_,rfl⟩:RV Z g ρ (.str k) (.str k s.toks))) rfl (⟨_,rfl⟩:RV Z (mG Z g s.heap h') ρ (.str v) (.str v<|s.toks+1)) ho;exact P _ fx _ _ _ aX (λz z=>rfl) (G.with aX S' rfl) ⟨_,_,_,rfl,hg,Y.keys,Y.vals.free rfl,Y.ok,Y.no⟩
theorem KZ{E:Value->Shared->Prop}{Q:Value->Shared->Prop}{k:Int}(H:s.heap.get? l=some (lV #[y] 0))(a:k.natAbs<=dI)
  (h:Q (.ref s.heap.objs.size) {s with heap:=s.heap.push<|lV (bf k.toNat y).toArray 0}):au (Mo Z) A (mT .Mult (.ref l)<|.int k t) Q E s:=by
 have a:k.natAbs<=4000:=a
 refine wpAny_binaryOp_repeat_ref (by decide) ⟨_,H,rfl⟩ (λb=>typeIs_int b k t) noFill_list_mul F.fills_int_mul F.slot_int_rmul repeat_list F.slot_int_index.lookup
  (u4 F.slot_int_rmul (typeIs_int s k t) F.entry_int_rmul (F.args_int_rmul_2 _ _) (int___rmul___int_list k t l #[y] 0)
   ⟨H,rfl,⟨_,H,rfl⟩,u4 F.slot_list_mul ⟨_,H,rfl⟩ F.entry_list_mul (F.args_list_mul_2 _ _)
    (AutoListH.list___mul___list_int_3 l #[y] 0 k t (by simp -iota [d9.List.listFitsIndex];omega) (by show ¬1*k.toNat>_;omega) (by simp -iota [d9.List.listTooLong,sizeLine];omega))
    ⟨H,?_⟩⟩)
 have e:List.foldl (λx d=>x++d) #[] (bf (if(#[y]:Array Value).isEmpty=true then 0 else k.toNat) #[y])=(bf k.toNat y).toArray:=Array.ext'<|Mz y k.toNat
 rw[e]
 exact h
theorem Pt(he:eK Z n ns C M te e)(hn:eK Z n ns C M tn e')(hs:bD e=true):eK Z n ns C M (.rep m te tn) (.BinOp (.List [e] p) .Mult e' pos):=
 λσ bk v ev env A g fx ρ s V hA G E Q P=>YI ev λx j k D e1 e2 hk ev=>by refine wpAny_BinOp (wpAny_List<|(jU hs he mF) σ j [x] (by show(bX C M te σ).bind _=_;rw[e1];rfl) env A g fx ρ s V hA G p E _ λl w a i ys N I b r=>?_);obtain⟨y,ys',rfl,r,rfl⟩:=r;refine⟨gz (show 1<=4000 by decide),?_⟩;have f:dG l a (dO Z l i.heap (i.heap.push<|lV #[y] 0) λu=>false) a:=aX;have L:=b.with f (b.eN.grow i.toks b8) rfl;refine hn j _ _ e2 env A _ w a _ V hA L E _ λlg B RP U z h J d O=>?_;obtain⟨t,rfl⟩:=O;refine KZ (d.eN.keep _ _<|h.g _ _<|fk b.eN (bA _) dH rfl (b.eN.fresh<|bA _).2.2) hk ?_;obtain⟨g',dp,S',X',r',H⟩:=vZ (m:=m) (vs:=(bf k.toNat y).toArray) d.eN U.toks b8 (bA _) dH (dD.replicate ((r.mono f).mono h) _) D rfl;rw[ev] at S' r' H;exact(((P.of N I).of f λu u=>rfl).of h J) _ B dp _ _ X' (λu u=>rfl) (d.with X' S' H) r'
end
def tH(Z:dg)(h:Heap)(f:Value):Prop:=∃k,(k=Keeper.frame\/k=Keeper.machine\/k=Keeper.boundFrame)/\Looks (Mo Z) h (keeperOf f) k
theorem tH.builtin{Z:dg}{h:Heap}{id:String}:tH Z h (.builtin id):=⟨.machine,.inr<|.inl rfl,R5 rfl⟩
theorem tH.type{Z:dg}{h:Heap}{id:String}:tH Z h (.type id):=⟨.machine,.inr<|.inl rfl,R5 rfl⟩
def nA(Z:dg)(n:Nat)(C:bH):Prop:=
 ∀f args st v t,C f args st=some (v,t)->∀A g fx ρ s b V,rj n A->bR Z st g fx ρ s->RV Z g ρ f b->dD Z g ρ args V->tH Z s.heap b/\br Z A (call b V) t v g fx ρ s
theorem tF{es:List ao}:es.all bD=true->(sI p<|jB es env).any (·.1)=false:=by
 induction es with
 |nil=>intro _;exact rfl
 |cons e es i=>intro h;exact cn h λH b=>by rw[mh H];exact i b
theorem Rz{l:List (Bool×b)}(h:l.any (·.1)=false):l.all (λx=>!x.1)=true:=
 aZ.mpr λx H=>by
  cases q:x.1 with
  |false=>rfl
  |true=>exact absurd q<|JC.mp h x H
theorem Hd{es:List ao}(h:es.all bD=true):(sI p<|jB es env).all (λx=>!x.1)=true:=Rz<|tF h
section
variable{Z:dg}{C:bH}{M:bQ}{K:Frag}{n:Nat}{ns:bL}{c:TC}{st:List SO}{g fx:FH}{ρ:dM}{s:Shared}{A:bq}{E:Value->Shared->Prop}
theorem zW{args:List (Bool×xM Value)}(ha:args.any (·.1)=false)(h:au (Mo Z) A (tK args) (λvs s'=>Q ⟨vs,[]⟩ s') E s):au (Mo Z) A (evalArgs f true args []) Q E s:=by
 cases args with
 |nil=>refine aU<|d3 h (λvs s' h'=>?_) λz z x=>x;refine aU<|ab ?_;refine aO<|aU<|ab<|aU<|ab<|ab h'
 |cons b rest=>
  obtain⟨b,x⟩:=b;cases b with
  |false=>exact evalArgs_plain h
  |true=>exact ae ha
theorem jw{es:List ao}(H:es.all bD=true)
  (h:au (Mo Z) A (tK<|sI O<|jB es env) (λvs b=>tH Z b.heap f/\au (Mo Z) A (call f<|first++vs) Q E b) E s):
  au (Mo Z) A (callWith O f first (sI O<|jB es env) []) Q E s:=
 callWith_of (P:=λh=>tH Z h f) (by rw[tF H];rfl) (λh p=>p) (zW (tF H) h)
theorem tq(h:rC f=true):eval (.Call f es [] p) env=(do callWith p (<-eval f env) [] (sI p<|jB es env) []):=by cases f<;>first|rfl|exact ae h
theorem Kj(hC:nA Z n C)(hf:eK Z n ns C M tf f)(he:oX Z n ns C M U es)(hs:es.all bD=true)(hn:rC f=true):
  eK Z n ns C M (.call tf U) (.Call f es [] O):=
 λσ bk v ev env A g fx ρ s V L G E Q P=>Vd ev λgv l vs m N e1 e2 hw e=>by subst e;rw[tq hn];refine aU<|hf σ _ _ e1 env A g fx ρ s V L G E _ λz d i I y w p t D=>jw hs<|he l _ _ e2 env A z d i I V L t O E _ λB h j J ys x r b H=>?_;refine i9 (hC _ _ _ _ _ hw A B h j J y ys L b.eN (D.mono x) H) λhh Y=>⟨hh,Y.post (bk:=⟨m.loc,N⟩) b rfl rfl<|(P.of w p).of x r⟩
structure NmM(Z:dg):Prop where
 append:Z.nm uW=("append":Str)
 extend:Z.nm RC=("extend":Str)
 pop:Z.nm aff=("pop":Str)
 index:Z.nm WS=("index":Str)
 get:Z.nm ack=("get":Str)
 DA:Z.nm ma=("setdefault":Str)
noncomputable def TF:Nat->String
 |0=>"list.append"|1=>"list.extend"|2=>"list.pop"|3=>"list.index"|4=>"dict.get"|_=>"dict.setdefault"
noncomputable def JY:Nat->String
 |4=>"dict"|5=>"dict"|_=>"list"
theorem uN(S:bR Z st g fx ρ s)(e:(il st V).isSome=true)(r:RV Z g ρ V x):s.TypeIs x "list"/\∀a,x=.ref a->∃o,s.heap.get? a=some o/\o.dict=none:=by refine eS (gh.mp e) λl e=>nZ (mi S e r) λa j n d h z=>?_;subst d;exact⟨⟨_,h,rfl⟩,λb H=>⟨_,o8 H▸h,rfl⟩⟩
theorem Gv(S:bR Z st g fx ρ s)(e:(hU st V).isSome=true)(r:RV Z g ρ V x):s.TypeIs x "dict"/\∀a,x=.ref a->∃o,s.heap.get? a=some o/\o.dict=none:=by obtain⟨⟨j,l⟩,e⟩:=gh.mp e;refine rF (tw S e r) λD d n z X=>?_;subst z;exact⟨⟨_,X.at_,rfl⟩,λb h=>⟨_,o8 h▸X.at_,rfl⟩⟩
theorem Qh(N:NmM Z)(S:bR Z st g fx ρ s){a:Nat}(h:oG st O a=true)(H:a<=5)(r:RV Z g ρ O x):
  PlainAttrs (JY a)/\Jt (JY a) (Z.nm a) (TF a)/\typeOf (.builtin<|TF a)=pure (.type "method_descriptor")/\s.TypeIs x (JY a)/\∀b,x=.ref b->∃o,s.heap.get? b=some o/\o.dict=none:=by
 rcases lT a 3 with q|q
 ·rcases lT a 1 with Q|Q
  ·obtain rfl:=jN<|aP Q;exact I9 nG (N.append▸F.slot_list_append) F.type_list_append<|uN S h r
  ·rcases lT a 2 with d|d
   ·obtain rfl:=cX (aP d) Q;exact I9 nG (N.extend▸OD) F.type_list_extend<|uN S h r
   ·obtain rfl:=cX (aP q) d;exact I9 nG (N.pop▸F.slot_list_pop) F.type_list_pop<|uN S h r
 ·rcases lT a 4 with Q|Q
  ·obtain rfl:=cX (aP Q) q;exact I9 nG (N.index▸Se) F.type_list_index<|uN S h r
  ·rcases lT a 5 with d|d
   ·obtain rfl:=cX (aP d) Q;exact I9 Sf (N.get▸yR) F.type_dict_get<|Gv S h r
   ·obtain rfl:=cX H d;exact I9 Sf (N.DA▸Ha) F.type_dict_setdefault<|Gv S h r
section
variable{P:Prop}{o v:SV}{a k:Nat}{args:List SV}{σ bk:ba}
theorem FU(e:gx o a args σ=some (v,bk))(l:∀k x,a=0->o=.h k->args=[x]->zz k x σ=some bk->.none=v->P)(m:∀k x,a=1->o=.h k->args=[x]->zy k x σ=some bk->.none=v->P)
  (r:∀k,a=2->o=.h k->args=[]->UM k σ=some (v,bk)->P) (t:a=3->td σ.st o args=some v->σ=bk->P) (w:a=4->Qk σ.st o args=some v->σ=bk->P)
  (y:∀k x d,a=5->o=.h k->args=[x,d]->l3 k x d σ=some (v,bk)->P):P:=by
 rcases a with _|_|_|_|_|_|a
 ·exact av e λk H e=>av e λx b e=>cR e λz h e=>IS H λH=>jq b λb=>dQ e λf i=>l k x rfl H b (i▸h) f
 ·exact av e λk H e=>av e λx b e=>cR e λz h e=>IS H λH=>jq b λb=>dQ e λf i=>m k x rfl H b (i▸h) f
 ·exact av e λk H e=>pJ e λb e=>IS H λH=>r k rfl H (bg.mp b) e
 ·exact KY e λh e=>t rfl h e
 ·exact KY e λh e=>w rfl h e
 ·exact av e λk H e=>av e λp j e=>IS H λH=>y4 j λj=>y k _ _ rfl H j e
 ·exact aR e
theorem Qg(e:gx o a args σ=some (v,bk)):a<=5:=
 FU e (λz z h z z z z=>h▸dW 5) (λz z h z z z z=>h▸(by decide)) (λz h z z z=>h▸(by decide)) (λh z z=>h▸(by decide)) (λh z z=>h▸(by decide)) λz z z h z z z=>h▸(by decide:5<=5)
theorem Mn(e:E9 args=some p)(b:args=[p.1]->p.2=.none->P)(f:args=[p.1,p.2]->P):P:=by
 rcases args with _|⟨x,_|⟨d,_|_⟩⟩
 ·exact aR e
 ·exact dQ (aa e) λh H=>b (h▸rfl) H.symm
 ·exact dQ (aa e) λh H=>f<|h▸H▸rfl
 ·exact aR e
end
theorem Lz{σ bk:ba}(S:bR Z σ.st g fx ρ s){ov v:SV}{a:Nat}(e:gx ov a vs σ=some (v,bk))(r:RV Z g ρ ov x)(G:dD Z g ρ vs ys)(J:A.units+65<cLine):
  br Z A (call (.builtin<|TF a)<|x::ys) bk.st v g fx ρ s/\bk.loc=σ.loc:=
 FU e
  (λk w H O V h B=>by subst H O V B;refine iz G λz zs f t l=>?_;subst f;subst l;exact IT S rfl h r t)
  (λk w H O V h B=>by subst H O V B;refine iz G λz zs f t l=>?_;subst f;subst l;exact It S rfl h r t)
  (λk H O V h=>by subst H O V;obtain rfl:=G;exact UA S rfl h r)
  (λH h B=>av h λw D h=>av h λxs hx h=>pJ h λhl h=>av h λq hq h=>cR h λi L V=>av L λj hj L=>jq D λD=>by obtain rfl:=aa L;subst H B V D hj;refine iz G λz zs f t l=>?_;subst f;subst l;exact⟨L8 S hx (eW hl) hq r t (by simp only[b7];exact aad J),rfl⟩)
  (λH h B=>av h λp N h=>av h λq hd h=>av h λu U hg=>by
   subst H B;refine⟨Mn N (λD h2=>?_) λD=>?_,rfl⟩
   ·subst D;refine iz G λz zs f t l=>?_;subst f;subst l;exact Ij S hd U t r (h2▸hg) J
   ·subst D;obtain⟨z,zs,rfl,t,z2,Q,rfl,I,rfl⟩:=G;exact Ii S hd U t r I hg J)
  (λk w d H O V h=>av h λp N h=>av h λu U h=>pJ h λY h=>cR h λy hy h=>dQ h λe1 e2=>by subst H O V e1 e2;obtain⟨z,zs,rfl,t,z2,Q,rfl,I,rfl⟩:=G;exact⟨uo S (EH N) U (cn Y λa m=>a) t r I (cn Y λm b=>eW b) hy J,by cases u<;>rfl⟩)
theorem Gm{es:List ao}(H:es.all bD=true)(h:es.length<30):methodCallForm (es.length+([]:List Keyword).length) (sI p<|jB es env) (backToKw p<|keywordEach [] env)=true:=by unfold methodCallForm;rw[Hd H];exact decide_eq_true h
theorem A6(O:wZ Z K M)(N:NmM Z)(hC:nA Z n C){a:Nat}{o:ao}{L D:Pos}(ho:eK Z n ns C M to o)(he:oX Z n ns C M tes es)(hs:es.all bD=true)(hlen:es.length<30)
  (ha:a<gT) (hx:Z.nm a=x) (hsup:ip o=false) (hline:(L.endLine==D.line)=true):eK Z n ns C M (.bj to a tes) (.Call (.Attribute o x L) es [] D):=
 λσ bk v ev env A g fx ρ s V hA G E Q P=>by
  subst hx;have hpos:methodCallPos true o env L D=pure D:=by unfold methodCallPos;rw[hline];rfl
  rw[arm_eval_Call,kO hsup];refine Vb ev (λov B i f vs aT st' e1 hi hidx hm e2 hw e=>?_) λov B vs aT e1 hi hrecv e2 hw=>?_
  ·subst e;refine aU<|ho σ _ _ e1 env A g fx ρ s V hA G E _ λfD p t bG y J H h r=>aU<|c8 ?_;unfold methodCall;rw[Gm hs hlen];refine XJ (L6 h.eN hi r) λb d es' m zz4 X=>?_;subst zz4;have hl:=(X.look a).elim (·.2) λz=>z.elim λw z=>z.elim λw z=>z.elim λw z=>aR<|hidx.symm.trans z.1;refine nK (X.bound O hm hl) λw hf ht=>aU<|aO<|method_fn (O.here h.eN) X.inst (O.ga _ X.ok.cls) (O.gn _ X.ok.cls) hf ht (by show(Jq _ _).map _=_;rw[hl];rfl)<|aU<|lP hpos
    (jw hs<|he B _ _ e2 env A fD p t bG V hA h D E _ λi0 U iP iA ys l I j yH=>?_)
   refine i9 (hC _ _ _ _ _ hw A i0 U iP iA (.ref f) (.ref b::ys) hA j.eN ⟨rfl,rfl⟩ ⟨_,_,rfl,r.mono l,yH⟩) λhh Y=>⟨hh,Y.post (bk:=⟨aT.loc,st'⟩) j rfl rfl<|(P.of J H).of l I⟩
  ·refine aU<|ho σ _ _ e1 env A g fx ρ s V hA G E _ λfD p t bG y J H h r=>aU<|c8 ?_;unfold methodCall;rw[Gm hs hlen];refine x05 (Qh N h.eN hrecv (Qg hw) r) λpa slot hty hT hd=>aU<|aO<|getMethod_builtin hT pa slot hty hd<|aU<|lP hpos
    (jw hs<|he B _ _ e2 env A fD p t bG V hA h D E _ λi0 U iP iA ys l I j yH=>⟨.builtin,?_⟩)
   refine i9 (Lz j.eN hw (r.mono l) yH hA.u) λY hloc=>Y.post j rfl hloc<|(P.of J H).of l I
end
theorem EU.len{Z:dg}{c:Addr}(h:EU Z c b):b.length<=gT:=by have:=h.nodup.length_le_of_subset λa H=>bV.mpr<|h.low a H;simpa using this
theorem Lc{e:DictEntry}(h:e.key.isStr nm=true):GY nm hsh key v (e::es)={e with val:=v}::es:=by unfold GY;rw[if_pos h]
theorem yd{e:DictEntry}(h:e.key.isStr nm=false):GY nm hsh key v (e::es)=e::GY nm hsh key v es:=by rw[GY,if_neg (by rw[h];exact a8)]
theorem HT{es:List DictEntry}:∀{j:Nat},es.findIdx? (·.key.isStr nm)=some j->(GY nm hsh key v es).map (·.key)=es.map (·.key)/\(GY nm hsh key v es).map (·.val)=(es.map (·.val)).set j v:=by
 induction es with
 |nil=>intro _ h;exact aR h
 |cons e es b=>
  intro j h;rw[dF] at h;cases hb:e.key.isStr nm with
  |true=>rw[hb] at h;obtain rfl:=aa h;rw[Lc hb];exact⟨rfl,rfl⟩
  |false=>rw[hb] at h;rw[yd hb];exact cR h λi I e=>by subst e;refine i9 (b I) λH a=>⟨congrArg (List.cons _) H,congrArg (List.cons _) a⟩
theorem HU{es:List DictEntry}:es.findIdx? (·.key.isStr nm)=none->GY nm hsh key v es=es++[⟨hsh,key,v⟩]:=by
 induction es with
 |nil=>intro _;exact rfl
 |cons e es i=>
  intro h;rw[dF] at h;cases hb:e.key.isStr nm with
  |true=>rw[hb] at h;exact iG h
  |false=>rw[hb] at h;rw[yd hb,i<|Option.map_eq_none_iff.mp h];rfl
theorem e7.keys{es b:List DictEntry}:b.map (·.key)=es.map (·.key)->e7 nm d es->e7 nm d b:=
 rG (P:=λd es=>∀b:List DictEntry,b.map (·.key)=es.map (·.key)->e7 nm d es->e7 nm d b) (λb h z=>by have:=q7.mp h;subst this;trivial)
  (λa d e es i b h r=>by
   cases b with
   |nil=>exact kj rfl<|heq_of_eq h
   |cons f b=>exact⟨r.1.imp λz=>(List.head_eq_of_cons_eq h).trans,i b (List.tail_eq_of_cons_eq h) r.2⟩) (λz z z z h=>h.elim) (λz z z z h=>h.elim) d es b
theorem e7.snoc{e:DictEntry}(H:e.key=.str (nm a) t):e7 nm b es->e7 nm (b++[a]) (es++[e]):=
 rG (P:=λb es=>e7 nm b es->e7 nm (b++[a]) (es++[e])) (λz=>⟨⟨t,H⟩,trivial⟩) (λz z z z i h=>⟨h.1,i h.2⟩) (λz z h=>h.elim) (λz z h=>h.elim) b es
theorem Ef:∀{i:Nat},gq a b i=none->a∉b:=by
 induction b with
 |nil=>intro _ _;exact aJ
 |cons x d I=>
  intro i h;unfold gq at h;cases hx:x==a with
  |true=>rw[hx] at h;exact iG h
  |false=>rw[hx] at h;exact λm=>(aQ.mp m).elim (λe=>beq_eq_false_iff_ne.mp hx e.symm)<|I h
theorem Ee:∀{i j:Nat},gq a b i=some j->a∈b:=by
 induction b with
 |nil=>intro _ _ h;exact aR h
 |cons x d I=>
  intro i j h;unfold gq at h;cases hx:x==a with
  |true=>exact aQ.mpr<|.inl (beq_iff_eq.mp hx).symm
  |false=>rw[hx] at h;exact ay _<|I h
section
variable{Z:dg}{C:bH}{M:bQ}{K:Frag}{n:Nat}{ns:bL}{c:TC}{st:List SO}{g fx:FH}{ρ:dM}{s:Shared}{A:bq}{σ bk:ba}{env:Env}
theorem ado{P:Prop}(e:rR i a v=some O)(k:∀j,gq a i.2.1 0=some j->.inst i.1 i.2.1 (i.2.2.set j v)=O->P)(b:gq a i.2.1 0=none->a<gT->.inst i.1 (i.2.1++[a]) (i.2.2++[v])=O->P):P:=by
 unfold rR at e;cases h:gq a i.2.1 0 with
 |some j=>rw[h] at e;exact k j h<|aa e
 |none=>rw[h] at e;exact iZ e λl e=>b h (eW l) e
theorem PU(e:rR i a v=some O)(l:e7 Z.nm i.2.1 es)(k:EU Z i.1 i.2.1):
  a<gT/\∃f V,O=.inst i.1 f V/\EU Z i.1 f/\∀hsh t,e7 Z.nm f (GY (Z.nm a) hsh (.str (Z.nm a) t) y es)/\∀{g':FH}{h:dM},dD Z g' h i.2.2 (es.map (·.val))->RV Z g' h v y->dD Z g' h V ((GY (Z.nm a) hsh (.str (Z.nm a) t) y es).map (·.val)):=by
 have x:=BM (a:=a) (i:=0) l
 refine ado e (λj H e=>?_) λH w e=>?_
 ·subst e;rcases x with ⟨q,_⟩|⟨J,z,Q,N,_,p⟩
  ·exact aR<|q.symm.trans H
  ·obtain rfl:J=j:=(b9 J).symm.trans<|aa<|Q.symm.trans H;refine⟨k.low a<|Ee H,_,_,rfl,k,λhsh t=>?_⟩;refine i9 (HT (hsh:=hsh) (key:=.str (Z.nm a) t) (v:=y) p) λI L=>⟨l.keys I,λm r=>L▸m.set r⟩
 ·subst e;rcases x with ⟨_,_,p⟩|⟨J,z,Q,_⟩
  ·refine⟨w,_,_,rfl,⟨?_,?_,k.cls⟩,λhsh t=>?_⟩
   ·exact cL.mpr ⟨k.nodup,d7.mpr ⟨aJ,fg⟩,λb B d D e=>Ef H<|aD.mp D▸e▸B⟩
   ·exact λb B=>(b4.mp B).elim (k.low b) λB=>aD.mp B▸w
   ·rw[HU p];refine⟨l.snoc rfl,λm r=>?_⟩;rw[a6];exact m.append<|dD.one r
  ·exact iG<|Q.symm.trans H
theorem Lb:(GY nm hsh key v es).length<=es.length+1:=by
 rw[<-putL_find];split
 ·rw[List.length_modify];exact iJ _
 ·rw[aj];exact aF _
theorem KJ(O:wZ Z K M)(S:bR Z σ.st g fx ρ s)(e:Mine.yT ov a v σ=some bk)(r:RV Z g ρ ov x)(rv:RV Z g ρ v y):
  pP Z A (R0 x (Z.nm a) y) bk.st g fx ρ s/\bk.loc=σ.loc:=av e λk hk e=>av e λi j e=>cR e λso J er=>by
 obtain rfl:=IS hk id
 subst er
 have j:=Ah j
 refine dn r λp V L=>?_
 subst L
 obtain⟨N,d,m,l,f,t,H,h5⟩:=S.objs _ _ p j V
 have X:=O.here S
 have I:InstAt s.heap p.1 (lJ i.1 p.2) i.1 (some<|dictOf d m):=⟨l,rfl,rfl,f⟩
 obtain⟨ha,as',vs',rfl,w,hr⟩:=PU (y:=y) J t H
 refine⟨λE Q hq=>?_,rfl⟩
 refine nK (O.at_ i.1 a H.cls ha) λhcn ht z=>?_
 have h:d.length<=gT:=by rw[t.length];exact H.len
 refine set_plain X I (O.sa i.1 H.cls)<|osa_open X I (O.po i.1 H.cls) ht λb=>?_
 refine dn (any_some<|O.cd i.1 H.cls) λcd hc G=>aI<|ab<|aI<|aI<|wpAny_loadPart l<|aI<|Looks.here (looks_clsIn X hc) ?_
 rw[G]
 refine ab<|aU<|ab<|aU ?_
 refine aU<|aU<|gX<|ab<|aU<|wpAny_mkText<|aU<|wpAny_loadPart f ?_
 show au _ _ (if aRefKeyMayBeTheName (Z.nm a) d.toArray=true then _ else _) _ _ _
 have D:(!d.toArray.any (·.key.isStr (Z.nm a))&&d.toArray.any (·.refKey))=false:=by rw[<-JF,<-JF,qX,AO t,Si]
 rw[aRefKeyMayBeTheName_at,D]
 refine wpAny_updatePart f ?_
 have U:(s.heap.update p.2<|Obj.putName (Z.nm a) (lL Z.w.params<|Z.nm a) (.str (Z.nm a)<|s.toks+1) y).get? p.2=some (dictOf (GY (Z.nm a) (lL Z.w.params<|Z.nm a) (.str (Z.nm a)<|s.toks+1) y d)<|putN (Z.nm a) d m):=by rw[cW _ f (by rw[putName_dict];rfl),putName_dict]
 have Y:da p.2 s.heap (s.heap.update p.2<|Obj.putName (Z.nm a) (lL Z.w.params<|Z.nm a) (.str (Z.nm a)<|s.toks+1) y):=cq ..
 refine aU<|wpAny_lookBehind U (by refine pastItsLine_dict ?_;rw[mv];refine ah Lb ?_;rw[hY];unfold gT at h;exact abd h) ?_
 refine i9 (hr (lL Z.w.params<|Z.nm a)<|s.toks+1) λw1 w2=>ab<|hq _ ρ _ aX<|S.upd _ j rfl V (λb o hb B e=>(Y.2 b B).trans e) ⟨N,_,_,(Y.2 _ N).trans l,U,w1,w,w2 (h5.mono aX)<|rv.mono aX⟩
end
section
variable{Z:dg}{C:bH}{M:bQ}{K:Frag}{n:Nat}{ns:bL}{c:TC}{st:List SO}{g qs fD fx:FH}{ρ qd eh:dM}{s:Shared}{A:bq}{σ bk:ba}{env:Env}{E:Value->Shared->Prop}
theorem eX.step{St:Nat->Heap->Prop}(L:eX Z.prog Z.w Z A I D items qs qd tup St)(S:bR Z st fD (over fx D s.heap) eh s)(X:dG qs qd fD eh)
  (hx:items[i]? =some x) (ht:tup=true->∃l k p,tgt=.Tuple l k p) (H:St i s.heap) {Q:Option Value->Shared->Prop}
  (h:∀g' s' v,dG fD eh g' eh->bR Z st g' (over fx D s'.heap) eh s'->RV Z g' eh x v->(∀(d:Unit->Shared->Prop)(j:Value->Shared->Prop),(∀G a,dG g' eh G eh->bR Z st G (over fx D a.heap) eh a->St (i+1) a.heap->d () a)->au (Mo Z) A (gC tgt (.ref I) v) d j s')->Q (some v) s'):
  au (Mo Z) A (qu<|.ref I) Q E s:=by
 refine L.item i x s Q E tgt hx ht H λv O f hk V r t=>?_
 have J:=S.turn f (L.there i _ H) hk
 have N:dG fD eh (dO Z fD s.heap O λz=>false) eh:=aX
 refine h _ _ v N J (V _ _ (λb o e=>N.g _ _<|X.g _ _ e) X.ρ λb o hb e Y=>?_) λd j hq=>?_
 ·exact fk S e Y rfl (S.fresh e).2.2
 ·refine t d j λm w B=>hq _ {s with heap:=m,toks:=f} aX (bR.turn (s:={s with heap:=O,toks:=f}) J f r w) B
theorem M1{St:Nat->Heap->Prop}(L:eX Z.prog Z.w Z A I w items qs qd false St)(n:Nat):∀(i:Nat)(s:Shared)(fD:FH)(Q:List Value->Shared->Prop),i+n=items.length->bR Z st fD (over fx w s.heap) eh s->dG qs qd fD eh->St i s.heap->
   (∀g' s' y,dG fD eh g' eh->bR Z st g' (over fx w s'.heap) eh s'->St items.length s'.heap->dD Z g' eh (items.drop i) y->Q y s')->au (Mo Z) A (draw (.ref I) n) Q E s:=by
 induction n with
 |zero=>intro i s fD Q H S X t h;refine ab (h fD s [] (.refl _ _) S (by rwa[<-H]) ?_);rw[nX<|by exact dK<|id<|ck H];rfl
 |succ n D=>intro i s fD Q H S X t h;have m:i<items.length:=aa9 H;show au _ _ (qu (.ref I)>>=_) Q E s;refine aU<|L.step S X (ax m) (tgt:=.Name "x" default) ae t λg' s' v j O r l=>?_;show au _ _ (gC (.Name "x" default) (.ref I) v>>=λz=>(do return v::(<-jF [v]<|draw (.ref I) n))) Q E s';refine aU<|l _ _ λG d x b a=>?_;refine aU<|aO<|D (i+1) d G _ (afe H) b ((X.trans j).trans x) a λB N y k p f J=>ab ?_;refine h B N _ ((j.trans x).trans k) p f ?_;rw[dN m];exact xW _ _ rfl ((r.mono x).mono k) J
theorem nL(hh:A.handled=none)(S:bR Z st g fx ρ s){items:List SV}(hR:rE Z A (jL x) st items false g fx ρ s){T id:String}(hT:s.TypeIs x T)(hl:lj (.type T) "__iter__"=pure (some<|.builtin id)){Q:List Value->Shared->Prop}
  (h:∀g' s' ys,dG g ρ g' ρ->bR Z st g' fx ρ s'->dD Z g' ρ items ys->Q ys s'):au (Mo Z) A (unpackItems x items.length none) Q E s:=by
 refine aU<|aU<|gB hT hl ?_
 refine ab ?_
 simp only[dc,if_false]
 refine aU<|aO<|hR _ _ λg' h' tk I wr St X S' hfr L st0=>?_
 refine aI<|aO<|M1 L items.length 0 _ g' _ (aaV) S' (.refl _ _) st0 λg2 s2 ys X2 S2 st2 r2=>?_
 have hlen:ys.length=items.length:=by rw[r2.length,iF]
 refine sC (by omega)<|aI<|aO<|L.done s2 _ _ st2 λh3 tk3 hk3=>?_
 simp only[qW,dc,if_false]
 have S3:=S2.turn tk3 (L.there _ _ st2) hk3
 have hfx:=λb hb=>(S.fresh<|hfr b hb).2.1
 refine ab<|h _ _ ys ((X.trans X2).trans aX) (S3.leave hfx) ?_
 rw[iF] at r2
 exact r2.mono aX
def xI(Z:dg)(n:Nat)(ns:bL)(C:bH)(M:bQ)(t:T)(e:ao):Prop:=
 ∀σ bk v,zq C M t v σ=some bk->∀env A g fx ρ s y,dA ns env->rj n A->c7 Z ns env σ g fx ρ s->RV Z g ρ v y->∀E Q,wY Z ns env bk g fx ρ Q->au (Mo Z) A (n4 e env y) Q E s
def wX(Z:dg)(n:Nat)(ns:bL)(C:bH)(M:bQ)(ts:List T)(es:List ao):Prop:=
 ∀σ bk v,vS C M ts v σ=some bk->∀env A g fx ρ s y,dA ns env->rj n A->c7 Z ns env σ g fx ρ s->dD Z g ρ v y->∀E Q,wY Z ns env bk g fx ρ Q->au (Mo Z) A (assignInOrder ((u6 es env).map (·.2)) y) Q E s
theorem pk(p:eu x ns 0=some (i,k))(H:k=.local\/k=.cell):xI Z n ns C M (.nm i) (.Name x O):=
 λσ bk v d env A g fx ρ s y V m G r E Q P=>wpAny_assign_Name<|jR p H d V G r λf o j X a=>P f _ ρ j X (λb h=>cm h) a
theorem PB(O:wZ Z K M)(he:eK Z n ns C M te e)(hx:Z.nm a=x):xI Z n ns C M (.at te a) (.Attribute e x J):=
 λσ bk v D env A g fx ρ s y V U G r E Q P=>av D λp N D=>by
  subst hx;show au _ _ (do
   let I<-jF [y] (eval e env)
   kp J.atName
   jF [y,I] (R0 I (Z.nm a) y)
   release [y,I] []) Q E s
  refine aU<|aO<|he σ _ _ N env A g fx ρ s V U G E _ λfD H eh L z d i b w=>aU<|c8<|aU<|aO ?_;refine i9 (KJ (A:=A) O b.eN D w<|r.mono d) λY hl=>Y.post b rfl hl λm f h B l j k=>wpAny_release'<|(P.of d i) m f h B l j k
theorem KI(S:bR Z σ.st g fx ρ s)(e:Mine.mX O B v σ=some bk)(r:RV Z g ρ O x)(I:RV Z g ρ B z)(V:RV Z g ρ v y)(U:A.units+65<cLine):
  pP Z A (ki x z y) bk.st g fx ρ s/\bk.loc=σ.loc:=av e λk t d=>by
 obtain rfl:=IS t id
 cases hl:σ.st[k]?.bind ft with
 |some D=>rw[hl] at d;exact av d λi H e=>iZ e λh f=>cn h λh m=>cn h λj l=>gA H λH=>by subst H f;exact⟨zj S (tD hl) (eW j) (eW l) (eW m) r I V,rfl⟩
 |none=>rw[hl] at d;exact av d λq Q e=>pJ e λh e=>cR e λu p f=>by subst f;exact⟨zk S (EH Q) p (cn h λa w=>a) I r V (cn h λw b=>eW b) U,rfl⟩
set_option backward.match.sparseCases true in
theorem EI(o i:ao)(p:Pos)(env:Env)(v:Value):∃f:Value->Value->List Value,n4 (.Subscript o i p) env v=(do
  let O<-jF [v]<|eval o env;let I<-jF [v,O] (eval i env)
  kp p
  jF [v,O,I] (ki O I v)
  release (f O I) []):=⟨λO I=>match i with|.Slice _ _ none _=>[I,v,O]|_=>[v,O,I],rfl⟩
theorem PA(he:eK Z n ns C M te e)(hi:eK Z n ns C M ti i):xI Z n ns C M (.ix te ti) (.Subscript e i pos):=
 λσ bk v I env A g fx ρ s y V hA G r E Q P=>av I λp e1 I=>av I λq e2 I=>by refine eS (EI e i pos env y) λf hf=>?_;rw[hf];refine aU<|aO<|he σ _ _ e1 env A g fx ρ s V hA G E _ λfD d eh O z b k B L=>aU<|aO<|hi p.2 _ _ e2 env A fD d eh O V hA B E _ λi0 n3 iP iA w x l a N=>aU<|c8<|aU<|aO ?_;refine i9 (KI a.eN I (L.mono x) N ((r.mono b).mono x) hA.u) λY hl=>Y.post a rfl hl λJ h j U H m D=>wpAny_release'<|((P.of b k).of x l) J h j U H m D
theorem kH{env:Env}(h:bD e=true):u6 (e::es) env=(false,n4 e env)::u6 es env:=by cases e<;>first|rfl|exact ae h
theorem tE{env:Env}{es:List ao}:es.all bD=true->(u6 es env).length=es.length/\(u6 es env).findIdx? (·.1)=none:=by
 induction es with
 |nil=>intro _;exact⟨rfl,rfl⟩
 |cons e es i=>intro h;exact cn h λH a=>by rw[kH H];refine i9 (i a) λH a=>⟨congrArg je H,by rw[dF,a];rfl⟩
theorem sX:wX Z n ns C M [] []:=
 λσ bk a e env A g fx ρ s y V h G r E Q P=>by
  cases a with
  |nil=>obtain rfl:=aa e;exact assignInOrder_nil<|P g fx ρ s (.refl _ _) (λz z=>rfl) G
  |cons v a=>exact aR e
theorem m3(p:bD e=true)(h:xI Z n ns C M t e)(L:wX Z n ns C M ts es):wX Z n ns C M (t::ts) (e::es):=
 λσ bk i j env A g fx ρ s D V H G r E Q P=>by
  cases i with
  |nil=>exact aR j
  |cons v i=>exact av j λk l m=>by refine iz r λy Y z w B=>?_;subst z;rw[kH p];exact u5<|h σ k v l env A g fx ρ s y V H G w E _ λfD f eh d x a b=>L k bk i m env A fD f eh d Y V H b (B.mono x) E Q<|P.of x a
theorem yc{σ bk:ba}:vS C M ts vs σ=some bk->ts.length=vs.length:=
 rG (P:=λts vs=>∀σ:ba,vS C M ts vs σ=some bk->ts.length=vs.length) (λz z=>rfl) (λz z z z i z h=>av h λa z H=>congrArg je<|i a H) (λz z z h=>aR h) (λz z z h=>aR h) ts vs σ
theorem vp(H:A.handled=none)(S:bR Z st g fx ρ s){v:SV}{xs:List SV}(V:v=.tup xs\/v=.lst xs){x:Value}(r:RV Z g ρ v x){Q:List Value->Shared->Prop}
  (h:∀g' s' y,dG g ρ g' ρ->bR Z st g' fx ρ s'->dD Z g' ρ xs y->Q y s'):au (Mo Z) A (unpackItems x xs.length none) Q E s:=by
 rcases V with rfl|rfl
 ·have d:=Bg H S r;refine nZ r λa e m b O z=>?_;subst b;exact nL H S d ⟨_,S.keep _ _ O,rfl⟩ slot_tuple_iter.lookup h
 ·have d:=Bh H S r;refine nZ r λa e m b O z=>?_;subst b;exact nL H S d ⟨_,S.keep _ _ O,rfl⟩ slot_list_iter.lookup h
theorem Fh{v:SV}{xs:List SV}(h:Dg v=some xs):v=.tup xs\/v=.lst xs:=by cases v<;>first|exact .inl (congrArg SV.tup<|aa h)|exact .inr (congrArg SV.lst<|aa h)|exact aR h
theorem zc{ts:List T}{es:List ao}(j:es.all bD=true)(l:ts.length=es.length)(h:wX Z n ns C M ts es):xI Z n ns C M (.tp ts) (.Tuple es k O):=
 λσ bk v e env A g fx ρ s y V H G r E Q P=>av e λw x a=>by refine aU<|c8 ?_;refine i9 (tE (env:=env) j) λf i=>?_;unfold unpack;rw[f,i,<-l,yc a];exact aU<|aO<|vp H.handled G.eN (Fh x) r λd t Y X b m=>h σ bk w a env A d fx ρ t Y V H (G.with X b rfl) m E Q<|P.of X λz z=>rfl
end
section
variable{Z:dg}{C:bH}{M:bQ}{K:Frag}{n:Nat}{ns:bL}{c:TC}{st st':List SO}{g g' fx:FH}{ρ:dM}{s:Shared}{A:bq}{σ bk:ba}{env:Env}{E:Value->Shared->Prop}
theorem pM:frozen g h p p.1=h.get? p.1/\frozen g h p p.2=h.get? p.2:=by simp[frozen]
def IZ(Z:dg)(g fx:FH)(ρ:dM)(s:Shared)(st':List SO)(V:SV)(y:Value):Prop:=∃g',dG g ρ g' ρ/\bR Z st' g' fx ρ s/\RV Z g' [] V y/\V.free=true
def acq(Z:dg)(g fx:FH)(ρ:dM)(s:Shared)(st':List SO)(V:List SV)(Y:List Value):Prop:=∃g',dG g ρ g' ρ/\bR Z st' g' fx ρ s/\dD Z g' [] V Y/\SV.free.go V=true
section
variable{P:Prop}{v:SV}{r:SV×List SO}
theorem Gk{m:Nat}(e:freeze (m+1) v st=some r)(d:∀k xs,v=.h k->st[k]? =some (.list xs)->(bP m xs<|st.set k .gone).map (λr=>(SV.lst r.1,r.2))=some r->P)
  (f:∀k b xs,v=.h k->st[k]? =some (.dict b xs)->(bP m xs<|st.set k .gone).map (λr=>(SV.fW b r.1,r.2))=some r->P) (i:∀k c as xs,v=.h k->st[k]? =some (.inst c as xs)->(bP m xs<|st.set k .gone).map (λr=>(SV.inst c as r.1,r.2))=some r->P)
  (j:∀xs,v=.tup xs->(bP m xs st).map (λr=>(SV.tup r.1,r.2))=some r->P) (l:v.free=true->(v,st)=r->P):P:=by
 have p:∀w,v=w->gd w.free (w,st)=some r->P:=λw h e=>by subst h;exact iZ e l
 cases v with
 |h k=>
  exact av e λo H e=>by
   cases o with
   |list xs=>exact d k xs rfl H e
   |dict b xs=>exact pJ e λz e=>f k b xs rfl H e
   |inst c as xs=>exact i k c as xs rfl H e
   |cell _=>exact aR e
   |gone=>exact aR e
 |tup xs=>exact j xs rfl e
 |_=>exact p _ rfl e
theorem BU{m:Nat}{r:List SV×List SO}(e:bP (m+1) vs st=some r)(a:SV.free.go vs=true->(vs,st)=r->P)(b:∀x xs p q,vs=x::xs->freeze m x st=some p->bP m xs p.2=some q->(p.1::q.1,q.2)=r->P):P:=by
 unfold bP at e;cases h:bS vs with
 |true=>rw[h] at e;exact a h<|aa e
 |false=>
  rw[h] at e;cases vs with
  |nil=>exact ae h
  |cons x xs=>exact av e λp H e=>cR e λq Q e=>b x xs p q rfl H Q e
end
def FOk(Z:dg)(fx:FH)(ρ:dM)(s:Shared)(n:Nat):Prop:=∀{v:SV}{r:SV×List SO}{st:List SO}{g:FH}{y:Value},freeze n v st=some r->bR Z st g fx ρ s->RV Z g ρ v y->IZ Z g fx ρ s r.2 r.1 y
def NM(Z:dg)(fx:FH)(ρ:dM)(s:Shared)(n:Nat):Prop:=∀{V:List SV}{r:List SV×List SO}{st:List SO}{g:FH}{ys:List Value},bP n V st=some r->bR Z st g fx ρ s->dD Z g ρ V ys->acq Z g fx ρ s r.2 r.1 ys
section
variable{m k:Nat}{xs:List SV}{q:List SV×List SO}{y:Value}(ih:NM Z fx ρ s m)(S:bR Z st g fx ρ s)
include ih S
theorem PH(H:st[k]? =some (.list xs))(f:bP m xs (st.set k .gone)=some q)(V:RV Z g ρ (.h k) y):IZ Z g fx ρ s q.2 (.lst q.1) y:=by refine dn V λp a z=>?_;subst z;obtain⟨d,j,m,O,i⟩:=S.objs _ _ p H a;have X:=dG.frozen S H rfl a;refine Ja (ih f (S.freeze H rfl a)<|i.mono X) λG x b e l=>y14 G (X.trans x) b ⟨_,j,m,rfl,x.g _ _<|pM.1.trans O,e⟩ rfl
theorem PJ(H:st[k]? =some (.dict i xs))(f:bP m xs (st.set k .gone)=some q)(V:RV Z g ρ (.h k) y):IZ Z g fx ρ s q.2 (.fW i q.1) y:=by refine dn V λp a z=>?_;subst z;obtain⟨d,e,m,O,t,w,j,N⟩:=S.objs _ _ p H a;have X:=dG.frozen S H rfl a;refine Ja (ih f (S.freeze H rfl a)<|w.mono X) λG x b l B=>y14 G (X.trans x) b ⟨_,e,m,rfl,x.g _ _<|pM.1.trans O,t.mono (X.trans x).nil,l,j,N⟩ rfl
theorem KG(H:st[k]? =some (.inst e d xs))(i:bP m xs (st.set k .gone)=some q)(V:RV Z g ρ (.h k) y):IZ Z g fx ρ s q.2 (.inst e d q.1) y:=by refine dn V λp a z=>?_;subst z;obtain⟨N,f,m,O,D,t,j,w⟩:=S.objs _ _ p H a;have X:=dG.frozen S H rfl a;refine Ja (ih i (S.freeze H rfl a)<|w.mono X) λG x b l B=>y14 G (X.trans x) b ⟨_,_,f,m,rfl,x.g _ _<|pM.1.trans O,x.g _ _<|pM.2.trans D,t,j,l⟩ rfl
theorem PG(h:bP m xs st=some q)(V:RV Z g ρ (.tup xs) y):IZ Z g fx ρ s q.2 (.tup q.1) y:=by refine nZ V λa i m z H e=>?_;subst z;refine Ja (ih h S e) λG x b d f=>y14 G x b ⟨a,i,m,rfl,x.g _ _ H,d⟩ f
end
theorem KD{m:Nat}(ih:NM Z fx ρ s m):FOk Z fx ρ s (m+1):=λ{_ _ _ g _} h S V=>Gk h
  (λk xs H b h=>cR h λq f e=>by subst H e;exact PH ih S b f V)
  (λk j xs H b h=>cR h λq f e=>by subst H e;exact PJ ih S b f V)
  (λk i d xs H b h=>cR h λq f e=>by subst H e;exact KG ih S b f V)
  (λxs H h=>cR h λq f e=>by subst H e;exact PG ih S f V)
  (λa e=>by subst e;exact⟨g,.refl _ _,S,V.free a,a⟩)
theorem HG{m:Nat}(I:FOk Z fx ρ s m)(B:NM Z fx ρ s m):NM Z fx ρ s (m+1):=λ{_ _ _ g _} h S V=>BU h
  (λf e=>by subst e;exact⟨g,.refl _ _,S,V.free f,f⟩)
  (λx xs p q w H t e=>by subst w e;refine iz V λy Y z J L=>?_;subst z;refine Ja (I H S J) λN a d Q j=>Ja (B t d<|L.mono a) λG b i D l=>?_;exact⟨G,a.trans b,i,⟨y,Y,rfl,Q.mono b.nil,D⟩,bK.mpr ⟨j,l⟩⟩)
theorem PK(n:Nat):FOk Z fx ρ s n/\NM Z fx ρ s n:=by
 induction n with
 |zero=>exact⟨λh z z=>aR h,λh z z=>aR h⟩
 |succ n ih=>exact⟨KD ih.2,HG ih.1 ih.2⟩
theorem k9{n:Nat}{v:SV}{r:SV×List SO}{st:List SO}{g:FH}{y:Value}(h:freeze n v st=some r)(S:bR Z st g fx ρ s)(V:RV Z g ρ v y):IZ Z g fx ρ s r.2 r.1 y:=(PK n).1 h S V
def WW(env:Env)(σ:ba)(ρ:dM)(s:Shared)(x:Str)(i:Nat)(k:cj)(y:Value):Prop:=
 (k=.local->∀m,s.heap.Ns env.locals m->m x=some y)/\(∀c p,(k=.cell\/k=.free)->σ.loc[i]? =some (.cell c)->ρ[c]? =some p->∃o,s.heap.get? p.1=some o/\o.data=.cell (some y))
theorem E8{m:Str->Option Value}{i:Nat}{x:Str}{k:cj}(L:kP Z g ρ env ns σ.loc m)(I:ns[i]? =some (x,k))(H:k=.local\/k=.cell\/k=.free){V:LV}(h:σ.loc[i]? =some V)(N:∀j,V≠.cell j):k=.local:=
 H.elim id λH=>by refine pg (L.p9 i x k I H) λa p b z=>(N a<|aa<|h.symm.trans b).elim
theorem zH{m:Str->Option Value}{i j:Nat}{x:Str}{k:cj}(L:kP Z g ρ env ns σ.loc m)(I:ns[i]? =some (x,k))(a:k=.local\/k=.cell\/k=.free)(h:σ.loc[i]? =some (.cell j)):(k=.cell\/k=.free)/\∃p,ρ[j]? =some p/\env.cells.lookup x=some p.1:=by
 rcases a with rfl|a
 ·refine dn (L.loc i x I) λV b H=>?_;obtain rfl:=aa<|b.symm.trans h;rcases H with H|⟨_,_,H,_⟩<;>exact LV.noConfusion H
 ·refine iz (L.p9 i x k I a) λf p b H d=>?_;obtain rfl:=lvC<|aa<|b.symm.trans h;exact⟨a,p,H,d⟩
theorem Be{i:Nat}{x:Str}{v:SV}{y:Value}{k:cj}(I:ns[i]? =some (x,k))(J:k=.local\/k=.cell\/k=.free)(V:dA ns env)(G:c7 Z ns env σ g fx ρ s)
  (U:gu i v σ=some bk) (a:RV Z g ρ v y) (Y:WW env σ ρ s x i k y):∃g',dG g ρ g' ρ/\c7 Z ns env bk g' fx ρ s/\RV Z g' ρ v y:=by
 refine iz G.yp.is λN m l O L=>zi U (λj ov h D e=>by
  subst e;obtain⟨f,p,d,h3⟩:=zH L I J h;refine i9 (G.eN.objs j _ p D d) λt z=>dn (Y.2 j p f h d) λo ho Q=>?_;have H:dG g ρ (dO Z g s.heap s.heap λz=>false) ρ:=aX;exact⟨_,H,⟨G.eN.upd s.toks D rfl d (λb o z z e=>e) ⟨t,o,some y,ho,Q,y,rfl,a.mono H⟩,⟨N,m,l,O,L.mono H⟩⟩,a.mono H⟩)
  λlv h hn e=>by
  subst e;obtain rfl:=E8 L I J h hn;have hm:=Y.1 rfl m<|O.ns<|G.eN.fix _ _ l;refine xX g (.refl _ _) ⟨G.eN,⟨N,m,l,O,?_⟩⟩ a;have e:(λn=>if n=x then some y else m n)=m:=by
   funext n;by_cases e:n=x
   ·rw[if_pos e,e,hm]
   ·rw[if_neg e]
  exact e▸L.store V I a
theorem v5{x:Str}{i:Nat}{k:cj}{v:SV}(I:ns[i]? =some (x,k))(B:k=.local\/k=.cell\/k=.free)(V:kF i σ=some v)(G:c7 Z ns env σ g fx ρ s):
  ∃y,RV Z g ρ v y/\WW env σ ρ s x i k y:=by
 refine iz G.yp.is λoL m N O L=>?_
 have Y:=O.ns<|G.eN.fix _ _ N
 exact uO V (λa=>by
  obtain rfl:=E8 L I B a λj e=>LV.noConfusion e;refine dn (L.loc i x I) λlv b H=>?_;obtain rfl:=aa<|b.symm.trans a;rcases H with H|⟨v',y,H,w,r⟩
  ·exact LV.noConfusion H
  ·obtain rfl:=lvV H;exact⟨y,r,λz m' f=>(f.agree Y x).trans w,λc p h=>h.elim cE λh=>cE h⟩)
  λj a Q=>by
  obtain⟨d,p,H,w⟩:=zH L I B a;obtain⟨_,o,ov,ho,U,y,rfl,r⟩:=G.eN.objs j _ p Q H;refine xX y r (λe=>?_) λc' p' z D J=>?_
  ·subst e;exact d.elim cE λh=>cE h
  ·obtain rfl:=lvC<|aa<|a.symm.trans D;obtain rfl:=aa<|H.symm.trans J;exact⟨o,ho,U⟩
theorem yj{k:cj}{v:SV}{y:Value}(hp:eu x ns 0=some (i,k))(H:k=.local\/k=.cell\/k=.free)(V:dA ns env)(G:c7 Z ns env σ g fx ρ s)(he:kF i σ=some v)
  (Y:WW env σ ρ s x i k y)
  (h:Q y s):au (Mo Z) A (eval (.Name x t) env) Q E s:=by
 refine i9 (gw hp) λI j=>dn (G.yp.Yf G.eN) λm z L=>?_
 have D:=V.nf _<|aH I
 have e:(k=.cell\/k=.free)->(env.kindOf x=some .cell\/env.kindOf x=some .free)->au (Mo Z) A (eval (.Name x t) env) Q E s:=by
  intro b d;refine iz (L.p9 i x k I b) λc p B J w=>dn (Y.2 c p b B J) λo U f=>?_;have l:s.heap.IsCell p.1 (some y):=⟨_,U,f⟩;refine CG ?_ D.1;rcases d with H|H
  ·exact RW V.kind H w l h
  ·exact RU V.kind H w l h D.2
 rcases H with rfl|rfl|rfl
 ·exact CG (Of V.kind (V.loc _ j) z (Y.1 rfl m z) h) D.1
 ·exact e (.inl rfl)<|.inl<|V.cell _ j
 ·exact e (.inr rfl)<|V.free _ j
theorem adx{v:SV}{P:Prop}(e:Mx i σ=some (v,bk))(f:∀u w st',kF i σ=some u->freeze fz u σ.st=some (w,st')->gu i w {σ with st:=st'}=some bk->w=v->P)(j:kF i σ=some v->σ=bk->P):P:=av e λu H e=>by
 cases h:Rv u with
 |some k=>rw[h] at e;exact av e λp d e=>cR e λl t e=>dQ e λa b=>f u p.1 p.2 H d (b▸t) a
 |none=>rw[h] at e;exact m7 e λa b=>j (a▸H) b
theorem Px{k:cj}(p:eu x ns 0=some (i,k))(h:k=.local\/k=.cell\/k=.free):eK Z n ns C M (.oR i) (.Name x Y):=
 λσ bk v t env A g fx ρ s V hA G E Q P=>by
  have I:=(gw p).1;refine adx t (λu w st' l O U e=>?_) λl e=>?_
  ·subst e;refine dn (v5 I h l G) λy r H=>yj p h V G l H ?_;refine Ja (k9 O G.eN r) λg1 b f r1 B=>sA (Be I h V (G.with (bk:={σ with st:=st'}) b f rfl) U (r1.free B) H) λJ j d r2=>?_;exact P J fx ρ s y (b.trans j) (λz z=>rfl) d r2
  ·subst e;refine dn (v5 I h l G) λy r H=>yj p h V G l H<|P g fx ρ s y (.refl _ _) (λz z=>rfl) G r
end
def FLR(Z:dg)(g:FH)(ρ:dM):FL->Flow->Prop
 |.next,f=>f=.next
 |.ret v,f=>∃y,f=.ret y/\RV Z g ρ v y
theorem FLR.plain{Z:dg}{g:FH}{ρ:dM}{fl:FL}(h:FLR Z g ρ fl f):(fl=.next/\f=.next)\/∃v y,fl=.ret v/\f=.ret y/\RV Z g ρ v y:=by
 cases fl with
 |next=>exact .inl ⟨rfl,h⟩
 |ret v=>obtain⟨y,e,r⟩:=h;exact .inr ⟨v,y,rfl,e,r⟩
section
variable{Z:dg}{C:bH}{M:bQ}{K:Frag}{n:Nat}{ns:bL}{c:TC}{st st':List SO}{g g' fx:FH}{ρ dp:dM}{s:Shared}{A:bq}{σ bk:ba}{env:Env}{E:Value->Shared->Prop}{i:Nat}{fe:Env->Prop}
def yD(Z:dg)(ns:bL)(env:Env)(bk:ba)(fl:FL)(g fx:FH)(ρ:dM)(Q:Flow->Shared->Prop):Prop:=
 ∀g' x dp a f,dG g ρ g' dp->(∀b,b≠env.locals->x b=fx b)->c7 Z ns env bk g' x dp a->FLR Z g' dp fl f->Q f a
theorem yD.of{fl:FL}(X:dG g ρ G a)(F:∀b,b≠env.locals->x b=fx b)(P:yD Z ns env bk fl g fx ρ Q):yD Z ns env bk fl G x a Q:=
 λg' d dp k f j e=>P g' d dp k f (X.trans j) λb h=>(e b h).trans<|F b h
def lE(Z:dg)(n:Nat)(ns:bL)(C:bH)(M:bQ)(fe:Env->Prop)(t:Mine.S)(e:Stmt):Prop:=
 ∀σ bk fl,ji C M t σ=some (fl,bk)->∀env A g fx ρ s,dA ns env->fe env->rj n A->c7 Z ns env σ g fx ρ s->∀E Q,yD Z ns env bk fl g fx ρ Q->au (Mo Z) A (exec e env) Q E s
def qq(Z:dg)(n:Nat)(ns:bL)(C:bH)(M:bQ)(fe:Env->Prop)(t:List Mine.S)(e:List Stmt):Prop:=
 ∀σ bk fl,cG C M t σ=some (fl,bk)->∀env A g fx ρ s,dA ns env->fe env->rj n A->c7 Z ns env σ g fx ρ s->∀E Q,yD Z ns env bk fl g fx ρ Q->au (Mo Z) A (execs e env) Q E s
section
variable{P:Prop}{fl:FL}{t:Mine.S}{ts:List Mine.S}
theorem flE{q:FL×ba}{f:ba->Option (FL×ba)}{x:Option (FL×ba)}(h:x=some q)(e:(match q.1 with|.next=>f q.2|.ret v=>some (.ret v,q.2))=some (fl,bk))(k:∀aC,x=some (.next,aC)->f aC=some (fl,bk)->P)(d:∀v,x=some (.ret v,bk)->fl=.ret v->P):P:=by
 obtain⟨l,aC⟩:=q;cases l with
 |next=>exact k aC h e
 |ret v=>exact dQ (aa e) λa b=>d v (b▸h) a.symm
theorem Zu(e:cG C M (t::ts) σ=some (fl,bk))(k:∀aC,ji C M t σ=some (.next,aC)->cG C M ts aC=some (fl,bk)->P)(a:∀v,ji C M t σ=some (.ret v,bk)->fl=.ret v->P):P:=av e λq h e=>flE h e k a
theorem ady(e:cz f (x::r) σ=some (fl,bk))(k:∀aC,f x σ=some (.next,aC)->cz f r aC=some (fl,bk)->P)(a:∀v,f x σ=some (.ret v,bk)->fl=.ret v->P):P:=av e λq h e=>flE h e k a
theorem TL{c:ba->Option (SV×ba)}(e:gV c f (m+1) σ=some (fl,bk))(k:∀v,c σ=some (v,bk)->fa v=some false->fl=.next->P)
  (j:∀v aC aT,c σ=some (v,aC)->fa v=some true->f aC=some (.next,aT)->gV c f m aT=some (fl,bk)->P) (l:∀v aC w,c σ=some (v,aC)->fa v=some true->f aC=some (.ret w,bk)->fl=.ret w->P):P:=
 av e λp H e=>av e λd h e=>by
  cases d with
  |false=>exact dQ (aa e) λa b=>k p.1 (b▸H) h a.symm
  |true=>exact av e λq Q e=>flE Q e (λaT=>j p.1 p.2 aT H h) λw=>l p.1 p.2 w H h
end
theorem x5:qq Z n ns C M fe [] []:=
 λσ bk fl v env A g fx ρ s V h H G E Q P=>dQ (aa v) λe a=>by subst e a;exact AJ<|P g fx ρ s _ (.refl _ _) (λz z=>rfl) G rfl
theorem vD{t:Mine.S}{ts:List Mine.S}(h:lE Z n ns C M fe t e)(L:qq Z n ns C M fe ts es):qq Z n ns C M fe (t::ts) (e::es):=
 λσ bk fl w env A g fx ρ s V H B G E Q P=>wpAny_execs_cons<|Zu w
  (λm p w=>h σ _ _ p env A g fx ρ s V H B G E _ λk x a l f j b d r=>by obtain rfl:f=.next:=r;exact L m _ _ w env A k x a l V H B d E Q<|P.of j b)
  (λv p I=>h σ _ _ p env A g fx ρ s V H B G E _ λk x a l f j b d r=>by subst I;refine dn (id r) λy D z=>?_;subst D;exact P k x a l _ j b d r)
theorem dA.vW(V:dA ns env):interactive env=false:=by unfold interactive;rw[V.kind];rfl
theorem xZ{t:Option ao}(h:rX e=true):I2 e t l env=pure false:=by cases e<;>first|rfl|exact ae h
theorem Hw{t:Mine.E}(h:eK Z n ns C M t e)(B:rX e=true):lE Z n ns C M fe (.expr t) (.Expr e O):=
 λσ bk fl v env A g fx ρ s V D z G E Q P=>cR v λr m e=>dQ e λH w=>by subst H w;exact wpAny_Expr_any (h σ _ _ m env A g fx ρ s V z G E _ λj f a k y x b d l=>P j f a k _ x b d rfl) V.vW<|xZ B
theorem Kn{t:Mine.E}(h:eK Z n ns C M t e):lE Z n ns C M fe (.ret t) (.Return (some e) O):=
 λσ bk fl v env A g fx ρ s V z w G E Q P=>cR v λr m e=>dQ e λH p=>by subst H p;exact wpAny_Return_some<|h σ _ _ m env A g fx ρ s V w G E _ λj f a l y x b d k=>P j f a l _ x b d ⟨y,rfl,k⟩
theorem Ko{t:Mine.E}(h:lW Z n ns C M t e)(z:qq Z n ns C M fe I a)(B:qq Z n ns C M fe J b):lE Z n ns C M fe (.ifs t I J) (.If e a b O):=
 λσ bk fl v env A g fx ρ s V H w G E Q P=>av v λp y v=>av v λd D v=>wpAny_If (h σ _ _ _ y D env A g fx ρ s V w G E _ λm f j r x k l=>by
  cases d with
  |true=>rw[if_pos rfl];exact z p.2 _ _ v env A m f j r V H w l E Q<|P.of x k
  |false=>rw[if_neg a8];exact B p.2 _ _ v env A m f j r V H w l E Q<|P.of x k)
inductive WhI(Z:dg)(C:bH)(M:bQ)(ns:bL)(env:Env)(t:Mine.E)(tb:List Mine.S)(r:Option (FL×ba))(g fx:FH)(ρ:dM)(k:Nat)(bG:Shared):Prop
 |mk (aC:ba) (fD lX:FH) (eh:dM) (e:gV (bX C M t) (cG C M tb) k aC=r) (X:dG g ρ fD eh) (F:∀b,b≠env.locals->lX b=fx b) (G:c7 Z ns env aC fD lX eh bG)
theorem Dy{t:Mine.E}(h:lW Z n ns C M t e)(hb:qq Z n ns C M fe tb b):lE Z n ns C M fe (.tR t tb) (.While e b [] pos):=
 λσ bk fl ev env A g fx ρ s V hfe hA G E Q P=>by
  refine wpAny_While<|codeAny_whileLoop (I:=WhI Z C M ns env t tb (some (fl,bk)) g fx ρ)
   (λk bG hI=>?_) 1000 (.mk σ g fx ρ ev (.refl _ _) (λz z=>rfl) G)
  obtain⟨J,fD,r,D,e1,lO,AI,U⟩:=hI;have P:=P.of lO AI;cases k with
  |zero=>exact aR e1
  |succ k=>
   exact TL e1
    (λv e2 hv er=>h J _ _ _ e2 hv env A fD r D bG V hA U _ _ λm x a p l d j=>by subst er;rw[if_neg a8];exact AJ<|P m x a p _ l d j rfl)
    (λv L EW e2 hv e3 e1=>h J _ _ _ e2 hv env A fD r D bG V hA U _ _ λm x a p l d j=>by rw[if_pos rfl];refine hb L _ _ e3 env A m x a p V hfe hA j _ _ λlg B H rm f rp O Y N=>?_;obtain rfl:f=.next:=N;exact⟨k,cp _,.mk EW lg B H e1 ((lO.trans l).trans rp) (λb hb=>(O b hb).trans<|(d b hb).trans<|AI b hb) Y⟩)
    (λv L w e2 hv e3 er=>h J _ _ _ e2 hv env A fD r D bG V hA U _ _ λm x a p l d j=>by subst er;rw[if_pos rfl];refine hb L _ _ e3 env A m x a p V hfe hA j _ _ λlg B H rm f rp O Y N=>dn (id N) λy zz1 z=>?_;subst zz1;exact(P.of l d) lg B H rm _ rp O Y N)
structure vl(Z:dg)(A:bq)(ns:bL)(env:Env)(σ:ba)(items:List SV)(tup:Bool)(g fx:FH)(ρ:dM)(s:Shared)(I:Addr)(wr:List Addr)(St:Nat->Heap->Prop):Prop where
 good:c7 Z ns env σ g (over fx wr s.heap) ρ s
 free:∀b∈wr,fx b=none
 loc:env.locals∉wr
 lp:eX Z.prog Z.w Z A I wr items g ρ tup St
 st:St 0 s.heap
def lF(Z:dg)(n:Nat)(ns:bL)(C:bH)(M:bQ)(ik:IK)(ts:List Mine.E)(e:ao):Prop:=
 ∀σ bk v m,gp C M ts σ=some (v,bk)->jX ik v=some m->∀env A g fx ρ s,dA ns env->rj n A->c7 Z ns env σ g fx ρ s->∀E Q,
  (∀g' f dp d I w h,dG g ρ g' dp->(∀b,b≠env.locals->f b=fx b)->vl Z A ns env bk m (uQ ik) g' f dp d I w h->Q (.ref I) d)->
  au (Mo Z) A (eval e env) (λx a=>au (Mo Z) A (jL x) Q E a) E s
noncomputable def off(w:List Addr)(fx:FH):FH:=λb=>if b∈w then none else fx b
theorem ye(S:bR Z st g fx ρ s)(h:∀b∈w,∃o,fx b=some o):fx=over fx w s.heap:=by
 funext b;by_cases H:b∈w
 ·refine eS (h b H) λo e=>?_;rw[kY H,e,S.fix b o e]
 ·rw[dS H]
theorem Lm{fx:FH}(h:b∈w):off w fx b=none:=if_pos h
theorem zu{fx:FH}(h:b∉w):off w fx b=fx b:=if_neg h
theorem Ln{fx f:FH}{P:Addr->Prop}(r:∀b∈w,f b=none)(h:∀b,b∉w->P b->fx b=f b)(b:Addr)(H:P b):off w fx b=f b:=by
 by_cases m:b∈w
 ·rw[Lm m,r b m]
 ·rw[zu m,h b m H]
theorem c7.off(G:c7 Z ns env σ g fx ρ s)(l:env.locals∉w):c7 Z ns env σ g (Mine.off w fx) ρ s:=by
 refine⟨G.eN.weaken λb o e=>?_,?_⟩
 ·by_cases h:b∈w
  ·rw[Lm h] at e;exact aR e
  ·rwa[zu h] at e
 ·refine iz G.yp.is λo m H a d=>⟨o,m,by rw[zu l];exact H,a,d⟩
def qb(Z:dg)(n:Nat)(ns:bL)(t:TN)(e:ao):Prop:=
 (∀σ bk v,cS t v σ=some bk->∀env A g fx ρ s y,dA ns env->rj n A->c7 Z ns env σ g fx ρ s->RV Z g ρ v y->∀E Q,wY Z ns env bk g fx ρ Q->au (Mo Z) A (n4 e env y) Q E s)/\
 (∀is,t=.many is->∃l k p,e=.Tuple l k p)
structure fw(Z:dg)(ns:bL)(env:Env)(σ:ba)(g fx:FH)(ρ:dM)(s:Shared)(wr:List Addr)(qs Jo:FH)(qd:dM)(i:Nat)(St:Nat->Heap->Prop):Prop where
 good:c7 Z ns env σ g fx ρ s
 ext:dG qs qd g ρ
 there:∀b∈wr,∃o,fx b=some o
 other:∀b,b∉wr->b≠env.locals->fx b=Jo b
 st:St i s.heap
theorem fw.next{St:Nat->Heap->Prop}(L:eX Z.prog Z.w Z A I w items G a tup St)(B:fw Z ns env σ g fx ρ s w G f a i St)(V:env.locals∉w)
  (hx:items[i]? =some x) (ht:tup=true->∃J k p,tgt=.Tuple J k p) {Q:Option Value->Shared->Prop}
  (h:∀g' fx' s' v,dG g ρ g' ρ->fw Z ns env σ g' fx' ρ s' w G f a i (λz z=>True)->RV Z g' ρ x v->
   (∀(Q':Unit->Shared->Prop)(E':Value->Shared->Prop),(∀O N Y,dG g' ρ O ρ->fw Z ns env σ O N ρ Y w G f a (i+1) St->Q' () Y)->au (Mo Z) A (gC tgt (.ref I) v) Q' E' s')->Q (some v) s'):
  au (Mo Z) A (qu<|.ref I) Q E s:=by
 have hS:bR Z σ.st g (over fx w s.heap) ρ s:=by rw[<-ye B.good.eN B.there];exact B.good.eN
 have r:∀{g':FH}{s':Shared},dG g ρ g' ρ->bR Z σ.st g' (over fx w s'.heap) ρ s'->c7 Z ns env σ g' (over fx w s'.heap) ρ s':=by intro g' s' X y;refine iz B.good.yp.is λo m h1 h2 h3=>⟨y,⟨o,m,by rw[dS V];exact h1,h2,h3.mono X⟩⟩
 have hex:∀{g':FH}{s':Shared},bR Z σ.st g' (over fx w s'.heap) ρ s'->St (i+1) s'.heap->∀b∈w,∃o,over fx w s'.heap b=some o:=by intro g' s' y hst b H;refine eS (L.there _ _ hst b H) λo e=>⟨o,by rw[kY H];exact e⟩
 refine L.item i x s Q E tgt hx ht B.st λv h' tk hk hrv d U=>?_
 have y:=hS.turn tk (L.there i _ B.st) hk
 have l:dG g ρ (dO Z g s.heap h' λz=>false) ρ:=aX
 have G':=r (s':={s with heap:=h',toks:=tk}) l y
 refine h _ _ _ v l ⟨G',B.ext.trans l,λb H=>?_,λb H j=>by rw[dS H];exact B.other b H j,trivial⟩ (hrv _ _ (λb o e=>l.g _ _<|B.ext.g _ _ e) B.ext.ρ λb o H e e'=>?_) λQ' E' hq=>?_
 ·refine eS (d b H) λo e=>⟨o,by rw[kY H];exact e⟩
 ·exact fk hS e e' rfl (hS.fresh e).2.2
 ·refine U Q' E' λh'' hk' st'=>?_;have D:=bR.turn (s:={s with heap:=h',toks:=tk}) y tk d hk';refine hq _ _ _ aX ⟨r (l.trans aX) D,(B.ext.trans l).trans aX,hex D st',λb H j=>by rw[dS H];exact B.other b H j,st'⟩
theorem fw.after{St:Nat->Heap->Prop}(L:eX Z.prog Z.w Z A I w items d a tup St)(B:fw Z ns env σ g fx ρ s w d f a i St)(l:env.locals∉w)
  (X:dG g ρ g' dp) (F:∀b,b≠env.locals->x b=fx b) (G:c7 Z ns env bk g' x dp s'):fw Z ns env bk g' x dp s' w d f a i St:=by
 have N:∀b∈w,b≠env.locals:=λb h e=>l<|e▸h
 refine⟨G,B.ext.trans X,λb h=>?_,λb h H=>(F b H).trans<|B.other b h H,?_⟩
 ·refine eS (B.there b h) λo e=>⟨o,(F b<|N b h).trans e⟩
 ·refine L.frame i s.heap s'.heap B.st λb o h e=>?_;rcases h with h|h
  ·refine eS (B.there b h) λO j=>?_;have:O=o:=by have:=B.good.eN.fix b O j;rw[e] at this;exact(aa this).symm
   subst this;exact G.eN.fix _ _<|(F b<|N b h).trans j
  ·exact G.eN.keep _ _<|(B.ext.trans X).g _ _ h
theorem fw.last{St:Nat->Heap->Prop}(L:eX Z.prog Z.w Z A I w items G a tup St)(B:fw Z ns env σ g fx ρ s w G f a i St)(l:env.locals∉w)(N:i=items.length)
  (r:∀b∈w,f b=none) {Q:Option Value->Shared->Prop} (h:∀g' x s',dG g ρ g' ρ->(∀b,b≠env.locals->x b=f b)->c7 Z ns env σ g' x ρ s'->Q none s'):au (Mo Z) A (qu<|.ref I) Q E s:=by
 subst N
 refine L.done s Q E B.st λd k O=>?_
 have D:bR Z σ.st g (over fx w s.heap) ρ s:=by rw[<-ye B.good.eN B.there];exact B.good.eN
 have j:=D.turn k (L.there _ _ B.st) O
 refine iz B.good.yp.is λo m p v y=>?_
 have e:c7 Z ns env σ (dO Z g s.heap d λz=>false) (over fx w d) ρ {s with heap:=d,toks:=k}:=⟨j,⟨o,m,by rw[dS l];exact p,v,y.mono aX⟩⟩
 exact h _ (off w<|over fx w d) _ aX (Ln r λb H J=>(dS H).trans<|B.other b H J)<|e.off l
theorem fw.letGo{St:Nat->Heap->Prop}(B:fw Z ns env σ g fx ρ s w G f a i St)(l:env.locals∉w)(h:∀b∈w,f b=none):(∀b,b≠env.locals->off w fx b=f b)/\c7 Z ns env σ g (off w fx) ρ s:=
 ⟨Ln h B.other,B.good.off l⟩
theorem vl.between{St:Nat->Heap->Prop}(R:vl Z A ns env σ items tup g fx ρ s I w St):fw Z ns env σ g (over fx w s.heap) ρ s w g fx ρ 0 St:=
 ⟨R.good,.refl _ _,λb h=>by obtain⟨o,e⟩:=R.lp.there _ _ R.st b h;exact⟨o,by rw[kY h];exact e⟩,λb h z=>dS h,R.st⟩
theorem vr{t:TN}(H:oJ ik t=true)(N:qb Z n ns t e)(h:uQ ik=true):∃l k p,e=.Tuple l k p:=by
 cases t with
 |one i=>unfold oJ at H;rw[h] at H;exact ae H
 |many is=>exact N.2 is rfl
theorem nk(h:eJ e=true)(x:Value):xf e env x=pure x:=by cases e<;>first|rfl|exact ae h
inductive afh(Z:dg)(C:bH)(M:bQ)(ns:bL)(env:Env)(t:TN)(tb:List Mine.S)(items:List SV)(wr:List Addr)(fD lX:FH)(eh:dM)(St:Nat->Heap->Prop)(r:Option (FL×ba))(k:Nat)(iA:Shared):Prop
 |mk (i:Nat) (aT:ba) (i0 n3:FH) (iP:dM) (hk:k=items.length-i) (hi:i<=items.length) (B:fw Z ns env aT i0 n3 iP iA wr fD lX eh i St) (hl:cz (λx τ=>(cS t x τ).bind λτ=>cG C M tb τ) (items.drop i) aT=r)
theorem Kp{t:TN}(hI:lF Z n ns C M ik its it)(hN:qb Z n ns t tgt)(hb:qq Z n ns C M fe tb b)(hs:eJ it=true):
  lE Z n ns C M fe (.for t ik its tb) (.For tgt it b [] pos):=
 λσ bk fl ev env A g fx ρ s V hfe hA G E Q P=>av ev λp e1 ev=>av ev λe e2 ev=>pJ ev λhok ev=>by
  refine wpAny_For (hI σ _ _ _ e1 e2 env A g fx ρ s V hA G E _ λfD lX eh bG I wr St lO AI r=>?_)<|nk hs;have Xz:=P.of lO AI;have hT:=vr hok hN;refine codeAny_forLoop_any (I:=afh Z C M ns env t tb e wr fD lX eh St<|some (fl,bk)) (λk iA hk=>?_) e.length<|.mk 0 p.2 fD _ eh rfl (dW _) r.between ev;obtain⟨i,aT,i0,n3,a,rfl,hi,B,hl⟩:=hk;rcases Jz hi with hend|hi'
  ·rw[hend,nE] at hl;exact dQ (aa hl) λh1 h2=>by subst h1 h2;exact B.last r.lp r.loc hend r.free λlg U rm rp CF Tu=>AJ<|Xz lg U a rm _ (B.ext.trans rp) CF Tu rfl
  ·rw[dN hi'] at hl;refine B.next r.lp r.loc (ax hi') hT λlg U rm v z af5 GS hgo=>hgo _ _ λqr Y uc pS l=>ady hl
    (λEW h hl=>av h λτ hτ h=>hN.1 _ _ _ hτ env A qr Y a uc v V hA l.good (GS.mono pS) _ _ λAF x d Az N D J=>hb τ _ _ h env A AF x d Az V hfe hA J _ _ λJn RT j N6 f O H L m=>by obtain rfl:f=.next:=m;exact⟨e.length-(i+1),G6 _ _ hi',.mk (i+1) EW Jn RT j rfl hi' (l.after r.lp r.loc (N.trans O) (λb hb=>(H b hb).trans<|D b hb) L) hl⟩)
    (λw h er=>av h λτ hτ h=>hN.1 _ _ _ hτ env A qr Y a uc v V hA l.good (GS.mono pS) _ _ λAF x d Az N D J=>hb τ _ _ h env A AF x d Az V hfe hA J _ _ λJn RT j N6 f O H L m=>by subst er;refine dn (id m) λy zz1 z=>?_;subst zz1;have XA:=l.after r.lp r.loc (N.trans O) (λb hb=>(H b hb).trans<|D b hb) L;refine i9 (XA.letGo r.loc r.free) λac9 ac8=>Xz Jn _ j N6 _ XA.ext ac9 ac8 m)
end
theorem vz{env:Env}(h:jQ t=false):I2 (.ListComp x G sc p) (some t) l env=pure false:=by cases t<;>first|exact ae h|rfl
theorem A1{env:Env}(h:vX t e=true):GX [t] e l env=pure false:=by
 unfold vX at h;cases hc:rX e with
 |true=>exact xZ hc
 |false=>
  rw[hc] at h;have h:=(tO _).mp h;cases e with
  |ListComp _ _ _ _=>exact vz h
  |SetComp x G sc p=>exact(show _=I2 (.ListComp x G sc p) (some t) l env from rfl).trans<|vz h
  |DictComp x _ G sc p=>exact(show _=I2 (.ListComp x G sc p) (some t) l env from rfl).trans<|vz h
  |_=>exact ae hc
theorem Dr{env:Env}(h:Lr t e=true):jA [t] e env=pure none:=by
 cases t with
 |Tuple ts _ _=>cases e<;>first|rfl|exact ae h
 |List ts _=>cases e<;>first|rfl|exact ae h
 |_=>rfl
section
variable{Z:dg}{C:bH}{M:bQ}{K:Frag}{n:Nat}{ns:bL}{c:TC}{st st':List SO}{g g' fx:FH}{ρ dp:dM}{s:Shared}{A:bq}{σ bk:ba}{env:Env}{E:Value->Shared->Prop}{i:Nat}{fe:Env->Prop}
theorem wx{pos:Pos}(hs:GX [t] value pos.line env=pure false)(hw:jA [t] value env=pure none)(ht:bD t=true)
  (h:au (Mo Z) A (eval value env) (λv bG=>au (Mo Z) A (n4 t env v) (λz=>Q .next) E bG) E s):au (Mo Z) A (exec (.Assign [t] value pos) env) Q E s:=by
 rw[Oi]
 refine aU<|c8 ?_
 rw[hs]
 refine aI<|ab ?_
 refine sC (by decide)<|aU<|d3 h (λv bG kR=>?_) λz z x=>x
 rw[hw]
 refine aU<|ab ?_
 rw[kH ht]
 exact aU<|d3 kR (λz z x=>ab x) λz z x=>x
theorem Wr{P:Prop}(V:ji C M (.asg f t) σ=some (fl,bk))(k:∀v aC,bX C M t σ=some (v,aC)->zq C M f v aC=some bk->fl=.next->P):P:=av V λp h V=>cR V λj H e=>dQ e λb d=>k p.1 p.2 h (d▸H) b.symm
theorem NA(Y:xI Z n ns C M tt t)(hv:eK Z n ns C M te e)(hu:vX t e=true)(ht:bD t=true)(U:ji C M (.asg tt te) σ=some (fl,bk))(V:dA ns env)(H:rj n A)(G:c7 Z ns env σ g fx ρ s){Q:Flow->Shared->Prop}(P:yD Z ns env bk fl g fx ρ Q)
  (hw:jA [t] e env=pure none):au (Mo Z) A (exec (.Assign [t] e pos) env) Q E s:=Wr U λv d L N O=>by
 subst O
 exact wx (A1 hu) hw ht<|hv σ _ _ L env A g fx ρ s V H G E _ λr f a B y m h k z=>Y d _ _ N env A r f a B y V H k z E _ λw x b D p j l=>(P.of m h) w x b D _ p j l rfl
theorem Ba(H:xI Z n ns C M l t)(j:eK Z n ns C M k e)(U:vX t e=true)(w:∀env,dA ns env->jA [t] e env=pure none)(d:bD t=true):lE Z n ns C M fe (.asg l k) (.Assign [t] e p):=
 λσ bk fl v env A g fx ρ s V f h G E Q P=>NA H j U d v V h G P<|w env V
set_option backward.match.sparseCases true in
noncomputable def lB(env:Env)(l:Nat):ao->Option Str
 |.Name id p=>if env.kindOf id==some .local&&p.line==l then some id else none
 |_=>none
set_option backward.match.sparseCases true in
theorem ow(h:mz vs=true):jA [.Tuple ts k p] (.Tuple vs b p') env=pure none\/
  ∃a e,jA [.Tuple ts k p] (.Tuple vs b p') env=pure (some a)/\a=ts.filterMap (lB env e)/\a.length=ts.length/\a.eraseDups.length=a.length/\(ts.length=2\/ts.length=3):=by
 unfold mz at h
 unfold jA
 dsimp only
 have f:(λx:Expr=>match x with|.Name id O=>if(env.kindOf id==some .local&&O.line==(ts.head?.map (·.pos.line)).getD 0)=true then some id else none|_=>none)=lB env ((ts.head?.map (·.pos.line)).getD 0):=by funext x;cases x<;>rfl
 split
 ·exact .inl rfl
 ·rename_i h1
  split
  ·exact .inl rfl
  ·split
   ·exact .inl rfl
   ·rename_i h3
    split
    ·exact .inl rfl
    ·rename_i h4
     split
     ·rename_i h5
      rw[h5] at h;simp at h;exact absurd h (by simpa -iota using h4)
     ·right;simp -iota only[g7,not_or,tO,bne_iff_ne,ne_eq,Decidable.not_not,beq_iff_eq,Bool.not_eq_true,Bool.or_eq_false_iff,Bool.not_eq_false] at h1 h3;refine y25 _ ((ts.head?.map (·.pos.line)).getD 0) rfl ?_ ?_ ?_ ?_
      ·rw[<-f];rfl
      ·exact h3.1
      ·exact h3.2
      ·have:=h1.1.1;by_cases q:ts.length=2
       ·exact .inl q
       ·exact .inr<|(by simpa -iota using this:¬ts.length=2->ts.length=3) q
theorem m6(h1:σ.loc[i]? =some l)(h2:∀k,l≠.cell k):gu i v σ=some {σ with loc:=σ.loc.set i<|.val v}:=by
 unfold gu;rw[h1];cases l with
 |un=>rfl
 |val w=>rfl
 |cell k=>exact absurd rfl<|h2 k
theorem Bz(I:ns[i]? =some (x,.local))(G:c7 Z ns env σ g fx ρ s):∃l,σ.loc[i]? =some l/\∀k,l≠.cell k:=by refine iz G.yp.is λf m d O L=>dn (L.loc i x I) λl H h=>?_;refine⟨l,H,λk e=>?_⟩;subst e;rcases h with h|⟨_,_,h,_⟩<;>exact LV.noConfusion h
theorem Dk(I:ns[i]? =some (x,.local))(J:ns[j]? =some (y,.local))(h:i≠j)(G:c7 Z ns env σ g fx ρ s)(H:gu i a σ=some τ)(f:gu j b τ=some bk):∃d,gu j b σ=some d/\gu i a d=some bk:=by refine dn (Bz I G) λL Q n1=>dn (Bz J G) λk e N=>?_;obtain rfl:=aa<|(m6 Q n1).symm.trans H;obtain rfl:=aa<|(m6 ((bJ h).trans e) N).symm.trans f;refine⟨_,m6 e N,(m6 ((bJ<|ff h).trans Q) n1).trans ?_⟩;rw[List.set_comm _ _ h]
theorem H3(H:(([.Name x p1,.Name y e]:List ao).filterMap<|lB env l).length=2):([.Name x p1,.Name y e]:List ao).filterMap (lB env l)=[x,y]/\env.kindOf x=some .local/\env.kindOf y=some .local:=by
 have rY:∀{z w:Str}{p:Pos},lB env l (.Name z p)=some w->w=z/\env.kindOf z=some .local:=by
  intro z w p h;have h:(if(env.kindOf z==some cj.local&&p.line==l)=true then some z else none)=some w:=h;by_cases c:(env.kindOf z==some cj.local&&p.line==l)=true
  ·rw[if_pos c] at h;exact⟨(aa h).symm,cn c λa u=>beq_iff_eq.mp a⟩
  ·rw[if_neg c] at h;exact aR h
 rw[eH,eH,List.filterMap_nil] at H ⊢;cases c1:lB env l (.Name x p1) with
 |none=>rw[c1] at H;cases c2:lB env l (.Name y e)<;>(rw[c2] at H;cases H)
 |some a=>
  cases c2:lB env l (.Name y e) with
  |none=>rw[c1,c2] at H;cases H
  |some b=>refine i9 (rY c1) λd j=>?_;subst d;refine i9 (rY c2) λd k=>?_;subst d;exact⟨rfl,j,k⟩
theorem SR(V:dA ns env)(p:eu z ns 0=some (i,k))(h:k=.local\/k=.cell)(H:env.kindOf z=some .local):k=.local:=
 h.elim id λh=>by subst h;exact cE<|aa<|H.symm.trans<|V.cell _ (gw p).2
theorem Hh{ts:List T}(h:vS C M [t,u] xs σ=some bk):∃a b τ,xs=[a,b]/\zq C M t a σ=some τ/\zq C M u b τ=some bk:=by refine w5 (SN (yc h).symm) λa b z=>?_;subst z;exact av h λτ H h=>av h λe d h=>⟨a,b,τ,rfl,H,aa h▸d⟩
theorem HA{i j k1 k':Nat}(hx:eu x ns 0=some (i,kx))(O:kx=.local\/kx=.cell)(hy:eu y ns 0=some (j,ky))(Y:ky=.local\/ky=.cell)
  (hv:eK Z n ns C M te (.Tuple vs k' p')) (hg:mz vs=true):lE Z n ns C M fe (.asg (.tp [.nm i,.nm j]) te) (.Assign [.Tuple [.Name x p1,.Name y p2] k1 tp] (.Tuple vs k' p') pos):=
 λσ bk fl ev env A g fx ρ s V hfe hA G E Q P=>by
  rcases ow hg with hw|⟨names,line,hw,hn,hl,hd,_⟩
  ·exact NA (zc rfl rfl<|m3 rfl (pk hx O)<|m3 rfl (pk hy Y) sX) hv rfl rfl ev V hA G P hw
  ·
   refine nK (H3<|hn▸hl) λh U hky'=>?_;have h:=hn.trans h;obtain rfl:=SR V hx O U;obtain rfl:=SR V hy Y hky';have J:=(gw hx).1;have H:=(gw hy).1;have hij:i≠j:=by intro q;rw[<-q,J] at H;have hxy:x=y:=congrArg i8<|aa H;rw[h,hxy] at hd;rw[List.eraseDups_cons] at hd;simp at hd
   refine Wr ev λv aC e1 e2 er=>?_;subst er;rw[Oi];refine aU<|c8 ?_;rw[A1 rfl];refine aI<|ab ?_;refine sC a8<|aU<|hv σ _ _ e1 env A g fx ρ s V hA G E _ λfD lX eh bG w B k d AA=>?_;rw[hw,h];refine aU<|ab ?_;refine aU<|c5<|aU<|av e2 λxs hx hp=>?_;refine nZ (Hh (ts:=[]) hp) λa b τ zz3 h1 h2=>?_;subst zz3;refine dn (Dk J H hij d h1 h2) λXc h3 h4=>vp hA.handled d.eN (Fh hx) AA λi0 iA ys e z yH=>?_;obtain⟨ya,ys',rfl,ra,yb,ys'',rfl,rb,rfl⟩:=yH;have m:=d.with e z rfl;refine aU<|u5<|wpAny_bindName<|jR hy (.inl rfl) h3 V m rb λlg Xf rm f r=>?_;refine u5<|wpAny_bindName<|jR ‹eu x ns 0=_› (.inl rfl) h4 V r (ra.mono f) λI N7 uc D t=>?_;exact assignInOrder_nil<|ab<|P I _ _ uc _ (((B.trans e).trans f).trans D) (λb hb=>(cm hb).trans<|(cm hb).trans<|k b hb) t rfl
theorem D1{ts:List ao}(h:ts.any (λe=>!jQ e)=true):(ts.filterMap<|lB env l).length<ts.length:=by
 induction ts with
 |nil=>exact ae h
 |cons a ts I=>
  have H:=List.length_filterMap_le (lB env l) ts;rw[eH];cases q:lB env l a with
  |none=>exact dY H
  |some x=>
   refine u9<|I ?_;cases N:jQ a with
   |true=>rw[kA,N] at h;exact h
   |false=>cases a<;>first|exact ae N|exact aR q
theorem Hy(h:xI Z n ns C M d (.Tuple ts k p))(v:eK Z n ns C M t (.Tuple vs b p'))(H:mz vs=true)(N:ts.any (λe=>!jQ e)=true):lE Z n ns C M fe (.asg d t) (.Assign [.Tuple ts k p] (.Tuple vs b p') O):=
 Ba h v rfl (λenv V=>(ow H).elim id λz=>z.elim λm z=>z.elim λL z=>
  (b0 _<|Jy (D1 N)<|z.2.2.1.symm.trans<|congrArg E3 z.2.1).elim) rfl
theorem Kq{i:Nat}(p:eu x ns 0=some (i,k))(b:k=.local\/k=.cell):qb Z n ns (.one i) (.Name x O):=
 ⟨λσ bk v a env A g fx ρ s y V H G r E Q P=>pk (C:=λz z z=>none) (M:=λz z=>none) p b σ bk v a env A g fx ρ s y V H G r E Q P,λis h=>nomatch h⟩
theorem Bd:∀{xs:List SV}{σ:ba},m5 is xs σ=vS C M (is.map .nm) xs σ:=by
 induction is with
 |nil=>intro xs σ;cases xs<;>rfl
 |cons i is h=>
  intro xs σ;cases xs with
  |nil=>rfl
  |cons x xs=>exact congrArg (Option.bind<|gu i x σ)<|funext λz=>h
theorem HB{is:List Nat}{es:List ao}(a:es.all bD=true)(l:is.length=es.length)(h:wX Z n ns (λz z z=>none) (λz z=>none) (is.map .nm) es):qb Z n ns (.many is) (.Tuple es k O):=
 ⟨λσ bk v e env A g fx ρ s y V H G r E Q P=>av e λb x e=>zc a ((ag _).trans l) h σ bk v
  (by show(Dg v).bind _=_;rw[wL x id];exact Bd.symm.trans e) env A g fx ρ s y V H G r E Q P,λI h=>⟨_,_,_,rfl⟩⟩
end
section
variable{Z:dg}{C:bH}{M:bQ}{K:Frag}{n:Nat}{ns:bL}{c:TC}{st st':List SO}{g g' fx:FH}{ρ dp:dM}{s:Shared}{A:bq}{σ bk:ba}{env:Env}{E:Value->Shared->Prop}{i:Nat}
noncomputable def rA(ifs:List ao)(env:Env):xM Bool:=forIn ifs true λc r=>if r=true then do let k<-isTrue c env<|eval c env;pure (dC k) else pure (dC r)
theorem AX{env:Env}{es:List ao}{s:Shared}{Q:Bool->Shared->Prop}(h:Q false s):au (Mo Z) A (forIn es false λc r=>if r=true then do let ok<-isTrue c env<|eval c env;pure (dC ok) else pure (dC r)) Q E s:=by
 induction es with
 |nil=>exact ab h
 |cons e es I=>rw[cb];exact aU<|sQ<|ab I
abbrev RD(Z:dg)(n:Nat)(ns:bL)(C:bH)(M:bQ)(ts:List Mine.E)(es:List ao):Prop:=∀{σ bk:ba}{b:Bool},jv C M ts σ=some (.bool b,bk)->∀env A g fx ρ s,dA ns env->rj n A->c7 Z ns env σ g fx ρ s->∀E Q,yE Z ns env bk b g fx ρ Q->au (Mo Z) A (rA es env) Q E s
theorem Hk:RD Z n ns C M [] []:=λe env A g fx ρ s V h G E Q P=>m7 e λa b=>by obtain rfl:=svB a;subst b;exact ab<|P g fx ρ s (.refl _ _) (λz z=>rfl) G
theorem Dq{t:Mine.E}{ts:List Mine.E}{x:ao}{es:List ao}(h:lW Z n ns C M t x)(I:RD Z n ns C M ts es):RD Z n ns C M (t::ts) (x::es):=λ{σ _ _} e env A g fx ρ s V H G E Q P=>by
 unfold rA;rw[cb,if_pos rfl];exact aU<|aU<|Ge e
  (λv r m p e=>h σ _ _ _ m p env A g fx ρ s V H G E _ λk f a l j b d=>ab<|I e env A k f a l V H d E Q<|P.of j b)
  (λv m p e=>h σ _ _ _ m p env A g fx ρ s V H G E _ λk f a l j b d=>ab<|AX<|svB e▸P k f a l j b d)
theorem AW:∀{es:List ao}(h:ot Z n ns C M ts es),RD Z n ns C M ts es:=by
 induction ts with
 |nil=>
  intro es h;cases es with
  |nil=>exact Hk
  |cons _ _=>exact h.elim
 |cons t ts I=>
  intro es h;cases es with
  |nil=>exact h.elim
  |cons x es=>exact Dq h.1.2<|I h.2
noncomputable def sS(env:Env)(target t:ao)(ifs:List ao)(emit:xM Unit)(it:Value)(next:xM Fin):xM Fin:=do
 kp t.pos
 match<-qu it with
 |none=>pure<|.done .next
 |some v=>
  gC target it v
  n4 target env v
  let mut ok:=true
  for c in ifs do
   if ok then ok<-isTrue c env (eval c env)
  if ok then emit
  next
theorem Hj{env:Env}{target t:ao}{ifs:List ao}{emit:xM Unit}{next:xM Fin}{Q:Fin->Shared->Prop}
  (h:au (Mo Z) A (qu it) (λr a=>match r with
   |none=>Q (.done .next) a
   |some v=>au (Mo Z) A (gC target it v) (λz e=>au (Mo Z) A (n4 target env v) (λz f=>au (Mo Z) A (rA ifs env) (λO b=>if O=true then au (Mo Z) A emit (λz l=>au (Mo Z) A next Q E l) E b else au (Mo Z) A next Q E b) E f) E e) E a) E s):
  au (Mo Z) A (sS env target t ifs emit it next) Q E s:=by
 refine aU<|c8<|aU<|d3 h (λr a H=>?_) λz z x=>x
 cases r with
 |none=>exact ab H
 |some v=>
  refine aU<|d3 H (λz e j=>aU<|d3 j (λz f k=>?_) λz z x=>x) λz z x=>x;refine aU<|d3 k (λO b d=>?_) λz z x=>x;cases O with
  |false=>exact d
  |true=>exact aU d
theorem Ad
  (N:(Av e d it a env).isFrame=false) (U:A.under (.compLoop e d it a env)=A) (Q:CP e d it a env=sS env target J ifs emit it (again<|.compLoop e d it a env)) (I:Nat->Shared->Prop)
  (turn:∀k s,I k s->∀E,au (Mo Z) A (qu it) (λr b=>match r with
   |none=>R (.ok .next) b
   |some v=>au (Mo Z) A (gC target it v) (λz t=>au (Mo Z) A (n4 target env v) (λz w=>au (Mo Z) A (rA ifs env) (λO j=>if O=true then au (Mo Z) A emit (λz y=>∃m,m<k/\I m y) E j else ∃m,m<k/\I m j) E w) E t) E b) E s)
  (k:Nat) (h:I k s):jb (Mo Z) A (.compLoop e d it a env) R s:=by
 refine codeAny_loop rfl I (λk s L=>?_) k h
 show au _ _ (if(Av e d it a env).isFrame=true then _ else(CP e d it a env).onRaise (λx=>do noteFrame x env;theTreesLotGoes x)) _ _ s
 rw[N,if_neg a8,U]
 refine wpAny_noted ?_
 rw[Q]
 refine Hj<|d3 (turn k s L _) (λr b H=>?_) λz z x=>x
 cases r with
 |none=>exact H
 |some v=>
  refine d3 H (λz t B=>d3 B (λz w D=>d3 D (λO j l=>?_) λz z x=>x) λz z x=>x) λz z x=>x;cases O with
  |false=>exact ab ⟨rfl,l⟩
  |true=>exact d3 l (λz y G=>ab ⟨rfl,G⟩) λz z x=>x
theorem mm(hnf:(Sg e d it acc env).isFrame=false)(hun:A.under (.compStart e d it acc env)=A)(hg:(clausesOf e)[d]? =some ⟨target,iter,ifs,0⟩)
  (h0:jb (Mo Z) A (.compLoop e d it acc env) R s) (h:∀E,au (Mo Z) A (jL it) (λit' s'=>jb (Mo Z) A (.compLoop e d it' acc env) R s') E s):
  jb (Mo Z) A (.compStart e d it acc env) R s:=by
 refine AK ?_
 show au _ _ (if(Sg e d it acc env).isFrame=true then _ else(compStart e d it acc env).onRaise (λx=>do noteFrame x env;kp theWindowsPlace)) _ _ s
 rw[hnf,if_neg a8,hun]
 refine wpAny_notedAt ?_
 unfold compStart
 rw[hg]
 refine aU<|gX<|wpAny_ite ?_
 split
 ·first
   |exact aU<|ab<|ab<|OI rfl h0
   |exact ab<|OI rfl h0
 ·refine aU<|c5 ?_;exact aU<|c8<|aU<|d3 (h _) (λit' s' h'=>ab<|OI rfl h') λz z x=>x
noncomputable def nv{b:Type}(f:SV->b->ba->Option (b×ba)):b->List SV->ba->Option (b×ba)
 |a,[],σ=>some (a,σ)
 |a,x::r,σ=>(f x a σ).bind λq=>nv f q.1 r q.2
theorem fw.WN{St:Nat->Heap->Prop}(L:eX Z.prog Z.w Z A I w items d a tup St)(B:fw Z ns env σ g fx ρ s w d (g0 x D o) a i St)(l:env.locals∉w)(m:D∉w)(p:D≠env.locals)
  (X:dG g ρ g' dp) (F:∀b,b≠env.locals->b≠D->f b=fx b) (r:f D=some t) (G:c7 Z ns env bk g' f dp s'):fw Z ns env bk g' f dp s' w d (g0 x D t) a i St:=by
 have N:∀b∈w,b≠env.locals/\b≠D:=λb h=>⟨λe=>l<|e▸h,λe=>m<|e▸h⟩
 refine⟨G,B.ext.trans X,λb h=>?_,λb h j=>?_,?_⟩
 ·refine eS (B.there b h) λo e=>⟨o,(F b (N b h).1 (N b h).2).trans e⟩
 ·by_cases H:b=D
  ·subst H;rw[r,cO]
  ·rw[cm H,F b j H,B.other b h j,cm H]
 ·refine L.frame i s.heap s'.heap B.st λb o h e=>?_;rcases h with h|h
  ·refine eS (B.there b h) λO k=>?_;have:O=o:=by have:=B.good.eN.fix b O k;rw[e] at this;exact(aa this).symm
   subst this;exact G.eN.fix _ _<|(F b (N b h).1 (N b h).2).trans k
  ·exact G.eN.keep _ _<|(B.ext.trans X).g _ _ h
inductive acv{α:Type}(Rel:α->Obj->FH->dM->Prop)(f:SV->α->ba->Option (α×ba))(Z:dg)(ns:bL)(env:Env)(wr:List Addr)(items:List SV)(qs Jo:FH)(qd:dM)(St:Nat->Heap->Prop)(D:Addr)(r:Option (α×ba))(k:Nat)(s:Shared):Prop
 |mk (j:Nat) (a:α) (τ:ba) (g fx:FH) (ρ:dM) (o:Obj) (hk:k=items.length-j) (hj:j<=items.length) (hl:nv f a (items.drop j) τ=r) (B:fw Z ns env τ g fx ρ s wr qs (g0 Jo D o) qd j St) (hr:Rel a o g ρ)
theorem tA{α:Type}{Rel:α->Obj->FH->dM->Prop}(hmono:∀{a o g ρ g' dp},dG g ρ g' dp->Rel a o g ρ->Rel a o g' dp){f:SV->α->ba->Option (α×ba)}{wr:List Addr}{items:List SV}{tup:Bool}{St:Nat->Heap->Prop}
  (L:eX Z.prog Z.w Z A I wr items qs H tup St) (hloc:env.locals∉wr) (hDl:D≠env.locals) (hDw:D∉wr) {e target iter:ao} {ifs:List ao} {emit:xM Unit}
  (hnf:(Av e d (.ref I) (.ref D) env).isFrame=false) (hun:A.under (.compLoop e d (.ref I) (.ref D) env)=A) (heq:CP e d (.ref I) (.ref D) env=sS env target iter ifs emit (.ref I) (again<|.compLoop e d (.ref I) (.ref D) env)) (ht:tup=true->∃elts k p,target=.Tuple elts k p)
  (hfree:∀b∈wr,G b=none) {R:Result->Shared->Prop} {a':α} {Xc:ba}
  (hturn:∀x a τ N t r,f x a τ=some (N,t)->nv f N r t=some (a',Xc)->∀g fx ρ s o v E (Q:Shared->Prop),c7 Z ns env τ g fx ρ s->fx D=some o->Rel a o g ρ->RV Z g ρ x v->
   (∀g' w dp s' o',dG g ρ g' dp->(∀b,b≠env.locals->b≠D->w b=fx b)->w D=some o'->Rel N o' g' dp->c7 Z ns env t g' w dp s'->Q s')->
   au (Mo Z) A (n4 target env v) (λy O=>au (Mo Z) A (rA ifs env) (λok U=>if ok=true then au (Mo Z) A emit (λy uc=>Q uc) E U else Q U) E O) E s)
  {a:α} {τ:ba} (hl:nv f a items τ=some (a',Xc)) {o:Obj} (B:fw Z ns env τ g fx ρ s wr qs (g0 G D o) H 0 St) (hr:Rel a o g ρ)
  (hR:∀g' w dp s' o',dG qs H g' dp->(∀b,b≠env.locals->b≠D->w b=G b)->w D=some o'->Rel a' o' g' dp->c7 Z ns env Xc g' w dp s'->R (.ok .next) s'):
  jb (Mo Z) A (.compLoop e d (.ref I) (.ref D) env) R s:=by
 refine Ad hnf hun heq (I:=acv Rel f Z ns env wr items qs G H St D<|some (a',Xc)) ?_ items.length
  (.mk 0 a τ g fx ρ o rfl (dW _) hl B hr)
 intro k bG hI E
 obtain⟨j,N,t,fD,lX,eh,Xg,rfl,hj,h,V,AA⟩:=hI
 rcases Jz hj with hend|hj'
 ·rw[hend,nE] at h;exact dQ (aa h) λh1 h2=>by
   subst h1 h2;exact V.last L hloc hend (λb hb=>(cm λz:b=D=>hDw<|z▸hb).trans<|hfree b hb) λi0 n3 O J GU u1=>
    hR i0 n3 eh O Xg (V.ext.trans J) (λb hb hb'=>(GU b hb).trans<|cm hb') ((GU D hDl).trans cO) (hmono J AA) u1
 ·rw[dN hj'] at h;exact av h λq hf h=>V.next L hloc (ax hj') ht λi0 n3 O v J af6 rv hgo=>hgo _ _ λlg EY U rp Y=>
   hturn _ _ _ _ _ _ hf h lg EY eh U Xg v E _ Y.good ((Y.other D hDw hDl).trans cO) (hmono (J.trans rp) AA) (rv.mono rp) λqr AG rl uc N7 pS sF Xq sD u0=>
    ⟨items.length-(j+1),G6 _ _ hj',.mk (j+1) q.1 q.2 qr AG rl N7 rfl hj' h (Y.WN L hloc hDw hDl pS sF Xq u0) sD⟩
end
def kI.T1(t:bL)(a:bL):Prop:=∀p∈a,p.2=.local\/p.2=.globalImplicit\/(p.2=.free/\∃j k,eu p.1 t 0=some (j,k)/\(k=.cell\/k=.free))
def kI.T2(a:bL):Prop:=∀p∈a,(p.1==("__debug__":Str))=false/\(p.1==("__classdict__":Str))=false
structure kI(outer names:bL):Prop where
 kinds:kI.T1 outer names
 nodup:(names.map (·.1)).Nodup
 nf:kI.T2 names
theorem IE(h:Cb t p=true):p.2=.local\/p.2=.globalImplicit\/(p.2=.free/\∃j k,eu p.1 t 0=some (j,k)/\(k=.cell\/k=.free)):=by
 obtain⟨x,k⟩:=p;cases k with
 |«local»=>exact .inl rfl
 |globalImplicit=>exact .inr<|.inl rfl
 |free=>refine dn ((E2 ..).mp h) λq h1 h2=>.inr<|.inr ⟨rfl,q.1,q.2,h1,?_⟩;revert h2;cases q.2<;>intro h2<;>first|exact .inl rfl|exact .inr rfl|exact ae h2
 |_=>exact ae h
theorem rB(h:(!b)=true):b=false:=match b,h with|false,_=>rfl
theorem kI.of(h:nt t m=true):kI t m:=cn h λh f=>cn h λd e=>
 ⟨λp H=>IE<|aZ.mp d p H,eW e,λp H=>cn (aZ.mp f p H) λa b=>⟨rB a,rB b⟩⟩
theorem wa(F:Str->cj->cj)(x:Str)(a:bL):(a.map λp=>(p.1,F p.1 p.2)).lookup x=(a.lookup x).map (F x):=by
 induction a with
 |nil=>exact rfl
 |cons Q r I=>
  obtain⟨y,k⟩:=Q;rw[cA,bY,bY];cases h:x==y with
  |true=>obtain rfl:=beq_iff_eq.mp h;rfl
  |false=>exact I
theorem vN(e:Scope)(env:Env)(x:Str):(relabel e env).names.lookup x=(e.names.lookup x).map λk=>if(k==.free&&env.scope.kind==.function&&env.kindOf x==some .cell)=true then .cell else k:=by have:=wa (λx k=>if(k==.free&&env.scope.kind==.function&&env.kindOf x==some .cell)=true then .cell else k) x e.names;rw[<-this];congr 1;apply gE;intro p _;obtain⟨n,k⟩:=p;dsimp only;split<;>rfl
theorem C7{a:bL}:a.lookup x=some k->(x,k)∈a:=by
 induction a with
 |nil=>intro h;exact aR h
 |cons p r I=>
  obtain⟨y,b⟩:=p;intro h;rw[bY] at h;cases hb:x==y with
  |true=>rw[hb] at h;obtain rfl:=aa h;obtain rfl:=beq_iff_eq.mp hb;exact aw
  |false=>rw[hb] at h;exact ay _<|I h
theorem vj{a:bL}:(a.map (·.1)).Nodup->(x,k)∈a->a.lookup x=some k:=by
 induction a with
 |nil=>intro _ h;exact absurd h aJ
 |cons p r I=>
  obtain⟨y,j⟩:=p;intro H h;rw[bY];rw[cA,d7] at H;rcases aQ.mp h with e|b
  ·exact dQ e λd f=>by rw[d,f,beq_self_eq_true]
  ·have:(x==y)=false:=by
    rw[beq_eq_false_iff_ne]
    rintro rfl
    exact H.1<|bw.mpr ⟨_,b,rfl⟩
   rw[this]
   exact I H.2 b
theorem Nl{env:Env}(f:Str×cj->List (Str×Addr)->xM (ForInStep<|List<|Str×Addr))(t:∀n k cs,f (n,k) cs=if(k==cK)=true then do let a<-yJ env n;pure (dC<|(n,a)::cs) else pure (dC cs)):
  ∀(names:bL)(cs:List (Str×Addr)),(∀p∈names,p.2=.free->∃a,env.cells.lookup p.1=some a)->
   ∃l,forIn names cs f=pure l/\(∀x,(x,cK)∈names->(names.map (·.1)).Nodup->l.lookup x=env.cells.lookup x)/\(∀x,(∀k,(x,k)∉names)->l.lookup x=cs.lookup x):=λnames=>by
 induction names with
 |nil=>exact λcs z=>⟨cs,rfl,λx h=>(absurd h aJ),λz z=>rfl⟩
 |cons p r I=>
  intro cs h;obtain⟨n,k⟩:=p;rw[cb,t];have h':=λp v=>h p<|ay _ v;by_cases b:k=.free
  ·subst b;refine eS (h _ aw rfl) λa j=>sA (I ((n,a)::cs) h') λl h1 h2 h3=>?_;have m:yJ env n=pure a:=by unfold yJ;rw[j]
   refine xX l ?_ (λx H N=>?_) λx H=>?_
   ·rw[if_pos (show(cK==cK)=true from rfl),m];exact h1
   ·have N:=d7.mp N;rcases aQ.mp H with e|H
    ·obtain⟨rfl,-⟩:=fy e;rw[h3 _ λk hm=>N.1<|bw.mpr ⟨_,hm,rfl⟩,bY,beq_self_eq_true,j]
    ·exact h2 x H N.2
   ·rw[h3 x λk hm=>H k<|ay _ hm,bY,beq_eq_false_iff_ne.mpr λe:x=n=>H .free<|e▸aw]
  ·refine sA (I cs h') λl h1 h2 h3=>xX l ?_ (λy H N=>?_) λy H=>h3 y λk hm=>H k<|ay _ hm
   ·rw[if_neg (show ¬((k==cK)=true) from λe=>b<|eq_of_beq e)];exact h1
   ·have N:=d7.mp N;rcases aQ.mp H with e|H
    ·exact absurd (fy e).2.symm b
    ·exact h2 y H N.2
theorem wF{scope:Scope}{env:Env}(h:∀p∈scope.names,p.2=.free->∃a,env.cells.lookup p.1=some a)(H:(scope.names.map (·.1)).Nodup):∃l,closureFor scope env=pure l/\∀x,(x,cK)∈scope.names->l.lookup x=env.cells.lookup x:=by
 obtain⟨l,h1,h2,_⟩:=Nl (λx cs=>match x with
  |(name,kind)=>if(kind==cK)=true then do let a<-yJ env name;pure (dC<|(name,a)::cs) else pure (dC cs)) (λz z z=>rfl) scope.names [] h
 refine⟨l,?_,λx b=>h2 x b H⟩;show(forIn scope.names [] _>>=λcs=>pure cs)=_;have:=h1;rw[this];rfl
section
variable{Z:dg}{C:bH}{M:bQ}{K:Frag}{n:Nat}{ns:bL}{c:TC}{st st':List SO}{g g' fx:FH}{ρ dp:dM}{s:Shared}{A:bq}{σ bk:ba}{env:Env}{E:Value->Shared->Prop}{i:Nat}
theorem wB{p:Scope}{C:Addr}(V:dA ns env)(O:kI ns p.names)(H:p.kind=.function):dA p.names (pU p l C env):=by
 have d:∀x,(pU p l C env).kindOf x=(p.names.lookup x).map λk=>if(k==.free&&env.scope.kind==.function&&env.kindOf x==some .cell)=true then .cell else k:=λx=>vN p env x
 refine⟨H,λx h=>?_,λx h=>?_,λx h=>?_,λx h=>?_,V.globals,V.builtins,O.nodup,O.nf⟩
 ·rw[d,h];rfl
 ·rcases O.kinds _ (C7 h) with h|h|⟨h,_⟩<;>exact cE h
 ·rw[d,h];simp only[kK,pZ];split
  ·exact .inl rfl
  ·exact .inr rfl
 ·rw[d,h];rfl
theorem Nd{scope:Scope}{l:List (Str×Addr)}(L:kP Z g ρ env ns loc m)(O:kI ns scope.names)(a:∀x,(x,cK)∈scope.names->l.lookup x=env.cells.lookup x)(N:c.ns=ns):
  kP Z g ρ (pU scope l D env) scope.names (gW (iN c scope) loc) (λz=>none) where
 loc j x h:=by refine⟨.un,?_,.inl rfl⟩;unfold gW iN;rw[ai,ai,h];rfl
 p9 j x k h H:=by
  have hm:=aH h;rcases O.kinds _ hm with e|e|⟨e,J,r,d,b⟩
  ·dsimp only at e;subst e;rcases H with H|H<;>exact cE H
  ·dsimp only at e;subst e;rcases H with H|H<;>exact cE H
  ·dsimp only at e d;subst e;refine iz (L.p9 J x r (gw d).1 b) λf p h1 h2 h3=>xW f p ?_ h2 ?_
   ·unfold gW iN;rw[ai,ai,h];simp only[kK,N,d,F9,h1,Option.getD_some]
   ·show l.lookup x=_;rw[a x hm,h3]
noncomputable def ml(fx:FH)(D:Addr):FH:=λb=>if b=D then none else fx b
theorem mI:ml fx D D=none:=if_pos rfl
theorem oV(h:b≠D):ml fx D b=fx b:=if_neg h
theorem B8(h:fx b=none):ml fx D b=none:=by
 by_cases q:b=D
 ·rw[q,mI]
 ·rw[oV q,h]
theorem Nb(h:ml fx D b=some o):b≠D/\fx b=some o:=by
 by_cases q:b=D
 ·rw[q,mI] at h;exact aR h
 ·exact⟨q,(oV q).symm.trans h⟩
theorem Cu{O:SO}(h:O.live=false):O=.gone:=by cases O<;>first|rfl|exact ae h
theorem bR.Q7(S:bR Z st g fx ρ s)(j:fx D=some o){h':Heap}(v:Nat)(d:∀b ob,b≠D->s.heap.get? b=some ob->h'.get? b=some ob):bR Z st g (ml fx D) ρ {s with heap:=h',toks:=v}:=by
 have G:=S.q9 D o j;have t:∀b,Z.tab b=true->b≠D:=λb h z=>bU _<|j.symm.trans (S.f6 D<|z▸h).2;have N:∀b ob,g b=some ob->b≠D:=λb ob e z=>bU ob<|(z▸e).symm.trans G;refine⟨λb ob e=>d b ob (N _ _ e)<|S.keep b ob e,λb ob e=>d b ob (Nb e).1<|S.fix b ob (Nb e).2,S.len,λk O p H f=>?_,S.uniq,λk O p x H l f r=>?_,S.top,Z.kU _ _ S.tabs (λb ob e B=>d b ob (t _ B) e) λb o e=>d b o (N _ _<|S.top b o e)<|S.eC b o e,
  λb B=>⟨(S.f6 b B).1,B8 (S.f6 b B).2⟩,λb ob e=>S.q9 b ob (Nb e).2,S.same,S.j9 (λy y e=>e) λb ob e B=>d b ob (t _ B) e⟩
 ·cases l:O.live with
  |true=>exact(S.objs k O p H f).mono (.refl _ _) λb ob B e=>d b ob (λz=>bU _<|j.symm.trans<|z▸(S.off k O p b H l f B).2.1) e
  |false=>rw[Cu l];trivial
 ·refine nK (S.off k O p x H l f r) λa b c=>⟨a,B8 b,c⟩
theorem Bf(h:fx D=some o):g0 (ml fx D) D o=fx:=by
 funext b;by_cases q:b=D
 ·rw[q,cO,h]
 ·rw[cm q,oV q]
def uv(Z:dg)(a:List SV)(o:Obj)(g:FH)(ρ:dM):Prop:=∃v n,o=lV v n/\dD Z g ρ a v.toList
theorem uv.mono(x:dG g ρ g' dp)(h:uv Z a o g ρ):uv Z a o g' dp:=h.imp λz=>aA λz=>aG λr=>r.mono x
theorem Ia(S:bR Z st g fx ρ s)(f:fx D=some o)(j:uv Z Y o g ρ)(m:Bool)(σ:ba)(H:σ.st=st):
  ∃g' dp,dG g ρ g' dp/\bR Z (dh m Y σ).2.st g' (ml fx D) dp s/\RV Z g' dp (dh m Y σ).1 (.ref D)/\(dh m Y σ).2.loc=σ.loc:=by
 subst H
 refine pg j λv k d r=>?_
 subst d
 have a:bR Z σ.st g (g0 (ml fx D) D<|lV v k) ρ s:=by rw[Bf f];exact S
 have N:ml fx D D=none:=mI
 have O:=S.fix _ _ f
 cases hm:m||!bS Y with
 |true=>rw[Bu hm];have X:dG g ρ g (ρ++[(D,D)]):=⟨λy y e=>e,[(D,D)],rfl⟩;exact Sm g (ρ++[(D,D)]) X (a.adopt N (.list Y) ⟨rfl,v,k,O,r.mono X⟩) ⟨(D,D),by rw[<-S.len,az<|aF _,bt];rfl,rfl⟩ rfl
 |false=>refine i9 (v8 (σ:=σ) hm) λe h=>?_;rw[e];have G:=a.q9 D _ cO;have X:dG g ρ (g0 g D<|lV v k) ρ:=⟨λb ob e=>(cm λz:b=D=>aR<|G.symm.trans<|z▸e).trans e,[],(a9 _).symm⟩;exact Sm _ ρ X (a.settle N) ⟨D,v,k,rfl,cO,(r.free h).mono X.nil⟩ rfl
theorem yx{St:Nat->Heap->Prop}(R:vl Z A ns env σ items tup g fx ρ s I V St){p:Scope}{cl:List (Str×Addr)}(O:kI ns p.names)(hns:c.ns=ns)
  (hcl:∀x,(x,cK)∈p.names->cl.lookup x=env.cells.lookup x) {d oF:Obj} (hF:d.isFreed=false) {H:Heap} (t':Nat) (hn:H.Ns (s.heap.push d).objs.size λy=>none) (hs:da (s.heap.push d).objs.size ((s.heap.push d).push oF) H):
  ∃g' fx',dG g ρ g' ρ/\fw Z p.names (pU p cl (s.heap.push d).objs.size env) ⟨gW (iN c p) σ.loc,σ.st⟩ g' fx' ρ {s with heap:=H,toks:=t'} V g (g0 fx s.heap.objs.size d) ρ 0 St/\
   (s.heap.push d).objs.size∉V/\s.heap.objs.size∉V/\s.heap.objs.size≠(s.heap.push d).objs.size/\fx s.heap.objs.size=none/\fx (s.heap.push d).objs.size=none/\env.locals≠s.heap.objs.size/\env.locals≠(s.heap.push d).objs.size:=by
 have w:(s.heap.push d).objs.size=s.heap.objs.size+1:=fK ..
 generalize hC:(s.heap.push d).objs.size=Cc at *
 generalize hD:s.heap.objs.size=D at *
 have hDC:D≠Cc:=by rw[w];exact bN<|cp _
 have U:=hD▸bA _
 have N:s.heap.get? Cc=none:=by
  cases q:s.heap.get? Cc with
  |none=>rfl
  |some o=>have:=bW q;rw[hD,w] at this;exact absurd this<|sM.mpr<|iJ _
 have nC:=hC▸bA _
 have a:=R.good.eN
 have Y:=hD▸bp _ hF
 have t:=a.Em s.toks b8 D d U Y
 have k:=λb o e=>(hs.2 b (λz=>by rw[z,nC] at e;exact aR e)).trans<|b8 b o e
 refine dn (kB hn) λoC hoC hO=>?_
 have v:=bR.Em t t' k Cc oC nC hoC
 have f:dG g ρ (dO Z g s.heap (s.heap.push d) λb=>b==D) ρ:=aX
 have j:dG (dO Z g s.heap (s.heap.push d) λb=>b==D) ρ (dO Z (dO Z g s.heap (s.heap.push d) λb=>b==D) (s.heap.push d) H λb=>b==Cc) ρ:=aX
 have Q:∀b∈V,b≠D/\b≠Cc:=λb B=>by refine eS (R.lp.there _ _ R.st b B) λo e=>⟨λz=>(by rw[z,U] at e;exact aR e),λz=>(by rw[z,N] at e;exact aR e)⟩
 have G:=λh=>(Q _ h).2 rfl
 have J:=λh=>(Q _ h).1 rfl
 refine iz R.good.yp.is λoL m hL hOL LL=>?_
 have L:=a.fix _ _ hL
 have hLD:env.locals≠D:=λz=>by rw[z,U] at L;exact aR L
 have hLC:env.locals≠Cc:=λz=>by rw[z,N] at L;exact aR L
 refine⟨_,_,f.trans j,⟨⟨v,⟨oC,_,cO,hO,(Nd LL O hcl hns).mono<|f.trans j⟩⟩,f.trans j,λb B=>?_,λb B l=>?_,?_⟩,G,J,hDC,?_,?_,hLD,hLC⟩
 ·refine eS (R.lp.there _ _ R.st b B) λo e=>⟨o,by rw[cm (Q b B).2,cm (Q b B).1,kY B];exact e⟩
 ·have l:b≠Cc:=l;rw[cm l];by_cases r:b=D
  ·subst r;rw[cO,cO]
  ·rw[cm r,cm r,dS B]
 ·refine R.lp.frame 0 s.heap H R.st λb o B e=>k b o<|b8 b o e
 ·have:=(a.fresh U).2.1;rwa[dS J] at this
 ·have:=(a.fresh N).2.1;rwa[dS G] at this
end
section
variable{Z:dg}{C:bH}{M:bQ}{K:Frag}{n:Nat}{ns:bL}{c:TC}{st st':List SO}{g g' fx:FH}{ρ dp:dM}{s:Shared}{A:bq}{σ bk:ba}{env:Env}{E:Value->Shared->Prop}{i:Nat}
noncomputable def yk(f:SV->ba->Option (List SV×ba))(x:SV)(a:List SV)(τ:ba):Option (List SV×ba):=(f x τ).map λr=>(a++r.1,r.2)
theorem ql:∀{a:List SV}{τ:ba},fF f a items τ=nv (yk f) a items τ:=by
 induction items with
 |nil=>intro _ _;exact rfl
 |cons x r h=>
  intro a τ;show(f x τ).bind _=((f x τ).map _).bind _;cases f x τ with
  |none=>rfl
  |some q=>exact h
theorem LN{f:SV->ba->Option (List SV×ba)}{P:Prop}(h:yk f x a τ=some (d,b))(k:∀w,f x τ=some (w,b)->a++w=d->P):P:=cR h λr h e=>dQ e λj l=>k r.1 (l▸h) j
theorem ua{f:SV->ba->Option (List SV×ba)}:∀{a d:List SV}{τ b:ba},nv (yk f) a items τ=some (d,b)->a.length<=d.length:=by
 induction items with
 |nil=>intro _ _ _ _ h;exact dQ (aa h) λe z=>dK<|congrArg E3 e
 |cons x r I=>intro a d τ b h;exact av h λq H j=>LN H λw z e=>ah (by rw[<-e,aj];exact a4 _ _)<|I j
def Gy(C:bH)(M:bQ)(t:TN)(cs:List Mine.E)(e:Mine.E)(x:SV)(τ:ba):Option (List SV×ba):=(cS t x τ).bind λτ=>(jv C M cs τ).bind λq=>(fa q.1).bind λb=>match b with
 |true=>(bX C M e q.2).map λr=>([r.1],r.2)
 |false=>some ([],q.2)
theorem V8{P:Prop}(h:Gy C M t cs l x τ=some (w,d))(v:∀a f y,cS t x τ=some a->jv C M cs a=some (.bool true,f)->bX C M l f=some (y,d)->[y]=w->P)
  (z:∀a,cS t x τ=some a->jv C M cs a=some (.bool false,d)->[]=w->P):P:=av h λa m h=>av h λq H h=>av h λb B h=>y7 B λQ=>by
 have H:jv C M cs a=some (.bool b,q.2):=by rw[H,<-Q]
 cases b with
 |true=>exact cR h λr p e=>dQ e λj k=>v a q.2 r.1 m H (k▸p) j
 |false=>exact dQ (aa h) λj k=>z a m (k▸H) j
theorem EJ(S:bR Z st g fx ρ s)(f:fx D=some o)(v:uv Z a o g ρ)(r:RV Z g ρ x y)(L:a.length<=dI)
  (h:∀g' O s',dG g ρ g' ρ->bR Z st g' (g0 fx D O) ρ s'->uv Z (a++[x]) O g' ρ->Q .none s'):au (Mo Z) A (call (.builtin "list.append") [.ref D,y]) Q E s:=by
 refine pg v λV k z j=>?_
 subst z
 have t:=S.fix _ _ f
 have l:=j.length
 rw[aL] at l
 refine wpAny_list_append_plain (hsz:=gz<|W8 L l) (⟨k,t⟩:s.heap.PlainList D V) λG p d=>eS p λI H=>?_
 have m:=S.El s.toks f (λb ob B e=>(d.2 b B).trans e) H
 refine h _ _ _ aX m ⟨_,_,rfl,?_⟩
 rw[I7]
 exact(j.mono aX).append<|dD.one<|r.mono aX
theorem BS(F:o5 Z g ρ env ns l fx)(d:D≠env.locals):o5 Z g ρ env ns l (g0 fx D O):=by refine iz F.is λo m h H a=>⟨o,m,by rw[cm<|ff d];exact h,H,a⟩
theorem xY(hN:qb Z n ns t target)(hc:ot Z n ns C M cs ifs)(he:eK Z n ns C M te elt)(V:dA ns env)(hA:rj n A)(N:D≠env.locals)
  (hf:yk (Gy C M t cs te) x a τ=some (AH,Ay)) (hlim:AH.length<=dI) {Q:Shared->Prop} (G:c7 Z ns env τ g fx ρ s) (hD:fx D=some o) (hr:uv Z a o g ρ) (rv:RV Z g ρ x v)
  (h:∀g' fx' dp s' o',dG g ρ g' dp->(∀b,b≠env.locals->b≠D->fx' b=fx b)->fx' D=some o'->uv Z AH o' g' dp->c7 Z ns env Ay g' fx' dp s'->Q s'):
  au (Mo Z) A (n4 target env v) (λz j=>au (Mo Z) A (rA ifs env) (λok d=>if ok=true then au (Mo Z) A (do let _<-call (.builtin "list.append") [.ref D,<-eval elt env]) (λz uc=>Q uc) E d else Q d) E j) E s:=by
 refine LN hf λw hw ea=>V8 hw (λW0 τ3 y h1 h2 h3 ew=>?_) λW0 h1 h2 ew=>?_
 ·subst ew;refine hN.1 _ _ _ h1 env A g fx ρ s v V hA G rv _ _ λJ k m j e r H=>AW hc h2 env A J k m j V hA H _ _ λL l p d f B I=>?_;rw[if_pos rfl];refine aU<|he _ _ _ h3 env A L l p d V hA I _ _ λqr AG rl uc yv U sF O sD=>?_;have F:=λb hb=>(sF b hb).trans<|(B b hb).trans<|r b hb;have hal:=ah (by rw[<-ea,aj];exact a4 _ _) hlim;exact aU<|EJ O.eN ((F D N).trans hD) (hr.mono<|(e.trans f).trans U) sD hal λAF ac1 Az Y Tt Tr=>ab
   (h AF _ rl Az ac1 (((e.trans f).trans U).trans Y) (λb hb hb'=>(cm hb').trans<|F b hb) cO (ea▸Tr) ⟨Tt,BS (O.yp.mono Y) N⟩)
 ·subst ew;refine hN.1 _ _ _ h1 env A g fx ρ s v V hA G rv _ _ λJ k m j e r H=>AW hc h2 env A J k m j V hA H _ _ λL l p d f B I=>?_;rw[if_neg a8];rw[a9] at ea;exact h L l p d o (e.trans f) (λb hb z=>(B b hb).trans<|r b hb) ((B D N).trans<|(r D N).trans hD) (ea▸hr.mono (e.trans f)) I
theorem Ng{τ:ba}{sc:bL}{cenv:Env}(d:o5 Z G a env ns σ.loc f)(X:dG G a g ρ)(F:∀b,b≠h->b≠D->fx b=f b)(t:fx D=some o)(z:uv Z y o g ρ)(S:bR Z τ.st g fx ρ s)
  (v:env.locals≠D) (L:env.locals≠h) (H:f D=none) (m:Bool):
  ∃g' dp,dG G a g' dp/\c7 Z ns env (dh m y {σ with st:=τ.st}).2 g' (ml fx D) dp s/\(∀b,b≠h->ml fx D b=f b)/\RV Z g' dp (dh m y {σ with st:=τ.st}).1 (.ref D):=by
 refine O0 (Ia S t z m {σ with st:=τ.st} rfl) λg' dp x j J w=>?_
 have k:∀b,b≠h->ml fx D b=f b:=λb B=>by
  by_cases e:b=D
  ·rw[e,H,mI]
  ·rw[oV e,F b B e]
 refine Sm g' dp (X.trans x) ⟨j,?_⟩ k J
 rw[w]
 refine iz d.is λO I l p r=>⟨O,I,by rw[k _ L];exact l,p,r.mono<|X.trans x⟩
theorem c7.S7(G:c7 Z ns env σ g fx ρ s)(j:fx a=some l)(h:env.locals≠a)(k:da a s.heap h'):c7 Z ns env σ g (ml fx a) ρ {s with heap:=h'}:=by refine⟨G.eN.Q7 j s.toks λb ob B e=>(k.2 b B).trans e,?_⟩;refine iz G.yp.is λO m H d f=>⟨O,m,(oV h).trans H,d,f⟩
end
section
variable{Z:dg}{C:bH}{M:bQ}{K:Frag}{n:Nat}{ns:bL}{c:TC}{st st':List SO}{g g' fx:FH}{ρ dp:dM}{s:Shared}{A:bq}{σ bk:ba}{env:Env}{E:Value->Shared->Prop}{i:Nat}{fe:Env->Prop}
def lx(Z:dg)(ns:bL)(env:Env)(bk:ba)(v:SV)(g fx:FH)(ρ:dM)(R:Value->Addr->Shared->Prop):Prop:=
 ∀g' f dp d D a O m,dG g ρ g' dp->(∀b,b≠env.locals->b≠a->f b=fx b)->f a=some O->q8 O m->env.locals≠a->fx a=none->c7 Z ns env bk g' f dp d->RV Z g' dp v (.ref D)->R (.ref D) a d
theorem wo(O:kI ns b)(G:c7 Z ns env σ g fx ρ s):∀p∈b,p.2=cK->∃a,env.cells.lookup p.1=some a:=by
 intro p l H;refine iz G.yp.is λo m z z L=>?_;rcases O.kinds p l with h|h|⟨_,j,k,d,e⟩
 ·exact cE<|H.symm.trans h
 ·exact cE<|H.symm.trans h
 ·refine iz (L.p9 j p.1 k (gw d).1 e) λr q z z f=>⟨_,f⟩
def Tn(Z:dg)(A:bq)(ns:bL)(target:ao)(ifs:List ao)(emit:Value->Env->xM Unit)(f:SV->ba->Option (List SV×ba)):Prop:=
 ∀(env:Env),dA ns env->∀(D:Addr),D≠env.locals->∀(x:SV)(a d:List SV)(p e:ba),yk f x a p=some (d,e)->d.length<=dI->∀(g fx:FH)(ρ:dM)(s:Shared)(o:Obj)(v:Value)(E:Value->Shared->Prop)(Q:Shared->Prop),c7 Z ns env p g fx ρ s->fx D=some o->uv Z a o g ρ->RV Z g ρ x v->
  (∀g' j dp m O,dG g ρ g' dp->(∀b,b≠env.locals->b≠D->j b=fx b)->j D=some O->uv Z d O g' dp->c7 Z ns env e g' j dp m->Q m)->
  au (Mo Z) A (n4 target env v) (λz k=>au (Mo Z) A (rA ifs env) (λr h=>if r=true then au (Mo Z) A (emit (.ref D) env) (λz l=>Q l) E h else Q h) E k) E s
theorem tz{P:Addr->Prop}(F:∀b,P b->b≠a->f b=fx b)(H:fx a=none)(b:Addr)(h:P b):ml f a b=fx b:=by
 by_cases e:b=a
 ·rw[e,mI,H]
 ·rw[oV e,F b h e]
theorem lx.of(P:tG Z ns env bk v g fx ρ Q):lx Z ns env bk v g fx ρ λy a s'=>CQ (Mo Z) A E none Q y a (.ok .next) s':=
 λg' f dp s' D a j m X F b O h d G r=>⟨m,O.ns<|G.eN.fix _ _ b,λe H=>P g' (ml f a) dp _ _ X (tz F d) (G.S7 b h H) r⟩
theorem vl.frame{St:Nat->Heap->Prop}(R:vl Z A ns env σ items tup g fx ρ s I w St):o5 Z g ρ env ns σ.loc fx:=by refine iz R.good.yp.is λO m Q a b=>⟨O,m,(dS R.loc).symm.trans Q,a,b⟩
theorem Ca{p:Scope}(hI:lF Z n ns C M ik its e)(hN:qb Z n p.names t target)
  (heq:∀it D env,CP (.ListComp U (⟨target,e,ifs,0⟩::rest) p pos) 0 it (.ref D) env=sS env target e ifs (emit (.ref D) env) it (again<|.compLoop (.ListComp U (⟨target,e,ifs,0⟩::rest) p pos) 0 it (.ref D) env)) (hturn:Tn Z A p.names target ifs emit f)
  (hok:nt ns p.names=true) (hk:p.kind=.function) (hs:eJ e=true) (hns:c.ns=ns) (e1:gp C M its σ=some (vs,aC)) (e2:jX ik vs=some items) (hok2:oJ ik t=true)
  (e3:fF f [] items ⟨gW (iN c p) aC.loc,aC.st⟩=some (ys,τ)) (hlim:ys.length<=dI) (ev:dh m ys {aC with st:=τ.st}=(v,bk))
  (V:dA ns env) (hA:rj n A) (G:c7 Z ns env σ g fx ρ s)
  (P:lx Z ns env bk v g fx ρ λy Cc s'=>CQ (Mo Z) A E use Q y Cc (.ok .next) s'):
  au (Mo Z) A (comprehension (.ListComp U (⟨target,e,ifs,0⟩::rest) p pos) p env pos' (newList []) false (eval e env) use) Q E s:=by
 have O:=kI.of hok
 refine dn (wF (wo O G) O.nodup) λcl hcl1 hcl2=>?_
 have hT:=vr hok2 hN
 refine GW rfl (nk hs) hcl1 hk (λx hx hl=>vj O.nodup (by rw[<-hl];exact hx))<|hI σ _ _ _ e1 e2 env A g fx ρ s V hA G E _ λfD lX eh d I wr St lO w j=>?_
 refine dE<|Oe (λx hx=>?_) (by simp -iota) (λJj hn Xn=>?_) hk
 ·rcases O.kinds x hx with h|h|⟨h,_⟩<;>rw[h]<;>decide
 ·obtain⟨i0,n3,sE,B,hCw,hDw,hDC,hfD,hfC,hLD,hLC⟩:=yx j O hns hcl2 (oF:={cls:=.type "dict",data:=.dict #[]}) rfl (d.toks+0) hn Xn;have V':dA p.names (pU p cl (d.heap.push {cls:=.type "list",data:=.seq #[]}).objs.size env):=wB V O hk;have h0:jb (Mo Z) A (.compLoop (.ListComp U (⟨target,e,ifs,0⟩::rest) p pos) 0 (.ref I) (.ref d.heap.objs.size)<|pU p cl (d.heap.push {cls:=.type "list",data:=.seq #[]}).objs.size env)
    (CQ (Mo Z) A E use Q (.ref d.heap.objs.size) (d.heap.push {cls:=.type "list",data:=.seq #[]}).objs.size) {d with heap:=Jj,toks:=d.toks+0}:=by
   refine tA (Rel:=uv Z) (λx r=>r.mono x) j.lp hCw hDC hDw rfl (fA rfl) (heq _ _ _) hT j.free (λx a W0 AH Ay r hf hl g fx ρ s o v E Q G hD hr rv h=>?_) (a:=[]) (by rw[<-ql];exact e3) B ⟨#[],0,rfl,rfl⟩ ?_
   ·exact hturn _ V' _ hDC _ _ _ _ _ hf (ah (ua hl) hlim) _ _ _ _ _ _ _ _ G hD hr rv h
   ·intro lg Y RP rm Xf rp CF AE GS H;refine O0 (Ng (sc:=p.names) (cenv:=env) j.frame rp CF AE GS H.eN hLD hLC hfD m) λqr rl pS J sF N=>iz H.yp.is λoC mC hC1 hC2 z=>?_;rw[ev] at J N;exact P qr (ml Y d.heap.objs.size) rl rm d.heap.objs.size _ oC mC (lO.trans pS) (λb hb hb'=>(sF b hb').trans<|w b hb) ((oV<|ff hDC).trans hC1) hC2 hLC ((w _<|ff hLC).symm.trans hfC) J N
  exact mm rfl (fA rfl) rfl h0 λE=>j.lp.self 0 _ _ _ B.st h0
theorem yw{e:Scope}(hI:lF Z n ns C M ik d r)(U:qb Z n e.names t target)(hc:ot Z n e.names C M cs ifs)(he:eK Z n e.names C M te l)
  (O:nt ns e.names=true) (hk:e.kind=.function) (hs:eJ r=true) (N:c.ns=ns) (b:bX C M (.comp m (iN c e) te t ik d cs) σ=some (v,bk))
  (V:dA ns env) (J:rj n A) (G:c7 Z ns env σ g fx ρ s)
  (P:lx Z ns env bk v g fx ρ λy Cc s'=>CQ (Mo Z) A E use Q y Cc (.ok .next) s'):
  au (Mo Z) A (comprehension (.ListComp l [⟨target,r,ifs,0⟩] e pos) e env Y (newList []) false (eval r env) use) Q E s:=by
 exact av b λp e1 b=>av b λI e2 b=>pJ b λk b=>av b λz e3 b=>iZ b λH b=>
  Ca (emit:=λD env=>(do let _<-call (.builtin "list.append") [D,<-eval l env])) hI U (λu u u=>rfl) (λenv V D hD x a w τ j hf H g fx ρ s o v E Q G hd hr rv h=>xY U hc he V J hD hf H G hd hr rv h) O hk hs N e1 e2 k e3 (eW H) b V J G P
theorem A8{p:Scope}(b:lF Z n ns C M ik I e)(N:qb Z n p.names t target)(d:ot Z n p.names C M cs ifs)(j:eK Z n p.names C M y l)
  (k:nt ns p.names=true) (r:p.kind=.function) (w:eJ e=true) (h:c.ns=ns):eK Z n ns C M (.comp m (iN c p) y t ik I cs) (.ListComp l [⟨target,e,ifs,0⟩] p x):=by
 intro σ bk v a env A g fx ρ s V H G E Q P
 rw[arm_eval_ListComp]
 exact yw b N d j k r w h a V H G<|lx.of P
theorem Hz{p:Scope}(hI:lF Z n ns C M ik its I)(hN:qb Z n p.names t target)(hc:ot Z n p.names C M cs ifs)(he:eK Z n p.names C M te elt)
  (hok:nt ns p.names=true) (hk:p.kind=.function) (hs:eJ I=true) (hns:c.ns=ns) (hp:eu x ns 0=some (j,k)) (hkk:k=.local\/k=.cell):
  lE Z n ns C M fe (.asg (.nm j)<|.comp m (iN c p) te t ik its cs) (.Assign [.Name x xp] (.ListComp elt [⟨target,I,ifs,0⟩] p cpos) pos):=
 λσ bk fl ev env A g fx ρ s V hfe hA G E Q P=>Wr ev λv H e1 e2 er=>by
  subst er;obtain⟨b,hsw⟩:∃b,GX [.Name x xp] (.ListComp elt [⟨target,I,ifs,0⟩] p cpos) pos.line env=pure b:=⟨_,rfl⟩;cases b with
  |false=>
   exact wx hsw rfl rfl<|(A8 hI hN hc he hok hk hs hns) σ _ _ e1 env A g fx ρ s V hA G E _ λfD l z bG y lO J Y AA=>
    pk hp hkk H _ _ e2 env A fD l z bG y V hA Y AA E _ λe w B f d N a=>(P.of lO J) e w B f _ d N a rfl
  |true=>
   rw[Oi];refine aU<|c8 ?_;rw[hsw];refine aI<|ab ?_;refine JU rfl<|aU ?_;refine aU<|yw hI hN hc he hok hk hs hns e1 V hA G λg' fx' dp s' D Cc oC mC X F hC hO hLC hf G' r=>?_;refine wpAny_assign_Name<|jR hp hkk e2 V G' r λe O f d a=>?_;have h:g0 fx' env.locals O Cc=some oC:=(cm<|ff hLC).trans hC;exact⟨mC,hO.ns<|a.eN.fix _ _ h,λh' hs'=>ab<|ab
    (P e (ml (g0 fx' env.locals O) Cc) dp _ _ (X.trans d) (tz (λb hb hb'=>(cm hb).trans<|F b hb hb') hf) (a.S7 h hLC hs') rfl)⟩
end
section
variable{Z:dg}{C:bH}{M:bQ}{K:Frag}{n:Nat}{ns:bL}{c:TC}{st st':List SO}{g g' fx:FH}{ρ dp:dM}{s:Shared}{A:bq}{σ bk:ba}{env:Env}{E:Value->Shared->Prop}{i:Nat}
theorem MT(h:bX C M t σ=some (v,bk)):gp C M [t] σ=some ([v],bk):=by show(bX C M t σ).bind _=_;rw[h];rfl
theorem wu:∀{b y:List SV}{τ d:ba},fF f b items τ=some (y,d)->∃zs,y=b++zs/\∀a,fF f a items τ=some (a++zs,d):=by
 induction items with
 |nil=>intro b y τ d h;exact dQ (aa h) λe j=>⟨[],e▸(a9 _).symm,λa=>by rw[a9,<-j];rfl⟩
 |cons x r I=>intro b y τ d h;exact av h λq Q h=>by refine dn (I h) λzs H k=>⟨q.1++zs,by rw[H,aM],λa=>?_⟩;show(f x τ).bind _=_;rw[Q,<-aM];exact k<|a++q.1
def V9(C:bH)(M:bQ)(t:TN)(l:Mine.E)(a:TN)(e2:Mine.E)(x:SV)(τ:ba):Option (List SV×ba):=(cS t x τ).bind λτ=>(bX C M e2 τ).bind λq=>(s7 q.1).bind λe=>fF (Gy C M a [] l) [] e q.2
theorem Bs{env:Env}(h:Q true s):au (Mo Z) A (rA [] env) Q E s:=ab h
theorem PM(h:fx D=some o):g0 fx D o=fx:=by
 funext b;by_cases e:b=D
 ·rw[e,cO,h]
 ·exact cm e
theorem Ac(target e a t l:ao)(p:Scope)(O:Pos)(it b:Value)(env:Env):CP (.ListComp l [⟨target,e,[],0⟩,⟨a,t,[],0⟩] p O) 0 it b env=sS env target e [] (do
   let x<-eval t env
   kp t.pos
   let x<-xf t env x
   let _<-runOwn (.compStart (.ListComp l [⟨target,e,[],0⟩,⟨a,t,[],0⟩] p O) 1 (<-jF [x]<|jL x) b env) env) it (again<|.compLoop (.ListComp l [⟨target,e,[],0⟩,⟨a,t,[],0⟩] p O) 0 it b env):=by
 unfold sS
 simp -iota only[bind_assoc,pure_bind]
 rfl
theorem JZ(hN:qb Z n ns t target)(hN2:qb Z n ns t2 k)(hI2:lF Z n ns C M .over [te2] d)(he:eK Z n ns C M te elt)(hs2:eJ d=true)
  (hA:rj n A):
  Tn Z A ns target [] (λD env=>(do
   let x<-eval d env
   kp d.pos
   let x<-xf d env x;let _<-runOwn (.compStart (.ListComp elt [⟨target,iter,[],0⟩,⟨k,d,[],0⟩] Y pos) 1 (<-jF [x]<|jL x) D env) env)) (V9 C M t te t2 te2):=by
 intro env V D hD x a AH τ Ay hf hlim g fx ρ s o v E Q G hd hr rv h
 exact LN hf λw U ea=>av U λW0 h1 U=>av U λq h2 U=>av U λitems2 h3 U=>by
  subst ea;refine hN.1 _ _ _ h1 env A g fx ρ s v V hA G rv _ _ λi0 J iP iA y m u1=>Bs ?_;rw[if_pos rfl];refine aU<|d3 (hI2 _ _ _ _ (MT h2) h3 env A i0 J iP iA V hA u1 _ _ λlg EY RP rm I wr St B p j=>?_) (λxv bG kR=>aU<|c8<|aU<|lP (nk hs2 _)<|aU<|aO kR) λz z x=>x;refine aU<|wpAny_runOwn ?_;have H:=(p D hD).trans<|(m D hD).trans hd;have hDw:=λhm=>bU o<|H.symm.trans<|j.free D hm;refine dn (wu U) λzs hz1 hz2=>?_;obtain rfl:w=zs:=hz1;have h0:jb (Mo Z) (A.mark none) (.compLoop (.ListComp elt [⟨target,iter,[],0⟩,⟨k,d,[],0⟩] Y pos) 1 (.ref I) (.ref D) env) (λr s'=>match r with|.ok f=>au (Mo Z) A (pure ()) (λz l=>Q l) E s'|.error e=>cameBackBy (Mo Z) A env E e s') rm:=
   tA (λx r=>r.mono x) (f:=yk<|Gy C M t2 [] te) j.lp j.loc hD hDw (ifs:=[]) (target:=k) rfl (fA rfl) rfl ae j.free
    (λx a W0 AH Ay r hf hl g fx ρ s o v E Q G hD' hr rv h=>xY (cs:=[]) (ifs:=[]) hN2 trivial he V hA hD hf (ah (ua hl) hlim) G hD' hr rv h) (ql.symm.trans<|hz2 a) ((PM H).symm▸j.between) (hr.mono<|y.trans B)
    λqr N rl l N7 pS sF O sD u0=>ab<|h qr N rl l N7 ((y.trans B).trans pS) (λb hb hb'=>(sF b hb hb').trans<|(p b hb).trans<|m b hb) O sD u0
  exact mm rfl (fA rfl) rfl h0 λE=>j.lp.self 0 _ _ _ j.st h0
theorem Hu{e:Scope}(hI:lF Z n ns C M ik x I)(J:qb Z n e.names t target)(N:qb Z n e.names t2 b)(H:lF Z n e.names C M .over [B] r)
  (he:eK Z n e.names C M te l) (k:nt ns e.names=true) (hk:e.kind=.function) (hs:eJ I=true) (j:eJ r=true) (d:c.ns=ns):
  eK Z n ns C M (.Cd (iN c e) te t ik x t2 B) (.ListComp l [⟨target,I,[],0⟩,⟨b,r,[],0⟩] e pos):=by
 intro σ bk v a env A g fx ρ s V D G E Q P
 rw[arm_eval_ListComp]
 exact av a λp O a=>av a λw U a=>pJ a λh a=>av a λz Y a=>iZ a λhl a=>
  Ca hI J (λy y y=>Ac _ _ _ _ _ _ _ _ _ _) (JZ J N H he j D) k hk hs d O U h Y (eW hl) a V D G (lx.of P)
end
section
variable{Z:dg}{C:bH}{M:bQ}{K:Frag}{n:Nat}{ns:bL}{c:TC}{st st':List SO}{g g' fx:FH}{ρ dp:dM}{s:Shared}{A:bq}{σ bk:ba}{env:Env}{E:Value->Shared->Prop}{i:Nat}
def Ct(Z:dg)(a:List SV×List SV)(o:Obj)(g:FH)(ρ:dM):Prop:=∃e n,o=dictOf e n/\dD Z g [] a.1 (e.map (·.key))/\dD Z g ρ a.2 (e.map (·.val))/\∃d,nz Z.w a.1 d<|e.map (·.hash)
theorem Ct.mono(x:dG g ρ g' dp)(h:Ct Z a o g ρ):Ct Z a o g' dp:=h.imp λz=>aA λz=>aG<|gI (λr=>r.mono x.nil)<|cx λr=>r.mono x
def Fo(f:SV->ba->Option (SV×SV×ba))(x:SV)(a:List SV×List SV)(σ:ba):Option ((List SV×List SV)×ba):=(f x σ).bind λq=>(cF q.1 a.1).bind λo=>(gd (q.1.free&&decide (a.1.length<=dI)) ()).bind λz=>some ((tU o a.1 q.1,tT o a.2 q.2.1),q.2.2)
theorem zR:∀{k vs:List SV}{τ:ba}{z:List SV×List SV×ba},sd f k vs items τ=some z->nv (Fo f) (k,vs) items τ=some ((z.1,z.2.1),z.2.2):=by
 induction items with
 |nil=>intro _ _ _ z h;exact congrArg (λz:List SV×List SV×ba=>some ((z.1,z.2.1),z.2.2))<|aa h
 |cons x r I=>intro k vs τ z h;exact av h λq H h=>av h λo a h=>pJ h λb h=>by show((f x τ).bind _).bind _=_;rw[H];show((cF q.1 k).bind _).bind _=_;rw[a];rw[b];exact I h
def Gz(C:bH)(M:bQ)(t:TN)(k v:Mine.E)(x:SV)(τ:ba):Option (SV×SV×ba):=(cS t x τ).bind λτ=>(bX C M k τ).bind λq=>(bX C M v q.2).map λr=>(q.1,r.1,r.2)
theorem XY{P:Prop}(h:Fo (Gz C M t J L) x a τ=some (j,f))(k:∀d v l V o,cS t x τ=some d->bX C M J d=some (v,l)->bX C M L l=some (V,f)->cF v a.1=some o->v.free=true->a.1.length<=dI->(tU o a.1 v,tT o a.2 V)=j->P):P:=
 av h λq H h=>av h λo I h=>pJ h λm h=>dQ (aa h) λw y=>av H λd B H=>av H λp D H=>cR H λr G e=>by subst e;exact k d p.1 p.2 r.1 o B D (y▸G) I (cn m λa z=>a) (cn m λz b=>eW b) w
theorem PW(S:bR Z st g fx ρ s)(p:fx D=some o)(H:D≠sysModules)(U:Ct Z a o g ρ)(B:RV Z g ρ k kv)(rx:RV Z g ρ x y)(v:cF k a.1=some r)(f:k.free=true)(N:a.1.length<=dI)(hu:A.units+64<cLine)
  (h:∀g' w s',dG g ρ g' ρ->bR Z st g' (g0 fx D w) ρ s'->Ct Z (tU r a.1 k,tT r a.2 x) w g' ρ->Q () s'):au (Mo Z) A (Jr D kv y) Q E s:=by
 refine O0 U λI m j r1 r2 r3=>?_
 subst j
 have X:fZ Z g ρ s D a.1 a.2 I m:=⟨S.fix _ _ p,r1,r2,r3,H⟩
 refine nr S.keep X v B hu N λd l t n' J O V=>?_
 have G:=S.El t p (λb ob L e=>(V.2 b L).trans e) O
 have Y:=zo (s':={s with heap:=l,toks:=t}) (g':=dO Z g s.heap l λz=>false) aX X v J B f (rx.mono aX) O
 exact h _ _ _ aX G ⟨_,_,rfl,Y.keys,Y.vals,Y.ok⟩
theorem Hi(hN:qb Z n ns t target)(hkx:eK Z n ns C M tk kx)(hvx:eK Z n ns C M tv vx)(V:dA ns env)(hA:rj n A)(hDl:D≠env.locals)(hno:D≠sysModules)
  (hf:Fo (Gz C M t tk tv) x a τ=some (AH,J)) {Q:Shared->Prop} (G:c7 Z ns env τ g fx ρ s) (hD:fx D=some o) (hr:Ct Z a o g ρ) (rv:RV Z g ρ x v)
  (h:∀g' r dp s' o',dG g ρ g' dp->(∀b,b≠env.locals->b≠D->r b=fx b)->r D=some o'->Ct Z AH o' g' dp->c7 Z ns env J g' r dp s'->Q s'):
  au (Mo Z) A (n4 target env v) (λz iA=>au (Mo Z) A (rA [] env) (λok d=>if ok=true then au (Mo Z) A (do let k<-eval kx env;let v<-jF [k]<|eval vx env;kp kpos;jF [k,v] (Jr D k v)) (λz f=>Q f) E d else Q d) E iA) E s:=
 XY hf λτ1 kv W0 vv q h1 h2 h3 h4 h5 h6 ea=>hN.1 _ _ _ h1 _ A g fx ρ s v V hA G rv _ _ λlg w B d l L U=>Bs (by
  subst ea;rw[if_pos rfl];refine aU<|hkx _ _ _ h2 _ A lg w B d V hA U _ _ λqr y H f kv' m N Y sD=>aU<|aO<|hvx _ _ _ h3 _ A qr y H f V hA Y _ _ λAF afp I Az vv' e O j Tr=>aU<|c8<|aO ?_;have F:=λb hb=>(O b hb).trans<|(N b hb).trans<|L b hb;exact PW j.eN ((F D hDl).trans hD) hno (hr.mono<|(l.trans m).trans e) (sD.mono e) Tr h4 h5 h6 (by have:=hA.u;exact aac this) λJn ac0 N6 p ac6 acZ=>
   h Jn _ I N6 ac0 (((l.trans m).trans e).trans p) (λb hb hb'=>(cm hb').trans<|F b hb) cO acZ ⟨ac6,BS (j.yp.mono p) hDl⟩)
theorem M5{τ:ba}(h:o5 Z G d env ns σ.loc f)(X:dG G d g ρ)(F:∀b,b≠p->b≠D->fx b=f b)(I:fx D=some o)(J:Ct Z a o g ρ)(S:bR Z τ.st g fx ρ s)(r:bS a.2=true)(N:D≠sysModules)
  (L:env.locals≠p) (H:f D=none):∃g',dG G d g' ρ/\c7 Z ns env {σ with st:=τ.st} g' (ml fx D) ρ s/\(∀b,b≠p->ml fx D b=f b)/\RV Z g' ρ (.fW a.1 a.2) (.ref D):=by
 refine O0 J λj m l U V Y=>?_
 subst l
 have t:bR Z τ.st g (g0 (ml fx D) D<|dictOf j m) ρ s:=by rw[Bf I];exact S
 have v:=t.q9 _ _ cO
 have x:dG g ρ (g0 g D<|dictOf j m) ρ:=⟨λb ob e=>(cm λz:b=D=>bU ob<|(z▸e).symm.trans v).trans e,[],(a9 _).symm⟩
 have k:=tz F H
 refine iz h.is λQ O w y B=>⟨_,X.trans x,⟨t.settle mI,⟨Q,O,(k _ L).trans w,y,B.mono<|X.trans x⟩⟩,k,_,j,m,rfl,cO,U.mono x.nil,(V.free r).mono x.nil,Y,N⟩
theorem Ht(hm:∃o,Z.base sysModules=some o){e:Scope}(hI:lF Z n ns C M .over [te] k)(hN:qb Z n e.names t target)(hkx:eK Z n e.names C M tk kx)(hvx:eK Z n e.names C M tv vx)
  (hok:nt ns e.names=true) (hk:e.kind=.function) (hs:eJ k=true) (hns:c.ns=ns):eK Z n ns C M (.yu (iN c e) tk tv t te) (.DictComp kx vx [⟨target,k,[],0⟩] e pos):=
 λσ bk v l env A g fx ρ s V hA G E Q P=>av l λp e1 l=>av l λitems e2 l=>av l λz e3 l=>iZ l λhfr l=>dQ l λev1 ev2=>by
  subst ev1 ev2;have O:=kI.of hok;refine dn (wF (wo O G) O.nodup) λcl hcl1 hcl2=>?_;have e4:=zR (f:=Gz C M t tk tv) e3;rw[arm_eval_DictComp];refine GW rfl (nk hs) hcl1 hk (λx hx hl=>vj O.nodup (by rw[<-hl];exact hx))<|hI σ _ _ _ (MT e1) e2 env A g fx ρ s V hA G E _ λfD lX eh d I wr St lO m j=>?_;refine dE<|Oe (λx hx=>?_) (by simp) (λJj hn U=>?_) hk
  ·rcases O.kinds x hx with h|h|⟨h,_⟩<;>rw[h]<;>decide
  ·obtain⟨i0,n3,sE,B,hCw,hDw,J,hfD,hfC,hLD,N⟩:=yx j O hns hcl2 (oF:={cls:=.type "dict",data:=.dict #[]}) rfl (d.toks+0) hn U;have hno:=rV j.good.eN hm<|bA _;have V':dA e.names (pU e cl (d.heap.push {cls:=.type "dict",data:=.dict #[]}).objs.size env):=wB V O hk;have h0:jb (Mo Z) A (.compLoop (.DictComp kx vx [⟨target,k,[],0⟩] e pos) 0 (.ref I) (.ref d.heap.objs.size)<|pU e cl (d.heap.push {cls:=.type "dict",data:=.dict #[]}).objs.size env)
     (CQ (Mo Z) A E none Q (.ref d.heap.objs.size) (d.heap.push {cls:=.type "dict",data:=.dict #[]}).objs.size) {d with heap:=Jj,toks:=d.toks+0}:=
    tA (λx r=>r.mono x) (f:=Fo<|Gz C M t tk tv) j.lp hCw J hDw rfl (fA rfl) (compTurn_dict kx vx target k [] e pos _ _ _) ae j.free
     (λx a W0 AH Ay r hf hl g fx ρ s o v E Q G hD hr rv h=>Hi hN hkx hvx V' hA J hno hf G hD hr rv h) e4 B ⟨[],0,rfl,rfl,rfl,[],.nil _⟩
     λlg H Y rm Xf rp CF L GS w=>by refine iz w.yp.is λoC mC hC1 hC2 y=>Ja (M5 j.frame rp CF L GS w.eN hfr hno N hfD) λqr pS u0 sF sD=>?_;exact lx.of P qr (ml H d.heap.objs.size) Y rm d.heap.objs.size _ oC mC (lO.trans pS) (λb hb hb'=>(sF b hb').trans<|m b hb) ((oV<|ff J).trans hC1) hC2 N ((m _<|ff N).symm.trans hfC) u0 sD
   exact mm rfl (fA rfl) rfl h0 λE=>j.lp.self 0 _ _ _ B.st h0
end
section
variable{Z:dg}{C:bH}{M:bQ}{K:Frag}{n:Nat}{ns:bL}{c:TC}{st st':List SO}{g g' fx:FH}{ρ dp:dM}{s:Shared}{A:bq}{σ bk:ba}{env:Env}{E:Value->Shared->Prop}{i:Nat}
theorem yo{prog:Program}{w:cD}{args:List Value}{S:PySem.Spec}{Q:Value->Shared->Prop}(t:G3 "frozenset" ⟨args,[]⟩=pure ())(H:yI "frozenset.__new__" ⟨.type "frozenset"::args,[]⟩=pure ())
  (k:∀obj,lq "object.__init__" ⟨obj::args,[]⟩) (m:MeetsIn prog w (d9.«frozenset.__new__» ⟨.type "frozenset"::args,[]⟩) S) (h:S A.in1 (wants (λobj a=>a.TypeIs obj "frozenset"/\Q obj a) E) s):
  au (model prog w) A (call (.type "frozenset") args) Q E s:=by
 refine callType_codes FF.lb t F.entry_object_init (Om FF.lb.plain FF.Iu<|lP H<|m A.in1 _ s h) λobj a b=>⟨b.1,k obj,object_init_meets FF.lb.init.lookup FF.lb.made (by decide) prog w A.in1 _ a ⟨b.1,rfl,b.2⟩⟩
theorem QR(J:A.handled=none)(S:bR Z st g fx ρ s){vs:List SV}{Y:List Value}(e:builtin st .cY vs=some v)(r:dD Z g ρ vs Y):br Z A (call (.type "frozenset") Y) st v g fx ρ s:=by
 cases vs with
 |nil=>obtain rfl:=aa e;obtain rfl:=r;refine .FO S (p:=λz=>False) kN (by simp) rfl λE Q h=>yo FF.Dj FF.H0 W.oi_args Mt λx b F=>⟨F.typeIs,h _ s.toks b F⟩
 |cons a r0=>
  exact pJ e λB e=>av e λis D e=>iZ e λH w=>av D λxs G I=>by
   obtain rfl:=bg.mp B;subst w;refine iz r λy ys' d N m=>?_;subst d;subst m;refine nZ (mi S G N) λl t k f O U=>?_;subst f;refine .FO S (jS is) (λj=>iT.symm) H λE Q h=>yo (FF.Di _) (FF.HZ _) (λobj=>F.args_object_init_2 obj _) (Ms)
    ⟨J,⟨_,O,rfl,k,rfl⟩,wg I U,λj L=>(k7.mp H).1 j<|iT.mpr L,λx V b F=>⟨F.typeIs,h _ V b F⟩⟩
theorem Dt{ns:List Int}(h64:ns.length<64)
  (hc:∀(A:bq)(E:Value->Shared->Prop)(R:List Value->Shared->Prop),A.handled=none->(∀vs h' tk,kC vs ns->(∀b o,s.heap.get? b=some o->h'.get? b=some o)->R vs {s with heap:=h',toks:=tk})->au (model prog w) A (collect x) R E s) (hh:A.handled=none)
  (h:∀(D:Addr)(out:Array Value)(n:Nat) h' tk,s.heap.get? D=none->(∀b o,s.heap.get? b=some o->h'.get? b=some o)->h'.get? D=some (lV out n)->kC out.toList (gR ns)->Q (.ref D) {s with heap:=h',toks:=tk}):
  au (model prog w) A (call (.builtin "sorted") [x]) Q E s:=by
 refine call_function_entry kind_sorted plain_sorted entry_sorted (args_sorted1 _)<|aI<|ab ?_
 refine aU<|hc _ _ _ (by simp[hh]) λvs h' tk hI hk=>?_
 have hlen:=od hI
 refine aU<|wpAny_newList ?_ (by rw[hY];exact abb h64 hlen)
 have hoL:(h'.push<|seqObj "list" vs.toArray 0).get? h'.objs.size=some (seqObj "list" vs.toArray 0):=bp _ rfl
 have hfresh:s.heap.get? h'.objs.size=none:=by
  cases q:s.heap.get? h'.objs.size with
  |none=>rfl
  |some o=>exact absurd (bW<|hk _ _ q)<|b0 _
 refine aU<|aO<|bl slot_list_sort ⟨_,hoL,rfl⟩ entry_list_sort (list_sort_tree (s:={s with heap:=h'.push<|seqObj "list" vs.toArray 0,toks:=tk}) hoL hI (ck hlen▸h64) λout ns' a1 a2 a3=>⟨_,rfl,?_⟩)<|args_list_sort _
 refine eS (xq (out:=out) hoL) λn' hn'=>?_
 rw[A5 a2 a3] at a1
 refine ab ⟨_,rfl,h _ out n' _ tk hfresh (λb o e=>?_) hn' a1⟩
 exact sU (λz=>by rw[z,hfresh] at e;exact aR e)<|aq _<|hk b o e
theorem jn(S:bR Z st g fx ρ s){ns:List Int}(H:ns.length<64)
  (a:∀(A:bq)(E:Value->Shared->Prop)(R:List Value->Shared->Prop),A.handled=none->(∀vs h' t,kC vs ns->(∀b o,s.heap.get? b=some o->h'.get? b=some o)->R vs {s with heap:=h',toks:=t})->au (Mo Z) A (collect x) R E s) (e:A.handled=none):
  br Z A (call (.builtin "sorted") [x]) st (.lst<|(gR ns).map .int) g fx ρ s:=
 .yf S λE Q h=>Dt H a e λD O n h' t f j d I=>h h' t _ j<|Qu (fk S f d rfl (S.fresh f).2.2) I
theorem oB{xs:List Int}(h:xs.length<=1):gR xs=xs:=by rcases Ib h with rfl|⟨x,rfl⟩<;>rfl
theorem PF{xs:List Int}(G:SG w es t p)(N:xs.Nodup)(x:∀i,p i↔i∈xs)(H:xs.length<=1):kC (es.toList.map (·.2)) xs:=by
 have z:=G.size N x;have l:=z;rcases Ib H with a|⟨j,a⟩
 ·rw[a] at l ⊢;rw[ve l];exact .nil
 ·rw[a] at l x ⊢;refine eS (LO l) λe h=>?_;obtain⟨i,k,b,I⟩:=G.each e (by rw[h];exact aw ..);rw[h,b,aD.mp<|(x i).mp I];exact .cons _ _ .nil
theorem wC(l:N="frozenset"\/N="set"){xs:List Int}(y:s.heap.get? a=some (w8 N es D t))(G:SG w es t p)(f:xs.Nodup)(x:∀i,p i↔i∈xs)(e:xs.length<=1)(m:A.handled=none)
  (h:∀vs h' k,kC vs xs->(∀b o,s.heap.get? b=some o->h'.get? b=some o)->R vs {s with heap:=h',toks:=k}):au (model prog w) A (collect<|.ref a) R E s:=by
 have z:=G.size f x
 refine kdu_collect (UZ l G<|ck z▸e) m y (by rw[hY];omega) λh' k d r H=>h _ h' k ?_ r
 have:d.toList=es.toList.map (·.2):=by
  apply eE;intro i;rw[ai,bh,bh];cases q:d[i]? with
  |some v=>exact(H.2 i v q).symm
  |none=>
   have:es.size<=i:=by have:=H.1;have j:=Array.getElem?_eq_none_iff.mp q;exact this▸j
   rw[gQ this];rfl
 rw[this]
 exact PF G f x e
theorem xU{is:List Int}{l:List Value}:l.length=is.length->(∀(i:Nat)(v:Value),l[i]? =some v->∃t:Int×Tok,is[i]? =some t.1/\v=g5 t.1 t.2)->kC l is:=
 rG (P:=λis l=>l.length=is.length->(∀(i:Nat) v,l[i]? =some v->∃t:Int×Tok,is[i]? =some t.1/\v=g5 t.1 t.2)->kC l is) (λz z=>.nil)
  (λa is b l I H e=>by refine dn (e 0 b rfl) λt d f=>?_;obtain rfl:=aa (show some a=some t.1 from d);subst f;exact .cons _ _<|I (jf H) λi v V=>e (i+1) v V) (λz z h=>R4 h) (λz z h=>R4 h) is l
theorem U2{v:Value}(h:v.isInt k=true):∃t,v=.int k t:=by
 cases v with
 |int m t=>exact⟨t,congrArg (λz=>g5 z t)<|beq_iff_eq.mp h⟩
 |_=>exact ae h
theorem Pj{P:Prop}(e:builtin st .sorted vs=some v)(k:∀xs,vs=[.cY xs]->xs.length<=1->.lst (xs.map .int)=v->P)(d:∀a xs is,vs=[a]->il st a=some xs->iL xs=some is->is.length<64->.lst ((gR is).map .int)=v->P)
  (f:∀a p is,vs=[a]->hU st a=some p->iL p.1=some is->is.length<64->.lst ((gR is).map .int)=v->P):P:=av e λa H e=>jq H λH=>by
 cases hf:ur a with
 |true=>rw[hf] at e;exact av e λxs h e=>iZ e λl e=>pO h λh=>k xs (H.trans<|congrArg (λz=>[z]) h) (eW l) e
 |false=>
  rw[hf] at e;exact av e λis I e=>iZ e λl e=>av I λxs h I=>by
   cases q:il st a with
   |some y=>rw[q] at h;exact d a xs is H (q.trans h) I (eW l) e
   |none=>rw[q] at h;exact cR h λp b Q=>f a p is H b (Q▸I) (eW l) e
theorem Ho(L:A.handled=none)(S:bR Z st g fx ρ s)(e:builtin st .sorted vs=some v)(r:dD Z g ρ vs ys):br Z A (call (.builtin "sorted") ys) st v g fx ρ s:=
 Pj e
  (λxs V U B=>by subst V B;obtain⟨y,Y,rfl,⟨D,es,k,t,rfl,ho,G⟩,rfl⟩:=r;have:=jn S (Z9 U) (λA E R I h=>wC (.inl rfl) (S.keep _ _ ho) G.g (js G.sorted) (λz=>NX) U I h) L;rwa[oB U] at this)
  (λa xs is V hx J H B=>by subst V B;refine iz r λy Y f r1 w=>?_;subst f;subst w;refine nZ (mi S hx r1) λl m k j ho rs=>?_;subst j;have hI:=wg J rs;refine jn S H (λA E R I h=>?_) L;refine collect_list (vs:=m.toList) ⟨_,ho,rfl,k,by simp⟩ ?_ (by rw[od hI,hY];exact afd H);refine h _ _ s.toks hI λb o e=>?_;rw[nY _ _<|ff<|bN<|bW e];exact b8 b o e)
  (λa p is V hd J H B=>by
   subst V B;refine iz r λy Y f r1 w=>?_;subst f;subst w;refine rF (tw S hd r1) λD es k j X=>?_;subst j;refine nK (t6 X J) λq1 q2 q3=>jn S H (λA E R I h=>?_) L;refine kdu_collect (kdl_dict<|s8 X) I q1 (by rw[q2,hY];exact aba H q2 q3) λh' tk acc hk d=>h _ h' tk (xU (by rw[aL,d.1,q2]) λi v V=>?_) hk;have hz:(is.zip<|es.map (·.val)).map (·.1)=is:=nD (by rw[ag,q3];exact aF _);rw[bh] at V;refine pg (d.2 i v V) λkk x Q N=>?_;have hi:is[i]? =some kk:=by rw[<-hz,ai,Q];rfl
   refine eS (U2 N) λtk' zz1=>?_;subst zz1;exact⟨(kk,tk'),hi,rfl⟩)
end
section
variable{Z:dg}{C:bH}{M:bQ}{K:Frag}{n:Nat}{ns:bL}{c:TC}{st st':List SO}{g g' fx:FH}{ρ dp:dM}{s:Shared}{A:bq}{σ bk:ba}{env:Env}{E:Value->Shared->Prop}{i:Nat}
noncomputable def EB(k:Bool)(nm:String):Value:=if k then .builtin nm else .type nm
theorem D2{P:Prop}(h:v7 f=some x)(k:∀p,f=.Name x p->P):P:=by
 cases f with
 |Name y p=>exact k p<|congrArg (λz=>Expr.Name z p)<|aa h
 |_=>exact aR h
theorem aeT(h:bOf v=some (k,nm)):v=EB k nm:=by cases v<;>first|exact aR h|exact dQ (aa h) λe a=>by subst e a;rfl
theorem qo(h:b5 c f=some (k,nm)):∃x p i,f=.Name x p/\eu x c.ns 0=some (i,.globalImplicit)/\c.gl x=some (EB k nm):=
 av h λx d h=>av h λp b h=>av h λv V h=>D2 d λq Q=>Mm V λa H=>⟨x,q,p.1,Q,b.trans<|congrArg some<|R2 rfl a,H.trans<|congrArg some<|aeT h⟩
theorem Mg:tH Z h (EB k nm):=by
 cases k
 ·exact tH.type
 ·exact tH.builtin
theorem MS(T:iw Z c)(H:c.ns=ns)(b:b5 c f=some (k,nm))(V:dA ns env)(G:c7 Z ns env σ g fx ρ s)(h:Q (EB k nm) s):au (Mo Z) A (eval f env) Q E s:=by refine nZ (qo b) λx p i z d a=>?_;subst z;subst H;exact ke T V G d a h
theorem yg(h:b5 c f=some (k,nm)):rC f=true:=by refine rF (qo h) λx p i a z=>?_;subst a;rfl
theorem wK(T:iw Z c)(w:c.ns=ns)(H:b5 c f=some (k,nm)){args:List ao}(B:args.all bD=true)(z:oX Z n ns C M ts args)(t:gp C M ts σ=some (vs,aC))
  (V:dA ns env) (v:rj n A) (G:c7 Z ns env σ g fx ρ s)
  (h:∀d x a e y,dG g ρ d a->(∀b,b≠env.locals->x b=fx b)->c7 Z ns env aC d x a e->dD Z d a vs y->au (Mo Z) A (call (EB k nm) y) Q E e):
  au (Mo Z) A (eval (.Call f args [] p) env) Q E s:=by
 rw[tq<|yg H]
 refine aU<|MS T w H V G ?_
 refine jw B<|z σ _ _ t env A g fx ρ s V v G p E _ λd x a e y m j l r=>⟨Mg,?_⟩
 exact h d x a e y m j l r
theorem EC(H:A.handled=none)(S:bR Z st g fx ρ s)(hb:vU b=true)(e:builtin st b vs=some v)(r:dD Z g ρ vs B):br Z A (call (EB (C8 b).1 (C8 b).2) B) st v g fx ρ s:=by
 cases b with
 |len=>exact av e λa h e=>av e λxs x e=>iZ e λL l=>jq h λh=>by subst h l;refine iz r λy Y z f d=>?_;subst z;subst d;exact UO S x (eW L) f
 |tuple=>exact av e λa h e=>av e λxs x e=>iZ e λL l=>jq h λh=>by subst h l;refine iz r λy Y z f d=>?_;subst z;subst d;exact J0 S x (eW L) f
 |sorted=>exact Ho H S e r
 |cY=>exact QR H S e r
 |int=>exact av e λa h t=>jq h λh=>by subst h;refine iz r λy Y z f d=>?_;subst z;subst d;exact U4 S t f
 |max=>exact av e λa h e=>Ea e λi j k h1 h2 h3 l=>y4 h λh=>by rw[h1,h2] at h;obtain rfl:=aa h3;subst h l;obtain⟨y,Y,rfl,f,w,p,rfl,m,rfl⟩:=r;exact(LF H S f m).1
 |min=>exact av e λa h e=>Ea e λi j k h1 h2 h3 l=>y4 h λh=>by rw[h1,h2] at h;obtain rfl:=aa h3;subst h l;obtain⟨y,Y,rfl,f,w,p,rfl,m,rfl⟩:=r;exact(LF H S f m).2
 |_=>exact ae hb
theorem Nv(h:vU b=true):wJ b vs σ=(builtin σ.st b vs).map (·,σ):=by cases b<;>first|rfl|exact ae h
theorem Kl(T:iw Z c)(z:c.ns=ns)(h:vU b=true)(B:b5 c f=some (C8 b)){args:List ao}(I:args.all bD=true)(D:oX Z n ns C M ts args):eK Z n ns C M (.bi b ts) (.Call f args [] O):=
 λσ bk v e env A g fx ρ s V H G E Q P=>Md e λN U t e=>KY ((Nv h).symm.trans e) λw y=>by subst y;exact wK T z (k:=(C8 b).1) (nm:=(C8 b).2) B I D t V H G λm j l p Y x d a r=>(EC H.handled a.eN h w r).post a rfl rfl<|P.of x d
theorem v3(S:bR Z st g fx ρ s){h':Heap}(t:Nat)(H:∀b o,s.heap.get? b=some o->h'.get? b=some o){n:Nat}(N:s.heap.get? a=none)(O:h'.get? a=some (lV vs n))(d:dD Z g ρ xs vs.toList):
  ∃g',bR Z (st++[.list xs]) g' fx (ρ++[(a,a)]) {s with heap:=h',toks:=t}/\dG g ρ g' (ρ++[(a,a)])/\RV Z g' (ρ++[(a,a)]) (.h st.length) (.ref a):=
 S.P9 t H N (.list xs) λg' dp x=>⟨rfl,vs,n,O,d.mono x⟩
theorem ND{P:Prop}(e:alloc o σ=(v,bk))(k:.h σ.st.length=v->(⟨σ.loc,σ.st++[o]⟩:ba)=bk->P):P:=dQ e k
theorem Dx(T:iw Z c)(hc:c.ns=ns)(hb:b5 c f=some (false,"list")){args:List ao}(hs:args.all bD=true)(he:oX Z n ns C M ts args):eK Z n ns C M (.bi .list ts) (.Call f args [] pos):=
 λσ bk v e env A g fx ρ s V hA G E Q P=>Md e λvs τ U e=>av e λa m e=>av e λxs hx e=>iZ e λhl e=>jq m λm=>ND e λY h2=>by subst m Y h2;refine wK T hc hb hs he U V hA G λJ x D j ys h d b r=>iz r λy ys' p r1 B=>?_;subst p;subst B;refine nZ (mi b.eN hx r1) λl t k w ho N=>?_;subst w;have H:t.size=xs.length:=N.length;refine call_list_seq (hsz:=gz<|H▸eW hl) l (.inl rfl) ho rfl rfl λh' c' hk hD=>sA (v3 b.eN j.toks hk (bA _) hD N) λg' O I r'=>?_;exact(P.of h d) g' x _ _ _ I (λz z=>rfl) (b.with I O rfl) r'
theorem Al(h:bD e=true):[e].all bD=true:=by rw[List.all_cons,h];rfl
theorem A4(hs:bD e=true)(h:au (Mo Z) A (eval e env) (λy bG=>Q [y] bG) E s):au (Mo Z) A (tK<|sI pos<|jB [e] env) Q E s:=by rw[mh hs];show au _ _ (tK<|(false,eval e env)::sI pos (jB [] env)) Q E s;unfold tK;refine aI<|d3 h (λy bG kR=>?_) λz z x=>x;refine sC a8<|aU<|ab<|aU<|aO<|ab<|ab kR
theorem tC(T:iw Z c)(j:c.ns=ns)(b:b5 c f=some (k,nm))(d:bD e=true)(V:dA ns env)(G:c7 Z ns env σ g fx ρ s)
  (h:au (Mo Z) A (eval e env) (λy a=>au (Mo Z) A (call (EB k nm) [y]) Q E a) E s):au (Mo Z) A (eval (.Call f [e] [] p) env) Q E s:=by
 rw[tq<|yg b]
 refine aU<|MS T j b V G ?_
 exact jw (Al d)<|A4 d<|d3 h (λy a H=>⟨Mg,H⟩) λz z x=>x
theorem DF{a:Array Value}(H:a.size=m)(b:∀(i:Nat)(v:Value),a[i]? =some v->∃t,v=.int (0+(i:Int)*1) t):kC a.toList ((ak m).map λ(i:Nat)=>(i:Int)):=by refine xU (by rw[aL,H,ag,ar]) λi v h=>?_;rw[bh] at h;obtain⟨d,rfl⟩:=b i v h;have I:=H▸(xn.mp h).1;refine⟨(i,d),by rw[ai,bx I];rfl,?_⟩;congr 1;omega
theorem Q1{P:Prop}(e:gp C M [t] σ=some (vs,bk))(k:∀v,bX C M t σ=some (v,bk)->vs=[v]->P):P:=YL e λv a x h b V=>dQ (aa b) λd f=>k v (f▸h) (by rw[<-V,<-d])
theorem Dw(T:iw Z c)(hc:c.ns=ns)(hb:b5 c f=some (false,"list"))(I:b5 c gf=some (false,"range"))(hs:bD a=true)(he:eK Z n ns C M t a):eK Z n ns C M (.bi .qI [t]) (.Call f [.Call gf [a] [] pos2] [] pos):=
 λσ bk v e env A g fx ρ s V hA G E Q P=>Md e λvs τ e1 e=>av e λx Y e=>av e λm N e=>iZ e λH e=>jq Y λY=>gA N λN=>ND e λh1 h2=>by subst N Y h1 h2;refine tC T hc hb rfl V G<|wK T hc I (Al hs) (jU hs he mF) e1 V hA G λB j k b ys w p d D=>?_;obtain⟨y,ys',rfl,⟨t,rfl⟩,rfl⟩:=D;have H:=eW H;refine call_range_1 ?_;obtain⟨O,U⟩:=xS H;refine call_list_range hA.handled dH O U (by simp -iota only[dI] at H;omega) λh' tk acc' c' J hD h=>?_;have r:=d.eN.grow (b.toks+1+1) (h':=b.heap.push {cls:=.type "range",data:=.fields #[.int 0 b.toks,.int m t,.int 1<|b.toks+1]}) b8;have rs:=Ga (Z:=Z) (g:=dO Z B b.heap (b.heap.push {cls:=.type "range",data:=.fields #[.int 0 b.toks,.int m t,.int 1<|b.toks+1]}) λz=>false) (ρ:=k)<|DF h.1 h.2;rw[iO] at rs;refine sA (v3 r tk J (bA _) hD rs) λg' S' X' r'=>(P.of w p) g' j _ _ _ (aX.trans X') (λz z=>rfl) (d.with (aX.trans X') S' rfl) r'
theorem xu(T:iw Z c)(hc:c.ns=ns)(hb:b5 c f=some (true,"sorted"))(N:b5 c gf=some (false,"set"))(hs:bD a=true)(he:eK Z n ns C M t a):eK Z n ns C M (.bi .ja [t]) (.Call f [.Call gf [a] [] pos2] [] pos):=
 λσ bk v e env A g fx ρ s V B G E Q P=>Md e λvs τ e1 e=>KY e λe e3=>av e λx U e=>av e λis hi e=>iZ e λH I=>av hi λxs h3 h4=>jq U λU=>cn H λw H=>by have I:SV.lst ((fi is).map .int)=v:=I;subst U e3 I;refine tC T hc hb rfl V G<|wK T hc N (Al hs) (jU hs he mF) e1 V B G λfD J eh bG ys p m b D=>?_;refine iz D λy ys' zz2 r1 zz4=>?_;subst zz2;subst zz4;refine nZ (mi b.eN h3 r1) λl items k zz3 ho rs=>?_;subst zz3;have w:=eW w;refine Ci B.handled ⟨_,ho,rfl,k,rfl⟩ (wg h4 rs) (λj hj=>(k7.mp H).1 j<|iT.mpr hj) λh' tk hF hk=>rF hF λes ep t O G'=>?_;have d:=b.eN.grow tk hk;have Y:=jn d (Z9 w) (λA E R B h=>wC (.inr rfl) O G' (js<|jS is) (λj=>iT.symm) w B h) B.handled;rw[oB w] at Y;exact Y.post (b.with aX d rfl) rfl rfl<|(P.of p m).of aX λz z=>rfl
end
section
variable{Z:dg}{C:bH}{M:bQ}{K:Frag}{n:Nat}{ns:bL}{c:TC}{st st':List SO}{g g' fx:FH}{ρ dp:dM}{s:Shared}{A:bq}{σ bk:ba}{env:Env}{E:Value->Shared->Prop}{i:Nat}
theorem vO(G:c7 Z ns env σ g fx ρ s)(h:∀g' f dp s' I w t,dG g ρ g' dp->(∀b,b≠env.locals->f b=fx b)->vl Z A ns env σ items tup g' f dp s' I w t->Q (.ref I) s'):qU Z A σ.st items tup g fx ρ s Q:=by intro g' v x I w t X a r L d;refine iz G.yp.is λo m H e j=>?_;have l:=λk=>bU o<|(G.eN.fix _ _ H).symm.trans<|r _ k;exact h g' fx ρ _ I w t X (λz z=>rfl) ⟨⟨a,⟨o,m,(dS l).trans H,e,j.mono X⟩⟩,λb B=>(G.eN.fresh<|r b B).2.1,l,L,d⟩
theorem HI(h:A.handled=none)(S:bR Z st g fx ρ s)(e:s7 v=some items)(r:RV Z g ρ v x):rE Z A (jL x) st items false g fx ρ s:=by
 cases v with
 |tup b=>obtain rfl:=aa e;exact Bg h S r
 |lst b=>obtain rfl:=aa e;exact Bh h S r
 |cY b=>exact iZ e λl a=>by subst a;exact HJ h S (eW l) r
 |fW k V=>exact cR e λis d a=>by subst a;exact KV h S d r
 |_=>exact aR e
theorem vF(J:eK Z n ns C M t e):lF Z n ns C M .over [t] e:=
 λσ bk U m z D env A g fx ρ s V H G E Q h=>Q1 z λv q L=>by subst L;exact J σ bk v q env A g fx ρ s V H G E _ λl j k p y x f a r=>HI H.handled a.eN D r E Q<|vO a λg' d dp N I O w X F R=>h g' d dp N I O w (x.trans X) (λb B=>(F b B).trans<|f b B) R
theorem Dz(T:iw Z c)(B:c.ns=ns)(J:ik≠.over)(N:ik≠.zip)(H:b5 c f=some (false,Lu ik)){args:List ao}(L:args.all bD=true)(D:oX Z n ns C M ts args):lF Z n ns C M ik ts (.Call f args [] O):=
 λσ bk vs t y z env A g fx ρ s V p G E Q h=>wK T B H L D y V p G λm j k v ys x d a r=>
  HL p.handled a.eN J N z r E Q (vO a λg' e dp U I Y w X F R=>h g' e dp U I Y w (x.trans X) (λb H=>(F b H).trans<|d b H) R)
end
def sq.T1(Z:dg)(mg:Str->Option Value)(P:Addr):Prop:=∀h:Heap,(∀b o,Z.base b=some o->h.get? b=some o)->h.BuiltinsAt mg P
def sq.T2(Z:dg)(c:Addr)(P:Addr)(p:Pos)(a:Str):Prop:=∀h,Z.me h->(∀b o,Z.base b=some o->h.get? b=some o)->CodeHd h c P/\∃d,h.get? P=some (mR d)/\TriplesOk d.toList/\(mK p d.toList=none\/∃e,mK p d.toList=some (.ref e)/\Z.j8 h e a)
def sq.T3(Z:dg)(c:Addr)(P:Addr)(p:Pos)(l:Str):Prop:=∀h H d e,Z.me h->h.get? P=some (mR d)->mK p d.toList=none->(∀b o,b≠P->h.get? b=some o->H.get? b=some o)->H.get? P=some (mR<|d++#[fN p.line,fN p.col,.ref e])->
  Z.me H/\∀a q,Z.j8 H a q->Z.j8 h a q\/(a=e/\q=l)
structure sq(Z:dg)(mg:Str->Option Value)(c P:Addr)(pos:Pos)(qual:Str):Prop where
 tab:Z.tab P=true
 ns:∃o,Z.base cg=some o/\q8 o mg
 bi:sq.T1 Z mg P
 ne:cg≠P
 code:sq.T2 Z c P pos qual
 grow:sq.T3 Z c P pos qual
section
variable{Z:dg}{C:bH}{M:bQ}{K:Frag}{n:Nat}{ns:bL}{c:TC}{st st':List SO}{g g' fx:FH}{ρ dp:dM}{s:Shared}{A:bq}{σ bk:ba}{env:Env}{E:Value->Shared->Prop}{i:Nat}{fe:Env->Prop}
theorem bR.Ug(S:bR Z st g fx ρ s)(m:Z.tab P=true){h':Heap}(t':Nat)(r:∀b o,b≠P->s.heap.get? b=some o->h'.get? b=some o)(L:Z.me h')
  (J:∀c q,Z.j8 h' c q->Z.j8 s.heap c q\/(s.heap.get? c=none/\∃o vs t,h'.get? c=some o/\o.data=.fields vs/\vs[1]? =some (.str q t))):
  bR Z st (dO Z g s.heap h' λy=>false) fx ρ {s with heap:=h',toks:=t'}:=by
 have G:=(S.f6 P m).1
 have xP:=(S.f6 P m).2
 have U:∀b ob,g b=some ob->b≠P:=λb ob e z=>bU ob<|(z▸e).symm.trans G
 refine⟨λb ob e=>?_,λb ob e=>r b ob (λz=>bU ob<|(z▸e).symm.trans xP)<|S.fix b ob e,S.len,λk O p H a=>?_,S.uniq,λk O p x H l a w=>?_,λb o e=>b6<|S.top b o e,L,λb B=>?_,λb ob e=>cM (S.fix b ob e)<|S.q9 b ob e,S.same,λv q Q=>?_⟩
 ·rcases kc e with q|q
  ·exact r b ob (U _ _ q)<|S.keep _ _ q
  ·exact q.2.2.2
 ·cases l:O.live with
  |true=>exact(S.objs k O p H a).mono aX λb ob B e=>r b ob (λz=>a8<|(z▸(S.off k O p b H l a B).2.2).symm.trans m) e
  |false=>rw[Cu l];trivial
 ·refine nK (S.off k O p x H l a w) λV Y q3=>?_;obtain⟨ob,e⟩:=S.iM H l a w;exact⟨cM e V,Y,q3⟩
 ·obtain⟨ob,e⟩:=S.pj B;exact⟨cM e (S.f6 b B).1,(S.f6 b B).2⟩
 ·rcases J v q Q with h|⟨N,o,vs,t,d,j,I⟩
  ·refine rF (S.codes v q h) λo vs t d j=>NZ o vs t (b6 d) j
  ·exact W1 o vs t (fk S N d rfl (S.fresh N).2.2) j I
theorem IG{env:Env}{addr:Str->Addr}(f:Str×cj->List (Str×Addr)->xM (ForInStep<|List<|Str×Addr))(d:∀n k cs,f (n,k) cs=if(k==cK)=true then do let a<-yJ env n;pure (dC<|(n,a)::cs) else pure (dC cs))(names:bL):∀(cs:List (Str×Addr)),(∀p∈names,p.2=.free->env.cells.lookup p.1=some (addr p.1))->forIn names cs f=pure (((names.filter λp=>p.2==.free).map λp=>(p.1,addr p.1)).reverse++cs):=by
 induction names with
 |nil=>intro cs _;rw[gH];rfl
 |cons Q r I=>
  obtain⟨n,k⟩:=Q;intro cs h;rw[cb,d];have h':=λp e=>h p<|ay _ e;by_cases H:k=.free
  ·subst H;have b:=h _ aw rfl;rw[if_pos<|by simp];have:yJ env n=pure (addr n):=by unfold yJ;rw[b]
   rw[this];show forIn r ((n,addr n)::cs) f=_;rw[I _ h'];simp
  ·rw[if_neg<|by simpa using H];show forIn r cs f=_;rw[I _ h'];have:(k==cK)=false:=by simpa using H
   simp[this]
theorem Ce{scope:Scope}{env:Env}(h:m9 scope.names=some x)(b:env.cells.lookup x=some a):closureFor scope env=pure [(x,a)]:=by
 exact cR h λp H e=>jq H λH=>by
  subst e;show(forIn scope.names [] _>>=λcs=>pure cs)=_;have m:∀q∈scope.names,q.2=.free->q=p:=λq Q k=>aD.mp (H▸k6.mpr ⟨Q,by rw[k];rfl⟩);have:=IG (addr:=λz=>a) (λx cs=>match x with
  |(name,kind)=>if(kind==cK)=true then do let a<-yJ env name;pure (dC<|(name,a)::cs) else pure (dC cs)) (λz z z=>rfl) scope.names [] (λq Q k=>by rw[m q Q k];exact b)
  rw[H] at this;have e2:=this;rw[e2];rfl
def qR.T1(Z:dg)(mg:Str->Option Value)(k:Nat)(fe:Env->Prop)(name:Str)(p:Pos):Prop:=∀env N,fe env->Z.nest k=some N->∃c P,env.code=.ref c/\sq Z mg c P p N.qual/\env.qual++name=N.qual
structure qR(Z:dg)(mg:Str->Option Value)(k:Nat)(fe:Env->Prop)(name:Str)(params:el)(body:List Stmt)(scope:Scope)(pos:Pos)(x:Str):Prop where
 nest:∃ni,Z.nest k=some ni/\ni.params=params/\ni.body=body/\ni.scope=scope/\ni.free=[x]
 defaults:params.defaults=[]
 kwdefaults:params.kw_defaults=[]
 ann:∀env,annTrees params none env=[]
 env:qR.T1 Z mg k fe name pos
theorem r9{h:Heap}(q:h.objs.size<=a):h.get? a=none:=by
 cases e:h.get? a with
 |none=>rfl
 |some o=>exact absurd (bW e)<|sM.mpr q
theorem Ql(h:LH l=some k):l=.cell k:=by
 cases l with
 |cell j=>exact congrArg LV.cell<|aa h
 |_=>exact aR h
theorem ZA{i k j:Nat}{P:Prop}(v:ji C M (.defn i k [j]) σ=some (fl,bk))(f:∀h,σ.loc[j]? =some (.cell h)->gu i (.Jg k [h]) σ=some bk->fl=.next->P):P:=
 av v λw m v=>cR v λx p e=>dQ e λa b=>by rw[List.mapM_cons,List.mapM_nil] at m;exact av m λh H m=>av H λL r t=>by obtain rfl:=Ql t;obtain rfl:[h]=w:=aa m;exact f h r (b▸p) a.symm
theorem Hx{mg:Str->Option Value}(N:qR Z mg d fe name m y O pos x)(hp:eu name ns 0=some (k,kn))(hkn:kn=.local\/kn=.cell)
  (hx:eu x ns 0=some (j,kx)) (hkx:kx=.cell\/kx=.free) (hone:m9 O.names=some x):lE Z n ns C M fe (.defn k d [j]) (.FunctionDef name m y [] none [] O none name pos):=
 λσ bk fl ev env A g fx ρ s V hfe hA G E Q P=>ZA ev λcc h1 e2 er=>by
  subst er;refine iz G.yp.is λoL mL hL hO L=>?_;obtain⟨_,p,h2,h3⟩:=zH L (gw hx).1 (.inr hkx) h1;refine x15 N.nest λni hn1 hn2 hn3 hn4 hn5=>iz (N.env env ni hfe hn1) λc Pp H T hq=>?_;have hqn:qualnameIn env name name=ni.qual:=by unfold qualnameIn;have:=hkn.imp (λq=>V.loc _ (by rw[<-q];exact(gw hp).2)) (λq=>V.cell _ (by rw[<-q];exact(gw hp).2));rcases this with h|h<;>(rw[h];exact hq)
  have hcl:=Ce hone h3;refine dn T.ns λog hog ng=>?_;have hgn:=ng.ns<|G.eN.eC _ _ hog;obtain⟨hHd,ps,hps,htr,hcase⟩:=T.code _ G.eN.tabs G.eN.eC;refine nestDef_K N.defaults N.kwdefaults (N.ann env) ?_;rw[hqn];have fin:∀{f:FH}{I:Shared}{a J:Addr}{v D pm:Value},dG g ρ f ρ->bR Z σ.st f fx ρ I->f a=some (fnMade name ni.qual m y O [(x,p.1)] D pm J v)->(∃Y vs t,f J=some Y/\Y.data=.fields vs/\vs[1]? =some (.str ni.qual t))->
    au (Mo Z) A (storeName env name<|.ref a) (λz s''=>Q .next s'') E I:=by
   intro f I a J v D pm lO l ha ⟨Y,vs,t,q1,q2,q3⟩
   have r:RV Z f ρ (.Jg d [cc]) (.ref a):=⟨a,[p.1],rfl,by simp[h2],_,ni,J,Y,vs,t,ha,hn1,rfl,hn2.symm,by rw[hn3],hn4.symm,rfl,rfl,rfl,rfl,rfl,by rw[hn5];rfl,rfl,q1,q2,q3⟩
   exact jR hp hkn e2 V (G.with lO l rfl) r λi0 af1 iA sE u1=>P i0 _ ρ iA _ (lO.trans sE) (λb hb=>cm hb) u1 rfl
  rcases hcase with B|⟨J,hsome,hco⟩
  ·refine makeFunction_K hcl V.globals hgn H hHd hps htr B T.ne (T.bi _ G.eN.eC) λJ v D h' tk hx' hge hlt hcc htb=>x44 hcc λXv Y vs t e4 hoc hd hv=>?_;obtain rfl:=o8 e4;have hk:∀b o,b≠Pp->s.heap.get? b=some o->(h'.push<|fnMade name ni.qual m y O [(x,p.1)] D ((mg "__name__").getD .none) J v).get? b=some o:=λb o hb e=>aq _<|hx' b o hb e;have hcn:=r9 hge;have w:=r9<|ah hge<|a5 hlt;obtain⟨ht',hc'⟩:=T.grow s.heap _ ps J G.eN.tabs hps B hk<|aq _ htb;have l:=G.eN.Ug T.tab tk hk ht' λXv q hq=>(hc' Xv q hq).imp id λee=>by obtain⟨rfl,rfl⟩:=ee;exact⟨hcn,Y,vs,t,aq _ hoc,hd,hv⟩
   exact fin aX l (fk G.eN w dH rfl (G.eN.fresh w).2.2) ⟨Y,vs,t,fk G.eN hcn (aq _ hoc) rfl (G.eN.fresh hcn).2.2,hd,hv⟩
  ·refine makeFunction_hit hcl V.globals hgn H hHd hps htr hsome (T.bi _ G.eN.eC) λv D h' tk hk hsz=>?_;have hk':∀b o,s.heap.get? b=some o->(h'.push<|fnMade name ni.qual m y O [(x,p.1)] D ((mg "__name__").getD .none) J v).get? b=some o:=λb o e=>aq _<|hk b o e;have w:=r9 hsz;refine nZ (G.eN.codes J ni.qual hco) λY vs t q1 q2 q3=>fin aX (G.eN.grow tk hk') (fk G.eN w dH rfl (G.eN.fresh w).2.2) ⟨Y,vs,t,b6 q1,q2,q3⟩
end
namespace ZF
theorem MY:kq xd "zip.__getattribute__"=some d9.«object.__getattribute__»:=
 CN (id':="object.__getattribute__") (by kernel_rfl) (by decide+kernel) (by decide+kernel) (by kernel_rfl)
theorem Qq:lj (.type "zip") "keys"=pure none:=by rw[cZ,bT];kernel_rfl
theorem D6:lj (.type "zip") "__getattr__"=pure none:=by rw[cZ,bT];kernel_rfl
theorem ze:Jt "zip" "__getattribute__" "zip.__getattribute__":=PySem.F.slot_zip_getattribute
end ZF
section
variable{prog:Program}{w:cD}{A:bq}{E:Value->Shared->Prop}{s:Shared}
theorem D4(z TI TO:Addr)(f0:Value)(u:Tok):Meets (d9.«object.__getattribute__» ⟨[.ref z,.str "keys" u],[]⟩) (λA R s=>xk s.heap z TI TO f0/\raisesAttr (.ref z) "keys" A R s):=
 Meets.of_wp λprog w A R s hs=>by
  obtain⟨hp,g,d,tk,os⟩:=s;obtain⟨hx,hs⟩:=hs;have hT:(⟨hp,g,d,tk,os⟩:Shared).TypeIs (.ref z) "zip":=⟨_,hx,rfl⟩;have f4:=ZF.Qq;repeat (any_goals (first|assumption|wp_step))
  exact wpAny_raiseAttrError hs.1 hs.2<|attrMsg_fits (by decide+kernel)<|by size_fits
theorem P7(hh:A.handled=none)(hx:xk s.heap z TI TO f0)(h:∀h' tk,(∀b o,s.heap.get? b=some o->h'.get? b=some o)->Q none {s with heap:=h',toks:=tk}):
  au (model prog w) A (getAttr? (.ref z) "keys") Q E s:=by
 obtain⟨hp,g,d,tk,os⟩:=s
 have hT:∀tk',(⟨hp,g,d,tk',os⟩:Shared).TypeIs (.ref z) "zip":=λy=>⟨_,hx,rfl⟩
 have f1:=sub_AttributeError
 have f3:=ZF.ze.lookup
 have f4:=ZF.ze.bind<|.ref z
 have f5:=ZF.D6
 repeat (any_goals (first|assumption|exact hT _|((with_reducible show au _ _ (call (yM "zip.__getattribute__") _ _) _ _ _);refine u4 ZF.ze (hT _) ZF.MY (PySem.F.args_zip_getattribute_2 _ _) (D4 z TI TO f0 _) ⟨hx,hh,λh' tk' e hx'=>?_⟩)|wp_step))
 refine w5 hx'.there λt' u' he=>?_
 unfold getattributeRaised
 repeat (any_goals (first|assumption|wp_step))
 exact h _ _ hx'.of.keeps
theorem tW(h:IsTupIter s.heap it t i)(b:mU s.heap t items)(e:items[i]? =some x)
  (a:∀h',IsTupIter h' it t (i+1)->da it s.heap h'->Q x {s with heap:=h'}):au (model prog w) A (p8<|.ref it) Q E s:=by
 refine sA (id h) λo H c d=>?_
 obtain⟨L,O,_,n,l⟩:=b
 refine aU<|cC (name:=jM "__next__") h.typeIs mo
  (bl mo h.typeIs Oj ?_<|RZ _)
 show au _ _ (field (.ref it) 0>>=_) _ _ s
 refine aU<|di H d (x:=.ref t) rfl ?_
 refine sC (show ¬((lK t==lR)=true) from a8) ?_
 refine aU<|di H d (x:=.int i 0) rfl ?_
 refine aI<|eU O l ?_
 simp only[jO,e]
 refine aI<|mQ H d (by simp)<|ab ⟨x,rfl,ab<|a _ ?_ (cq ..)⟩
 exact⟨_,cW _ H<|p6<|gY d _,(ue ..).trans c,by rw[gY d];simp[fN]⟩
theorem vY(hh:A.handled=none)(hit:IsTupIter s.heap it t i)(ht:mU s.heap t items)(hx:items[i]? =none)
  (hE:∀h' e,Heap.ExtBut it s.heap h'->(∃o,h'.get? e=some o/\o.cls=.type "StopIteration")->E (.ref e) {s with heap:=h'}):au (model prog w) A (p8<|.ref it) Q E s:=by
 refine sA (id hit) λo ho hc hd=>?_
 obtain⟨ol,hol,_,nl,hdl⟩:=ht
 refine aU<|cC (name:=jM "__next__") hit.typeIs mo
  (bl mo hit.typeIs Oj ?_<|RZ _)
 show au _ _ (field (.ref it) 0>>=_) _ _ s
 refine aU<|di ho hd (x:=.ref t) rfl ?_
 refine sC (show ¬((lK t==lR)=true) from a8) ?_
 refine aU<|di ho hd (x:=.int i 0) rfl ?_
 refine aI<|eU hol hdl ?_
 simp only[jO,hx]
 refine aI<|c5<|aI<|mQ ho hd (by simp) ?_
 refine aU ?_
 simp only[newExc,newTuple]
 refine aU<|dE ?_<|by size_fits
 refine aI (m:=sH _ _)<|lP (a:=lR) (by first|rfl|(simp only[sH];rfl)) ?_
 refine dE ?_ (by size_fits)
 delta raiseNew
 refine aU<|wpAny_handled ?_
 first|rw[show A.in1.handled=none from hh]|rw[hh]
 refine aU<|ab<|wpAny_throw ?_
 exact hE _ _ (((cq ..).extBut.push _).push _) ⟨_,bp _ rfl,rfl⟩
structure mJ(h:Heap)(z TI TO i1 i2 t1 t2:Addr)(xs ys:Array Value)(i:Nat)(f0:Value):Prop where
 z:xk h z TI TO f0
 ti:vg h TI (.ref i1) (.ref i2)
 to:∃a b,vg h TO a b
 YB:IsTupIter h i1 t1 i
 YA:IsTupIter h i2 t2 i
 l1:mU h t1 xs
 l2:mU h t2 ys
theorem IsTupIter.keepsK{h h':Heap}(x:IsTupIter h it t i)(k:∀b o,h.get? b=some o->h'.get? b=some o):IsTupIter h' it t i:=x.imp λz=>cx<|k _ _
abbrev ZK(z O i I:Addr)(h h':Heap):Prop:=∀b o,b≠z->b≠O->b≠i->b≠I->h.get? b=some o->h'.get? b=some o
theorem OX(Y:A.handled=none)(D:pW z TI t v B t1 t2)(G:mJ s.heap z TI t v B t1 t2 xs ys i .none)(hx:xs[i]? =none)
  (N:∀h' e,ZK z t v B s.heap h'->(∃o,h'.get? e=some o/\o.cls=.type "StopIteration")->E (.ref e) {s with heap:=h'}):au (model prog w) A (d9.«zip.__next__» ⟨[.ref z],[]⟩) Q E s:=by
 obtain⟨j,I,⟨a,b,U⟩,M,h2,L,hl2⟩:=G
 show au _ _ (field (.ref z) 2>>=_) _ _ _
 refine aU<|di j rfl (x:=.bool false) rfl ?_
 refine aU<|di j rfl (x:=.ref TI) rfl ?_
 refine aU<|eU I rfl ?_
 refine aU ?_
 refine aU<|di j rfl (x:=.none) rfl<|ab ?_
 refine JT ?_
 refine aU<|c5 ?_
 refine aU<|di j rfl (x:=.ref t) rfl ?_
 refine aU<|ic j (by simp -iota) λk H h=>?_
 replace H:xk k z TI t .ellipsis:=H
 refine aU ?_
 simp -iota only[NU,Ov,cb,gH]
 refine aU<|aU<|GV ?_
 refine aU<|vY Y (M.extBut h.extBut D.i1z) (L.extBut h.extBut D.l1z) hx λl e d V=>?_
 refine dn V λoe O C=>?_
 have g:xk l z TI t .ellipsis:=d _ _ D.i1z.symm H
 have n:e≠z:=λx=>by subst x;rw[g] at O;obtain rfl:=aa O;simp at C
 refine ic g (by simp -iota) λm y f=>N m e (λc o p y J y x=>f.extBut _ _ p<|d _ _ J<|h.extBut _ _ p x) ⟨oe,f.extBut _ _ n O,C⟩
theorem NF(H:s.heap.get? a=some o)(h:Q (some o) s):au (model prog w) A (loadIfAlive a) Q E s:=λb p z=>by unfold loadIfAlive;rw[xM.wp_loadIfAlive,H];exact h
theorem JR{z TI O j k t n T:Addr}{xs ys:Array Value}{i:Nat}{Y:Obj}{Q:Fin->Shared->Prop}(N:A.handled=none)(D:pW z TI O j k t n)(p:mJ s.heap z TI O j k t n xs ys i (fN T))(J:s.heap.get? T=some Y)(V:xs[i]? =none)
  (G:∀h' e,ZK z O j k s.heap h'->(∃o,h'.get? e=some o/\o.cls=.type "StopIteration")->E (.ref e) {s with heap:=h'}):au (model prog w) A (d9.«zip.__next__» ⟨[.ref z],[]⟩) Q E s:=by
 obtain⟨d,I,⟨a,b,L⟩,B,h2,l,U⟩:=p
 show au _ _ (field (.ref z) 2>>=_) _ _ _
 refine aU<|di d rfl (x:=.bool false) rfl ?_
 refine aU<|di d rfl (x:=.ref TI) rfl ?_
 refine aU<|eU I rfl ?_
 refine aU ?_
 refine aU<|di d rfl (x:=fN T) rfl ?_
 refine aU<|NF (by simpa -iota [fN] using J) ?_
 simp -iota only[Option.isNone_some,dc,if_false]
 refine aI<|di d rfl (x:=.bool false) rfl ?_
 refine JU (by decide) ?_
 refine aU<|ic d (by simp -iota) λm g h=>ab ?_
 refine sQ ?_
 rw[<-eY]
 simp -iota only[cb]
 refine aU<|aU<|aU<|aO ?_
 refine aU<|vY N (B.extBut h.extBut D.i1z) (l.extBut h.extBut D.l1z) V λf e H M=>?_
 exact G f e (λc o C y v y x=>H _ _ v<|h.extBut _ _ C x) M
theorem JQ(D:pW z TI v i1 i2 t1 t2)(Zs:mJ s.heap z TI v i1 i2 t1 t2 xs ys i .none)(hx:xs[i]? =some x)(hy:ys[i]? =some y)
  (hQ:∀h',mJ h' z TI v i1 i2 t1 t2 xs ys (i+1) (fN s.heap.objs.size)->vg h' s.heap.objs.size x y->ZK z v i1 i2 s.heap h'->Q (.done<|.ret<|.ref s.heap.objs.size) {s with heap:=h'}):au (model prog w) A (d9.«zip.__next__» ⟨[.ref z],[]⟩) Q E s:=by
 obtain⟨hz,hTI,⟨a,b,hTO⟩,h1,h2,hl1,hl2⟩:=Zs
 show au _ _ (field (.ref z) 2>>=_) _ _ _
 refine aU<|di hz rfl (x:=.bool false) rfl ?_
 refine aU<|di hz rfl (x:=.ref TI) rfl ?_
 refine aU<|eU hTI rfl ?_
 refine aU ?_
 refine aU<|di hz rfl (x:=.none) rfl<|ab ?_
 refine JT ?_
 refine aU<|c5 ?_
 refine aU<|di hz rfl (x:=.ref v) rfl ?_
 refine aU<|ic hz (by simp -iota) λkR n H=>?_
 replace n:xk kR z TI v .ellipsis:=n
 refine aU ?_
 simp -iota only[NU,Ov,cb,gH]
 refine aU<|aU<|GV ?_
 refine aU<|tW (h1.extBut H.extBut D.i1z) (hl1.extBut H.extBut D.l1z) hx λJj V d=>ab ?_
 have B:vg Jj v a b:=d.extBut _ _ D.TOi1<|H.extBut _ _ D.TOz hTO
 refine aU<|eU B rfl ?_
 refine aU<|Oc B λJi t f=>?_
 replace t:vg Ji v x b:=t
 refine aU<|wpAny_letGo<|ab ?_
 refine aU<|aU<|GV ?_
 refine aU<|tW (((h2.extBut H.extBut D.i2z).extBut d.extBut D.i12.symm).extBut f.extBut D.TOi2.symm) (((hl2.extBut H.extBut D.l2z).extBut d.extBut D.l2i1).extBut f.extBut D.l2TO) hy λAB Xs j=>ab ?_
 have C:vg AB v x b:=j.extBut _ _ D.TOi2 t
 refine aU<|eU C rfl ?_
 refine aU<|Oc C λh O k=>?_
 replace O:vg h v x y:=O
 refine aU<|wpAny_letGo<|ab<|ab ?_
 refine aU<|eU O rfl ?_
 refine aU<|wpAny_newTuple ?_
 have hsz:h.objs.size=s.heap.objs.size:=by rw[k.1,j.1,f.1,d.1,H.1]
 have L:xk h z TI v .ellipsis:=k.extBut _ _ D.TOz.symm<|j.extBut _ _ D.i2z.symm<|f.extBut _ _ D.TOz.symm<|d.extBut _ _ D.i1z.symm n
 have l:ZK z v i1 i2 s.heap h:=λc o U c2 c3 c4 e=>k.extBut _ _ c2<|j.extBut _ _ c4<|f.extBut _ _ c2<|d.extBut _ _ c3<|H.extBut _ _ U e
 have N:z<h.objs.size:=bW L
 refine aU ?_
 have Xl:xk (h.push {cls:=.type "tuple",data:=.seq #[x,y]}) z TI v .ellipsis:=aq _ L
 refine aU<|ic Xl (by simp -iota) λac3 p I=>?_
 replace p:xk ac3 z TI v (fN h.objs.size):=p
 refine ic p (by simp -iota) λg m J=>?_
 replace m:xk g z TI v (fN h.objs.size):=m
 have up:∀c o,c≠z->h.get? c=some o->g.get? c=some o:=λc o U e=>J.extBut _ _ U<|I.extBut _ _ U<|aq _ e
 have G:vg g h.objs.size x y:=J.extBut _ _ (cv N)<|I.extBut _ _ (cv N)<|bp _ rfl
 have Y:IsTupIter h i1 t1 (i+1):=((V.extBut f.extBut D.TOi1.symm).extBut j.extBut D.i12).extBut k.extBut D.TOi1.symm
 have Xr:IsTupIter h i2 t2 (i+1):=Xs.extBut k.extBut D.TOi2.symm
 have Xi:mU g t1 xs:=by refine dn hl1 λo e r=>?_;exact⟨o,up _ _ D.l1z<|l _ _ D.l1z D.l1TO D.l1i1 D.l1i2 e,r⟩
 have Xh:mU g t2 ys:=by refine dn hl2 λo e r=>?_;exact⟨o,up _ _ D.l2z<|l _ _ D.l2z D.l2TO D.l2i1 D.l2i2 e,r⟩
 have Xk:IsTupIter g i1 t1 (i+1):=Y.imp λu=>cx<|up _ _ D.i1z
 have Xj:IsTupIter g i2 t2 (i+1):=Xr.imp λu=>cx<|up _ _ D.i2z
 rw[hsz] at m G
 refine ab ?_
 rw[hsz]
 exact hQ g ⟨m,up _ _ D.TIz<|l _ _ D.TIz D.TITO D.TIi1 D.TIi2 hTI,⟨x,y,up _ _ D.TOz O⟩,Xk,Xj,Xi,Xh⟩ G λc o U c2 c3 c4 e=>up c o U<|l c o U c2 c3 c4 e
theorem Bn(D:pW z TI O I a t c)(b:mJ s.heap z TI O I a t c xs Y i .none)(g:xs[i]? =some x)(j:Y[i]? =some y)
  (H:∀h',mJ h' z TI O I a t c xs Y (i+1) (fN s.heap.objs.size)->vg h' s.heap.objs.size x y->ZK z O I a s.heap h'->Q (some<|.ref s.heap.objs.size) {s with heap:=h'}):au (model prog w) A (qu<|.ref z) Q E s:=by
 have h:s.TypeIs (.ref z) "zip":=⟨_,b.z,rfl⟩
 exact aU<|uA<|cC (name:=jM "__next__") h jH
  (bl jH h yN (JQ D b g j λh' d e f=>⟨_,rfl,ab<|H h' d e f⟩)<|xN _)
theorem vQ(d:A.handled=none)(D:pW z TI O I c n p)(a:mJ s.heap z TI O I c n p xs y i f)(l:f=.none\/∃(T:Addr)(g:Obj),f=fN T/\s.heap.get? T=some g)(x:xs[i]? =none)
  (j:∀h',ZK z O I c s.heap h'->Q none {s with heap:=h'}):au (model prog w) A (qu<|.ref z) Q E s:=by
 have t:s.TypeIs (.ref z) "zip":=⟨_,a.z,rfl⟩
 have H:∀h' e,ZK z O I c s.heap h'->(∃o,h'.get? e=some o/\o.cls=.type "StopIteration")->au (model prog w) A (do if<-isInstance (.ref e) (.type "StopIteration") then pure none else throw (.ref e)) Q E {s with heap:=h'}:=by intro h' e m k;refine dn k λo h C=>?_;refine aU<|cP (T:="StopIteration") (b:=true) ⟨o,h,C⟩ isSubtype_stop ?_;exact ab<|j _ m
 refine aU<|uA<|cC (name:=jM "__next__") t jH
  (bl jH t yN ?_<|xN _)
 rcases l with rfl|⟨T,g,rfl,h⟩
 ·exact OX (A:=A.in1) d D a x H
 ·exact JR (A:=A.in1) d D a h x H
theorem qF(H:xk s.heap z TI O f)(h:Q (.ref z) s):au (model prog w) A (jL<|.ref z) Q E s:=wpAny_pyIter_zip H h
end
noncomputable abbrev zT1(h:Heap)(t:Addr):Heap:=h.push {cls:=.type "tuple_iterator",data:=.fields #[.ref t,.int 0 0]}
abbrev zT2(h:Heap)(t a:Addr):Heap:=(zT1 h t).push {cls:=.type "tuple_iterator",data:=.fields #[.ref a,.int 0 0]}
abbrev zT3(h:Heap)(t a:Addr):Heap:=(zT2 h t a).push {cls:=.type "tuple",data:=.seq #[.ref h.objs.size,.ref (zT1 h t).objs.size]}
abbrev zT4(h:Heap)(t a:Addr):Heap:=(zT3 h t a).push {cls:=.type "tuple",data:=.seq #[.none,.none]}
abbrev TK(h:Heap)(t a:Addr):Heap:=(zT4 h t a).push {cls:=.type "zip",data:=.fields #[.none,.bool false,.bool false,.ref (zT2 h t a).objs.size,.ref (zT3 h t a).objs.size]}
theorem H4(t a:Addr)(xs y:Array Value):
  Meets (d9.«zip.__new__» ⟨[.type "zip",.ref t,.ref a],[]⟩) (λz R s=>mU s.heap t xs/\mU s.heap a y/\
   R (.ok<|.ret<|.ref (zT4 s.heap t a).objs.size) {s with heap:=TK s.heap t a}):=
 .of_wp λprog w A R s h=>by
  obtain⟨p,g,d,k,os⟩:=s;obtain⟨l,b,h⟩:=h;have U:=sub_zip;have L:mU (Shared.heap ⟨p,g,d,k,os⟩) t xs:=l;have H:mU (Shared.heap ⟨p.push {cls:=.type "tuple_iterator",data:=.fields #[.ref t,.int 0 0]},g,d,k,os⟩) a y:=mU.push b _
  wp_walk using ud L,ud H
  exact⟨_,rfl,h⟩
section
variable{prog:Program}{w:cD}{A:bq}{E:Value->Shared->Prop}{s:Shared}
theorem Cg(l:mU s.heap t xs)(H:mU s.heap b Y)
  (h:∀h',mJ h' (s.heap.objs.size+4) (s.heap.objs.size+2) (s.heap.objs.size+3) s.heap.objs.size (s.heap.objs.size+1) t b xs Y 0 .none->pW (s.heap.objs.size+4) (s.heap.objs.size+2) (s.heap.objs.size+3) s.heap.objs.size (s.heap.objs.size+1) t b->
   (∀c o,s.heap.get? c=some o->h'.get? c=some o)->Q (.ref<|s.heap.objs.size+4) {s with heap:=h'}):
  au (model prog w) A (call (.type "zip") [.ref t,.ref b]) Q E s:=by
 refine callType_new PySem.F.called_zip (by decide) (PySem.F.typeCall_zip_2 _ _) (PySem.F.newCall_zip_2 _ _) (λobj=>PySem.F.args_object_init_3 obj _ _) PySem.F.entry_zip_new
  (H4 t b xs Y) ⟨l,H,?_⟩
 have d:(zT1 s.heap t).objs.size=s.heap.objs.size+1:=fK ..
 have f:(zT2 s.heap t b).objs.size=s.heap.objs.size+2:=by rw[fK,d]
 have i:(zT3 s.heap t b).objs.size=s.heap.objs.size+3:=by rw[fK,f]
 have m:(zT4 s.heap t b).objs.size=s.heap.objs.size+4:=by rw[fK,i]
 have g:(TK s.heap t b).get? (zT4 s.heap t b).objs.size=some _:=bp _ rfl
 have k:(TK s.heap t b).get? (zT3 s.heap t b).objs.size=some _:=aq _<|bp _ rfl
 have j:(TK s.heap t b).get? (zT2 s.heap t b).objs.size=some _:=aq _<|aq _<|bp _ rfl
 have G:(TK s.heap t b).get? (zT1 s.heap t).objs.size=some _:=aq _<|aq _<|aq _<|bp _ rfl
 have n:(TK s.heap t b).get? s.heap.objs.size=some _:=aq _<|aq _<|aq _<|aq _<|bp _ rfl
 have p:∀c o,s.heap.get? c=some o->(TK s.heap t b).get? c=some o:=λc o x=>
  aq _ (aq _<|aq _<|aq _<|aq _ x)
 have L:∀{a:Addr}{it:Array Value},mU s.heap a it->a<s.heap.objs.size:=λz=>z.elim λy e=>bW e.1
 rw[f,i,m] at g
 rw[d,f] at j
 rw[i] at k
 rw[d] at G
 rw[m]
 exact⟨⟨_,g,rfl⟩,h _ ⟨g,j,⟨_,_,k⟩,⟨_,n,rfl,rfl⟩,⟨_,G,rfl,rfl⟩,l.keeps p,H.keeps p⟩ (zipApart_new (L l)<|L H) p⟩
end
theorem yr:kq xd "dict.update.loop"=some d9.«dict.update.loop»:=fT<|rfl
theorem pA:plainId "dict.update.loop"=true:=by decide+kernel
section
variable{Z:dg}{C:bH}{M:bQ}{K:Frag}{n:Nat}{ns:bL}{c:TC}{st st':List SO}{g g' fx:FH}{ρ dp:dM}{s:Shared}{A:bq}{σ bk:ba}{env:Env}{E:Value->Shared->Prop}{i:Nat}
theorem OO{h:Heap}{b:Nat}{o:Obj}(e:h.get? b=some o):b<h.objs.size:=bW e
theorem tX{a b:Nat}(h:a<b\/b<a):a≠b:=Nat.lt_or_gt.mpr h
theorem JG(S:bR Z st g fx ρ s)(r:RV Z g ρ (.tup xs) x):∃a vs,x=.ref a/\mU s.heap a vs/\dD Z g ρ xs vs.toList:=by refine nZ r λa vs n z h b=>?_;subst z;exact xW a vs rfl ⟨_,S.keep _ _ h,rfl,n,rfl⟩ b
theorem Gr{s:Shared}(d:A.handled=none)(Da:pW z TI O I a e l)(b:mJ s.heap z TI O I a e l xs y j f)
  (H:f=.none\/∃(T:Addr)(t:Obj),f=fN T/\s.heap.get? T=some t) (x:xs[j]? =none) (h:∀h',ZK z O I a s.heap h'->R (.ok<|.ret .none) {s with heap:=h'}):
  jb (model prog w) A (.builtin "dict.update.loop" ⟨[.ref D,.ref z,fN q,.none],[]⟩) R s:=by
 refine jG yr ?_
 rw[iy pA _]
 refine aU<|vQ (by simp -iota [d]) Da b H x λh' k=>?_
 exact aU<|ab<|ab<|h h' k
theorem M6{P:Prop}(e:builtin st .j7 [a,b]=some v)(p:a=.tup []->b=.tup []->v=.fW [] []->P)(t:∀k w,a=.tup [.str k]->b=.tup [w]->c6 k=true->w.free=true->v=.fW [.str k] [w]->P):P:=
 av (x:=wM a) e λB h e=>av e λD H e=>by
  have h:=wL h id;have H:=wL H id;cases B with
  |nil=>exact iZ e λj f=>p h (H.trans<|congrArg SV.tup<|bg.mp j) f.symm
  |cons x r=>exact pJ e λj e=>av e λk m e=>av e λy Y e=>iZ e λl f=>by obtain rfl:=bg.mp j;obtain rfl:=Ws m id;obtain rfl:=jq Y id;exact t k y h H (cn l λa z=>a) (cn l λz b=>b) f.symm
theorem M4(hm:∃o,Z.base sysModules=some o)(hh:A.handled=none)(S:bR Z st g fx ρ s){a b v:SV}{x y:Value}(e:builtin st .j7 [a,b]=some v)(ra:RV Z g ρ a x)(rb:RV Z g ρ b y)(hu:A.units+70<cLine){Q:Value->Shared->Prop}
  (h:∀h' tk w,(∀b o,s.heap.get? b=some o->h'.get? b=some o)->RV Z (mG Z g s.heap h') ρ v w->Q w {s with heap:=h',toks:=tk}):
  au (Mo Z) A (call (.type "zip") [x,y]) (λz bG=>au (Mo Z) A (call (.type "dict") [z]) Q E bG) E s:=by
 have hshape:∃xs ys,a=.tup xs/\b=.tup ys/\((xs=[]/\ys=[]/\v=.fW [] [])\/∃k w,xs=[.str k]/\ys=[w]/\c6 k=true/\w.free=true/\v=.fW [.str k] [w]):=by exact M6 e (λh1 h2 h3=>⟨_,_,h1,h2,.inl ⟨rfl,rfl,h3⟩⟩) λk w h1 h2 h3 h4 h5=>⟨_,_,h1,h2,.inr ⟨k,w,rfl,rfl,h3,h4,h5⟩⟩
 refine iz hshape λxs ys zz2 zz3 hcase=>?_
 subst zz2
 subst zz3
 refine iz (JG S ra) λt1 vx zz2 ht1 rx=>?_
 subst zz2
 refine iz (JG S rb) λt2 vy zz2 ht2 ry=>?_
 subst zz2
 refine Cg ht1 ht2 λkR Zs Da Xp=>?_
 have old:∀{b:Nat}{o:Obj},s.heap.get? b=some o->b≠s.heap.objs.size+4/\b≠s.heap.objs.size+3/\b≠s.heap.objs.size/\b≠s.heap.objs.size+1:=λe=>by have:=OO e;exact I9 (tX<|.inl<|Ou 4 this) (tX<|.inl<|Ou 3 this) (tX<|.inl<|by omega)<|tX<|.inl<|WE this
 refine callType_codes (Q₁:=λobj iA=>obj=.ref kR.objs.size/\iA={s with heap:=kR.push {cls:=.type "dict",data:=.dict #[]}}) F.kt_called_dict (F.kt_typeCall_dict_1 _) F.entry_dict_init (kt_code_dict_new _ ⟨rfl,rfl⟩) ?_
 rintro obj iA ⟨rfl,rfl⟩
 have hzs:=OO Zs.z
 have hDn:s.heap.get? kR.objs.size=none:=by
  cases q:s.heap.get? kR.objs.size with
  |none=>rfl
  |some o=>exact absurd (OO q)<|aay hzs
 have hno:=rV S hm hDn
 have hD:(kR.push {cls:=.type "dict",data:=.dict #[]}).get? kR.objs.size=some (dictOf [] 0):=bp _ rfl
 have tJ:∀b o,kR.get? b=some o->(kR.push {cls:=.type "dict",data:=.dict #[]}).get? b=some o:=λb o e=>aq _ e
 have ro:mJ (kR.push {cls:=.type "dict",data:=.dict #[]}) (s.heap.objs.size+4) (s.heap.objs.size+2) (s.heap.objs.size+3) s.heap.objs.size (s.heap.objs.size+1) t1 t2 vx vy 0 .none:=
  ⟨tJ _ _ Zs.z,tJ _ _ Zs.ti,Zs.to.imp λu=>aA λu=>tJ _ _,IsTupIter.keepsK Zs.YB tJ,IsTupIter.keepsK Zs.YA tJ,Zs.l1.keeps tJ,Zs.l2.keeps tJ⟩
 refine⟨⟨_,hD,rfl⟩,F.args_dict_init_2 _ _,?_⟩
 refine aU<|aU<|rq ⟨_,hD,rfl⟩ ?_
 refine ab<|aI<|ko ⟨_,ro.z,rfl⟩ ?_
 refine JU (by decide)<|aU<|P7 (by simp -iota [hh]) ro.z λJi RQ rn=>?_
 simp -iota only[Option.isNone_none,if_true]
 have Jp:mJ Ji (s.heap.objs.size+4) (s.heap.objs.size+2) (s.heap.objs.size+3) s.heap.objs.size (s.heap.objs.size+1) t1 t2 vx vy 0 .none:=
  ⟨rn _ _ ro.z,rn _ _ ro.ti,ro.to.imp λu=>aA λu=>rn _ _,IsTupIter.keepsK ro.YB rn,IsTupIter.keepsK ro.YA rn,ro.l1.keeps rn,ro.l2.keeps rn⟩
 have AE:=rn _ _ hD
 have EX:∀b o,s.heap.get? b=some o->Ji.get? b=some o:=λb o e=>rn _ _<|tJ _ _<|Xp _ _ e
 refine aU<|c5<|aU<|qF Jp.z<|ab ⟨uC pA _,?_⟩
 rcases hcase with ⟨rfl,rfl,rfl⟩|⟨k,w,rfl,rfl,hok,hfr,rfl⟩
 ·have hx0:vx=#[]:=by
   have:=rx
   have h2:vx.toList=[]:=this
   simpa -iota using h2
  subst hx0
  refine Gr (by simp -iota [hh]) Da Jp (.inl rfl) rfl λAB AD=>?_
  have Jm:=AD _ _ (tX<|WA hzs) (tX<|Wz hzs) (tX<|Wy hzs) (tX<|Wx hzs) AE
  have uz:∀b o,s.heap.get? b=some o->AB.get? b=some o:=λb o e=>AD _ _ (old e).1 (old e).2.1 (old e).2.2.1 (old e).2.2.2<|EX _ _ e
  exact⟨rfl,h AB RQ _ uz ⟨_,[],0,rfl,fk S hDn Jm rfl (S.fresh hDn).2.2,rfl,rfl,⟨[],.nil _⟩,hno⟩⟩
 ·refine iz rx λkv r1 hvx rk hr1=>iz ry λwv r2 hvy rw' hr2=>?_;have e1:r1=[]:=hr1;have e2:r2=[]:=hr2;subst e1;subst e2;have hx0:vx[0]? =some kv:=by rw[<-bh,hvx];rfl
  have hy0:vy[0]? =some wv:=by rw[<-bh,hvy];rfl
  have hx1:vx[1]? =none:=by rw[<-bh,hvx];rfl
  refine jG yr ?_;rw[iy pA _];refine aU<|Bn Da Jp hx0 hy0 λAB uZ Jl AD=>?_;have Jm:=AD _ _ (tX<|WA hzs) (tX<|Wz hzs) (tX<|Wy hzs) (tX<|Wx hzs) AE;have uz:∀b o,s.heap.get? b=some o->AB.get? b=some o:=λb o e=>AD _ _ (old e).1 (old e).2.1 (old e).2.2.1 (old e).2.2.2<|EX _ _ e;refine aU<|aO ?_;refine aU<|wpAny_tryCatch ?_;refine aI<|ko ⟨_,Jl,rfl⟩ ?_;refine JU (by decide)<|aU<|eU Jl rfl<|ab ?_;refine aO ?_;have X:fZ Z g ρ {s with heap:=AB,toks:=RQ} kR.objs.size [] [] [] 0:=⟨Jm,rfl,rfl,⟨[],.nil _⟩,hno⟩;have hfk:=BX hok;refine nr (λb o e=>uz _ _<|S.keep b o e) X hfk rk (by simp;exact aax hu) (by simp -iota) λd Ts Jh af2 h1 Xo Xm=>ab ⟨uC pA _,?_⟩;have hDlt:=OO AE;have kQ:∀b o,b≠kR.objs.size->AB.get? b=some o->Ts.get? b=some o:=λb o hb e=>(Xm.2 b hb).trans e;have Xw:mJ Ts (s.heap.objs.size+4) (s.heap.objs.size+2) (s.heap.objs.size+3) s.heap.objs.size (s.heap.objs.size+1) t1 t2 vx vy (0+1) (fN Ji.objs.size):=by
   have lt1:@LT.lt Nat _ t1 s.heap.objs.size:=by obtain⟨o,e,_⟩:=ht1;exact OO e
   have lt2:@LT.lt Nat _ t2 s.heap.objs.size:=by obtain⟨o,e,_⟩:=ht2;exact OO e
   refine⟨kQ _ _ (tX<|Or.inl hzs) uZ.z,kQ _ _ (tX<|by omega) uZ.ti,let⟨p,q,r⟩:=uZ.to;⟨p,q,kQ _ _ (tX<|Or.inl<|a5 hzs) r⟩,?_,?_,?_,?_⟩
   ·obtain⟨o,e,r⟩:=uZ.YB;exact⟨o,kQ _ _ (tX<|aaw hzs) e,r⟩
   ·obtain⟨o,e,r⟩:=uZ.YA;exact⟨o,kQ _ _ (tX<|aav hzs) e,r⟩
   ·obtain⟨o,e,r⟩:=uZ.l1;exact⟨o,kQ _ _ (tX<|Ww hzs lt1) e,r⟩
   ·obtain⟨o,e,r⟩:=uZ.l2;exact⟨o,kQ _ _ (tX<|Ww hzs lt2) e,r⟩
  refine Gr (s:={s with heap:=Ts,toks:=Jh}) (by simp -iota [hh]) Da Xw (.inr ⟨_,_,rfl,kQ _ _ (tX<|Or.inr hDlt) Jl⟩) hx1 λN9 RS=>?_;have N8:∀b o,s.heap.get? b=some o->N9.get? b=some o:=λb o e=>RS _ _ (old e).1 (old e).2.1 (old e).2.2.1 (old e).2.2.2 (kQ _ _ (tX (by have:=OO e;exact Ww hzs this))<|uz _ _ e);have RR:=RS _ _ (tX<|WA hzs) (tX<|Wz hzs) (tX<|Wy hzs) (tX<|Wx hzs) Xo;have hg:=fk S hDn RR (ex:=λu=>false) rfl (S.fresh hDn).2.2;have Y:=zo (s':={s with heap:=N9,toks:=Jh}) (g':=mG Z g s.heap N9) aX X hfk h1 rk rfl (rw'.mono aX) RR;exact⟨rfl,h N9 Jh _ N8 ⟨_,_,_,rfl,hg,Y.keys,Y.vals.free (by simpa -iota [SV.free.go] using hfr),Y.ok,hno⟩⟩
end
section
variable{Z:dg}{C:bH}{M:bQ}{K:Frag}{n:Nat}{ns:bL}{c:TC}{st st':List SO}{g g' fx:FH}{ρ dp:dM}{s:Shared}{A:bq}{σ bk:ba}{env:Env}{E:Value->Shared->Prop}{i:Nat}
theorem A7(hm:∃o,Z.base sysModules=some o)(T:iw Z c)(D:c.ns=ns)(hb:b5 c f=some (false,"dict"))(B:b5 c gf=some (false,"zip"))(I:bD x=true)(H:bD y=true)(hx:eK Z n ns C M tx x)(hy:eK Z n ns C M ty y):
  eK Z n ns C M (.bi .j7 [tx,ty]) (.Call f [.Call gf [x,y] [] O] [] pos):=by
 exact λσ bk v k env A g fx ρ s V m G E Q P=>Md k λvs τ N k=>KY k λJ U=>by subst U;refine tC T D hb rfl V G (wK T D B (by simp[I,H]) (jU I hx<|jU H hy mF) N V m G λw b d L ys h e a j=>?_);exact av J λq p u=>y4 p λp=>by subst p;obtain⟨ya,ys',rfl,ra,yb,Y,rfl,rb,rfl⟩:=j;exact M4 hm m.handled a.eN J ra rb (by have:=m.units;exact aaC this) λh' tk z hk r=>(P.of h e) _ b d _ z aX (λu u=>rfl) (a.with aX (a.eN.grow tk hk) rfl) r
theorem Df{h:Heap}(hh:A.handled=none)(Da:pW z TI v L N t1 t2)(t:∃o,G t1=some o)(r:∃o,G t2=some o)(I:∃o,G TI=some o)(hk:∀b o,G b=some o->h.get? b=some o):
  eX Z.prog Z.w Z A z [z,v,L,N] [] G ρ true (λi h'=>i=0/\mJ h' z TI v L N t1 t2 #[] #[] 0 .none/\∀b o,G b=some o->h'.get? b=some o) where
 frame i h h' j J:=by
  refine nK j λf d k=>?_;subst f;have D:=λb o e=>J b o (.inr e)<|k b o e;have w:=λb o m e=>J b o (.inl m) e;have U:∀{a:Addr}{o:Obj},(∃o,G a=some o)->h.get? a=some o->h'.get? a=some o:=λoe e=>by obtain⟨o',B⟩:=oe;have:=k _ _ B;rw[e] at this;obtain rfl:=aa this;exact D _ _ B
  refine w5 d.to λpa pb O=>dn d.YB λV l q1=>?_;refine dn d.YA λY p q2=>dn d.l1 λo3 e3 q3=>?_;refine dn d.l2 λo4 e4 q4=>⟨rfl,⟨w _ _ (by simp) d.z,U I d.ti,⟨pa,pb,w _ _ (by simp) O⟩,⟨V,w _ _ (by simp) l,q1⟩,⟨Y,w _ _ (by simp) p,q2⟩,⟨o3,U t e3,q3⟩,⟨o4,U r e4,q4⟩⟩,D⟩
 there i h j b H:=by
  refine nK j λf d y=>?_;subst f;refine w5 d.to λpa pb O=>dn d.YB λV l q1=>?_;refine dn d.YA λY p q2=>?_;simp only[aQ,aJ,or_false] at H;rcases H with rfl|rfl|rfl|rfl
  ·exact⟨_,d.z⟩
  ·exact⟨_,O⟩
  ·exact⟨_,l⟩
  ·exact⟨_,p⟩
 item i x s Q E tgt hx:=by simp at hx
 done s Q E j h:=by refine nK j λy d y=>vQ hh Da d (.inl rfl) rfl λh' hz=>?_;refine h h' s.toks λb o H e=>?_;simp only[aQ,aJ,or_false,not_or] at H;exact hz b o H.1 H.2.1 H.2.2.1 H.2.2.2 e
 self i s Q E j h:=by refine nK j λf d y=>?_;subst f;exact qF d.z h
theorem HC(T:iw Z c)(hc:c.ns=ns)(B:b5 c f=some (false,"zip")){args:List ao}(hs:args.all bD=true)(he:oX Z n ns C M ts args):lF Z n ns C M .zip ts (.Call f args [] pos):=by
 intro σ bk vs t e1 e2 env A g fx ρ s V hA G E Q h;refine wK T hc B hs he e1 V hA G λj N k a ys x m d v=>?_;have hvs:vs=[.tup [],.tup []]/\t=[]:=av e2 λq hq e=>av e λxs O e=>av e λys H e=>iZ e λU er=>cn U λU h4=>y4 hq λhq=>wL O λO=>wL H λH=>
  ⟨by rw[hq,O,H,bg.mp U,bg.mp h4],er.symm⟩
 obtain⟨rfl,rfl⟩:=hvs;obtain⟨ya,ys',rfl,ra,yb,ys'',rfl,rb,l⟩:=v;have l:=l;subst l;refine nZ ra λt1 vx nx z ga rx=>?_;subst z;refine nZ rb λt2 vy ny z gb ry=>?_;subst z;have hx0:vx=#[]:=by have H:vx.toList=[]:=rx;simpa using H
 have hy0:vy=#[]:=by have H:vy.toList=[]:=ry;simpa using H
 subst hx0 hy0;have hl1:mU a.heap t1 #[]:=⟨_,d.eN.keep _ _ ga,rfl,nx,rfl⟩;have hl2:mU a.heap t2 #[]:=⟨_,d.eN.keep _ _ gb,rfl,ny,rfl⟩;show au (Mo Z) A (call (.type "zip") [.ref t1,.ref t2]) _ _ _;refine Cg hl1 hl2 λw J Da hk=>qF J.z ?_;have p:∀b∈[a.heap.objs.size+4,a.heap.objs.size+3,a.heap.objs.size,a.heap.objs.size+1],a.heap.get? b=none:=λb B=>by
  simp only[aQ,aJ,or_false] at B;cases q:a.heap.get? b with
  |none=>rfl
  |some o=>have:=OO q;rcases B with rfl|rfl|rfl|rfl<;>omega
 have y:=d.eN.enter a.toks hk p;have r:a.heap.get? (a.heap.objs.size+2)=none:=by
  cases q:a.heap.get? (a.heap.objs.size+2) with
  |none=>rfl
  |some o=>have:=OO q;exact aaB this
 have D:dG j k (dO Z j a.heap w λb=>decide<|b∈[a.heap.objs.size+4,a.heap.objs.size+3,a.heap.objs.size,a.heap.objs.size+1]) k:=aX;have Y:∃o,(dO Z j a.heap w λb=>decide<|b∈[a.heap.objs.size+4,a.heap.objs.size+3,a.heap.objs.size,a.heap.objs.size+1]) (a.heap.objs.size+2)=some o:=
  ⟨_,fk d.eN r J.ti (by simp) (d.eN.fresh r).2.2⟩
 refine vO d (λg' L dp s' I wr St X F R=>h g' L dp s' I wr St (x.trans X) (λb B=>(F b B).trans<|m b B) R) _ w a.toks _ _ _ D y p
  (Df (h:=w) hA.handled Da ⟨_,D.g _ _ ga⟩ ⟨_,D.g _ _ gb⟩ Y λb o e=>y.keep b o e) ⟨rfl,J,λb o e=>y.keep b o e⟩
end
section
variable{Z:dg}{C:bH}{M:bQ}{K:Frag}{n:Nat}{ns:bL}{c:TC}{σ bk:ba}{env:Env}{i:Nat}
theorem iw.eB(T:iw Z c)(s:bL):iw Z {c with ns:=s}:=⟨T.gl,T.uq,T.at_⟩
structure sP(Z:dg)(K:Frag)(M:bQ)(n:Nat)(C:bH):Prop where
 O:wZ Z K M
 N:NmM Z
 hC:nA Z n C
 hm:∃o,Z.base sysModules=some o
abbrev qc(Z:dg)(n:Nat)(ns:bL)(C:bH)(M:bQ)(t:Mine.E)(e:ao):Prop:=eK Z n ns C M t e/\lW Z n ns C M t e
theorem Ft:eK Z n ns C M .bad e:=λσ bk v V=>aR V
theorem Ku:lW Z n ns C M .bad e:=λσ bk v b V=>aR V
theorem jo:qc Z n ns C M .bad e:=⟨Ft,Ku⟩
theorem dR(h:eK Z n ns C M t e)(H:∀env:Env,isTrue e env (eval e env)=(do let v<-eval e env;kp e.pos;jF [v] (nQ v))):qc Z n ns C M t e:=⟨h,lW.value h H⟩
theorem rJ(h:∀e,eK Z n ns C M (t e) e){es:List ao}:es.all bD=true->oX Z n ns C M (es.map t) es:=by
 induction es with
 |nil=>intro _;exact mF
 |cons e es I=>intro s;exact cn s λH a=>jU H (h e)<|I a
theorem wz(h:∀e,qc Z n ns C M (t e) e){es:List ao}:ot Z n ns C M (es.map t) es:=by
 induction es with
 |nil=>exact trivial
 |cons e es I=>exact⟨h e,I⟩
theorem Eh:H7 (yn c v)=none:=by
 cases v with
 |ref a=>show H7 (match a==c.uq with|true=>.xD|false=>.glob<|.ref a)=none;cases a==c.uq<;>rfl
 |_=>rfl
theorem DJ{i:Nat}(h:H7 (rY c x)=some i):∃k,eu x c.ns 0=some (i,k)/\(k=.local\/k=.cell\/k=.free):=by
 unfold rY at h;cases hp:eu x c.ns 0 with
 |none=>rw[hp] at h;exact aR h
 |some p=>
  rw[hp] at h;have h:H7 (match oM p.2 with|true=>.loc p.1|false=>ob<|(BP c x p.2).map<|yn c)=some i:=h;cases hk:oM p.2 with
  |true=>rw[hk] at h;obtain rfl:=aa h;exact⟨p.2,rfl,My hk⟩
  |false=>
   rw[hk] at h;cases hv:BP c x p.2 with
   |none=>rw[hv] at h;exact aR h
   |some v=>rw[hv] at h;exact aR<|Eh.symm.trans h
theorem sW(b:c.ns=ns)(h:eK Z n ns C M t e):eK Z n ns C M (nP c t e) e:=by
 subst b;unfold nP;cases hx:(v7 e).bind λx=>H7 (rY c x) with
 |none=>exact h
 |some i=>exact av hx λx H a=>D2 H λp d=>by subst d;refine dn (DJ a) λk H a=>Px H a
theorem J4{i:Nat}(h:Fk c e=some i):∃x p k,e=.Name x p/\eu x c.ns 0=some (i,k)/\(k=.local\/k=.cell):=
 av h λx d h=>av h λq Q h=>iZ h λa H=>D2 d λp b=>by subst H;exact W1 x p q.2 b Q<|za a
theorem Dn:∀{is:List Nat},LG (Fk c) es=some is->es.all bD=true/\is.length=es.length/\wX Z n c.ns (λz z z=>none) (λz z=>none) (is.map .nm) es:=by
 induction es with
 |nil=>intro is h;obtain rfl:=aa h;exact⟨rfl,rfl,sX⟩
 |cons e es I=>intro is h;exact av h λj H h=>cR h λs f r=>by subst r;refine nZ (J4 H) λx p k a l g=>?_;subst a;refine nK (I f) λA b d=>⟨A,congrArg je b,m3 rfl (pk l g) d⟩
theorem J1(h:y5 e=some es):∃k p,e=.Tuple es k p:=by
 cases e with
 |Tuple s k p=>exact⟨k,p,congrArg (λz=>Expr.Tuple z k p)<|aa h⟩
 |_=>exact aR h
theorem pq(h:vw c e=some t):qb Z n c.ns t e:=by
 unfold vw at h;cases ht:y5 e with
 |some s=>rw[ht] at h;exact cR h λis H r=>by subst r;refine w5 (J1 ht) λk p z=>?_;subst z;refine nK (Dn (Z:=Z) (n:=n) H) λA b d=>HB A b d
 |none=>rw[ht] at h;exact cR h λi H r=>by subst r;refine nZ (J4 H) λx j k a g f=>?_;subst a;exact Kq g f
end
section
variable{Z:dg}{C:bH}{M:bQ}{K:Frag}{n:Nat}{ns:bL}{c:TC}{σ bk:ba}{env:Env}{i:Nat}
def qQ.T1(Z:dg)(M:bQ)(n:Nat)(C:bH)(f:Nat):Prop:=∀c m e,iw Z c->qc Z n c.ns C M (fB f c m e) e
def qQ.T2(Z:dg)(M:bQ)(n:Nat)(C:bH)(f:Nat):Prop:=∀c b a e p,iw Z c->b5 c e=some b->a.all bD=true->eK Z n c.ns C M (trB f c b a) (.Call e a [] p)
def qQ.T3(Z:dg)(M:bQ)(n:Nat)(C:bH)(f:Nat):Prop:=∀c it p,iw Z c->Dl f c it=some p->lF Z n c.ns C M p.1 p.2 it/\eJ it=true
structure qQ(Z:dg)(M:bQ)(n:Nat)(C:bH)(f:Nat):Prop where
 e:qQ.T1 Z M n C f
 b:qQ.T2 Z M n C f
 it:qQ.T3 Z M n C f
theorem gs(H:qQ Z M n C i)(T:iw Z c):eK Z n c.ns C M (fB i c m e) e:=(H.e c m e T).1
theorem Np(h:GD e=some q):∃p,e=.Call q.1 q.2.1 q.2.2 p:=by
 cases e with
 |Call f args k p=>exact⟨p,by rw[<-aa h]⟩
 |_=>exact aR h
theorem L7(h:mx c nm e=some s):∃g p,e=.Call g s [] p/\b5 c g=some (false,nm)/\s.all bD=true:=
 av h λq Q h=>iZ h λH r=>cn H λH f=>cn H λb d=>by refine eS (Np Q) λp z=>?_;subst z;subst r;exact xW q.1 p (by rw[bg.mp b]) (beq_iff_eq.mp d) f
theorem Z3(h:((one args).bind<|mx c nm).bind one=some a):∃g p,args=[.Call g [a] [] p]/\b5 c g=some (false,nm)/\bD a=true:=
 av h λs j H=>av j λe d k=>jq d λd=>jq H λH=>by subst H d;refine iz (L7 k) λg p f m r=>?_;subst f;exact xW g p rfl m<|cn r λa z=>a
theorem Z2(h:((one args).bind<|mx c nm).bind xo=some q):∃g p,args=[.Call g [q.1,q.2] [] p]/\b5 c g=some (false,nm)/\bD q.1=true/\bD q.2=true:=
 av h λA k H=>av k λe f m=>jq f λf=>y4 H λH=>by subst H f;refine iz (L7 m) λg p j r s=>?_;subst j;exact xW g p rfl r<|cn s λa b=>⟨a,cn b λb z=>b⟩
theorem T8(B:sP Z K M n C)(H:qQ Z M n C i){args:List ao}(T:iw Z c)(h:b5 c j=some b)(s:args.all bD=true):eK Z n c.ns C M (trB (i+1) c b args) (.Call j args [] O):=by
 have L:oX Z n c.ns C M (args.map<|fB i c false) args:=rJ (λe=>gs H T) s;show eK Z n c.ns C M (match zr b with
  |some I=>.bi I<|args.map<|fB i c false
  |none=>match b==(false,"list") with
   |true=>match ((one args).bind<|mx c "range").bind one with
    |some a=>.bi .qI [fB i c false a]
    |none=>.bi .list<|args.map<|fB i c false
   |false=>match b==(true,"sorted") with
    |true=>match ((one args).bind<|mx c "set").bind one with
     |some a=>.bi .ja [fB i c false a]
     |none=>.bi .sorted<|args.map<|fB i c false
    |false=>ob<|(gd (b==(false,"dict")) ()).bind λz=>(((one args).bind<|mx c "zip").bind xo).map λp=>.bi .j7 [fB i c false p.1,fB i c false p.2]) _
 cases hp:zr b with
 |some I=>exact cn (n9 (p:=λI=>vU I&&C8 I==b) hp) λk l=>Kl T rfl k (h.trans<|congrArg some (beq_iff_eq.mp l).symm) s L
 |none=>
  cases k:b==(false,"list") with
  |true=>
   have h:b5 c j=some (false,"list"):=by rw[h,beq_iff_eq.mp k]
   cases ha:((one args).bind<|mx c "range").bind one with
   |some a=>refine iz (Z3 ha) λG p d f g=>?_;subst d;exact Dw T rfl h f g<|gs H T
   |none=>exact Dx T rfl h s L
  |false=>
   cases l:b==(true,"sorted") with
   |true=>
    have h:b5 c j=some (true,"sorted"):=by rw[h,beq_iff_eq.mp l]
    cases ha:((one args).bind<|mx c "set").bind one with
    |some a=>refine iz (Z3 ha) λG p d f g=>?_;subst d;exact xu T rfl h f g<|gs H T
    |none=>exact Kl T rfl rfl h s L
   |false=>
    exact Dv λt m=>pJ m λv m=>cR m λq Q r=>by
     subst r;have h:b5 c j=some (false,"dict"):=by rw[h,beq_iff_eq.mp v]
     refine O0 (Z2 Q) λG p d f g w=>?_;subst d;exact A7 B.hm T rfl h f g w (gs H T)<|gs H T
theorem FJ(H:qQ Z M n C i)(T:iw Z c):lF Z n c.ns C M .over [nP c (fB i c false it) it] it:=vF<|sW rfl<|gs H T
theorem QC(h:zE c it=some q):∃f p,it=.Call f q.2 [] p/\q.2.all bD=true/\b5 c f=some (false,Lu q.1)/\q.1≠.over:=
 av h λr s h=>pJ h λm h=>cR h λk H b=>cn m λd g=>cn (n9 (p:=λk=>b5 c r.1==some (false,Lu k)&&r.2.1.length==nIK k) H) λj z=>by refine eS (Np s) λp a=>?_;subst a;subst b;refine Sm r.1 p (by rw[bg.mp d]) g (beq_iff_eq.mp j) λe=>?_;have:=yQ H;rw[show k=.over from e] at this;exact absurd this (by decide)
theorem Pa(B:sP Z K M n C)(H:qQ Z M n C i)(T:iw Z c)(h:Dl (i+1) c it=some p):lF Z n c.ns C M p.1 p.2 it/\eJ it=true:=by
 have h:(match zE c it with
  |some q=>some (q.1,q.2.map λa=>match zG q.1 with|true=>nP c (fB i c false a) a|false=>fB i c false a)
  |none=>gd (eJ it) (IK.over,[nP c (fB i c false it) it]))=some p:=h
 cases hq:zE c it with
 |some q=>
  rw[hq] at h;obtain rfl:=aa h;refine O0 (QC hq) λf g z s b k=>?_;subst z;have l:oX Z n c.ns C M (q.2.map λa=>match zG q.1 with|true=>nP c (fB i c false a) a|false=>fB i c false a) q.2:=rJ (λa=>by
   cases zG q.1 with
   |true=>exact sW rfl<|gs H T
   |false=>exact gs H T) s
  refine⟨?_,rfl⟩;by_cases d:q.1=.zip
  ·rw[d] at b l ⊢;exact HC T rfl b s l
  ·exact Dz T rfl k d b s l
 |none=>rw[hq] at h;exact iZ h λN e=>by subst e;exact⟨FJ H T,N⟩
theorem Wi(h:opE op=some o)(H:eK Z n ns C M t l)(a:eK Z n ns C M d r):eK Z n ns C M (.bin o t d) (.BinOp l op r p):=by rw[P1 h];exact Pz H a
theorem iB(h:∀t,x=some t->qc Z n ns C M t e):qc Z n ns C M (ob x) e:=by
 cases x with
 |none=>exact jo
 |some t=>exact h t rfl
theorem UN(h:r4 e=some es):∃p,e=.List es p:=by
 cases e with
 |List s p=>exact⟨p,congrArg (λz=>Expr.List z p)<|aa h⟩
 |_=>exact aR h
theorem Wp(h:yB e=some q):e=.Attribute q.1 q.2.1 q.2.2:=by
 cases e with
 |Attribute o a p=>rw[<-aa h]
 |_=>exact aR h
theorem DS(h:yB e=none):rC e=true:=by unfold rC;rw[h];rfl
theorem Gx(h:Ez e=some k):∃a p,e=.Constant k a p:=by
 cases e with
 |Constant b a p=>exact⟨a,p,congrArg (λz=>Expr.Constant z a p)<|aa h⟩
 |_=>exact aR h
theorem Sv(h:Uk e=some x):∃a p,e=.Constant (.str x) a p:=
 av h λk b H=>by
  refine w5 (Gx b) λa p z=>?_;subst z;cases k with
  |str y=>exact⟨a,p,by rw[aa H]⟩
  |_=>exact aR H
theorem Yh(h:Yi e=some x):∃p,e=.UnaryOp .USub x p:=by
 cases e with
 |UnaryOp op y p=>cases op<;>first|exact⟨p,congrArg (λz=>Expr.UnaryOp .USub z p)<|aa h⟩|exact aR h
 |_=>exact aR h
theorem Qf(h:wc e=true):∃k p1 p,e=.UnaryOp .USub (.Constant (.int 1) k p1) p:=by
 refine dn ((E2 ..).mp h) λk b H=>av b λx d f=>by
  refine eS (Yh d) λp z=>?_;subst z;refine w5 (Gx f) λg p1 a=>?_;subst a;cases k with
  |int j=>exact y31 g p1 p (by rw[beq_iff_eq.mp H])
  |_=>exact ae H
theorem PD(h:vI e=some q):∃p,e=.Slice q.1 q.2.1 q.2.2 p:=by
 cases e with
 |Slice l u st p=>exact⟨p,by rw[<-aa h]⟩
 |_=>exact aR h
theorem Yk(h:zF op=true):op=.Mult:=by cases op<;>first|rfl|exact ae h
theorem fnE(h:TB k=true):k=.function:=by cases k<;>first|rfl|exact ae h
theorem DD(h:rP c s=true):nt c.ns s.names=true/\s.kind=.function:=cn h λa b=>⟨a,fnE b⟩
theorem Rr{r:ao->Mine.E}(h:∀e,qc Z n ns C M (r e) e){es:List ao}:qc Z n ns C M (ob<|gd (!es.isEmpty) (match op with|.And=>.and (es.map r)|.Or=>.or (es.map r))) (.BoolOp op es p):=
 iB λt b=>iZ b λN a=>by
  subst a;cases es with
  |nil=>exact ae N
  |cons x es=>
   have H:ot Z n ns C M ((x::es).map r) (x::es):=wz h;cases op with
   |And=>exact⟨OK H,Kv H⟩
   |Or=>exact⟨Un H,PC H⟩
theorem Wh{L:ao->Mine.E}(a:∀e,eK Z n ns C M (L e) e):qc Z n ns C M (match (gd (zF op) ()).bind λz=>r4 l with
  |some es=>ob<|(one es).bind λx=>gd (bD x)<|.rep m (L x)<|L r
  |none=>ob<|(opE op).map λo=>.bin o (L l)<|L r) (.BinOp l op r v):=by
 cases h:(gd (zF op) ()).bind λz=>r4 l with
 |some es=>exact pJ h λk s=>iB λt H=>av H λx g H=>iZ H λj d=>by subst d;refine eS (UN s) λp f=>?_;subst f;obtain rfl:=jq g id;obtain rfl:=Yk k;exact dR (Pt (a x) (a r) j) λz=>rfl
 |none=>exact iB λt H=>cR H λo O d=>by subst d;exact dR (Wi O (a l)<|a r) λz=>rfl
theorem Q9(f:∃o,Z.base sysModules=some o):qc Z n ns C M (Dm m s vs) (.Dict s vs O):=by
 unfold Dm;cases h:s.isEmpty&&vs.isEmpty with
 |true=>exact cn h λb d=>by obtain rfl:=bg.mp b;obtain rfl:=bg.mp d;exact dR (Hs f) λz=>rfl
 |false=>exact iB λt r=>cR r λp H e=>by subst e;exact av H λk b H=>av H λw d H=>av H λx g H=>av H λv j H=>cR H λy l e=>by subst e d;obtain rfl:=jq b id;obtain rfl:=jq j id;refine w5 (Sv g) λz z a=>?_;subst a;refine w5 (Sv l) λz z a=>?_;subst a;exact dR (Hr f) λz=>rfl
theorem Ui{r:ao->Mine.E}(h:∀e,eK Z n ns C M (r e) e):qc Z n ns C M (match vI s with
  |some q=>match q.1,q.2.1,q.2.2 with
   |none,none,some e=>ob<|gd (wc e)<|.vJ<|r v
   |none,some u,none=>.i5 (r v)<|r u
   |some l,none,none=>.i6 (r v)<|r l
   |_,_,_=>.bad
  |none=>.sub (r v)<|r s) (.Subscript v s O):=by
 cases hs:vI s with
 |none=>exact dR (Pq (h v) (h s) (by unfold rW;rw[hs];rfl)) λz=>rfl
 |some q=>
  refine eS (PD hs) λp d=>?_;subst d;obtain⟨l,u,a⟩:=q;cases l with
  |none=>
   cases u with
   |none=>
    cases a with
    |none=>exact jo
    |some e=>exact iB λt H=>iZ H λm g=>by subst g;refine Sn (Qf m) λk p1 j f=>?_;subst f;exact dR (Hp<|h v) λz=>rfl
   |some u=>
    cases a with
    |none=>exact dR (Ke (h v)<|h u) λz=>rfl
    |some _=>exact jo
  |some l=>
   cases u with
   |none=>
    cases a with
    |none=>exact dR (Du (h v)<|h l) λz=>rfl
    |some _=>exact jo
   |some _=>exact jo
theorem Wa{a:ao->Mine.E}(h:∀e,eK Z n ns C M (a e) e):qc Z n ns C M (match xo p with
  |none=>ob<|(one p).bind λo=>(one j).bind λr=>gd (eJ r)<|.cmp (IF o) (a l)<|a r
  |some o=>ob<|(xo j).bind λr=>gd (eJ r.2)<|.Ae (IF o.1) (IF o.2) (a l) (a r.1)<|a r.2) (.Compare l p j O):=by
 cases h2:xo p with
 |none=>exact iB λt H=>av H λo v H=>av H λr f H=>iZ H λs d=>by subst d;obtain rfl:=jq v id;obtain rfl:=jq f id;exact⟨Py (h l) (h r) s,Kt (h l) (h r) s⟩
 |some o=>exact iB λt H=>av H λr f H=>iZ H λs d=>by subst d;obtain rfl:=y4 h2 id;obtain rfl:=y4 f id;exact⟨Ki (h l) (h r.1) (h r.2) s,HD (h l) (h r.1) (h r.2) s⟩
theorem Rm(B:sP Z K M n C)(H:qQ Z M n C i)(T:iw Z c){args:List ao}{k:List Keyword}{p:Pos}:qc Z n c.ns C M (ob ((gd (k.isEmpty&&args.all bD) ()).bind λz=>match yB f with
   |some q=>(gd (!ip q.1&&decide (c.at_ q.2.1<gT)&&q.2.2.endLine==p.line&&decide (args.length<30)) ()).bind λz=>match c.at_ q.2.1==uW with
    |true=>(one args).map λe=>.bj (fB i c false q.1) (c.at_ q.2.1) [nP c (fB i c true e) e]
    |false=>some<|.bj (fB i c false q.1) (c.at_ q.2.1)<|args.map<|fB i c<|c.at_ q.2.1==ma
   |none=>match b5 c f with
    |some b=>some<|trB i c b args
    |none=>some<|.call (fB i c false f)<|args.map<|fB i c false)) (.Call f args k p):=
 iB λt l=>pJ l λy h=>cn y λJ s=>by
  obtain rfl:=bg.mp J;refine dR ?_ λz=>rfl;have lst:∀{m:Bool},oX Z n c.ns C M (args.map<|fB i c m) args:=rJ (λe=>gs H T) s;cases hq:yB f with
  |some q=>
   rw[hq] at h;obtain rfl:=Wp hq;exact pJ h λD w=>cn D λD v=>cn D λD r=>cn D λj d=>by
    have j:=rB j;have d:=eW d;cases ha:c.at_ q.2.1==uW with
    |true=>rw[ha] at w;exact cR w λe G x=>by subst x;obtain rfl:=jq G id;exact A6 B.O B.N B.hC (gs H T) (jU (cn s λa z=>a) (sW rfl<|gs H T) mF) s (eW v) d (T.at_ _ d) j r
    |false=>rw[ha] at w;obtain rfl:=aa w;exact A6 B.O B.N B.hC (gs H T) lst s (eW v) d (T.at_ _ d) j r
  |none=>
   rw[hq] at h;cases hb:b5 c f with
   |some b=>rw[hb] at h;obtain rfl:=aa h;exact H.b c b args f p T hb s
   |none=>rw[hb] at h;obtain rfl:=aa h;exact Kj B.hC (gs H T) lst s<|DS hq
theorem Ei{g:Comprehension}(h:(g.is_async==0)=true):g=⟨g.target,g.iter,g.ifs,0⟩:=by obtain⟨a,b,d,k⟩:=g;rw[show k=0 from beq_iff_eq.mp h]
theorem zN{g:Comprehension}(h:(g.is_async==0)=true)(H:g.ifs.isEmpty=true):g=⟨g.target,g.iter,[],0⟩:=by have:=Ei h;rwa[bg.mp H] at this
theorem Qt(H:qQ Z M n C i)(T:iw Z c):qc Z n c.ns C M (ob ((gd (rP c s) ()).bind λz=>match xo G with
   |none=>(one G).bind λg=>(gd (g.is_async==0) ()).bind λz=>(vw (eB c s) g.target).bind λN=>(Dl i c g.iter).map λp=>
     .comp (m&&(r4 l).isSome) (iN c s) (fB i (eB c s) (m&&(r4 l).isSome) l) N p.1 p.2 (g.ifs.map<|fB i (eB c s) false)
   |some g=>(gd (g.1.is_async==0&&g.2.is_async==0&&g.1.ifs.isEmpty&&g.2.ifs.isEmpty&&eJ g.2.iter) ()).bind λz=>
     (vw (eB c s) g.1.target).bind λN=>(vw (eB c s) g.2.target).bind λd=>(Dl i c g.1.iter).map λp=>
     .Cd (iN c s) (fB i (eB c s) false l) N p.1 p.2 d (fB i (eB c s) false g.2.iter))) (.ListComp l G s pos):=
 iB λt h=>pJ h λB h=>by
  refine i9 (DD B) λQ U=>?_;have f:=T.eB s.names;cases hg:xo G with
  |none=>rw[hg] at h;exact av h λg V h=>pJ h λY h=>av h λN w h=>cR h λp x r=>by subst r;obtain rfl:=jq V id;refine i9 (H.it c _ p T x) λy A=>?_;rw[Ei Y];exact dR (A8 y (pq w) (wz λe=>H.e (eB c s) false e f) (gs H f) Q U A rfl) λz=>rfl
  |some g=>rw[hg] at h;exact pJ h λa h=>av h λN w h=>av h λd x h=>cR h λp h7 r=>cn a λa h8=>cn a λa h9=>cn a λa j=>cn a λk v=>by subst r;obtain rfl:=y4 hg id;refine i9 (H.it c _ p T h7) λy A=>?_;rw[zN k j,zN v h9];exact dR (Hu y (pq w) (pq x) (vF<|gs H f) (gs H f) Q U A h8 rfl) λz=>rfl
theorem Na(B:sP Z K M n C)(H:qQ Z M n C i)(T:iw Z c):qc Z n c.ns C M (ob<|(gd (rP c s) ()).bind λz=>(one e).bind λg=>(gd (g.is_async==0&&g.ifs.isEmpty&&eJ g.iter) ()).bind λz=>
    (vw (eB c s) g.target).map λj=>.yu (iN c s) (fB i (eB c s) false k) (fB i (eB c s) false v) j<|nP c (fB i c false g.iter) g.iter) (.DictComp k v e s G):=
 iB λt h=>pJ h λO h=>av h λg p h=>pJ h λf h=>cR h λj w r=>cn f λf x=>cn f λy a=>by subst r;refine i9 (DD O) λl m=>?_;have N:=T.eB s.names;obtain rfl:=jq p id;rw[zN y a];exact dR (Ht B.hm (FJ H T) (pq w) (gs H N) (gs H N) l m x rfl) λz=>rfl
theorem T7(B:sP Z K M n C)(H:qQ Z M n C i)(T:iw Z c):qc Z n c.ns C M (fB (i+1) c m e) e:=by
 have g:∀{m:Bool} e,eK Z n c.ns C M (fB i c m e) e:=λe=>gs H T;have d:=λ{m e}=>(H.e c m e T).2;have lst:∀{m:Bool}{es:List Expr},es.all bD=true->oX Z n c.ns C M (es.map<|fB i c m) es:=λhs=>rJ g hs;cases e with
 |BoolOp op es pos=>exact Rr λe=>H.e c false e T
 |BinOp l op r pos=>exact Wh g
 |UnaryOp op x pos=>
  cases op with
  |Not=>exact⟨Pu<|g x,Kr d⟩
  |USub=>exact dR (Fq<|g x) λz=>rfl
  |_=>exact jo
 |IfExp t b o pos=>exact⟨Pw d (g b)<|g o,Ks d d d⟩
 |Dict D vs pos=>exact Q9 B.hm
 |ListComp L s scope pos=>exact Qt H T
 |DictComp k v s scope pos=>exact Na B H T
 |Compare l O G pos=>exact Wa g
 |Call f args y pos=>exact Rm B H T
 |Constant k A pos=>
  cases k with
  |none=>exact dR Kf λz=>rfl
  |bool b=>exact dR Kk λz=>rfl
  |int j=>exact dR Fs λz=>rfl
  |str x=>exact dR Pr λz=>rfl
  |_=>exact jo
 |Attribute o a pos=>exact iB λt p=>iZ p λw h=>cn w λh1 h2=>by subst h;exact dR (Km B.O (g o) (eW h2) (T.at_ _<|eW h2)<|rB h1) λz=>rfl
 |Subscript v I pos=>exact Ui g
 |Name x pos=>exact dR (Kg T rfl) λz=>rfl
 |List es pos=>exact iB λt p=>iZ p λhs h=>by subst h;exact dR (Kh<|lst hs) λz=>rfl
 |Tuple es k pos=>exact iB λt p=>iZ p λhs h=>by subst h;exact dR (Po<|lst hs) λz=>rfl
 |_=>exact jo
theorem Fi(B:sP Z K M n C)(i:Nat):qQ Z M n C i:=by
 induction i with
 |zero=>exact⟨λc m e T=>jo,λc b a f s T z z=>Ft,λc it p T h=>aR h⟩
 |succ i I=>exact⟨λc m e T=>T7 B I T,λc b a f s T H d=>T8 B I T H d,λc it p T h=>Pa B I T h⟩
end
section
variable{Z:dg}{C:bH}{M:bQ}{K:Frag}{n:Nat}{ns:bL}{c:TC}{σ bk:ba}{env:Env}{i:Nat}{fe:Env->Prop}
theorem O9(h:∀e t,k e=some t->xI Z n ns C M t e):∀{es:List ao}{ts:List T},LG k es=some ts->es.all bD=true->ts.length=es.length/\wX Z n ns C M ts es:=λ{es}=>by
 induction es with
 |nil=>intro is H _;obtain rfl:=aa H;exact⟨rfl,sX⟩
 |cons e es I=>exact λH s=>av H λj b H=>cR H λJ d r=>cn s λf g=>r▸(I d g).elim λa A=>⟨congrArg je a,m3 f (h _ _ b) A⟩
theorem rH(h:TX i c (.Name x s)=some t):∃j k,t=.nm j/\eu x c.ns 0=some (j,k)/\(k=.local\/k=.cell):=by
 cases i with
 |zero=>exact aR h
 |succ i=>exact av h λp H h=>iZ h λa r=>⟨p.1,p.2,r.symm,H,za a⟩
theorem TU(B:sP Z K M n C){i:Nat}:∀{e:ao}{t:T},iw Z c->TX i c e=some t->xI Z n c.ns C M t e:=by
 induction i with
 |zero=>exact λz h=>aR h
 |succ i I=>
  intro e t T h;have b:∀{m:Bool}{e:Expr},eK Z n c.ns C M (fB i c m e) e:=((Fi B i).e c _ _ T).1;cases e with
  |Name x p=>refine iz (rH h) λj k d h1 h2=>?_;subst d;exact pk h1 h2
  |Attribute o a p=>exact iZ h λH r=>by subst r;exact PB B.O b<|T.at_ _<|eW H
  |Subscript o s p=>exact iZ h λH r=>by subst r;exact PA b b
  |Tuple es k p=>exact pJ h λhs h=>cR h λts h1 r=>by subst r;refine i9 (O9 (λe t=>I T) h1 hs) λA f=>zc hs A f
  |_=>exact aR h
theorem vE:lE Z n ns C M fe .bad s:=λσ bk fl e=>aR e
theorem A9:lE Z n ns C M fe (.asg t .bad) s:=λσ bk fl e=>aR e
theorem qK(h:jQ e=true):∃x p,e=.Name x p:=by cases e<;>first|exact⟨_,_,rfl⟩|exact ae h
theorem U1(h:SS e=true):∃l g scope pos,e=.ListComp l [g] scope pos:=by
 cases e with
 |ListComp l s scope pos=>
  cases s with
  |nil=>exact ae h
  |cons g s=>
   cases s with
   |nil=>exact y41 l g scope pos rfl
   |cons _ _=>exact ae h
 |_=>exact ae h
theorem Ru(B:sP Z K M n C)(T:iw Z c)(a:TX i c (.Name x f)=some tt):lE Z n c.ns C M fe (.asg tt<|fB i c true<|.ListComp l [g] s O) (.Assign [.Name x f] (.ListComp l [g] s O) b):=by
 cases i with
 |zero=>exact aR a
 |succ i=>
  have H:=Fi B i;refine iz (rH a) λj k z v w=>?_;subst z;have y:∀r,ob r=fB (i+1) c true (.ListComp l [g] s O)->(∀t,r=some t->lE Z n c.ns C M fe (.asg (.nm j) t) (.Assign [.Name x f] (.ListComp l [g] s O) b))->lE Z n c.ns C M fe (.asg (.nm j)<|fB (i+1) c true<|.ListComp l [g] s O) (.Assign [.Name x f] (.ListComp l [g] s O) b):=λr hr h=>by
   rw[<-hr];cases r with
   |none=>exact A9
   |some t=>exact h t rfl
  exact y _ rfl λt a=>pJ a λd a=>av a λg' hg a=>pJ a λQ a=>av a λtn U a=>cR a λp V D=>by subst D;obtain rfl:=aa hg;refine i9 (DD d) λI J=>?_;have m:=T.eB s.names;refine i9 (H.it c _ p T V) λY hs=>?_;rw[Ei Q];exact Hz Y (pq U) (wz λe=>H.e (eB c s) false e m) (gs H m) I J hs rfl v w
theorem Hg{i:Nat}(H:TX i c (.Tuple [.Name x G,.Name y Y] k p)=some D):∃j a J b,D=.tp [.nm j,.nm J]/\eu x c.ns 0=some (j,a)/\(a=.local\/a=.cell)/\eu y c.ns 0=some (J,b)/\(b=.local\/b=.cell):=by
 cases i with
 |zero=>exact aR H
 |succ i=>exact cR H λU h m=>av h λI Q h=>cR h λv h r=>av h λL s h=>cR h λw h d=>by obtain rfl:=aa h;subst m r d;refine iz (rH Q) λj a z A f=>?_;subst z;refine iz (rH s) λJ b z B g=>?_;subst z;exact y45 j a J b rfl A f B g
theorem Wq(B:sP Z K M n C)(T:iw Z c)(H:NB t e=true)(hs:bD t=true)(j:TX i c t=some tt):lE Z n c.ns C M fe (.asg tt<|fB i c true e) (.Assign [t] e pos):=by
 have D:=TU B T j;have r:∀{m:Bool}{e:Expr},eK Z n c.ns C M (fB i c m e) e:=((Fi B i).e c _ _ T).1;unfold NB at H;cases Q:(y5 t).bind λs=>(y5 e).map λv=>(s,v) with
 |some q=>
  rw[Q] at H;exact av Q λs h2 Q=>cR Q λv h3 w=>cn H λG h=>by
   have G:mz v=true:=by rw[<-w] at G;exact G
   have h:((s.any λe=>!jQ e)||s.length==2)=true:=by rw[<-w] at h;exact h
   refine w5 (J1 h2) λk p z=>?_;subst z;refine w5 (J1 h3) λk' p' z=>?_;subst z;cases hn:s.any λe=>!jQ e with
   |true=>exact Hy D r G hn
   |false=>
    rw[hn] at h;refine w5 (SN<|beq_iff_eq.mp h) λa b z=>?_;subst z
    ·have N:=JC.mp hn;have I:∀e∈[a,b],jQ e=true:=λe he=>by
      cases q:jQ e with
      |true=>rfl
      |false=>exact absurd (by rw[q];rfl)<|N e he
     refine w5 (qK<|I a (aw ..)) λx px z=>?_;subst z;refine w5 (qK<|I b<|ay _ (aw ..)) λy py z=>?_;subst z;refine x45 (Hg j) λj1 k1 j2 k2 d J L b1 b2=>?_;subst d;exact HA J L b1 b2 r G
 |none=>
  rw[Q] at H;exact cn H λhw U=>by
   cases hu0:vX t e with
   |true=>exact Ba D r hu0 (λenv V=>Dr hw) hs
   |false=>
    rw[hu0] at U;have f:jQ t=true:=by
     cases q:jQ t with
     |true=>rfl
     |false=>unfold vX at hu0;rw[q,Bool.not_false,Bool.or_true] at hu0;exact ae hu0
    refine w5 (qK f) λx xp z=>?_;subst z;refine x41 (U1 U) λelt g O l d=>?_;subst d;exact Ru B T j
theorem pl(h:∀s,lE Z n ns C M fe (t s) s){a:List Stmt}:qq Z n ns C M fe (a.map t) a:=by
 induction a with
 |nil=>exact x5
 |cons s a I=>exact vD (h s)<|I
theorem pn(h:∀t,x=some t->lE Z n ns C M fe t s):lE Z n ns C M fe (UG x) s:=by
 cases x with
 |none=>exact vE
 |some t=>exact h t rfl
theorem TZ(B:sP Z K M n C)(T:iw Z c){i:Nat}:∀{s:Stmt},lE Z n c.ns C M fe (W3 i c s) s:=by
 induction i with
 |zero=>exact vE
 |succ i I=>
  intro s;have H:=Fi B i;have g:∀{m:Bool}{e:Expr},eK Z n c.ns C M (fB i c m e) e:=(H.e c _ _ T).1;have d:∀{m:Bool}{e:Expr},lW Z n c.ns C M (fB i c m e) e:=(H.e c _ _ T).2;cases s with
  |Expr e p=>exact pn λt h=>iZ h λf r=>by subst r;exact Hw g f
  |Assign ts v p=>exact pn λt h=>av h λx h1 h=>pJ h λf h=>cR h λk h2 r=>cn f λa b=>by subst r;obtain rfl:=jq h1 id;exact Wq B T a b h2
  |If t a b p=>exact Ko d (pl λs=>I)<|pl λs=>I
  |For t it body l p=>exact pn λu h=>pJ h λO h=>av h λN h1 h=>cR h λp h2 r=>by subst r;obtain rfl:=bg.mp O;refine i9 (H.it c _ p T h2) λj hs=>Kp j (pq h1) (pl λs=>I) hs
  |While t body l p=>exact pn λu h=>iZ h λO r=>by subst r;obtain rfl:=bg.mp O;exact Dy d<|pl λs=>I
  |Return v p=>exact pn λu h=>cR h λe h1 r=>by subst r h1;exact Kn g
  |_=>exact vE
theorem XF(h:zI k=true):k=.cell\/k=.free:=by cases k<;>first|exact .inl rfl|exact .inr rfl|exact ae h
theorem AS(B:sP Z K M n C)(T:iw Z c)(N:∀name params body scope pos x,s=.FunctionDef name params body [] none [] scope none name pos->m9 scope.names=some x->qR Z mg (c.nst name) fe name params body scope pos x):lE Z n c.ns C M fe (Ss c s) s:=by
 cases s with
 |FunctionDef name params body d ret m scope t bind pos=>exact pn λu h=>pJ h λH h=>av h λp h1 h=>av h λx h2 h=>av h λq h3 h=>iZ h λk r=>cn H λH g=>cn H λH f=>cn H λH e=>cn H λa b=>cn k λj l=>by subst r;obtain rfl:=bg.mp a;obtain rfl:=bB.mp b;obtain rfl:=bg.mp e;obtain rfl:=bB.mp f;obtain rfl:=mD g;exact Hx (N _ _ _ _ _ _ rfl h2) h1 (za j) h3 (XF l) h2
 |_=>exact TZ B T
end
structure yF(p:el):Prop where
 pos:p.posonlyargs=[]
 kwo:p.kwonlyargs=[]
 va:p.vararg=none
 kwa:p.kwarg=none
theorem uk{a:List Str}:∀{vs:List Value},x∉a.take vs.length->(a.zip vs).lookup x=none:=by
 induction a with
 |nil=>intro vs h;rfl
 |cons p a i=>
  intro vs h;cases vs with
  |nil=>rfl
  |cons v vs=>simp only[cI,qY,aQ,not_or] at h;rw[jg,bY,beq_eq_false_iff_ne.mpr h.1];exact i h.2
theorem nJ{a:List Str}:∀{vs:List Value},x∈a.take vs.length->((a.zip vs).lookup x).isSome=true:=by
 induction a with
 |nil=>intro vs h;simp at h
 |cons p a I=>
  intro vs h;cases vs with
  |nil=>simp at h
  |cons v vs=>
   simp only[cI,qY,aQ] at h;rw[jg,bY];by_cases H:x=p
   ·subst H;simp
   ·rw[beq_eq_false_iff_ne.mpr H];exact I<|h.resolve_left H
theorem OY(n:Nat)(l:List a)(r:List b):(l.zip r).drop n=(l.drop n).zip (r.drop n):=List.drop_zipWith
theorem Fc(n:Nat)(l:List a)(r:List b):(l.zip r).take n=(l.take n).zip (r.take n):=List.take_zipWith
theorem TH(l:List a)(r:List b):l.zip r=(l.take r.length).zip r:=by
 conv=>lhs;rw[<-c9 (l:=l.zip r) (i:=r.length) (by rw[Oz];omega)]
 rw[Fc,c9<|aF _]
theorem MK{b c:Type}{f g:b->Option c}{l:List b}:(∀x∈l,f x=g x)->l.filterMap f=l.filterMap g:=by
 induction l with
 |nil=>intro _;exact rfl
 |cons a l i=>intro h;rw[eH,eH,h a (by simp),i λx H=>h x<|by simp[H]]
theorem xt{a:List Str}(b:a.Nodup):∀{vs:List Value},a.length=vs.length->(a.filterMap λn=>((a.zip vs).lookup n).map (n,·))=a.zip vs:=by
 induction a with
 |nil=>intro vs h;rfl
 |cons p a i=>
  intro vs h;cases vs with
  |nil=>simp at h
  |cons v vs=>
   have H:=d7.mp b;rw[eH];have:(((p::a).zip<|v::vs).lookup p).map (p,·)=some (p,v):=by rw[jg,bY];simp
   rw[this];dsimp only;rw[jg];congr 1;rw[MK λx c=>?_]
   ·exact i H.2 (by simpa using h)
   ·have N:x≠p:=λe=>H.1<|e▸c;rw[bY,beq_eq_false_iff_ne.mpr N]
section
variable{M:Model}{A:bq}{E:Value->Shared->Prop}{s:Shared}
theorem MR(f:Str×Value->List (Str×Value)->xM (ForInStep<|List<|Str×Value))
  (b:∀n d r,f (n,d) r=if(r.lookup n).isNone=true then pure (.yield<|r++[(n,d)]) else pure (.yield r)):
  ∀(l2 r:List (Str×Value)),(∀p∈l2,(r.lookup p.1)=none)->(l2.map (·.1)).Nodup->Q (r++l2) s->au M A (forIn l2 r f) Q E s:=λl2=>by
 induction l2 with
 |nil=>intro r _ _ h;rw[a9] at h;exact ab h
 |cons p l2 i=>intro r h2 c h;obtain⟨n,d⟩:=p;have H:=d7.mp c;have e:=(b n d r).trans (if_pos (by rw[h2 (n,d) (aw ..)];rfl));rw[cb,e];refine aU (ab<|i _ (λp a=>?_) H.2 (by rw[aM];exact h));rw[I4,h2 p<|ay _ a,Option.none_or,bY,beq_eq_false_iff_ne.mpr (λe:p.1=n=>H.1<|bw.mpr ⟨p,a,e⟩)];rfl
theorem Iq(f:Str×Value->List (Str×Value)->xM (ForInStep<|List<|Str×Value))
  (H:∀n d r,f (n,d) r=if(r.lookup n).isNone=true then pure (.yield<|r++[(n,d)]) else pure (.yield r)) (h2:∀p∈l2,(r.lookup p.1)=none) (a:(l2.map (·.1)).Nodup) (h:Q (r++l2) s):
  ∀{l1:List (Str×Value)},(∀p∈l1,(r.lookup p.1).isSome=true)->au M A (forIn (l1++l2) r f) Q E s:=λ{l1}=>by
 induction l1 with
 |nil=>intro _;exact MR f H l2 r h2 a h
 |cons p l1 I=>intro h1;obtain⟨n,d⟩:=p;have e:=(H n d r).trans (if_neg λe=>by have:=h1 (n,d) (aw ..);rw[bB.mp e] at this;exact ae this);rw[List.cons_append,cb,e];exact aU<|ab<|I λp b=>h1 p<|ay _ b
def Cv(h:Heap)(d:Value)(D:List Value):Prop:=(d=.none/\D=[])\/∃T o n v,d=.ref T/\h.get? T=some o/\o.data=.seq v n/\D=v.toList
theorem wpN(H:c=false)(h:au M A b Q E s):au M A (if c=true then a else b) Q E s:=by subst H;exact h
theorem B7{p:List Str}{d:List Value}(h:d.length<=p.length):d.drop (d.length-p.length)=d:=by rw[Nat.sub_eq_zero_of_le h];rfl
theorem M8{p:List Str}{v d:List Value}(H:p.length<=v.length+d.length)(a:d.length<=p.length):(!((p.take<|p.length-(d.drop<|d.length-p.length).length).filter λn=>((p.zip v).lookup n).isNone).isEmpty)=false:=by
 have h:((p.take<|p.length-d.length).filter λn=>((p.zip v).lookup n).isNone)=[]:=by rw[List.filter_eq_nil_iff];intro x b e;have:=nJ<|List.take_subset_take_left p (G7 H) b;rw[bB.mp e] at this;exact ae this
 rw[B7 a,h];rfl
theorem IA{p:List Str}{v d:List Value}(H:p.length<=v.length+d.length)(h:d.length<=p.length):(p.drop<|p.length-(d.drop<|d.length-p.length).length).zip (d.drop<|d.length-p.length)=((p.drop<|p.length-d.length).zip d).take (v.length+d.length-p.length)++(p.drop v.length).zip (d.drop<|v.length+d.length-p.length):=by
 rw[B7 h]
 conv=>lhs;rw[<-cV (v.length+d.length-p.length)<|(p.drop<|p.length-d.length).zip d]
 congr 1;rw[OY,Sa];congr 2;exact Z7 H h
theorem M7{a:List Str}{v d:List Value}(b:v.length<=a.length)(c:a.length<=v.length+d.length)(e:d.length<=a.length)(p:Str×Value)(H:p∈((a.drop<|a.length-d.length).zip d).take (v.length+d.length-a.length)):((a.zip v).lookup p.1).isSome=true:=by
 have h:p.1∈((a.drop<|a.length-d.length).take<|v.length+d.length-a.length):=by rw[Fc] at H;exact(Ox H).1
 refine nJ ?_;rw[List.take_drop] at h;have:=List.mem_of_mem_drop h;rwa[show a.length-d.length+(v.length+d.length-a.length)=v.length from arB b c e] at this
theorem Rb{a:List Str}{v r:List Value}(n:a.Nodup)(p:Str×Value)(H:p∈(a.drop v.length).zip r):(a.zip v).lookup p.1=none:=by have h:=(Ox H).1;refine uk λm=>?_;rw[<-cV v.length a] at n;exact(cL.mp n).2.2 _ m _ h rfl
theorem IB{p:List Str}{v d:List Value}(h:p.Nodup)(H:v.length<=p.length)(a:p.length<=v.length+d.length)(b:d.length<=p.length):(((p.drop v.length).zip<|d.drop<|v.length+d.length-p.length).map (·.1)).Nodup:=by rw[nD (by rw[e8,e8];omega)];exact h.sublist<|List.drop_sublist _ _
theorem Rc{p:List Str}{v d:List Value}(H:p.Nodup)(h:v.length<=p.length)(b:p.length<=v.length+d.length)(c:d.length<=p.length):((p++[]).filterMap λn=>((p.zip v++(p.drop v.length).zip (d.drop<|v.length+d.length-p.length)).lookup n).map (n,·))=p.zip (v++d.drop (v.length+d.length-p.length)):=by
 have a:p.zip v++(p.drop v.length).zip (d.drop<|v.length+d.length-p.length)=p.zip (v++d.drop (v.length+d.length-p.length)):=by
  generalize d.drop (v.length+d.length-p.length)=rr
  conv=>rhs;rw[<-cV v.length p]
  rw[List.zip_append (by simp;exact ei h)];congr 1;exact TH p v
 rw[a,a9,xt H (by simp;omega)]
theorem QX{f:Str×Value->List (Str×Value)->xM (ForInStep<|List<|Str×Value)}
  (H:∀n d r,f (n,d) r=if(r.lookup n).isNone=true then pure (.yield<|r++[(n,d)]) else pure (.yield r)) {Q:List (Str×Value)->Shared->Prop} (e:l=l1++l2) (h2:∀p∈l2,(r.lookup p.1)=none) (a:(l2.map (·.1)).Nodup) (h1:∀p∈l1,(r.lookup p.1).isSome=true) (h:Q (r++l2) s):au M A (forIn l r f) Q E s:=by
 subst e;exact Iq f H h2 a h h1
theorem IC(H:Cv s.heap d D):∃o:Option (Array Value),D=(o.getD #[]).toList/\∀Q:Option (Array Value)->Shared->Prop,Q o s->au M A (seqItems? d) Q E s:=by
 rcases H with ⟨e,rfl⟩|⟨T,o,n,v,e,O,a,rfl⟩
 ·exact⟨none,rfl,λQ h=>by rw[e];exact ab h⟩
 ·exact⟨some v,rfl,λQ h=>by rw[e];exact eU O a h⟩
theorem IQ{f:FuncData}(P:yF f.params){v d:List Value}(D:Cv s.heap f.defaults d)(n:(f.params.args.map (·.arg)).Nodup)(c:v.length<=f.params.args.length)(H:f.params.args.length<=v.length+d.length)(b:d.length<=f.params.args.length)
  {Q:List (Str×Value)->Shared->Prop} (h:Q ((f.params.args.map (·.arg)).zip<|v++d.drop (v.length+d.length-f.params.args.length)) s):au M A (bindArgs f ⟨v,[]⟩) Q E s:=by
 refine dn (IC (M:=M) (A:=A) (E:=E) D) λo g e=>?_
 subst g
 clear D
 obtain⟨_,_,⟨O,a,V,w,_,k,_⟩,_,_,_,_,r,_,_,_,_⟩:=f
 have p1:=P.pos
 have p:V=none:=P.va
 have j:w=[]:=P.kwo
 have m:k=none:=P.kwa
 clear P
 subst p1 p j m
 have l:(a.map (·.arg)).length=a.length:=ag _
 have h:Q ((a.map (·.arg)).zip<|v++(o.getD #[]).toList.drop (v.length+(o.getD #[]).toList.length-(a.map (·.arg)).length)) s:=l.symm▸h
 have c:=l.symm▸c
 have H:=l.symm▸H
 have b:=l.symm▸b
 refine aU<|ab<|aU<|e _<|wpN ?_<|wpN (M8 H b)<|aU<|QX (λz z z=>rfl) (IA H b) (Rb n) (IB n c H b) (M7 c H b)<|aU<|ab<|sQ<|ab ?_
 ·show(decide (v.length>(a.map (·.arg)).length)&&true)=false;rw[kE,decide_eq_false<|sM.mpr c]
 ·exact Rc n c H b▸h
end
theorem US(cs:List Nat):∀(d:List NK)(vs:List SV)(st t:List SO),st.length=t.length->(cu d vs cs st).1=(cu d vs cs t).1/\∃m,(cu d vs cs st).2=st++m/\(cu d vs cs t).2=t++m:=λd=>by
 induction d with
 |nil=>exact λvs st t z=>⟨rfl,[],(a9 _).symm,(a9 _).symm⟩
 |cons k d I=>
  intro vs st t h;cases k with
  |loc=>obtain⟨a,r⟩:=I vs.tail st t h;exact⟨congrArg (SY vs::·) a,r⟩
  |W5 i=>obtain⟨a,r⟩:=I vs st t h;exact⟨congrArg (_::·) a,r⟩
  |p9=>obtain⟨a,m,b,c⟩:=I vs.tail (st++[.cell vs.head?]) (t++[.cell vs.head?]) (by rw[aj,aj,h]);exact⟨(congrArg (LV.cell st.length::·) a).trans<|congrArg (λn=>LV.cell n::(cu d vs.tail cs<|t++[.cell vs.head?]).1) h,.cell vs.head?::m,b.trans (aM ..),c.trans (aM ..)⟩
theorem LR(cs:List Nat):∀(d:List NK)(f:List SV)(st:List SO)(p:List LV),f.length<=d.length->(∀(i:Nat)(k:NK),i<f.length->d[i]? =some k->k=.loc\/k=.p9)->
  m5 (en p.length f.length) f ⟨p++(cu d [] cs st).1,(cu d [] cs st).2⟩=some ⟨p++(cu d f cs st).1,(cu d f cs st).2⟩:=λd=>by
 induction d with
 |nil=>
  intro f st p h _;cases f with
  |nil=>rfl
  |cons v V=>exact absurd h<|qw _
 |cons k d w=>
  intro f st p h r;cases f with
  |nil=>rfl
  |cons v V=>
   have n:=n8 h;have H:∀(i:Nat) j,i<V.length->d[i]? =some j->j=.loc\/j=.p9:=λi j y e=>r (i+1) j (u9 y) e;rw[cI,NV];have t:∀(x:LV) l,(p++x::l)[p.length]? =some x:=λx l=>by rw[az<|aF _,bt];rfl
   rcases r 0 k (n5 _) rfl with rfl|rfl
   ·have I:=w V st (p++[.val v]) n H;rw[aj,aM,aM] at I;refine fo.mpr ⟨_,?_,I⟩;show(p++LV.un::(cu d [] cs st).1)[p.length]?.bind _=_;rw[t];show some (ba.mk ((p++LV.un::(cu d [] cs st).1).set p.length<|.val v) _)=_;rw[ia _ _<|aF _,bt];rfl
   ·have I:=w V (st++[.cell<|some v]) (p++[.cell st.length]) n H;rw[aj,aM,aM] at I;obtain⟨a,m,b,c⟩:=US cs d [] (st++[.cell none]) (st++[.cell<|some v]) (by rw[aj,aj];rfl);refine fo.mpr ⟨_,?_,I⟩;show(p++LV.cell st.length::(cu d [] cs<|st++[.cell none]).1)[p.length]?.bind _=_;rw[t];show((cu d [] cs<|st++[.cell none]).2[st.length]?.bind m2).map (λz=>ba.mk (p++LV.cell st.length::(cu d [] cs<|st++[.cell none]).1)<|(cu d [] cs<|st++[.cell none]).2.set st.length<|.cell<|some v)=_;rw[b,c,a,aM,az<|aF _,bt,ia _ _<|aF _,bt,aM];rfl
theorem r5(fr:List Str)(p:Str×cj)(r:bL):e6 fr (p::r)=(match p.2 with|.cell=>.p9|.free=>.W5 ((fr.findIdx? λx=>hH x p.1).getD 0)|_=>.loc)::e6 fr r:=rfl
theorem UR:∀{names:bL}{i:Nat}{n:Str}{k:cj}{st:List SO},names[i]? =some (n,k)->k≠.cell->k≠.free->(cu (e6 fr names) [] cs st).1[i]? =some .un:=λ{names}=>by
 induction names with
 |nil=>intro i n k st h;exact aR h
 |cons p r ih=>
  obtain⟨m,k'⟩:=p;intro i n k st h h1 h2;cases i with
  |zero=>obtain rfl:k'=k:=congrArg qf<|aa h;cases k'<;>first|exact absurd rfl h1|exact absurd rfl h2|rfl
  |succ i=>cases k'<;>exact ih h h1 h2
theorem Qw{fr:List Str}:∀{a:bL}{i:Nat}{n:Str}{c:Nat}{st:List SO},a[i]? =some (n,.free)->cs[(fr.findIdx? λx=>hH x n).getD 0]? =some c->(cu (e6 fr a) [] cs st).1[i]? =some (.cell c):=λ{a}=>by
 induction a with
 |nil=>intro i n c st h;exact aR h
 |cons p r I=>
  obtain⟨m,d⟩:=p;intro i n c st h H;cases i with
  |zero=>refine i9 (fy<|aa h) λz b=>?_;subst z;subst b;show some (match cs[(fr.findIdx? λx=>hH x m).getD 0]? with|some k=>LV.cell k|none=>.un)=_;rw[H]
  |succ i=>cases d<;>exact I h H
section
variable{Z:dg}{st st':List SO}{g g' fx:FH}{ρ dp:dM}{s:Shared}{env:Env}{ns:bL}{σ:ba}{A:bq}{E:Value->Shared->Prop}{M:Model}
theorem vT{ns:bL}:∀{i j:Nat}{x:Str}{k:cj},(ns.map (·.1)).Nodup->ns[i]? =some (x,k)->eu x ns j=some (j+i,k):=by
 induction ns with
 |nil=>intro i j x k _ h;exact aR h
 |cons p r I=>
  obtain⟨n,a⟩:=p;intro i j x k H h;have H:=d7.mp H;unfold eu;cases i with
  |zero=>cases h;rw[mB.mpr rfl];rfl
  |succ i=>
   rw[List.getElem?_cons_succ] at h;have e:hH n x=false:=by
    cases q:hH n x with
    |false=>rfl
    |true=>exact(H.1<|bw.mpr ⟨_,aH h,(mD q).symm⟩).elim
   rw[e];show eu x r (j+1)=_;rw[I H.2 h,Nat.add_assoc,ug 1 i]
theorem SP{st:List SO}:cu (e6 fr<|(name,p7)::r) [] cs st=(.cell st.length::(cu (e6 fr r) [] cs<|st++[.cell none]).1,(cu (e6 fr r) [] cs<|st++[.cell none]).2):=by rw[r5];rfl
theorem Yv{st:List SO}(hk:k≠.cell):∃lv,cu (e6 fr<|(name,k)::r) [] cs st=(lv::(cu (e6 fr r) [] cs st).1,(cu (e6 fr r) [] cs st).2):=by rw[r5];cases k<;>first|exact absurd rfl hk|exact⟨_,rfl⟩
theorem Ic(fr:List Str)(cs:List Nat)(f:Str×cj->List (Str×Addr)->xM (ForInStep<|List<|Str×Addr))
  (B:∀name kind l,f (name,kind) l=if kind==.cell then(do let a<-PySem.alloc {cls:=.type "cell",data:=.cell none};pure (.yield<|(name,a)::l)) else pure (.yield l)):
  ∀{names:bL}{C:List (Str×Addr)}{st:List SO}{g:FH}{ρ:dM}{s:Shared},bR Z st g fx ρ s->(names.map (·.1)).Nodup->∀{Q:List (Str×Addr)->Shared->Prop},
   (∀(l:List (Str×Addr))(g':FH)(dp:dM)(s':Shared),dG g ρ g' dp->bR Z (cu (e6 fr names) [] cs st).2 g' fx dp s'->(∀b o,s.heap.get? b=some o->s'.heap.get? b=some o)->
    (∀(i:Nat)(n:Str),names[i]? =some (n,p7)->∃(c:Nat)(p:Addr×Addr),(cu (e6 fr names) [] cs st).1[i]? =some (LV.cell c)/\dp[c]? =some p/\l.lookup n=some p.1)->
    (∀n,(n,p7)∉names->l.lookup n=C.lookup n)->Q l s')->au M A (forIn names C f) Q E s:=λ{names}=>by
 induction names with
 |nil=>intro C st g ρ s S _ Q h;exact ab<|h C g ρ s (.refl _ _) S (λz z e=>e) (λi n e=>aR e) λz z=>rfl
 |cons D r I=>
  obtain⟨name,kind⟩:=D;intro C st g ρ s S H Q h;have H:=d7.mp H;rw[cb,B];by_cases t:kind=.cell
  ·subst t;have k:∀b o,s.heap.get? b=some o->(s.heap.push<|ZJ none).get? b=some o:=b8;refine sA (S.P9 s.toks k (bA _) (.cell none) λg' dp X=>⟨rfl,_,none,dH,rfl,rfl⟩) λG d x y=>aU<|JT<|aU<|lQ<|ab<|I d H.2 λl g' dp s' X v K w j=>h l g' dp s' (x.trans X) (by rw[SP];exact v) (λb o e=>K b o<|k b o e) (λi n e=>?_) λn m=>?_
   ·rw[SP];cases i with
    |zero=>obtain rfl:name=n:=(fy<|aa e).1;refine xW st.length ((s.heap.objs.size,s.heap.objs.size)) rfl (X.at<|by rw[<-S.len,List.getElem?_concat_length]) ?_;rw[j name λhm=>H.1<|bw.mpr ⟨_,hm,rfl⟩,bY,beq_self_eq_true]
    |succ i=>exact w i n e
   ·rw[j n λhm=>m<|ay _ hm,bY,beq_eq_false_iff_ne.mpr λe:n=name=>m (e▸aw ..)]
  ·refine eS (Yv (fr:=fr) (cs:=cs) (name:=name) (r:=r) (st:=st) t) λV L=>aU (sC (λe=>t<|eq_of_beq e)<|ab<|I S H.2 λl g' dp s' X v K w j=>h l g' dp s' X (by rw[L];exact v) K (λi n e=>?_) λn m=>j n λhm=>m<|ay _ hm);rw[L];cases i with
   |zero=>exact absurd (fy<|aa e).2 t
   |succ i=>exact w i n e
noncomputable def w0(ns:bL):List Nat->List Str->Prop
 |[],[]=>True
 |i::is,x::xs=>(∃k,eu x ns 0=some (i,k)/\(k=.local\/k=.cell))/\w0 ns is xs
 |_,_=>False
theorem IP(f:Str×Value->PUnit->xM (ForInStep PUnit))(y:∀n v u,f (n,v) u=(do storeName env n v;pure (.yield ⟨⟩)))(V:dA ns env):
    ∀{is:List Nat}{xs:List Str}{as:List SV}{vals:List Value}{σ bk:ba}{g fx:FH}{s:Shared},w0 ns is xs->m5 is as σ=some bk->c7 Z ns env σ g fx ρ s->dD Z g ρ as vals->
      ∀{Q:PUnit->Shared->Prop},(∀g' c s',dG g ρ g' ρ->(∀b,b≠env.locals->c b=fx b)->c7 Z ns env bk g' c ρ s'->Q ⟨⟩ s')->au (Mo Z) A (forIn (xs.zip vals) ⟨⟩ f) Q E s:=λ{is}=>by
  induction is with
  |nil=>
   intro xs as vals σ bk g fx s H e G r Q h;cases xs with
   |cons=>exact H.elim
   |nil=>
    cases as with
    |nil=>obtain rfl:=aa e;exact ab<|h g fx s (.refl _ _) (λz z=>rfl) G
    |cons=>exact aR e
  |cons i is I=>
   intro xs as vals σ bk g fx s H e G r Q h;cases xs with
   |nil=>exact H.elim
   |cons x xs=>
    obtain⟨⟨k,C,B⟩,D⟩:=H;cases as with
    |nil=>exact aR e
    |cons a as=>refine iz r λv vs l J L=>?_;subst l;refine dn (fo.mp e) λaC w e2=>?_;rw[jg,cb,y];refine aU<|aU<|jR C B w V G J λm o p d j=>ab ?_;refine I D e2 j (L.mono d) λg' c s' X F t=>h g' c s' (d.trans X) (λb hb=>(F b hb).trans<|cm hb) t
theorem Cm(n:(ns.map (·.1)).Nodup):∀{b:Nat},b+m<=ns.length->(∀(i:Nat)(p:Str×cj),i<b+m->ns[i]? =some p->p.2=.local\/p.2=.cell)->w0 ns (en b m) (((ns.drop b).take m).map (·.1)):=by
 induction m with
 |zero=>intro b _ _;exact trivial
 |succ m d=>intro b h a;have H:b<ns.length:=n7 h;rw[NV,dN H,qY,cA];have G:=ax H;refine⟨⟨ns[b].2,?_,a b _ (aaq) G⟩,d (by omega) λi p I=>a i p<|aap I⟩;have:=vT (j:=0) n (x:=ns[b].1) (k:=ns[b].2) G;simpa using this
end
structure GK(scope:Scope):Prop where
 kind:scope.kind=.function
 gen:scope.isGenerator=false
 cor:scope.isCoroutine=false
 nodup:(scope.names.map (·.1)).Nodup
 nf:∀p∈scope.names,(p.1==("__debug__":Str))=false/\(p.1==("__classdict__":Str))=false
section
variable{Z:dg}{C:bH}{M:bQ}{st st':List SO}{g g' fx:FH}{ρ dp:dM}{s:Shared}{A:bq}{E:Value->Shared->Prop}{n:Nat}
theorem HY{scope:Scope}(O:GK scope)(S:bR Z st g fx ρ s){cl:List (Str×Addr)}{cs:List Nat}{fr:List Str}
  (hcl:∀(i:Nat)(x:Str),scope.names[i]? =some (x,cK)->∃(c:Nat)(p:Addr×Addr),cs[(fr.findIdx? λy=>hH y x).getD 0]? =some c/\ρ[c]? =some p/\cl.lookup x=some p.1)
  {as:List SV} {vals:List Value} (hlen:as.length<=scope.names.length) (hk:∀(i:Nat)(p:Str×cj),i<as.length->scope.names[i]? =some p->p.2=.local\/p.2=.cell) (r:dD Z g ρ as vals) {qual:Str} {a:Addr} {code:Value}
  {Q:Env->Shared->Prop}
  (h:∀(env:Env)(g' fx':FH)(dp:dM)(s':Shared),env.code=code->env.qual=qual->fx env.locals=none->dG g ρ g' dp->(∀b,b≠env.locals->fx' b=fx b)->dA scope.names env->
   c7 Z scope.names env ⟨(cu (e6 fr scope.names) as cs st).1,(cu (e6 fr scope.names) as cs st).2⟩ g' fx' dp s'->Q env s'):
  au (Mo Z) A (newFunctionEnv scope cg cl (((scope.names.take as.length).map (·.1)).zip vals) qual (some a) code none fY) Q E s:=by
 simp only[newFunctionEnv,qW,dc,if_false]
 refine aU<|lQ ?_
 refine dn (kB<|Heap.Ns.new s.heap<|.type "frame") λoL hoL hNs=>?_
 have hoL':oL={cls:=.type "frame",data:=.dict #[]}:=by rw[dH] at hoL;exact(aa hoL).symm
 have hfx:=(S.fresh<|bA s.heap).2.1
 have ac7:=S.Em s.toks (b8) s.heap.objs.size {cls:=.type "frame",data:=.dict #[]} (bA _) dH
 have lO:dG g ρ (dO Z g s.heap (s.heap.push {cls:=.type "frame",data:=.dict #[]}) λb=>b==s.heap.objs.size) ρ:=aX
 refine aU<|Ic fr cs _ (λname kind cells=>by cases hkc:kind==p7<;>simp[hkc]) ac7 O.nodup λcells i0 iP iA sE Oa af4 c1 c2=>?_
 have V:dA scope.names {scope,locals:=s.heap.objs.size,globals:=cg,cells,qual,func:=some a,code,frame:=some s.heap.objs.size,builtins:=fY}:=
  ⟨O.kind,λz h=>h,λz h=>h,λz h=>.inr h,λz h=>h,rfl,rfl,O.nodup,O.nf⟩
 have u1:c7 Z scope.names {scope,locals:=s.heap.objs.size,globals:=cg,cells,qual,func:=some a,code,frame:=some s.heap.objs.size,builtins:=fY} ⟨(cu (e6 fr scope.names) [] cs st).1,(cu (e6 fr scope.names) [] cs st).2⟩ i0 (g0 fx s.heap.objs.size {cls:=.type "frame",data:=.dict #[]}) iP iA:=by
  refine⟨Oa,⟨_,_,cO,hoL'▸hNs,?_,?_⟩⟩
  ·intro i x hi;exact⟨.un,UR hi (by simp) (by simp),.inl rfl⟩
  ·intro i x k hi hk';rcases hk' with rfl|rfl
   ·exact c1 i x hi
   ·refine iz (hcl i x hi) λc p a1 a2 a3=>xW c p (Qw hi a1) ((lO.trans sE).at a2) ?_;rw[c2 x λhm=>?_,a3];refine eS (gk hm) λj hj=>?_;have h1:=vT (j:=0) O.nodup hi;have h2:=vT (j:=0) O.nodup hj;rw[h1] at h2;simp at h2
 have hfill:=LR cs (e6 fr scope.names) as st [] (by unfold e6;simpa using hlen) λi k hi e=>by unfold e6 at e;rw[ai,be] at e;refine dn e λp hp zz2=>?_;subst zz2;rcases hk i p hi hp with e|e<;>rw[e]<;>simp
 simp only[List.length_nil,d8] at hfill
 have hnames:=Cm O.nodup (aa6 hlen) λi p hi=>hk i p<|aa5 hi
 rw[iF] at hnames
 refine aU<|IP _ (λz z z=>rfl) V hnames hfill u1 (r.mono<|lO.trans sE) λlg EY rm rp CF Tu=>ab ?_
 exact h _ lg EY iP rm rfl rfl hfx ((lO.trans sE).trans rp) (λb hb=>(CF b hb).trans<|cm hb) V Tu
theorem OM(S:bR Z st g fx ρ s)(T:wU Z mg b):s.heap.NoLimit:=by refine O0 T.st λo m h H a z=>⟨m,H.ns<|S.eC _ _ h,a⟩
structure Xb(n:Nat)(A:bq):Prop where
 handled:A.handled=none
 depth:A.depth+8*n+10<CK
 units:A.units+100*n+110<cLine
theorem rj.into{A:bq}(h:rj (n+1) A):Xb n A:=by obtain⟨a,b,c⟩:=h;exact⟨a,aa4 b,aa3 c⟩
theorem Xb.deep{A:bq}(h:Xb n A)(env:Env):rj n (A.deeper env):=by
 obtain⟨a,b,c⟩:=h;refine⟨a,?_,?_⟩
 ·exact aE (by rw[show(A.deeper env).depth=A.depth+1 from rfl,sO A.depth 1];exact aV (by decide:1+8<=10)<|A.depth+8*n) b
 ·exact aE (by rw[show(A.deeper env).units=A.units+3 from rfl,sO A.units 3];exact aV (by decide:3+100<=110)<|A.units+100*n) c
inductive afi(h:Heap)(a:Addr)(params:el)(body:List Stmt)(scope:Scope)(cl:List (Str×Addr))(ds:List Value)(qual:Str)(code:Value):Prop
 |mk (o:Obj) (fd:FuncData) (ho:h.get? a=some o) (hd:o.data=.func fd) (h1:fd.params=params) (h2:fd.body=.stmts body) (h3:fd.scope=scope) (h4:fd.closure=cl) (h5:fd.globals=cg) (h6:fd.builtins=fY) (h7:fd.qualname=qual) (h8:fd.code=code) (h9:Cv h fd.defaults ds)
structure Dc(h:Heap)(a:Addr)(params:el)(body:List Stmt)(scope:Scope)(cl:List (Str×Addr))(ds:List Value)(qual:Str)(code:Value):Prop where
 is:afi h a params body scope cl ds qual code
 code:h.CodeRec code qual
def o6.T1(fn:Fn)(c:Scope):Prop:=∀(i:Nat)(p:Str×cj),i<fn.np->c.names[i]? =some p->p.2=.local\/p.2=.cell
structure o6(Z:dg)(n:Nat)(C:bH)(M:bQ)(fn:Fn)(params:el)(body:List Stmt)(scope:Scope)(qual:Str)(code:Value):Prop where
 plain:yF params
 np:fn.np=params.args.length
 names:params.args.map (·.arg)=(scope.names.take fn.np).map (·.1)
 kinds:fn.kinds=e6 ((scope.names.filter λp=>p.2==.free).map (·.1)) scope.names
 argKinds:o6.T1 fn scope
 sc:GK scope
 uT:fn.uT.length<=fn.np
 body:qq Z n scope.names C M (λenv=>env.code=code/\env.qual=qual++".<locals>.") fn.body body
theorem KU:∀{vs:List Value}(k:Nat),dD Z g ρ xs vs->dD Z g ρ (xs.drop k) (vs.drop k):=by
 induction xs with
 |nil=>intro vs k r;obtain rfl:vs=[]:=r;cases k<;>rfl
 |cons x xs i=>
  intro vs k r;refine iz r λv V z b a=>?_;subst z;cases k with
  |zero=>exact xW v V rfl b a
  |succ k=>exact i k a
theorem DE(r:dD Z g ρ xs U)(c:dD Z g ρ y vs):dD Z g ρ (xs++y) (U++vs):=by
 induction xs generalizing U with
 |nil=>have:=r;subst this;exact c
 |cons x xs i=>refine iz r λv V z a b=>?_;subst z;exact xW v (V++vs) rfl a<|i b
theorem zm{fn:Fn}{params:el}{body:List Stmt}{scope:Scope}{qual:Str}{code:Value}(F:o6 Z n C M fn params body scope qual code){mg mb:Str->Option Value}(T:wU Z mg mb)(S:bR Z st g fx ρ s)
  {a:Addr} {cl:List (Str×Addr)} {ds:List Value} (H:Dc s.heap a params body scope cl ds qual code) (rd:dD Z g ρ fn.uT ds) {cs:List Nat}
  (hcl:∀(i:Nat)(x:Str),scope.names[i]? =some (x,cK)->∃(c:Nat)(p:Addr×Addr),cs[(((scope.names.filter λp=>p.2==.free).map (·.1)).findIdx? λy=>hH y x).getD 0]? =some c/\ρ[c]? =some p/\cl.lookup x=some p.1)
  {args:List SV} {vals:List Value} (ra:dD Z g ρ args vals) {v:SV} (e:nM C M fn args cs st=some (v,st')) (hA:Xb n A) {R:Result->Shared->Prop}
  (h:∀g' dp s' y,dG g ρ g' dp->bR Z st' g' fx dp s'->RV Z g' dp v y->R (.ok<|.ret y) s'):
  jb (Mo Z) A (.call (.ref a) ⟨vals,[]⟩) R s:=by
 exact av e λas has e'=>cR e' λq hq er=>dQ er λev est=>iZ has λhn eas=>cn hn λhn1 hn2=>by
  have hn1:=eW hn1;have hn2:=eW hn2;obtain⟨o,fd,ho,hd,h1,h2,h3,h4,h5,h6,h7,h8,h9⟩:=H.is;have hal:=ra.length;have hdl:=rd.length;have hN:=F.np;have ras:dD Z g ρ as (vals++ds.drop (vals.length+ds.length-params.args.length)):=by rw[<-eas,<-hal,<-hdl,<-hN];exact DE ra<|KU _ rd
  have haslen:as.length=fn.np:=by have:=F.uT;rw[<-eas,aj,e8];exact arA hn1 hn2
  have hnl:fn.np<=scope.names.length:=by have:=congrArg E3 F.names;rw[ag,ag,bZ] at this;first|exact ah (dK<|hN.trans this) (dt _ _)|exact ah (dK<|hN.symm.trans this) (dt _ _)|omega
  refine codeAny_call_function (show A.depth<CK by have:=hA.depth;exact aa1 this) ho hd (by rw[h3];exact F.sc.cor) (by rw[h3];exact F.sc.gen) h2 (by rw[h7,h8];exact H.code)<|IQ (by rw[h1];exact F.plain) h9 ?_ (by rw[h1];exact aa0 hn1 hal hN haslen) (by rw[h1];exact aaZ hn2 hal hdl hN haslen) (by rw[h1];have:=F.uT;exact aaY hdl hN haslen this) ?_
  ·rw[h1,F.names,kz];exact F.sc.nodup.sublist<|List.take_sublist _ _
  ·rw[h1,h3,h4,h5,h6,h7,h8,F.names,show(scope.names.take fn.np)=scope.names.take as.length by rw[haslen]];refine HY F.sc S hcl (aaX hN haslen hnl) (λi p hi hp=>F.argKinds i p (aaW hN haslen hi) hp) ras λenv fD lX eh bG hc hq' hL lO AI V Ob=>⟨OM Ob.eN T,codeAny_func ?_⟩;rw[F.kinds] at hq;refine F.body _ q.2 q.1 hq env _ fD lX eh bG V ⟨hc,hq'⟩ (hA.deep env) Ob _ _ λi0 n3 iP iA f sE GU u1 r=>?_;have Oa:=est▸u1.eN.weaken λb o hb=>by have hne:b≠env.locals:=λe=>bU o<|(e▸hb).symm.trans hL;rw[GU b hne,AI b hne];exact hb
   rcases r.plain with ⟨hf,rfl⟩|⟨w,y,hf,rfl,rv⟩
   ·exact h i0 iP iA .none (lO.trans sE) Oa (by rw[<-ev,hf];rfl)
   ·exact h i0 iP iA y (lO.trans sE) Oa (by rw[<-ev,hf];exact rv)
end
section
variable{Z:dg}{C:bH}{M:bQ}{st st':List SO}{g g' fx:FH}{ρ dp:dM}{s:Shared}{A:bq}{E:Value->Shared->Prop}{n:Nat}
theorem Rj{cs:List Nat}(f:cs.all (λc=>mO c m)=true):cs.map (λc=>((ρ.take m)[c]?).map (·.1))=cs.map (λc=>(ρ[c]?).map (·.1)):=
 gE λc h=>by rw[dq<|(yP ..).mp<|aZ.mp f c h]
mutual
theorem RV.D5:∀(V:SV)(v:Value),V.low m=true->RV Z g ρ V v->RV Z g (ρ.take m) V v
 |.none,_,_=>id
 |.bool _,_,_=>id
 |.int _,_,_=>id
 |.str _,_,_=>id
 |.raw _,_,_=>id
 |.tup xs,_,f=>aA λz=>aA λz=>aA λz=>aG<|aG<|dD.D5 xs _ f
 |.lst _,_,_=>id
 |.fW _ _,_,_=>id
 |.cY _,_,_=>id
 |.inst _ _ _,_,_=>id
 |.rh _ s,_,f=>aA λz=>aA λz=>aG<|aG<|RV.D5 s _ f
 |.Jg _ _,_,f=>aA λz=>aA λz=>aG<|cx (Rj f).trans
 |.h _,_,f=>aA λz=>cx (dq<|(yP ..).mp f).trans
theorem dD.D5:∀(xs:List SV)(vs:List Value),SV.lows m xs=true->dD Z g ρ xs vs->dD Z g (ρ.take m) xs vs
 |[],_,_=>id
 |y::Y,_,f=>aA λz=>aA λz=>aG<|gI (RV.D5 y _<|cn f λa z=>a)<|dD.D5 Y _<|cn f λz b=>b
end
theorem RV.low{V:SV}:V.low m=true->RV Z g ρ V v->RV Z g (ρ.take m) V v:=RV.D5 V v
theorem dD.low:SV.lows m xs=true->dD Z g ρ xs vs->dD Z g (ρ.take m) xs vs:=dD.D5 xs vs
theorem RO.low{O:SO}(f:O.low m=true)(r:RO Z g ρ h O p):RO Z g (ρ.take m) h O p:=by
 revert r;cases O with
 |list xs=>exact aG<|aA λz=>aA λz=>aG<|dD.low f
 |dict k vs=>exact aG<|aA λz=>aA λz=>aG<|aG<|cx<|dD.low f
 |inst c as vs=>exact aG<|aA λz=>aA λz=>aG<|aG<|aG<|aG<|dD.low f
 |cell v=>
  refine aG<|aA λz=>aA λz=>aG<|aG ?_;cases v with
  |none=>exact id
  |some v=>exact aA λz=>aG<|RV.low f
 |gone=>exact id
theorem l0{l:List a}(h:(l.take m)[k]? =some x):l[k]? =some x/\k<m:=by have:=(af.mp h).1;simp only[bZ] at this;rw[dq<|Z6 this] at h;exact⟨h,Z6 this⟩
theorem bR.cut(S:bR Z st g fx ρ s)(l:(st.take m).all (SO.low m)=true):bR Z (st.take m) g fx (ρ.take m) s:=by
 rw[aZ] at l;refine⟨S.keep,S.fix,by simp[S.len],λk o p h H=>?_,λi j x O J p q h H a b c d e f=>?_,λk o p x h H a b=>?_,S.top,S.tabs,S.f6,S.q9,S.same,S.codes⟩
 ·exact(S.objs k o p (l0 h).1 (l0 H).1).low<|l o<|aH h
 ·exact S.uniq i j x O J p q (l0 h).1 H (l0 a).1 (l0 b).1 c (l0 d).1 e f
 ·exact S.off k o p x (l0 h).1 H (l0 a).1 b
theorem Ey(S:bR Z st' g' fx dp s)(e:jK m st'=some xK)(X:dG g ρ g' dp)(c:ρ.length<=m):∃a,bR Z xK g' fx a s/\dG g ρ g' a/\∀(k:Nat)(p:Addr×Addr),k<m->dp[k]? =some p->a[k]? =some p:=by
 unfold jK at e;cases h:decide (st'.length<=m) with
 |true=>rw[h] at e;obtain rfl:=aa e;exact xX dp S X λz z z h=>h
 |false=>rw[h] at e;exact iZ e λl b=>by subst b;refine xX _ (S.cut l) ⟨X.g,?_⟩ (λk p H h=>by rw[dq H];exact h);refine eS X.ρ λO r=>⟨O.take<|m-ρ.length,?_⟩;rw[r,List.take_append,c9 c]
theorem Af{fn:Fn}{m:el}{B:List Stmt}{O:Scope}{l:Str}{code:Value}(F:o6 Z n C M fn m B O l code){mg mb:Str->Option Value}(T:wU Z mg mb)(S:bR Z st g fx ρ s)
  {a:Addr} {cl:List (Str×Addr)} {ds:List Value} (H:Dc s.heap a m B O cl ds l code) (rd:dD Z g [] fn.uT ds) {cs:List Nat}
  (L:∀(i:Nat)(x:Str),O.names[i]? =some (x,cK)->∃(c:Nat)(p:Addr×Addr),cs[(((O.names.filter λp=>p.2==.free).map (·.1)).findIdx? λy=>hH y x).getD 0]? =some c/\ρ[c]? =some p/\cl.lookup x=some p.1)
  {args:List SV} {V:List Value} (ra:dD Z g ρ args V) {v:SV} (e:jx C M fn args cs st=some (v,st')) (hA:Xb n A) {R:Result->Shared->Prop}
  (h:∀g' dp s' y,dG g ρ g' dp->bR Z st' g' fx dp s'->RV Z g' dp v y->R (.ok<|.ret y) s'):
  jb (Mo Z) A (.call (.ref a) ⟨V,[]⟩) R s:=by
 have rd':=rd.mono<|dG.i7 g ρ
 unfold jx at e
 cases hk:fn.keep with
 |true=>rw[hk] at e;exact zm F T S H rd' L ra e hA h
 |false=>
  rw[hk] at e;cases hf:bS args&&cs.isEmpty with
  |true=>
   have e:(nM C M fn args cs []).bind (λp=>(freeze fz p.1 p.2).map λr=>(r.1,st))=some (v,st'):=by rw[hf] at e;exact e
   exact cn hf λhfa hc=>av e λp d e=>cR e λq f er=>dQ er λev t=>by
    subst ev t;obtain rfl:=bg.mp hc;refine zm F T S.hide H rd (λi x hi=>?_) (ra.free hfa) d hA λg' dp s' y X S' r=>?_
    ·refine pg (L i x hi) λc p h1 z=>aR h1
    ·refine Ja (k9 f S' r) λG k j D hfr=>?_;have hg:∀b o,g b=some o->G b=some o:=λb o q=>k.g _ _<|X.g _ _ q;exact h G ρ s' y ⟨hg,[],(a9 _).symm⟩ (S.JX hg j)<|D.mono<|dG.i7 _ _
  |false=>
   have e:(nM C M fn args cs st).bind (λp=>(freeze fz p.1 p.2).bind λr=>(jK st.length r.2).map λs=>(r.1,s))=some (v,st'):=by rw[hf] at e;exact e
   exact av e λp d e=>av e λq f e=>cR e λw U er=>dQ er λev t=>by subst ev t;refine zm F T S H rd' L ra d hA λg' dp s' y X S' r=>Ja (k9 f S' r) λG k j D hfr=>?_;obtain⟨I,J,Q,_⟩:=Ey j U (X.trans k) (by rw[S.len];exact aF _);exact h G I s' y Q J<|D.mono<|dG.i7 _ _
end
theorem B4{st:List SO}:∀{k:Nat}{o:SO},st[k]? =some o->o.live=true->k<(kg st).length:=by
 induction st with
 |nil=>intro k o h _;exact aR h
 |cons x r i=>
  intro k o h l;have e:∀b,((kg r).isEmpty&&!x.live)=b->k<(match b with|true=>([]:List SO)|false=>x::kg r).length:=λb B=>by
   cases b with
   |true=>
    exact cn B λa H=>by
     cases k with
     |zero=>obtain rfl:=aa h;rw[l] at H;exact ae H
     |succ k=>have:=i h l;rw[bg.mp a] at this;exact absurd this<|fu _
   |false=>
    cases k with
    |zero=>exact u7 _
    |succ k=>exact u9<|i h l
  exact e _ rfl
section
variable{Z:dg}{K:Frag}{C:bH}{M:bQ}{st st':List SO}{g g' fx:FH}{ρ dp:dM}{s:Shared}{A:bq}{E:Value->Shared->Prop}{n:Nat}
theorem bR.Uv(S:bR Z st g fx ρ s)(H:st[k]? =some O)(h:O.live=true)(a:ρ[k]? =some p)(r:RO Z g ρ s.heap so' p):∃g',dG g ρ g' ρ/\bR Z (st.set k so') g' fx ρ s:=by have X:dG g ρ (dO Z g s.heap s.heap λz=>false) ρ:=aX;exact⟨_,X,S.upd s.toks H h a (λz z z z e=>e)<|r.mono X λz z z e=>e⟩
theorem faE{P:Prop}(e:fC k (a::r) st=some st')(f:∀c d vs j v p b V,st[k]? =some (.inst c d vs)->vs[j]? =some v->freeze fz v st=some p->p.2[k]? =some (.inst c b V)->fC k r (p.2.set k<|.inst c b<|V.set j p.1)=some st'->P):P:=
 av e λo h e=>av e λj t e=>av e λv H e=>av e λp i e=>av e λO l e=>pJ e λm e=>f o.1 o.2.1 o.2.2 j v p O.2.1 O.2.2 (Ah h) H i (by rw[Ah l,beq_iff_eq.mp m]) e
theorem Ex(h:dictOf es m=dictOf es' m'):es=es':=by
 have:=congrArg Obj.data h;simp only[dictOf] at this;injection this with h _
 simpa using congrArg Array.toList h
theorem JI{a:Type}{l:List a}{y:a}(h:l[j]? =some y):l.set j y=l:=by
 refine eE λi=>?_;by_cases H:i=j
 ·rw[H,dJ (af.mp h).1,h]
 ·rw[bJ<|ff H]
theorem wm{B:List Nat}:∀{st st':List SO}{g:FH},fC k B st=some st'->bR Z st g fx ρ s->∃g',dG g ρ g' ρ/\bR Z st' g' fx ρ s:=by
 induction B with
 |nil=>exact λ{_ _ g} e S=>⟨g,.refl _ _,aa e▸S⟩
 |cons a r ih=>refine λ{_ _ g} e S=>faE e λc B vs j v q D V O hv hf H e=>?_;obtain⟨p,I⟩:=S.rho O;obtain⟨N,U,m,h1,L,h3,h4,h5⟩:=S.objs k _ p O I;refine dn (h5.get hv) λy hy ry=>Ja (k9 hf S ry) λG x b w z=>?_;obtain⟨_,Y,m',q1,q2,q3,q4,q5⟩:=b.objs k _ p H I;obtain rfl:=Ex<|aa<|L.symm.trans q2;have Q:=q5.set (i:=j)<|w.mono<|dG.i7 G ρ;rw[JI hy] at Q;refine dn (b.Uv (so':=.inst c D<|V.set j q.1) H rfl I ⟨N,U,m,h1,L,q3,q4,Q⟩) λJ h d=>dn (ih e d) λt l f=>?_;exact⟨t,(x.trans h).trans l,f⟩
theorem th:∀{st st':List SO},fC k d st=some st'->(∃c b vs,st[k]? =some (.inst c b vs))->∃c b vs,st'[k]? =some (.inst c b vs):=by
 induction d with
 |nil=>exact λe h=>aa e▸h
 |cons a r i=>exact λe h=>faE e λc d vs j v q f V m p l H e=>i e ⟨_,_,_,dJ (af.mp H).1⟩
theorem sb{st st':List SO}(e:fC k (a::r) st=some st'):∃c B vs,st[k]? =some (.inst c B vs):=faE e λc b vs z z z z z h z z z z=>⟨c,b,vs,h⟩
theorem Gb{P:Prop}(e:l5 C M a fn args st=some st')(k:nM C M fn (.h st.length::args) [] (st++[.inst a [] []])=some (.none,st')->P):P:=av e λp h e=>iZ e λH r=>k (by subst r;rw[h];obtain⟨v,t⟩:=p;cases v<;>first|rfl|exact ae H)
theorem um{C:Addr}:(jI "type.__call__" ⟨.ref C::rest,[]⟩).weight=1:=by
 have h:(jI "type.__call__" ⟨.ref C::rest,[]⟩).frames=0:=by rfl
 have H:(jI "type.__call__" ⟨.ref C::rest,[]⟩).isCreation=true:=rfl;have a:(jI "type.__call__" ⟨.ref C::rest,[]⟩).isGuard=false:=by simp only[Code.isGuard];decide+kernel
 have b:(jI "type.__call__" ⟨.ref C::rest,[]⟩).isCaller=false:=rfl;unfold Code.weight;rw[h,H,a,b];rfl
theorem vq{C:Addr}:(jI "type.__call__" ⟨.ref C::rest,[]⟩).cUnits=1:=by
 have h:(jI "type.__call__" ⟨.ref C::rest,[]⟩).frames=0:=by rfl
 show 1+3*_=1;rw[h]
theorem rj.made{A:bq}(h:rj (n+1) A)(C:Addr)(rest:List Value):Xb n (A.under<|.builtin "type.__call__" ⟨.ref C::rest,[]⟩):=by
 obtain⟨a,b,c⟩:=h;refine⟨a,?_,?_⟩
 ·show A.depth+(Code.weight _)+8*n+10<_;rw[um];omega
 ·show A.units+(Code.cUnits _)+100*n+110<_;rw[vq];omega
structure Sk(Z:dg)(K:Frag)(a:Addr)(fI:Addr):Prop where
 YD:∀a o,K.lookup a=some o->Z.base a=some o
 makes:makesIn K a=true
 init:de K (.ref a) "__init__"=some (some (.ref fI))
 fn:typeIn K (.ref fI)=some (.type "function")
 r6:Z.r6 a=true
theorem Lv(S:bR Z st g fx ρ s)(k:Z.r6 a=true):∃g',bR Z (st++[.inst a [] []]) g' fx (ρ++[(s.heap.objs.size+1,s.heap.objs.size)]) {s with heap:=(s.heap.push pT).push<|lJ a s.heap.objs.size}/\dG g ρ g' (ρ++[(s.heap.objs.size+1,s.heap.objs.size)]):=by
 have H:(s.heap.push pT).objs.size=s.heap.objs.size+1:=fK ..;have p:∀b o,s.heap.get? b=some o->((s.heap.push pT).push<|lJ a s.heap.objs.size).get? b=some o:=λb o e=>aq _<|aq _ e;have c:s.heap.get? (s.heap.objs.size+1)=none:=r9<|iJ _;have x:((s.heap.push pT).push<|lJ a s.heap.objs.size).get? (s.heap.objs.size+1)=some (lJ a s.heap.objs.size):=by rw[<-H];exact bp _ rfl
 have d:((s.heap.push pT).push<|lJ a s.heap.objs.size).get? s.heap.objs.size=some (dictOf [] 0):=aq _<|bp _ rfl;have X:dG g ρ (dO Z g s.heap ((s.heap.push pT).push<|lJ a s.heap.objs.size) λb=>b==(s.heap.objs.size+1)||b==s.heap.objs.size) (ρ++[(s.heap.objs.size+1,s.heap.objs.size)]):=⟨λz z e=>b6 e,_,rfl⟩;refine⟨_,S.alloc s.toks p (.inst a [] []) (s.heap.objs.size+1,s.heap.objs.size) c (bA _) ⟨tX<|.inr<|cp _,[],0,x,d,trivial,⟨fg,λz h=>(absurd h aJ),k⟩,rfl⟩,X⟩
theorem JM{fn:Fn}{J:el}{body:List Stmt}{O:Scope}{qual:Str}{code:Value}(F:o6 Z n C M fn J body O qual code){mg mb:Str->Option Value}(T:wU Z mg mb)(S:bR Z st g fx ρ s)
  {a fI:Addr} {ds:List Value} {Lh:Xa} (hpol:Lh≠.some []) (Y:Sk Z K a fI) (H:∀h:Heap,(∀b o,Z.base b=some o->h.get? b=some o)->Dc h fI J body O [] ds qual code) (rd:dD Z Z.base [] fn.uT ds) (hnf:∀p∈O.names,p.2≠.free)
  {args:List SV} {V:List Value} (ra:dD Z g ρ args V) {v:SV} (e:nu C M a Lh fn args st=some (v,st')) (hA:rj (n+1) A) {R:Result->Shared->Prop}
  (h:∀g' dp s' y,dG g ρ g' dp->bR Z st' g' fx dp s'->RV Z g' dp v y->R (.ok<|.ret y) s'):
  jb (Mo Z) A (.call (.ref a) ⟨V,[]⟩) R s:=by
 have hS:=S.eC
 have hbase:∀b o,Z.base b=some o->((s.heap.push pT).push<|lJ a s.heap.objs.size).get? b=some o:=λb o e=>aq _<|aq _<|hS b o e
 have hKin:K.In s.heap:=λb o q=>hS b o<|Y.YD b o q
 have hcl:∀{cs:List Nat}{ρ:dM} i x,O.names[i]? =some (x,cK)->∃(c:Nat)(p:Addr×Addr),cs[(((O.names.filter λp=>p.2==.free).map (·.1)).findIdx? λy=>hH y x).getD 0]? =some c/\ρ[c]? =some p/\([]:List (Str×Addr)).lookup x=some p.1:=
  λi x hi=>absurd rfl<|hnf _<|aH hi
 have go:∀{t:List SO}{I G:FH}{l:dM}{f:List SO},bR Z t I G l s->dD Z I l args V->nM C M fn (.h t.length::args) [] (t++[.inst a [] []])=some (.none,f)->
   (∀fD j bG x,dG I l fD j->bR Z f fD G j bG->(∃p,j[t.length]? =some p/\p.1=x)->R (.ok<|.ret<|.ref x) bG)->jb (Mo Z) A (.call (.ref a) ⟨V,[]⟩) R s:=by
  intro t I G l f Xy Xe ac5 hq
  obtain⟨hh,gg,dd,tt,os⟩:=s
  have hlk:=looks_findIn (M:=Mo Z) hKin Y.init
  refine make_core (makes_of hKin Y.makes) hlk (λself=>bind_fn hKin self Y.fn) (.inl rfl)<|dn (Lv Xy Y.r6) λfD m B=>?_
  have hp:(l++[(hh.objs.size+1,hh.objs.size)])[t.length]? =some (hh.objs.size+1,hh.objs.size):=by rw[<-Xy.len];simp
  refine zm F T m (H _ hbase) ((rd.mono<|dG.i7 _ _).mono ⟨m.top,_,rfl⟩) hcl (args:=.h t.length::args) ⟨_,_,rfl,⟨_,hp,rfl⟩,Xe.mono B⟩ ac5 (hA.made a V) λg' dp s' y X' S' r=>?_
  have r:=r
  subst r
  exact⟨rfl,hq g' dp s' (hh.objs.size+1) (B.trans X') S' ⟨_,X'.at hp,rfl⟩⟩
 cases Lh with
 |freeze=>
  cases hf:bS args with
  |true=>
   have e:(l5 C M a fn args []).bind (λst'=>(freeze fz (.h 0) st').map λr=>(r.1,st))=some (v,st'):=by unfold nu at e;rw[hf] at e;exact e
   exact av e λf d e=>cR e λq k er=>Gb d λd=>dQ er λev D=>by subst ev D;refine go S.hide (ra.free hf) d λg' dp s' x X S' pp=>dn pp λp hp hx=>?_;obtain⟨L,Q,N,r'',hfr⟩:=k9 k S' ⟨p,hp,by rw[hx]⟩;have hg:∀b o,g b=some o->L b=some o:=λb o q=>Q.g _ _<|X.g _ _ q;exact h L ρ s' _ ⟨hg,[],(a9 _).symm⟩ (S.JX hg N)<|r''.mono<|dG.i7 _ _
  |false=>
   have e:(l5 C M a fn args st).bind (λst'=>(freeze fz (.h st.length) st').bind λr=>(jK st.length r.2).map λs=>(r.1,s))=some (v,st'):=by unfold nu at e;rw[hf] at e;exact e
   exact av e λf d e=>av e λq k e=>cR e λw U er=>Gb d λd=>dQ er λev D=>by subst ev D;refine go S ra d λg' dp s' x X S' pp=>dn pp λp hp hx=>?_;obtain⟨L,Q,N,r'',hfr⟩:=k9 k S' ⟨p,hp,by rw[hx]⟩;obtain⟨j,m,B,_⟩:=Ey N U (X.trans Q) (by rw[S.len];exact aF _);exact h L j s' _ B m<|r''.mono<|dG.i7 _ _
 |keep=>exact cR e λf d er=>Gb d λd=>dQ er λev D=>by subst ev D;exact go S ra d λg' dp s' x X S' pp=>h g' dp s' _ X S' (pp.imp λz=>aG λhx=>by rw[hx])
 |some as=>
  exact av e λf d e=>av e λafo k e=>cR e λw U er=>Gb d λd=>dQ er λev D=>by
   subst ev D;refine go S ra d λg' dp s' x X S' pp=>dn pp λp hp hx=>?_;refine dn (wm k S') λL Q N=>?_;cases as with
   |nil=>exact absurd rfl hpol
   |cons a0 r0=>refine Sn (th k<|sb k) λc1 bs vs1 hlive=>?_;have hgt:=B4 hlive rfl;obtain⟨j,m,B,ac2⟩:=Ey N U (X.trans Q) (by rw[S.len];exact aa2 hgt);exact h L j s' _ B m ⟨p,ac2 _ _ hgt hp,by rw[hx]⟩
end
def pR.T1(Z:dg)(M:bQ)(fn:Fn)(p:el)(b:List Stmt)(c:Scope)(a:Str)(code:Value):Prop:=∀n C,nA Z n C->o6 Z n C M fn p b c a code
def pR.T2(Z:dg)(a:Addr)(p:el)(d:List Stmt)(c:Scope)(l:Str)(code:Value)(D:List Value):Prop:=∀h:Heap,(∀b o,Z.base b=some o->h.get? b=some o)->Dc h a p d c [] D l code
structure pR(Z:dg)(M:bQ)(a:Addr)(fn:Fn)(params:el)(body:List Stmt)(scope:Scope)(qual:Str)(code:Value)(ds:List Value):Prop where
 LM:pR.T1 Z M fn params body scope qual code
 at_:pR.T2 Z a params body scope qual code ds
 uT:dD Z Z.base [] fn.uT ds
 DT:∀p∈scope.names,p.2≠.free
structure yG(Z:dg)(M:bQ)(fn:Fn)(ni:lH):Prop where
 uT:fn.uT=[]
 free:ni.free=(ni.scope.names.filter λp=>p.2==.free).map (·.1)
 LM:∀n C code,nA Z n C->o6 Z n C M fn ni.params ni.body ni.scope ni.qual code
def oY.T1(Z:dg)(P:C9):Prop:=∀a fn,P.fns a=some fn->∃p b c l code d,pR Z P.meths a fn p b c l code d
def oY.T2(Z:dg)(K:Frag)(P:C9):Prop:=∀a c,P.cls a=some c->Sk Z K a c.init/\c.Lh≠.some []
def oY.T3(Z:dg)(P:C9):Prop:=∀k fn,P.nest k=some fn->∃i,Z.nest k=some i/\yG Z P.meths fn i
structure oY(Z:dg)(K:Frag)(P:C9):Prop where
 top:∃mg mb,wU Z mg mb
 fns:oY.T1 Z P
 cls:oY.T2 Z K P
 nest:oY.T3 Z P
section
variable{Z:dg}{K:Frag}{P:C9}{C:bH}{M:bQ}{st st':List SO}{g g' fx:FH}{ρ dp:dM}{s:Shared}{A:bq}{E:Value->Shared->Prop}{n:Nat}
theorem Nk:∀{fr:List Str}{L:List (Str×Addr)}{cs:List Nat}{l:List Addr},L.map (·.1)=fr->L.map (·.2)=l->cs.map (λc=>(ρ[c]?).map (·.1))=l.map some->x∈fr->
  ∃(c:Nat)(p:Addr×Addr),cs[(fr.findIdx? λy=>hH y x).getD 0]? =some c/\ρ[c]? =some p/\L.lookup x=some p.1:=λ{fr}=>by
 induction fr with
 |nil=>intro L cs l _ _ _ h;exact absurd h aJ
 |cons f fr I=>
  intro L cs l H z a h;cases L with
  |nil=>cases H
  |cons Y L=>
   obtain⟨y,b⟩:=Y;subst z;cases cs with
   |nil=>cases a
   |cons c cs=>
    refine i9 (gO H) λH d=>i9 (gO a) λa B=>?_;refine dn (be.mp a) λp G D=>?_;rw[dF,bY,<-show y=f from H];cases q:hH y x with
    |true=>obtain rfl:=mD q;rw[beq_self_eq_true];exact xW c p rfl G<|congrArg some D.symm
    |false=>
     have k:y≠x:=λe=>by rw[mB.mpr e] at q;exact ae q
     rw[beq_eq_false_iff_ne.mpr<|ff k];have m:=(aQ.mp h).elim (λe=>absurd ((show y=f from H).trans e.symm) k) id;refine iz (I d rfl B m) λw N i r v=>xW w N ?_ r v;cases e:fr.findIdx? λy=>hH y x with
     |some j=>rw[e] at i;exact i
     |none=>exact absurd (bI.mp e x m) (by rw[mB.mpr rfl];exact ae)
theorem Gg{h:Heap}{a:Addr}{p:el}{b:List Stmt}{c:Scope}{L:List (Str×Addr)}{d:List Value}{l:Str}{code:Value}(H:Dc h a p b c L d l code):tH Z h (.ref a):=by obtain⟨o,f,O,D,_⟩:=H.is;refine⟨.frame,.inl rfl,(CX O).andThen ?_⟩;rw[D];exact .now
theorem Mf{h:Heap}{a m:Addr}{v:Value}{p:el}{b:List Stmt}{c:Scope}{L:List (Str×Addr)}{d:List Value}{l:Str}{code:Value}(H:Dc h a p b c L d l code)(e:h.get? m=some (methodObj (.ref a) v)):tH Z h (.ref m):=by obtain⟨o,f,O,D,_⟩:=H.is;refine⟨.boundFrame,.inr<|.inr rfl,(CX e).andThen ?_⟩;refine(CX O).andThen ?_;rw[D];exact .now
theorem Me(Y:Makes (Mo Z) h a):tH Z h (.ref a):=by refine XJ Y.obj λO d c l H z=>⟨.machine,.inr<|.inl rfl,(CX H).andThen ?_⟩;exact Y.call.andThen .now
theorem Wt(h:Th v=some a):v=.ref a:=by
 cases v with
 |ref b=>exact congrArg lK<|aa h
 |_=>exact aR h
theorem Nn(O:oY Z K P):∀d,nA Z d (oT P d):=λd=>by
 induction d with
 |zero=>exact λf G st v st' e=>aR e
 |succ d ih=>
  intro f G st v st' e A g fx ρ s fv avs hA S rf ra;refine w5 O.top λmg mb T=>?_;cases f with
  |raw x=>
   exact av e λa ha l=>by
    obtain rfl:=Wt ha;refine i9 rf λzz0 z=>?_;subst zz0;cases h:P.fns a with
    |some fn=>rw[h] at l;refine x61 (O.fns a fn h) λp B j U code ds F=>?_;have H:=F.at_ s.heap S.eC;exact⟨Gg H,λE Q D=>qt<|Af (F.LM d _ ih) T S H (F.uT.mono ⟨S.top,[],rfl⟩) (λi x J=>absurd rfl<|F.DT _<|aH J) ra l hA.into λg' dp I y X w r=>D g' dp I y X w r⟩
    |none=>rw[h] at l;exact av l λc hc l=>av l λfn h l=>by refine i9 (O.cls a c hc) λY V=>x61 (O.fns _ fn h) λp B j U code ds F=>?_;have N:K.In s.heap:=λb o q=>S.eC b o<|Y.YD b o q;exact⟨Me<|makes_of N Y.makes,λE Q D=>qt<|JM (F.LM d _ ih) T S V Y F.at_ F.uT F.DT ra l hA λg' dp I y X w r=>D g' dp I y X w r⟩
  |rh a self=>exact av e λfn h e=>by refine iz rf λm sv zz2 hm rs=>?_;subst zz2;refine x61 (O.fns a fn h) λp B j U code ds F=>?_;have H:=F.at_ s.heap S.eC;have L:=S.keep _ _ hm;exact⟨Mf H L,λE Q D=>qt<|method_call L<|Af (F.LM d _ ih) T S H (F.uT.mono ⟨S.top,[],rfl⟩) (λi x J=>absurd rfl<|F.DT _<|aH J) (args:=self::G) ⟨sv,avs,rfl,rs,ra⟩ e hA.into λg' dp I y X w r=>D g' dp I y X w r⟩
  |Jg k cs=>exact av e λfn h e=>by obtain⟨a,cells,rfl,hcs,fd,ni,c,oc,vs,t,h1,h2,h3,h4,h5,h6,h7,h8,h9,h10,h11,h12,h13,h14,h15,h16⟩:=rf;refine dn (O.nest k fn h) λni' hni F=>?_;obtain rfl:=aa<|h2.symm.trans hni;have H:Dc s.heap a ni.params ni.body ni.scope fd.closure [] ni.qual fd.code:=⟨⟨_,fd,S.keep _ _ h1,rfl,h4,h5,h6,rfl,h7,h8,h3,rfl,.inl ⟨h9,rfl⟩⟩,⟨c,oc,vs,t,h13,S.keep _ _ h14,h15,h16⟩⟩;refine⟨Gg H,λE Q D=>qt<|Af (F.LM d _ fd.code ih) T S H (by rw[F.uT];rfl) (λi x J=>?_) ra e hA.into λg' dp I y X w r=>D g' dp I y X w r⟩;rw[<-F.free];refine Nk h12 h11 hcs ?_;rw[F.free];exact bw.mpr ⟨_,k6.mpr ⟨aH J,by simp⟩,rfl⟩
  |_=>exact aR e
end
def BW(s:el)(sc:Scope)(d:List SV):Bool:=
 s.posonlyargs.isEmpty&&(s.kwonlyargs.isEmpty&&(s.vararg.isNone&&(s.kwarg.isNone&&
 ((s.args.map (·.arg)==(sc.names.take s.args.length).map (·.1))&&((sc.names.take s.args.length).all (λp=>oK p.2)&&
 (TB sc.kind&&(!sc.isGenerator&&(!sc.isCoroutine&&(decide (sc.names.map (·.1)).Nodup&&(sc.names.all (λp=>s6 p.1)&&decide (d.length<=s.args.length)))))))))))
noncomputable def nO:Stmt->Bool
 |.FunctionDef ..=>false
 |_=>true
section
variable{Z:dg}{K:Frag}{C:bH}{M:bQ}{n:Nat}{c:TC}{fe:Env->Prop}
theorem DK(h:s6 x=true):(x==("__debug__":Str))=false/\(x==("__classdict__":Str))=false:=
 cn h λa b=>⟨by simpa using a,by simpa using b⟩
theorem Hv:(∀s∈a,lE Z n N C M fe (t s) s)->qq Z n N C M fe (a.map t) a:=by
 induction a with
 |nil=>intro _;exact x5
 |cons s a i=>intro h;exact vD (h s (aw ..))<|i λx H=>h x<|ay _ H
theorem yq(B:sP Z K M n C)(T:iw Z c){a:el}{sc:Scope}{uT:List SV}{body:List Stmt}(h:BW a sc uT=true){keep:Bool}{qual:Str}{code:Value}{mg:Str->Option Value}
  (N:∀s∈body,nO s=true\/∀name params body scope pos x,s=.FunctionDef name params body [] none [] scope none name pos->m9 scope.names=some x->qR Z mg (c.nst name) (λenv=>env.code=code/\env.qual=qual++".<locals>.") name params body scope pos x):
  o6 Z n C M (J2 c keep a uT body sc) a body sc qual code:=
 cn h λh1 h=>cn h λh2 h=>cn h λh3 h=>cn h λg h=>cn h λj h=>cn h λk h=>cn h λl h=>cn h λm h=>cn h λr h=>cn h λH h=>cn h λb d=>
  {plain:=⟨bg.mp h1,bg.mp h2,bB.mp h3,bB.mp g⟩
   np:=rfl
   names:=beq_iff_eq.mp j
   kinds:=rfl
   argKinds:=λi p I f=>za (aZ.mp k p<|aH<|(dq (show i<a.args.length from I)).trans f)
   sc:=⟨fnE l,by simpa using m,by simpa using r,eW H,λp f=>DK<|aZ.mp b p f⟩
   uT:=eW d
   body:=Hv λs hs=>by
    have t:iw Z (eB c sc):=T.eB sc.names;rcases N s hs with h|h
    ·exact AS (mg:=mg) B t λname params body scope pos x e=>by subst e;exact ae h
    ·exact AS B t h}
theorem Ck{l:List Stmt}(h:((l.take j).all nO&&(l.drop<|j+1).all nO)=true):∀s∈l,nO s=true\/l[j]? =some s:=λs e=>cn h λb d=>by
 obtain⟨i,H⟩:=gk e;by_cases q:i=j
 ·exact .inr<|q▸H
 ·refine .inl ?_;by_cases Q:i<j
  ·exact aZ.mp b s<|aH (by rw[dq Q];exact H)
  ·exact aZ.mp d s<|aH (by rw[List.getElem?_drop,show j+1+(i-(j+1))=i by omega];exact H)
end
noncomputable abbrev o(s:String):Str:=jM s
noncomputable def srL:List String:=["ref","box","array","tuple","adt","param","int","var","intvar","Drop","goto","switch","call","drop","assert","downcast","field","deref","index","use","binary","checked","unary","cast","assign","print","discriminant","live","dead","move","const","return","","u8","G","H","p","'a","named","d","set","drop 0","drop 1","drop 2","rest","panic","end","copy","nop","t","f"]
def sr(i:Nat):Str:=o<|srL[i]?.getD ""
noncomputable abbrev dw(k:Nat):E:=.str<|sr k
def f49:Fn:=⟨1,[],iH 2,[et 1<|cy bO 0,.ifs (gG bz<|dw 0) [.ret<|.tup [cy bO 3]] [],.ifs (.or [gG bz<|dw 1,gG bz<|dw 2]) [.ret<|.tup [cy bO 1]] [],.ifs (gG bz<|dw 3) [.ret<|cy bO 1] [],.ret<|.ite (gG bz<|dw 4) (cy bO 3)<|.tup []],false⟩
def f56:Fn:=⟨2,[],iH 4,[et 2<|cy bO 0,.ifs (gG cU<|dw 0) [.ret<|.tup [dw 0,cy bO 1,cy bO 2,cy bz 0]] [],.ifs (gG cU<|dw 1) [.ret<|.tup [dw 1,cy bz 0]] [],.ifs (gG cU<|dw 2) [.ret<|.tup [dw 2,cy bz 0,cy bO 2]] [],.ifs (gG cU<|dw 3) [.ret<|.tup [dw 3,.bi .tuple [bz]]] [],.ret<|.ite (gG cU<|dw 4) (.tup [dw 4,cy bO 1,cy bO 2,.bi .tuple [bz]]) bO],false⟩
def f61:Fn:=⟨2,[],[.loc,.p9,.loc,.loc],[.ifs (gG (cy bO 0)<|dw 5) [.ret<|.bj bz 4 [cy bO 1,bO]] [],.ret<|dy 56 [bO,.comp false [none,none,none,some 1] (dy 61 [bz,dm]) qy .over [dy 49 [bO]] []]],false⟩
def f66:Fn:=⟨2,[],[.loc,.p9,.loc,.loc,.loc],[.ifs (gG (cy bO 0)<|dw 0) [et 0<|.tup [dw 0,.call bz [cy bO 1],cy bO 2,cy bO 3]] [.ifs (gG (cy bO 0)<|dw 4) [et 0<|.tup [dw 4,cy bO 1,.bi .tuple [.comp false [none,none,some 1] (.call cU [bz]) qy .over [cy bO 2] []],cy bO 3]] []],.ret<|dy 56 [bO,.comp false [none,none,none,some 1] (dy 66 [bz,dm]) qy .over [dy 49 [bO]] []]],false⟩
noncomputable def f73:Fn:=⟨1,[],[.loc],[.ret .none],false⟩
def f80:Fn:=⟨1,[],iH 3,[.ret<|dy 66 [bO,TJ 73]],false⟩
def f87:Fn:=⟨1,[],[.loc,.loc,.p9,.loc],[et 2<|.list true [],.defn 1 0 [2],.expr<|dy 66 [bO,bz],.ret cU],false⟩
def f94:Fn:=⟨3,[],iH 11,[.ifs (gG (cy bO 0)<|dw 5) [.ifs (.cmp .isIn (cy bO 1) cU) [.ret<|gG (.sub cU<|cy bO 1) bz] [],.asg (.ix cU<|cy bO 1) bz,.ret<|.bool true] [],.ifs (.or [.cmp .ne (cy bO 0)<|cy bz 0,.and [gG (cy bO 0)<|dw 6,.cmp .ne bO bz],.cmp .isIn (cy bO 0)<|.tup [dw 7,dw 8]]) [.ret<|.bool false] [],.ifs (.or [.and [gG (cy bO 0)<|dw 0,.cmp .ne (cy bO 2)<|cy bz 2],.and [gG (cy bO 0)<|dw 2,.cmp .ne (cy bO 2)<|cy bz 2]]) [.ret<|.bool false] [],.ifs (.and [gG (cy bO 0)<|dw 4,.cmp .ne (cy bO 1)<|cy bz 1]) [.ret<|.bool false] [],.asg (.tp [.nm 3,.nm 4])<|.tup [dy 49 [bO],dy 49 [bz]],.ifs (.cmp .ne (jm dm)<|jm eA) [.ret<|.bool false] [],.for (.many [5,6]) .zip [dm,eA] [.ifs (.not<|dy 94 [g9,iS,cU]) [.ret<|.bool false] []],.ret<|.bool true],false⟩
def ad0:Fn:=⟨3,[],iH 3,[.ret<|cy (.sub (.attr (.sub (.attr cU 61)<|cy bO 1) 51) bz) 2],false⟩
def adZ:Fn:=⟨3,[],[.loc,.loc,.loc,.loc,.p9,.p9,.p9,.loc,.loc,.loc,.loc],[.ifs (gG (cy bO 0)<|dw 3) [.ret<|.comp false [none,none,none,none] (.tup [.bad,cU]) (.many [1,2]) .enum [cy bO 1] []] [],.ifs (.cmp .ne (cy bO 0)<|dw 4) [.ret<|.list true []] [],et 3<|.sub (.attr cU 61)<|cy bO 1,et 4<|.bi .j7 [.attr dm 50,cy bO 3],et 6<|.bi .j7 [.attr dm 49,cy bO 2],.defn 5 1 [6],.ret<|.comp false [none,none,none,none,none,some 5,some 4] (.tup [bz,dy 61 [dy 66 [cU,g9],iS]]) (.many [1,2]) .over [dy 101 [bO,bz,cU]] []],false⟩
def adY:Fn:=⟨2,[],iH 6,[.for JO .over [.attr bz 64] [.ifs (.and [gG (.attr cU 55)<|dw 9,dy 94 [dy 80 [.attr cU 57],dy 80 [bO],.fM false]]) [.ret<|.bool true] []],.ret<|.bool false],false⟩
def Q0:Fn:=⟨6,[.none,.none],iH 7,[.asg (.at bO 6) bz,.asg (.at bO 7) cU,.asg (.at bO 8)<|.bi .list [dm],.asg (.at bO 9)<|.ite (.cmp .is eA .none) (.list true []) eA,.asg (.at bO 10)<|.ite (.cmp .is g9 .none) (.fM true) g9],false⟩
def adX:Fn:=⟨2,[],iH 2,[.ret<|cy (.sub (eM 8) bz) 0],false⟩
def Zt:Fn:=⟨2,[],iH 2,[.ret<|cy (.sub (eM 9) bz) 0],false⟩
def Zr:Fn:=⟨2,[],iH 2,[.ret<|cy (.sub (eM 9) bz) 1],false⟩
def adV:Fn:=⟨2,[],iH 2,[.ret<|.bj (eM 10) 4 [bz,.int 0]],false⟩
def Zq:Fn:=⟨1,[],[.loc,.loc,.p9,.loc,.loc],[et 1<|.list true [],.for JO .fH [jm<|eM 9] [.expr<|.bj bz 1 [.comp false [none,none,some 2] (.tup [cU,bz]) qy .fH [.bin .add (jm<|.bj bO 12 [cU])<|.int 1] []]],.ret bz],false⟩
def adU:Fn:=⟨1,[],iH 5,[et 1<|cy bO 0,.ifs (gG bz<|dw 10) [et 2<|.list true [cy bO 1]] [.ifs (gG bz<|dw 11) [et 2<|.bin .add (.comp false [none,none,none] cU (.many [1,2]) .over [cy bO 2] [])<|.list false [cy bO 3]] [.ifs (gG bz<|dw 12) [et 2<|.list true [cy bO 4]] [.ifs (gG bz<|dw 13) [et 2<|.list true [cy bO 2]] [.ifs (gG bz<|dw 14) [et 2<|.list true [cy bO 4]] [et 2<|.list true []]]]]],et 4<|.list true [],.for CB .over [.oR 2] [.ifs (.and [.cmp .jt dm .none,.cmp .jr dm eA]) [.expr<|.bj eA 0 [.oR 3]] []],.ret eA],false⟩
def Zp:Fn:=⟨1,[],iH 7,[et 2<|.comp true [none,none] (.list true []) qy .over [eM 9] [],.for qy .fH [jm<|eM 9] [.for CB .over [dy 188 [.bj bO 13 [bz]]] [.expr<|.bj (.sub cU dm) 0 [.oR 1]]],.ret cU],false⟩
def adT:Fn:=⟨4,[],iH 6,[.ifs (gG (cy bO 0)<|dw 3) [.ret<|.sub (cy bO 1) cU] [],.ifs (gG (cy bO 0)<|dw 4) [.ret<|cy (.sub (dy 106 [bO,bz,dm]) cU) 1] [],.bad],false⟩
def adS:Fn:=⟨4,[],iH 7,[et 4<|cy cU 0,.ifs (gG eA<|dw 15) [.ret<|.tup [bO,cy cU 1]] [],.ifs (gG eA<|dw 16) [.ret<|.tup [dy 200 [bO,bz,cy cU 1,dm],.int 0]] [],.ifs (.and [gG eA<|dw 17,gG (cy bO 0)<|dw 0]) [.ret<|.tup [cy bO 3,.int 0]] [],.ifs (.or [.and [gG eA<|dw 17,gG (cy bO 0)<|dw 1],.and [gG eA<|dw 18,gG (cy bO 0)<|dw 2]]) [.ret<|.tup [cy bO 1,.int 0]] [],.bad],false⟩
def adR:Fn:=⟨3,[],iH 7,[.asg (.tp [.nm 3,.nm 4])<|.tup [.bj bO 11 [cy bz 0],.int 0],.for Sl .over [cy bz 1] [.asg (.tp [.nm 3,.nm 4])<|dy 207 [dm,eA,g9,cU]],.ret dm],false⟩
def adQ:Fn:=⟨1,[],iH 3,[et 1<|cy bO 0,.ifs (.cmp .isIn bz<|.tup [dw 19,dw 1]) [.ret<|.list true [cy bO 1]] [],.ifs (.cmp .isIn bz<|.tup [dw 20,dw 21]) [.ret<|.list true [cy bO 2,cy bO 3]] [],.ifs (gG bz<|dw 22) [.ret<|.list true [cy bO 2]] [],.ifs (gG bz<|dw 23) [.ret<|.list true [cy bO 1]] [],.ifs (.cmp .isIn bz<|.tup [dw 3,dw 2]) [.ret<|.bi .list [cy bO 1]] [],.ret<|.ite (gG bz<|dw 4) (.bi .list [cy bO 3])<|.list true []],false⟩
def Zo:Fn:=⟨2,[],iH 9,[.asg (.tp [.nm 2,.nm 3]) bz,.ifs (.cmp .lt dm<|jm<|.bj bO 12 [cU]) [et 4<|.sub (.bj bO 12 [cU]) dm,.ifs (gG (cy eA 0)<|dw 24) [.ret<|dy 221 [cy eA 2]] [],.ret<|.ite (gG (cy eA 0)<|dw 25) (.list true [cy eA 1])<|.list true []] [],et 5<|.bj bO 13 [cU],.ifs (gG (cy g9 0)<|dw 12) [.ret<|.bi .list [cy g9 2]] [],.ret<|.ite (.cmp .isIn (cy g9 0)<|.tup [dw 11,dw 14]) (.list true [cy g9 1])<|.list true []],false⟩
def adP:Fn:=⟨1,[],[.loc],[.ret<|.comp false [none,none] (cy bz 1) qy .over [cy bO 1] [gG (cy bz 0)<|dw 18]],false⟩
def Zn:Fn:=⟨2,[],iH 2,[.ret<|.bin .bor bO bz],false⟩
def Zm:Fn:=⟨4,[],iH 7,[.for OV .fH [.bin .add (jm<|cy (.sub (eM 9) cU) 0)<|.int 1] [et 1<|.call dm [bz,cU,eA]],.ret bz],false⟩
def Zl:Fn:=⟨4,[],iH 14,[et 4<|.rep true .none<|jm<|eM 9,.asg (.ix eA<|.int 0) bz,et 5<|.list true [.int 0],.tR (.cmp .ne g9<|.list false []) [et 6<|.bj g9 2 [],et 7<|dy 247 [bO,.sub eA iS,iS,cU],.for OU .over [dy 188 [cy (.sub (eM 9) iS) 1]] [et 9<|.sub eA xr,et 10<|.ite (.cmp .is De .none) ou<|.call dm [De,ou],.ifs (.or [.cmp .is De .none,.cmp .ne yY De]) [.asg (.ix eA xr) yY,.ifs (.cmp .jr xr g9) [.expr<|.bj g9 0 [.oR 8]] []] []]],.ret eA],false⟩
def Zk:Fn:=⟨3,[],iH 9,[et 3<|.fM true,.for OV .fH [jm<|eM 9] [et 5<|.sub bz eA,.ifs (.cmp .jt g9 .none) [.for CA .fH [.bin .add (jm<|cy (.sub (eM 9) eA) 0)<|.int 1] [.asg (.ix dm<|.tup [eA,iS]) g9,et 5<|.call cU [g9,eA,iS]]] []],.ret dm],false⟩
def Zj:Fn:=⟨5,[],iH 8,[et 5 dm,.for CA .over [dy 188 [cy (.sub (eM 9) cU) 1]] [et 5<|.call eA [g9,.sub bz iS]],.ret g9],false⟩
def Zi:Fn:=⟨5,[],iH 8,[.for Sl .m8 [jm<|cy (.sub (eM 9) cU) 0,.bin .sub dm<|.int 1,.neg<|.int 1] [et 1<|.call eA [bz,cU,g9]],.ret bz],false⟩
def Zh:Fn:=⟨4,[],iH 16,[et 4<|.rep true bz<|jm<|eM 9,et 5<|dy 193 [bO],et 6<|.bi .qI [jm<|eM 9],.tR (.cmp .ne iS<|.list false []) [et 7<|.bj iS 2 [],et 8<|dy 275 [bO,dy 268 [bO,eA,ou,bz,dm],ou,.int 0,cU],.ifs (.cmp .ne xr<|.sub eA ou) [.asg (.ix eA ou) xr,.for zo9 .over [.sub g9 ou] [.ifs (.cmp .jr De iS) [.expr<|.bj iS 0 [.oR 9]] []]] []],.ret eA],false⟩
def Zg:Fn:=⟨5,[],iH 12,[et 5<|.fM true,.for CA .fH [jm<|eM 9] [et 7<|dy 268 [bO,bz,iS,cU,eA],.for OU .m8 [jm<|cy (.sub (eM 9) iS) 0,.neg<|.int 1,.neg<|.int 1] [et 7<|.call dm [ou,iS,xr],.asg (.ix g9<|.tup [iS,xr]) ou]],.ret g9],false⟩
def Zf:Fn:=⟨2,[],iH 7,[.asg (.tp [.nm 2,.nm 3]) bz,et 4<|cy (.sub (eM 9) cU) 0,.ifs (.and [.cmp .lt dm<|jm eA,gG (cy (.sub eA dm) 0)<|dw 24]) [et 5<|cy (.sub eA dm) 2,.ifs (gG (cy g9 0)<|dw 0) [.ret<|cy g9 3] [],.ifs (gG (cy g9 0)<|dw 26) [.ret<|cy g9 1] []] [],.ret .none],false⟩
def Ze:Fn:=⟨2,[],iH 7,[.asg (.tp [.nm 2,.nm 3]) bz,.asg (.tp [.nm 4,.nm 5])<|.sub (eM 9) cU,.ifs (.cmp .lt dm<|jm eA) [.ret<|.ite (gG (cy (.sub eA dm) 0)<|dw 24) (cy (.sub eA dm) 1) .none] [],.ret<|.ite (gG (cy g9 0)<|dw 12) (cy g9 3) .none],false⟩
def Zd:Fn:=⟨2,[],iH 7,[.asg (.tp [.nm 2,.nm 3]) bz,.asg (.tp [.nm 4,.nm 5])<|.sub (eM 9) cU,.ret<|.ite (.and [gG dm<|jm eA,gG (cy g9 0)<|dw 13]) (cy g9 1) .none],false⟩
def Zc:Fn:=⟨2,[],iH 6,[.asg (.tp [.nm 2,.nm 3]) bz,et 4<|cy (.sub (eM 9) cU) 0,.ifs (.and [.cmp .lt dm<|jm eA,.cmp .isIn (cy (.sub eA dm) 0)<|.tup [dw 27,dw 28]]) [.ret<|cy (.sub eA dm) 1] [],.ret .none],false⟩
def adO:Fn:=⟨2,[],iH 3,[.ret<|.and [gG (cy bO 0)<|dw 4,dy 113 [bO,bz]]],false⟩
def Ep:Fn:=⟨3,[],iH 13,[.asg (.at bO 14) bz,.asg (.at bO 15) cU,.asg (.at bO 16)<|.list true [],.asg (.at bO 17)<|.list true [],.asg (.at bO 18)<|.list true [],.asg (.at bO 19)<|.fM true,.asg (.at bO 20)<|.fM true,.for CB .fH [jm<|.attr bz 8] [.expr<|.bj bO 21 [.tup [dm,.tup []]]],.for OV .over [dy 183 [bz]] [.for Sl .over [dy 228 [bz,eA]] [.ifs (gG (cy g9 0)<|dw 29) [.expr<|.bj bO 21 [.bj bO 23 [cy g9 1]]] []],.for CA .over [.tup [dy 303 [bz,eA],dy 310 [bz,eA]]] [.ifs (.cmp .jt iS .none) [.expr<|.bj bO 21 [.bj bO 23 [iS]]] []]]],false⟩
def adN:Fn:=⟨2,[],iH 7,[.ifs (.cmp .isIn bz<|eM 19) [.ret<|.sub (eM 19) bz] [],.asg (.tp [.nm 2,.nm 3]) bz,et 4<|.ite (.cmp .ne dm<|.tup []) (.bj bO 21 [.tup [cU,.i5 dm<|.neg<|.int 1]])<|.neg<|.int 1,et 5<|jm<|eM 16,.asg (.ix (eM 19) bz) g9,.expr<|.bj (eM 16) 0 [.oR 1],.expr<|.bj (eM 17) 0 [.oR 4],.expr<|.bj (eM 18) 0 [.list true []],.ifs (.cmp .ge eA<|.int 0) [.expr<|.bj (.sub (eM 18) eA) 0 [.oR 5]] [],.ret g9],true⟩
def adM:Fn:=⟨2,[],iH 8,[.asg (.tp [.nm 2,.nm 3]) bz,.for OV .fH [jm dm] [.ifs (gG (cy (.sub dm eA) 0)<|dw 18) [.ret eA] [],.ifs (gG (cy (.sub dm eA) 0)<|dw 17) [.ifs (gG (cy (dy 214 [eM 14,.tup [cU,.i5 dm eA],eM 15]) 0)<|dw 0) [.ret eA] []] []],.ret<|jm dm],false⟩
def adL:Fn:=⟨2,[],iH 3,[.ret<|.tup [cy bz 0,.bi .tuple [.i5 (cy bz 1)<|.bj bO 22 [bz]]]],false⟩
def adK:Fn:=⟨2,[],iH 3,[.ret<|.cmp .lt (.bj bO 22 [bz])<|jm<|cy bz 1],false⟩
def adJ:Fn:=⟨2,[],iH 6,[.asg (.tp [.nm 2,.nm 3])<|.bj bO 23 [bz],et 4<|jm dm,.tR (.cmp .jr (.tup [cU,.i5 dm eA])<|eM 19) [.bad],.ret<|.sub (eM 19)<|.tup [cU,.i5 dm eA]],false⟩
def adI:Fn:=⟨2,[],iH 3,[.ret<|.and [.not<|.bj bO 24 [bz],.cmp .isIn (.tup [cy bz 0,.bi .tuple [cy bz 1]])<|eM 19]],false⟩
def Zb:Fn:=⟨2,[],iH 6,[.ifs (.cmp .jr bz<|eM 20) [.asg (.tp [.nm 2,.nm 3])<|.tup [.list true [],.list true [bz]],.tR (.cmp .ne dm<|.list false []) [et 4<|.bj dm 2 [],.expr<|.bj cU 0 [.oR 4],.expr<|.bj dm 1 [.sub (eM 18) eA]],.asg (.ix (eM 20) bz)<|.bi .sorted [cU]] [],.ret<|.sub (eM 20) bz],false⟩
def Za:Fn:=⟨3,[],iH 9,[.asg (.at bO 14) bz,.asg (.at bO 28)<|dy 404 [bz,cU],.asg (.at bO 29)<|.fM true,.for CB .over [dy 183 [bz]] [.asg (.ix (eM 29) dm)<|.bj bO 34 [dm]],.asg (.at bO 30)<|dy 261 [bz,dy 254 [bz,.bj bO 31 [],eM 35,TJ 240],eM 35]],false⟩
def Y9:Fn:=⟨1,[],iH 9,[et 1<|.bi .cY [],.for JO .fH [jm<|.attr (eM 14) 8] [et 3<|.Ae .lt .le (.int 0) cU<|.attr (eM 14) 7,et 1<|.bj bO 32 [bz,.bj (eM 28) 25 [.tup [cU,.tup []]],.ite dm (.int 0)<|.int 2]],.ret bz],false⟩
def Ir:Fn:=⟨4,[],[.loc,.p9,.loc,.p9,.loc,.loc,.loc,.loc,.loc],[et 4<|.bj (eM 28) 27 [cU],.ifs (gG dm<|.int 3) [et 5<|.comp false [none,none,none,some 1] bz qy .over [.oR 4] [.cmp .isIn (.bin .add (.bin .mul (.int 3) bz)<|.int 0) dm],et 6<|.bi .cY [.comp false [none,none,none] (.bin .add (.bin .mul (.int 3) bz)<|.int 0) qy .over [.oR 5] []],.ret<|.bin .bor (.bin .sub bz iS)<|.bi .cY [.comp false [none,none,none] (.bin .add (.bin .mul (.int 3) bz)<|.int 1) qy .over [.oR 5] []]] [],et 6<|.bi .cY [.Cd [none,none,none,none,none,none] (.bin .add (.bin .mul (.int 3) bz) cU) qy .over [.oR 4] JO<|.tup [.int 0,.int 1,.int 2]],.ret<|.bin .bor (.bin .sub bz iS)<|.bi .cY [.comp false [none,none,some 3] (.bin .add (.bin .mul (.int 3) bz) cU) qy .over [.oR 4] []]],false⟩
def Y8:Fn:=⟨2,[],iH 2,[.ret<|.sub (eM 29) bz],false⟩
def Y7:Fn:=⟨2,[],iH 15,[et 2<|.list true [],.for CB .over [dy 228 [eM 14,bz]] [.ifs (.and [gG (cy dm 0)<|dw 29,.bj (eM 28) 26 [cy dm 1]]) [.expr<|.bj cU 0 [.tup [.bj (eM 28) 25 [cy dm 1],.int 1]]] []],.asg (.tp [.nm 4,.nm 5])<|.tup [dy 310 [eM 14,bz],dy 317 [eM 14,bz]],et 6<|dy 303 [eM 14,bz],.ifs (.and [.cmp .jt eA .none,.bj (eM 28) 26 [eA]]) [.expr<|.bj cU 0 [.tup [.bj (eM 28) 25 [eA],.int 3]]] [],.ifs (.cmp .jt g9 .none) [.expr<|.bj cU 0 [.tup [.bj (eM 28) 25 [.tup [g9,.tup []]],.int 2]]] [],.ifs (.and [.cmp .jt iS .none,.bj (eM 28) 26 [iS]]) [.expr<|.bj cU 0 [.tup [.bj (eM 28) 25 [iS],.int 0]]] [],.ret cU],false⟩
def Y6:Fn:=⟨4,[],iH 6,[.for (.many [4,5]) .over [.bj bO 33 [.tup [cU,dm]]] [et 1<|.bj bO 32 [bz,eA,g9]],.ret bz],false⟩
def Y5:Fn:=⟨2,[],iH 2,[.ret<|.bj (eM 30) 4 [bz]],false⟩
def adH:Fn:=⟨4,[],iH 4,[.ret<|.cmp .isIn (.bin .add (.bin .mul (.int 3) cU) dm) bz],false⟩
def adG:Fn:=⟨4,[],iH 14,[et 4<|cy bO 0,.ifs (gG dm<|.int 0) [.expr<|.bj cU 1 [dy 87 [bO]],.bad] [],.ifs (.or [gG eA<|dw 1,gG eA<|dw 2]) [.expr<|dy 504 [cy bO 1,bz,cU,.bin .sub dm<|.int 1]] [.ifs (gG eA<|dw 3) [.for Sl .over [cy bO 1] [.expr<|dy 504 [g9,bz,cU,.bin .sub dm<|.int 1]]] [.ifs (gG eA<|dw 4) [.ifs (dy 324 [bO,bz]) [.expr<|.bj cU 1 [dy 87 [bO]]] [.for CA .fH [jm<|.attr (.sub (.attr bz 61)<|cy bO 1) 51] [.for (.many [7,5]) .over [dy 106 [bO,iS,bz]] [.expr<|dy 504 [g9,bz,cU,.bin .sub dm<|.int 1]]]]] []]]],false⟩
def Y4:Fn:=⟨3,[],[.p9,.loc,.loc,.p9,.loc],[et 3<|.bj bO 36 [bz],.ifs (.cmp .is dm .none) [.ret<|.bool false] [],et 4<|.bj (eM 28) 27 [.bj (eM 28) 25 [.tup [cU,.tup []]]],.ret<|.cmp .ne (.comp false [none,none,none,some 3,some 0] bz qy .over [.oR 4] [.bj eA 37 [dm,bz,.int 0]])<|.list false []],false⟩
def QZ:Fn:=⟨5,[],[.loc,.loc,.loc,.loc,.loc,.p9,.loc,.loc,.loc,.loc,.loc,.loc,.loc,.loc,.loc,.loc,.loc,.loc,.loc],[et 5<|.fM true,.asg (.tp [.nm 6,.nm 7])<|.tup [.list true [],.list true []],.for OU .over [eM 8] [et 9<|.list true [],.expr<|dy 504 [cy xr 0,bz,De,.int 8],.expr<|.bj iS 0 [dy 87 [cy xr 0]],.expr<|.bj ou 0 [.oR 9]],.for (.many [10,11]) .enum [.oR 2] [.for JP .over [.bj dm 45 [vm]] [.for AQ .over [.sub iS qz] [.asg (.ix (.bj g9 5 [OW,.fM true]) yY)<|.bool true]],.for JP .over [.bi .sorted [.bj dm 46 [vm]]] [.ifs (.and [.cmp .ne (.sub ou qz)<|.list false [],dy 509 [eA,vm,qz]]) [.for AQ .over [.sub ou qz] [.asg (.ix (.bj g9 5 [OW,.fM true]) yY)<|.bool true]] []]],.ret<|.yu [none,none,none,some 5] bz (.bi .sorted [.sub dm bz]) qy<|.oR 5],false⟩
def Y3:Fn:=⟨2,[],iH 15,[et 2<|.list true [],.for CB .over [dy 228 [bO,bz]] [.ifs (.cmp .ne (cy dm 0)<|dw 30) [.expr<|.bj cU 0 [cy (cy dm 1) 0],.expr<|.bj cU 1 [dy 233 [cy dm 1]]] []],.for OV .over [.tup [dy 296 [bO,bz],dy 310 [bO,bz]]] [.ifs (.cmp .jt eA .none) [.expr<|.bj cU 1 [dy 233 [eA]]] []],.asg (.tp [.nm 5,.nm 6])<|.tup [dy 296 [bO,bz],dy 303 [bO,bz]],.ifs (.cmp .jt g9 .none) [.expr<|.bj cU 0 [cy g9 0]] [],.ifs (.and [.cmp .jt iS .none,.cmp .ne (cy iS 1)<|.tup []]) [.expr<|.bj cU 0 [cy iS 0],.expr<|.bj cU 1 [dy 233 [iS]]] [],.ifs (dy 529 [bO,bz]) [.expr<|.bj cU 0 [.int 0]] [],.ret<|.bi .ja [cU]],false⟩
def Y2:Fn:=⟨2,[],iH 5,[.asg (.tp [.nm 2,.nm 3])<|.sub (eM 9)<|cy bz 0,.ret<|.and [gG (cy bz 1)<|jm cU,gG (cy dm 0)<|dw 31]],false⟩
def Y1:Fn:=⟨2,[],iH 4,[et 2<|dy 310 [bO,bz],.ret<|.ite (.cmp .is cU .none) (.list true [])<|.list true [cy cU 0]],false⟩
def Y0:Fn:=⟨2,[],iH 7,[.asg (.tp [.nm 2,.nm 3])<|.tup [dy 317 [bO,bz],dy 303 [bO,bz]],et 4<|.ite (.cmp .is cU .none) (.list true [])<|.list true [cU],.ifs (.and [.cmp .jt dm .none,gG (cy dm 1)<|.tup []]) [.expr<|.bj eA 0 [cy dm 0]] [],.ret eA],false⟩
def YZ:Fn:=⟨2,[],iH 14,[.asg (.tp [.at bO 38,.at bO 39,.at bO 40])<|.tup [.fM true,.fM true,.fM true],.for JO .over [dy 183 [bz]] [.asg (.ix (eM 38) cU)<|.bi .cY [dy 522 [bz,cU]],.asg (.ix (eM 39) cU)<|.bi .cY [dy 536 [bz,cU]],.asg (.ix (eM 40) cU)<|.bi .cY [dy 543 [bz,cU]]],et 3<|dy 282 [bz,.xD,eM 43,TJ 240],et 4<|dy 282 [bz,.xD,eM 44,TJ 240],.asg (.at bO 41)<|dy 289 [bz,dm,.xD,eM 43,TJ 240],.asg (.at bO 42)<|dy 289 [bz,eA,.xD,eM 44,TJ 240]],false⟩
def YY:Fn:=⟨4,[],iH 4,[.ret<|.bin .bor (.bin .sub bz<|.sub (eM 40)<|.tup [cU,dm])<|.sub (eM 38)<|.tup [cU,dm]],false⟩
def YX:Fn:=⟨4,[],iH 4,[.ret<|.bin .bor (.bin .sub bz<|.sub (eM 40)<|.tup [cU,dm])<|.sub (eM 39)<|.tup [cU,dm]],false⟩
def YW:Fn:=⟨2,[],iH 2,[.ret<|.sub (eM 41) bz],false⟩
def YV:Fn:=⟨2,[],iH 2,[.ret<|.sub (eM 42) bz],false⟩
def adF:Fn:=⟨8,[.str<|sr 32,.tup []],iH 8,[.asg (.at bO 47) bz,.asg (.at bO 48) iS,.asg (.at bO 49) cU,.asg (.at bO 50) dm,.asg (.at bO 51) eA,.asg (.at bO 52) ou,.asg (.at bO 53) g9],false⟩
def adE:Fn:=⟨9,[.int 0],iH 9,[.asg (.at bO 54) bz,.asg (.at bO 49) cU,.asg (.at bO 50) dm,.asg (.at bO 55) eA,.asg (.at bO 56) g9,.asg (.at bO 57) iS,.asg (.at bO 58) ou,.asg (.at bO 59) xr],false⟩
def adD:Fn:=⟨2,[.none],iH 2,[.asg (.at bO 60) bz,.asg (.at bO 61)<|.fM true,.asg (.at bO 51)<|.fM true,.asg (.at bO 62)<|.fM true,.asg (.at bO 63)<|.fM true,.asg (.at bO 64)<|.list true [],.asg (.at bO 65)<|.fM true,.asg (.at bO 66)<|.fM true],false⟩
def zV:Fn:=⟨2,[],iH 8,[et 2<|.int 0,.ifs (.cmp .lt bz<|jm bO) [et 2<|.sub bO bz] [],et 3<|.bi .max [.bi .int [cU],.bi .int [.bin .sub (.neg<|.int 1) cU]],et 4<|.bin .mod (.bi .int [.bin .mul (.bin .add (.bin .add (.bin .add (.bin .mod (.bi .int [dm])<|.int 2147483629)<|.bin .mul (.bin .mul (.int 7919) bz) bz)<|.bin .mul (.int 31) bz)<|.int 17)<|.int 48271])<|.int 2147483647,.ret<|.list true [.bin .mul dm<|.bi .int [.cmp .ge dm<|.bin .pow (.int 10)<|.int 18],eA]],true⟩
def V1:Fn:=⟨2,[],iH 4,[.ifs (.cmp .gt (cy bO 0)<|.int 0) [et 2<|.bin .mod (.bi .int [cy bO 0]) bz,.asg (.ix bO<|.int 0)<|.bin .fdiv (cy bO 0) bz,.ret cU] [],.asg (.ix bO<|.int 1)<|.bin .mod (.bi .int [.bin .add (.bin .mul (cy bO 1)<|.int 39373)<|.int 7])<|.int 2147483647,.ret<|.bin .mod (.bi .int [.bin .fdiv (.bin .mod (.bi .int [.bin .mul (cy bO 1)<|cy bO 1])<|.int 2147483629)<|.int 32]) bz],false⟩
def YU:Fn:=⟨2,[],iH 4,[.ret<|.sub bz<|dy 680 [bO,jm bz]],false⟩
def adC:Fn:=⟨0,[],iH 7,[.asg (.tp [.nm 0,.nm 1])<|.tup [dy 662 [.none],.tup [dw 6,dw 33]],.for JO .over [.list false [dw 34,dw 35]] [et 3<|.list true [.tup [dw 36,.tup [dw 0,dw 37,.bool false,bz]]],.asg (.ix (eM 61) cU)<|dy 611 [cU,.tup [dw 37],.tup [],.list false [.tup [cU,dw 38,dm]],.bool false]],.expr<|.bj (eM 64) 0 [dy 633 [.int 0,.tup [dw 37],.list false [],dw 9,.tup [],.tup [dw 4,dw 34,.tup [dw 37],.tup []],.B6 (sr 13)<|sr 39]],.ret bO],false⟩
def adB:Fn:=⟨0,[],iH 2,[.asg (.tp [.nm 0,.nm 1])<|.tup [.tup [dw 4,dw 34,.tup [.int 1],.tup []],.tup [dw 4,dw 35,.tup [.int 2],.tup []]],.ret<|.tup [dw 3,.tup [bO,bz,.tup [dw 1,.tup [dw 4,dw 34,.tup [.int 3],.tup []]],.tup [dw 0,.int 4,.bool false,.tup [dw 4,dw 34,.tup [.int 5],.tup []]]]]],false⟩
def YT:Fn:=⟨1,[],iH 6,[et 1<|.rep true (dw 40)<|dy 680 [bO,.int 2],.for JO .fH [.bin .add (.int 2)<|dy 680 [bO,.int 8]] [.expr<|.bj bz 0 [dy 687 [bO,.list false [dw 40,dw 19,dw 13,dw 41,dw 42,dw 43,dw 13,dw 44]]]],.ret bz],false⟩
def V0:Fn:=⟨1,[],iH 10,[.asg (.tp [.nm 1,.nm 2])<|.tup [.list true [.list true [.list true [],.tup [dw 45,dw 46]]],.list true []],.for CB .over [.oR 0] [.expr<|.bj cU 0 [.tup [.bin .sub (jm bz)<|.int 1,jm<|cy (.sub bz<|.neg<|.int 1) 0]],.ifs (gG (.i5 dm<|.int 4)<|dw 13) [et 4<|.ite (gG dm<|dw 13) (.tup [])<|.tup [.tup [dw 16,.bi .int [.i6 dm<|.neg<|.int 1]]],.asg (.ix (.sub bz<|.neg<|.int 1)<|.int 1)<|.tup [dw 13,.tup [.int 1,eA],jm bz],.expr<|.bj bz 0 [.list true [.list true [],.tup [dw 45,dw 46]]]] [.ifs (gG dm<|dw 40) [.expr<|.bj (cy (.sub bz<|.neg<|.int 1) 0) 0 [.tup [dw 24,.tup [.int 1,.tup []],.tup [dw 19,.tup [dw 30,dy 701 [],.int 0]]]]] [.ifs (gG dm<|dw 19) [.expr<|.bj (cy (.sub bz<|.neg<|.int 1) 0) 0 [.tup [dw 25,.tup [dw 47,.tup [.int 1,.tup [.tup [dw 16,.int 1],.tup [dw 16,.int 0],.tup [dw 17]]]]]]] [.expr<|.bj (cy (.sub bz<|.neg<|.int 1) 0) 0 [.tup [dw 48]]]]]],et 5<|.list true [.tup [.tup [dw 3,.tup []],.bool true,.none],.tup [dy 701 [],.bool true,dw 49]],.ret<|.list true [dy 174 [dw 50,.int 0,g9,bz,.fM false],cU]],false⟩
def YS:Fn:=⟨2,[],iH 5,[et 2<|.i6 bO bz,et 2<|.ite (.cmp .isIn (dw 40) cU) (.i5 cU<|.bj cU 3 [dw 40]) cU,.ifs (.cmp .isIn (dw 19) cU) [.ret<|.list true [.int 1,.int 2,.int 3,.int 4,.int 5]] [],et 3<|.vJ<|.i5 bO bz,et 3<|.ite (.cmp .isIn (dw 40) dm) (.i5 dm<|.bj dm 3 [dw 40])<|.list true [dw 13],et 4<|.cmp .ne (.comp false [none,none] bz qy .over [.oR 2] [gG (.i5 bz<|.int 4)<|dw 13])<|.list false [],.ret<|.ite (.and [eA,.cmp .jr (dw 13) dm]) (.list true [.int 1,.int 3])<|.list true []],false⟩
def VZ:Fn:=⟨1,[],[.loc,.loc,.loc,.loc,.loc,.p9,.loc,.loc,.p9,.loc,.loc,.loc,.loc,.loc,.loc,.loc,.loc,.loc],[.asg (.tp [.nm 1,.nm 2])<|dy 715 [bO],.asg (.tp [.nm 3,.nm 4])<|.tup [dy 694 [],dy 183 [bz]],et 5<|dy 514 [bz,dm,eA,dy 588 [bz],dy 493 [bz,dm]],.for (.many [6,7]) .enum [.oR 2] [et 8<|.bj eA 3 [ou],.ifs (.cmp .ne (.comp false [none,none,some 8,some 5] bz qy .fH [.int 6] [.cmp .isIn cU<|.bj dm 4 [bz,.list false []]])<|dy 720 [bO,iS]) [.ret<|.bool false] []],.ret<|.bool true],false⟩
def VY:Fn:=⟨1,[],iH 9,[.ifs (.not<|dy 725 [.list false [dw 40,dw 13,dw 44,dw 41]]) [.ret<|.bool false] [],.for qy .fH [.bi .max [.int 1,.bi .min [.int 2,jm bO]]] [.ifs (.not<|dy 725 [dy 708 [dy 673 [bO,bz]]]) [.ret<|.bool false] []],.ret<|.bool true],false⟩
noncomputable def n0:Fn:=⟨1,[],[.loc,.W5 0],[.expr<|.bj bz 0 [.oR 0],.ret bO],false⟩
noncomputable def n1:Fn:=⟨1,[],[.loc,.W5 0],[.ret<|.bj bz 4 [bO,bO]],false⟩
def fnL:List (Addr×Fn):=[(49,f49),(56,f56),(61,f61),(66,f66),(73,f73),(80,f80),(87,f87),(94,f94),(101,ad0),(106,adZ),(113,adY),(128,Q0),(135,adX),(149,Zt),(156,Zr),(163,adV),(183,Zq),(188,adU),(193,Zp),(200,adT),(207,adS),(214,adR),(221,adQ),(228,Zo),(233,adP),(240,Zn),(247,Zm),(254,Zl),(261,Zk),(268,Zj),(275,Zi),(282,Zh),(289,Zg),(296,Zf),(303,Ze),(310,Zd),(317,Zc),(324,adO),(338,Ep),(345,adN),(352,adM),(359,adL),(366,adK),(373,adJ),(380,adI),(401,Zb),(422,Za),(429,Y9),(434,Ir),(441,Y8),(448,Y7),(455,Y6),(462,Y5),(469,adH),(504,adG),(509,Y4),(514,QZ),(522,Y3),(529,Y2),(536,Y1),(543,Y0),(557,YZ),(564,YY),(571,YX),(578,YW),(585,YV),(608,adF),(630,adE),(652,adD),(673,zV),(680,V1),(687,YU),(694,adC),(701,adB),(708,YT),(715,V0),(720,YS),(725,VZ),(732,VY)]
noncomputable def Nj:List (Addr×Cls):=[(174,⟨128,.freeze⟩),(404,⟨338,.some [16,17,18,19]⟩),(493,⟨422,.freeze⟩),(588,⟨557,.freeze⟩),(611,⟨608,.freeze⟩),(633,⟨630,.freeze⟩),(662,⟨652,.keep⟩)]
noncomputable def Bv:List (Addr×List (Nat×Addr)):=[(174,[(11,135),(12,149),(13,156),(59,163)]),(404,[(21,345),(22,352),(23,359),(24,366),(25,373),(26,380),(27,401)]),(493,[(31,429),(32,434),(33,441),(34,448),(35,455),(36,462),(37,469)]),(588,[(43,564),(44,571),(45,578),(46,585)]),(611,[]),(633,[]),(662,[])]
def tQ:List Str:=[o "append",o "extend",o "pop",o "index",o "get",o "setdefault",o "name",o "arg_count",o "locals",o "blocks",o "spots",o "type_of",o "statements",o "terminator",o "body",o "world",o "places",o "parents",o "kids",o "numbers",o "lots",o "add",o "depth_of",o "cut",o "is_cut",o "number_of",o "is_exact",o "below",o "paths",o "done",o "facts",o "begin",o "turned",o "deeds",o "deeds_of",o "step",o "at",o "may_be",o "used",o "dropped",o "put",o "use_facts",o "drop_facts",o "use_step",o "drop_step",o "for_use",o "for_drop",o "path",o "module",o "regions",o "params",o "variants",o "publics",o "is_enum",o "number",o "trait",o "trait_args",o "self_type",o "methods",o "spot",o "modules",o "adts",o "sigs",o "traits",o "impls",o "consts",o "bodies"]
def prog:C9:={fns:=λa=>fnL.lookup a,nest:=λk=>if k==0 then some n0 else if k==1 then some n1 else none,cls:=λa=>Nj.lookup a,meths:=λc a=>(Bv.lookup c).bind λl=>l.lookup a}
theorem aN{x:Option d}{a:d}{r:Option g}(h:x=some a)(k:f a=r):x.bind f=r:=by subst h;exact k
theorem gy{x:Option d}{a:d}{b:g}(h:x=some a)(k:f a=b):x.map f=some b:=by subst h;exact congrArg some k
abbrev tS(s:String):SV:=.str<|o s
abbrev EV(d:Nat):bH:=oT prog d
abbrev MM:bQ:=prog.meths
theorem ju{c:Bool}{x:d}(h:c=true):gd c x=some x:=by rw[h];rfl
theorem r8{n:Nat}{x:d}(h:n<=dI):gd (decide<|n<=dI) x=some x:=ju<|decide_eq_true h
theorem fS{x:d}(h:xs[i]? =some x)(l:i<=dI):rO xs (i:Int)=some x:=by unfold rO;rw[r8 (show(i:Int).natAbs<=dI from l)];exact h
theorem mZ{st:List SO}{xs:List SV}{v:SV}(h:rO xs i=some v):fb st (.lst xs) (.int i)=some v:=h
theorem ox{st:List SO}{xs:List SV}{v:SV}(H:st[k]? =some (.list xs))(h:rO xs i=some v):fb st (.h k) (.int i)=some v:=by
 have d:hU st (.h k)=none:=by show st[k]?.bind m1=none;rw[H];rfl
 have f:lz st (.h k)=some xs:=by show st[k]?.bind ft=_;rw[H];rfl
 unfold fb;rw[d];exact aN f h
theorem J6{st:List SO}{k vs:List SV}{x key v:SV}(d:hU st x=some (k,vs))(h:cF key k=some (some j))(H:vs[j]? =some v):fb st x key=some v:=by unfold fb;rw[d];exact aN h H
theorem UP{st:List SO}{x:SV}{xs:List SV}(H:lz st x=some xs)(h:xs.length<=dI):builtin st .len [x]=some (.int xs.length):=by show(lz st x).bind (λxs=>gd (decide<|xs.length<=dI)<|SV.int xs.length)=_;exact aN H<|r8 h
theorem bE{a:Addr}{fn:Fn}{args A:List SV}{v:SV}{st:List SO}{R:Option (FL×ba)}(f:prog.fns a=some fn)(k:fn.keep=false)(H:bS args=true)(g:qP fn args=some A)
  (h:cG (EV d) MM fn.body ⟨(cu fn.kinds A [] []).1,(cu fn.kinds A [] []).2⟩=R) (z:(R.bind λq=>(freeze fz (VW q.1) q.2.st).map (·.1))=some v):EV (d+1) (.raw<|.ref a) args st=some (v,st):=by
 show(match prog.fns a with|some fn=>jx (EV d) MM fn args [] st|none=>_)=_
 rw[f]
 show jx (EV d) MM fn args [] st=_
 unfold jx
 rw[k,H]
 show((qP fn args).bind _).bind _=_
 rw[g]
 show((cG (EV d) MM fn.body ⟨(cu fn.kinds A [] []).1,(cu fn.kinds A [] []).2⟩).map _).bind _=_
 rw[h]
 cases R with
 |none=>exact absurd z nofun
 |some q=>
  show(freeze fz (VW q.1) q.2.st).map _=_;have z:(freeze fz (VW q.1) q.2.st).map (·.1)=some v:=z;cases e:freeze fz (VW q.1) q.2.st with
  |none=>rw[e] at z;exact absurd z nofun
  |some r=>rw[e] at z;rw[<-aa z];rfl
theorem gJ{fn:Fn}{args A:List SV}{v:SV}{st xK f g:List SO}{fl:FL}{lo:List LV}(k:fn.keep=false)(H:bS args=false)(j:qP fn args=some A)
  (h:cG (EV d) MM fn.body ⟨(cu fn.kinds A [] st).1,(cu fn.kinds A [] st).2⟩=some (fl,⟨lo,xK⟩)) (z:freeze fz (VW fl) xK=some (v,f)) (i:jK st.length f=some g):jx (EV d) MM fn args [] st=some (v,g):=by
 unfold jx
 rw[k,H]
 show((qP fn args).bind _).bind _=_
 rw[j]
 exact aN (gy h rfl)<|aN z<|gy i rfl
theorem fX{a:Addr}{fn:Fn}{args:List SV}{st:List SO}{r:SV×List SO}(f:prog.fns a=some fn)(h:jx (EV d) MM fn args [] st=some r):EV (d+1) (.raw<|.ref a) args st=some r:=by show(match prog.fns a with|some fn=>jx (EV d) MM fn args [] st|none=>_)=_;rw[f];exact h
theorem wH{a:Addr}{fn:Fn}{args:List SV}{st:List SO}{r:SV×List SO}(f:prog.fns a=some fn)(h:jx (EV d) MM fn (l::args) [] st=some r):EV (d+1) (.rh a l) args st=some r:=aN f h
theorem iq{n:Nat}{st:List SO}(h:st.length=n):jK n st=some st:=by unfold jK;rw[decide_eq_true<|dK h]
section
variable{C:bH}{M:bQ}{σ aC aT EW τ:ba}{s:S}{r a b:List S}{R:Option (FL×ba)}{v w x y:SV}{e lh lN af3 c:E}{t:T}{vs:List SV}{es:List E}{n:Nat}
theorem aW(h:ji C M s σ=some (.next,τ))(k:cG C M r τ=R):cG C M (s::r) σ=R:=aN h k
theorem f7(h:ji C M s σ=some (.ret v,τ)):cG C M (s::r) σ=some (.ret v,τ):=aN h rfl
theorem qC(h:ji C M s σ=R):cG C M (s::r) σ=R.bind λq=>match q.1 with|.next=>cG C M r q.2|.ret v=>some (.ret v,q.2):=by subst h;rfl
theorem Us(h:bX C M e σ=some (v,τ)):ji C M (.expr e) σ=some (.next,τ):=gy h rfl
theorem bC(h:bX C M e σ=some (v,aC))(k:zq C M t v aC=some τ):ji C M (.asg t e) σ=some (.next,τ):=aN h<|gy k rfl
theorem Aw(h:bX C M c σ=some (.bool true,aC))(k:cG C M a aC=R):ji C M (.ifs c a b) σ=R:=aN h<|aN rfl k
theorem uK(h:bX C M c σ=some (.bool false,aC))(k:cG C M b aC=R):ji C M (.ifs c a b) σ=R:=aN h<|aN rfl k
theorem ej(h:bX C M e σ=some (v,τ)):ji C M (.ret e) σ=some (.ret v,τ):=gy h rfl
theorem fj(h:gp C M es σ=some (vs,aC))(H:jX ik vs=some items)(O:oJ ik N=true)(k:cz (λx τ=>(cS N x τ).bind λτ=>cG C M a τ) items aC=R):ji C M (.for N ik es a) σ=R:=aN h<|aN H<|aN (ju O) k
theorem bF(h:bX C M lh σ=some (x,aC))(k:bX C M lN aC=some (y,aT))(q:fb aT.st x y=some v):bX C M (.sub lh lN) σ=some (v,aT):=aN h<|aN k<|gy q rfl
theorem dz(h:bX C M lh σ=some (x,aC))(k:bX C M lN aC=some (y,aT))(z:ir aT.st op x y=some q):bX C M (.cmp op lh lN) σ=some (.bool q,aT):=aN h<|aN k<|gy z rfl
theorem gm(h:bX C M lh σ=some (x,aC))(k:bX C M lN aC=some (y,aT))(z:lu op x y=some v):bX C M (.bin op lh lN) σ=some (v,aT):=aN h<|aN k<|gy z rfl
theorem e_t(h:bX C M c σ=some (.bool true,aC))(k:bX C M lh aC=some (v,τ)):bX C M (.ite c lh lN) σ=some (v,τ):=aN h<|aN rfl k
theorem S5(h:bX C M c σ=some (.bool false,aC))(k:bX C M lN aC=some (v,τ)):bX C M (.ite c lh lN) σ=some (v,τ):=aN h<|aN rfl k
theorem j5(h:bX C M e σ=some (.bool true,aC))(k:bX C M (.and es) aC=some (v,τ)):bX C M (.and (e::es)) σ=some (v,τ):=aN h<|aN rfl k
theorem Gq(h:bX C M e σ=some (.bool true,aC)):bX C M (.and (e::es)) σ=bX C M (.and es) aC:=aN h<|aN rfl rfl
theorem zY(h:bX C M c σ=X):bX C M (.ite c lh lN) σ=X.bind λp=>(fa p.1).bind λb=>match b with|true=>bX C M lh p.2|false=>bX C M lN p.2:=by subst h;rfl
theorem zl(h:bX C M e σ=X):ji C M (.ret e) σ=X.map λr=>(.ret r.1,r.2):=by subst h;rfl
theorem j6(h:bX C M e σ=some (.bool false,aC)):bX C M (.and (e::es)) σ=some (.bool false,aC):=aN h<|aN rfl rfl
theorem kG(h:bX C M e σ=some (v,aC))(k:gp C M es aC=some (vs,τ)):gp C M (e::es) σ=some (v::vs,τ):=aN h<|gy k rfl
theorem d4(h:bX C M e σ=some (v,aC)):gp C M [e] σ=some ([v],aC):=aN h rfl
theorem sf(h:gp C M es σ=some (vs,aC))(k:wJ B vs aC=some (v,aT)):bX C M (.bi B es) σ=some (v,aT):=aN h k
theorem fL(h:bX C M e σ=some (x,aC))(d:lz aC.st x=some xs)(H:xs.length<=dI):bX C M (jm e) σ=some (.int xs.length,aC):=sf (d4 h)<|gy (UP d H) rfl
theorem g4(h:bX C M e σ=some (x,aC))(H:oN aC.st x=some (l,g,ws))(j:gq A g 0=none)(p:M l A=some f)(k:gp C M es aC=some (vs,aT))(q:C (.raw<|.ref f) (x::vs) aT.st=some (v,d)):bX C M (.bj e A es) σ=some (v,{aT with st:=d}):=
 aN h (by show(match oN aC.st x with|some i=>_|none=>_)=_;rw[H];show((gd (gq A g 0).isNone ()).bind _)=_;rw[j];exact aN (a:=f) p<|aN k<|gy q rfl)
theorem bM(h:bX C M e σ=some (f,aC))(k:gp C M es aC=some (vs,aT))(q:C f vs aT.st=some (v,d)):bX C M (.call e es) σ=some (v,{aT with st:=d}):=aN h<|aN k<|gy q rfl
theorem jW{i n:Nat}{q:Bool}{st:List SO}(h:decide (i<n)=q):ir st .lt (.int i) (.int n)=some q:=by show some (decide<|(i:Int)<n)=_;rw[<-h];simp
theorem yX{i n:Nat}{q:Bool}{st:List SO}(h:decide (i=n)=q):ir st .eq (.int i) (.int n)=some q:=by show some (bc (.int i)<|.int n)=_;rw[<-h];show some ((i:Int)==n)=_;congr 1;rw[g8,beq_iff_eq,decide_eq_true_eq];exact mW
theorem gL{x:SV}(h:f x σ=some (.next,τ))(k:cz f xs τ=R):cz f (x::xs) σ=R:=aN h k
theorem H6{d:Type}{f:SV->ba->Option (FL×ba)}{g:d->SV}{F:Nat->ba}(xs:List d):∀(k:Nat),(∀(i:Nat)(x:d),xs[i]? =some x->f (g x) (F<|k+i)=some (.next,F<|k+i+1))->cz f (xs.map g) (F k)=some (.next,F<|k+xs.length):=by
 induction xs with
 |nil=>intro k _;exact rfl
 |cons x xs I=>
  intro k h;refine gL (h 0 x rfl) ?_;have:=I (k+1) λi y e=>by have:=h (i+1) y e;rwa[show k+(i+1)=k+1+i by exact W9] at this
  rwa[show k+1+xs.length=k+(x::xs).length by rw[cI];exact ar2] at this
theorem Qn{d:Type}{f:SV->ba->Option (FL×ba)}{g:d->SV}{F:Nat->ba}(xs:List d)(h:∀(i:Nat)(x:d),xs[i]? =some x->f (g x) (F i)=some (.next,F<|i+1)):cz f (xs.map g) (F 0)=some (.next,F xs.length):=by
 have:=H6 xs 0 λi x e=>by rw[b9];exact h i x e
 rwa[b9] at this
theorem v9{f:SV->ba->Option (FL×ba)}{F:Nat->ba}(n:Nat)(h:∀i,i<n->f (.int i) (F i)=some (.next,F<|i+1)):cz f ((ak n).map λi:Nat=>SV.int i) (F 0)=some (.next,F n):=by
 have:=Qn (ak n) λi x e=>by obtain⟨H,d⟩:=af.mp e;rw[b3] at d;rw[ar] at H;subst d;exact h i H
 rwa[ar] at this
end
section
set_option genCtorIdx true in
inductive W where
 |set|use|rest|drop|d0|d1|d2
noncomputable def we:W->Bool
 |.set=>false|.use=>false|.rest=>false|_=>true
abbrev dB:=List W×Option W
def qS(TY:SV):SV:=.lst [.tup [.tup [tS "tuple",.tup []],.bool true,.none],.tup [TY,.bool true,tS "t"]]
def TY:SV:=.tup [tS "tuple",.tup [.tup [tS "adt",tS "G",.tup [.int 1],.tup []],.tup [tS "adt",tS "H",.tup [.int 2],.tup []],.tup [tS "box",.tup [tS "adt",tS "G",.tup [.int 3],.tup []]],.tup [tS "ref",.int 4,.bool false,.tup [tS "adt",tS "G",.tup [.int 5],.tup []]]]]
def ZD:SV:=.tup [tS "copy",.tup [.int 1,.tup [.tup [tS "field",.int 1],.tup [tS "field",.int 0],.tup [tS "deref"]]]]
def ZC:SV:=.tup [tS "const",TY,.int 0]
def qB:W->SV
 |.set=>.tup [tS "assign",.tup [.int 1,.tup []],.tup [tS "use",ZC]]
 |.use=>.tup [tS "print",ZD]
 |_=>.tup [tS "nop"]
def mf:W->SV
 |.d0=>.tup [.tup [tS "field",.int 0]]
 |.d1=>.tup [.tup [tS "field",.int 1]]
 |.d2=>.tup [.tup [tS "field",.int 2]]
 |_=>.tup []
def PZ(w:W):SV:=.tup [.int 1,mf w]
def Dp(b:Nat):Option W->SV
 |none=>.tup [tS "panic",tS "end"]
 |some w=>.tup [tS "drop",PZ w,.int (b+1:Nat)]
def t9(b:Nat)(x:dB):SV:=.lst [.lst<|x.1.map qB,Dp b x.2]
def rg(B:List dB):List SV:=B.zipIdx.map λp=>t9 p.2 p.1
def o7(s:List SV)(L:SV):SV:=.inst 174 [6,7,8,9,10] [tS "f",.int 0,L,.lst s,.fW [] []]
abbrev BD(B:List dB):SV:=o7 (rg B)<|qS TY
noncomputable def a7(p:Nat×Nat):SV:=.tup [.int p.1,.int p.2]
def lG.T1(B:List dB):Prop:=∀x∈B,x.1.length<=1000/\(∀w∈x.1,we w=false)/\∀w,x.2=some w->we w=true
def lG.T2(B:List dB):Prop:=∀(b:Nat)(x:dB),B[b]? =some x->(x.2=none↔b+1=B.length)
structure lG(B:List dB):Prop where
 len:B.length<=40
 each:lG.T1 B
 last:lG.T2 B
noncomputable def wd(x:dB)(i:Nat):Option W:=if i<x.1.length then x.1[i]? else x.2
theorem Ta{B:List dB}{b:Nat}{x:dB}(h:B[b]? =some x):(rg B)[b]? =some (t9 b x):=by unfold rg;rw[ai,kM,h];show some (t9 (0+b) x)=_;rw[b9]
theorem gc{B:List dB}:(rg B).length=B.length:=by unfold rg;rw[ag,sy]
variable{B:List dB}{b i d:Nat}{x:dB}{st:List SO}
theorem lG.at(O:lG B)(h:B[b]? =some x):b<=dI/\(x.1.map qB).length+1<=dI:=by have H:=(af.mp h).1;have a:=(O.each x<|aH h).1;have c:=O.len;rw[ag];show b<=4000/\x.1.length+1<=4000;exact ae4 H a c
theorem lG.w9(O:lG B)(h:B[b]? =some x):fb st (.lst<|rg B) (.int b)=some (t9 b x):=mZ<|fS (Ta h) (O.at h).1
theorem zb(O:lG B)(h:B[b]? =some x)(a:x.1[i]? =some w):fb st (.lst<|x.1.map qB) (.int i)=some (qB w):=by refine mZ (fS (by rw[ai,a];rfl) ?_);have c:=(af.mp a).1;have H:=(O.at h).2;rw[ag] at H;exact ae3 c H
theorem yC{P:Option W->Prop}(O:lG B)(h:B[b]? =some x)(I:i<=x.1.length)(A:∀w,x.1[i]? =some w->(w=.set\/w=.use\/w=.rest)->i<(x.1.map qB).length->P (some w))
  (N:i=(x.1.map qB).length->∀t,x.2=t->(t=none\/t=some .drop\/t=some .d0\/t=some .d1\/t=some .d2)->P t):P (wd x i):=by
 refine nK (O.each x<|aH h) λz a c=>?_
 unfold wd
 by_cases q:i<x.1.length
 ·rw[if_pos q,ax q];have H:=a _<|kl q;refine A _ (ax q) ?_ (by rw[ag];exact q);cases e:x.1[i]<;>rw[e] at H<;>first|exact ae H|simp
 ·rw[if_neg q];refine N (by rw[ag];exact ae2 I q) _ rfl ?_;cases e:x.2 with
  |none=>exact .inl rfl
  |some w=>have:=c w e;cases w<;>first|exact ae this|simp
theorem VU:prog.fns 149=some Zt:=by kernel_rfl
theorem VT:prog.fns 156=some Zr:=by kernel_rfl
theorem MI:prog.fns 228=some Zo:=by kernel_rfl
theorem zT:prog.fns 296=some Zf:=by kernel_rfl
theorem zS:prog.fns 303=some Ze:=by kernel_rfl
theorem MG:prog.fns 310=some Zd:=by kernel_rfl
theorem ME:prog.fns 317=some Zc:=by kernel_rfl
theorem MC:prog.fns 529=some Y2:=by kernel_rfl
theorem FX:MM 174 12=some 149:=by kernel_rfl
theorem SJ:MM 174 13=some 156:=by kernel_rfl
theorem Rq(O:lG B)(h:B[b]? =some x):EV (d+1) (fh 149) [BD B,.int b] st=some (.lst<|x.1.map qB,st):=
 bE VU rfl rfl rfl (f7<|ej<|bF (bF rfl rfl<|O.w9 h) rfl rfl) rfl
theorem ZV(O:lG B)(h:B[b]? =some x):EV (d+1) (fh 156) [BD B,.int b] st=some (Dp b x.2,st):=
 bE VT rfl rfl rfl (f7<|ej<|bF (bF rfl rfl<|O.w9 h) rfl rfl) (by rcases x.2 with _|w;rfl;cases w<;>rfl)
def Lj:Option W->List SV
 |some .set=>[ZC]|some .use=>[ZD]|_=>[]
noncomputable def O1:Option W->SV
 |some .set=>.tup [.int 1,.tup []]|_=>.none
def Jf:Option W->SV
 |some .drop=>PZ .drop|some .d0=>PZ .d0|some .d1=>PZ .d1|some .d2=>PZ .d2|_=>.none
theorem mj(h:n+1<=dI):n<=dI:=ct h
theorem Wf(O:lG B)(h:B[b]? =some x)(I:i<=x.1.length):EV (d+3) (fh 228) [BD B,a7 (b,i)] st=some (.lst<|Lj<|wd x i,st):=by
 have H:=(O.at h).2;refine yC (P:=λz=>EV (d+3) (fh 228) [BD B,a7 (b,i)] st=some (.lst<|Lj z,st)) O h I (λw c k l=>?_) λe t a k=>?_
 ·refine bE MI rfl rfl rfl (aW (bC rfl rfl)<|qC<|Aw (dz rfl (fL (g4 rfl rfl rfl FX rfl<|Rq O h) rfl<|mj H)<|jW<|decide_eq_true l)<|aW (bC (bF (g4 rfl rfl rfl FX rfl<|Rq O h) rfl<|zb O h c) rfl) rfl) ?_;rcases k with rfl|rfl|rfl<;>kernel_rfl
 ·refine bE MI rfl rfl rfl (aW (bC rfl rfl)<|aW (uK (dz rfl (fL (g4 rfl rfl rfl FX rfl<|Rq O h) rfl<|mj H)<|jW<|decide_eq_false (by rw[e];exact b0 _)) rfl)<|aW (bC (g4 rfl rfl rfl SJ rfl<|ZV O h) rfl) rfl) ?_;rw[a];rcases k with rfl|rfl|rfl|rfl|rfl<;>kernel_rfl
end
section
variable{B:List dB}{b i d:Nat}{x:dB}{st:List SO}
theorem ZQ(O:lG B)(h:B[b]? =some x)(I:i<=x.1.length):EV (d+1) (fh 296) [BD B,a7 (b,i)] st=some (.none,st):=by
 have H:=mj (O.at h).2;refine yC (P:=λz=>EV (d+1) (fh 296) [BD B,a7 (b,i)] st=some (.none,st)) O h I (λw a k l=>?_) λe t c k=>?_
 ·have S:∀{st:List SO},fb st (.lst<|x.1.map qB) (.int i)=some (qB w):=zb O h a;rcases k with rfl|rfl|rfl
  ·exact bE zT rfl rfl rfl (aW (bC rfl rfl)<|aW (bC (bF (bF rfl rfl<|O.w9 h) rfl rfl) rfl)<|qC<|Aw (j5 (dz rfl (fL rfl rfl H)<|jW<|decide_eq_true l)<|j5 (dz (bF (bF rfl rfl S) rfl rfl) rfl<|by kernel_rfl) rfl)<|aW (bC (bF (bF rfl rfl S) rfl rfl) rfl) rfl) (by kernel_rfl)
  ·exact bE zT rfl rfl rfl (aW (bC rfl rfl)<|aW (bC (bF (bF rfl rfl<|O.w9 h) rfl rfl) rfl)<|qC<|uK (j5 (dz rfl (fL rfl rfl H)<|jW<|decide_eq_true l)<|j6<|dz (bF (bF rfl rfl S) rfl rfl) rfl<|by kernel_rfl) rfl)<|rfl
  ·exact bE zT rfl rfl rfl (aW (bC rfl rfl)<|aW (bC (bF (bF rfl rfl<|O.w9 h) rfl rfl) rfl)<|qC<|uK (j5 (dz rfl (fL rfl rfl H)<|jW<|decide_eq_true l)<|j6<|dz (bF (bF rfl rfl S) rfl rfl) rfl<|by kernel_rfl) rfl)<|rfl
 ·exact bE zT rfl rfl rfl (aW (bC rfl rfl)<|aW (bC (bF (bF rfl rfl<|O.w9 h) rfl rfl) rfl)<|qC<|uK (j6<|dz rfl (fL rfl rfl H)<|jW<|decide_eq_false (by rw[e];exact b0 _)) rfl)<|rfl
theorem Ro(O:lG B)(h:B[b]? =some x)(I:i<=x.1.length):EV (d+1) (fh 303) [BD B,a7 (b,i)] st=some (O1<|wd x i,st):=by
 have H:=mj (O.at h).2;refine yC (P:=λz=>EV (d+1) (fh 303) [BD B,a7 (b,i)] st=some (O1 z,st)) O h I (λw c k l=>?_) λe t a k=>?_
 ·have S:∀{st:List SO},fb st (.lst<|x.1.map qB) (.int i)=some (qB w):=zb O h c;rcases k with rfl|rfl|rfl
  ·exact bE zS rfl rfl rfl (aW (bC rfl rfl)<|aW (bC (bF rfl rfl<|O.w9 h) rfl)<|qC<|Aw (dz rfl (fL rfl rfl H)<|jW<|decide_eq_true l)<|f7<|ej<|e_t (dz (bF (bF rfl rfl S) rfl rfl) rfl<|by kernel_rfl)<|bF (bF rfl rfl S) rfl rfl)<|rfl
  ·exact bE zS rfl rfl rfl (aW (bC rfl rfl)<|aW (bC (bF rfl rfl<|O.w9 h) rfl)<|qC<|Aw (dz rfl (fL rfl rfl H)<|jW<|decide_eq_true l)<|f7<|ej<|S5 (dz (bF (bF rfl rfl S) rfl rfl) rfl<|by kernel_rfl) rfl)<|rfl
  ·exact bE zS rfl rfl rfl (aW (bC rfl rfl)<|aW (bC (bF rfl rfl<|O.w9 h) rfl)<|qC<|Aw (dz rfl (fL rfl rfl H)<|jW<|decide_eq_true l)<|f7<|ej<|S5 (dz (bF (bF rfl rfl S) rfl rfl) rfl<|by kernel_rfl) rfl)<|rfl
 ·refine bE zS rfl rfl rfl (aW (bC rfl rfl)<|aW (bC (bF rfl rfl<|O.w9 h) rfl)<|qC<|uK (dz rfl (fL rfl rfl H)<|jW<|decide_eq_false (by rw[e];exact b0 _)) rfl) ?_;rw[a];rcases k with rfl|rfl|rfl|rfl|rfl<;>kernel_rfl
theorem Rn(O:lG B)(h:B[b]? =some x)(I:i<=x.1.length):EV (d+1) (fh 310) [BD B,a7 (b,i)] st=some (Jf<|wd x i,st):=by
 have H:=mj (O.at h).2;refine yC (P:=λz=>EV (d+1) (fh 310) [BD B,a7 (b,i)] st=some (Jf z,st)) O h I (λw c k l=>?_) λe t a k=>?_
 ·refine bE MG rfl rfl rfl (aW (bC rfl rfl)<|aW (bC (bF rfl rfl<|O.w9 h) rfl)<|f7<|ej<|S5 (j6<|dz rfl (fL rfl rfl H)<|yX<|decide_eq_false<|bN l) rfl) ?_;rcases k with rfl|rfl|rfl<;>kernel_rfl
 ·refine bE MG rfl rfl rfl (aW (bC rfl rfl)<|aW (bC (bF rfl rfl<|O.w9 h) rfl)<|qC<|zl<|zY<|Gq<|dz rfl (fL rfl rfl H)<|yX<|decide_eq_true e) ?_;rw[a];rcases k with rfl|rfl|rfl|rfl|rfl<;>kernel_rfl
theorem ZP(O:lG B)(h:B[b]? =some x)(I:i<=x.1.length):EV (d+1) (fh 317) [BD B,a7 (b,i)] st=some (.none,st):=by
 have H:=mj (O.at h).2;refine yC (P:=λz=>EV (d+1) (fh 317) [BD B,a7 (b,i)] st=some (.none,st)) O h I (λw a k l=>?_) λe t c k=>?_
 ·have S:∀{st:List SO},fb st (.lst<|x.1.map qB) (.int i)=some (qB w):=zb O h a;rcases k with rfl|rfl|rfl<;>
  exact bE ME rfl rfl rfl (aW (bC rfl rfl)<|aW (bC (bF (bF rfl rfl<|O.w9 h) rfl rfl) rfl)<|qC<|uK (j5 (dz rfl (fL rfl rfl H)<|jW<|decide_eq_true l)<|j6<|dz (bF (bF rfl rfl S) rfl rfl) rfl<|by kernel_rfl) rfl)<|rfl
 ·exact bE ME rfl rfl rfl (aW (bC rfl rfl)<|aW (bC (bF (bF rfl rfl<|O.w9 h) rfl rfl) rfl)<|qC<|uK (j6<|dz rfl (fL rfl rfl H)<|jW<|decide_eq_false (by rw[e];exact b0 _)) rfl)<|rfl
end
section
variable{B:List dB}{b i d:Nat}{x:dB}{st:List SO}
theorem Vw:prog.fns 522=some Y3:=by kernel_rfl
theorem Vv:prog.fns 536=some Y1:=by kernel_rfl
theorem Vu:prog.fns 543=some Y0:=by kernel_rfl
section
variable{C:bH}{M:bQ}{σ aC aT:ba}{lh lN:E}{v w:SV}
theorem oU(h:bX C M lh σ=some (v,aC))(k:bX C M lN aC=some (w,aT)):bX C M (.tup [lh,lN]) σ=some (.tup [v,w],aT):=aN (kG h<|d4 k) rfl
theorem V4(h:bX C M lh σ=some (v,aC))(k:bX C M lN aC=some (w,aT))(l:bX C M e aT=some (u,a)):bX C M (.tup [lh,lN,e]) σ=some (.tup [v,w,u],a):=aN (kG h<|kG k<|d4 l) rfl
end
theorem aew(O:lG B)(h:B[b]? =some x)(I:i<=x.1.length):EV (d+1) (fh 529) [BD B,a7 (b,i)] st=some (.bool false,st):=by
 have H:=mj (O.at h).2;refine yC (P:=λz=>EV (d+1) (fh 529) [BD B,a7 (b,i)] st=some (.bool false,st)) O h I (λw c k l=>?_) λe t a k=>?_
 ·exact bE MC rfl rfl rfl (aW (bC (bF rfl rfl<|O.w9 h) rfl)<|f7<|ej<|j6<|dz rfl (fL rfl rfl H)<|yX<|decide_eq_false<|bN l)<|rfl
 ·refine bE MC rfl rfl rfl (aW (bC (bF rfl rfl<|O.w9 h) rfl)<|qC<|zl<|Gq<|dz rfl (fL rfl rfl H)<|yX<|decide_eq_true e) ?_;rw[a];rcases k with rfl|rfl|rfl|rfl|rfl<;>kernel_rfl
noncomputable def usO:Option W->List SV
 |some .use=>[.int 1]|_=>[]
noncomputable def drL:Option W->List SV
 |some .drop=>[.int 1]|some .d0=>[.int 1]|some .d1=>[.int 1]|some .d2=>[.int 1]|_=>[]
noncomputable def seL:Option W->List SV
 |some .set=>[.int 1]|_=>[]
def F5(B:List dB)(p:Nat×Nat)(a b c d:LV)(l:List SV):ba:=⟨[.val<|BD B,.val<|a7 p,.val<|.h 0,a,b,c,d,.un,.un,.un,.un,.un,.un,.un,.un],[.list l]⟩
theorem GF(O:lG B)(h:B[b]? =some x)(H:i<=x.1.length)
  (f:EV (d+3) (fh 228) [BD B,a7 (b,i)] [.list []]=some (.lst p,[.list []])) (e2:EV (d+3) (fh 310) [BD B,a7 (b,i)] [.list s]=some (r,[.list s])) (g:EV (d+3) (fh 303) [BD B,a7 (b,i)] [.list s]=some (a,[.list s]))
  (k:cz (λx τ=>(cS CB x τ).bind λτ=>cG (EV<|d+3) MM [.ifs (.cmp .ne (cy dm 0)<|.str<|sr 30) [.expr<|.bj cU 0 [cy (cy dm 1) 0],.expr<|.bj cU 1 [dy 233 [cy dm 1]]] []] τ) p (F5 B (b,i) .un .un .un .un [])=some (.next,F5 B (b,i) a3 .un .un .un s))
  (j:(cS OV r<|F5 B (b,i) a3 (.val .none) .un .un s).bind (λτ=>cG (EV<|d+3) MM [.ifs (.cmp .jt eA .none) [.expr<|.bj cU 1 [dy 233 [eA]]] []] τ)=some (.next,F5 B (b,i) a3 (.val r) .un .un s))
  (l:ji (EV<|d+3) MM (.ifs (.and [.cmp .jt iS .none,.cmp .ne (cy iS 1)<|.tup []]) [.expr<|.bj cU 0 [cy iS 0],.expr<|.bj cU 1 [dy 233 [iS]]] []) (F5 B (b,i) a3 (.val r) (.val .none) (.val a) s)=some (.next,F5 B (b,i) a3 (.val r) (.val .none) (.val a) s))
  (y:wJ .ja [.h 0] (F5 B (b,i) a3 (.val r) (.val .none) (.val a) s)=some (.lst s,F5 B (b,i) a3 (.val r) (.val .none) (.val a) s)):EV (d+4) (fh 522) [BD B,a7 (b,i)] st=some (.lst s,st):=
 bE Vw rfl rfl rfl (aW (rfl)<|aW (fj (d4<|bM (aT:=F5 B (b,i) .un .un .un .un []) (vs:=[BD B,a7 (b,i)]) rfl rfl f) rfl rfl k)
  (aW (fj (d4<|oU (bM (aT:=F5 B (b,i) a3 .un .un .un s) (vs:=[BD B,a7 (b,i)]) rfl rfl<|ZQ O h H)<|bM (aT:=F5 B (b,i) a3 .un .un .un s) (vs:=[BD B,a7 (b,i)]) rfl rfl e2) rfl rfl<|gL (rfl)<|gL j rfl)
  (aW (τ:=F5 B (b,i) a3 (.val r) (.val .none) (.val a) s) (bC (oU (bM (aT:=F5 B (b,i) a3 (.val r) .un .un s) (vs:=[BD B,a7 (b,i)]) rfl rfl<|ZQ O h H)<|bM (aT:=F5 B (b,i) a3 (.val r) .un .un s) (vs:=[BD B,a7 (b,i)]) rfl rfl g)<|rfl)
  (aW (rfl)<|aW l<|aW (uK (bM (aT:=F5 B (b,i) a3 (.val r) (.val .none) (.val a) s) (vs:=[BD B,a7 (b,i)]) rfl rfl<|aew O h H) rfl)<|f7<|ej<|sf (aC:=F5 B (b,i) a3 (.val r) (.val .none) (.val a) s) (vs:=[.h 0]) rfl y)))) rfl
theorem aex(O:lG B)(h:B[b]? =some x)(H:i<=x.1.length):EV (d+4) (fh 522) [BD B,a7 (b,i)] st=some (.lst<|usO<|wd x i,st):=by
 have A:∀st,EV (d+3) (fh 228) [BD B,a7 (b,i)] st=_:=λst=>Wf O h H;have a:∀st,EV (d+3) (fh 310) [BD B,a7 (b,i)] st=_:=λst=>Rn O h H;have c:∀st,EV (d+3) (fh 303) [BD B,a7 (b,i)] st=_:=λst=>Ro O h H;generalize wd x i=z at A a c ⊢;rcases z with _|w
 ·exact GF O h H (a3:=.un) (A _) (a _) (c _) (rfl) (rfl) (rfl)<|rfl
 ·cases w
  ·exact GF O h H (a3:=.val ZC) (A _) (a _) (c _) (by kernel_rfl) (rfl) (rfl)<|rfl
  ·exact GF O h H (a3:=.val ZD) (A _) (a _) (c _) (by kernel_rfl) (rfl) (rfl)<|rfl
  all_goals exact GF O h H (a3:=.un) (A _) (a _) (c _) (rfl) (by kernel_rfl) (rfl)<|rfl
theorem aev(O:lG B)(h:B[b]? =some x)(H:i<=x.1.length):EV (d+2) (fh 536) [BD B,a7 (b,i)] st=some (.lst<|drL<|wd x i,st):=by
 refine bE Vv rfl rfl rfl (aW (bC (bM rfl rfl<|Rn O h H) rfl) rfl) ?_;generalize wd x i=z;rcases z with _|w
 ·kernel_rfl
 ·cases w<;>kernel_rfl
theorem aeu(O:lG B)(h:B[b]? =some x)(H:i<=x.1.length):EV (d+2) (fh 543) [BD B,a7 (b,i)] st=some (.lst<|seL<|wd x i,st):=by
 refine bE Vu rfl rfl rfl (aW (bC (oU (bM rfl rfl<|ZP O h H)<|bM rfl rfl<|Ro O h H) rfl) rfl) ?_;generalize wd x i=z;rcases z with _|w
 ·kernel_rfl
 ·cases w<;>kernel_rfl
end
section
noncomputable def N4(p:Nat×Nat):PyData:=.tuple [.int p.1,.int p.2]
theorem AU(S:List (Nat×Nat)):eQ (S.map a7)=some (S.map N4):=by
 induction S with
 |nil=>exact rfl
 |cons p S h=>show(ls<|a7 p).bind (λd=>(eQ<|S.map a7).map λs=>d::s)=_;rw[h];rfl
theorem MU(p q:Nat×Nat):bc (N4 p) (N4 q)=(p==q):=by
 show((p.1:Int)==q.1&&((p.2:Int)==q.2&&true))=(p.1==q.1&&p.2==q.2);rw[kE];have k:∀a b:Nat,((a:Int)==b)=(a==b):=λa b=>by rw[g8,beq_iff_eq,beq_iff_eq];exact mW
 rw[k,k]
theorem qM(p:Nat×Nat)(S:List (Nat×Nat)):cF (a7 p) (S.map a7)=some (S.findIdx? λq=>q==p):=by
 show((eQ<|S.map a7).bind λs=>gd (eF (N4 p)&&s.all (λx=>eF x&&fQ x==fQ (N4 p))&&decide ((N4 p).depth<=b7))<|s.findIdx? λx=>bc x<|N4 p)=_;rw[AU];show gd ((S.map N4).all (λx=>eF x&&fQ x==2)&&true) _=_;rw[ju]
 ·rw[ij];congr 2;funext q;exact MU q p
 ·rw[kE,List.all_map];exact aZ.mpr λz z=>rfl
theorem Ed{S:List (Nat×Nat)}{p:Nat×Nat}(h:p∈S):∃j,S.findIdx? (λq=>q==p)=some j/\S[j]? =some p:=by
 cases e:S.findIdx? (λq=>q==p) with
 |none=>rw[bI] at e;have:=e p h;simp at this
 |some j=>obtain⟨J,H,_⟩:=bo.mp e;exact⟨j,rfl,by rw[ax J,beq_iff_eq.mp H]⟩
theorem QH{S:List (Nat×Nat)}{p:Nat×Nat}(h:p∉S):S.findIdx? (λq=>q==p)=none:=by
 rw[bI];intro q H;cases e:q==p with
 |false=>rfl
 |true=>exact absurd (beq_iff_eq.mp e▸H) h
theorem nq{st:List SO}{S:List (Nat×Nat)}{f:Nat×Nat->SV}{p:Nat×Nat}(c:hU st D=some (S.map a7,S.map f))(h:p∈S):fb st D (a7 p)=some (f p):=by refine dn (Ed h) λj H a=>J6 c ((qM p S).trans<|congrArg some H) (by rw[ai,a];rfl)
theorem mH{lo:List LV}{st:List SO}{S:List (Nat×Nat)}{f:Nat×Nat->SV}{p:Nat×Nat}(H:st[k]? =some (.dict (S.map a7)<|S.map f))(c:p∉S)(l:S.length<=dI):mX (.h k) (a7 p) (f p) ⟨lo,st⟩=some ⟨lo,st.set k<|.dict ((S++[p]).map a7)<|(S++[p]).map f⟩:=by show(match st[k]?.bind ft with|some s=>_|none=>_)=_;rw[H];show(gd ((a7 p).free&&decide ((S.map a7).length<=dI)) ()).bind _=_;rw[ju (by rw[ag,decide_eq_true l];rfl)];rw[qM,QH c,a6,a6];rfl
section
variable{C:bH}{M:bQ}{σ aC τ:ba}{es:List E}{vs items zs:List SV}{fr:List (Option Nat)}{elt:E}{t:TN}{ik:IK}{cs:List E}{m:Bool}
theorem zZ(H:f=λx τ=>(cS t x τ).bind λτ=>(jv C M cs τ).bind λq=>(fa q.1).bind λb=>match b with
    |true=>(bX C M elt q.2).map λr=>([r.1],r.2)
    |false=>some ([],q.2)) (h:gp C M es σ=some (vs,aC)) (I:jX ik vs=some items) (O:oJ ik t=true) (k:fF f [] items ⟨gW fr aC.loc,aC.st⟩=some (zs,τ)) (l:zs.length<=dI):
  bX C M (.comp m fr elt t ik es cs) σ=some (dh m zs {aC with st:=τ.st}):=by
 subst H
 exact aN h<|aN I<|aN (ju O)<|aN k<|r8 l
theorem hM{x:SV}(h:bX C M e σ=some (x,aC))(I:oN aC.st x=none)(c:oG aC.st x a=true)(k:gp C M es aC=some (vs,aT))(q:gx x a vs aT=some r):bX C M (.bj e a es) σ=some r:=
 aN h (by rw[I];exact aN (ju c)<|aN k q)
theorem iV(h:n<=dI):jX .fH [.int n]=some ((ak n).map λi:Nat=>SV.int i):=by show gd (decide<|(n:Int).natAbs<=dI) ((ak (n:Int).toNat).map λi:Nat=>SV.int i)=_;rw[ju<|decide_eq_true (show(n:Int).natAbs<=dI from h)];rfl
theorem JL{c:Type}{f:SV->ba->Option (List SV×ba)}{g h:c->SV}{F:Option SV->ba}(xs:List c):∀(a:List SV)(q:Option SV),(∀x∈xs,∀q,f (g x) (F q)=some ([h x],F<|some<|g x))->∃Q,fF f a (xs.map g) (F q)=some (a++xs.map h,F Q):=by
 induction xs with
 |nil=>intro a q _;exact⟨q,by rw[lM,lM,a9];rfl⟩
 |cons x xs I=>intro a q H;obtain⟨Q,e⟩:=I (a++[h x]) (some<|g x) λy Y=>H y<|ay _ Y;refine⟨Q,aN (H x (aw ..) q) ?_⟩;rw[e,aM];rfl
end
noncomputable def PS(B:List dB):List (Nat×Nat):=B.zipIdx.flatMap λp=>(ak<|p.1.1.length+1).map λi=>(p.2,i)
theorem kX{B:List dB}{b:Nat}{x:dB}(h:B[b]? =some x):PS (B.take<|b+1)=PS (B.take b)++(ak<|x.1.length+1).map λi=>(b,i):=by
 have H:=(af.mp h).1;have e:B.take (b+1)=B.take b++[x]:=by rw[gj,h];rfl
 unfold PS;rw[e,jh,iY];congr 1;show(ak<|x.1.length+1).map (λi=>(0+(B.take b).length,i))++[]=_;rw[a9,b9,bZ,ei<|a5 H]
theorem jV{B:List dB}:p∈PS B↔∃x,B[p.1]? =some x/\p.2<=x.1.length:=by
 unfold PS;rw[uF];constructor
 ·rintro⟨q,Q,a⟩;refine dn (bw.mp a) λi H z=>?_;subst z;exact⟨q.1,by simpa using g6.mp Q,aP<|bV.mp H⟩
 ·rintro⟨x,h,l⟩;exact⟨(x,p.1),g6.mpr (by simpa using h),bw.mpr ⟨p.2,bV.mpr<|dY l,rfl⟩⟩
variable{B:List dB}{b i d:Nat}{x:dB}{st:List SO}
theorem VR:prog.fns 183=some Zq:=by kernel_rfl
noncomputable def hJ:Option SV->LV
 |none=>.un
 |some v=>.val v
noncomputable def pv:Nat->Option SV
 |0=>none
 |n+1=>some<|.int n
theorem dU{a:Type}{h:a->SV}(H:∀x,(h x).free=true)(xs:List a):bS (xs.map h)=true:=by
 induction xs with
 |nil=>exact rfl
 |cons x xs I=>show((h x).free&&bS (xs.map h))=true;rw[H x,I];rfl
theorem pC{σ:ba}(h:bS xs=true):dh false xs σ=(.lst xs,σ):=by unfold dh;rw[h];rfl
theorem Yn{lo:List LV}{st:List SO}{xs y:List SV}(H:st[k]? =some (.list xs))(V:il st v=some y)(l:xs.length+y.length<=dI):gx (.h k) 1 [v] ⟨lo,st⟩=some (.none,⟨lo,st.set k<|.list<|xs++y⟩):=by exact gy (aN (by rw[H];rfl)<|aN V<|r8 l) rfl
theorem yi{lo:List LV}{st:List SO}{xs:List SV}(H:st[k]? =some (.list xs))(l:xs.length<=dI):gx (.h k) 0 [v] ⟨lo,st⟩=some (.none,⟨lo,st.set k<|.list<|xs++[v]⟩):=by exact gy (aN (by rw[H];rfl)<|r8 l) rfl
theorem oQ{st:List SO}(H:st[k]? =some (.list xs))(f:bS xs=true):freeze fz (.h k) st=some (.lst xs,st.set k .gone):=by show(st[k]?.bind _)=_;rw[H];show(bP 49 xs<|st.set k .gone).map _=_;unfold bP;rw[f];rfl
theorem FG{B:List dB}(n:Nat):(PS<|B.take n).length<=(PS B).length:=by
 have:PS B=PS (B.take n++B.drop n):=by rw[cV]
 rw[this];unfold PS;rw[jh,iY,aj];exact a4 ..
theorem Rp(O:lG B)(N:(PS B).length<=1000):EV (d+3) (fh 183) [BD B] st=some (.lst<|(PS B).map a7,st):=by
 let F:Nat->ba:=λn=>⟨[.val<|BD B,.val<|.h 1,.cell 0,.un,.un],[.cell<|pv n,.list<|(PS<|B.take n).map a7]⟩;have c:B.length<=dI:=by have:=O.len;show _<=4000;exact WI this
 have step:cz (λx τ=>(cS JO x τ).bind λτ=>cG (EV<|d+2) MM [.expr<|.bj bz 1 [.comp false [none,none,some 2] (.tup [cU,bz]) qy .fH [.bin .add (jm<|.bj bO 12 [cU])<|.int 1] []]] τ) ((ak B.length).map λi:Nat=>SV.int i) (F 0)=some (.next,F B.length):=
  v9 B.length λn h=>by
   have H:=ax h;generalize B[n]'(h)=x at H;have l:=(O.at H).2;let G:ba:=⟨[.val<|BD B,.val<|.h 1,.cell 0,.un,.un],[.cell<|some<|.int n,.list<|(PS<|B.take n).map a7]⟩;have j:gp (EV<|d+2) MM [.bin .add (jm<|.bj bO 12 [cU])<|.int 1] G=some ([.int (x.1.length+1:Nat)],G):=
    d4 (gm (fL (g4 (aT:=G) rfl rfl rfl FX (vs:=[.int n]) rfl<|Rq O H) rfl<|mj l) rfl (by rw[ag];rfl))
   obtain⟨q,k⟩:=JL (f:=λx τ=>(cS qy x τ).bind λτ=>(jv (EV<|d+2) MM [] τ).bind λq=>(fa q.1).bind λb=>match b with
    |true=>(bX (EV<|d+2) MM (.tup [cU,bz]) q.2).map λr=>([r.1],r.2)
    |false=>some ([],q.2)) (g:=λi:Nat=>SV.int i) (h:=λi:Nat=>a7 (n,i)) (F:=λq=>⟨[.un,hJ q,.cell 0],G.st⟩) (ak<|x.1.length+1) [] none (λi I q=>by cases q<;>rfl)
   rw[ag] at l;have e:=zZ (m:=false) (fr:=[none,none,some 2]) rfl j (iV l) rfl k (by rw[d8,ag,ar];exact l);rw[d8,pC<|dU (λi=>rfl) _] at e;refine aW (Us (v:=.none)<|hM (aT:=G) rfl rfl rfl (d4 e)<|(Yn rfl rfl ?_).trans ?_) rfl
   ·have:=FG (B:=B) n;have s:(ak<|x.1.length+1).length<=(PS B).length:=by have:=FG (B:=B)<|n+1;rw[kX H,aj,ag] at this;exact Nat.le_of_add_left_le this
    rw[ag,ag];exact abJ N this s
   ·have p:(PS<|B.take<|n+1).map a7=(PS<|B.take n).map a7++(ak<|x.1.length+1).map λi=>a7 (n,i):=by
     rw[kX H,a6,iO];rfl
    rw[<-p]
    rfl
 refine bE VR rfl rfl rfl (aW (τ:=F 0) (rfl)<|aW (fj (d4<|fL rfl rfl (by rw[gc];exact c)) (iV (by rw[gc];exact c)) rfl (by rw[gc];exact step))<|f7<|ej rfl) ?_;show(freeze fz (.h 1) (F B.length).st).map _=_;rw[oQ rfl<|dU (λz=>rfl) _,cH];rfl
end
section
noncomputable def eD:Bool->SV
 |true=>.cY [1]
 |false=>.cY []
def wP(B:List dB)(p:Nat×Nat):Option W:=B[p.1]?.bind λx=>wd x p.2
noncomputable def TR:Option W->Bool|some .use=>true|_=>false
def V5:Option W->Bool|some w=>we w|_=>false
noncomputable def KP:Option W->Bool|some .set=>true|_=>false
theorem XN(z:Option W){st:List SO}:builtin st .cY [.lst<|usO z]=some (eD<|TR z):=by
 rcases z with _|w
 ·kernel_rfl
 ·cases w<;>kernel_rfl
theorem Zy(z:Option W){st:List SO}:builtin st .cY [.lst<|drL z]=some (eD<|V5 z):=by
 rcases z with _|w
 ·kernel_rfl
 ·cases w<;>kernel_rfl
theorem X3(z:Option W){st:List SO}:builtin st .cY [.lst<|seL z]=some (eD<|KP z):=by
 rcases z with _|w
 ·kernel_rfl
 ·cases w<;>kernel_rfl
theorem Mq(a b:Bool):lu .sub (eD a) (eD b)=some (eD<|a&&!b):=by cases a<;>cases b<;>kernel_rfl
theorem Mr(a b:Bool):lu .bor (eD a) (eD b)=some (eD<|a||b):=by cases a<;>cases b<;>kernel_rfl
theorem Mu{st:List SO}(a b:Bool):ir st .ne (eD a) (eD b)=some (a != b):=by cases a<;>cases b<;>kernel_rfl
theorem pL(a:Bool):(eD a).free=true:=by cases a<;>rfl
theorem oO{st:List SO}(a:Bool):freeze fz (eD a) st=some (eD a,st):=by cases a<;>rfl
theorem Le{B:List dB}(h:p∈PS B):p.1<B.length:=by refine dn (jV.mp h) λx h z=>(af.mp h).1
theorem oD(B:List dB):(PS B).Nodup:=by
 have:∀n,n<=B.length->(PS<|B.take n).Nodup:=by
  intro n;induction n with
  |zero=>intro _;exact fg
  |succ n I=>
   intro h;have g:=ax h;rw[kX g];refine cL.mpr ⟨I<|ct h,?_,λa A b f e=>?_⟩
   ·refine List.Pairwise.map _ (λa b (H:a≠b) e=>H (fy e).2) List.nodup_range
   ·refine dn (bw.mp f) λi z c=>?_;subst c;have:=Le A;rw[bZ] at this;rw[e] at this;exact absurd (aY (show n<min n B.length from this) (gi ..))<|b0 _
 have h:=this B.length<|aF _;rwa[cH] at h
variable{B:List dB}{b i d:Nat}{x:dB}{st:List SO}
noncomputable def N1(B:List dB)(b:Nat):List (Nat×Nat):=(PS B).drop (PS<|B.take b).length
theorem zh(h:B[b]? =some x):N1 B b=(ak<|x.1.length+1).map (λi=>(b,i))++N1 B (b+1):=by
 have e:PS B=PS (B.take<|b+1)++N1 B (b+1):=by
  have:∀n,PS (B.take n)++(PS B).drop (PS<|B.take n).length=PS B:=λn=>by
   have H:PS B=PS (B.take n++B.drop n):=by rw[cV]
   have a:∀A D:List dB,∃R,PS (A++D)=PS A++R:=λA D=>⟨_,by unfold PS;rw[jh,iY]⟩;obtain⟨R,r⟩:=a (B.take n)<|B.drop n;rw[H,r,qi]
  exact(this<|b+1).symm
 show(PS B).drop _=_
 conv=>lhs;rw[e]
 rw[kX h,aM,qi]
theorem Fw:N1 B B.length=[]:=by unfold N1;rw[cH,nE]
def wW(d:Nat)(f:SV)(st:List SO)(B:List dB)(G:Nat×Nat->Bool->Bool):Prop:=
 ∀ext p q,p∈PS B->EV d f [eD q,.int p.1,.int p.2] (st++ext)=some (eD<|G p q,st++ext)
theorem VP:prog.fns 240=some Zn:=by kernel_rfl
theorem MH:prog.fns 268=some Zj:=by kernel_rfl
theorem VL:prog.fns 275=some Zi:=by kernel_rfl
theorem VQ:prog.fns 193=some Zp:=by kernel_rfl
theorem ZU(a c:Bool):EV (d+1) (fh 240) [eD a,eD c] st=some (eD<|a||c,st):=
 bE VP rfl (by cases a<;>cases c<;>rfl) rfl (f7<|ej<|gm rfl rfl<|Mr a c) (by show(freeze fz (eD<|a||c) []).map _=_;rw[oO];rfl)
noncomputable def J5(b:Nat):Option W->List SV
 |none=>[]
 |some _=>[.int (b+1:Nat)]
theorem aeO(t:Option W)(h:t=none\/t=some .drop\/t=some .d0\/t=some .d1\/t=some .d2):EV (d+1) (fh 188) [Dp b t] st=some (.lst<|J5 b t,st):=by rcases h with rfl|rfl|rfl|rfl|rfl<;>kernel_rfl
theorem lG.tm(O:lG B)(h:B[b]? =some x):x.2=none\/x.2=some .drop\/x.2=some .d0\/x.2=some .d1\/x.2=some .d2:=by
 refine nK (O.each x<|aH h) λz z H=>?_;cases e:x.2 with
 |none=>exact .inl rfl
 |some w=>have:=H w e;cases w<;>first|exact ae this|simp
theorem cB(O:lG B)(h:B[b]? =some x):EV (d+1) (fh 188) [Dp b x.2] st=some (.lst<|J5 b x.2,st):=aeO _<|O.tm h
theorem aeJ(O:lG B)(h:B[b]? =some x){Fb:Nat->Bool}(g:st[k]? =some (.list<|(ak B.length).map λj=>eD<|Fb j)):
  EV (d+2) (fh 268) [BD B,.h k,.int b,eD false,fh 240] st=some (eD<|decide (b+1<B.length)&&Fb (b+1),st):=by
 have f:=(af.mp h).1
 have c:=O.len
 let F:SV->SV->LV->ba:=λe v q=>⟨[.val<|BD B,.val<|.h k,.val<|.int b,.val<|eD false,.val<|fh 240,.val v,q,.un],st⟩
 have y:∀r q,cz (λx a=>(cS CA x a).bind λa=>cG (EV<|d+1) MM [et 5<|.call eA [g9,.sub bz iS]] a) (J5 b x.2) (F .none (eD false) .un)=some (.next,F .none (eD r) q)->
   EV (d+2) (fh 268) [BD B,.h k,.int b,eD false,fh 240] st=some (eD r,st):=λr q e=>
  fX MH (gJ rfl (rfl) rfl (aW (rfl)<|aW (fj (d4<|bM rfl (d4<|bF (bF rfl rfl<|O.w9 h) rfl rfl)<|cB O h) rfl rfl e)<|f7<|ej rfl) (oO r)<|iq rfl)
 have H:=O.last b x h
 cases ht:x.2 with
 |none=>have e:=H.mp ht;refine(y false .un (by rw[ht];rfl)).trans ?_;rw[decide_eq_false<|WK e];rfl
 |some w=>
  have n:=λq=>bU w<|ht.symm.trans<|H.mpr q;have l:b+1<B.length:=ar5 f n;refine(y (Fb<|b+1) (.val<|.int (b+1:Nat)) ?_).trans ?_
  ·rw[ht];refine gL (aW (bC (bM rfl (kG rfl<|d4<|bF rfl rfl<|ox g<|fS ?_ ?_)<|ZU false<|Fb<|b+1) rfl) rfl) rfl
   ·rw[ai,bx l];rfl
   ·show _<=4000;exact aaj c l
  ·rw[decide_eq_true l];rfl
end
section
theorem Qm{c a:Type}{f:SV->ba->Option (FL×ba)}{g:c->SV}{step:c->a->a}{F:a->Option SV->ba}(xs:List c):∀(s:a)(q:Option SV),(∀x∈xs,∀s q,f (g x) (F s q)=some (.next,F (step x s)<|some<|g x))->∃Q,cz f (xs.map g) (F s q)=some (.next,F (xs.foldl (λs x=>step x s) s) Q):=by
 induction xs with
 |nil=>intro s q _;exact⟨q,rfl⟩
 |cons x xs I=>intro s q h;obtain⟨Q,e⟩:=I (step x s) (some<|g x) λy H=>h y<|ay _ H;exact⟨Q,gL (h x (aw ..) s q) e⟩
theorem F7(h:n+1<=dI):jX .m8 [.int n,.int<|-1,.int<|-1]=some ((ak<|n+1).reverse.map λi:Nat=>SV.int i):=by show gd (true&&decide ((n:Int).natAbs<=dI)&&true) ((ak ((n:Int)-(-1)).toNat).map λi:Nat=>SV.int<|n-i)=_;rw[ju (by rw[decide_eq_true (show(n:Int).natAbs<=dI from ct h)];rfl),show((n:Int)-(-1)).toNat=n+1 by omega];congr 1;refine uG (by rw[ag,ag,eG]) λi H a=>?_;rw[ag,ar] at H;rw[km,km,qg,b3,b3,ar];congr 1;omega
variable{B:List dB}{b i d:Nat}{x:dB}{st:List SO}{f:SV}{G:Nat×Nat->Bool->Bool}
theorem Ul(h:f.free=false){b i:Int}:bS (BD B::eD q::.int b::.int i::f::r)=false:=by show((BD B).free&&((eD q).free&&(true&&(true&&(f.free&&SV.free.go r)))))=false;rw[pL,h];rfl
theorem aeI(O:lG B)(h:B[b]? =some x)(c:f.free=false)(S:wW d f st B G)(ext:List SO)(q:Bool):
  EV (d+1) (fh 275) [BD B,eD q,.int b,.int 0,f] (st++ext)=some (eD<|((ak<|x.1.length+1).map λi=>(b,i)).foldr G q,st++ext):=by
 have H:=(O.at h).2
 let F:Bool->Option SV->ba:=λr q=>⟨[.val<|BD B,.val<|eD r,.val<|.int b,.val<|.int 0,.val f,hJ q,.un,.un],st++ext⟩
 obtain⟨Q,e⟩:=Qm (f:=λx a=>(cS Sl x a).bind λa=>cG (EV d) MM [et 1<|.call eA [bz,cU,g9]] a) (ak<|x.1.length+1).reverse q none λi I r q=>by
  have p:(b,i)∈PS B:=jV.mpr ⟨x,h,aP<|bV.mp<|uE.mp I⟩;have:(cS Sl (SV.int i)<|F r q)=some (F r<|some<|.int i):=by cases q<;>rfl
  exact aN this<|aW (τ:=F (G (b,i) r)<|some<|.int i) (bC (bM (aT:=F r<|some<|.int i) (vs:=[eD r,.int b,.int i]) rfl rfl<|S ext (b,i) r p) rfl) rfl
 rw[List.foldl_reverse] at e
 rw[R8]
 have m:(x.1.map qB).length=x.1.length:=ag ..
 rw[m] at H
 refine fX VL<|gJ rfl (Ul c) rfl (aW (fj (kG (fL (bF (bF rfl rfl<|O.w9 h) rfl rfl) rfl (by rw[m];exact ct H)) rfl) (by rw[m];exact F7 H) rfl e)<|f7<|ej rfl) (oO _)<|iq rfl
theorem zP(L:List (List SV)):∀(k n:Nat)(st:List SO),(∀(j:Nat)(l:List SV),L[j]? =some l->st[k+j]? =some (.list l)/\bS l=true)->L.length+1<n->∃s,bP n ((en k L.length).map SV.h) st=some (L.map SV.lst,s):=by
 induction L with
 |nil=>
  intro k n st _ H;cases n with
  |zero=>exact absurd H<|fu _
  |succ n=>exact⟨st,rfl⟩
 |cons l L I=>
  intro k n st h H;obtain⟨n,rfl⟩:∃q,n=q+2:=⟨n-2,(sJ<|ah (show 2<=L.length+1+1 from eR ..)<|a5 H).symm⟩;obtain⟨r,t⟩:=h 0 l rfl;have g:freeze (n+1) (.h k) st=some (.lst l,st.set k .gone):=by
   show(st[k]?.bind _)=_;rw[show st[k]? =some (.list l) from r];show(bP n l<|st.set k .gone).map _=_;have:n≠0:=λe=>by rw[e,cI] at H;omega
   cases n with
   |zero=>exact absurd rfl this
   |succ n=>unfold bP;rw[t];rfl
  obtain⟨s,p⟩:=I (k+1) (n+1) (st.set k .gone) (λj v e=>by obtain⟨a,c⟩:=h (j+1) v e;refine⟨?_,c⟩;rw[bJ (by omega),show k+1+j=k+(j+1) by omega];exact a) (by rw[cI] at H;omega);refine⟨s,?_⟩;show(freeze (n+1) (.h k) st).bind _=_;rw[g];show(bP (n+1) ((en (k+1) L.length).map SV.h)<|st.set k .gone).map _=_;rw[p];rfl
noncomputable def Yb:Nat->List SV
 |0=>[]
 |b+1=>[.int b]
def N5(n:Nat)(j:Nat):List SV:=if j<=n then Yb j else []
theorem Lf(h:j<=n):N5 (n+1) j=N5 n j:=by unfold N5;rw[if_pos h,if_pos<|dZ h]
theorem HN{f g:Nat->SO}{n i:Nat}(I:i<n)(V:v=g i)(h:∀j,j≠i->f j=g j):((ak n).map f).set i v=(ak n).map g:=by
 refine eE λj=>?_;by_cases q:j=i
 ·subst q;rw[dJ (by rw[ag,ar];exact I),ai,bx I,V];rfl
 ·rw[bJ<|ff q,ai,ai];cases e:(ak n)[j]? with
  |none=>rfl
  |some z=>obtain⟨a,H⟩:=af.mp e;rw[b3] at H;show some (f z)=some (g z);rw[h z<|H▸q]
def su(m n:Nat):List SO:=(ak m).map (λj=>SO.list<|N5 n j)++[.list<|(en 0 m).map SV.h]
noncomputable def CE(m n:Nat):Option SV:=if min n (m-1)=0 then none else some (.int (min n (m-1):Nat))
theorem aeN(O:lG B)(N:0<B.length):EV (d+2) (fh 193) [BD B] st=some (.lst<|(ak B.length).map λj=>.lst<|Yb j,st):=by
 have U:=O.len;have H:B.length<=dI:=by show _<=4000;exact WJ N U
 let F:Nat->ba:=λn=>⟨[.val<|BD B,hJ<|pv n,.val<|.h B.length,hJ<|CE B.length n,.un,.un,.un],su B.length n⟩;have mk:∀(A:List SV) c q s,∃q',fF (λx k=>(cS qy x k).bind λk=>(jv (EV<|d+1) MM [] k).bind λq=>(fa q.1).bind λb=>match b with
    |true=>(bX (EV<|d+1) MM (.list true []) q.2).map λr=>([r.1],r.2)
    |false=>some ([],q.2)) c A ⟨[.un,hJ q],s⟩=some (c++(en s.length A.length).map SV.h,⟨[.un,hJ q'],s++A.map λu=>SO.list []⟩):=by
  intro A
  induction A with
  |nil=>intro c q s;exact⟨q,by rw[lM,a9];show some (c,_)=some (c++[],_);rw[a9]⟩
  |cons x A ih=>intro c q s;obtain⟨q',e⟩:=ih (c++[.h s.length]) (some x)<|s++[.list []];refine⟨q',aN (a:=([.h s.length],⟨[.un,.val x],s++[.list []]⟩)) (by cases q<;>rfl)<|e.trans ?_⟩;rw[aj,aM,aM];rfl
 obtain⟨q0,e0⟩:=mk (rg B) [] none [];have e1:=zZ (m:=true) (fr:=[none,none]) (ik:=.over) (es:=[eM 9]) rfl (σ:=⟨[.val<|BD B,.un,.un,.un,.un,.un,.un],[]⟩) (aC:=⟨[.val<|BD B,.un,.un,.un,.un,.un,.un],[]⟩) (vs:=[.lst<|rg B]) rfl rfl rfl e0
  (by rw[d8,ag,I5,gc];exact H)
 have e2:([]++(rg B).map λu=>SO.list [])++[.list<|[]++(en ([]:List SO).length (rg B).length).map SV.h]=su B.length 0:=by rw[d8,d8,gc];congr 1;refine uG (by rw[ag,ag,ar,gc]) λj y Q=>?_;rw[km,km,b3];cases j<;>rfl
 have e3:ji (EV<|d+1) MM (et 2<|.comp true [none,none] (.list true []) qy .over [eM 9] []) ⟨[.val<|BD B,.un,.un,.un,.un,.un,.un],[]⟩=some (.next,F 0):=by
  refine bC e1 ?_;show some (ba.mk [.val<|BD B,.un,.val<|.h ([]++(rg B).map λu=>SO.list []).length,.un,.un,.un,.un]<|([]++(rg B).map λu=>SO.list [])++[.list<|[]++(en ([]:List SO).length (rg B).length).map SV.h])=_;rw[e2,d8,ag,gc];have:CE B.length 0=none:=by unfold CE;rw[Nat.zero_min];rfl
  show _=some (ba.mk [.val<|BD B,.un,.val<|.h B.length,hJ<|CE B.length 0,.un,.un,.un]<|su B.length 0);rw[this];rfl
 have step:=v9 (f:=λx k=>(cS qy x k).bind λk=>cG (EV<|d+1) MM [.for CB .over [dy 188 [.bj bO 13 [bz]]] [.expr<|.bj (.sub cU dm) 0 [.oR 1]]] k) (F:=F) B.length λn h=>by
  have C:=ax h;generalize B[n]'(h)=x at C;have L:=O.last n x C;let K:LV->List SO->ba:=λr s=>⟨[.val<|BD B,.val<|.int n,.val<|.h B.length,r,.un,.un,.un],s⟩;refine aN (a:=K (hJ<|CE B.length n)<|su B.length n) (by cases n<;>rfl)<|aW (fj (d4<|bM (aT:=K (hJ<|CE B.length n)<|su B.length n) rfl (d4<|g4 (aT:=K (hJ<|CE B.length n)<|su B.length n) rfl rfl rfl SJ (vs:=[.int n]) rfl<|ZV O C)<|cB O C) rfl rfl ?_) rfl;cases ht:x.2 with
  |none=>
   have e:=L.mp ht;show some (FL.next,K (hJ<|CE B.length n)<|su B.length n)=some (FL.next,F<|n+1);have D:CE B.length (n+1)=CE B.length n:=by unfold CE;rw[<-e,Nat.add_sub_cancel,nS<|iJ n,CV]
   have I:su B.length (n+1)=su B.length n:=by unfold su;congr 1;refine gE λj V=>?_;have:=bV.mp V;rw[Lf<|abf e this]
   show _=some (FL.next,K (hJ<|CE B.length<|n+1)<|su B.length<|n+1);rw[D,I]
  |some w=>
   have Y:=λq=>bU w<|ht.symm.trans<|L.mpr q;have t:n+1<B.length:=ar5 h Y;have D:CE B.length (n+1)=some (.int (n+1:Nat)):=by unfold CE;rw[ei<|Nat.le_sub_one_of_lt t];rfl
   have I:(su B.length n).set (n+1) (.list<|[]++[.int n])=su B.length (n+1):=by
    unfold su;rw[List.set_append_left _ _ (by rw[ag,ar];exact t)];congr 1;refine HN t (by unfold N5;rw[if_pos<|aF _];rfl) λj V=>?_;congr 1;unfold N5;by_cases q:j<=n
    ·rw[if_pos q,if_pos<|dZ q]
    ·rw[if_neg q,if_neg<|abj V q]
   have J:(su B.length n)[B.length]? =some (.list<|(en 0 B.length).map SV.h):=by unfold su;rw[az (by rw[ag,ar];exact aF _),ag,ar,bt];rfl
   have M:(su B.length n)[n+1]? =some (.list []):=by unfold su;rw[aK (by rw[ag,ar];exact t),ai,bx t];show some (SO.list<|N5 n<|n+1)=_;unfold N5;rw[if_neg<|abc]
   refine gL (aN (a:=K (.val<|.int (n+1:Nat))<|su B.length n) (by cases CE B.length n<;>rfl)<|aW (Us (v:=.none)<|hM (vs:=[.int n]) (bF rfl rfl<|ox J<|fS ?_ ?_) ?_ ?_ rfl<|(yi M<|dW _).trans ?_) rfl) rfl
   ·rw[ai,E4<|t];show some (SV.h<|0+1*(n+1))=_;congr 2;exact abI
   ·show _<=4000;exact abH N U t
   ·show(su B.length n)[n+1]?.bind jT=none;rw[M];rfl
   ·show((su B.length n)[n+1]?.bind ft).isSome=true;rw[M];rfl
   ·rw[I];show some (SV.none,K (.val<|.int (n+1:Nat))<|su B.length<|n+1)=some (SV.none,K (hJ<|CE B.length<|n+1)<|su B.length<|n+1);rw[D];rfl
 refine bE VQ rfl rfl rfl (aW e3<|aW (fj (d4<|fL (aC:=F 0) rfl rfl (by rw[gc];exact H)) (iV (by rw[gc];exact H)) rfl (by rw[gc];exact step))<|f7<|ej rfl) ?_;have J:(su B.length B.length)[B.length]? =some (.list<|(en 0 B.length).map SV.h):=by unfold su;rw[az (by rw[ag,ar];exact aF _),ag,ar,bt];rfl
 obtain⟨st',e⟩:=zP ((ak B.length).map Yb) 0 49 ((su B.length B.length).set B.length .gone) (λj l L=>by rw[ai,be] at L;obtain⟨z,hz,rfl⟩:=L;obtain⟨y,Q⟩:=af.mp hz;rw[b3] at Q;rw[ar] at y;subst Q;refine⟨?_,by cases j<;>rfl⟩;rw[b9,bJ<|aaF y];unfold su;rw[aK (by rw[ag,ar];exact y),ai,bx y];show some (SO.list<|N5 B.length j)=_;unfold N5;rw[if_pos<|a5 y]) (by rw[ag,ar];exact abG N U);show(((su B.length B.length)[B.length]?.bind _).map _)=_;rw[J];show(((bP 49 ((en 0 B.length).map SV.h)<|(su B.length B.length).set B.length .gone).map _).map _)=_;rw[ag,ar] at e;rw[e];rw[iO];rfl
end
section
section
variable{st:List SO}{a c v:SO}{lo:List LV}
theorem Co:(st++[a,c])[st.length]? =some a:=by rw[az<|aF _,bt];rfl
theorem Ak:(st++[a,c])[st.length+1]? =some c:=by rw[az<|iJ _,show st.length+1-st.length=1 by exact WC];rfl
theorem KO:(st++[a,c]).set st.length v=st++[v,c]:=by rw[ia _ _<|aF _,bt];rfl
theorem Uq:(st++[a,c]).set (st.length+1) v=st++[a,v]:=by rw[ia _ _<|iJ _,show st.length+1-st.length=1 by exact WC];rfl
theorem l8(h:st.all (SO.low st.length)=true):jK st.length (st++ext)=some st:=by
 unfold jK;cases q:decide ((st++ext).length<=st.length) with
 |true=>have:=of_decide_eq_true q;rw[aj] at this;rw[ve (l:=ext)<|abF this,a9]
 |false=>show gd (((st++ext).take st.length).all<|SO.low st.length) ((st++ext).take st.length)=_;rw[R6,ju h]
theorem SD{x:SV}(H:st[k]? =some (.list<|xs++[x]))(l:(xs++[x]).length<=dI):gx (.h k) 2 [] ⟨lo,st⟩=some (x,⟨lo,st.set k<|.list xs⟩):=by refine aN (by rw[H];rfl)<|aN (List.getLast?_concat ..) ?_;rw[r8 l,List.dropLast_concat]
theorem pw{k i:Nat}{x:SV}(g:st[k]? =some (.list xs))(H:i<xs.length)(l:i<=dI):mX (.h k) (.int i) x ⟨lo,st⟩=some ⟨lo,st.set k<|.list<|xs.set i x⟩:=by show(match st[k]?.bind ft with|some xs=>_|none=>_)=_;rw[g];show gd (decide (0<=(i:Int))&&decide ((i:Int)<xs.length)&&decide ((i:Int)<=dI)) _=_;rw[ju (by rw[decide_eq_true<|jk i,decide_eq_true<|lU.mpr H,decide_eq_true<|fG.mpr l];rfl)];rfl
theorem qA(l:List Nat):eQ (l.map λi:Nat=>SV.int i)=some (l.map λi:Nat=>j3 i):=by
 induction l with
 |nil=>exact rfl
 |cons i l h=>show(ls<|.int i).bind (λd=>(eQ (l.map λi:Nat=>SV.int i)).map λs=>d::s)=_;rw[h];rfl
theorem yU{l:List Nat}(H:st[k]? =some (.list (l.map λi:Nat=>SV.int i))):ir st .ne (.h k) (.lst [])=some (!l.isEmpty):=by show(((st[k]?.bind ft).bind λs=>(eQ s).map o9).bind λD=>(mY st<|.lst []).bind λg=>gd (decide<|min D.depth g.depth<=b7)<|bc D g).map (!·)=_;rw[H];show(((eQ (l.map λi:Nat=>SV.int i)).map o9).bind _).map _=_;rw[qA];show(gd (decide<|min _ (o9 []).depth<=b7)<|bc (.list (l.map λi:Nat=>j3 i))<|.list []).map _=_;rw[ju<|decide_eq_true<|ah (dt _ _)<|by decide];cases l<;>rfl
theorem Lq{k i:Nat}{l:List Nat}(H:st[k]? =some (.list (l.map λi:Nat=>SV.int i)))(Q:l.contains i=q):ir st .jr (.int i) (.h k)=some (!q):=by
 have g:hU st (.h k)=none:=by show st[k]?.bind m1=none;rw[H];rfl
 have j:lz st (.h k)=some (l.map λi:Nat=>SV.int i):=by show st[k]?.bind ft=_;rw[H];rfl
 refine gy ?_ rfl;show(match hU st (.h k) with|some p=>_|none=>_)=_;rw[g];refine aN j ?_;show((eQ (l.map λi:Nat=>SV.int i)).bind λs=>gd true<|s.findIdx? λx=>bc x<|.int i).map (·.isSome)=_;rw[qA];show some ((l.map λi:Nat=>j3 i).findIdx? λx=>bc x<|.int i).isSome=_;congr 1;rw[qh,List.any_map,<-Q,g8,uH,fP];constructor
 ·rintro⟨x,r,e⟩;have:=e;rw[<-mW.mp<|beq_iff_eq.mp this];exact r
 ·intro h;exact⟨i,h,by show((i:Int)==i)=true;exact beq_self_eq_true _⟩
end
section
variable{C:bH}{M:bQ}{σ aC aT τ:ba}{lh lN:E}{v x y:SV}{e o i:E}{m:Bool}
theorem MZ{n:Nat}(h:bX C M lh σ=some (x,aC))(k:bX C M lN aC=some (.int n,aT))(H:n<=dI):bX C M (.rep m lh lN) σ=some (dh m (bf n x) aT):=aN h<|aN k<|aN rfl<|ju<|decide_eq_true (show(n:Int).natAbs<=dI from H)
theorem rQ(h:bX C M e σ=some (v,aC))(O:bX C M o aC=some (x,aT))(H:bX C M i aT=some (y,τ))(k:mX x y v τ=some g):ji C M (.asg (.ix o i) e) σ=some (.next,g):=bC h<|aN O<|aN H k
theorem Fe{c:ba->Option (SV×ba)}{f:ba->Option (FL×ba)}(h:c σ=some (.bool false,aC)):gV c f (n+1) σ=some (.next,aC):=aN h<|aN rfl rfl
theorem Fd{c:ba->Option (SV×ba)}{f:ba->Option (FL×ba)}(h:c σ=some (.bool true,aC))(k:f aC=some (.next,aT))(l:gV c f n aT=R):gV c f (n+1) σ=R:=aN h<|aN rfl<|aN k l
end
variable{B:List dB}{b i d:Nat}{x:dB}{st:List SO}{f:SV}{G:Nat×Nat->Bool->Bool}
noncomputable def Fb(B:List dB)(G:Nat×Nat->Bool->Bool)(b:Nat):Bool:=(N1 B b).foldr G false
theorem acr(h:B[b]? =some x):Fb B G b=((ak<|x.1.length+1).map λi=>(b,i)).foldr G (decide (b+1<B.length)&&Fb B G (b+1)):=by
 have H:=(af.mp h).1;unfold Fb;rw[zh h,JB];congr 1;by_cases q:b+1<B.length
 ·rw[decide_eq_true q];rfl
 ·rw[decide_eq_false q,show b+1=B.length by exact aat H q,Fw];rfl
theorem VK:prog.fns 282=some Zh:=rfl
def ub(B:List dB)(G:Nat×Nat->Bool->Bool)(m:Nat):List SV:=(ak B.length).map λj=>eD<|decide (m<=j)&&Fb B G j
theorem GP{m:Nat}:(ub B G m).length=B.length:=by unfold ub;rw[ag,ar]
theorem GO{m:Nat}(h:m<B.length):(ub B G<|m+1).set m (eD<|Fb B G m)=ub B G m:=by
 unfold ub;refine eE λj=>?_;by_cases q:j=m
 ·subst q;rw[dJ (by rw[ag,ar];exact h),ai,bx h];show _=some (eD<|decide (j<=j)&&Fb B G j);rw[decide_eq_true<|aF _];rfl
 ·rw[bJ<|ff q,ai,ai];cases e:(ak B.length)[j]? with
  |none=>rfl
  |some z=>obtain⟨g,H⟩:=af.mp e;rw[b3] at H;show some (eD<|decide (m+1<=z)&&Fb B G z)=some (eD<|decide (m<=z)&&Fb B G z);rw[show decide (m+1<=z)=decide (m<=z) by rw[decide_eq_decide];omega]
noncomputable def qL(m:Nat):List SV:=(ak m).map λi:Nat=>SV.int i
def Am(B:List dB):SV:=.lst<|(ak B.length).map λj=>.lst<|Yb j
theorem ZS(O:lG B)(I:0<B.length)(hf:f.free=false)(HS:∀d,wW (d+3) f st B G)(J:st.all (SO.low st.length)=true):
  EV (d+5) (fh 282) [BD B,eD false,f,fh 240] st=some (.lst<|(ak B.length).map λj=>eD<|Fb B G j,st):=by
 have V:=O.len
 have L:B.length<=dI:=by show _<=4000;exact WJ I V
 let p:=st.length
 let F:Nat->Option SV->Option SV->Option SV->ba:=λm t g Q=>⟨[.val<|BD B,.val<|eD false,.val f,.val<|fh 240,.val<|.h p,.val<|Am B,.val<|.h<|p+1,hJ t,hJ g,hJ Q,.un,.un,.un,.un,.un,.un],st++[.list<|ub B G m,.list<|qL m]⟩
 let Y:List S:=[et 7<|.bj iS 2 [],et 8<|dy 275 [bO,dy 268 [bO,eA,ou,bz,dm],ou,.int 0,cU],.ifs (.cmp .ne xr<|.sub eA ou) [.asg (.ix eA ou) xr,.for zo9 .over [.sub g9 ou] [.ifs (.cmp .jr De iS) [.expr<|.bj iS 0 [.oR 9]] []]] []]
 have W:∀(m n:Nat)(t g Q),m<=B.length->m<n->∃q1' q2' r,gV (bX (EV<|d+4) MM<|.cmp .ne iS<|.list false []) (cG (EV<|d+4) MM Y) n (F m t g Q)=some (.next,F 0 q1' q2' r):=by
  intro m;induction m with
  |zero=>
   intro n t g Q _ hn;cases n with
   |zero=>exact absurd hn<|b0 _
   |succ n=>exact y31 t g Q<|Fe<|dz (y:=.lst []) rfl rfl<|yU (l:=ak 0) Ak
  |succ m ih=>
   intro n t g Q H hn;cases n with
   |zero=>exact absurd hn<|fu _
   |succ n=>
    have hx:=ax H;generalize B[m]'(H)=x at hx;have D:m<=dI:=by show _<=4000;exact abE I V H
    have turn:∃r,cG (EV<|d+4) MM Y (F (m+1) t g Q)=some (.next,F m (some<|.int m) (some<|eD<|Fb B G m) r):=by
     let A:List SO:=st++[.list<|ub B G<|m+1,.list<|qL m];let K:Option SV->Option SV->List SO->ba:=λg Q s=>⟨[.val<|BD B,.val<|eD false,.val f,.val<|fh 240,.val<|.h p,.val<|Am B,.val<|.h<|p+1,.val<|.int m,hJ g,hJ Q,.un,.un,.un,.un,.un,.un],s⟩;have s1:ji (EV<|d+4) MM (et 7<|.bj iS 2 []) (F (m+1) t g Q)=some (.next,K g Q A):=by
      have e0:(st++[.list<|ub B G<|m+1,.list<|qL<|m+1])[p+1]? =some (.list<|qL m++[.int m]):=by rw[Ak];unfold qL;rw[d6,a6];rfl
      refine bC (hM rfl ?_ ?_ rfl<|SD e0 ?_) ?_
      ·show(st++[.list<|ub B G<|m+1,.list<|qL<|m+1])[p+1]?.bind jT=none;rw[e0];rfl
      ·show((st++[.list<|ub B G<|m+1,.list<|qL<|m+1])[p+1]?.bind ft).isSome=true;rw[e0];rfl
      ·unfold qL;rw[aj,ag,ar];show m+1<=4000;exact abD I V H
      ·show gu 7 (.int m) ⟨_,(st++[SO.list<|ub B G<|m+1,SO.list<|qL<|m+1]).set (p+1)<|.list<|qL m⟩=_;rw[Uq];cases t<;>rfl
     have U:ji (EV<|d+4) MM (et 8<|dy 275 [bO,dy 268 [bO,eA,ou,bz,dm],ou,.int 0,cU]) (K g Q A)=some (.next,K (some<|eD<|Fb B G m) Q A):=by have e1:=aeJ (d:=d+2) (st:=A) O hx (k:=p) Co;rw[decide_eq_true<|aF<|m+1,mP] at e1;have e2:=aeI O hx hf (HS d) [SO.list<|ub B G<|m+1,SO.list<|qL m]<|decide (m+1<B.length)&&Fb B G (m+1);rw[<-acr hx] at e2;refine bC (bM (aT:=K g Q A) (vs:=[BD B,eD<|decide (m+1<B.length)&&Fb B G (m+1),.int m,.int 0,f]) rfl (kG rfl<|kG (bM (aT:=K g Q A) (vs:=[BD B,.h p,.int m,eD false,fh 240]) rfl rfl e1) rfl) e2) ?_;cases g<;>rfl
     have ef:fb A (.h p) (.int m)=some (eD false):=by refine ox Co<|fS ?_ D;unfold ub;rw[ai,bx H];show some (eD<|decide (m+1<=m)&&Fb B G m)=_;rw[decide_eq_false<|G8 m];rfl
     cases hF:Fb B G m with
     |false=>
      rw[hF] at U;refine⟨Q,aW s1<|aW U<|aW (uK (dz rfl (bF rfl rfl ef)<|Mu false false) rfl) ?_⟩;show some (FL.next,K (some<|eD false) Q A)=some (FL.next,F m (some<|.int m) (some<|eD false) Q);have:=GO (G:=G) H;rw[hF] at this;have e3:ub B G (m+1)=ub B G m:=by
       rw[<-this];refine(eE λj=>?_).symm;by_cases q:j=m
       ·subst q;rw[dJ (by rw[GP];exact H)];unfold ub;rw[ai,bx H];show _=some (eD<|decide (j+1<=j)&&Fb B G j);rw[decide_eq_false<|G8 j];rfl
       ·rw[bJ<|ff q]
      show _=some (FL.next,K (some<|eD false) Q<|st++[.list<|ub B G m,.list<|qL m]);rw[<-e3]
     |true=>
      rw[hF] at U;have e4:=hF▸GO H;let A2:List SO:=st++[.list<|ub B G m,.list<|qL m];have s3:ji (EV<|d+4) MM (.asg (.ix eA ou) xr) (K (some<|eD true) Q A)=some (.next,K (some<|eD true) Q A2):=by refine rQ rfl rfl rfl ((pw Co (by rw[GP];exact H) D).trans ?_);rw[e4,KO]
      have e5:fb A2 (Am B) (.int m)=some (.lst<|Yb m):=by refine mZ<|fS ?_ D;rw[ai,bx H];rfl
      cases m with
      |zero=>exact⟨Q,aW s1<|aW U<|aW (Aw (dz rfl (bF rfl rfl ef)<|Mu true false)<|aW s3<|aW (fj (d4<|bF rfl rfl e5) rfl rfl rfl) rfl) rfl⟩
      |succ m=>refine⟨some<|.int m,aW s1<|aW U<|aW (Aw (dz rfl (bF rfl rfl ef)<|Mu true false)<|aW s3<|aW (fj (d4<|bF rfl rfl e5) rfl rfl<|gL (aN (a:=K (some<|eD true) (some<|.int m) A2) (by cases Q<;>rfl)<|aW (uK (dz rfl rfl<|Lq Ak (q:=true) ?_) rfl) rfl) rfl) rfl) rfl⟩;rw[fP,bV];exact cp m
    refine eS turn λr e=>Sn (ih n (some<|.int m) (some<|eD<|Fb B G m) r (ct H)<|ace hn) λp1 p2 p3 e'=>?_;refine y31 p1 p2 p3<|Fd (dz (y:=.lst []) rfl rfl<|(yU Ak).trans ?_) e e';rw[d6];cases ak m<;>rfl
 refine Sn (W B.length 1000 none none none (aF _)<|aaS I V) λt g Q e=>?_
 have eZ:ub B G 0=(ak B.length).map λj=>eD (Fb B G j):=by unfold ub;refine gE λj z=>?_;rw[decide_eq_true<|dW j,mP]
 have eL:ub B G B.length=bf B.length (eD false):=by unfold ub;refine uG (by rw[ag,ar,kb]) λj h1 h2=>?_;rw[kb] at h2;rw[km,b3,List.getElem_replicate,decide_eq_false<|Ot h2];rfl
 have l1:=λ{s lo}=>by have:=fL (C:=EV<|d+4) (M:=MM) (e:=eM 9) (σ:=⟨.val (BD B)::lo,s⟩) (aC:=⟨.val (BD B)::lo,s⟩) rfl rfl (by rw[gc];exact L);rwa[gc] at this
 have w:bS [BD B,eD false,f,fh 240]=false:=by show(true&&(true&&(f.free&&true)))=false;rw[hf];rfl
 refine fX VK<|gJ rfl w rfl (aW (τ:=⟨[.val<|BD B,.val<|eD false,.val f,.val<|fh 240,.val<|.h p,.un,.un,.un,.un,.un,.un,.un,.un,.un,.un,.un],st++[.list<|ub B G B.length]⟩) ?_<|aW (bC (bM rfl (d4 rfl)<|aeN O I) rfl)<|aW ?_<|aW e<|f7<|ej rfl) (oQ (by rw[<-eZ];exact Co)<|dU (λz=>pL _) _) ?_
 ·refine bC (MZ rfl l1 L) ?_;rw[eL];rfl
 ·refine bC (sf (d4 l1) (aT:=⟨[.val<|BD B,.val<|eD false,.val f,.val<|fh 240,.val<|.h p,.val<|Am B,.un,.un,.un,.un,.un,.un,.un,.un,.un,.un],st++[.list<|ub B G B.length,.list<|qL B.length]⟩) ?_) rfl;show gd (decide<|(B.length:Int).natAbs<=dI) (alloc (.list<|(ak (B.length:Int).toNat).map λ(i:Nat)=>SV.int i) _)=_;rw[ju<|decide_eq_true (show(B.length:Int).natAbs<=dI from L)];show some (SV.h (st++[SO.list<|ub B G B.length]).length,ba.mk _<|(st++[SO.list<|ub B G B.length])++[SO.list<|qL B.length])=_;rw[aj,aM];rfl
 ·rw[KO,l8 J]
end
section
theorem LI{a j:Type}{f:SV->ba->Option (FL×ba)}{g:a->SV}{F:Nat->j->ba}(xs:List a):∀(k:Nat)(c:j),(∀(i:Nat)(x:a),xs[i]? =some x->∀c,∃C,f (g x) (F (k+i) c)=some (.next,F (k+i+1) C))->∃C,cz f (xs.map g) (F k c)=some (.next,F (k+xs.length) C):=by
 induction xs with
 |nil=>intro k c _;exact⟨c,rfl⟩
 |cons x xs I=>
  intro k c h;refine eS (h 0 x rfl c) λl n=>?_;obtain⟨m,p⟩:=I (k+1) l λi y e c=>by have:=h (i+1) y e c;rwa[show k+(i+1)=k+1+i by exact W9] at this
  refine⟨m,gL n ?_⟩;rwa[show k+1+xs.length=k+(x::xs).length by rw[cI];exact ar2] at p
theorem rZ{a j:Type}{f:SV->ba->Option (FL×ba)}{g:a->SV}{F:Nat->j->ba}(xs:List a)(c:j)(h:∀(i:Nat)(x:a),xs[i]? =some x->∀c,∃C,f (g x) (F i c)=some (.next,F (i+1) C)):∃C,cz f (xs.map g) (F 0 c)=some (.next,F xs.length C):=by
 have:=LI xs 0 c λi x e c=>by rw[b9];exact h i x e c
 rwa[b9] at this
theorem l4{g:Type}{f:SV->ba->Option (FL×ba)}{F:Nat->g->ba}(n:Nat)(c:g)(h:∀i,i<n->∀c,∃C,f (.int i) (F i c)=some (.next,F (i+1) C)):∃C,cz f ((ak n).map λi:Nat=>SV.int i) (F 0 c)=some (.next,F n C):=by
 have:=rZ (ak n) c λi x e=>by obtain⟨H,a⟩:=af.mp e;rw[b3] at a;rw[ar] at H;subst a;exact h i H
 rwa[ar] at this
variable{B:List dB}{b i d:Nat}{x:dB}{st:List SO}{f:SV}{G:Nat×Nat->Bool->Bool}
theorem ZT(O:lG B)(h:B[b]? =some x){Fn:Nat->Bool}:
  EV (d+2) (fh 268) [BD B,.lst<|(ak B.length).map λj=>eD<|Fn j,.int b,eD false,fh 240] st=some (eD<|decide (b+1<B.length)&&Fn (b+1),st):=by
 have g:=(af.mp h).1
 have c:=O.len
 let s:SV:=.lst<|(ak B.length).map λj=>eD<|Fn j
 let F:SV->LV->ba:=λv q=>⟨[.val<|BD B,.val s,.val<|.int b,.val<|eD false,.val<|fh 240,.val v,q,.un],[]⟩
 have k:∀r q,cz (λx a=>(cS CA x a).bind λa=>cG (EV<|d+1) MM [et 5<|.call eA [g9,.sub bz iS]] a) (J5 b x.2) (F (eD false) .un)=some (.next,F (eD r) q)->
   EV (d+2) (fh 268) [BD B,s,.int b,eD false,fh 240] st=some (eD r,st):=λr q e=>
  bE MH rfl rfl rfl (aW (rfl)<|aW (fj (d4<|bM rfl (d4<|bF (bF rfl rfl<|O.w9 h) rfl rfl)<|cB O h) rfl rfl e)<|f7<|ej rfl) (by show(freeze fz (eD r) []).map _=_;rw[oO];rfl)
 have H:=O.last b x h
 cases ht:x.2 with
 |none=>have e:=H.mp ht;refine(k false .un (by rw[ht];rfl)).trans ?_;rw[decide_eq_false<|WK e];rfl
 |some w=>
  have n:=λq=>bU w<|ht.symm.trans<|H.mpr q;have l:b+1<B.length:=ar5 g n;refine(k (Fn<|b+1) (.val<|.int (b+1:Nat)) ?_).trans ?_
  ·rw[ht];refine gL (aW (bC (bM rfl (kG rfl<|d4<|bF rfl rfl<|mZ<|fS ?_ ?_)<|ZU false<|Fn<|b+1) rfl) rfl) rfl
   ·rw[ai,bx l];rfl
   ·show _<=4000;exact aaj c l
  ·rw[decide_eq_true l];rfl
noncomputable def Wm(B:List dB)(G:Nat×Nat->Bool->Bool)(b:Nat):Bool:=decide (b+1<B.length)&&Fb B G (b+1)
noncomputable def xa(B:List dB)(G:Nat×Nat->Bool->Bool)(x:dB)(p:Nat×Nat):Bool:=(((ak<|x.1.length+1).drop p.2).map λi=>(p.1,i)).foldr G<|Wm B G p.1
noncomputable def FP(B:List dB)(G:Nat×Nat->Bool->Bool)(p:Nat×Nat):Bool:=match B[p.1]? with
 |some x=>xa B G x p
 |none=>false
theorem Tq(h:B[b]? =some x){i:Nat}:FP B G (b,i)=xa B G x (b,i):=by show(match B[b]? with|some x=>xa B G x (b,i)|none=>false)=_;rw[h]
theorem RI:xa B G x (b,x.1.length+1)=Wm B G b:=by unfold xa;rw[nX (by rw[ar];exact aF _)];rfl
theorem NO{i:Nat}(h:i<=x.1.length):xa B G x (b,i)=G (b,i) (xa B G x (b,i+1)):=by unfold xa;show(((ak<|x.1.length+1).drop i).map _).foldr G _=G (b,i) ((((ak<|x.1.length+1).drop<|i+1).map _).foldr G _);rw[dN (by rw[ar];exact ar4 h),b3];rfl
noncomputable def KB(b:Nat)(x:dB):List (Nat×Nat):=(ak<|x.1.length+1).reverse.map λi=>(b,i)
def KS(B:List dB):List (Nat×Nat):=B.zipIdx.flatMap λp=>KB p.2 p.1
theorem F4(h:B[b]? =some x):KS (B.take<|b+1)=KS (B.take b)++KB b x:=by
 have H:=(af.mp h).1;have e:B.take (b+1)=B.take b++[x]:=by rw[gj,h];rfl
 unfold KS;rw[e,jh,iY];congr 1;show KB (0+(B.take b).length) x++[]=_;rw[a9,b9,bZ,ei<|a5 H]
theorem D8:p∈KS B↔p∈PS B:=by
 rw[jV];unfold KS;rw[uF];constructor
 ·rintro⟨q,Q,a⟩;refine dn (bw.mp a) λi H z=>?_;subst z;exact⟨q.1,by simpa using g6.mp Q,aP<|bV.mp<|uE.mp H⟩
 ·rintro⟨x,h,l⟩;exact⟨(x,p.1),g6.mpr (by simpa using h),bw.mpr ⟨p.2,uE.mpr<|bV.mpr<|dY l,rfl⟩⟩
theorem UU:∀n,n<=B.length->(KS<|B.take n).length=(PS<|B.take n).length:=by
 intro n;induction n with
 |zero=>intro _;rfl
 |succ n I=>intro h;have H:=ax h;rw[F4 H,kX H,aj,aj,I<|ct h];unfold KB;rw[ag,ag,eG]
theorem VJ:prog.fns 289=some Zg:=by kernel_rfl
theorem Cn:(st++[a])[st.length]? =some a:=by rw[az<|aF _,bt];rfl
theorem KN:(st++[a]).set st.length v=st++[v]:=by rw[ia _ _<|aF _,bt];rfl
theorem BR(c:st[k]? =some (.dict s vs))(H:bS s=true)(a:bS vs=true):freeze fz (.h k) st=some (.fW s vs,st.set k .gone):=by show(st[k]?.bind _)=_;rw[c];show(gd (bS s) ()).bind (λz=>(bP 49 vs<|st.set k .gone).map _)=_;rw[ju H];show(bP 49 vs<|st.set k .gone).map _=_;unfold bP;rw[a];rfl
theorem ZR(O:lG B)(hn:(PS B).length<=1000)(hf:f.free=false)(HS:∀d,wW (d+3) f st B G)(A:st.all (SO.low st.length)=true):
  EV (d+4) (fh 289) [BD B,.lst<|(ak B.length).map λj=>eD<|Fb B G j,eD false,f,fh 240] st=some (.fW ((KS B).map a7)<|(KS B).map λp=>eD<|FP B G p,st):=by
 have hB:=O.len
 have t:B.length<=dI:=by show _<=4000;exact WI hB
 let k0:=st.length
 let V:SV:=.lst<|(ak B.length).map λj=>eD<|Fb B G j
 let D:List (Nat×Nat)->List SO:=λL=>st++[.dict (L.map a7)<|L.map λp=>eD<|FP B G p]
 let K:List (Nat×Nat)->Option SV->Option SV->Option SV->ba:=λL q1 q2 J=>⟨[.val<|BD B,.val V,.val<|eD false,.val f,.val<|fh 240,.val<|.h k0,hJ q1,hJ q2,hJ J,.un,.un,.un],D L⟩
 let I:List S:=[et 7<|.call dm [ou,iS,xr],.asg (.ix g9<|.tup [iS,xr]) ou]
 have mx:∀(n:Nat)(x:dB),B[n]? =some x->∀J:Option SV,∃h' Q,cz (λx g=>(cS OU x g).bind λg=>cG (EV<|d+3) MM I g) ((ak<|x.1.length+1).reverse.map λi:Nat=>SV.int i) (K (KS<|B.take n) (some<|.int n) (some<|eD<|Wm B G n) J)=some (.next,K (KS<|B.take<|n+1) (some<|.int n) h' Q):=by
  intro n x H J;have hxl:=(O.each x<|aH H).1;have hnB:=(af.mp H).1;obtain⟨c,e⟩:=rZ (f:=λx g=>(cS OU x g).bind λg=>cG (EV<|d+3) MM I g) (F:=λj (q:Option SV)=>K (KS (B.take n)++(KB n x).take j) (some<|.int n) (some<|eD<|xa B G x (n,x.1.length+1-j)) q) (ak<|x.1.length+1).reverse J λj i hj q=>by
   obtain⟨s,h2⟩:=af.mp hj;rw[eG,ar] at s;rw[qg,b3,ar] at h2;have w:i=x.1.length-j:=by exact id<|ck h2
   have hp:(n,i)∈PS B:=jV.mpr ⟨x,H,by show i<=_;exact aai s w⟩;have a1:xa B G x (n,x.1.length+1-j)=xa B G x (n,i+1):=by rw[show x.1.length+1-j=i+1 from w▸Nat.succ_sub (aP s)]
   have a2:xa B G x (n,x.1.length+1-(j+1))=xa B G x (n,i):=by rw[show x.1.length+1-(j+1)=i from(Nat.add_sub_add_right ..).trans w.symm]
   have a3:(KB n x).take (j+1)=(KB n x).take j++[(n,i)]:=by rw[gj];unfold KB;rw[ai,hj];rfl
   have C:(n,i)∉KS (B.take n)++(KB n x).take j:=λM=>by
    rcases b4.mp M with M|M
    ·have:=Le<|D8.mp M;rw[bZ] at this;exact absurd (aY this<|gi _ _)<|b0 _
    ·unfold KB at M;rw[<-kz] at M;refine dn (bw.mp M) λz hz e=>?_;obtain rfl:z=i:=(fy e).2;refine eS (gk hz) λy Y=>?_;obtain⟨h3,h4⟩:=af.mp Y;rw[bZ,eG,ar] at h3;rw[List.getElem_take,qg,b3,ar] at h4;have Y:y<j:=aY h3<|gi _ _;exact absurd (h4.trans w)<|cv<|Nat.sub_lt_sub_left (aY Y<|aP s) Y
   have N:(KS (B.take n)++(KB n x).take j).length<=dI:=by rw[aj,UU n<|a5 hnB,bZ];have:=FG (B:=B) n;unfold KB;rw[ag,eG,ar];exact ah (iK (ah this hn)<|ah (dt _ _)<|iR hxl) (by decide)
   refine⟨some<|.int i,?_⟩;rw[a1,a2,a3];have U:=HS d [SO.dict ((KS (B.take n)++(KB n x).take j).map a7)<|(KS (B.take n)++(KB n x).take j).map λp=>eD<|FP B G p] (n,i) (xa B G x (n,i+1)) hp;rw[<-NO (B:=B) (G:=G) (b:=n) (x:=x) (show i<=x.1.length by exact aai s w)] at U;let k:Bool->ba:=λv=>K (KS (B.take n)++(KB n x).take j) (some<|.int n) (some<|eD v)<|some<|.int i;have hf2:eD (xa B G x (n,i))=eD (FP B G (n,i)):=by rw[Tq H]
   refine aN (a:=k<|xa B G x (n,i+1)) (by cases q<;>rfl)<|aW (τ:=k<|xa B G x (n,i)) (bC (bM (aT:=k<|xa B G x (n,i+1)) (vs:=[eD<|xa B G x (n,i+1),.int n,.int i]) rfl rfl U) rfl)<|aW (rQ (x:=.h k0) (y:=a7 (n,i)) (τ:=k<|xa B G x (n,i)) rfl rfl rfl<|hf2▸mH (f:=λp=>eD<|FP B G p) Cn C N) ?_;show some (FL.next,_)=some (FL.next,_);rw[<-aM];congr 2;show ba.mk _ _=ba.mk _ _;rw[KN]
  rw[eG,ar] at e;refine⟨some<|eD<|xa B G x (n,x.1.length+1-(x.1.length+1)),c,?_⟩;have e1:KS (B.take n)++(KB n x).take 0=KS (B.take n):=by rw[List.take_zero,a9]
  have e2:KS (B.take n)++(KB n x).take (x.1.length+1)=KS (B.take<|n+1):=by rw[F4 H,c9 (l:=KB n x)];unfold KB;rw[ag,eG,ar];exact aF _
  have e3:xa B G x (n,x.1.length+1-0)=Wm B G n:=by rw[uf,RI]
  rw[e1,e2,e3] at e;exact e
 obtain⟨⟨c1,c2⟩,e⟩:=l4 (f:=λx g=>(cS CA x g).bind λg=>cG (EV<|d+3) MM [et 7<|dy 268 [bO,bz,iS,cU,eA],.for OU .m8 [jm<|cy (.sub (eM 9) iS) 0,.neg<|.int 1,.neg<|.int 1] I] g) (F:=λn c=>K (KS<|B.take n) (pv n) c.1 c.2) B.length (none,none) λn h c=>by have H:=ax h;generalize B[n]'(h)=x at H;refine w5 (mx n x H c.2) λh' Q e=>?_;have hl:=(O.at H).2;have M:(x.1.map qB).length=x.1.length:=ag ..;let k:Option SV->ba:=λv=>K (KS<|B.take n) (some<|.int n) v c.2;refine⟨(h',Q),aN (a:=k c.1) (by cases n<;>rfl)<|aW (τ:=k<|some<|eD<|Wm B G n) (bC (bM (aT:=k c.1) (vs:=[BD B,V,.int n,eD false,fh 240]) rfl rfl<|ZT (d:=d+1) O H (Fn:=Fb B G))<|by cases c.1<;>rfl)<|aW (fj (kG (fL (bF (bF rfl rfl<|O.w9 H) rfl rfl) rfl<|mj hl) rfl) (by rw[M];exact F7 (by rw[<-M];exact hl)) rfl e) rfl⟩
 rw[cH] at e
 have r:bS [BD B,V,eD false,f,fh 240]=false:=by show(true&&(true&&(true&&(f.free&&true))))=false;rw[hf];rfl
 refine fX VJ<|gJ rfl r rfl (aW (τ:=K (KS<|B.take 0) none none none) (rfl)<|aW (fj (d4<|fL (aC:=K (KS<|B.take 0) none none none) (xs:=rg B) rfl rfl (by rw[gc];exact t)) (iV (by rw[gc];exact t)) rfl (by rw[gc];exact e))<|f7<|ej rfl) (BR Cn (dU (λu=>rfl) _)<|dU (λu=>pL _) _) ?_
 rw[KN,l8 A]
end
section
def uV(B:List dB)(p:Nat×Nat):SV:=eD<|TR<|wP B p
def dV(B:List dB)(p:Nat×Nat):SV:=eD<|V5<|wP B p
def sV(B:List dB)(p:Nat×Nat):SV:=eD<|KP<|wP B p
def LS(B:List dB)(as:List Nat)(vs:List SV)(T1 T2 T3:List (Nat×Nat)):List SO:=
 [.inst 588 (38::39::40::as)<|.h 1::.h 2::.h 3::vs,.dict (T1.map a7)<|T1.map<|uV B,.dict (T2.map a7)<|T2.map<|dV B,.dict (T3.map a7)<|T3.map<|sV B]
def Gu(B:List dB)(p:Nat×Nat)(q:Bool):Bool:=(q&&!KP (wP B p))||TR (wP B p)
def Gd(B:List dB)(p:Nat×Nat)(q:Bool):Bool:=(q&&!KP (wP B p))||V5 (wP B p)
theorem Vs:prog.fns 564=some YY:=by kernel_rfl
theorem Vr:prog.fns 571=some YX:=by kernel_rfl
theorem Vq:prog.fns 578=some YW:=by kernel_rfl
theorem Vp:prog.fns 585=some YV:=by kernel_rfl
theorem Vt:prog.fns 557=some YZ:=by kernel_rfl
variable{B:List dB}{d:Nat}{x:dB}{st:List SO}{as:List Nat}{vs:List SV}
theorem Kb:wW (d+1) (.rh 564<|.h 0) (LS B as vs (PS B) (PS B)<|PS B) B (Gu B):=λext p q H=>by let a:ba:=⟨[.val<|.h 0,.val<|eD q,.val<|.int p.1,.val<|.int p.2],LS B as vs (PS B) (PS B) (PS B)++ext⟩;exact wH Vs<|gJ rfl rfl rfl (f7<|ej<|gm (gm (aC:=a) rfl (bF (aC:=a) (y:=a7 p) rfl rfl<|nq rfl H)<|Mq q _) (bF (aC:=a) (y:=a7 p) rfl rfl<|nq rfl H)<|Mr _ _) (oO _)<|iq rfl
theorem Kc:wW (d+1) (.rh 571<|.h 0) (LS B as vs (PS B) (PS B)<|PS B) B (Gd B):=λext p q H=>by let a:ba:=⟨[.val<|.h 0,.val<|eD q,.val<|.int p.1,.val<|.int p.2],LS B as vs (PS B) (PS B) (PS B)++ext⟩;exact wH Vr<|gJ rfl rfl rfl (f7<|ej<|gm (gm (aC:=a) rfl (bF (aC:=a) (y:=a7 p) rfl rfl<|nq rfl H)<|Mq q _) (bF (aC:=a) (y:=a7 p) rfl rfl<|nq rfl H)<|Mr _ _) (oO _)<|iq rfl
theorem aeQ(z:Option W):wJ .cY [.lst<|usO z] σ=some (eD<|TR z,σ):=gy (XN z) rfl
theorem aeS(z:Option W):wJ .cY [.lst<|drL z] σ=some (eD<|V5 z,σ):=gy (Zy z) rfl
theorem aeR(z:Option W):wJ .cY [.lst<|seL z] σ=some (eD<|KP z,σ):=gy (X3 z) rfl
theorem iU{a:Type}{h:a->SV}(H:∀x,(h x).low n=true)(xs:List a):SV.lows n (xs.map h)=true:=by
 induction xs with
 |nil=>exact rfl
 |cons x xs i=>show((h x).low n&&SV.lows n (xs.map h))=true;rw[H x,i];rfl
theorem Ej(a:Bool):(eD a).low n=true:=by cases a<;>rfl
theorem zA(v:SV.lows 4 vs=true){T:List (Nat×Nat)}:(LS B as vs T T T).all (SO.low (LS B as vs T T T).length)=true:=by show(SV.lows 4 (.h 1::.h 2::.h 3::vs)&&(SV.lows 4 (T.map<|uV B)&&(SV.lows 4 (T.map<|dV B)&&(SV.lows 4 (T.map<|sV B)&&true))))=true;rw[iU (h:=uV B) λz=>Ej _,iU (h:=dV B) λz=>Ej _,iU (h:=sV B) λz=>Ej _];show(true&&(true&&(true&&SV.lows 4 vs))&&true)=true;rw[v];rfl
theorem k8(b:st[k]? =some (.dict s ws))(H:bS s=true)(a:bS ws=true):freeze (n+2) (.h k) st=some (.fW s ws,st.set k .gone):=by show(st[k]?.bind _)=_;rw[b];show(gd (bS s) ()).bind (λz=>(bP (n+1) ws<|st.set k .gone).map _)=_;rw[ju H];show(bP (n+1) ws<|st.set k .gone).map _=_;unfold bP;rw[a];rfl
theorem fR(H:bS (v::r)=false)(h:freeze n v st=some (w,s))(k:bP n r s=some (ws,a)):bP (n+1) (v::r) st=some (w::ws,a):=by unfold bP;rw[H];exact aN h<|gy k rfl
theorem oP(h:bS r=true):bP (n+1) r st=some (r,st):=by unfold bP;rw[h]
theorem yz{args as:List SV}(H:prog.fns a=none)(b:prog.cls a=some ⟨i,.freeze⟩)(f:prog.fns i=some fn)(A:bS args=true)(s:qP fn (.h 0::args)=some as)
  (h:cG (EV d) MM fn.body ⟨(cu fn.kinds as [] [.inst a [] []]).1,(cu fn.kinds as [] [.inst a [] []]).2⟩=some (.next,τ)) (z:(freeze fz (.h 0) τ.st).map (·.1)=some v):EV (d+1) (.raw<|.ref a) args st=some (v,st):=by
 show(match prog.fns a with|some fn=>_|none=>(prog.cls a).bind λc=>(prog.fns c.init).bind λfn=>nu (EV d) MM a c.Lh fn args st)=_
 rw[H]
 refine aN b<|aN f ?_
 show(match bS args with|true=>_|false=>_)=_
 rw[A]
 refine aN ?_ (by
  cases e:freeze fz (.h 0) τ.st with
  |none=>rw[e] at z;cases z
  |some r=>rw[e] at z;rw[<-aa z];rfl)
 show(nM (EV d) MM fn (.h 0::args) [] [.inst a [] []]).bind _=_
 exact aN (aN s<|gy h rfl) rfl
def IX(B:List dB):SV:=.inst 588 [38,39,40,41,42] [.fW ((PS B).map a7)<|(PS B).map<|uV B,.fW ((PS B).map a7)<|(PS B).map<|dV B,.fW ((PS B).map a7)<|(PS B).map<|sV B,.fW ((KS B).map a7)<|(KS B).map λp=>eD<|FP B (Gu B) p,.fW ((KS B).map a7)<|(KS B).map λp=>eD<|FP B (Gd B) p]
def RM(B:List dB)(q a c:LV)(s:List SO):ba:=⟨[.val<|.h 0,.val<|BD B,q,a,c,.un,.un,.un,.un,.un,.un,.un,.un,.un],s⟩
theorem LJ(O:lG B)(D:(PS B).length<=1000):∃c,cz (λx τ=>(cS JO x τ).bind λτ=>cG (EV<|d+6) MM [.asg (.ix (eM 38) cU)<|.bi .cY [dy 522 [bz,cU]],.asg (.ix (eM 39) cU)<|.bi .cY [dy 536 [bz,cU]],.asg (.ix (eM 40) cU)<|.bi .cY [dy 543 [bz,cU]]] τ) ((PS B).map a7) (RM B .un .un .un<|LS B [] [] [] [] [])=some (.next,RM B (hJ c) .un .un<|LS B [] [] (PS B) (PS B)<|PS B):=by
 let F:LV->LV->LV->List SO->ba:=RM B;let P:=PS B;obtain⟨c,e⟩:=rZ (f:=λx τ=>(cS JO x τ).bind λτ=>cG (EV<|d+6) MM [.asg (.ix (eM 38) cU)<|.bi .cY [dy 522 [bz,cU]],.asg (.ix (eM 39) cU)<|.bi .cY [dy 536 [bz,cU]],.asg (.ix (eM 40) cU)<|.bi .cY [dy 543 [bz,cU]]] τ) (g:=a7)
  (F:=λi (q:Option SV)=>F (hJ q) .un .un<|LS B [] [] (P.take i) (P.take i)<|P.take i) P none λi p H q=>by
   have M:p∈P:=aH H;refine dn (jV.mp M) λx r w=>?_;have z:wP B p=wd x p.2:=by unfold wP;rw[r];rfl
   have G:P.take (i+1)=P.take i++[p]:=by rw[gj,H];rfl
   have n:p∉P.take i:=λm=>by have N:=oD B;rw[<-cV i<|PS B] at N;refine(cL.mp N).2.2 p m p ?_ rfl;have J:=(af.mp H).1;rw[dN J];have:=(af.mp H).2;exact aQ.mpr<|.inl this.symm
   have l:(P.take i).length<=dI:=by rw[bZ];show min i (PS B).length<=4000;exact abu D
   rw[G];let T:=P.take i;let t:=P.take i++[p];let S:List SO->ba:=λs=>F (.val<|a7 p) .un .un s;refine⟨some<|a7 p,aN (a:=S<|LS B [] [] T T T) (by cases q<;>rfl)<|aW (τ:=S<|LS B [] [] t T T) (rQ (v:=eD<|TR<|wd x p.2) (x:=.h 1) (y:=a7 p) (aC:=S<|LS B [] [] T T T) (aT:=S<|LS B [] [] T T T) (τ:=S<|LS B [] [] T T T) (sf (d4<|bM (aC:=S<|LS B [] [] T T T) (aT:=S<|LS B [] [] T T T) (vs:=[BD B,a7 p]) rfl rfl<|aex (d:=d+2) O r w)<|aeQ _) rfl rfl ?_)
    (aW (τ:=S<|LS B [] [] t t T) (rQ (v:=eD<|V5<|wd x p.2) (x:=.h 2) (y:=a7 p) (aT:=S<|LS B [] [] t T T) (τ:=S<|LS B [] [] t T T) (sf (d4<|bM (aC:=S<|LS B [] [] t T T) (aT:=S<|LS B [] [] t T T) (vs:=[BD B,a7 p]) rfl rfl<|aev (d:=d+4) O r w)<|aeS _) rfl rfl ?_)
    (aW (τ:=S<|LS B [] [] t t t) (rQ (v:=eD<|KP<|wd x p.2) (x:=.h 3) (y:=a7 p) (aT:=S<|LS B [] [] t t T) (τ:=S<|LS B [] [] t t T) (sf (d4<|bM (aT:=S<|LS B [] [] t t T) (vs:=[BD B,a7 p]) rfl rfl<|aeu (d:=d+4) O r w)<|aeR _) rfl rfl ?_) rfl))⟩
   ·rw[<-z];exact mH (k:=1) (f:=uV B) rfl n l
   ·rw[<-z];exact mH (k:=2) (f:=dV B) rfl n l
   ·rw[<-z];exact mH (k:=3) (f:=sV B) rfl n l
 have C:P.take P.length=PS B:=cH;rw[C] at e;exact⟨c,e⟩
theorem Qs(h:bS [U,D]=true):(freeze fz (.h 0)<|LS B [41,42] [U,D] (PS B) (PS B)<|PS B).map (·.1)=some (.inst 588 [38,39,40,41,42] [.fW ((PS B).map a7)<|(PS B).map<|uV B,.fW ((PS B).map a7)<|(PS B).map<|dV B,.fW ((PS B).map a7)<|(PS B).map<|sV B,U,D]):=by
 have k:∀f:Nat×Nat->SV,(∀p,(f p).free=true)->bS ((PS B).map f)=true:=λf h=>dU h _;have e:∃s,bP 49 [.h 1,.h 2,.h 3,U,D] ((LS B [41,42] [U,D] (PS B) (PS B)<|PS B).set 0 .gone)=some ([.fW ((PS B).map a7)<|(PS B).map<|uV B,.fW ((PS B).map a7)<|(PS B).map<|dV B,.fW ((PS B).map a7)<|(PS B).map<|sV B,U,D],s):=
  ⟨_,fR rfl (k8 rfl (k _ λz=>rfl)<|k _ λz=>pL _)<|fR rfl (k8 rfl (k _ λz=>rfl)<|k _ λz=>pL _)<|fR rfl (k8 rfl (k _ λz=>rfl)<|k _ λz=>pL _)<|oP h⟩
 obtain⟨s,e⟩:=e;show((bP 49 [.h 1,.h 2,.h 3,U,D]<|(LS B [41,42] [U,D] (PS B) (PS B)<|PS B).set 0 .gone).map _).map _=_;rw[e];rfl
theorem aer(O:lG B)(H:0<B.length)(h:(PS B).length<=1000):EV (d+7) (fh 588) [BD B] st=some (IX B,st):=by
 let F:LV->LV->LV->List SO->ba:=RM B;obtain⟨c,e⟩:=LJ O h;let L:=LS B [] [] (PS B) (PS B)<|PS B;let U:SV:=.fW ((KS B).map a7)<|(KS B).map λp=>eD<|FP B (Gu B) p;let f:SV:=.fW ((KS B).map a7)<|(KS B).map λp=>eD<|FP B (Gd B) p;let l:=LS B [41] [U] (PS B) (PS B)<|PS B;let a:=LS B [41,42] [U,f] (PS B) (PS B)<|PS B;let s:SV:=.lst<|(ak B.length).map λj=>eD<|Fb B (Gu B) j;let D:SV:=.lst<|(ak B.length).map λj=>eD<|Fb B (Gd B) j;refine yz (rfl) (rfl) Vt rfl rfl (aW (τ:=F .un .un .un<|LS B [] [] [] [] []) (rfl)<|aW (τ:=F (hJ c) .un .un L) (fj (d4<|bM rfl rfl<|Rp O h) rfl rfl e)
  (aW (τ:=F (hJ c) (.val s) .un L) (bC (bM (aT:=F (hJ c) .un .un L) rfl (rfl)<|ZS O H rfl (λd=>Kb)<|zA rfl) rfl)
  (aW (τ:=F (hJ c) (.val s) (.val D) L) (bC (bM (aT:=F (hJ c) (.val s) .un L) rfl (rfl)<|ZS O H rfl (λd=>Kc)<|zA rfl) rfl)
  (aW (bC (bM (aT:=F (hJ c) (.val s) (.val D) L) rfl (rfl)<|ZR O h rfl (λd=>Kb)<|zA rfl)<|rfl)
  (aW (bC (bM (aT:=F (hJ c) (.val s) (.val D) l) rfl (rfl)<|ZR O h rfl (λd=>Kc)<|zA rfl)<|rfl) rfl)))))<|Qs rfl
theorem aet(h:p∈PS B):EV (d+1) (fh 578) [IX B,a7 p] st=some (eD<|FP B (Gu B) p,st):=
 bE Vq rfl rfl rfl (f7<|ej<|bF rfl rfl<|nq rfl<|D8.mpr h) (by show(freeze fz (eD _) []).map _=_;rw[oO];rfl)
theorem aes(h:p∈PS B):EV (d+1) (fh 585) [IX B,a7 p] st=some (eD<|FP B (Gd B) p,st):=
 bE Vp rfl rfl rfl (f7<|ej<|bF rfl rfl<|nq rfl<|D8.mpr h) (by show(freeze fz (eD _) []).map _=_;rw[oO];rfl)
end
section
noncomputable def ey:List (List Nat):=[[],[0],[1],[2],[0,1],[0,2],[1,0],[1,2],[2,0],[2,1],[0,1,2],[0,2,1],[1,0,2],[1,2,0],[2,0,1],[2,1,0]]
noncomputable def aci(c:List Nat)(k:Nat):List Nat:=if c.contains k then c else c++[k]
noncomputable def Sy:W->Option Nat
 |.d0=>some 0|.d1=>some 1|.d2=>some 2|_=>none
def AP(c:List Nat)(z:Option W):List Nat:=match z.bind Sy with
 |some k=>aci c k
 |none=>c
def plK(k:Nat):SV:=.tup [.int 1,.tup [.tup [tS "field",.int k]]]
def CC(c:List Nat):List SV:=.tup [.int 0,.tup []]::.tup [.int 1,.tup []]::c.map plK
noncomputable def Br(c:List Nat):List SV:=(ak<|c.length+2).map λi:Nat=>SV.int i
noncomputable def DP(c:List Nat):List SV:=.int (-1)::.int (-1)::c.map λz=>.int 1
noncomputable def D9(c:List Nat):List (List SV):=[]::((ak c.length).map λi:Nat=>SV.int (2+i:Nat))::c.map λz=>[]
def MST(c:List Nat)(v w:SV):List SO:=
 [.inst 493 [14] [v],.inst 404 [14,15,16,17,18,19,20] [v,w,.h 2,.h 3,.h 4,.h 5,.h 6],.list<|CC c,.list<|DP c,.list<|(ak<|c.length+2).map λi=>.h<|7+i,.dict (CC c)<|Br c,.dict [] []]++(D9 c).map SO.list
def PV(c:List Nat)(v w:SV):SO:=.inst 404 [14,15,16,17,18,19,20] [v,w,.lst<|CC c,.lst<|DP c,.lst<|(D9 c).map SV.lst,.fW (CC c)<|Br c,.h 6]
theorem Rk:∀c∈ey,∀z,AP c z∈ey:=by
 intro c H z;have h:ey.all (λc=>[none,some 0,some 1,some 2].all λz=>ey.contains (match z with|some k=>aci c k|none=>c))=true:=by decide+kernel
 have:=aZ.mp (aZ.mp h c H) (z.bind Sy) (by
  rcases z with _|w
  ·exact .head _
  ·cases w<;>first|exact .head _|exact .tail _ (.head _)|exact .tail _ (.tail _<|.head _)|exact .tail _<|.tail _<|.tail _<|.head _)
 exact fP.mp this
theorem VH:prog.fns 404=none:=by kernel_rfl
theorem VI:prog.fns 338=some Ep:=by kernel_rfl
theorem Wc:prog.cls 404=some ⟨338,.some [16,17,18,19]⟩:=by kernel_rfl
theorem d5{l:List b}(h:l.map f=l.map g):∀x∈l,f x=g x:=by
 induction l with
 |nil=>intro x H;exact absurd H aJ
 |cons a l i=>
  rw[cA,cA,E5] at h;intro x H;rcases aQ.mp H with e|e
  ·rw[e];exact h.1
  ·exact i h.2 x e
noncomputable def pls:List W:=[.drop,.d0,.d1,.d2]
noncomputable def Cr:S:=.ifs (.cmp .jt iS .none) [.expr<|.bj bO 21 [.bj bO 23 [iS]]] []
theorem RB(d:Nat)(L:SV)(xs:List SV)(was:List Nat)(wvs:List SV)(q1 q2 q3:LV):ey.map (λc=>pls.map λw=>ji (EV<|d+6) MM Cr ⟨[.val<|.h 1,.val<|o7 xs L,.val<|.inst 662 was wvs,q1,q2,q3,.val<|PZ w,.un,.un,.un,.un,.un,.un],MST c (o7 xs L)<|.inst 662 was wvs⟩)=
  ey.map λc=>pls.map λw=>some (.next,⟨[.val<|.h 1,.val<|o7 xs L,.val<|.inst 662 was wvs,q1,q2,q3,.val<|PZ w,.un,.un,.un,.un,.un,.un],MST (AP c<|some w) (o7 xs L)<|.inst 662 was wvs⟩):=by kernel_rfl
def MS0(c:List Nat)(v w:SV):List SO:=[.inst 493 [14] [v],PV c v w,.gone,.gone,.gone,.gone,.dict [] []]
theorem QU(xs:List SV)(L:SV)(was:List Nat)(wvs:List SV):ey.map (λc=>(fC 1 [16,17,18,19]<|MST c (o7 xs L)<|.inst 662 was wvs).bind λs=>jK (kg s).length s)=ey.map λc=>some (MS0 c (o7 xs L)<|.inst 662 was wvs):=by kernel_rfl
def MF(c:List Nat)(v w:SV)(q3 q4 Q q6:LV):ba:=⟨[.val<|.h 1,.val v,.val w,q3,q4,Q,q6,.un,.un,.un,.un,.un,.un],MST c v w⟩
theorem vB:∀{r:List S}{σ τ:ba},cG C M l σ=some (.next,τ)->cG C M (l++r) σ=cG C M r τ:=by
 induction l with
 |nil=>intro r σ τ h;rw[(fy<|aa h).2];rfl
 |cons s l i=>
  intro r σ τ h;have h:(ji C M s σ).bind _=_:=h;show(ji C M s σ).bind _=_;cases e:ji C M s σ with
  |none=>rw[e] at h;cases h
  |some q=>
   rw[e] at h;obtain⟨f,a⟩:=q;cases f with
   |next=>exact i h
   |ret v=>cases h
variable{B:List dB}{d:Nat}{x:dB}{st:List SO}{was:List Nat}{wvs:List SV}{c:List Nat}
theorem wR(h:c∈ey)(H:w=.drop\/w=.d0\/w=.d1\/w=.d2):ji (EV<|d+6) MM Cr (MF c (BD B) (.inst 662 was wvs) q1 q2 q3<|.val<|PZ w)=some (.next,MF (AP c<|some w) (BD B) (.inst 662 was wvs) q1 q2 q3<|.val<|PZ w):=
 d5 (d5 (RB d (qS TY) (rg B) was wvs q1 q2 q3) c h) w (by unfold pls;rcases H with rfl|rfl|rfl|rfl<;>simp)
theorem lD:ji (EV<|d+6) MM Cr (MF c (BD B) (.inst 662 was wvs) q1 q2 q3<|.val .none)=some (.next,MF c (BD B) (.inst 662 was wvs) q1 q2 q3<|.val .none):=by kernel_rfl
theorem WO(h:c∈ey)(z:Option W):cz (λx τ=>(cS CA x τ).bind λτ=>cG (EV<|d+6) MM [Cr] τ) [O1 z,Jf z] (MF c (BD B) (.inst 662 was wvs) q1 q2 q3<|hJ q)=some (.next,MF (AP c z) (BD B) (.inst 662 was wvs) q1 q2 q3<|.val<|Jf z):=by
 have p1:∀{q:Option SV}{v:SV}{c:List Nat},cS CA v (MF c (BD B) (.inst 662 was wvs) q1 q2 q3<|hJ q)=some (MF c (BD B) (.inst 662 was wvs) q1 q2 q3<|.val v):=λ{q v c}=>by cases q<;>rfl
 have key:∀(v u:SV) C,ji (EV<|d+6) MM Cr (MF c (BD B) (.inst 662 was wvs) q1 q2 q3<|.val v)=some (.next,MF c (BD B) (.inst 662 was wvs) q1 q2 q3<|.val v)->ji (EV<|d+6) MM Cr (MF c (BD B) (.inst 662 was wvs) q1 q2 q3<|.val u)=some (.next,MF C (BD B) (.inst 662 was wvs) q1 q2 q3<|.val u)->
   cz (λx τ=>(cS CA x τ).bind λτ=>cG (EV<|d+6) MM [Cr] τ) [v,u] (MF c (BD B) (.inst 662 was wvs) q1 q2 q3<|hJ q)=some (.next,MF C (BD B) (.inst 662 was wvs) q1 q2 q3<|.val u):=λv u C h1 h2=>
  gL (aN p1<|aW h1 rfl) (gL (aN (p1 (q:=some v))<|aW h2 rfl) rfl)
 rcases z with _|w
 ·exact key _ _ _ lD lD
 ·cases w with
  |set=>exact key _ _ _ (wR h (w:=.drop)<|.inl rfl) lD
  |use=>exact key _ _ _ lD lD
  |rest=>exact key _ _ _ lD lD
  |drop=>exact key _ _ _ lD<|wR h<|.inl rfl
  |d0=>exact key _ _ _ lD<|wR h<|.inr<|.inl rfl
  |d1=>exact key _ _ _ lD<|wR h<|.inr<|.inr<|.inl rfl
  |d2=>exact key _ _ _ lD<|wR h<|.inr<|.inr<|.inr rfl
theorem UD(z:Option W):∃Q:Option SV,cz (λx τ=>(cS Sl x τ).bind λτ=>cG (EV<|d+6) MM [.ifs (gG (cy g9 0)<|.str<|sr 29) [.expr<|.bj bO 21 [.bj bO 23 [cy g9 1]]] []] τ) (Lj z) (MF c (BD B) (.inst 662 was wvs) q1 q2 (hJ q) q6)=some (.next,MF c (BD B) (.inst 662 was wvs) q1 q2 (hJ Q) q6):=by
 rcases z with _|w
 ·exact⟨q,rfl⟩
 ·cases w with
  |set=>exact⟨some ZC,by cases q<;>kernel_rfl⟩
  |use=>exact⟨some ZD,by cases q<;>kernel_rfl⟩
  |_=>exact⟨q,rfl⟩
def wG(B:List dB)(i:Nat):List Nat:=((PS B).take i).foldl (λc p=>AP c<|wP B p) []
def sk(B:List dB):List Nat:=(PS B).foldl (λc p=>AP c<|wP B p) []
theorem Cf(i:Nat):wG B i∈ey:=by
 have:∀(l:List (Nat×Nat)) c,c∈ey->l.foldl (λc p=>AP c<|wP B p) c∈ey:=λl=>by
  induction l with
  |nil=>intro c h;exact h
  |cons p l I=>intro c h;exact I _<|Rk c h _
 exact this _ _ (aw ..)
theorem sj:sk B∈ey:=by have:=Cf (B:=B) (PS B).length;unfold wG at this;rwa[cH] at this
theorem II(H:prog.fns a=none)(g:prog.cls a=some ⟨i,.some A⟩)(j:prog.fns i=some fn)(h:nM (EV d) MM fn (.h st.length::args) [] (st++[.inst a [] []])=some (.none,e))
  (z:(fC st.length A e).bind (λs=>jK (kg s).length s)=some f):EV (d+1) (.raw<|.ref a) args st=some (.h st.length,f):=by
 show(match prog.fns a with|some fn=>_|none=>(prog.cls a).bind λc=>(prog.fns c.init).bind λfn=>nu (EV d) MM a c.Lh fn args st)=_
 rw[H]
 refine aN g<|aN j ?_
 refine aN (aN h rfl) ?_
 cases e1:fC st.length A e with
 |none=>rw[e1] at z;cases z
 |some s=>rw[e1] at z;exact gy z rfl
theorem aeG(O:lG B)(N:(PS B).length<=1000):EV (d+7) (fh 404) [BD B,.inst 662 was wvs] [.inst 493 [14] [BD B]]=some (.h 1,MS0 (sk B) (BD B)<|.inst 662 was wvs):=by
 let v:SV:=.inst 662 was wvs;obtain⟨⟨C,y,z⟩,e⟩:=rZ (f:=λx j=>(cS OV x j).bind λj=>cG (EV<|d+6) MM [.for Sl .over [dy 228 [bz,eA]] [.ifs (gG (cy g9 0)<|.str<|sr 29) [.expr<|.bj bO 21 [.bj bO 23 [cy g9 1]]] []],.for CA .over [.tup [dy 303 [bz,eA],dy 310 [bz,eA]]] [Cr]] j) (g:=a7)
  (F:=λi q=>MF (wG B i) (BD B) v (.val<|.int 1) (hJ q.1) (hJ q.2.1)<|hJ q.2.2) (PS B) (none,none,none) λi p k q=>by
   have M:p∈PS B:=aH k;refine dn (jV.mp M) λx H I=>?_;have w:wP B p=wd x p.2:=by unfold wP;rw[H];rfl
   have s:wG B (i+1)=AP (wG B i) (wd x p.2):=by unfold wG;rw[gj,k,Option.toList_some,ig,<-w];rfl
   refine eS (UD (d:=d) (B:=B) (c:=wG B i) (was:=was) (wvs:=wvs) (wd x p.2) (q1:=.val<|.int 1) (q2:=.val<|a7 p) (q6:=hJ q.2.2) (q:=q.2.1)) λQ m=>?_;let K:Option SV->Option SV->ba:=λa b=>MF (wG B i) (BD B) v (.val<|.int 1) (.val<|a7 p) (hJ a)<|hJ b;refine⟨(some<|a7 p,Q,some<|Jf<|wd x p.2),aN (a:=K q.2.1 q.2.2) (by obtain⟨a,b,c⟩:=q;cases a<;>rfl)<|aW (fj (d4<|bM (aT:=K q.2.1 q.2.2) (vs:=[BD B,a7 p]) rfl rfl<|Wf (d:=d+3) O H I) rfl rfl m)<|aW (fj (d4<|oU (bM (aC:=K Q q.2.2) (aT:=K Q q.2.2) (vs:=[BD B,a7 p]) rfl rfl<|Ro (d:=d+5) O H I)<|bM (aC:=K Q q.2.2) (aT:=K Q q.2.2) (vs:=[BD B,a7 p]) rfl rfl<|Rn (d:=d+5) O H I) rfl rfl<|WO (Cf i)<|wd x p.2) ?_⟩;rw[s];rfl
 have t:wG B (PS B).length=sk B:=by unfold wG sk;rw[cH]
 rw[t] at e;have l:wG B 0=[]:=rfl;rw[l] at e;have r:∀R,cG (EV<|d+6) MM (Ep.body.drop 8) (MF [] (BD B) v (.val<|.int 1) .un .un .un)=R->cG (EV<|d+6) MM Ep.body ⟨[.val<|.h 1,.val<|BD B,.val v,.un,.un,.un,.un,.un,.un,.un,.un,.un,.un],[.inst 493 [14] [BD B],.inst 404 [] []]⟩=R:=by
  intro R h;have n:cG (EV<|d+6) MM (Ep.body.take 8) ⟨[.val<|.h 1,.val<|BD B,.val v,.un,.un,.un,.un,.un,.un,.un,.un,.un,.un],[.inst 493 [14] [BD B],.inst 404 [] []]⟩=some (.next,MF [] (BD B) v (.val<|.int 1) .un .un .un):=by kernel_rfl
  rw[<-cV 8 Ep.body,vB n];exact h
 have OL:nM (EV<|d+6) MM Ep [.h 1,BD B,v] [] [.inst 493 [14] [BD B],.inst 404 [] []]=some (.none,MST (sk B) (BD B) v):=
  aN rfl (gy (r _<|aW (fj (d4<|bM rfl rfl<|Rp (d:=d+3) O N) rfl rfl e) rfl) rfl)
 exact II VH Wc VI OL<|d5 (QU (rg B) (qS TY) was wvs) (sk B) sj
end
section
noncomputable def xH(c:List Nat)(n:Nat):List SV:=if n==1 then(ak<|c.length+1).map λi:Nat=>SV.int (1+i:Nat) else [.int n]
noncomputable def Et(c:List Nat)(k:Nat):List SV:=if c.contains k then [.tup [.int (2+c.idxOf k:Nat),.int 3]] else []
def Ax(c:List Nat):Option W->List SV
 |some .set=>[.tup [.int 1,.int 0]]
 |some .drop=>[.tup [.int 1,.int 3]]
 |some .d0=>Et c 0|some .d1=>Et c 1|some .d2=>Et c 2
 |_=>[]
def MD(c:List Nat)(v w:SV)(lk lv dk dv:List SV):List SO:=[.inst 493 [14,28,29] [v,.h 1,.h 7],PV c v w,.gone,.gone,.gone,.gone,.dict lk lv,.dict dk dv]
def MDf(c:List Nat)(v w:SV)(lk lv dk dv:List SV)(p:SV)(q3 q4 Q q6:LV)(l:List SV):ba:=⟨[.val<|.h 0,.val p,.val<|.h 8,q3,q4,Q,q6,.un,.un,.un,.un,.un,.un,.un,.un],MD c v w lk lv dk dv++[.list l]⟩
noncomputable def zs:List (Option W):=[none,some .set,some .use,some .rest,some .drop,some .d0,some .d1,some .d2]
theorem JN(z:Option W):z∈zs:=by
 rcases z with _|w
 ·exact aw ..
 ·cases w<;>simp[zs]
noncomputable def XQ:List S:=[.ifs (.and [.cmp .jt eA .none,.bj (eM 28) 26 [eA]]) [.expr<|.bj cU 0 [.tup [.bj (eM 28) 25 [eA],.int 3]]] [],.ifs (.cmp .jt g9 .none) [.expr<|.bj cU 0 [.tup [.bj (eM 28) 25 [.tup [g9,.tup []]],.int 2]]] [],.ifs (.and [.cmp .jt iS .none,.bj (eM 28) 26 [iS]]) [.expr<|.bj cU 0 [.tup [.bj (eM 28) 25 [iS],.int 0]]] []]
theorem ID(d:Nat)(L p:SV)(xs:List SV)(was:List Nat)(wvs lk lv dk dv:List SV)(q3:LV):ey.map (λc=>zs.map λz=>cG (EV<|d+4) MM XQ<|MDf c (o7 xs L) (.inst 662 was wvs) lk lv dk dv p q3 (.val<|Jf z) (.val .none) (.val<|O1 z) [])=
  ey.map λc=>zs.map λz=>some (.next,MDf c (o7 xs L) (.inst 662 was wvs) lk lv dk dv p q3 (.val<|Jf z) (.val .none) (.val<|O1 z)<|Ax c z):=by kernel_rfl
theorem VC:prog.fns 448=some Y7:=by kernel_rfl
theorem VG:prog.fns 422=some Za:=by kernel_rfl
theorem Yr:MM 493 34=some 448:=by kernel_rfl
variable{B:List dB}{d:Nat}{x:dB}{st:List SO}{was:List Nat}{wvs:List SV}{c:List Nat}{lk lv dk dv:List SV}
theorem Q6(c:List Nat)(z:Option W):bS (Ax c z)=true:=by
 have k:∀k,bS (Et c k)=true:=λk=>by unfold Et;cases c.contains k<;>rfl
 rcases z with _|w
 ·rfl
 ·cases w<;>first|rfl|exact k _
theorem UL(h:SV.lows 8 lv=true)(H:SV.lows 8 dv=true):(MD c (BD B) (.inst 662 was wvs) lk lv dk dv).all (SO.low (MD c (BD B) (.inst 662 was wvs) lk lv dk dv).length)=true:=by show(true&&(true&&(true&&(true&&(true&&(true&&(SV.lows 8 lv&&(SV.lows 8 dv&&true))))))))=true;rw[h,H];rfl
theorem aeC(O:lG B)(C:c∈ey)(r:p∈PS B)(m:SV.lows 8 lv=true)(n:SV.lows 8 dv=true):
  EV (d+5) (fh 448) [.h 0,a7 p] (MD c (BD B) (.inst 662 was wvs) lk lv dk dv)=some (.lst<|Ax c<|wP B p,MD c (BD B) (.inst 662 was wvs) lk lv dk dv):=by
 refine dn (jV.mp r) λx H i=>?_
 have s:wP B p=wd x p.2:=by unfold wP;rw[H];rfl
 rw[s]
 generalize b:wd x p.2=z
 have A:∀st,EV (d+4) (fh 228) [BD B,a7 p] st=some (.lst<|Lj z,st):=λst=>b▸Wf O H i
 have f:∀st,EV (d+4) (fh 310) [BD B,a7 p] st=some (Jf z,st):=λst=>b▸Rn O H i
 have g:∀st,EV (d+4) (fh 317) [BD B,a7 p] st=some (.none,st):=λst=>ZP O H i
 have j:∀st,EV (d+4) (fh 303) [BD B,a7 p] st=some (O1 z,st):=λst=>b▸Ro O H i
 let F:LV->LV->LV->LV->List SV->ba:=λQ t v y l=>MDf c (BD B) (.inst 662 was wvs) lk lv dk dv (a7 p) Q t v y l
 have e:∃Q,cz (λx a=>(cS CB x a).bind λa=>cG (EV<|d+4) MM [.ifs (.and [gG (cy dm 0)<|.str<|sr 29,.bj (eM 28) 26 [cy dm 1]]) [.expr<|.bj cU 0 [.tup [.bj (eM 28) 25 [cy dm 1],.int 1]]] []] a) (Lj z) (F .un .un .un .un [])=some (.next,F Q .un .un .un []):=by
  rcases z with _|w
  ·exact⟨.un,rfl⟩
  ·cases w with
   |set=>exact⟨.val ZC,by kernel_rfl⟩
   |use=>exact⟨.val ZD,by kernel_rfl⟩
   |_=>exact⟨.un,rfl⟩
 obtain⟨Q,e⟩:=e
 have k:=d5 (d5 (ID d (qS TY) (a7 p) (rg B) was wvs lk lv dk dv Q) c C) z<|JN z
 refine fX VC<|gJ (fl:=.ret<|.h 8) (lo:=(F Q (.val<|Jf z) (.val .none) (.val<|O1 z)<|Ax c z).loc) (xK:=(F Q (.val<|Jf z) (.val .none) (.val<|O1 z)<|Ax c z).st) rfl rfl rfl (aW (rfl)<|aW (fj (d4<|bM (aT:=F .un .un .un .un []) (vs:=[BD B,a7 p]) rfl rfl<|A _) rfl rfl e)
  (aW (bC (oU (bM (aT:=F Q .un .un .un []) (vs:=[BD B,a7 p]) rfl rfl<|f _)<|bM (aT:=F Q .un .un .un []) (vs:=[BD B,a7 p]) rfl rfl<|g _)<|rfl)
  (aW (τ:=F Q (.val<|Jf z) (.val .none) (.val<|O1 z) []) (bC (bM (aT:=F Q (.val<|Jf z) (.val .none) .un []) (vs:=[BD B,a7 p]) rfl rfl<|j _)<|rfl) ?_))) (oQ rfl<|Q6 c z)<|l8<|UL m n
 ·exact(vB k).trans<|f7<|ej rfl
end
noncomputable def Sq:Nat->List (List Nat)
 |0=>[[]]
 |n+1=>(Sq n).flatMap λv=>[0,1].map λs=>s::v
def ly(m:Nat):List (List Nat):=bf (m+1) 2::Sq (m+1)
noncomputable def eP(v:List Nat):SV:=.cY<|2::v.zipIdx.map λp=>(3*(p.2+1)+p.1:Nat)
noncomputable def IL(m n:Nat):List SV:=if n==1 then(ak<|m+1).map λi:Nat=>SV.int (1+i:Nat) else [.int n]
noncomputable def TS(n s:Nat)(v:List Nat):List Nat:=v.zipIdx.map λp=>if n==1||n==p.2+1 then(if s==3 then(if p.1==0 then 1 else p.1) else s) else p.1
noncomputable def Lp(m:Nat):List (Nat×Nat):=(1,0)::(ak<|m+1).map λi=>(i+1,3)
theorem O8:∀m∈[0,1,2,3],∀v∈ly m,∀x∈Lp m,TS x.1 x.2 v∈ly m:=by decide+kernel
def AV:List S:=Ir.body.drop 1
noncomputable def sx(st:List SO)(k n:Nat)(B:LV)(v:SV)(s:Nat)(a b:LV):ba:=⟨[.val<|.h 0,.cell k,.val<|.int n,.cell<|k+1,B,a,b,.un,.un],st++[.cell<|some v,.cell<|some<|.int s]⟩
def EN(d:Nat)(st:List SO)(k n:Nat)(b:List SV)(v:SV)(s:Nat):Option (FL×List SO):=(cG (EV d) MM AV<|sx st k n (.val<|.lst b) v s .un .un).map λq=>(q.1,q.2.st)
theorem XW(d:Nat)(O b c e g h i j:SO):[0,1,2,3].map (λm=>(ly m).map λv=>(Lp m).map λx=>EN d [O,b,c,e,g,h,i,j] 8 x.1 (IL m x.1) (eP v) x.2)=
  [0,1,2,3].map λm=>(ly m).map λv=>(Lp m).map λx=>some (.ret<|eP<|TS x.1 x.2 v,(sx [O,b,c,e,g,h,i,j] 8 x.1 .un (eP v) x.2 .un .un).st):=by kernel_rfl
theorem XU(d:Nat)(O b c e g h i j k:SO):[0,1,2,3].map (λm=>(ly m).map λv=>(Lp m).map λx=>EN d [O,b,c,e,g,h,i,j,k] 9 x.1 (IL m x.1) (eP v) x.2)=
  [0,1,2,3].map λm=>(ly m).map λv=>(Lp m).map λx=>some (.ret<|eP<|TS x.1 x.2 v,(sx [O,b,c,e,g,h,i,j,k] 9 x.1 .un (eP v) x.2 .un .un).st):=by kernel_rfl
theorem XT(d:Nat)(O b c e g h i j k p:SO):[0,1,2,3].map (λm=>(ly m).map λv=>(Lp m).map λx=>EN d [O,b,c,e,g,h,i,j,k,p] 10 x.1 (IL m x.1) (eP v) x.2)=
  [0,1,2,3].map λm=>(ly m).map λv=>(Lp m).map λx=>some (.ret<|eP<|TS x.1 x.2 v,(sx [O,b,c,e,g,h,i,j,k,p] 10 x.1 .un (eP v) x.2 .un .un).st):=by kernel_rfl
theorem Ue(d:Nat)(O a b c e g h i:SO):EN d [O,a,b,c,e,g,h,i] 8 0 [.int 0] (.cY []) 2=some (.ret<|.cY [2],(sx [O,a,b,c,e,g,h,i] 8 0 .un (.cY []) 2 .un .un).st):=by kernel_rfl
theorem Ud(d:Nat)(O b c e g h i j:SO):[0,1,2,3].map (λm=>EN d [O,b,c,e,g,h,i,j] 8 1 (IL m 1) (.cY [2]) 2)=[0,1,2,3].map λm=>some (.ret<|eP<|bf (m+1) 2,(sx [O,b,c,e,g,h,i,j] 8 1 .un (.cY [2]) 2 .un .un).st):=by kernel_rfl
theorem kf(n:Nat)(l:List Nat):cF (.int n) (l.map λi:Nat=>SV.int i)=some (l.findIdx? λi=>i==n):=by
 show((eQ (l.map λi:Nat=>SV.int i)).bind λd=>gd (true&&d.all (λx=>eF x&&fQ x==0)&&true)<|d.findIdx? λx=>bc x<|.int n)=_;rw[qA];show gd (true&&(l.map λi:Nat=>j3 i).all (λx=>eF x&&fQ x==0)&&true) _=_;rw[ju]
 ·rw[ij];congr 2;funext i;show((i:Int)==n)=(i==n);rw[g8,beq_iff_eq,beq_iff_eq];exact mW
 ·rw[kE,mP,List.all_map];exact aZ.mpr λz z=>rfl
theorem U8{l:List Nat}{n:Nat}(h:n∈l):∃j,l.findIdx? (λi=>i==n)=some j/\l[j]? =some n:=by
 cases e:l.findIdx? (λi=>i==n) with
 |none=>rw[bI] at e;have:=e n h;simp at this
 |some j=>obtain⟨J,H,_⟩:=bo.mp e;exact⟨j,rfl,by rw[ax J,beq_iff_eq.mp H]⟩
theorem Gc{l:List Nat}{n:Nat}(h:n∉l):l.findIdx? (λi=>i==n)=none:=by
 rw[bI];intro q H;cases e:q==n with
 |false=>rfl
 |true=>exact absurd (beq_iff_eq.mp e▸H) h
section
variable{st:List SO}{D:SV}{l:List Nat}{f:Nat->SV}{n:Nat}
theorem z7(H:hU st D=some (l.map (λi:Nat=>SV.int i),l.map f)):ir st .jr (.int n) D=some (!(decide<|n∈l)):=by
 show(Ec st (.int n) D).map (!·)=_;refine gy (a:=decide<|n∈l) ?_ rfl;have:Ec st (.int n) D=(cF (.int n) (l.map λi:Nat=>SV.int i)).map (·.isSome):=by
  have c:ur D=false:=by cases D<;>first|rfl|(cases H;done)
  unfold Ec;rw[c];show(match hU st D with|some p=>_|none=>_)=_;rw[H]
 rw[this,kf];show some _=_;congr 1;by_cases h:n∈l
 ·refine dn (U8 h) λj b z=>?_;rw[b,decide_eq_true h];rfl
 ·rw[Gc h,decide_eq_false h];rfl
theorem z6(d:hU st D=some (l.map (λi:Nat=>SV.int i),l.map f))(h:n∈l):fb st D (.int n)=some (f n):=by refine dn (U8 h) λj H a=>?_;exact J6 d ((kf n l).trans<|congrArg some H) (by rw[ai,a];rfl)
theorem wA{lo:List LV}(H:st[k]? =some (.dict (l.map λi:Nat=>SV.int i)<|l.map f))(p:n∉l)(L:l.length<=dI):mX (.h k) (.int n) (f n) ⟨lo,st⟩=some ⟨lo,st.set k<|.dict ((l++[n]).map λi:Nat=>SV.int i)<|(l++[n]).map f⟩:=by show(match st[k]?.bind ft with|some x=>_|none=>_)=_;rw[H];show(gd (true&&decide ((l.map λi:Nat=>SV.int i).length<=dI)) ()).bind _=_;rw[ju (by rw[ag,decide_eq_true L];rfl)];show(cF (.int n) (l.map λi:Nat=>SV.int i)).map _=_;rw[kf,Gc p,a6,a6];rfl
end
section
set_option tactic.hygienic true in
theorem zw(k:Nat):∀(l:List Nat),l.Nodup->(∀n∈l,n<k)->l.length<=k:=by
 induction k with
 |zero=>
  intro l _ h;cases l with
  |nil=>exact aF _
  |cons a l=>exact absurd (h a (aw ..))<|fu _
 |succ k i=>
  intro l N h;have e:=i (l.filter λn=>n != k) (N.sublist List.filter_sublist) λn m=>by obtain⟨a,b⟩:=k6.mp m;exact gZ (aP<|h n a)<|bne_iff_ne.mp b
  have H:=List.length_eq_countP_add_countP (λn=>n != k) (l:=l);rw[List.countP_eq_length_filter] at H;have f:l.countP (λn=>decide ¬((n != k)=true))<=1:=by
   refine ah (dK ?_)<|List.nodup_iff_count.mp N k;refine List.countP_congr λn z=>?_;by_cases q:n=k
   ·subst q;simp
   ·simp[q]
  exact afb e H f
def vk(e:List SO):Prop:=e=[]\/(∃a,e=[a])\/∃a b,e=[a,b]
noncomputable def fnd(c:List Nat)(n:Nat):List SV:=if n==1 then .int 1::((ak c.length).reverse.map λi:Nat=>SV.int (2+i:Nat)) else [.int n]
noncomputable def So:List S:=[.asg (.tp [.nm 2,.nm 3])<|.tup [.list true [],.list true [bz]],.tR (.cmp .ne dm<|.list false []) [et 4<|.bj dm 2 [],.expr<|.bj cU 0 [.oR 4],.expr<|.bj dm 1 [.sub (eM 18) eA]]]
noncomputable def RN(st:List SO)(n:Nat)(a b c:LV):ba:=⟨[.val<|.h 1,.val<|.int n,a,b,c,.un],st⟩
noncomputable def Yw(c:List Nat)(n:Nat):Nat:=if n==1&&!c.isEmpty then 2 else n
def RH(k:Nat)(st:List SO)(c:List Nat)(n:Nat):ba:=RN (st++[.list<|fnd c n,.list []]) n (.val<|.h k) (.val<|.h<|k+1)<|.val<|.int<|Yw c n
def WH(d k:Nat)(st:List SO)(c:List Nat)(n:Nat):Option (FL×ba)×Option (SV×ba):=(cG (EV d) MM So<|RN st n .un .un .un,wJ .sorted [.h k]<|RH k st c n)
def WR(k:Nat)(st:List SO)(c:List Nat)(n:Nat):Option (FL×ba)×Option (SV×ba):=(some (.next,RH k st c n),some (.lst<|xH c n,RH k st c n))
theorem wh2(d:Nat)(L:SV)(xs:List SV)(was:List Nat)(wvs l v dk dv:List SV)(a b:SO):ey.map (λc=>(ak<|c.length+2).map λn=>WH d 10 (MD c (o7 xs L) (.inst 662 was wvs) l v dk dv++[a,b]) c n)=ey.map λc=>(ak<|c.length+2).map λn=>WR 10 (MD c (o7 xs L) (.inst 662 was wvs) l v dk dv++[a,b]) c n:=by kernel_rfl
theorem wh3(d:Nat)(L:SV)(xs:List SV)(was:List Nat)(wvs l v dk dv:List SV)(a b e:SO):ey.map (λc=>(ak<|c.length+2).map λn=>WH d 11 (MD c (o7 xs L) (.inst 662 was wvs) l v dk dv++[a,b,e]) c n)=ey.map λc=>(ak<|c.length+2).map λn=>WR 11 (MD c (o7 xs L) (.inst 662 was wvs) l v dk dv++[a,b,e]) c n:=by kernel_rfl
theorem wh4(d:Nat)(L:SV)(xs:List SV)(was:List Nat)(wvs l v dk dv:List SV)(a b e f:SO):ey.map (λc=>(ak<|c.length+2).map λn=>WH d 12 (MD c (o7 xs L) (.inst 662 was wvs) l v dk dv++[a,b,e,f]) c n)=ey.map λc=>(ak<|c.length+2).map λn=>WR 12 (MD c (o7 xs L) (.inst 662 was wvs) l v dk dv++[a,b,e,f]) c n:=by kernel_rfl
theorem Ek:prog.fns 401=some Zb:=by kernel_rfl
theorem SH:MM 404 27=some 401:=by kernel_rfl
variable{B:List dB}{d:Nat}{x:dB}{st:List SO}{was:List Nat}{wvs:List SV}{c:List Nat}{dk dv:List SV}
def ML(c:List Nat)(B:List dB)(v:SV)(Lk:List Nat)(dk dv:List SV):List SO:=MD c (BD B) v (Lk.map λi:Nat=>SV.int i) (Lk.map λn=>.lst<|xH c n) dk dv
theorem XM(g:vk e)(h:c∈ey)(H:n<c.length+2):WH d ((ML c B (.inst 662 was wvs) Lk dk dv++(e++[a,b])).length) (ML c B (.inst 662 was wvs) Lk dk dv++(e++[a,b])) c n=WR ((ML c B (.inst 662 was wvs) Lk dk dv++(e++[a,b])).length) (ML c B (.inst 662 was wvs) Lk dk dv++(e++[a,b])) c n:=by
 rcases g with rfl|⟨A,rfl⟩|⟨A,f,rfl⟩
 ·exact d5 (d5 (wh2 d (qS TY) (rg B) was wvs _ _ dk dv a b) c h) n<|bV.mpr H
 ·exact d5 (d5 (wh3 d (qS TY) (rg B) was wvs _ _ dk dv A a b) c h) n<|bV.mpr H
 ·exact d5 (d5 (wh4 d (qS TY) (rg B) was wvs _ _ dk dv A f a b) c h) n<|bV.mpr H
structure uw(c:List Nat)(Lk:List Nat):Prop where
 nd:Lk.Nodup
 low:∀n∈Lk,n<c.length+2
theorem GC:∀c∈ey,c.length<=3:=by decide+kernel
noncomputable def oW(Lk:List Nat)(n:Nat):List Nat:=if n∈Lk then Lk else Lk++[n]
theorem uw.add(h:uw c Lk)(N:n<c.length+2):uw c (oW Lk n):=by
 unfold oW;by_cases q:n∈Lk
 ·rw[if_pos q];exact h
 ·rw[if_neg q];refine⟨cL.mpr ⟨h.nd,by simp,λa A b f e=>?_⟩,λm H=>?_⟩
  ·rw[aD.mp f] at e;exact q<|e▸A
  ·rcases b4.mp H with H|H
   ·exact h.low m H
   ·rw[aD.mp H];exact N
theorem aeH(t:vk e)(j:c∈ey)(N:n<c.length+2)(L:uw c Lk)
  (l:∀Lk,(ML c B (.inst 662 was wvs) Lk dk dv++(e++[a,b])).all (SO.low (ML c B (.inst 662 was wvs) Lk dk dv++(e++[a,b])).length)=true):
  EV (d+1) (fh 401) [.h 1,.int n] (ML c B (.inst 662 was wvs) Lk dk dv++(e++[a,b]))=some (.lst<|xH c n,ML c B (.inst 662 was wvs) (oW Lk n) dk dv++(e++[a,b])):=by
 let v:SV:=.inst 662 was wvs
 let x:=e++[a,b]
 have H:=ah (zw _ Lk L.nd L.low) (by have:=GC c j;show _<=4000;exact afa this)
 by_cases q:n∈Lk
 ·have i:oW Lk n=Lk:=by unfold oW;rw[if_pos q]
  rw[i];let F:=RN (ML c B v Lk dk dv++x) n .un .un .un;have C:ir (ML c B v Lk dk dv++x) .jr (.int n) (.h 6)=some false:=(z7 rfl).trans (by rw[decide_eq_true q];rfl);exact fX Ek<|gJ (lo:=F.loc) (xK:=F.st) rfl rfl rfl (aW (uK (dz (aT:=F) rfl rfl C) rfl)<|f7<|ej<|bF (aC:=F) (aT:=F) rfl rfl<|z6 (f:=λn=>.lst<|xH c n) rfl q) rfl<|iq rfl
 ·have i:oW Lk n=Lk++[n]:=by unfold oW;rw[if_neg q]
  rw[i];let F:=RN (ML c B v Lk dk dv++x) n .un .un .un;have C:ir (ML c B v Lk dk dv++x) .jr (.int n) (.h 6)=some true:=(z7 rfl).trans (by rw[decide_eq_false q];rfl);have w:=XM (d:=d) (B:=B) (was:=was) (wvs:=wvs) (dk:=dk) (dv:=dv) t (a:=a) (b:=b) j N (Lk:=Lk);let k:=(ML c B v Lk dk dv++x).length;have z:=congrArg i8 w;have D:=congrArg qf w;let G:=RH k (ML c B v Lk dk dv++x) c n;let g:ba:={G with st:=(ML c B v (Lk++[n]) dk dv++x)++[.list<|fnd c n,.list []]};have m:mX (.h 6) (.int n) (.lst<|xH c n) G=some g:=by refine(wA (f:=λn=>.lst<|xH c n) rfl q H).trans ?_;rfl
  have p:fb g.st (.h 6) (.int n)=some (.lst<|xH c n):=z6 (f:=λn=>.lst<|xH c n) rfl<|ib _<|aD.mpr rfl;have r:ji (EV d) MM (.asg (.ix (eM 20) bz)<|.bi .sorted [cU]) G=some (.next,g):=rQ (aC:=G) (aT:=G) (sf (d4 rfl) D) rfl rfl m;have s:cG (EV d) MM (So++[.asg (.ix (eM 20) bz)<|.bi .sorted [cU]]) F=some (.next,g):=(vB z).trans<|aW r rfl;have cut:jK (ML c B v Lk dk dv++x).length g.st=some (ML c B v (Lk++[n]) dk dv++x):=by have y:(ML c B v Lk dk dv++x).length=(ML c B v (Lk++[n]) dk dv++x).length:=rfl;rw[y];exact l8<|l<|Lk++[n]
  exact fX Ek<|gJ rfl rfl rfl (aW (Aw (dz (aT:=F) rfl rfl C) s)<|f7<|ej<|bF (aC:=g) rfl rfl p) rfl cut
end
section
theorem VE:prog.fns 434=some Ir:=by kernel_rfl
theorem SE:MM 493 32=some 434:=by kernel_rfl
variable{B:List dB}{d:Nat}{x:dB}{st:List SO}{was:List Nat}{wvs:List SV}{c:List Nat}{dk dv:List SV}
theorem KC(h:vk e):e.length=0\/e.length=1\/e.length=2:=by
 rcases h with rfl|⟨_,rfl⟩|⟨_,_,rfl⟩
 ·exact .inl rfl
 ·exact .inr<|.inl rfl
 ·exact .inr<|.inr rfl
theorem uL{e:List SO}(L:e.length<=4)(H:∀k,SV.lows k dv=true)(b:∀k,e.all (SO.low k)=true):(ML c B (.inst 662 was wvs) Lk dk dv++e).all (SO.low (ML c B (.inst 662 was wvs) Lk dk dv++e).length)=true:=by
 have l:(ML c B (.inst 662 was wvs) Lk dk dv++e).length=8+e.length:=by rw[aj];rfl
 rw[l,oa,b,kE];generalize e.length=n at *;show(SV.lows (8+n) [BD B,.h 1,.h 7]&&(SV.lows (8+n) [BD B,.inst 662 was wvs,.lst<|CC c,.lst<|DP c,.lst<|(D9 c).map SV.lst,.fW (CC c)<|Br c,.h 6]&&(true&&(true&&(true&&(true&&(SV.lows (8+n) (Lk.map λn=>.lst<|xH c n)&&(SV.lows (8+n) dv&&true))))))))=true;rw[H,iU (λz=>rfl) _];have a:∀k,mO k (8+n)=decide (k<8+n):=λk=>by rw[g8,yP,decide_eq_true_eq]
 show((true&&(mO 1 (8+n)&&(mO 7 (8+n)&&true)))&&((true&&(true&&(true&&(true&&(true&&(true&&(mO 6 (8+n)&&true)))))))&&(true&&(true&&(true&&(true&&(true&&(true&&true))))))))=true;rw[a,a,a,decide_eq_true<|aY (by decide)<|a4 8 n,decide_eq_true<|aY (by decide)<|a4 8 n,decide_eq_true<|aY (by decide)<|a4 8 n];rfl
theorem UT(st:List SO)(v:SV)(n s:Nat):(⟨(cu Ir.kinds [.h 0,v,.int n,.int s] [] st).1,(cu Ir.kinds [.h 0,v,.int n,.int s] [] st).2⟩:ba)=sx st st.length n .un v s .un .un:=by show ba.mk [.val<|.h 0,.cell st.length,.val<|.int n,.cell (st++[SO.cell<|some v]).length,.un,.un,.un,.un,.un] ((st++[SO.cell<|some v])++[SO.cell<|some<|.int s])=_;rw[aj,aM];rfl
theorem Pd{st:List SO}(h:EN d st k n b v s=some (.ret V,(sx st k n L v s .un .un).st)):∃lo,cG (EV d) MM AV (sx st k n (.val<|.lst b) v s .un .un)=some (.ret V,⟨lo,st++[.cell<|some v,.cell<|some<|.int s]⟩):=by
 have h:(cG (EV d) MM AV<|sx st k n (.val<|.lst b) v s .un .un).map (λq=>(q.1,q.2.st))=_:=h;cases e:cG (EV d) MM AV (sx st k n (.val<|.lst b) v s .un .un) with
 |none=>rw[e] at h;cases h
 |some q=>rw[e] at h;obtain⟨f,lo,g⟩:=q;have h:=fy<|aa h;have H:f=.ret V:=h.1;have a:g=st++[.cell<|some v,.cell<|some<|.int s]:=h.2;exact⟨lo,by rw[H,a]⟩
theorem Nq(f:vk e)(C:c∈ey)(N:n<c.length+2)(L:uw c Lk)(H:∀k,SV.lows k dv=true)(b:∀k,e.all (SO.low k)=true)
  (t:∀Lk,EN (d+1) (ML c B (.inst 662 was wvs) Lk dk dv++e) (ML c B (.inst 662 was wvs) Lk dk dv++e).length n (xH c n) (.cY u) s=some (.ret<|.cY m,(sx (ML c B (.inst 662 was wvs) Lk dk dv++e) (ML c B (.inst 662 was wvs) Lk dk dv++e).length n .un (.cY u) s .un .un).st)):
  EV (d+2) (fh 434) [.h 0,.cY u,.int n,.int s] (ML c B (.inst 662 was wvs) Lk dk dv++e)=some (.cY m,ML c B (.inst 662 was wvs) (oW Lk n) dk dv++e):=by
 have a:=KC f
 have l:∀Lk,(ML c B (.inst 662 was wvs) Lk dk dv++(e++[SO.cell<|some<|.cY u,.cell<|some<|.int s])).all (SO.low (ML c B (.inst 662 was wvs) Lk dk dv++(e++[SO.cell<|some<|.cY u,.cell<|some<|.int s])).length)=true:=λLk=>
  uL (by rw[aj];show _+2<=4;exact ae9 a) H λk=>by rw[oa,b];rfl
 have Q:=aeH (d:=d) f C N L l
 obtain⟨O,i⟩:=Pd<|t<|oW Lk n
 let F:=sx (ML c B (.inst 662 was wvs) Lk dk dv++e) (ML c B (.inst 662 was wvs) Lk dk dv++e).length n .un (.cY u) s .un .un
 let G:=sx (ML c B (.inst 662 was wvs) (oW Lk n) dk dv++e) (ML c B (.inst 662 was wvs) (oW Lk n) dk dv++e).length n (.val<|.lst<|xH c n) (.cY u) s .un .un
 have j:ji (EV<|d+1) MM (et 4<|.bj (eM 28) 27 [cU]) F=some (.next,G):=
  bC (g4 (aC:=F) (aT:=F) (vs:=[.int n]) rfl rfl rfl SH rfl Q) rfl
 refine fX VE<|gJ rfl rfl rfl ((congrArg (cG (EV<|d+1) MM Ir.body)<|UT _ _ _ _).trans<|aW (r:=AV) j i) rfl ?_
 have g:(ML c B (.inst 662 was wvs) Lk dk dv++e).length=(ML c B (.inst 662 was wvs) (oW Lk n) dk dv++e).length:=rfl
 rw[g]
 exact l8<|uL (ae8 a) H b
theorem t7(h:c∈ey):c.length∈[0,1,2,3]:=by have:=GC c h;generalize c.length=n at this;exact(bV (n:=4)).mpr<|dY this
theorem Lo:∀m∈[0,1,2,3],∀x∈Lp m,x.1<m+2:=by decide+kernel
theorem aeE(g:vk e)(H:c∈ey)(V:v∈ly c.length){x:Nat×Nat}(f:x∈Lp c.length)(L:uw c Lk)(i:∀k,SV.lows k dv=true)(j:∀k,e.all (SO.low k)=true):
  EV (d+2) (fh 434) [.h 0,eP v,.int x.1,.int x.2] (ML c B (.inst 662 was wvs) Lk dk dv++e)=some (eP<|TS x.1 x.2 v,ML c B (.inst 662 was wvs) (oW Lk x.1) dk dv++e):=by
 refine Nq g H (Lo _ (t7 H) x f) L i j λLk=>?_
 rcases g with rfl|⟨a,rfl⟩|⟨a,b,rfl⟩
 ·exact d5 (d5 (d5 (XW (d+1) _ _ _ _ _ _ _ _) c.length<|t7 H) v V) x f
 ·exact d5 (d5 (d5 (XU (d+1) _ _ _ _ _ _ _ _ a) c.length<|t7 H) v V) x f
 ·exact d5 (d5 (d5 (XT (d+1) _ _ _ _ _ _ _ _ a b) c.length<|t7 H) v V) x f
end
section
theorem FN(d:Nat)(L:SV)(xs:List SV)(was:List Nat)(wvs l v dk dv:List SV):ey.map (λc=>[0,1].map λi:Nat=>EV (d+4) (fh 373) [.h 1,.tup [.int i,.tup []]]<|MD c (o7 xs L) (.inst 662 was wvs) l v dk dv)=ey.map λc=>[0,1].map λi:Nat=>some (.int i,MD c (o7 xs L) (.inst 662 was wvs) l v dk dv):=by kernel_rfl
theorem VF:prog.fns 429=some Y9:=by kernel_rfl
theorem VD:prog.fns 441=some Y8:=by kernel_rfl
theorem VB:prog.fns 455=some Y6:=by kernel_rfl
theorem SI:MM 404 25=some 373:=by kernel_rfl
theorem Ys:MM 493 33=some 441:=by kernel_rfl
theorem Yt:MM 493 31=some 429:=by kernel_rfl
variable{B:List dB}{d:Nat}{x:dB}{st:List SO}{was:List Nat}{wvs:List SV}{c:List Nat}{dk dv:List SV}
noncomputable def v0(c:List Nat):List Nat:=bf (c.length+1) 2
theorem Dh:v0 c∈ly c.length:=aw ..
theorem SM:uw c []:=⟨fg,λz h=>absurd h aJ⟩
theorem SK:uw c [0]:=uw.add SM<|abm
theorem Yu:uw c [0,1]:=uw.add SK<|abk
theorem aeF(H:c∈ey)(f:∀k,SV.lows k dv=true):EV (d+5) (fh 429) [.h 0] (ML c B (.inst 662 was wvs) [] dk dv)=some (eP<|v0 c,ML c B (.inst 662 was wvs) [0,1] dk dv):=by
 let F:LV->LV->LV->List Nat->ba:=λa b e L=>⟨[.val<|.h 0,a,b,e,.un,.un,.un,.un,.un],ML c B (.inst 662 was wvs) L dk dv⟩;have n0:∀L,EV (d+4) (fh 373) [.h 1,.tup [.int (0:Nat),.tup []]] (ML c B (.inst 662 was wvs) L dk dv)=some (.int (0:Nat),ML c B (.inst 662 was wvs) L dk dv):=λL=>d5 (d5 (FN d (qS TY) (rg B) was wvs _ _ dk dv) c H) 0 (by simp);have n1:∀L,EV (d+4) (fh 373) [.h 1,.tup [.int (1:Nat),.tup []]] (ML c B (.inst 662 was wvs) L dk dv)=some (.int (1:Nat),ML c B (.inst 662 was wvs) L dk dv):=λL=>d5 (d5 (FN d (qS TY) (rg B) was wvs _ _ dk dv) c H) 1 (by simp);have t:EV (d+4) (fh 434) [.h 0,.cY [],.int (0:Nat),.int (2:Nat)] (ML c B (.inst 662 was wvs) [] dk dv++[])=some (.cY [2],ML c B (.inst 662 was wvs) [0] dk dv++[]):=
  Nq (.inl rfl) H (abm) SM f (λz=>rfl) λL=>Ue (d+3) _ _ _ _ _ _ _ _
 have g:EV (d+4) (fh 434) [.h 0,.cY [2],.int (1:Nat),.int (2:Nat)] (ML c B (.inst 662 was wvs) [0] dk dv++[])=some (eP<|v0 c,ML c B (.inst 662 was wvs) [0,1] dk dv++[]):=
  Nq (.inl rfl) H (abk) SK f (λz=>rfl) λL=>d5 (Ud (d+3) _ _ _ _ _ _ _ _) c.length<|t7 H
 rw[a9,a9] at t g;have turn:∀(n:Nat)(L l)(a v)(b e:LV),bX (EV<|d+4) MM (.Ae .lt .le (.int 0) cU<|.attr (eM 14) 7) (F (.val a) (.val<|.int n) e L)=some (.bool false,F (.val a) (.val<|.int n) e L)->
   EV (d+4) (fh 373) [.h 1,.tup [.int n,.tup []]] (ML c B (.inst 662 was wvs) L dk dv)=some (.int n,ML c B (.inst 662 was wvs) L dk dv)->
   EV (d+4) (fh 434) [.h 0,a,.int n,.int (2:Nat)] (ML c B (.inst 662 was wvs) L dk dv)=some (v,ML c B (.inst 662 was wvs) l dk dv)->gu 3 (.bool false) (F (.val a) (.val<|.int n) e L)=some (F (.val a) (.val<|.int n) (.val<|.bool false) L)->
   cG (EV<|d+4) MM [et 3<|.Ae .lt .le (.int 0) cU<|.attr (eM 14) 7,et 1<|.bj bO 32 [bz,.bj (eM 28) 25 [.tup [cU,.tup []]],.ite dm (.int 0)<|.int 2]] (F (.val a) (.val<|.int n) e L)=some (.next,F (.val v) (.val<|.int n) (.val<|.bool false) l):=λn L l a v b e i f j m=>by
  let G:=F (.val a) (.val<|.int n) (.val<|.bool false) L
  exact aW (τ:=G) (bC i m)<|aW (bC (g4 (aT:=G) rfl rfl rfl SE (kG rfl<|kG (g4 (aC:=G) (aT:=G) (vs:=[.tup [.int n,.tup []]]) rfl rfl rfl SI rfl f)<|d4<|S5 rfl rfl) j) rfl) rfl
 refine fX VF<|gJ rfl rfl rfl (aW (τ:=F (.val<|.cY []) .un .un []) rfl<|aW (fj (vs:=[.int 2]) (items:=[.int (0:Nat),.int (1:Nat)]) (by kernel_rfl) rfl rfl
  (gL (σ:=F (.val<|.cY []) .un .un []) (aN (a:=F (.val<|.cY []) (.val<|.int (0:Nat)) .un []) rfl<|turn 0 [] [0] _ _ .un _ (rfl) (n0 _) t rfl)<|gL (aN rfl<|turn 1 [0] [0,1] _ _ .un _ (rfl) (n1 _) g rfl) rfl))<|f7<|ej rfl) rfl<|iq rfl
end
section
noncomputable def Zz(c:List Nat)(k:Nat):Option (Nat×Nat):=if c.contains k then some (2+c.idxOf k,3) else none
def Hm(c:List Nat):Option W->Option (Nat×Nat)
 |some .set=>some (1,0)
 |some .drop=>some (1,3)
 |some .d0=>Zz c 0|some .d1=>Zz c 1|some .d2=>Zz c 2
 |_=>none
noncomputable def dsV(x:Nat×Nat):SV:=.tup [.int x.1,.int x.2]
theorem S6(c:List Nat)(z:Option W):Ax c z=(Hm c z).toList.map dsV:=by
 have k:∀k,Et c k=(Zz c k).toList.map dsV:=λk=>by unfold Et Zz;cases c.contains k<;>rfl
 rcases z with _|w
 ·rfl
 ·cases w<;>first|rfl|exact k _
theorem Ka:∀c∈ey,zs.all (λz=>match Hm c z with|none=>true|some x=>(Lp c.length).contains x)=true:=by decide+kernel
theorem A3{c:List Nat}(H:c∈ey)(h:Hm c z=some x):x∈Lp c.length:=by have:=aZ.mp (Ka c H) z<|JN z;rw[h] at this;exact fP.mp this
def y9(c:List Nat)(z:Option W)(v:List Nat):List Nat:=match Hm c z with
 |none=>v
 |some x=>TS x.1 x.2 v
variable{B:List dB}{d:Nat}{st:List SO}{was:List Nat}{wvs:List SV}{c:List Nat}
theorem Fm(H:c∈ey)(V:v∈ly c.length):y9 c z v∈ly c.length:=by
 unfold y9;cases h:Hm c z with
 |none=>exact V
 |some x=>exact O8 _ (t7 H) v V x<|A3 H h
def uY(c:List Nat)(B:List dB)(v:SV)(Lk:List Nat):List SO:=ML c B v Lk ((PS B).map a7)<|(PS B).map λp=>.lst<|Ax c<|wP B p
theorem z5(c:List Nat)(B:List dB)(k:Nat):SV.lows k ((PS B).map λp=>.lst<|Ax c<|wP B p)=true:=iU (λz=>rfl) _
theorem aeD(H:p∈PS B):EV (d+1) (fh 441) [.h 0,a7 p] (uY c B (.inst 662 was wvs) Lk++e)=some (.lst<|Ax c<|wP B p,uY c B (.inst 662 was wvs) Lk++e):=by let F:ba:=⟨[.val<|.h 0,.val<|a7 p],uY c B (.inst 662 was wvs) Lk++e⟩;exact fX VD<|gJ (lo:=F.loc) rfl rfl rfl (f7<|ej<|bF (aC:=F) rfl rfl<|nq (f:=λp=>.lst<|Ax c<|wP B p) rfl H) rfl<|iq rfl
def mn(c Lk:List Nat):Prop:=uw c Lk/\1∈Lk
theorem mn.add(h:mn c Lk)(H:n<c.length+2):mn c (oW Lk n):=⟨h.1.add H,by
 unfold oW;by_cases q:n∈Lk
 ·rw[if_pos q];exact h.2
 ·rw[if_neg q];exact kL _ h.2⟩
theorem ZN(j:vk e)(C:c∈ey)(m:v∈ly c.length)(H:mn c Lk)(i:∀k,e.all (SO.low k)=true)(l:p∈PS B):
  ∃L,mn c L/\EV (d+3) (.rh 455<|.h 0) [eP v,.int p.1,.int p.2] (uY c B (.inst 662 was wvs) Lk++e)=some (eP<|y9 c (wP B p) v,uY c B (.inst 662 was wvs) L++e):=by
 let F:LV->LV->SV->List Nat->ba:=λa b v Lk=>⟨[.val<|.h 0,.val v,.val<|.int p.1,.val<|.int p.2,a,b],uY c B (.inst 662 was wvs) Lk++e⟩
 have y:∀(a b:LV) V L,cz (λx f=>(cS (.many [4,5]) x f).bind λf=>cG (EV<|d+2) MM [et 1<|.bj bO 32 [bz,eA,g9]] f) (Ax c<|wP B p) (F .un .un (eP v) Lk)=some (.next,F a b (eP V) L)->
   EV (d+3) (.rh 455<|.h 0) [eP v,.int p.1,.int p.2] (uY c B (.inst 662 was wvs) Lk++e)=some (eP V,uY c B (.inst 662 was wvs) L++e):=λa b V L h=>
  wH VB (gJ (lo:=(F a b (eP V) L).loc) rfl rfl rfl (aW (fj (d4<|g4 (aT:=F .un .un (eP v) Lk) (vs:=[a7 p]) rfl rfl rfl Ys rfl<|aeD l) rfl rfl h)<|f7<|ej rfl) rfl<|iq rfl)
 unfold y9
 cases h:Hm c (wP B p) with
 |none=>exact⟨Lk,H,y .un .un v Lk (by rw[S6,h];rfl)⟩
 |some x=>have g:=A3 C h;refine⟨oW Lk x.1,H.add<|Lo _ (t7 C) x g,y (.val<|.int x.1) (.val<|.int x.2) (TS x.1 x.2 v) (oW Lk x.1) ?_⟩;rw[S6,h];let G:=F (.val<|.int x.1) (.val<|.int x.2) (eP v) Lk;exact gL (aN (a:=G) rfl<|aW (bC (g4 (aT:=G) (vs:=[eP v,.int x.1,.int x.2]) rfl rfl rfl SE rfl<|aeE j C m g H.1 (z5 c B) i) rfl) rfl) rfl
end
section
theorem VO:prog.fns 247=some Zm:=by kernel_rfl
theorem VN:prog.fns 254=some Zl:=by kernel_rfl
theorem VM:prog.fns 261=some Zk:=by kernel_rfl
variable{B:List dB}{b d:Nat}{x:dB}{st:List SO}{was:List Nat}{wvs:List SV}{c:List Nat}
noncomputable def yS(c:List Nat)(x:dB)(v:List Nat):Nat->List Nat
 |0=>v
 |i+1=>y9 c (wd x i)<|yS c x v i
theorem uI(h:c∈ey)(H:v∈ly c.length)(i:Nat):yS c x v i∈ly c.length:=by
 induction i with
 |zero=>exact H
 |succ i I=>exact Fm h<|I
noncomputable def FV(c:List Nat)(B:List dB):Nat->List Nat
 |0=>v0 c
 |b+1=>match B[b]? with
  |some x=>yS c x (FV c B b)<|x.1.length+1
  |none=>v0 c
theorem NN(h:B[b]? =some x):FV c B (b+1)=yS c x (FV c B b) (x.1.length+1):=by show(match B[b]? with|some x=>yS c x (FV c B b) (x.1.length+1)|none=>v0 c)=_;rw[h]
theorem ET(h:c∈ey)(b:Nat):FV c B b∈ly c.length:=by
 induction b with
 |zero=>exact Dh
 |succ b i=>
  show(match B[b]? with|some x=>yS c x (FV c B b) (x.1.length+1)|none=>v0 c)∈_;cases B[b]? with
  |none=>exact Dh
  |some x=>exact uI h (i) _
theorem F0(O:lG B)(h:B[b]? =some x):x.1.length+1<=dI:=by have:=(O.at h).2;rwa[ag] at this
theorem S4(O:lG B)(h:B[b]? =some x)(H:bX C MM (eM 9) σ=some (.lst<|rg B,σ))(a:bX C MM e σ=some (.int b,σ)):
  gp C MM [.bin .add (jm<|cy (.sub (eM 9) e) 0)<|.int 1] σ=some ([.int (x.1.length+1:Nat)],σ):=
 d4 (gm (fL (bF (bF H a<|O.w9 h) rfl rfl) rfl<|mj (O.at h).2) rfl (by rw[ag];rfl))
theorem aeM(O:lG B)(h:B[b]? =some x)(n:vk e)(C:c∈ey)(V:v∈ly c.length)(l:mn c Lk)(m:∀k,e.all (SO.low k)=true):
  ∃L,mn c L/\EV (d+4) (fh 247) [BD B,eP v,.int b,.rh 455<|.h 0] (uY c B (.inst 662 was wvs) Lk++e)=some (eP<|yS c x v<|x.1.length+1,uY c B (.inst 662 was wvs) L++e):=by
 let F:Nat->Option SV×{Lk//mn c Lk}->ba:=λi q=>⟨[.val<|BD B,.val<|eP<|yS c x v i,.val<|.int b,.val<|.rh 455<|.h 0,hJ q.1,.un,.un],uY c B (.inst 662 was wvs) q.2.1++e⟩
 obtain⟨⟨q,L,H⟩,j⟩:=l4 (f:=λx g=>(cS OV x g).bind λg=>cG (EV<|d+3) MM [et 1<|.call dm [bz,cU,eA]] g) (F:=F) (x.1.length+1) (none,⟨Lk,l⟩) λi I q=>by
  obtain⟨q,Lk,l⟩:=q;have p:(b,i)∈PS B:=jV.mpr ⟨x,h,aP I⟩;have w:wP B (b,i)=wd x i:=by unfold wP;rw[h];rfl
  refine dn (ZN (d:=d) (was:=was) (wvs:=wvs) n C (uI (x:=x) C V i) l m p) λL H s=>?_;rw[w] at s;let G:ba:=⟨[.val<|BD B,.val<|eP<|yS c x v i,.val<|.int b,.val<|.rh 455<|.h 0,.val<|.int i,.un,.un],uY c B (.inst 662 was wvs) Lk++e⟩;exact⟨(some<|.int i,⟨L,H⟩),aN (a:=G) (by cases q<;>rfl)<|aW (τ:=F (i+1) (some<|.int i,⟨L,H⟩)) (bC (bM (aT:=G) (vs:=[eP<|yS c x v i,.int b,.int i]) rfl rfl s) rfl) rfl⟩
 let G:ba:=F 0 (none,⟨Lk,l⟩)
 refine⟨L,H,fX VO<|gJ (lo:=(F (x.1.length+1) (q,⟨L,H⟩)).loc) rfl rfl rfl (aW (fj (S4 O h rfl rfl) (iV<|F0 O h) rfl j)<|f7<|ej rfl) rfl<|iq rfl⟩
end
section
variable{B:List dB}{b d:Nat}{x:dB}{st:List SO}{was:List Nat}{wvs:List SV}{c:List Nat}
def Je(c:List Nat)(B:List dB)(m j:Nat):SV:=if j<=m then eP (FV c B j) else .none
def uy(c:List Nat)(B:List dB)(m:Nat):List SV:=(ak B.length).map<|Je c B m
noncomputable def IW(B:List dB)(m:Nat):List SV:=if m<B.length then [.int m] else []
theorem QY(m j k:Nat):(Je c B m j).low k=true:=by unfold Je;split<;>rfl
theorem RK:(uy c B m).length=B.length:=by unfold uy;rw[ag,ar]
theorem E7(I:i<n)(V:v=g i)(h:∀j,j<n->j≠i->f j=g j):((ak n).map f).set i v=(ak n).map g:=by
 refine eE λj=>?_;by_cases q:j=i
 ·subst q;rw[dJ (by rw[ag,ar];exact I),ai,bx I,V];rfl
 ·rw[bJ<|ff q,ai,ai];cases e:(ak n)[j]? with
  |none=>rfl
  |some z=>obtain⟨a,H⟩:=af.mp e;rw[b3] at H;rw[ar] at a;show some (f z)=some (g z);rw[h z (H▸a)<|H▸q]
theorem NQ(h:j<B.length):(uy c B m)[j]? =some (Je c B m j):=by unfold uy;rw[ai,bx h];rfl
theorem RJ(h:m+1<B.length):(uy c B m).set (m+1) (eP<|FV c B<|m+1)=uy c B (m+1):=by
 refine E7 h ?_ λj z q=>?_
 ·unfold Je;rw[if_pos<|aF _]
 ·unfold Je;by_cases Q:j<=m
  ·rw[if_pos Q,if_pos<|dZ Q]
  ·rw[if_neg Q,if_neg<|abj q Q]
theorem NP(h:m+1=B.length):uy c B (m+1)=uy c B m:=by refine gE λj H=>?_;have:=bV.mp H;unfold Je;rw[if_pos<|ae7 h this,if_pos<|abf h this]
theorem acs(h:0<B.length):(bf B.length SV.none).set 0 (eP<|v0 c)=uy c B 0:=by
 have:bf B.length SV.none=(ak B.length).map λz=>SV.none:=by rw[List.map_const',ar]
 rw[this];refine E7 h ?_ λj z q=>?_
 ·unfold Je;rw[if_pos<|aF _];rfl
 ·unfold Je;rw[if_neg<|ae6 q]
abbrev OS:=Option SV
def WU(c:List Nat)(B:List dB)(q1 q2 q3 q4 Q:OS)(s:List SO):ba:=⟨[.val<|BD B,.val<|eP<|v0 c,.val<|.rh 455<|.h 0,.val<|fh 240,.val<|.h 8,.val<|.h 9,hJ q1,hJ q2,hJ q3,hJ q4,hJ Q,.un,.un,.un],s⟩
def SF(c:List Nat)(B:List dB)(v:SV)(Lk:List Nat)(fs l:List SV):List SO:=uY c B v Lk++[.list fs,.list l]
noncomputable def Tc:List S:=[et 6<|.bj g9 2 [],et 7<|dy 247 [bO,.sub eA iS,iS,cU],.for OU .over [dy 188 [cy (.sub (eM 9) iS) 1]] [et 9<|.sub eA xr,et 10<|.ite (.cmp .is De .none) ou<|.call dm [De,ou],.ifs (.or [.cmp .is De .none,.cmp .ne yY De]) [.asg (.ix eA xr) yY,.ifs (.cmp .jr xr g9) [.expr<|.bj g9 0 [.oR 8]] []] []]]
noncomputable def Tb:List S:=[et 9<|.sub eA xr,et 10<|.ite (.cmp .is De .none) ou<|.call dm [De,ou],.ifs (.or [.cmp .is De .none,.cmp .ne yY De]) [.asg (.ix eA xr) yY,.ifs (.cmp .jr xr g9) [.expr<|.bj g9 0 [.oR 8]] []] []]
theorem O6(O:lG B)(D:c∈ey)(i:B[m]? =some x)(Y:mn c Lk)(q1 q2 q3 q4 Q:OS):
  ∃L p1 p2 p3 p4 p5,mn c L/\cG (EV<|d+4) MM Tc (WU c B q1 q2 q3 q4 Q<|SF c B (.inst 662 was wvs) Lk (uy c B m) [.int m])=some (.next,WU c B p1 p2 p3 p4 p5<|SF c B (.inst 662 was wvs) L (uy c B<|m+1)<|IW B<|m+1):=by
 have z:=(af.mp i).1
 have V:=O.len
 have M:m+1<=dI:=by show _<=4000;exact ae5 z V
 let S:List Nat->List SV->List SV->List SO:=SF c B<|.inst 662 was wvs
 let K:OS->OS->OS->OS->OS->List SO->ba:=WU c B
 let s:List SO:=S Lk (uy c B m) []
 have J:ji (EV<|d+4) MM (et 6<|.bj g9 2 []) (K q1 q2 q3 q4 Q<|S Lk (uy c B m) [.int m])=some (.next,K (some<|.int m) q2 q3 q4 Q s):=by refine bC (hM rfl rfl rfl rfl<|SD (xs:=[]) rfl (by show 1<=4000;exact of_decide_eq_true<|id<|cN true)) ?_;cases q1<;>rfl
 obtain⟨L,p,C⟩:=aeM O i (e:=[.list<|uy c B m,.list []]) (.inr<|.inr ⟨_,_,rfl⟩) D (ET D m) Y λk=>by show(SV.lows k (uy c B m)&&true)=true;unfold uy;rw[iU (λj=>QY _ j _) _];rfl
 rw[<-NN i] at C
 let v:SV:=eP<|FV c B<|m+1
 let g:List SO:=S L (uy c B m) []
 have U:fb s (.h 8) (.int m)=some (eP<|FV c B m):=ox rfl<|fS (by rw[NQ z];unfold Je;rw[if_pos<|aF _])<|ct M
 have r:ji (EV<|d+4) MM (et 7<|dy 247 [bO,.sub eA iS,iS,cU]) (K (some<|.int m) q2 q3 q4 Q s)=some (.next,K (some<|.int m) (some v) q3 q4 Q g):=by refine bC (bM (aT:=K (some<|.int m) q2 q3 q4 Q s) (vs:=[BD B,eP<|FV c B m,.int m,.rh 455<|.h 0]) rfl (kG rfl<|kG (bF rfl rfl U) rfl) C) ?_;cases q2<;>rfl
 let f:OS->OS->OS->List SO->ba:=λq3 q4 Q s=>K (some<|.int m) (some v) q3 q4 Q s
 have I:ji (EV<|d+4) MM (.for OU .over [dy 188 [cy (.sub (eM 9) iS) 1]] Tb) (f q3 q4 Q g)=cz (λx n=>(cS OU x n).bind λn=>cG (EV<|d+4) MM Tb n) (J5 m x.2) (f q3 q4 Q g):=
  fj (d4<|bM rfl (d4<|bF (bF rfl rfl<|O.w9 i) rfl rfl)<|cB O i) rfl rfl rfl
 have G:=O.last m x i
 cases ht:x.2 with
 |none=>
  have e:=G.mp ht;refine⟨L,some<|.int m,some v,q3,q4,Q,p,aW J<|aW r<|aW (I.trans (by rw[ht];rfl)) ?_⟩;have A:IW B (m+1)=[]:=by unfold IW;rw[if_neg<|WK e]
  rw[NP e,A];rfl
 |some w=>
  have N:=λq=>bU w<|ht.symm.trans<|G.mpr q;have H:m+1<B.length:=ar5 z N;let t:SV:=.int (m+1:Nat);refine⟨L,some<|.int m,some v,some t,some .none,some v,p,aW J<|aW r<|aW (I.trans (?_:_=some (FL.next,f (some t) (some .none) (some v)<|S L (uy c B<|m+1)<|IW B<|m+1))) ?_⟩
  ·rw[ht];have y:fb g (.h 8) t=some .none:=ox rfl (fS (by rw[NQ H];unfold Je;rw[if_neg<|abc]) M);have A:IW B (m+1)=[t]:=by unfold IW;rw[if_pos H]
   refine gL (aN (a:=f (some t) q4 Q g) (by cases q3<;>rfl)<|aW (τ:=f (some t) (some .none) Q g) (bC (bF rfl rfl y)<|by cases q4<;>rfl)<|aW (τ:=f (some t) (some .none) (some v) g) (bC (e_t rfl rfl)<|by cases Q<;>rfl)<|aW (Aw (aC:=f (some t) (some .none) (some v) g) rfl<|aW (τ:=f (some t) (some .none) (some v)<|S L (uy c B<|m+1) []) (rQ rfl rfl rfl<|(pw rfl (by rw[RK];exact H) M).trans ?_)<|aW (Aw (dz rfl rfl<|Lq (l:=[]) rfl rfl)<|aW (Us (v:=.none)<|hM (vs:=[t]) rfl rfl rfl rfl<|(yi rfl<|dW _).trans ?_) rfl) rfl) rfl) rfl
   ·rw[RJ H];rfl
   ·rw[A];rfl
  ·rfl
end
section
variable{B:List dB}{b d:Nat}{x:dB}{st:List SO}{was:List Nat}{wvs:List SV}{c:List Nat}
theorem Qp(O:lG B)(w:c∈ey):∀(k m n:Nat){Lk:List Nat}(a:mn c Lk)(q1 q2 q3 q4 Q:OS),m+k=B.length->k<n->
  ∃L p1 p g i j,mn c L/\gV (bX (EV<|d+4) MM<|.cmp .ne g9<|.list false []) (cG (EV<|d+4) MM Tc) n (WU c B q1 q2 q3 q4 Q<|SF c B (.inst 662 was wvs) Lk (uy c B m)<|IW B m)=some (.next,WU c B p1 p g i j<|SF c B (.inst 662 was wvs) L (uy c B B.length) []):=λk=>by
 induction k with
 |zero=>
  intro m n Lk a q1 q2 q3 q4 Q H N;obtain⟨n,rfl⟩:=kS<|cv N;have H:=H;subst H;have A:IW B B.length=[]:=by unfold IW;rw[if_neg<|b0 _]
  rw[A];exact⟨Lk,q1,q2,q3,q4,Q,a,Fe<|dz (y:=.lst []) rfl rfl<|yU (l:=[]) rfl⟩
 |succ k I=>
  intro m n Lk a q1 q2 q3 q4 Q H N;obtain⟨n,rfl⟩:=kS<|cv<|NR N;have h:m<B.length:=aa9 H;have r:=ax h;generalize B[m]'(h)=x at r;have A:IW B m=[.int m]:=by unfold IW;rw[if_pos h]
  rw[A];obtain⟨U,p1,p,g,i,j,e,t⟩:=O6 O w r a q1 q2 q3 q4 Q;obtain⟨s,z,D,G,J,M,f,v⟩:=I (m+1) n e p1 p g i j (by omega)<|CW N;exact⟨s,z,D,G,J,M,f,Fd (dz (y:=.lst []) rfl rfl<|yU (l:=[m]) rfl) t v⟩
def WX(c:List Nat)(B:List dB):List SV:=(ak B.length).map λj=>eP<|FV c B j
theorem RL:uy c B B.length=WX c B:=by refine gE λj h=>?_;have:=bV.mp h;unfold Je;rw[if_pos<|aa2 this]
theorem aeL(O:lG B)(H:0<B.length)(j:c∈ey)(i:mn c Lk):
  ∃L,mn c L/\EV (d+5) (fh 254) [BD B,eP<|v0 c,.rh 455<|.h 0,fh 240] (uY c B (.inst 662 was wvs) Lk)=some (.lst<|WX c B,uY c B (.inst 662 was wvs) L):=by
 have g:=O.len
 have l:B.length<=dI:=by show _<=4000;exact WJ H g
 obtain⟨L,p1,p,r,t,v,f,e⟩:=Qp O j B.length 0 1000 i none none none none none (aaV)<|aaS H g
 have A:IW B 0=[.int 0]:=by unfold IW;rw[if_pos H];rfl
 rw[A,RL] at e
 let m:List SO:=uY c B (.inst 662 was wvs) Lk
 let K:LV->LV->List SO->ba:=λa b s=>⟨[.val<|BD B,.val<|eP<|v0 c,.val<|.rh 455<|.h 0,.val<|fh 240,a,b,.un,.un,.un,.un,.un,.un,.un,.un],s⟩
 have n:bX (EV<|d+4) MM (jm<|eM 9) (K .un .un m)=some (.int B.length,K .un .un m):=by have:=fL (C:=EV<|d+4) (M:=MM) (e:=eM 9) (σ:=K .un .un m) (aC:=K .un .un m) rfl rfl (by rw[gc];exact l);rwa[gc] at this
 have w:ji (EV<|d+4) MM (et 4<|.rep true .none<|jm<|eM 9) (K .un .un m)=some (.next,K (.val<|.h 8) .un<|m++[.list<|bf B.length .none]):=
  bC (MZ rfl n l) rfl
 have y:ji (EV<|d+4) MM (.asg (.ix eA<|.int 0) bz) (K (.val<|.h 8) .un<|m++[.list<|bf B.length .none])=some (.next,K (.val<|.h 8) .un<|m++[.list<|uy c B 0]):=by refine rQ rfl rfl rfl ((pw rfl (by rw[kb];exact H)<|dW _).trans ?_);rw[acs H];rfl
 have D:ji (EV<|d+4) MM (et 5<|.list true [.int 0]) (K (.val<|.h 8) .un<|m++[.list<|uy c B 0])=some (.next,WU c B none none none none none<|SF c B (.inst 662 was wvs) Lk (uy c B 0) [.int 0]):=rfl
 refine⟨L,f,fX VN<|gJ (lo:=(WU c B p1 p r t v []).loc) rfl rfl rfl (aW w<|aW y<|aW D<|aW e<|f7<|ej rfl) (oQ rfl<|dU (λz=>rfl) _) ?_⟩
 have k:(uY c B (.inst 662 was wvs) Lk).length=(uY c B (.inst 662 was wvs) L).length:=rfl
 rw[k]
 have:=uL (c:=c) (B:=B) (was:=was) (wvs:=wvs) (dk:=(PS B).map a7) (e:=[]) (Lk:=L) (dW _) (z5 c B) λz=>rfl
 rw[a9] at this
 exact l8 this
end
section
variable{B:List dB}{b d:Nat}{x:dB}{st:List SO}{was:List Nat}{wvs:List SV}{c:List Nat}
def ER(c:List Nat)(B:List dB)(p:Nat×Nat):List Nat:=match B[p.1]? with
 |some x=>yS c x (FV c B p.1) p.2
 |none=>[]
theorem EP(h:B[b]? =some x):ER c B (b,i)=yS c x (FV c B b) i:=by show(match B[b]? with|some x=>yS c x (FV c B b) i|none=>[])=_;rw[h]
def pV(c:List Nat)(B:List dB)(p:Nat×Nat):SV:=eP<|ER c B p
noncomputable def TP(B:List dB)(n j:Nat):List (Nat×Nat):=PS (B.take n)++(ak j).map λi=>(n,i)
theorem T9:(n,j)∉TP B n j:=λh=>by
 rcases b4.mp h with h|h
 ·have:=Le h;rw[bZ] at this;exact absurd (aY (show n<min n B.length from this) (gi ..))<|b0 _
 ·refine dn (bw.mp h) λz H e=>?_;obtain rfl:z=j:=(fy e).2;exact absurd (bV.mp H)<|b0 _
theorem Pb:TP B n j++[(n,j)]=TP B n (j+1):=by unfold TP;rw[d6,a6,aM];rfl
theorem Ua(h:B[b]? =some x)(H:j<=x.1.length+1):(TP B b j).length<=(PS B).length:=by have:=FG (B:=B)<|b+1;rw[kX h,aj,ag,ar] at this;unfold TP;rw[aj,ag,ar];exact ae1 H this
def ES(c:List Nat)(B:List dB)(v:SV)(Lk:List Nat)(T:List (Nat×Nat))(q1 q2 q3:OS):ba:=⟨[.val<|BD B,.val<|.lst<|WX c B,.val<|.rh 455<|.h 0,.val<|.h 8,hJ q1,hJ q2,hJ q3,.un,.un],uY c B v Lk++[.dict (T.map a7)<|T.map<|pV c B]⟩
noncomputable def Nw:List S:=[.asg (.ix dm<|.tup [eA,iS]) g9,et 5<|.call cU [g9,eA,iS]]
theorem YE(O:lG B)(N:(PS B).length<=1000)(C:c∈ey)(H:B[n]? =some x)(g:mn c Lk)(q3:OS):
  ∃(L:List Nat)(Q:OS),mn c L/\cz (λx τ=>(cS CA x τ).bind λτ=>cG (EV<|d+3) MM Nw τ) ((ak<|x.1.length+1).map λi:Nat=>SV.int i) (ES c B (.inst 662 was wvs) Lk (PS<|B.take n) (some<|.int n) (some<|eP<|FV c B n) q3)=some (.next,ES c B (.inst 662 was wvs) L (PS<|B.take<|n+1) (some<|.int n) (some<|eP<|FV c B<|n+1) Q):=by
 let F:Nat->OS×{Lk//mn c Lk}->ba:=λj q=>ES c B (.inst 662 was wvs) q.2.1 (TP B n<|min j<|x.1.length+1) (some<|.int n) (some<|eP<|yS c x (FV c B n) j) q.1
 obtain⟨⟨p,L,h⟩,e⟩:=l4 (f:=λx τ=>(cS CA x τ).bind λτ=>cG (EV<|d+3) MM Nw τ) (F:=F) (x.1.length+1) (q3,⟨Lk,g⟩) λj J q=>by
  obtain⟨q,Lk,g⟩:=q;have w:(n,j)∈PS B:=jV.mpr ⟨x,H,aP J⟩;have A:wP B (n,j)=wd x j:=by unfold wP;rw[H];rfl
  have l:(TP B n j).length<=dI:=by have:=Ua H<|a5 J;show _<=4000;exact aeZ N this
  have M:min j (x.1.length+1)=j:=aeY J;have D:min (j+1) (x.1.length+1)=j+1:=ei J;obtain⟨L,h,s⟩:=ZN (e:=[.dict ((TP B n<|j+1).map a7)<|(TP B n<|j+1).map<|pV c B]) (.inr<|.inl ⟨_,rfl⟩) C (uI C (ET C n) j) g (λk=>by show(SV.lows k ((TP B n<|j+1).map<|pV c B)&&true)=true;rw[iU (λz=>rfl) _];rfl) w;rw[A] at s;let v:SV:=eP<|yS c x (FV c B n) j;have V:v=pV c B (n,j):=by unfold pV;rw[EP H]
  let G:List (Nat×Nat)->ba:=λT=>ES c B (.inst 662 was wvs) Lk T (some<|.int n) (some v)<|some<|.int j;refine⟨(some<|.int j,⟨L,h⟩),?_⟩;show _=some (FL.next,ES c B (.inst 662 was wvs) L (TP B n<|min (j+1)<|x.1.length+1) (some<|.int n) (some<|eP<|yS c x (FV c B n)<|j+1)<|some<|.int j);rw[D];refine aN (a:=G<|TP B n j) ?_ (aW (τ:=G<|TP B n<|j+1) (rQ (y:=a7 (n,j)) (τ:=G<|TP B n j) rfl rfl rfl<|V▸(mH rfl T9 l).trans (by rw[Pb];rfl))<|aW (bC (bM (aT:=G<|TP B n<|j+1) (vs:=[v,.int n,.int j]) rfl rfl s) rfl) rfl);show cS CA (SV.int j) (ES c B (.inst 662 was wvs) Lk (TP B n<|min j<|x.1.length+1) (some<|.int n) (some v) q)=_;rw[M];cases q<;>rfl
 refine⟨L,p,h,?_⟩
 have r:TP B n (min 0<|x.1.length+1)=PS (B.take n):=by unfold TP;rw[Nat.zero_min];exact a9 _
 have t:TP B n (min (x.1.length+1)<|x.1.length+1)=PS (B.take<|n+1):=by unfold TP;rw[CV,kX H]
 have e:cz _ _ (ES c B (.inst 662 was wvs) Lk (TP B n<|min 0<|x.1.length+1) (some<|.int n) (some<|eP<|FV c B n) q3)=some (.next,ES c B (.inst 662 was wvs) L (TP B n<|min (x.1.length+1)<|x.1.length+1) (some<|.int n) (some<|eP<|yS c x (FV c B n)<|x.1.length+1) p):=e
 rw[r,t,<-NN H] at e
 exact e
theorem aeK(O:lG B)(N:(PS B).length<=1000)(C:c∈ey)(j:mn c Lk):
  ∃L,mn c L/\EV (d+4) (fh 261) [BD B,.lst<|WX c B,.rh 455<|.h 0] (uY c B (.inst 662 was wvs) Lk)=some (.fW ((PS B).map a7)<|(PS B).map<|pV c B,uY c B (.inst 662 was wvs) L):=by
 have k:=O.len
 have l:B.length<=dI:=by show _<=4000;exact WI k
 let F:Nat->(OS×OS)×{Lk//mn c Lk}->ba:=λn q=>ES c B (.inst 662 was wvs) q.2.1 (PS<|B.take n) (pv n) q.1.1 q.1.2
 obtain⟨⟨⟨p1,p⟩,L,H⟩,e⟩:=l4 (f:=λx g=>(cS OV x g).bind λg=>cG (EV<|d+3) MM [et 5<|.sub bz eA,.ifs (.cmp .jt g9 .none) [.for CA .fH [.bin .add (jm<|cy (.sub (eM 9) eA) 0)<|.int 1] Nw] []] g) (F:=F) B.length ((none,none),⟨Lk,j⟩) λn h q=>by
  obtain⟨⟨Q,r⟩,Lk,j⟩:=q;have i:=ax h;generalize B[n]'(h)=x at i;refine pg (YE (d:=d) (was:=was) (wvs:=wvs) O N C i j r) λL v H e=>?_;let G:OS->ba:=λq=>ES c B (.inst 662 was wvs) Lk (PS<|B.take n) (some<|.int n) q r;have s:fb (G Q).st (.lst<|WX c B) (.int n)=some (eP<|FV c B n):=by refine mZ (fS ?_ (by show _<=4000;exact aeX k h));unfold WX;rw[ai,bx h];rfl
  exact⟨((some<|eP<|FV c B<|n+1,v),⟨L,H⟩),aN (a:=G Q) (by cases n<;>rfl)<|aW (τ:=G<|some<|eP<|FV c B n) (bC (bF rfl rfl s)<|by cases Q<;>rfl)<|aW (Aw (aC:=G<|some<|eP<|FV c B n) rfl<|aW (fj (S4 O i rfl rfl) (iV<|F0 O i) rfl e) rfl) rfl⟩
 have e:cz _ _ (ES c B (.inst 662 was wvs) Lk [] none none none)=some (.next,ES c B (.inst 662 was wvs) L (PS<|B.take B.length) (pv B.length) p1 p):=e
 rw[cH] at e
 refine⟨L,H,fX VM<|gJ (lo:=(ES c B (.inst 662 was wvs) L (PS B) (pv B.length) p1 p).loc) rfl rfl rfl (aW (τ:=ES c B (.inst 662 was wvs) Lk [] none none none) rfl<|aW (fj (d4<|fL (aC:=ES c B (.inst 662 was wvs) Lk [] none none none) rfl rfl (by rw[gc];exact l)) (iV (by rw[gc];exact l)) rfl (by rw[gc];exact e))<|f7<|ej rfl) (BR rfl (dU (λz=>rfl) _)<|dU (λz=>rfl) _) ?_⟩
 have t:(uY c B (.inst 662 was wvs) Lk).length=(uY c B (.inst 662 was wvs) L).length:=rfl
 rw[t]
 have:=uL (c:=c) (B:=B) (was:=was) (wvs:=wvs) (dk:=(PS B).map a7) (e:=[]) (Lk:=L) (dW _) (z5 c B) λz=>rfl
 rw[a9] at this
 exact l8 this
end
section
variable{B:List dB}{b d:Nat}{x:dB}{st:List SO}{was:List Nat}{wvs:List SV}{c:List Nat}
theorem wk(H:st[k]? =some (.inst a s vs))(h:bP n vs (st.set k .gone)=some (ws,s')):freeze (n+1) (.h k) st=some (.inst a s ws,s'):=by show(st[k]?.bind _)=_;rw[H];exact gy h rfl
theorem zQ:freeze (n+1) (.lst xs) st=some (.lst xs,st):=rfl
theorem QT:freeze (n+1) (.fW k vs) st=some (.fW k vs,st):=rfl
theorem uR:freeze (n+1) (.inst a s vs) st=some (.inst a s vs,st):=rfl
def RG(s L:SV)(was:List Nat)(wvs:List SV)(a p k n N l V dk dv f v:List SV):SV:=.inst 493 [14,28,29,30] [.inst 174 [6,7,8,9,10] [tS "f",.int 0,L,s,.fW [] []],.inst 404 [14,15,16,17,18,19,20] [.inst 174 [6,7,8,9,10] [tS "f",.int 0,L,s,.fW [] []],.inst 662 was wvs,.lst a,.lst p,.lst k,.fW n N,.fW l V],.fW dk dv,.fW f v]
theorem Qd(s L:SV)(was:List Nat)(wvs:List SV)(a p k n N l v dk dv f V:List SV)(H:bS l=true)(e:bS v=true)(g:bS dk=true)(i:bS dv=true):
  (freeze fz (.h 0) [.inst 493 [14,28,29,30] [.inst 174 [6,7,8,9,10] [tS "f",.int 0,L,s,.fW [] []],.h 1,.h 7,.fW f V],.inst 404 [14,15,16,17,18,19,20] [.inst 174 [6,7,8,9,10] [tS "f",.int 0,L,s,.fW [] []],.inst 662 was wvs,.lst a,.lst p,.lst k,.fW n N,.h 6],.gone,.gone,.gone,.gone,.dict l v,.dict dk dv]).map (·.1)=some (RG s L was wvs a p k n N l v dk dv f V):=by
 refine gy (wk rfl<|fR rfl uR<|fR rfl (wk rfl<|fR rfl uR<|fR rfl uR<|fR rfl zQ<|fR rfl zQ<|fR rfl zQ<|fR rfl QT<|fR rfl (k8 rfl H e)<|oP rfl)<|fR rfl (k8 rfl g i)<|oP rfl) rfl
def IV(c:List Nat)(B:List dB)(was:List Nat)(wvs:List SV)(Lk:List Nat):SV:=RG (.lst<|rg B) (qS TY) was wvs (CC c) (DP c) ((D9 c).map SV.lst) (CC c) (Br c) (Lk.map λi:Nat=>SV.int i) (Lk.map λn=>.lst<|xH c n) ((PS B).map a7) ((PS B).map λp=>.lst<|Ax c<|wP B p) ((PS B).map a7)<|(PS B).map<|pV c B
def K4(c:List Nat)(B:List dB)(v:SV)(q:OS)(s:List SO):ba:=⟨[.val<|.h 0,.val<|BD B,.val v,hJ q,.un,.un,.un,.un,.un],s⟩
def MDn(c:List Nat)(B:List dB)(v:SV)(T:List (Nat×Nat)):List SO:=MD c (BD B) v [] [] (T.map a7)<|T.map λp=>.lst<|Ax c<|wP B p
theorem DU{l:List a}(h:l.Nodup)(H:l[i]? =some p):p∉l.take i:=λm=>by rw[<-cV i l] at h;refine(cL.mp h).2.2 p m p ?_ rfl;have j:=(af.mp H).1;rw[dN j];exact aQ.mpr<|.inl (af.mp H).2.symm
theorem Iy(O:lG B)(N:(PS B).length<=1000)(C:c∈ey):∃q,cz (λx τ=>(cS CB x τ).bind λτ=>cG (EV<|d+7) MM [.asg (.ix (eM 29) dm)<|.bj bO 34 [dm]] τ) ((PS B).map a7) (K4 c B (.inst 662 was wvs) none<|MDn c B (.inst 662 was wvs) [])=some (.next,K4 c B (.inst 662 was wvs) q<|MDn c B (.inst 662 was wvs)<|PS B):=by
 obtain⟨q,e⟩:=rZ (f:=λx τ=>(cS CB x τ).bind λτ=>cG (EV<|d+7) MM [.asg (.ix (eM 29) dm)<|.bj bO 34 [dm]] τ) (F:=λi q=>K4 c B (.inst 662 was wvs) q<|MDn c B (.inst 662 was wvs)<|(PS B).take i) (PS B) none λi p H q=>by
  have M:=aH H;have h:((PS B).take i).length<=dI:=by rw[bZ];show min i (PS B).length<=4000;exact abu N
  have g:(PS B).take (i+1)=(PS B).take i++[p]:=by rw[gj,H];rfl
  let G:List (Nat×Nat)->ba:=λT=>K4 c B (.inst 662 was wvs) (some<|a7 p)<|MDn c B (.inst 662 was wvs) T;rw[g];exact⟨some<|a7 p,aN (a:=G<|(PS B).take i) (by cases q<;>rfl)<|aW (τ:=G<|(PS B).take i++[p]) (rQ (aC:=G<|(PS B).take i) (g4 (aT:=G<|(PS B).take i) (vs:=[a7 p]) rfl rfl rfl Yr rfl<|aeC O C M rfl<|iU (λz=>rfl) _) rfl rfl<|mH (f:=λp=>.lst<|Ax c<|wP B p) rfl (DU (oD B) H) h) rfl⟩
 have t:(PS B).take (PS B).length=PS B:=cH;rw[t] at e;exact⟨q,e⟩
theorem Vz:prog.fns 493=none:=rfl
theorem Wb:prog.cls 493=some ⟨422,.freeze⟩:=rfl
theorem aeA(O:lG B)(m:0<B.length)(N:(PS B).length<=1000):∃Lk,mn (sk B) Lk/\EV (d+8) (fh 493) [BD B,.inst 662 was wvs] st=some (IV (sk B) B was wvs Lk,st):=by
 have H:sk B∈ey:=sj;generalize C:sk B=c at H;obtain⟨q,e⟩:=Iy O N H;obtain⟨f,l,j⟩:=aeL O m H ⟨Yu,by simp⟩;refine dn (aeK (d:=d+3) (was:=was) (wvs:=wvs) O N H l) λL a k=>⟨L,a,?_⟩;let v:SV:=.inst 662 was wvs;let K:OS->List SO->ba:=K4 c B v;let M:List SO:=ML c B v [] ((PS B).map a7)<|(PS B).map λp=>.lst<|Ax c<|wP B p;have s:ji (EV<|d+7) MM (.asg (.at bO 14) bz) (K none [.inst 493 [] []])=some (.next,K none [.inst 493 [14] [BD B]]):=rfl;have r:ji (EV<|d+7) MM (.asg (.at bO 28)<|dy 404 [bz,cU]) (K none [.inst 493 [14] [BD B]])=some (.next,K none [.inst 493 [14,28] [BD B,.h 1],PV c (BD B) v,.gone,.gone,.gone,.gone,.dict [] []]):=by refine bC (bM (aT:=K none [.inst 493 [14] [BD B]]) (vs:=[BD B,v]) rfl rfl<|C▸aeG O N) rfl
 have t:ji (EV<|d+7) MM (.asg (.at bO 29)<|.fM true) (K none [.inst 493 [14,28] [BD B,.h 1],PV c (BD B) v,.gone,.gone,.gone,.gone,.dict [] []])=some (.next,K none<|MDn c B v []):=rfl;have g:=aeF (d:=d+2) (B:=B) (was:=was) (wvs:=wvs) (dk:=(PS B).map a7) H<|z5 c B;let S:List Nat->ba:=λLk=>K q<|uY c B v Lk;have w:ji (EV<|d+7) MM (.asg (.at bO 30)<|dy 261 [bz,dy 254 [bz,.bj bO 31 [],eM 35,TJ 240],eM 35]) (S [])=some (.next,K q [.inst 493 [14,28,29,30] [BD B,.h 1,.h 7,.fW ((PS B).map a7)<|(PS B).map<|pV c B],PV c (BD B) v,.gone,.gone,.gone,.gone,.dict (L.map λi:Nat=>SV.int i)<|L.map λn=>.lst<|xH c n,.dict ((PS B).map a7)<|(PS B).map λp=>.lst<|Ax c<|wP B p]):=
  bC (bM (aT:=S f) (vs:=[BD B,.lst<|WX c B,.rh 455<|.h 0]) rfl (kG rfl<|kG (bM (aT:=S [0,1]) (vs:=[BD B,eP<|v0 c,.rh 455<|.h 0,fh 240]) rfl (kG rfl<|kG (g4 rfl rfl rfl Yt rfl g) rfl) j) rfl) k) rfl
 exact yz Vz Wb VG rfl rfl (aW s<|aW r<|aW t<|aW (fj (d4<|bM rfl rfl<|Rp O N) rfl rfl e)<|aW w rfl)<|Qd _ _ _ _ _ _ _ _ _ _ _ _ _ _ _ (dU (λz=>rfl) _) (dU (λz=>rfl) _) (dU (λz=>rfl) _)<|dU (λz=>rfl) _
end
section
variable{B:List dB}{b d:Nat}{x:dB}{st:List SO}{was:List Nat}{wvs:List SV}{c:List Nat}
def GR(s L:SV):SV:=.inst 174 [6,7,8,9,10] [tS "f",.int 0,L,s,.fW [] []]
def PTx(s L:SV)(was:List Nat)(wvs:List SV)(a p k n N l v:List SV):SV:=.inst 404 [14,15,16,17,18,19,20] [GR s L,.inst 662 was wvs,.lst a,.lst p,.lst k,.fW n N,.fW l v]
theorem Ye(d:Nat)(s L:SV)(was:List Nat)(wvs p k l v:List SV)(st:List SO):ey.map (λc=>EV (d+4) (fh 373) [PTx s L was wvs (CC c) p k (CC c) (Br c) l v,.tup [.int 1,.tup []]] st)=ey.map λc=>some (.int 1,st):=by kernel_rfl
noncomputable def N3(v:List Nat):Bool:=v.any λs=>s==0
noncomputable def X9:E:=.cmp .ne (.comp false [none,none,none,some 3,some 0] bz qy .over [.oR 4] [.bj eA 37 [dm,bz,.int 0]])<|.list false []
noncomputable def acu(m p f l:SV):ba:=⟨[.cell 0,.val p,.val<|.int 1,.cell 1,.val l],[.cell<|some m,.cell<|some f]⟩
theorem V3(d:Nat)(p:SV)(s L:SV)(was:List Nat)(wvs:List SV)(g A k n N l e dk dv f V:List SV):[0,1,2,3].map (λm=>(ly m).map λv=>bX (EV<|d+1) MM X9<|acu (RG s L was wvs g A k n N l e dk dv f V) p (eP v)<|.lst<|IL m 1)=
  [0,1,2,3].map λm=>(ly m).map λv=>some (.bool<|N3 v,acu (RG s L was wvs g A k n N l e dk dv f V) p (eP v)<|.lst<|IL m 1):=by kernel_rfl
theorem VA:prog.fns 462=some Y5:=by kernel_rfl
theorem Vy:prog.fns 509=some Y4:=by kernel_rfl
theorem Yq:MM 493 36=some 462:=by kernel_rfl
theorem Ym{o:SV}{k v:SV}{s vs:List SV}{j:Nat}{σ:ba}(H:hU σ.st o=some (s,vs))(h:cF k s=some (some j))(V:vs[j]? =some v):gx o 4 [k] σ=some (v,σ):=
 gy (aN rfl<|aN H<|aN h V) rfl
theorem RF(h:c∈ey)(H:p∈PS B):ER c B p∈ly c.length:=by refine dn (jV.mp H) λx a z=>?_;have:=EP (c:=c) a (i:=p.2);rw[this];exact uI h (ET h _) _
theorem aeB(a:p∈PS B):EV (d+1) (fh 462) [IV c B was wvs Lk,a7 p] st=some (eP<|ER c B p,st):=by refine dn (Ed a) λj h H=>?_;let F:ba:=⟨[.val<|IV c B was wvs Lk,.val<|a7 p],[]⟩;exact bE VA rfl rfl rfl (f7<|ej<|hM (aC:=F) (aT:=F) (vs:=[a7 p]) rfl rfl rfl rfl<|Ym rfl ((qM p _).trans<|congrArg some h) (by rw[ai,H];rfl)) rfl
theorem ZO{Lk:List Nat}(h:1∈Lk){l p k N v:List SV}:EV (d+1) (fh 401) [PTx s L was wvs l p k N v (Lk.map λi:Nat=>SV.int i)<|Lk.map λn=>.lst<|xH c n,.int (1:Nat)] st=some (.lst<|xH c 1,st):=by let F:ba:=⟨[.val<|PTx s L was wvs l p k N v (Lk.map λi:Nat=>SV.int i)<|Lk.map λn=>.lst<|xH c n,.val<|.int (1:Nat),.un,.un,.un,.un],[]⟩;let D:SV:=.fW (Lk.map λi:Nat=>SV.int i)<|Lk.map λn=>.lst<|xH c n;exact bE Ek rfl rfl rfl (aW (uK (dz (aT:=F) (y:=D) rfl rfl<|(z7 rfl).trans (by rw[decide_eq_true h];rfl)) rfl)<|f7<|ej<|bF (aC:=F) (x:=D) rfl rfl<|z6 rfl h) rfl
theorem aez(h:c∈ey){Lk:List Nat}(L:1∈Lk){p:Nat×Nat}(H:p∈PS B):EV (d+5) (fh 509) [IV c B was wvs Lk,a7 p,.int 1] st=some (.bool<|N3<|ER c B p,st):=by have e:=d5 (d5 (V3 (d+3) (a7 p) (.lst<|rg B) (qS TY) was wvs (CC c) (DP c) ((D9 c).map SV.lst) (CC c) (Br c) (Lk.map λi:Nat=>SV.int i) (Lk.map λn=>.lst<|xH c n) ((PS B).map a7) ((PS B).map λp=>.lst<|Ax c<|wP B p) ((PS B).map a7)<|(PS B).map<|pV c B) c.length<|t7 h) (ER c B p)<|RF h H;let f:SV:=eP<|ER c B p;let M:SV:=IV c B was wvs Lk;let K:LV->List SO->ba:=λb s=>⟨[.cell 0,.val<|a7 p,.val<|.int 1,.cell 1,b],s⟩;let s0:List SO:=[.cell<|some M,.cell none];let a:List SO:=[.cell<|some M,.cell<|some f];let t:SV:=PTx (.lst<|rg B) (qS TY) was wvs (CC c) (DP c) ((D9 c).map SV.lst) (CC c) (Br c) (Lk.map λi:Nat=>SV.int i)<|Lk.map λn=>.lst<|xH c n;have n1:EV (d+4) (fh 373) [t,.tup [.int 1,.tup []]] a=some (.int 1,a):=d5 (Ye d _ _ was wvs _ _ _ _ a) c h;exact bE Vy rfl rfl rfl (aW (τ:=K .un a) (bC (g4 (aT:=K .un s0) (vs:=[a7 p]) rfl rfl rfl Yq rfl<|aeB H) rfl)<|aW (uK (aC:=K .un a) rfl rfl)<|aW (τ:=K (.val<|.lst<|xH c 1) a) (bC (g4 (aC:=K .un a) (aT:=K .un a) (x:=t) rfl rfl rfl SH (d4<|g4 (aC:=K .un a) (aT:=K .un a) (x:=t) (vs:=[.tup [.int 1,.tup []]]) rfl rfl rfl SI rfl n1)<|ZO L) rfl)<|f7<|ej e) rfl
end
def adW(p:String):SV:=.inst 611 [47,48,49,50,51,52,53] [tS p,tS "",.tup [tS "'a"],.tup [],.lst [.tup [tS p,tS "named",.lst [.tup [tS "p",.tup [tS "ref",tS "'a",.bool false,.tup [tS "int",tS "u8"]]]]]],.tup [],.bool false]
def imW:SV:=.inst 633 [54,49,50,55,56,57,58,59] [.int 0,.tup [tS "'a"],.lst [],tS "Drop",.tup [],.tup [tS "adt",tS "G",.tup [tS "'a"],.tup []],.fW [tS "drop"] [tS "d"],.int 0]
noncomputable def Hf:List Nat:=[60,61,51,62,63,64,65,66]
def He:List SV:=[.none,.fW [tS "G",tS "H"] [adW "G",adW "H"],.fW [] [],.fW [] [],.fW [] [],.lst [imW],.fW [] [],.fW [] []]
theorem aeo(d:Nat)(st:List SO):EV (d+6) (fh 694) [] st=some (.inst 662 Hf He,st):=by kernel_rfl
noncomputable def O4:List SV:=[.lst [],.lst [.int 1,.int 2,.int 3,.int 4,.int 5]]
noncomputable def Q8:List SV:=[.lst [],.lst [.int 1,.int 3]]
theorem Uz(d:Nat)(b r:SV)(l:List Nat)(v:List SV)(m:List Nat)(s:List SV):
  cG (EV<|d+15) MM (QZ.body.take 3) ⟨[.val<|GR b<|qS TY,.val<|.inst 662 Hf He,.val r,.val<|.inst 588 l v,.val<|.inst 493 m s,.cell 0,.un,.un,.un,.un,.un,.un,.un,.un,.un,.un,.un,.un,.un],[.cell none]⟩=
  some (.next,⟨[.val<|GR b<|qS TY,.val<|.inst 662 Hf He,.val r,.val<|.inst 588 l v,.val<|.inst 493 m s,.cell 0,.val<|.h 2,.val<|.h 3,.val<|.tup [TY,.bool true,tS "t"],.val<|.lst [.int 1,.int 3],.un,.un,.un,.un,.un,.un,.un,.un,.un],[.cell<|some<|.h 1,.dict [] [],.list O4,.list Q8,.gone,.gone]⟩):=by kernel_rfl
noncomputable def Ao(l:List Nat)(k:Nat):List Nat:=if k∈l then l else l++[k]
def OJ(S:Nat->List Nat)(r k:Nat):Nat->List Nat:=λa=>if a=r then Ao (S r) k else S a
noncomputable def DN(l:List Nat):SO:=.dict (l.map λi:Nat=>SV.int i)<|l.map λz=>SV.bool true
def FI.T1(st:List SO)(S:Nat->List Nat)(L:List (Nat×Nat)):Prop:=∀p∈L,4<=p.2/\st[p.2]? =some (DN<|S p.1)
structure FI(st:List SO)(S:Nat->List Nat)(L:List (Nat×Nat)):Prop where
 h0:st[0]? =some (.cell (some (.h 1)))
 h1:st[1]? =some (.dict (L.map λp=>SV.int p.1) (L.map λp=>SV.h p.2))
 h2:st[2]? =some (.list O4)
 h3:st[3]? =some (.list Q8)
 nd:(L.map λp=>p.1).Nodup
 ad:(L.map λp=>p.2).Nodup
 lo:∀p∈L,p.1<6
 at_:FI.T1 st S L
 no:∀r,(∀p∈L,p.1≠r)->S r=[]
theorem l7(r:Nat)(L:List (Nat×Nat)):cF (.int r) (L.map λp=>SV.int p.1)=some (L.findIdx? λp=>p.1==r):=by have:=kf r<|L.map λp=>p.1;rw[iO,ij] at this;exact this
theorem K8{lo:List LV}{st:List SO}{a k:Nat}{l:List Nat}(A:st[a]? =some (DN l))(b:l.length<=dI):mX (.h a) (.int k) (.bool true) ⟨lo,st⟩=some ⟨lo,st.set a<|DN<|Ao l k⟩:=by
 by_cases h:k∈l
 ·refine dn (U8 h) λj c H=>?_;show(match st[a]?.bind ft with|some x=>_|none=>_)=_;rw[A];show(gd (true&&decide ((l.map λi:Nat=>SV.int i).length<=dI)) ()).bind _=_;rw[ju (by rw[ag,decide_eq_true b];rfl)];show(cF (.int k) (l.map λi:Nat=>SV.int i)).map _=_;rw[kf,c];show some (ba.mk lo<|st.set a<|.dict (l.map λi:Nat=>SV.int i)<|(l.map λz=>SV.bool true).set j<|.bool true)=_;have e:(l.map λz=>SV.bool true).set j (.bool true)=l.map λz=>SV.bool true:=by
   refine eE λi=>?_;rw[tN];split
   ·next q=>subst q;rw[ag,ai,H,if_pos (af.mp H).1];rfl
   ·rfl
  rw[e];unfold Ao;rw[if_pos h];rfl
 ·have:=wA (lo:=lo) A h b;unfold Ao;rw[if_neg h];exact this
theorem iv{st:List SO}{a:Nat}{o v:SO}(h:st[a]? =some o):(st++[v])[a]? =some o:=by rw[aK (af.mp h).1];exact h
theorem IU{st:List SO}:(st++[v])[st.length]? =some v:=by rw[az<|aF _,bt];rfl
theorem gU{st:List SO}{o:SO}(h:st[a]? =some o):a<st.length:=(af.mp h).1
theorem cf{st:List SO}{o v:SO}(h:st[a]? =some o)(q:b≠a):(st.set b v)[a]? =some o:=by rw[bJ q];exact h
theorem m4{st:List SO}{o v:SO}(h:st[a]? =some o):(st.set a v)[a]? =some v:=by rw[dJ<|gU h]
noncomputable def tV:S:=.asg (.ix (.bj g9 5 [OW,.fM true]) yY)<|.bool true
def FR(z0 z1 z2 z3 z4 z8 z9 zp:SV)(k:Nat)(q1 q2:OS)(st:List SO):ba:=⟨[.val z0,.val z1,.val z2,.val z3,.val z4,.cell 0,.val<|.h 2,.val<|.h 3,.val z8,.val z9,.val<|.int k,.val zp,hJ q1,hJ q2,.un,.un,.un,.un,.un],st⟩
section
variable{C:bH}{z0 z1 z2 z3 z4 z8 z9 zp:SV}{k r:Nat}{q1 q2:OS}{st:List SO}{S:Nat->List Nat}{L:List (Nat×Nat)}
theorem Fx(F:FI st S L):L.length<=6:=by
 have:=zw 6 (L.map λp=>p.1) F.nd λn h=>by refine dn (bw.mp h) λp H z=>?_;subst z;exact F.lo p H
 rwa[ag] at this
theorem sR(h:a≠r):OJ S r k a=S a:=by unfold OJ;rw[if_neg h]
theorem y0:OJ S r k r=Ao (S r) k:=by unfold OJ;rw[if_pos rfl]
theorem K9(F:FI st S L)(hr:r<6)(hS:(S r).length<=dI):∃w L',FI w (OJ S r k) L'/\ji C MM tV (FR z0 z1 z2 z3 z4 z8 z9 zp k q1 (some<|.int r) st)=some (.next,FR z0 z1 z2 z3 z4 z8 z9 zp k q1 (some<|.int r) w):=by
 let K:List SO->ba:=λs=>FR z0 z1 z2 z3 z4 z8 z9 zp k q1 (some<|.int r) s;let d:List SO:=st++[.dict [] []];have N:=Fx F;have ho:bX C MM g9 (K st)=some (.h 1,K st):=by show(((st[0]?.bind m2).bind id).map λv=>(v,K st))=_;rw[F.h0];rfl
 have I:oN (K st).st (.h 1)=none:=by show st[1]?.bind jT=none;rw[F.h1];rfl
 have M:oG (K st).st (.h 1) 5=true:=by show(st[1]?.bind m1).isSome=true;rw[F.h1];rfl
 have hg:(gd ((SV.int r).free&&decide ((L.map λp=>SV.int p.1).length<=dI)) ())=some ():=ju (by rw[ag,decide_eq_true<|ah N<|by decide];rfl);have A:gp C MM [OW,.fM true] (K st)=some ([.int r,.h st.length],K d):=rfl;have J:d[1]? =some (.dict (L.map λp=>SV.int p.1)<|L.map λp=>SV.h p.2):=iv F.h1;have go:∀(a:Nat) m,l3 1 (.int r) (.h st.length) (K d)=some (.h a,K m)->m[a]? =some (DN<|S r)->ji C MM tV (K st)=some (.next,K<|m.set a<|DN<|Ao (S r) k):=λa m t O=>by have hz:=hM ho I M A t;exact rQ rfl hz rfl<|K8 O hS
 have df:∀(o:Option Nat),L.findIdx? (λp=>p.1==r)=o->l3 1 (.int r) (.h st.length) (K d)=(wi o (L.map λp=>SV.h p.2)<|.h st.length).map λv=>(v,DG 1 (.int r) (.h st.length) (L.map λp=>SV.int p.1,L.map λp=>SV.h p.2) o<|K d):=λo h=>by show(d[1]?.bind m1).bind _=_;rw[J];show(cF (.int r)<|L.map λp=>SV.int p.1).bind _=_;rw[l7,h];rw[hg];rfl
 cases e:L.findIdx? (λp=>p.1==r) with
 |some j=>
  obtain⟨hj,t,_⟩:=bo.mp e;have H:=ax hj;generalize L[j]'(hj)=p at H t;have f:=beq_iff_eq.mp t;have M:=aH H;refine i9 (F.at_ p M) λy h5=>?_;have g:=go p.2 d ((df _ e).trans (by show((L.map λp=>SV.h p.2)[j]?).map _=_;rw[ai,H];rfl)) (by rw[<-f];exact iv h5);have h6:d[p.2]? =some (DN<|S p.1):=iv h5;refine XI _ L ⟨?_,?_,?_,?_,F.nd,F.ad,F.lo,λu U=>?_,λD c=>?_⟩ g
  ·exact cf (iv F.h0)<|NS y
  ·exact cf J<|aeW y
  ·exact cf (iv F.h2)<|aeV y
  ·exact cf (iv F.h3)<|cv y
  ·refine i9 (F.at_ u U) λx G=>⟨x,?_⟩;by_cases q:u.1=r
   ·have:u=p:=by
     refine eS (gk U) λi I=>?_
     have l:=(af.mp I).1
     have:=(ie (j:=j) (by rw[ag];exact l) F.nd).mp (by rw[ai,ai,I,H];exact congrArg some<|q.trans f.symm)
     subst this
     exact aa<|I.symm.trans H
    subst this
    rw[q,y0]
    exact m4 h6
   ·rw[sR q];refine cf (iv G) λq2=>eS (gk U) λi I=>?_;have l:=(af.mp I).1;have:=(ie (j:=j) (by rw[ag];exact l) F.ad).mp (by rw[ai,ai,I,H];exact congrArg some q2.symm);subst this;exact q<|(congrArg i8<|aa<|I.symm.trans H).trans f
  ·rw[sR λq=>c p M<|f.trans q.symm];exact F.no D c
 |none=>
  have n:∀p∈L,p.1≠r:=λp H q=>by have:=bI.mp e p H;rw[q] at this;simp at this
  have Q:=F.no r n;let m:List SO:=d.set 1<|.dict ((L++[(r,st.length)]).map λp=>SV.int p.1)<|(L++[(r,st.length)]).map λp=>SV.h p.2;have hn:=λq=>by have:=gU F.h1;exact aeU q this
  have Y:m[st.length]? =some (.dict [] []):=cf IU hn;have g:=go st.length m ((df _ e).trans (by show _=some (SV.h st.length,ba.mk _<|d.set 1<|.dict ((L++[(r,st.length)]).map λp=>SV.int p.1)<|(L++[(r,st.length)]).map λp=>SV.h p.2);rw[a6,a6];rfl)) (by rw[Q];exact Y);have B:=gU F.h3;have low:=λp H=>gU (F.at_ p H).2;refine XI _ (L++[(r,st.length)]) ⟨?_,?_,?_,?_,?_,?_,λp H=>?_,λu U=>?_,λD c=>?_⟩ g
  ·exact cf (cf (iv F.h0)<|aaP)<|NS B
  ·exact cf (m4 J)<|ach B
  ·exact cf (cf (iv F.h2)<|of_decide_eq_true<|id<|cN true) (by omega)
  ·exact cf (cf (iv F.h3)<|of_decide_eq_true<|id<|cN true)<|cv B
  ·rw[a6];refine cL.mpr ⟨F.nd,by simp,λa A b V q=>?_⟩;refine dn (bw.mp A) λp H z=>?_;subst z;exact n p H<|q.trans<|aD.mp V
  ·rw[a6];refine cL.mpr ⟨F.ad,by simp,λa A b V q=>?_⟩;refine dn (bw.mp A) λp H z=>?_;subst z;have t:=low p H;have O:=aD.mp V;exact acg q t O
  ·rcases b4.mp H with H|H
   ·exact F.lo p H
   ·rw[aD.mp H];exact hr
  ·rcases b4.mp U with U|U
   ·refine i9 (F.at_ u U) λx G=>?_;have:=low u U;rw[sR<|n u U];exact⟨x,cf (cf (iv G)<|aaK x)<|aaF this⟩
   ·rw[aD.mp U,y0];exact⟨by show 4<=st.length;exact B,m4 Y⟩
  ·have:D≠r:=λq=>c (r,st.length) (ib _<|aD.mpr rfl) q.symm;rw[sR this];exact F.no D λp H=>c p<|kL _ H
end
section
def N2(S:Nat->List Nat)(s:List Nat)(k:Nat):Nat->List Nat:=s.foldl (λS r=>OJ S r k) S
def I0(S:Nat->List Nat)(n:Nat):Prop:=∀r,(S r).Nodup/\∀i∈S r,i<n
def FRx(z0 z1 z2 z3 z4 z8 z9:SV)(k zp q1 q2:OS)(st:List SO):ba:=⟨[.val z0,.val z1,.val z2,.val z3,.val z4,.cell 0,.val<|.h 2,.val<|.h 3,.val z8,.val z9,hJ k,hJ zp,hJ q1,hJ q2,.un,.un,.un,.un,.un],st⟩
section
variable{C:bH}{z0 z1 z2 z3 z4 z8 z9 zp:SV}{n k r:Nat}{q1 q2:OS}{st:List SO}{S:Nat->List Nat}{L:List (Nat×Nat)}
theorem GH(h:I0 S n)(g:k<n):I0 (OJ S r k) n:=λf=>by
 refine i9 (h f) λa b=>?_;by_cases q:f=r
 ·subst q;rw[y0];unfold Ao;by_cases q2:k∈S f
  ·rw[if_pos q2];exact⟨a,b⟩
  ·rw[if_neg q2];refine⟨cL.mpr ⟨a,by simp,λx j y Y e=>q2 ?_⟩,λi H=>?_⟩
   ·rw[<-aD.mp Y,<-e];exact j
   ·rcases b4.mp H with H|H
    ·exact b i H
    ·rw[aD.mp H];exact g
 ·rw[sR q];exact⟨a,b⟩
theorem wI(H:k<n)(s:List Nat):∀{S:Nat->List Nat},I0 S n->I0 (N2 S s k) n:=by
 induction s with
 |nil=>intro S h;exact h
 |cons r s i=>intro S h;exact i (S:=OJ S r k)<|GH h H
theorem K1(H:k<n)(N:n<=dI)(s:List Nat):∀{S:Nat->List Nat}{L:List (Nat×Nat)}{st:List SO}(q2:OS),FI st S L->I0 S n->(∀r∈s,r<6)->
  ∃t l Q,FI t (N2 S s k) l/\cz (λx τ=>(cS AQ x τ).bind λτ=>cG C MM [tV] τ) (s.map λi:Nat=>SV.int i) (FR z0 z1 z2 z3 z4 z8 z9 zp k q1 q2 st)=some (.next,FR z0 z1 z2 z3 z4 z8 z9 zp k q1 Q t):=by
 induction s with
 |nil=>intro S L st q2 F b h;exact NZ st L q2 F rfl
 |cons r s p=>intro S L st q2 F b h;refine pg (K9 (C:=C) (z0:=z0) (z1:=z1) (z2:=z2) (z3:=z3) (z4:=z4) (z8:=z8) (z9:=z9) (zp:=zp) (k:=k) (q1:=q1) F (h r (aw ..))<|ah (zw n _ (b r).1 (b r).2) N) λz y f g=>rF (p (some<|.int r) f (GH b H) λr m=>h r<|ay _ m) λw e v a j=>?_;exact NZ w e v a<|gL (aN (by cases q2<;>rfl)<|aW g rfl) j
end
variable{B:List dB}{d:Nat}{x:dB}{st:List SO}{was:List Nat}{wvs:List SV}{c:List Nat}
def oz(c:List Nat)(B:List dB)(S:Nat->List Nat)(k:Nat)(p:Nat×Nat):Nat->List Nat:=
 let s:=if FP B (Gu B) p then N2 S [1,2,3,4,5] k else S
 if FP B (Gd B) p&&N3 (ER c B p) then N2 s [1,3] k else s
def Nx:List S:=[.for JP .over [.bj dm 45 [vm]] [.for AQ .over [.sub iS qz] [tV]],.for JP .over [.bi .sorted [.bj dm 46 [vm]]] [.ifs (.and [.cmp .ne (.sub ou qz)<|.list false [],dy 509 [eA,vm,qz]]) [.for AQ .over [.sub ou qz] [tV]] []]]
theorem Yp:MM 588 45=some 578:=by kernel_rfl
theorem Yo:MM 588 46=some 585:=by kernel_rfl
theorem Yz(q:Bool):jX .over [eD q]=some (match q with|true=>[.int 1]|false=>[]):=by cases q<;>rfl
theorem Yy(q:Bool):wJ .sorted [eD q] σ=some (.lst (match q with|true=>[.int 1]|false=>[]),σ):=by cases q<;>rfl
theorem O5(hc:c∈ey)(hL:1∈Lk)(O:p∈PS B){k n:Nat}(N:k<n)(hn:n<=dI){S:Nat->List Nat}{L:List (Nat×Nat)}(F:FI st S L)(b:I0 S n)(z0 z1 z2 z8 z9:SV)(q1 q2:OS):
  ∃t v j Q,FI t (oz c B S k p) v/\I0 (oz c B S k p) n/\cG (EV<|d+6) MM Nx (FR z0 z1 z2 (IX B) (IV c B was wvs Lk) z8 z9 (a7 p) k q1 q2 st)=some (.next,FR z0 z1 z2 (IX B) (IV c B was wvs Lk) z8 z9 (a7 p) k j Q t):=by
 let K:OS->OS->List SO->ba:=λq1 q2 s=>FR z0 z1 z2 (IX B) (IV c B was wvs Lk) z8 z9 (a7 p) k q1 q2 s
 have M:∀(z:List Nat){S:Nat->List Nat}{L:List (Nat×Nat)}{st:List SO} i q2,i=6\/i=7->FI st S L->I0 S n->(∀r∈z,r<6)->fb st (.h<|i-4) (.int 1)=some (.lst (z.map λi:Nat=>SV.int i))->∃t v Q,FI t (N2 S z k) v/\ji (EV<|d+6) MM (.for AQ .over [.sub (.loc i) qz] [tV]) (K (some<|.int 1) q2 st)=some (.next,K (some<|.int 1) Q t):=λz S L st i q2 hi F b h G=>by refine rF (K1 (C:=EV<|d+6) (z0:=z0) (z1:=z1) (z2:=z2) (z3:=IX B) (z4:=IV c B was wvs Lk) (z8:=z8) (z9:=z9) (zp:=a7 p) (q1:=some<|.int 1) N hn z q2 F b h) λf l a g m=>NZ f l a g<|fj (d4<|bF (aC:=K (some<|.int 1) q2 st) (by rcases hi with rfl|rfl<;>rfl) rfl G) rfl rfl m
 have u:∃t v j Q,FI t (if FP B (Gu B) p then N2 S [1,2,3,4,5] k else S) v/\I0 (if FP B (Gu B) p then N2 S [1,2,3,4,5] k else S) n/\ji (EV<|d+6) MM (.for JP .over [.bj dm 45 [vm]] [.for AQ .over [.sub iS qz] [tV]]) (K q1 q2 st)=some (.next,K j Q t):=by
  have H:gp (EV<|d+6) MM [.bj dm 45 [vm]] (K q1 q2 st)=some ([eD<|FP B (Gu B) p],K q1 q2 st):=d4<|g4 (aT:=K q1 q2 st) (vs:=[a7 p]) rfl rfl rfl Yp rfl<|aet O;have D:=Yz<|FP B (Gu B) p;cases e:FP B (Gu B) p with
  |false=>rw[e] at H D;exact XH st L q1 q2 F b<|fj H D rfl rfl
  |true=>rw[e] at H D;refine rF (M [1,2,3,4,5] 6 q2 (.inl rfl) F b (by decide)<|ox F.h2 rfl) λf l a g m=>XH f l (some<|.int 1) a g (wI N _ b)<|fj H D rfl<|gL (aN (by cases q1<;>rfl)<|aW m rfl) rfl
 refine OZ u λf l p1 a g w m=>?_
 unfold oz
 generalize (if FP B (Gu B) p then N2 S [1,2,3,4,5] k else S)=S1 at g w ⊢
 have H:gp (EV<|d+6) MM [.bi .sorted [.bj dm 46 [vm]]] (K p1 a f)=_:=d4<|sf (d4<|g4 (aT:=K p1 a f) (vs:=[a7 p]) rfl rfl rfl Yo rfl<|aes O)<|Yy<|FP B (Gd B) p
 cases e:FP B (Gd B) p with
 |false=>rw[e] at H;exact XH f l p1 a g w<|aW m<|aW (fj H rfl rfl rfl) rfl
 |true=>
  rw[e] at H;have G:fb f (.h 3) (.int 1)=some (.lst ([1,3].map λi:Nat=>SV.int i)):=ox g.h3 rfl;let J:ba:=K (some<|.int 1) a f;have U:bX (EV<|d+6) MM (.cmp .ne (.sub ou qz)<|.list false []) J=some (.bool true,J):=dz (y:=.lst []) (bF rfl rfl G) rfl<|rfl;have A:bX (EV<|d+6) MM (dy 509 [eA,vm,qz]) J=some (.bool<|N3<|ER c B p,J):=bM (aT:=J) (vs:=[IV c B was wvs Lk,a7 p,.int 1]) rfl rfl<|aez hc hL O;have I:∀{R},ji (EV<|d+6) MM (.ifs (.and [.cmp .ne (.sub ou qz)<|.list false [],dy 509 [eA,vm,qz]]) [.for AQ .over [.sub ou qz] [tV]] []) J=some (.next,R)->cG (EV<|d+6) MM Nx (K q1 q2 st)=some (.next,R):=λh=>aW m (aW (fj H rfl rfl<|gL (aN (by cases p1<;>rfl)<|aW h rfl) rfl) rfl);cases e2:N3 (ER c B p) with
  |false=>rw[e2] at A;exact XH f l (some<|.int 1) a g w<|I<|uK (j5 U<|j6 A) rfl
  |true=>rw[e2] at A;refine rF (M [1,3] 7 a (.inr rfl) g w (by decide) G) λs3 Y p3 V e3=>XH s3 Y (some<|.int 1) p3 V (wI N _ w)<|I<|Aw (j5 U<|j5 A rfl)<|aW e3 rfl
end
section
theorem H5(P:Nat->ba->Prop)(xs:List m):∀(k:Nat)(σ:ba),P k σ->(∀(i:Nat)(x:m),xs[i]? =some x->∀τ,P (k+i) τ->∃a,f (g x) τ=some (.next,a)/\P (k+i+1) a)->∃τ,cz f (xs.map g) σ=some (.next,τ)/\P (k+xs.length) τ:=by
 induction xs with
 |nil=>intro k σ H h;exact⟨σ,rfl,H⟩
 |cons x xs I=>
  intro k σ H h;refine dn (h 0 x rfl σ H) λτ b l=>?_;obtain⟨a,j,n⟩:=I (k+1) τ l λi y e τ p=>by have:=h (i+1) y e τ (by rwa[show k+(i+1)=k+1+i by exact W9]);rwa[show k+(i+1)=k+1+i by exact W9] at this
  exact⟨a,gL b j,by rwa[show k+(x::xs).length=k+1+xs.length by rw[cI];exact W9]⟩
theorem oH(P:Nat->ba->Prop)(xs:List b)(σ:ba)(H:P 0 σ)(h:∀(i:Nat)(x:b),xs[i]? =some x->∀τ,P i τ->∃a,f (g x) τ=some (.next,a)/\P (i+1) a):∃τ,cz f (xs.map g) σ=some (.next,τ)/\P xs.length τ:=by
 have:=H5 P xs 0 σ H λi x e τ p=>by rw[b9] at p ⊢;exact h i x e τ p
 rwa[b9] at this
variable{B:List dB}{d:Nat}{x:dB}{st:List SO}{was:List Nat}{wvs:List SV}{c:List Nat}{S:Nat->List Nat}{L:List (Nat×Nat)}
noncomputable def uX(c:List Nat)(B:List dB):Nat->Nat->List Nat
 |0=>λz=>[]
 |n+1=>match (PS B)[n]? with
  |some p=>oz c B (uX c B n) n p
  |none=>uX c B n
noncomputable def Zx(l:List Nat):SV:=.fW (l.map λi:Nat=>SV.int i)<|l.map λz=>SV.bool true
def DV(S:Nat->List Nat)(L:List (Nat×Nat)):SV:=.fW (L.map λp=>SV.int p.1)<|L.map λp=>Zx<|S p.1
def XZ(l:List Nat):List Int:=gR (l.map λi:Nat=>(i:Int))
def N0(l:List Nat):SV:=.lst<|(XZ l).map .int
def TV(S:Nat->List Nat)(L:List (Nat×Nat)):SV:=.fW (L.map λp=>SV.int p.1)<|L.map λp=>N0<|S p.1
theorem QS:∀(L:List (Nat×Nat))(n:Nat)(st:List SO),(∀p∈L,st[p.2]? =some (DN<|S p.1))->(L.map λp=>p.2).Nodup->L.length+2<n->∃s,s.length=st.length/\(∀a,(∀p∈L,p.2≠a)->s[a]? =st[a]?)/\bP n (L.map λp=>SV.h p.2) st=some (L.map λp=>Zx<|S p.1,s):=λL=>by
 induction L with
 |nil=>intro n st h D N;refine eS (kS<|cv<|NR N) λn g=>?_;subst g;exact xX st rfl (λz z=>rfl) rfl
 |cons p L I=>intro n st h D N;obtain⟨n,rfl⟩:∃q,n=q+3:=⟨n-3,(sJ<|ah (show 3<=L.length+1+2 from eR ..)<|a5 N).symm⟩;have i:=h p (aw ..);rw[cA] at D;refine i9 (d7.mp D) λb f=>?_;have k:∀u∈L,p.2≠u.2:=λu H q=>b<|q▸bw.mpr ⟨u,H,rfl⟩;refine sA (I (n+2) (st.set p.2 .gone) (λu H=>cf (h u<|ay _ H)<|k u H) f<|CW N) λm l j e=>xX m (by rw[l,eO]) (λa A=>?_)<|fR rfl (k8 i (dU (λz=>rfl) _)<|dU (λz=>rfl) _) e;rw[j a λu H=>A u<|ay _ H,bJ<|A p (aw ..)]
theorem wh(l:List Nat):iL (l.map λi:Nat=>SV.int i)=some (l.map λi:Nat=>(i:Int)):=by
 induction l with
 |nil=>exact rfl
 |cons i l h=>show(iL (l.map λi:Nat=>SV.int i)).map _=_;rw[h];rfl
theorem UC(L:List (Nat×Nat))(vs:List SV):s7 (.fW (L.map λp=>SV.int p.1) vs)=some (L.map λp=>SV.int p.1):=by have:=wh<|L.map λp=>p.1;rw[iO] at this;show(iL<|L.map λp=>SV.int p.1).map _=_;exact gy this rfl
def dcF(C:bH):SV->ba->Option (SV×SV×ba):=λx a=>(cS qy x a).bind λa=>(bX C MM bz a).bind λq=>(bX C MM (.bi .sorted [.sub dm bz]) q.2).map λr=>(q.1,r.1,r.2)
theorem QG(n:(L.map λp=>p.1).Nodup)(h:L[j]? =some p):L.findIdx? (λu=>u.1==p.1)=some j:=by obtain⟨J,e⟩:=af.mp h;refine bo.mpr ⟨J,by rw[e];exact beq_self_eq_true _,λi H q=>?_⟩;have a:L[i]? =some (L[i]'(n6 H J)):=ax _;have:=(ie (j:=j) (by rw[ag];exact n6 H J) n).mp (by rw[ai,ai,a,h];exact congrArg some<|beq_iff_eq.mp q);exact acf H this
theorem Rf(m:∀r,(S r).length<64)(D:(L.map λp=>p.1).Nodup)(n:L.length<=6)(k:s[0]? =some (.cell<|some<|DV S L))(f:List (Nat×Nat)):∀(b:List (Nat×Nat))(q:OS),b++f=L->∃Q,sd (dcF C) (b.map λp=>SV.int p.1) (b.map λp=>N0<|S p.1) (f.map λp=>SV.int p.1) ⟨[.un,hJ q,.un,.cell 0],s⟩=some (L.map λp=>SV.int p.1,L.map λp=>N0<|S p.1,⟨[.un,hJ Q,.un,.cell 0],s⟩):=by
 induction f with
 |nil=>intro b q h;exact⟨q,by rw[a9] at h;subst h;rfl⟩
 |cons p f I=>
  intro b q h;obtain⟨Q,e⟩:=I (b++[p]) (some<|.int p.1) (by rw[aM];exact h);refine⟨Q,?_⟩;let G:ba:=⟨[.un,.val<|.int p.1,.un,.cell 0],s⟩;have g:L[b.length]? =some p:=by rw[<-h,az<|aF _,bt];rfl
  have w:b.findIdx? (λu=>u.1==p.1)=none:=by
   rw[bI];intro u t;have:u.1≠p.1:=λq=>by rw[<-h,a6] at D;exact(cL.mp D).2.2 u.1 (bw.mpr ⟨u,t,rfl⟩) p.1 (bw.mpr ⟨p,aw ..,rfl⟩) q
   simpa using this
  have y:bX C MM dm G=some (DV S L,G):=by show(((s[0]?.bind m2).bind id).map λv=>(v,G))=_;rw[k];rfl
  have z:fb s (DV S L) (.int p.1)=some (Zx<|S p.1):=J6 rfl ((l7 p.1 L).trans<|congrArg some<|QG D g) (by rw[ai,g];rfl);have O:wJ .sorted [Zx<|S p.1] G=some (N0<|S p.1,G):=by refine gy ?_ rfl;show(L5 G.st<|Zx<|S p.1).bind (λis=>gd (decide<|is.length<64)<|SV.lst<|(gR is).map .int)=_;show(iL ((S p.1).map λi:Nat=>SV.int i)).bind _=_;rw[wh];show gd (decide<|((S p.1).map λi:Nat=>(i:Int)).length<64) _=_;rw[ju (by rw[ag];exact decide_eq_true<|m p.1)];rfl
  have j:dcF C (.int p.1) ⟨[.un,hJ q,.un,.cell 0],s⟩=some (.int p.1,N0<|S p.1,G):=
   aN (a:=G) (by cases q<;>rfl) (aN rfl<|gy (sf (d4<|bF y rfl z) O) rfl)
  refine aN j<|aN ((l7 p.1 b).trans<|congrArg some w) ?_;have H:b.length<=6:=by rw[<-h,aj] at n;exact Nat.le_of_add_right_le n
  rw[ju (by rw[ag,decide_eq_true<|ah H<|by decide];rfl)];rw[a6,a6] at e;exact e
theorem V2(F:FI st S L)(D:∀r,(S r).length<64):∃j,bX C MM (.yu [none,none,none,some 5] bz (.bi .sorted [.sub dm bz]) qy<|.oR 5) (FRx z0 z1 z2 z3 z4 z8 z9 k zp q1 q2 st)=some (TV S L,FRx z0 z1 z2 z3 z4 z8 z9 k zp q1 q2 j):=by
 have l:=Fx F;obtain⟨e,J,G,v⟩:=QS L 49 (st.set 1 .gone) (λp H=>by refine i9 (F.at_ p H) λa b=>cf b<|aaK a) F.ad (aE (fq l 2)<|by decide);have y:freeze fz (.h 1) st=some (DV S L,e):=by show(st[1]?.bind _)=_;rw[F.h1];show(gd (bS<|L.map λp=>SV.int p.1) ()).bind (λz=>(bP 49 (L.map λp=>SV.h p.2)<|st.set 1 .gone).map _)=_;rw[ju<|dU (λz=>rfl) _];exact gy v rfl
 have n:e[0]? =some (.cell<|some<|.h 1):=by rw[G 0 λp H q=>by have:=(F.at_ p H).1;exact acd q this];exact cf F.h0<|aaP
 let i:List SO:=e.set 0<|.cell<|some<|DV S L;have A:i[0]? =some (.cell<|some<|DV S L):=m4 n;let K:List SO->ba:=λs=>FRx z0 z1 z2 z3 z4 z8 z9 k zp q1 q2 s;have g:bX C MM (.oR 5) (K st)=some (DV S L,K i):=by show((st[0]?.bind m2).bind id).bind _=_;rw[F.h0];show(freeze fz (.h 1) st).bind _=_;rw[y];show((e[0]?.bind m2).map _).map _=_;rw[n];rfl
 refine eS (Rf (C:=C) D F.nd l A L [] none rfl) λQ w=>⟨i,aN g<|aN (UC L _)<|aN w ?_⟩;show gd (bS<|L.map λp=>N0<|S p.1) _=_;rw[ju<|dU (λz=>rfl) _];rfl
theorem Vx:prog.fns 514=some QZ:=rfl
theorem Ph(i:Nat):i<=n->I0 (uX c B i) n:=by
 induction i with
 |zero=>intro _;exact λr=>⟨fg,λz h=>absurd h aJ⟩
 |succ i I=>
  intro h;have:=I<|ct h;show I0 (match (PS B)[i]? with|some p=>oz c B (uX c B i) i p|none=>uX c B i) n;cases(PS B)[i]? with
  |none=>exact this
  |some p=>
   show I0 (if _ then _ else _) n;split
   ·refine wI h _ ?_;split
    ·exact wI h _ this
    ·exact this
   ·split
    ·exact wI h _ this
    ·exact this
theorem aey(hc:c∈ey)(hL:1∈Lk)(G:(PS B).length<64):∃L,(L.map λp=>p.1).Nodup/\(∀r,(∀p∈L,p.1≠r)->uX c B (PS B).length r=[])/\
  EV (d+16) (fh 514) [BD B,.inst 662 Hf He,.lst<|(PS B).map a7,IX B,IV c B Hf He Lk] st=some (TV (uX c B (PS B).length) L,st):=by
 let R:SV:=.lst<|(PS B).map a7
 let W:SV:=.inst 662 Hf He
 let M:SV:=IV c B Hf He Lk
 let t:SV:=.tup [TY,.bool true,tS "t"]
 let v:SV:=.lst [.int 1,.int 3]
 let K:OS->OS->OS->OS->List SO->ba:=FRx (BD B) W R (IX B) M t v
 let P:Nat->ba->Prop:=λi l=>∃k j Q b s L,l=K k j Q b s/\FI s (uX c B i) L
 have rh:∀i,i<=(PS B).length->I0 (uX c B i) (PS B).length:=λi h=>Ph i h
 have H:FI [.cell<|some<|.h 1,.dict [] [],.list O4,.list Q8,.gone,.gone] (uX c B 0) []:=⟨rfl,rfl,rfl,rfl,fg,fg,λz h=>absurd h aJ,λz h=>absurd h aJ,λz z=>rfl⟩
 obtain⟨l,e,k,j,Q,b,s,L,rfl,F⟩:=oH (f:=λx l=>(cS (.many [10,11]) x l).bind λl=>cG (EV<|d+15) MM Nx l) (g:=λq:(Nat×Nat)×Nat=>SV.tup [.int q.2,a7 q.1]) P (PS B).zipIdx (K none none none none [.cell<|some<|.h 1,.dict [] [],.list O4,.list Q8,.gone,.gone]) ⟨none,none,none,none,_,_,rfl,H⟩ λi q J l hP=>by
  obtain⟨k,j,Q,b,s,L,rfl,F⟩:=hP;rw[kM,be] at J;refine dn J λp w D=>?_;subst D;have I:=(af.mp w).1;obtain⟨U,Y,p1,O,V,_,e1⟩:=O5 hc hL (aH w) I (by show _<=4000;exact acb G) F (rh i<|a5 I) (BD B) W R t v Q b;have hs:uX c B (i+1)=oz c B (uX c B i) i p:=by show(match (PS B)[i]? with|some p=>oz c B (uX c B i) i p|none=>uX c B i)=_;rw[w]
  refine⟨FR (BD B) W R (IX B) M t v (a7 p) i p1 O U,aN (a:=FR (BD B) W R (IX B) M t v (a7 p) i Q b s) ?_ e1,⟨some<|.int i,some<|a7 p,p1,O,U,Y,rfl,hs▸V⟩⟩;show m5 [10,11] [.int (0+i:Nat),a7 p] (K k j Q b s)=_;rw[b9];cases k<;>cases j<;>rfl
 rw[sy] at F
 refine eS (V2 (C:=EV<|d+15) (z0:=BD B) (z1:=W) (z2:=R) (z3:=IX B) (z4:=M) (z8:=t) (z9:=v) (k:=k) (zp:=j) (q1:=Q) (q2:=b) F λr=>aE (zw _ _ (rh _ (aF _) r).1 (rh _ (aF _) r).2) G) λs' e2=>xX L F.nd F.no ?_
 have A:=Uz d (.lst<|rg B) R [38,39,40,41,42] [.fW ((PS B).map a7)<|(PS B).map<|uV B,.fW ((PS B).map a7)<|(PS B).map<|dV B,.fW ((PS B).map a7)<|(PS B).map<|sV B,.fW ((KS B).map a7)<|(KS B).map λp=>eD<|FP B (Gu B) p,.fW ((KS B).map a7)<|(KS B).map λp=>eD<|FP B (Gd B) p] [14,28,29,30] [BD B,PTx (.lst<|rg B) (qS TY) Hf He (CC c) (DP c) ((D9 c).map SV.lst) (CC c) (Br c) (Lk.map λi:Nat=>SV.int i)<|Lk.map λn=>.lst<|xH c n,.fW ((PS B).map a7)<|(PS B).map λp=>.lst<|Ax c<|wP B p,.fW ((PS B).map a7)<|(PS B).map<|pV c B]
 have it:jX .enum [R]=some ((PS B).zipIdx.map λq:(Nat×Nat)×Nat=>SV.tup [.int q.2,a7 q.1]):=by show some (((PS B).map a7).zipIdx.map _)=_;rw[Ow,iO];rfl
 have y:cG (EV<|d+15) MM QZ.body ⟨[.val<|BD B,.val W,.val R,.val<|IX B,.val M,.cell 0,.un,.un,.un,.un,.un,.un,.un,.un,.un,.un,.un,.un,.un],[.cell none]⟩=some (.ret<|TV (uX c B (PS B).length) L,K k j Q b s'):=by refine(vB A).trans<|aW (fj (d4 rfl) it rfl e)<|f7<|ej e2
 exact bE Vx rfl rfl rfl y rfl
end
def wO:W->Str
 |.set=>o "set"|.use=>o "use"|.rest=>o "rest"|.drop=>o "drop"|.d0=>o "drop 0"|.d1=>o "drop 1"|.d2=>o "drop 2"
def wS(w:W):SV:=.str<|wO w
def wD(w:W):PyData:=.str<|wO w
noncomputable def wN:W->Nat
 |.set=>0|.use=>1|.rest=>2|.drop=>3|.d0=>4|.d1=>5|.d2=>6
def Fg(a b:W):Bool:=wN a==wN b
noncomputable def W7:List W:=[.set,.use,.rest,.drop,.d0,.d1,.d2]
theorem yZ(w:W):w∈W7:=by cases w<;>simp[W7]
theorem Ff:Fg a b=true↔a=b:=by
 constructor
 ·intro h;cases a<;>cases b<;>first|rfl|exact ae h
 ·rintro rfl;exact beq_self_eq_true<|wN a
theorem Sp(w:W):ls (wS w)=some (wD w):=d5 (f:=λw=>ls<|wS w) (g:=λw=>some<|wD w) (by kernel_rfl) w<|yZ w
theorem Zv(x a:W):bc (wD x) (wD a)=Fg x a:=d5 (d5 (f:=λx=>W7.map λa=>bc (wD x)<|wD a) (g:=λx=>W7.map λa=>Fg x a) (rfl) x<|yZ x) a<|yZ a
theorem Eu(i:Nat)(w:W)(C:bH)(τ:ba)(h:kF i τ=some (wS w)):bX C MM (gG (.i5 (.loc i)<|.int 4)<|.str<|sr 13) τ=some (.bool<|we w,τ):=by
 have e:bX C MM (.i5 (.loc i)<|.int 4) τ=some (.str<|o (if we w then "drop" else(match w with|.set=>"set"|.use=>"use"|_=>"rest")),τ):=by refine aN (gy h rfl)<|aN (a:=(.int 4,τ)) rfl ?_;cases w<;>kernel_rfl
 refine dz e rfl ?_;cases w<;>kernel_rfl
theorem Fj(ws:List W):eQ (ws.map wS)=some (ws.map wD):=by
 induction ws with
 |nil=>exact rfl
 |cons w ws i=>show(ls<|wS w).bind (λd=>(eQ<|ws.map wS).map λs=>d::s)=_;rw[i,Sp];rfl
theorem BY(a:W)(ws:List W):qx (wS a) (ws.map wS)=some (ws.findIdx? λx=>Fg x a):=by show(ls<|wS a).bind (λd=>(eQ<|ws.map wS).bind λs=>gd (decide<|d.depth<=b7)<|s.findIdx? λx=>bc x d)=_;rw[Sp,Fj];show gd true ((ws.map wD).findIdx? λx=>bc x<|wD a)=_;rw[ij];show some _=some _;congr 2;funext x;exact Zv x a
def iW(a:W)(ws:List W):Bool:=ws.any λx=>Fg x a
theorem zK(a:W)(ws:List W):(ws.findIdx? λx=>Fg x a).isSome=iW a ws:=qh
theorem L9{st:List SO}(a:W)(ws:List W):ir st .isIn (wS a) (.lst<|ws.map wS)=some (iW a ws):=by show(qx (wS a)<|ws.map wS).map (·.isSome)=_;rw[BY];exact congrArg some<|zK a ws
theorem P4{st:List SO}(a:W)(ws:List W):ir st .jr (wS a) (.lst<|ws.map wS)=some (!iW a ws):=gy (L9 (st:=st) a ws) rfl
def lC(a:W)(ws:List W):List W:=match ws.findIdx? λx=>Fg x a with
 |some i=>ws.take i
 |none=>ws
theorem vo(ws:List W):bS (ws.map wS)=true:=dU (λz=>rfl) _
theorem LK(h:n<=dI)(H:i<=dI):si n i=true:=by show(decide (n<=dI)&&decide ((i:Int).natAbs<=dI))=true;rw[decide_eq_true h,decide_eq_true (show(i:Int).natAbs<=dI from H)];rfl
theorem Kz{ws:List W}(h:ws.length<=dI)(H:i<=dI):i6 σ (.lst<|ws.map wS) (.int i)=some (.lst<|(ws.drop i).map wS,σ):=by
 show gd (si (ws.map wS).length i) (dh false ((ws.map wS).drop<|du (ws.map wS).length i) σ)=_;rw[ju<|LK (by rw[ag];exact h) H];have e:(ws.map wS).drop (du (ws.map wS).length i)=(ws.drop i).map wS:=by
  show(ws.map wS).drop (min i (ws.map wS).length)=_;rw[rt];by_cases q:i<=(ws.map wS).length
  ·rw[ei q]
  ·rw[nS<|ar7 q,nE,nX<|ar7 q]
 rw[e,pC<|vo _]
theorem Kx{ws:List W}(h:ws.length<=dI)(H:i<=dI):i5 σ (.lst<|ws.map wS) (.int i)=some (.lst<|(ws.take i).map wS,σ):=by
 show gd (si (ws.map wS).length i) (dh false ((ws.map wS).take<|du (ws.map wS).length i) σ)=_;rw[ju<|LK (by rw[ag];exact h) H];have e:(ws.map wS).take (du (ws.map wS).length i)=(ws.take i).map wS:=by
  show(ws.map wS).take (min i (ws.map wS).length)=_;rw[kz];by_cases q:i<=(ws.map wS).length
  ·rw[ei q]
  ·rw[nS<|ar7 q,cH,c9<|ar7 q]
 rw[e,pC<|vo _]
theorem YF{ws:List W}(h:ws.length<=dI)(H:(ws.findIdx? λx=>Fg x a)=some i):gx (.lst<|ws.map wS) 3 [wS a] σ=some (.int i,σ):=by refine gy (?_:td σ.st (.lst<|ws.map wS) [wS a]=_) rfl;unfold td;exact aN rfl<|aN rfl<|aN (r8 (by rw[ag];exact h))<|aN ((BY a ws).trans<|congrArg some H) rfl
theorem S9{ws:List W}(b:.str s=wS .set)(h:ws.length<=dI)(a:kF i σ=some (.lst<|ws.map wS))(V:bX C MM e2 σ=some (v,σ)):
  bX C MM (.ite (.cmp .isIn (.str s)<|.loc i) (.i5 (.loc i)<|.bj (.loc i) 3 [.str s]) e2) σ=some (match iW .set ws with|true=>.lst ((lC .set ws).map wS)|false=>v,σ):=by
 have L:bX C MM (.loc i) σ=some (.lst<|ws.map wS,σ):=gy a rfl
 have s0:bX C MM (.str s) σ=some (wS .set,σ):=by rw[<-b];rfl
 have c:=dz s0 L<|L9 .set ws
 cases q:iW .set ws with
 |false=>rw[q] at c;exact S5 c V
 |true=>
  rw[q] at c;rw[<-zK] at q;obtain⟨j,H⟩:=gh.mp q;have J:j<=dI:=by have:=(bo.mp H).1;exact aca h this
  refine e_t c ?_;have:lC .set ws=ws.take j:=by unfold lC;rw[H]
  rw[this];exact aN L<|aN (hM L rfl rfl (d4 s0)<|YF h H)<|Kx h J
theorem Lw{st:List SO}(ws:List W):ir st .ne (.lst<|ws.map wS) (.lst [])=some (!ws.isEmpty):=by show(((eQ<|ws.map wS).map o9).bind λd=>(mY st<|.lst []).bind λb=>gd (decide<|min d.depth b.depth<=b7)<|bc d b).map (!·)=_;rw[Fj];show(gd (decide<|min _ (o9 []).depth<=b7)<|bc (.list<|ws.map wD)<|.list []).map _=_;rw[ju<|decide_eq_true<|ah (dt _ _)<|by decide];cases ws<;>rfl
def jJ(ws:List W)(i:Nat):List W:=lC .set<|ws.drop i
def rT(ws:List W)(i:Nat):Bool:=(jJ ws i).any we
def gone(ws:List W)(i:Nat):Bool:=match iW .set (ws.take i).reverse with
 |true=>iW .drop<|lC .set (ws.take i).reverse
 |false=>true
def mw(ws:List W)(i:Nat):List Nat:=if iW .use (jJ ws i) then [1,2,3,4,5] else if rT ws i&&!gone ws i then [1,3] else []
theorem MB:prog.fns 720=some YS:=by kernel_rfl
theorem Ie(ws:List W)(i:Nat):(jJ ws i).length<=ws.length:=by
 unfold jJ lC;split
 ·rw[bZ,e8];exact ab9
 ·rw[e8];omega
def WY(ws:List W)(i:Nat)(a b c:LV)(st:List SO):ba:=⟨[.val<|.lst<|ws.map wS,.val<|.int i,a,b,c],st⟩
theorem V7(h:iW .set ws=false):lC .set ws=ws:=by
 unfold lC;rw[<-zK] at h;cases e:ws.findIdx? λx=>Fg x .set with
 |none=>rfl
 |some j=>rw[e] at h;exact ae h
theorem KQ{ws:List W}(h:ws.length<=1000)(H:i<=1000)
  (k:cG C MM r (WY ws i (.val<|.lst<|(jJ ws i).map wS) .un .un [])=R):cG C MM (et 2 (.i6 bO bz)::et 2 (.ite (.cmp .isIn (.str<|sr 40) cU) (.i5 cU<|.bj cU 3 [.str<|sr 40]) cU)::r) (WY ws i .un .un .un [])=R:=by
 refine aW (bC (aN rfl<|aN rfl<|Kz (by show _<=4000;exact ar3 h) (by show _<=4000;exact ar3 H)) rfl)<|aW (bC (S9 rfl (by rw[e8];show _<=4000;omega) rfl rfl) ?_) k
 have:(match iW .set (ws.drop i) with|true=>SV.lst ((lC .set<|ws.drop i).map wS)|false=>.lst<|(ws.drop i).map wS)=.lst ((jJ ws i).map wS):=by
  unfold jJ;cases q:iW .set (ws.drop i) with
  |true=>rfl
  |false=>show _=SV.lst ((lC .set<|ws.drop i).map wS);rw[V7 q]
 rw[this];rfl
theorem tP{b:Type}{f:SV->ba->Option (List SV×ba)}{g:b->SV}{t:b->Bool}{F:OS->ba}(xs:List b):∀(a:List SV)(q:OS),(∀x∈xs,∀q,f (g x) (F q)=some (match t x with|true=>[g x]|false=>[],F<|some<|g x))->∃Q,fF f a (xs.map g) (F q)=some (a++(xs.filter t).map g,F Q):=by
 induction xs with
 |nil=>intro a q _;exact⟨q,by rw[lM,List.filter_nil,lM,a9];rfl⟩
 |cons x xs i=>
  intro a q H;obtain⟨Q,e⟩:=i (a++(match t x with|true=>[g x]|false=>[])) (some<|g x) λy h=>H y<|ay _ h;refine⟨Q,aN (H x (aw ..) q) ?_⟩;rw[e];cases ht:t x with
  |true=>rw[AM (by rw[ht]),cA,aM];rfl
  |false=>rw[AN (by rw[ht];exact ae),a9]
theorem Nf{ws:List W}{σ:ba}(H:gW fr σ.loc=[.un,.un])(h:ws.length<=dI)(j:bX C MM e σ=some (.lst<|ws.map wS,σ)):
  bX C MM (.comp false fr bz qy .over [e] [gG (.i5 bz<|.int 4)<|.str<|sr 13]) σ=some (.lst<|(ws.filter we).map wS,σ):=by
 obtain⟨Q,i⟩:=tP (f:=λx c=>(cS qy x c).bind λc=>(jv C MM [gG (.i5 bz<|.int 4)<|.str<|sr 13] c).bind λq=>(fa q.1).bind λb=>match b with
    |true=>(bX C MM bz q.2).map λr=>([r.1],r.2)
    |false=>some ([],q.2)) (t:=we) (F:=λq=>⟨[.un,hJ q],σ.st⟩) ws [] none λw z q=>by
  refine aN (a:=⟨[.un,.val<|wS w],σ.st⟩) (by cases q<;>rfl) ?_
  have d:=Eu 1 w C ⟨[.un,.val<|wS w],σ.st⟩ rfl
  cases hd:we w with
  |true=>rw[hd] at d;exact aN (aN d<|aN rfl rfl)<|aN rfl rfl
  |false=>rw[hd] at d;exact aN (aN d<|aN rfl rfl)<|aN rfl rfl
 have g:=zZ (m:=false) rfl (d4 j) (ik:=.over) rfl rfl (by rw[H];exact i) (by rw[d8,ag];exact ah (pe ..) h)
 rw[d8,pC<|vo _] at g
 exact g
theorem WM(t:a->Bool)(l:List a):(!(l.filter t).isEmpty)=l.any t:=by
 induction l with
 |nil=>exact rfl
 |cons x l I=>
  rw[kA,<-I];cases h:t x with
  |true=>rw[AM h];rfl
  |false=>rw[AN (by rw[h];exact ae)];rfl
theorem ael{ws:List W}{i d:Nat}{st:List SO}(h:ws.length<=1000)(H:i<=1000):EV (d+1) (fh 720) [.lst<|ws.map wS,.int i] st=some (.lst ((mw ws i).map λi:Nat=>SV.int i),st):=by
 let D:SV:=.lst<|(jJ ws i).map wS;have l:=ah (Ie ws i) (by show _<=4000;exact ar3 h);let A:List W:=(ws.take i).reverse;have B:A.length<=dI:=by show((ws.take i).reverse).length<=4000;rw[eG,bZ];exact aaz h H
 let F:LV->LV->List SO->ba:=λb c s=>WY ws i (.val D) b c s;have e:bX (EV d) MM (.cmp .isIn (.str<|sr 19) cU) (F .un .un [])=some (.bool<|iW .use<|jJ ws i,F .un .un []):=dz rfl rfl<|L9 (st:=[]) .use<|jJ ws i;unfold mw;cases hu:iW .use (jJ ws i) with
 |true=>rw[hu] at e;exact bE MB rfl (by show((SV.lst<|ws.map wS).free&&true)=true;rfl) rfl (KQ h H<|qC<|Aw e<|f7 rfl) (by kernel_rfl)
 |false=>
  rw[hu] at e;have p:bX (EV d) MM (.vJ<|.i5 bO bz) (F .un .un [])=some (.lst<|A.map wS,F .un .un []):=by refine aN (aN rfl<|aN rfl<|Kx (σ:=F .un .un []) (i:=i) (ws:=ws) (by show _<=4000;exact ar3 h) (by show _<=4000;exact ar3 H))<|aN (a:=(ws.take i).map wS) rfl ?_;rw[<-List.map_reverse,pC<|vo _];exact r8 (by rw[ag,bZ];show _<=4000;exact aaz h H)
  have r:∀{b s},bX (EV d) MM (.cmp .ne (.comp false [none,none] bz qy .over [.oR 2] [gG (.i5 bz<|.int 4)<|.str<|sr 13])<|.list false []) (F b .un s)=some (.bool<|rT ws i,F b .un s):=λ{b s}=>by refine dz (y:=.lst []) (Nf (σ:=F b .un s) (ws:=jJ ws i) rfl l rfl) rfl<|(Lw _).trans ?_;unfold rT;rw[WM]
  have f:∀(b:SV)(s:List SO),gu 3 b (F (.val<|.lst<|A.map wS) .un s)=some (F (.val b) .un s)->
   bX (EV d) MM (.ite (.cmp .isIn (.str<|sr 40) dm) (.i5 dm<|.bj dm 3 [.str<|sr 40])<|.list true [.str<|sr 13]) (F (.val<|.lst<|A.map wS) .un [])=some (b,F (.val<|.lst<|A.map wS) .un s)->
   ir s .jr (wS .drop) b=some (!gone ws i)->
   EV (d+1) (fh 720) [.lst<|ws.map wS,.int i] st=some (.lst ((if rT ws i&&!gone ws i then [1,3] else []).map λi:Nat=>SV.int i),st):=λb s t w z=>by
   have k:bX (EV d) MM (.and [eA,.cmp .jr (.str<|sr 13) dm]) (F (.val b) (.val<|.bool<|rT ws i) s)=some (.bool<|rT ws i&&!gone ws i,F (.val b) (.val<|.bool<|rT ws i) s):=by
    cases rT ws i with
    |false=>exact j6 rfl
    |true=>
     have q:=dz (C:=EV d) (M:=MM) (op:=.jr) (lh:=.str<|sr 13) (lN:=dm) (σ:=F (.val b) (.val<|.bool true) s) (aC:=F (.val b) (.val<|.bool true) s) (x:=wS .drop) (y:=b) rfl rfl z;refine j5 rfl ?_;cases hg:gone ws i with
     |true=>rw[hg] at q;exact j6 q
     |false=>rw[hg] at q;exact j5 q rfl
   refine bE MB rfl (by show((SV.lst<|ws.map wS).free&&true)=true;rfl) rfl (KQ h H<|aW (uK e rfl)<|aW (τ:=F (.val<|.lst<|A.map wS) .un []) (bC p rfl)<|aW (bC w t)<|aW (τ:=F (.val b) (.val<|.bool<|rT ws i) s) (bC r rfl)<|qC<|zl<|zY k) ?_;cases rT ws i&&!gone ws i with
   |true=>show((s++[SO.list [.int 1,.int 3]])[s.length]?.bind _).map _=_;rw[Cn];rfl
   |false=>show((s++[SO.list []])[s.length]?.bind _).map _=_;rw[Cn];rfl
  have L:kF 3 (F (.val<|.lst<|A.map wS) .un [])=some (.lst<|A.map wS):=rfl;cases hs:iW .set A with
  |true=>
   have j:=S9 (C:=EV d) (s:=sr 40) (σ:=F (.val<|.lst<|A.map wS) .un []) (i:=3) (ws:=A) (e2:=.none) (v:=.none) rfl B L rfl;rw[hs] at j;have g:bX (EV d) MM (.cmp .isIn (.str<|sr 40) dm) (F (.val<|.lst<|A.map wS) .un [])=some (.bool true,F (.val<|.lst<|A.map wS) .un []):=hs▸dz rfl rfl (L9 (st:=[]) .set A);have n:=(zY (lN:=.none) g).symm.trans j;refine f (.lst<|(lC .set A).map wS) [] rfl (e_t g n) ?_
   ·refine(P4 .drop<|lC .set A).trans ?_;unfold gone;show _=some (!match iW .set A with|true=>iW .drop (lC .set A)|false=>true);rw[hs]
  |false=>have g:bX (EV d) MM (.cmp .isIn (.str<|sr 40) dm) (F (.val<|.lst<|A.map wS) .un [])=some (.bool false,F (.val<|.lst<|A.map wS) .un []):=hs▸dz rfl rfl (L9 (st:=[]) .set A);refine f (.h 0) [.list [wS .drop]] rfl (S5 g rfl) ?_;unfold gone;show _=some (!match iW .set A with|true=>iW .drop (lC .set A)|false=>true);rw[hs];kernel_rfl
def w6(s:List dB×List W)(w:W):List dB×List W:=match we w with
 |true=>(s.1++[(s.2,some w)],[])
 |false=>(s.1,s.2++[w])
def mE(ws:List W):List dB×List W:=ws.foldl w6 ([],[])
noncomputable def Bo(s:List dB×List W):List dB:=s.1++[(s.2,none)]
def jZ(ws:List W):List dB:=Bo<|mE ws
noncomputable def uJ(s:List dB×List W):Nat×Nat:=(s.1.length,s.2.length)
def Fp(ws:List W):List (Nat×Nat):=(ak ws.length).map λi=>uJ<|mE<|ws.take i
theorem rS(A:List dB)(x:dB):PS (A++[x])=PS A++(ak<|x.1.length+1).map λi=>(A.length,i):=by
 have h:(A++[x])[A.length]? =some x:=by rw[az<|aF _,bt];rfl
 have:=kX h;rw[R6] at this;rw[<-this,c9 (by rw[aj];exact aF _)]
theorem Ux(s:List dB×List W)(w:W):PS (Bo<|w6 s w)=PS (Bo s)++[uJ<|w6 s w]:=by
 obtain⟨D,c⟩:=s;unfold w6;cases h:we w with
 |true=>show PS ((D++[(c,some w)])++[([],none)])=PS (D++[(c,none)])++[((D++[(c,some w)]).length,0)];rw[rS,rS,rS];rfl
 |false=>show PS (D++[(c++[w],none)])=PS (D++[(c,none)])++[(D.length,(c++[w]).length)];rw[rS,rS];show PS D++(ak<|(c++[w]).length+1).map (λi=>(D.length,i))=_;rw[d6,a6,aj,aM];rfl
theorem oA(ws:List W)(w:W):mE (ws++[w])=w6 (mE ws) w:=by unfold mE;rw[ig];rfl
theorem pf{a:Type}{l:List a}{x:a}(h:l[n]? =some x):l.take (n+1)=l.take n++[x]:=by rw[gj,h];rfl
theorem FE(ws:List W):∀n,n<=ws.length->PS (jZ<|ws.take n)=((ak n).map λi=>uJ<|mE<|ws.take i)++[uJ<|mE<|ws.take n]:=by
 intro n;induction n with
 |zero=>intro _;rfl
 |succ n I=>intro h;have x:=ax h;unfold jZ at I ⊢;rw[pf x,oA,Ux,I<|ct h,d6,a6,<-oA,<-pf x];rfl
theorem DI(ws:List W):PS (jZ ws)=Fp ws++[uJ<|mE ws]:=by have:=FE ws ws.length<|aF _;rwa[cH] at this
theorem O3(s:List dB×List W):wP (Bo s) (uJ s)=none:=by obtain⟨D,c⟩:=s;show((D++[(c,none)])[D.length]?.bind λx=>wd x c.length)=_;rw[az<|aF _,bt];show wd (c,none) c.length=none;unfold wd;rw[if_neg<|b0 _]
theorem TQ(s:List dB×List W)(w:W):wP (Bo<|w6 s w) (uJ s)=some w:=by
 obtain⟨D,c⟩:=s;unfold w6;cases h:we w with
 |true=>show(((D++[(c,some w)])++[([],none)])[D.length]?.bind λx=>wd x c.length)=_;rw[aM,az<|aF _,bt];show wd (c,some w) c.length=_;unfold wd;rw[if_neg<|b0 _]
 |false=>show((D++[(c++[w],none)])[D.length]?.bind λx=>wd x c.length)=_;rw[az<|aF _,bt];show wd (c++[w],none) c.length=_;unfold wd;rw[if_pos (by rw[aj];exact cp _),az<|aF _,bt];rfl
theorem TM(s:List dB×List W)(w:W)(d:p∈PS (Bo s))(n:p≠uJ s):wP (Bo<|w6 s w) p=wP (Bo s) p:=by
 obtain⟨D,c⟩:=s;obtain⟨b,i⟩:=p;refine dn (jV.mp d) λx H I=>?_;have H:(D++[(c,none)])[b]? =some x:=H;have a:=(af.mp H).1;rw[aj] at a;by_cases q:b<D.length
 ·show((Bo<|w6 (D,c) w)[b]?.bind λx=>wd x i)=(Bo (D,c))[b]?.bind λx=>wd x i;congr 1;unfold w6 Bo;cases h:we w with
  |true=>show((D++[(c,some w)])++[([],none)])[b]? =(D++[(c,none)])[b]?;rw[aM,aK q,aK q]
  |false=>show(D++[(c++[w],none)])[b]? =(D++[(c,none)])[b]?;rw[aK q,aK q]
 ·have B:b=D.length:=by
   have:=a
   exact aau q this
  subst B
  rw[az<|aF _,bt] at H
  obtain rfl:(c,none)=x:=aa H
  have l:=gZ (show i<=c.length from I) λe=>n (by rw[e];rfl)
  have r:wP (Bo (D,c)) (D.length,i)=c[i]?:=by show((D++[(c,none)])[D.length]?.bind λx=>wd x i)=_;rw[az<|aF _,bt];show wd (c,none) i=_;unfold wd;rw[if_pos l]
  rw[r]
  unfold w6
  cases h:we w with
  |true=>show(((D++[(c,some w)])++[([],none)])[D.length]?.bind λx=>wd x i)=_;rw[aM,az<|aF _,bt];show wd (c,some w) i=_;unfold wd;rw[if_pos l]
  |false=>show((D++[(c++[w],none)])[D.length]?.bind λx=>wd x i)=_;rw[az<|aF _,bt];show wd (c++[w],none) i=_;unfold wd;rw[if_pos (by rw[aj];omega),aK l]
theorem O2(ws:List W):∀n,n<=ws.length->∀i,i<n->wP (jZ<|ws.take n) (uJ<|mE<|ws.take i)=ws[i]?:=by
 intro n;induction n with
 |zero=>intro _ i h;exact absurd h<|fu _
 |succ n a=>
  intro h i I;have x:=ax h;have e:=pf x;by_cases q:i=n
  ·subst q;show wP (Bo<|mE<|ws.take<|i+1) _=_;rw[e,oA,TQ,x]
  ·have l:i<n:=WG I q;have p:=FE ws n<|ct h;have m:uJ (mE<|ws.take i)∈(ak n).map λi=>uJ (mE<|ws.take i):=bw.mpr ⟨i,bV.mpr l,rfl⟩;have d:=oD<|jZ<|ws.take n;rw[p] at d;have H:=(cL.mp d).2.2 _ m _<|aD.mpr rfl;rw[<-a (ct h) i l];show wP (Bo<|mE<|ws.take<|n+1) _=wP (Bo<|mE<|ws.take n) _;rw[e,oA];exact TM _ _ (by show _∈PS (jZ<|ws.take n);rw[p];exact kL _ m) H
theorem JW(ws:List W):(PS<|jZ ws).map (wP<|jZ ws)=ws.map some++[none]:=by
 rw[DI,a6];congr 1
 ·unfold Fp;rw[iO];refine eE λi=>?_;rw[ai,ai];by_cases q:i<ws.length
  ·rw[bx q];have:=O2 ws ws.length (aF _) i q;rw[cH] at this;show some (wP (jZ ws)<|uJ<|mE<|ws.take i)=_;rw[this,ax q];rfl
  ·rw[fO (by rw[ar];exact ar8 q),fO<|ar8 q];rfl
 ·show [wP (Bo<|mE ws)<|uJ<|mE ws]=_;rw[O3]
theorem DH(ws:List W):(PS<|jZ ws).length=ws.length+1:=by rw[DI,aj];unfold Fp;rw[ag,ar];rfl
theorem Sx(ws:List W)(h:i<ws.length):(PS<|jZ ws)[i]? =some (uJ<|mE<|ws.take i):=by rw[DI];unfold Fp;rw[aK (by rw[ag,ar];exact h),ai,bx h];rfl
structure GB(s:List dB×List W)(n:Nat):Prop where
 len:s.1.length+s.2.length<=n
 each:∀x∈s.1,x.1.length<=n/\(∀w∈x.1,we w=false)/\∃w,x.2=some w/\we w=true
 cur:∀w∈s.2,we w=false
theorem YQ(ws:List W):∀(s:List dB×List W)(n:Nat),GB s n->GB (ws.foldl w6 s) (n+ws.length):=by
 induction ws with
 |nil=>intro s n h;exact h
 |cons w ws i=>
  intro s n h;have c:GB (w6 s w) (n+1):=by
   unfold w6;cases q:we w with
   |true=>
    refine⟨?_,λx H=>?_,λw h=>absurd h aJ⟩
    ·have:=h.len;rw[aj];show s.1.length+1+0<=_;exact ab8 this
    ·rcases b4.mp H with H|H
     ·refine i9 (h.each x H) λa b=>⟨dZ a,b⟩
     ·rw[aD.mp H];have:=h.len;exact⟨by show s.2.length<=_;exact ab7 this,h.cur,w,rfl,q⟩
   |false=>
    refine⟨?_,λx H=>?_,λu U=>?_⟩
    ·have:=h.len;show s.1.length+(s.2++[w]).length<=n+1;rw[aj];show s.1.length+(s.2.length+1)<=_;exact dY this
    ·refine i9 (h.each x H) λa b=>⟨dZ a,b⟩
    ·rcases b4.mp U with U|U
     ·exact h.cur u U
     ·rw[aD.mp U];exact q
  have:=i (w6 s w) (n+1) c;rw[show n+1+ws.length=n+(w::ws).length by rw[cI];exact ar2] at this;exact this
theorem Mp(ws:List W):GB (mE ws) ws.length:=by have:=YQ ws ([],[]) 0 ⟨aF _,λz h=>absurd h aJ,λz h=>absurd h aJ⟩;rwa[b9] at this
theorem UE{ws:List W}(h:ws.length<=30):lG (jZ ws):=by
 have g:=Mp ws;refine⟨?_,λx H=>?_,λb x H=>?_⟩
 ·have:=g.len;show((mE ws).1++[_]).length<=40;rw[aj];exact ab6 h this
 ·rcases b4.mp H with H|H
  ·obtain⟨a,b,w,e,q⟩:=g.each x H;exact⟨ab5 h a,b,λu U=>by rw[e] at U;rw[<-aa U];exact q⟩
  ·rw[aD.mp H];have:=g.len;exact⟨by show(mE ws).2.length<=_;exact ab4 h this,g.cur,λu U=>by cases U⟩
 ·have H:((mE ws).1++[((mE ws).2,none)])[b]? =some x:=H;have c:=(af.mp H).1;rw[aj] at c;have l:(jZ ws).length=(mE ws).1.length+1:=aj;rw[l];by_cases q:b<(mE ws).1.length
  ·rw[aK q] at H;obtain⟨_,_,w,e,_⟩:=g.each x<|aH H;rw[e];exact⟨λh=>(by cases h),λh=>(ab3 l q h)⟩
  ·have B:b=(mE ws).1.length:=by
    have:=c
    exact xO this q
   subst B
   rw[az<|aF _,bt] at H
   rw[<-aa H]
   exact⟨λz=>rfl,λz=>rfl⟩
theorem GG(ws:List W):0<(jZ ws).length:=by show 0<((mE ws).1++[_]).length;rw[aj];exact n5 _
section
variable{B:List dB}{b:Nat}{x:dB}{c:List Nat}
theorem DM(B:List dB)(b:Nat):PS B=PS (B.take b)++N1 B b:=by
 have h:PS B=PS (B.take b++B.drop b):=by rw[cV]
 have H:∀A D:List dB,∃R,PS (A++D)=PS A++R:=λA D=>⟨_,by unfold PS;rw[jh,iY]⟩;obtain⟨R,r⟩:=H (B.take b)<|B.drop b;unfold N1;rw[h,r,qi]
theorem Tx(h:B[b]? =some x)(H:i<=x.1.length):(PS B)[(PS<|B.take b).length+i]? =some (b,i):=by have e:=DM B b;rw[zh h] at e;rw[e,az (a4 ..),Cz,aK (by rw[ag,ar];exact ar4 H),ai,bx<|ar4 H];rfl
theorem JJ{k:Nat}(H:(PS B)[k]? =some p)(h:B[p.1]? =some x)(i:p.2<=x.1.length):k=(PS<|B.take p.1).length+p.2:=
 (ie (af.mp H).1<|oD B).mp (H.trans (Tx h i).symm)
theorem KH(h:B[b]? =some x)(G:Nat×Nat->Bool->Bool):(N1 B<|b+1).foldr G false=Wm B G b:=by
 have H:=(af.mp h).1;unfold Wm Fb;by_cases q:b+1<B.length
 ·rw[decide_eq_true q,mP]
 ·rw[decide_eq_false q,show b+1=B.length by exact aat H q,Fw];rfl
theorem Gl{k:Nat}(d:(PS B)[k]? =some p):FP B G p=((PS B).drop k).foldr G false:=by
 refine dn (jV.mp<|aH d) λx h H=>?_;obtain⟨b,i⟩:=p;have e:=JJ d h H;have h:B[b]? =some x:=h;have H:i<=x.1.length:=H;have g:(PS B).drop k=((ak<|x.1.length+1).drop i).map (λi=>(b,i))++N1 B (b+1):=by have a:=DM B b;rw[zh h] at a;rw[a,e];show List.drop ((PS<|B.take b).length+i) _=_;rw[<-Sa,qi,vf (by rw[ag,ar];omega),rt]
 rw[Tq h,g,JB,KH h];rfl
theorem QQ(c:List Nat):∀b,b<=B.length->FV c B b=(PS<|B.take b).foldl (λv p=>y9 c (wP B p) v) (v0 c):=by
 intro b;induction b with
 |zero=>intro _;rfl
 |succ b I=>
  intro H;have h:=ax H;generalize B[b]'(H)=x at h;rw[NN h,kX h,ig,<-I<|ct H];generalize FV c B b=v;have:∀n,yS c x v n=((ak n).map λi=>(b,i)).foldl (λv p=>y9 c (wP B p) v) v:=λn=>by
   induction n with
   |zero=>rfl
   |succ n I=>
    rw[d6,a6,ig,<-I];show y9 c (wd x n) _=y9 c (wP B (b,n)) _;have w:wP B (b,n)=wd x n:=by unfold wP;rw[h];rfl
    rw[w]
  exact this _
theorem PT{k:Nat}(d:(PS B)[k]? =some p):ER c B p=((PS B).take k).foldl (λv p=>y9 c (wP B p) v) (v0 c):=by
 refine dn (jV.mp<|aH d) λx h H=>?_;obtain⟨b,i⟩:=p;have e:=JJ d h H;have h:B[b]? =some x:=h;have H:i<=x.1.length:=H;have g:(PS B).take k=PS (B.take b)++(ak i).map λi=>(b,i):=by have a:=DM B b;rw[zh h] at a;rw[a,e];show List.take ((PS<|B.take b).length+i) _=_;rw[List.take_length_add_append,vd (by rw[ag,ar];omega),<-kz,List.take_range,ei<|by omega]
 rw[EP h,g,ig,<-QQ c b<|a5 (af.mp h).1];generalize FV c B b=v;have y:∀n,yS c x v n=((ak n).map λi=>(b,i)).foldl (λv p=>y9 c (wP B p) v) v:=λn=>by
  induction n with
  |zero=>rfl
  |succ n I=>
   rw[d6,a6,ig,<-I];show y9 c (wd x n) _=y9 c (wP B (b,n)) _;have w:wP B (b,n)=wd x n:=by unfold wP;rw[h];rfl
   rw[w]
 exact y i
variable{ws:List W}{k:Nat}
def gS(t:Option W->Bool)(z:Option W)(q:Bool):Bool:=(q&&!KP z)||t z
theorem BV(t:Option W->Bool):((PS<|jZ ws).drop k).foldr (λp q=>(q&&!KP (wP (jZ ws) p))||t (wP (jZ ws) p)) false=((ws.map some++[none]).drop k).foldr (gS t) false:=by rw[<-JW,<-rt,R8];rfl
theorem Rg(ws:List W):lC .set (.set::ws)=[]:=rfl
theorem B9(h:Fg w .set=false)(ws:List W):lC .set (w::ws)=w::lC .set ws:=by unfold lC;rw[dF,h];cases ws.findIdx? λx=>Fg x .set<;>rfl
theorem Ny(t:Option W->Bool)(h:t none=false)(s:t (some .set)=false)(l:List W):(l.map some++[none]).foldr (gS t) false=(lC .set l).any λw=>t (some w):=by
 induction l with
 |nil=>show((false&&!KP none)||t none)=false;rw[h];rfl
 |cons w l i=>
  show((((l.map some++[none]).foldr (gS t) false)&&!KP (some w))||t (some w))=_;rw[i];cases q:Fg w .set with
  |true=>obtain rfl:=Ff.mp q;rw[Rg,s];show((_&&false)||false)=false;rw[Si];rfl
  |false=>
   rw[B9 q,kA];have:KP (some w)=false:=by cases w<;>first|rfl|exact ae q
   rw[this];show((_&&true)||_)=_;rw[kE,Bool.or_comm]
theorem qk(h:k<=ws.length):(ws.map some++[none]).drop k=(ws.drop k).map some++[none]:=by rw[vf (by rw[ag];exact h),rt]
theorem Sr(h:k<ws.length)(H:(PS<|jZ ws)[k]? =some p):FP (jZ ws) (Gu<|jZ ws) p=iW .use (jJ ws k):=by rw[Gl H];refine(BV TR).trans ?_;rw[qk<|a5 h,Ny TR rfl rfl];unfold iW jJ;congr 1;funext w;cases w<;>rfl
theorem Gs(h:k<ws.length)(H:(PS<|jZ ws)[k]? =some p):FP (jZ ws) (Gd<|jZ ws) p=rT ws k:=by rw[Gl H];refine(BV V5).trans ?_;rw[qk<|a5 h,Ny V5 rfl rfl];unfold rT jJ;congr 1
noncomputable def Sw(q:Bool):W->Bool
 |.set=>true
 |.drop=>false
 |_=>q
def Uu(v:List Nat)(q:Bool):Bool:=N3 v==q&&(v.head? ==some 0)==q
theorem PQ:ey.all (λc=>(ly c.length).all λv=>[true,false].all λq=>W7.all λw=>!Uu v q||Uu (y9 c (some w) v) (Sw q w))=true:=by decide+kernel
theorem KW(H:c∈ey)(V:v∈ly c.length)(h:Uu v q=true)(w:W):Uu (y9 c (some w) v) (Sw q w)=true:=by have:=aZ.mp (aZ.mp (aZ.mp (aZ.mp PQ c H) v V) q<|by cases q<;>simp) w<|yZ w;rw[h] at this;exact this
theorem KX(C:c∈ey)(l:List W):∀(v:List Nat)(q:Bool),v∈ly c.length->Uu v q=true->Uu (l.foldl (λv w=>y9 c (some w) v) v) (l.foldl Sw q)=true:=by
 induction l with
 |nil=>intro v q H h;exact h
 |cons w l i=>intro v q H h;exact i _ _ (Fm C H)<|KW C H h w
theorem X7:ey.all (λc=>Uu (v0 c) false)=true:=by decide+kernel
theorem Hl(h:k<=ws.length):(ws.map some++[none]).take k=(ws.take k).map some:=by rw[vd (by rw[ag];exact h),kz]
theorem Ya(h:c∈ey)(H:k<ws.length)(a:(PS<|jZ ws)[k]? =some p):N3 (ER c (jZ ws) p)=(ws.take k).foldl Sw false:=by
 rw[PT a];have e:((PS<|jZ ws).take k).foldl (λv p=>y9 c (wP (jZ ws) p) v) (v0 c)=(ws.take k).foldl (λv w=>y9 c (some w) v) (v0 c):=by have:=R9 (f:=wP<|jZ ws) (g:=λv z=>y9 c z v) (l:=(PS<|jZ ws).take k) (init:=v0 c);rw[<-this,kz,JW,Hl<|a5 H,R9]
 rw[e];have:=KX h (ws.take k) (v0 c) false Dh<|aZ.mp X7 c h;exact beq_iff_eq.mp (bK.mp this).1
def gr(r:List W):Bool:=match iW .set r with
 |true=>iW .drop<|lC .set r
 |false=>true
theorem QM(w:W)(r:List W):gr (w::r)=!Sw (!gr r) w:=by
 cases q:Fg w .set with
 |true=>obtain rfl:=Ff.mp q;rfl
 |false=>
  unfold gr;have e:iW .set (w::r)=iW .set r:=by unfold iW;rw[kA,q,Bool.false_or]
  rw[e,B9 q];cases iW .set r with
  |true=>show(Fg w .drop||iW .drop (lC .set r))=!Sw (!iW .drop (lC .set r)) w;cases w<;>first|exact ae q|(cases iW .drop (lC .set r)<;>rfl)
  |false=>cases w<;>first|exact ae q|rfl
theorem Vf(l:List W):l.foldl Sw false=!gr l.reverse:=by
 have:∀r:List W,r.foldr (λw q=>Sw q w) false=!gr r:=λr=>by
  induction r with
  |nil=>rfl
  |cons w r i=>rw[List.foldr_cons,i,QM,Bool.not_not]
 rw[<-this,List.foldr_reverse]
theorem Bj(h:c∈ey)(H:k<ws.length)(a:(PS<|jZ ws)[k]? =some p):N3 (ER c (jZ ws) p)=!gone ws k:=by rw[Ya h H a,Vf];rfl
theorem LD{i k:Nat}:i∈Ao l k↔i∈l\/i=k:=by
 unfold Ao;by_cases h:k∈l
 ·rw[if_pos h];exact⟨.inl,λq=>q.elim id λe=>e▸h⟩
 ·rw[if_neg h,b4,aD]
theorem UK{S:Nat->List Nat}:∀(s:List Nat),i∈N2 S s k r↔i∈S r\/(i=k/\r∈s):=by
 intro s;induction s generalizing S with
 |nil=>exact⟨.inl,λh=>h.elim id λh=>absurd h.2 aJ⟩
 |cons a s I=>
  show i∈N2 (OJ S a k) s k r↔_;rw[I,aQ];by_cases q:r=a
  ·subst q;rw[y0,LD];constructor
   ·rintro((h|h)|h)
    ·exact .inl h
    ·exact .inr ⟨h,.inl rfl⟩
    ·exact .inr ⟨h.1,.inr h.2⟩
   ·rintro(h|⟨h,_⟩)
    ·exact .inl<|.inl h
    ·exact .inl<|.inr h
  ·rw[sR q];constructor
   ·rintro(h|h)
    ·exact .inl h
    ·exact .inr ⟨h.1,.inr h.2⟩
   ·rintro(h|⟨h,e|H⟩)
    ·exact .inl h
    ·exact absurd e q
    ·exact .inr ⟨h,H⟩
def iM(c:List Nat)(B:List dB)(p:Nat×Nat)(r:Nat):Prop:=(FP B (Gu B) p=true/\r∈[1,2,3,4,5])\/((FP B (Gd B) p&&N3 (ER c B p))=true/\r∈[1,3])
theorem LB{S:Nat->List Nat}:i∈oz c B S k p r↔i∈S r\/(i=k/\iM c B p r):=by
 unfold oz iM;cases h1:FP B (Gu B) p<;>cases h2:(FP B (Gd B) p&&N3 (ER c B p))<;>simp only[if_true,if_false,UK,dc,false_and,true_and,false_or,or_false,and_false]<;>try trivial
 rw[or_assoc,<-and_or_left]
theorem Qi(n:Nat):n<=(PS B).length->(i∈uX c B n r↔i<n/\∃p,(PS B)[i]? =some p/\iM c B p r):=by
 induction n with
 |zero=>intro _;exact⟨λh=>absurd h aJ,λh=>absurd h.1<|fu _⟩
 |succ n I=>
  intro h;have a:=ax h;generalize (PS B)[n]'(h)=p at a;show i∈(match (PS B)[n]? with|some p=>oz c B (uX c B n) n p|none=>uX c B n) r↔_;rw[a];show i∈oz c B (uX c B n) n p r↔_;rw[LB,I<|ct h];constructor
  ·rintro(⟨d,H⟩|⟨rfl,H⟩)
   ·exact⟨dX d,H⟩
   ·exact⟨cp _,p,a,H⟩
  ·rintro⟨d,u,H,e⟩;by_cases q:i=n
   ·subst q;rw[a] at H;obtain rfl:=aa H;exact .inr ⟨rfl,e⟩
   ·exact .inl ⟨WG d q,u,H,e⟩
theorem H9(C:c∈ey)(H:k<ws.length):(ak 6).filter (λr=>decide<|k∈uX c (jZ ws) (PS<|jZ ws).length r)=mw ws k:=by
 have a:=Sx ws H;have l:k<(PS<|jZ ws).length:=by rw[DH];exact WE H
 have e:∀r,k∈uX c (jZ ws) (PS<|jZ ws).length r↔(iW .use (jJ ws k)=true/\r∈[1,2,3,4,5])\/((rT ws k&&!gone ws k)=true/\r∈[1,3]):=λr=>by
  rw[Qi _<|aF _];constructor
  ·rintro⟨_,p,d,g⟩;unfold iM at g;rwa[Sr H d,Gs H d,Bj C H d] at g
  ·intro h;refine⟨l,_,a,?_⟩;unfold iM;rwa[Sr H a,Gs H a,Bj C H a]
 generalize j:(rT ws k&&!gone ws k)=D at e;have i:(ak 6).filter (λr=>decide<|k∈uX c (jZ ws) (PS<|jZ ws).length r)=(ak 6).filter λr=>(iW .use (jJ ws k)&&[1,2,3,4,5].contains r)||(D&&[1,3].contains r):=by congr 1;funext r;rw[g8,decide_eq_true_eq,e,g7,dr,dr,fP,fP]
 rw[i];unfold mw;rw[j];cases iW .use (jJ ws k)<;>cases D<;>rfl
end
noncomputable def aS(j:Nat):Nat:=if j=0 then 0 else 2+2*j
def aB(j:Nat):Nat:=aS j+1
theorem acj:aS j=0\/(1<=j/\aS j=2+2*j):=by
 unfold aS;by_cases h:j=0
 ·rw[if_pos h];exact .inl rfl
 ·rw[if_neg h];exact .inr ⟨sL h,rfl⟩
theorem QL(h:a<4+2*n)(H:¬a<2)(b:a≠2)(c:a≠3):∃j,j<n+1/\(a=aS j\/a=aB j):=⟨(a-2)/2,by omega,by unfold aB aS;rw[if_neg<|by omega];omega⟩
theorem qp(j:Nat):aS j≠2/\aS j≠3/\aB j≠2/\aB j≠3:=by
 unfold aB;rcases acj with e|⟨h,e⟩
 ·rw[e];decide
 ·have:=e▸aV (fE 2 h) 2;exact I9 (cv<|aY (by decide) this) (cv this) (cv<|dX<|aY (by decide) this)<|cv<|dX this
theorem Tj(j:Nat):aB j<4+2*j:=by
 unfold aB;rcases acj with e|⟨h,e⟩
 ·rw[e];exact aY (by decide)<|a4 4 _
 ·rw[e,sO];exact Nat.add_lt_add_right (by decide) _
def ym(n:Nat):List SV:=(ak n).map λj=>SV.h<|aB j
def nB.T1(st:List SO)(s:List dB×List W):Prop:=∀(j:Nat)(x:dB),(Bo s)[j]? =some x->st[aS j]? =some (.list<|x.1.map qB)/\st[aB j]? =some (.list [.h<|aS j,Dp j x.2])
structure nB(st:List SO)(s:List dB×List W)(sp:List (Nat×Nat)):Prop where
 len:st.length=4+2*s.1.length
 hb:st[2]? =some (.list (ym (s.1.length+1)))
 hs:st[3]? =some (.list (sp.map a7))
 at_:nB.T1 st s
theorem DC{xs:List a}(h:xs.length=n+1):rO xs (-1)=xs[n]?:=by unfold rO;rw[ju (show decide ((-1:Int).natAbs<=dI)=true by decide)];show(if(0:Int)<= -1 then xs[(-1:Int).toNat]? else if -(xs.length:Int)<= -1 then xs[(-1+(xs.length:Int)).toNat]? else none)=_;rw[if_neg (by decide),if_pos<|Int.neg_le_neg (by rw[h];exact fG.mpr<|eR 1 n),h,Int.add_comm,show((n+1:Nat):Int)+ -1=n from Int.add_neg_cancel_right n 1];rfl
def qT(ws:List W)(q3 q4:OS)(st:List SO):ba:=⟨[.val<|.lst<|ws.map wS,.val<|.h 2,.val<|.h 3,hJ q3,hJ q4,.un,.un,.un,.un,.un],st⟩
theorem l9(s:List dB×List W):(Bo s)[s.1.length]? =some (s.2,none):=by unfold Bo;rw[az<|aF _,bt];rfl
section
variable{C:bH}{ws:List W}{q3 q4:OS}{st:List SO}{s:List dB×List W}{sp:List (Nat×Nat)}
theorem zJ:(ym n).length=n:=by unfold ym;rw[ag,ar]
theorem Gp(H:nB st s sp):bX C MM (.sub bz<|.neg<|.int 1) (qT ws q3 q4 st)=some (.h<|aB s.1.length,qT ws q3 q4 st):=by refine bF rfl rfl<|ox H.hb ?_;rw[DC zJ];unfold ym;rw[ai,bx<|cp _];rfl
theorem Gn(H:nB st s sp):bX C MM (cy (.sub bz<|.neg<|.int 1) 0) (qT ws q3 q4 st)=some (.h<|aS s.1.length,qT ws q3 q4 st):=
 bF (Gp H) rfl (ox (H.at_ _ _<|l9 s).2 rfl)
theorem M0(H:nB st s sp)(h:s.1.length<=100):bX C MM (jm bz) (qT ws q3 q4 st)=some (.int (s.1.length+1:Nat),qT ws q3 q4 st):=by have:=fL (C:=C) (M:=MM) (e:=bz) (σ:=qT ws q3 q4 st) rfl (by show st[2]?.bind ft=_;rw[H.hb];rfl) (by rw[zJ];show _<=4000;exact aas h);rwa[zJ] at this
theorem Ur(H:nB st s sp)(L:s.1.length<=100)(l:s.2.length<=100)(p:sp.length<=100):∃t,nB t s (sp++[uJ s])/\ji C MM (.expr<|.bj cU 0 [.tup [.bin .sub (jm bz)<|.int 1,jm<|cy (.sub bz<|.neg<|.int 1) 0]]) (qT ws q3 q4 st)=some (.next,qT ws q3 q4 t):=by
 let K:List SO->ba:=qT ws q3 q4;have c:=(H.at_ _ _<|l9 s).1;have f:bX C MM (jm<|cy (.sub bz<|.neg<|.int 1) 0) (K st)=some (.int (s.2.length:Nat),K st):=by have:=fL (C:=C) (M:=MM) (xs:=s.2.map qB) (Gn (C:=C) (ws:=ws) (q3:=q3) (q4:=q4) H) (by show st[aS s.1.length]?.bind ft=_;rw[c];rfl) (by rw[ag];show _<=4000;exact WD l);rwa[ag] at this
 have d:bX C MM (.bin .sub (jm bz)<|.int 1) (K st)=some (.int (s.1.length:Nat),K st):=by refine gm (M0 H L) rfl ?_;show some (SV.int<|((s.1.length+1:Nat):Int)-1)=_;congr 2;exact Int.sub_eq_iff_eq_add.mpr rfl
 have g:ji C MM (.expr<|.bj cU 0 [.tup [.bin .sub (jm bz)<|.int 1,jm<|cy (.sub bz<|.neg<|.int 1) 0]]) (K st)=some (.next,K<|st.set 3<|.list<|sp.map a7++[a7<|uJ s]):=by
  refine Us<|hM (x:=.h 3) (vs:=[a7<|uJ s]) rfl ?_ ?_ (d4<|oU d f)<|yi (k:=3) H.hs (by rw[ag];show _<=4000;exact WD p)
  ·show st[3]?.bind jT=none;rw[H.hs];rfl
  ·show(st[3]?.bind ft).isSome=true;rw[H.hs];rfl
 have N:∀j,aS j≠3/\aB j≠3:=λj=>⟨(qp j).2.1,(qp j).2.2.2⟩;refine⟨_,⟨by rw[eO];exact H.len,cf H.hb (by exact of_decide_eq_true<|id<|cN true),?_,λj x h=>?_⟩,g⟩
 ·rw[a6];exact m4 H.hs
 ·refine i9 (H.at_ j x h) λa b=>?_;exact⟨cf a (N j).1.symm,cf b (N j).2.symm⟩
def Jb:SV:=.tup [tS "panic",tS "end"]
theorem EM(h:aS i=aS j):i=j:=by unfold aS at h;split at h<;>split at h<;>omega
theorem WQ:aS i≠aB j:=by unfold aB aS;split<;>split<;>omega
theorem Wg(s:List dB×List W)(h:j<s.1.length):(s.1++[(l,O)])[j]? =(Bo s)[j]?:=by unfold Bo;rw[aK h,aK h]
theorem Wj(H:nB st s sp)(f:we w=false):nB (st.set (aS s.1.length)<|.list<|s.2.map qB++[qB w]) (w6 s w) sp:=by
 have c:=(H.at_ _ _<|l9 s).1;have d:=(H.at_ _ _<|l9 s).2;have e:w6 s w=(s.1,s.2++[w]):=by unfold w6;rw[f]
 have n:∀j,aS j≠2/\aS j≠3:=λj=>⟨(qp j).1,(qp j).2.1⟩;rw[e];refine⟨by rw[eO];exact H.len,cf H.hb (n _).1,cf H.hs (n _).2,λj x h=>?_⟩;by_cases q:j<s.1.length
 ·have h:(s.1++[(s.2++[w],none)])[j]? =some x:=h;rw[Wg s q] at h;refine i9 (H.at_ j x h) λa b=>⟨cf a λe=>absurd (EM e)<|aar q,cf b WQ⟩
 ·have h:(s.1++[(s.2++[w],none)])[j]? =some x:=h;have J:=(af.mp h).1;rw[aj] at J;obtain rfl:j=s.1.length:=by have:=J;exact aau q this
  rw[az<|aF _,bt] at h;obtain rfl:=aa h;refine⟨?_,cf d WQ⟩;show _=some (SO.list<|(s.2++[w]).map qB);rw[a6];exact m4 c
theorem Wl(H:nB st s sp)(m:we w=true):nB (R7 ((st.set (aB s.1.length)<|.list [.h<|aS s.1.length,Dp s.1.length<|some w])++([.list [],.list [.h st.length,Jb]]:List SO)) 2<|SO.list<|ym (s.1.length+1)++[SV.h<|st.length+1]) (w6 s w) sp:=by
 have i:=(H.at_ _ _<|l9 s).1;have k:=(H.at_ _ _<|l9 s).2;have e:w6 s w=(s.1++[(s.2,some w)],[]):=by unfold w6;rw[m]
 have n:=qp;have d:=H.len;let c:List SO:=st.set (aB s.1.length)<|.list [.h<|aS s.1.length,Dp s.1.length<|some w];have L:c.length=st.length:=eO;have p:∀{a:Nat}{o:SO}{l:List SO},c[a]? =some o->(c++l)[a]? =some o:=λ{a o l} h=>by rw[aK<|gU h];exact h
 have N:aS (s.1.length+1)=st.length:=by unfold aS;rw[if_neg<|by omega];omega
 have B:aB (s.1.length+1)=st.length+1:=by unfold aB;rw[N]
 have g:(c++[.list [],.list [.h st.length,Jb]])[st.length]? =some (.list []):=by rw[az<|dK L,L,bt];rfl
 have G:(c++[.list [],.list [.h st.length,Jb]])[st.length+1]? =some (.list [.h st.length,Jb]):=by rw[az<|ab2 d L,L,show st.length+1-st.length=1 by exact WC];rfl
 rw[e];refine⟨?_,?_,cf (p<|cf H.hs (n _).2.2.2)<|of_decide_eq_true<|id<|cN true,λj x h=>?_⟩
 ·show(R7 (c++[SO.list [],.list [.h st.length,Jb]]) 2 _).length=4+2*(s.1++[(s.2,some w)]).length;rw[eO,aj,aj,L,d];show 4+2*s.1.length+2=4+2*(s.1.length+1);omega
 ·have f:ym ((s.1++[(s.2,some w)]).length+1)=ym (s.1.length+1)++[.h<|st.length+1]:=by
   rw[aj]
   unfold ym
   rw[d6,a6]
   show _++[SV.h<|aB<|s.1.length+1]=_
   rw[B];rfl
  show _=some (SO.list<|ym<|(s.1++[(s.2,some w)]).length+1)
  rw[f]
  exact m4<|p<|cf H.hb (n _).2.2.1
 ·have h:((s.1++[(s.2,some w)])++[([],none)])[j]? =some x:=h;have J:=(af.mp h).1;rw[aj,aj] at J;have J:=J;by_cases q:j<s.1.length
  ·rw[aM,aK q] at h;obtain⟨a,b⟩:=H.at_ j x (by unfold Bo;rw[aK q];exact h);exact⟨cf (p<|cf a WQ.symm) (n j).1.symm,cf (p<|cf b λe=>absurd (EM<|jf e)<|aar q) (n j).2.2.1.symm⟩
  ·by_cases Q:j=s.1.length
   ·subst Q;rw[aM,az<|aF _,bt] at h;obtain rfl:=aa h;exact⟨cf (p<|cf i WQ.symm) (n _).1.symm,cf (p<|m4 k) (n _).2.2.1.symm⟩
   ·obtain rfl:j=s.1.length+1:=cX (aP J)<|gZ (ku q)<|ff Q;rw[az (by rw[aj];exact aF _),aj] at h;have h:[(([],none):dB)][s.1.length+1-(s.1.length+1)]? =some x:=h;rw[bt] at h;obtain rfl:=aa h;rw[N,B];exact⟨cf g<|ab1 d,cf G<|ab0 d⟩
end
section
def Li:E:=.list true [.list true [],.tup [.str<|sr 45,.str<|sr 46]]
noncomputable def GJ(e:E):S:=.expr<|.bj (cy (.sub bz<|.neg<|.int 1) 0) 0 [e]
def X4:E:=.tup [.str<|sr 24,.tup [.int 1,.tup []],.tup [.str<|sr 19,.tup [.str<|sr 30,dy 701 [],.int 0]]]
def XO:E:=.tup [.str<|sr 25,.tup [.str<|sr 47,.tup [.int 1,.tup [.tup [.str<|sr 16,.int 1],.tup [.str<|sr 16,.int 0],.tup [.str<|sr 17]]]]]
def X8:E:=.tup [.str<|sr 48]
def S8:E:=.ite (gG dm<|.str<|sr 13) (.tup [])<|.tup [.tup [.str<|sr 16,.bi .int [.i6 dm<|.neg<|.int 1]]]
def BL:S:=.ifs (gG (.i5 dm<|.int 4)<|.str<|sr 13) [et 4 S8,.asg (.ix (.sub bz<|.neg<|.int 1)<|.int 1)<|.tup [.str<|sr 13,.tup [.int 1,eA],jm bz],.expr<|.bj bz 0 [Li]] [.ifs (gG dm<|.str<|sr 40) [GJ X4] [.ifs (gG dm<|.str<|sr 19) [GJ XO] [GJ X8]]]
variable{d:Nat}{ws:List W}{q3 q4:OS}{st:List SO}{s:List dB×List W}{sp:List (Nat×Nat)}
theorem WL(H:nB st s sp)(c:s.2.length<=100)(a:bX C MM e (qT ws q3 q4 st)=some (qB w,qT ws q3 q4 st)):cG C MM [GJ e] (qT ws q3 q4 st)=some (.next,qT ws q3 q4<|st.set (aS s.1.length)<|.list<|s.2.map qB++[qB w]):=by
 have h:=(H.at_ _ _<|l9 s).1;refine aW (Us<|hM (Gn H) ?_ ?_ (d4 a)<|yi (xs:=s.2.map qB) h (by rw[ag];show _<=4000;exact WD c)) rfl
 ·show st[aS s.1.length]?.bind jT=none;rw[h];rfl
 ·show(st[aS s.1.length]?.bind ft).isSome=true;rw[h];rfl
theorem X5(H:nB st s sp)(h:s.2.length<=100)(a:we w=false):ji (EV<|d+2) MM BL (qT ws (some<|wS w) q4 st)=some (.next,qT ws (some<|wS w) q4<|st.set (aS s.1.length)<|.list<|s.2.map qB++[qB w]):=by
 have h1:=Eu 3 w (EV<|d+2) (qT ws (some<|wS w) q4 st) rfl;rw[a] at h1;refine uK h1 ?_;cases w with
 |set=>exact aW (Aw (by kernel_rfl)<|WL H h<|by kernel_rfl) rfl
 |use=>exact aW (uK (aC:=qT ws (some<|wS .use) q4 st) (by kernel_rfl)<|aW (Aw (by kernel_rfl)<|WL H h<|rfl) rfl) rfl
 |rest=>exact aW (uK (aC:=qT ws (some<|wS .rest) q4 st) (by kernel_rfl)<|aW (uK (by kernel_rfl)<|WL H h<|rfl) rfl) rfl
 |_=>exact ae a
theorem X6(H:nB st s sp)(hl:s.1.length<=100)(hw:we w=true):∃q4',ji (EV<|d+2) MM BL (qT ws (some<|wS w) q4 st)=some (.next,qT ws (some<|wS w) q4'<|R7 ((st.set (aB s.1.length)<|.list [.h<|aS s.1.length,Dp s.1.length<|some w])++([.list [],.list [.h st.length,Jb]]:List SO)) 2<|SO.list<|ym (s.1.length+1)++[SV.h<|st.length+1]):=by
 have h1:=Eu 3 w (EV<|d+2) (qT ws (some<|wS w) q4 st) rfl;rw[hw] at h1;have h2:=(H.at_ _ _<|l9 s).2;let K:OS->List SO->ba:=qT ws<|some<|wS w;let s1:List SO:=st.set (aB s.1.length)<|.list [.h<|aS s.1.length,Dp s.1.length<|some w];let s2:List SO:=s1++[.list [],.list [.h st.length,Jb]];have l1:s1.length=st.length:=eO;have e1:bX (EV<|d+2) MM S8 (K q4 st)=some (mf w,K q4 st):=by cases w<;>first|exact ae hw|kernel_rfl
 have e2:ji (EV<|d+2) MM (.asg (.ix (.sub bz<|.neg<|.int 1)<|.int 1)<|.tup [.str<|sr 13,.tup [.int 1,eA],jm bz]) (K (some<|mf w) st)=some (.next,K (some<|mf w) s1):=
  rQ (V4 rfl (oU rfl rfl)<|M0 H hl) (Gp H) rfl (pw h2 (by show 1<2;decide)<|by decide)
 have n2:aB s.1.length≠2:=(qp _).2.2.1;have hb1:s1[2]? =some (.list<|ym<|s.1.length+1):=cf H.hb n2;have hb2:s2[2]? =some (.list<|ym<|s.1.length+1):=by rw[aK<|gU hb1];exact hb1
 have e3:gp (EV<|d+2) MM [Li] (K (some<|mf w) s1)=some ([.h<|st.length+1],K (some<|mf w) s2):=by show some ([SV.h (s1++[SO.list []]).length],ba.mk (K (some<|mf w) s1).loc<|(s1++[SO.list []])++[SO.list [.h s1.length,Jb]])=_;rw[aj,aM,l1];rfl
 have e4:ji (EV<|d+2) MM (.expr<|.bj bz 0 [Li]) (K (some<|mf w) s1)=some (.next,K (some<|mf w)<|s2.set 2<|.list<|ym (s.1.length+1)++[.h<|st.length+1]):=by
  refine Us<|hM rfl ?_ ?_ e3<|yi hb2 (by rw[zJ];show _<=4000;exact aas hl)
  ·show s1[2]?.bind jT=none;rw[hb1];rfl
  ·show(s1[2]?.bind ft).isSome=true;rw[hb1];rfl
 refine⟨some<|mf w,Aw h1<|aW (bC e1<|by cases q4<;>rfl)<|aW e2<|aW e4 rfl⟩
theorem afI(h:gd b x=some y):b=true/\x=y:=by
 cases b with
 |true=>exact⟨rfl,aa h⟩
 |false=>exact aR h
def To(st t:List SO):Prop:=t.length=st.length/\∀(a:Nat),t[a]? =st[a]?\/t[a]? =some .gone
theorem BF(st:List SO):To st st:=⟨rfl,λz=>.inl rfl⟩
theorem pE(h:To a b)(k:To b c):To a c:=⟨k.1.trans h.1,λi=>by
 rcases k.2 i with e|e
 ·rw[e];exact h.2 i
 ·exact .inr e⟩
theorem zB{st:List SO}:To st (st.set k .gone):=⟨eO,λi=>by
 rw[tN];split
 ·split
  ·exact .inr rfl
  ·next h=>exact .inl (by rw[fO<|by omega])
 ·exact .inl rfl⟩
def WT(n:Nat):Prop:=∀{v:SV}{st:List SO}{r:SV×List SO},freeze n v st=some r->To st r.2
def GN(n:Nat):Prop:=∀{v:List SV}{st:List SO}{r:List SV×List SO},bP n v st=some r->To st r.2
theorem Qy(i:GN n):WT (n+1):=λh=>Gk h
 (λz z z z h=>cR h λq f e=>e▸pE zB (i f)) (λz z z z z h=>cR h λq f e=>e▸pE zB (i f)) (λz z z z z z h=>cR h λq f e=>e▸pE zB (i f))
 (λz z h=>cR h λq f e=>e▸i f) λz e=>e▸BF _
theorem LY(i:WT n)(I:GN n):GN (n+1):=λh=>BU h (λz e=>e▸BF _) (λz z z q z H a e=>by subst e;exact pE (i H)<|I (r:=q) a)
theorem UW(n:Nat):WT n/\GN n:=by
 induction n with
 |zero=>exact⟨λh=>aR h,λh=>aR h⟩
 |succ n i=>exact⟨Qy i.2,LY i.1 i.2⟩
theorem Mw(n:Nat)(v:SV)(st:List SO)(w:SV)(t:List SO)(h:freeze n v st=some (w,t)):To st t:=(UW n).1 h
theorem Ik(X:Nat->dB):∀(m k n:Nat)(st:List SO),(∀j,k<=j->j<k+m->st[aS j]? =some (.list<|(X j).1.map qB)/\st[aB j]? =some (.list [.h<|aS j,Dp j (X j).2]))->m+5<n->∃t,(∀(a:Nat),(∀j,aS j≠a/\aB j≠a)->t[a]? =st[a]?)/\bP n ((en k m).map λj=>SV.h<|aB j) st=some ((en k m).map λj=>t9 j<|X j,t):=λm=>by
 induction m with
 |zero=>
  intro k n st h H;cases n with
  |zero=>exact absurd H<|fu _
  |succ n=>exact⟨st,λz z=>rfl,rfl⟩
 |succ m I=>
  intro k n st h H;obtain⟨n,rfl⟩:∃q,n=q+6:=⟨n-6,(sJ<|ah (show 6<=m+1+5 from eR ..)<|a5 H).symm⟩;obtain⟨r,v⟩:=h k (aF _)<|aaq;have f:∀w,(qB w).free=true:=λw=>by cases w<;>rfl
  have M:(Dp k (X k).2).free=true:=by rcases(X k).2 with _|w;rfl;cases w<;>rfl
  have i:freeze (n+3) (.h<|aS k) (st.set (aB k) .gone)=some (.lst<|(X k).1.map qB,(st.set (aB k) .gone).set (aS k) .gone):=by show((st.set (aB k) SO.gone)[aS k]?.bind _)=_;rw[cf r WQ.symm];show(bP (n+2) ((X k).1.map qB) _).map _=_;rw[oP<|dU f _];rfl
  have l:freeze (n+5) (.h<|aB k) st=some (t9 k<|X k,(st.set (aB k) .gone).set (aS k) .gone):=by show(st[aB k]?.bind _)=_;rw[v];show(bP (n+4) [SV.h<|aS k,Dp k (X k).2] _).map _=_;rw[fR rfl i<|oP (by show((Dp k (X k).2).free&&true)=true;rw[M];rfl)];rfl
  obtain⟨t,g,e⟩:=I (k+1) (n+5) ((st.set (aB k) .gone).set (aS k) .gone) (λj c J=>by
   obtain⟨a,b⟩:=h j (a5 c)<|aap J;have N:aS k≠aS j:=λe=>by have:=EM e;exact abZ c this
   exact⟨cf (cf a WQ.symm) N,cf (cf b λe=>N<|jf e) WQ⟩)<|aP H
  exact⟨t,λa A=>by rw[g a A,bJ (A k).1,bJ (A k).2],fR rfl l e⟩
end
section
variable{d:Nat}{ws:List W}{q3 q4:OS}{st:List SO}{s:List dB×List W}{sp:List (Nat×Nat)}
noncomputable def Kd:S:=.expr<|.bj cU 0 [.tup [.bin .sub (jm bz)<|.int 1,jm<|cy (.sub bz<|.neg<|.int 1) 0]]
theorem Pg(ws:List W)(i:Nat):(mE<|ws.take i).1.length+(mE<|ws.take i).2.length<=ws.length:=by have:=(Mp<|ws.take i).len;rw[bZ] at this;exact abY this
theorem Qo(h:ws.length<=30):∃q3 q4 st,nB st (mE ws) (Fp ws)/\cz (λx τ=>(cS CB x τ).bind λτ=>cG (EV<|d+2) MM [Kd,BL] τ) (ws.map wS) (qT ws none none [.list [],.list [.h 0,Jb],.list [.h 1],.list []])=some (.next,qT ws q3 q4 st):=by
 let P:Nat->ba->Prop:=λi τ=>∃q3 q4 st,τ=qT ws q3 q4 st/\nB st (mE<|ws.take i) ((ak i).map λj=>uJ<|mE<|ws.take j);have p:nB [.list [],.list [.h 0,Jb],.list [.h 1],.list []] (mE<|ws.take 0) ((ak 0).map λj=>uJ<|mE<|ws.take j):=⟨rfl,rfl,rfl,λj x n=>by
  cases j with
  |zero=>obtain rfl:=aa (show some (([],none):dB)=some x from n);exact⟨rfl,rfl⟩
  |succ j=>exact aR n⟩
 obtain⟨τ,e,q3,q4,st,rfl,H⟩:=oH (f:=λx τ=>(cS CB x τ).bind λτ=>cG (EV<|d+2) MM [Kd,BL] τ) P ws (qT ws none none [.list [],.list [.h 0,Jb],.list [.h 1],.list []]) ⟨none,none,_,rfl,p⟩ λi w m τ r=>by
  refine rF r λq3 q4 st z H=>?_;subst z;have I:=(af.mp m).1;have l:=Pg ws i;obtain⟨v,a,g⟩:=Ur (C:=EV<|d+2) (ws:=ws) (q3:=some<|wS w) (q4:=q4) H (aao h l) (aan h l) (by rw[ag,ar];omega);have t:mE (ws.take<|i+1)=w6 (mE<|ws.take i) w:=by rw[pf m,oA]
  have k:(ak<|i+1).map (λj=>uJ<|mE<|ws.take j)=(ak i).map (λj=>uJ<|mE<|ws.take j)++[uJ<|mE<|ws.take i]:=by rw[d6,a6];rfl
  have p1:cS CB (wS w) (qT ws q3 q4 st)=some (qT ws (some<|wS w) q4 st):=by cases q3<;>rfl
  cases hd:we w with
  |true=>refine eS (X6 (d:=d) (ws:=ws) (q4:=q4) a (aao h l) hd) λQ c=>⟨_,aN p1<|aW g<|aW c rfl,some<|wS w,Q,_,rfl,by rw[t,k];exact Wl a hd⟩
  |false=>have c:=X5 (d:=d) (ws:=ws) (q4:=q4) a (aan h l) hd;exact⟨_,aN p1<|aW g<|aW c rfl,some<|wS w,q4,_,rfl,by rw[t,k];exact Wj a hd⟩
 rw[cH] at H;exact NZ q3 q4 st H e
theorem FC(h:gq a A 0=none)(H:a<gT):rR (c,A,vs) a v=some (.inst c (A++[a])<|vs++[v]):=by show(match gq a A 0 with|some j=>_|none=>_)=_;rw[h];exact ju<|decide_eq_true H
theorem at1{A:List Nat}{vs:List SV}{lo:List LV}(H:gq a A 0=none)(b:a<gT):yT (.h st.length) a v ⟨lo,st++[.inst c A vs]⟩=some ⟨lo,st++[.inst c (A++[a])<|vs++[v]]⟩:=by
 refine aN rfl<|aN (a:=(c,A,vs)) ?_<|gy (FC H b) ?_
 ·rw[Cn];rfl
 ·show ba.mk lo ((st++[_]).set st.length _)=_;rw[KN]
theorem at2{A:List Nat}{vs:List SV}{y:SO}{lo:List LV}(H:gq a A 0=none)(b:a<gT):yT (.h st.length) a v ⟨lo,st++[.inst c A vs,y]⟩=some ⟨lo,st++[.inst c (A++[a])<|vs++[v],y]⟩:=by
 refine aN rfl<|aN (a:=(c,A,vs)) ?_<|gy (FC H b) ?_
 ·rw[Co];rfl
 ·show ba.mk lo ((st++[_,_]).set st.length _)=_;rw[KO]
theorem pt1{A:List Nat}{vs:List SV}{lo:List LV}{C:bH}(H:gq a A 0=none)(b:a<gT):zq C MM (.at bO a) v ⟨.val (.h st.length)::lo,st++[.inst c A vs]⟩=some ⟨.val (.h st.length)::lo,st++[.inst c (A++[a])<|vs++[v]]⟩:=at1 H b
theorem pt2{A:List Nat}{vs:List SV}{y:SO}{lo:List LV}{C:bH}(H:gq a A 0=none)(b:a<gT):zq C MM (.at bO a) v ⟨.val (.h st.length)::lo,st++[.inst c A vs,y]⟩=some ⟨.val (.h st.length)::lo,st++[.inst c (A++[a])<|vs++[v],y]⟩:=at2 H b
def xC:List SV:=[.tup [.tup [tS "tuple",.tup []],.bool true,.none],.tup [TY,.bool true,tS "t"]]
def afn(k n:Nat)(s:List SO):ba:=⟨[.val<|.h k,.val<|tS "f",.val<|.int 0,.val<|.h n,.val<|.h 2,.val<|.fW [] [],.un],s⟩
theorem Ri:prog.cls 174=some ⟨128,.freeze⟩:=by kernel_rfl
theorem VS:prog.fns 174=none:=by kernel_rfl
theorem VV:prog.fns 128=some Q0:=by kernel_rfl
theorem Qe(H:st[n]? =some (.list xC)):l5 (EV d) MM 174 Q0 [tS "f",.int 0,.h n,.h 2,.fW [] []] st=some (st++[.inst 174 [6,7,8,9,10] [tS "f",.int 0,.h<|st.length+1,.h 2,.fW [] []],.list xC]):=by
 let I:List Nat->List SV->SO:=λA v=>.inst 174 A v;let G:List SO->ba:=afn st.length n;have l:=gU H;have e:bX (EV d) MM (.bi .list [dm]) (G<|st++[I [6,7] [tS "f",.int 0]])=some (.h<|st.length+1,G<|st++[I [6,7] [tS "f",.int 0],.list xC]):=by
  refine sf (d4 rfl)<|aN (a:=xC) ?_ ?_
  ·show(st++_)[n]?.bind ft=_;rw[aK l,H];rfl
  ·show some (SV.h (st++[I [6,7] [tS "f",.int 0]]).length,ba.mk _<|(st++[I [6,7] [tS "f",.int 0]])++[SO.list xC])=_;rw[aj,aM];rfl
 have OL:cG (EV d) MM Q0.body (G<|st++[I [] []])=some (.next,G<|st++[I [6,7,8,9,10] [tS "f",.int 0,.h<|st.length+1,.h 2,.fW [] []],.list xC]):=
  aW (bC rfl<|pt1 rfl<|by decide) (aW (bC rfl<|pt1 rfl<|by decide)<|aW (bC e<|pt2 rfl<|by decide)<|aW (bC (S5 rfl rfl)<|pt2 rfl<|by decide)<|aW (bC (S5 rfl rfl)<|pt2 rfl<|by decide) rfl)
 exact aN (aN rfl<|gy OL rfl) rfl
noncomputable def XB(B:List dB)(j:Nat):dB:=(B[j]?).getD ([],none)
theorem JS{B:List dB}(h:j<B.length):B[j]? =some (XB B j):=by unfold XB;rw[ax h];rfl
theorem Nr(B:List dB):rg B=(en 0 B.length).map λj=>t9 j (XB B j):=by
 refine eE λj=>?_;by_cases h:j<B.length
 ·rw[Ta<|JS h,ai,E4<|h];show _=some (t9 (0+1*j)<|XB B<|0+1*j);rw[show 0+1*j=j by exact abX]
 ·rw[fO (by rw[gc];exact ar8 h),fO (by rw[ag,I5];exact ar8 h)]
theorem RA{l:List SO}(h:∀(a:Nat)(o:SO),l[a]? =some o->o.low n=true):l.all (SO.low n)=true:=aZ.mpr λo O=>by refine eS (gk O) λa H=>h a o H
theorem Wk(H:nB st s sp)(a:Nat)(o:SO)(h:st[a]? =some o)(N:4+2*s.1.length<=n):o.low n=true:=by
 have t:=gU h;rw[H.len] at t;have D:(Bo s).length=s.1.length+1:=aj;have L:∀w,(qB w).low n=true:=λw=>by cases w<;>rfl
 have M:∀j z,(Dp j z).low n=true:=λj z=>by rcases z with _|w;rfl;cases w<;>rfl
 have b:∀k,k<n->mO k n=true:=λk h=>by rw[yP];exact h
 have Y:∀j,j<s.1.length+1->(a=aS j\/a=aB j)->o.low n=true:=λj J q=>by
  obtain⟨B,c⟩:=H.at_ j _ (JS (by rw[D];exact J));rcases q with rfl|rfl
  ·rw[B] at h;rw[<-aa h];exact iU L _
  ·rw[c] at h;rw[<-aa h];have C:=aY (NT<|Tj j)<|ah (aV (fE 2<|aP J) 4) N;show(mO (aS j) n&&((Dp j (XB (Bo s) j).2).low n&&true))=true;rw[M,b _ C];rfl
 by_cases c:a=2
 ·subst c;rw[H.hb] at h;rw[<-aa h];have:∀m,m<=s.1.length+1->SV.lows n (ym m)=true:=λm=>by
   induction m with
   |zero=>intro _;rfl
   |succ m I=>
    intro p;have e:ym (m+1)=ym m++[.h<|aB m]:=by unfold ym;rw[d6,a6];rfl
    have v:∀l:List SV,SV.lows n l=true->SV.lows n (l++[.h<|aB m])=true:=λl=>by
     induction l with
     |nil=>intro _;show(mO (aB m) n&&true)=true;rw[b _<|aY (Tj m)<|ah (aV (fE 2<|aP p) 4) N];rfl
     |cons x l i=>intro G;refine i9 (bK.mp G) λA r=>?_;show(x.low n&&SV.lows n (l++[.h<|aB m]))=true;rw[A,i r];rfl
    rw[e];exact v _<|I<|a5 p
  exact this _<|aF _
 ·by_cases g:a=3
  ·subst g;rw[H.hs] at h;rw[<-aa h];exact iU (λy=>rfl) _
  ·by_cases f:a<2
   ·exact Y 0 (n5 _) (by unfold aB aS;rw[if_pos rfl];exact abW f)
   ·refine dn (QL t f c g) λj J q=>Y j J q
theorem Vk:prog.fns 715=some V0:=by kernel_rfl
theorem aeP(H:nB st s sp)(x:s.1.length<=30):∃f,f[3]? =some (.list<|sp.map a7)/\EV (d+1) (fh 174) [tS "f",.int 0,.h st.length,.h 2,.fW [] []] (st++[.list xC])=some (BD<|Bo s,f):=by
 let s0:List SO:=st++[.list xC];have L:s0.length=st.length+1:=aj;have w:=H.len;have p:∀{a:Nat}{o:SO}{l:List SO},st[a]? =some o->(st++l)[a]? =some o:=λ{a o l} h=>by rw[aK<|gU h];exact h
 have mk:=Qe (d:=d) (st:=s0) Cn;let I:SO:=.inst 174 [6,7,8,9,10] [tS "f",.int 0,.h<|s0.length+1,.h 2,.fW [] []];let m:List SO:=s0++[I,.list xC];let v:List SO:=m.set s0.length .gone;let i:List SO:=v.set (s0.length+1) .gone;have k:∀{a:Nat}{o:SO},st[a]? =some o->i[a]? =some o:=λ{a o} h=>by have:=gU h;exact cf (cf (by show((st++[SO.list xC])++[I,.list xC])[a]? =_;rw[aM];exact p h)<|cv (by rw[L];exact dX this))<|cv<|dX (by rw[L];exact dX this)
 have b:(Bo s).length=s.1.length+1:=aj;have A:∀j,aS j≠2/\aB j≠2:=λj=>⟨(qp j).1,(qp j).2.2.1⟩;obtain⟨f,D,C⟩:=Ik (XB<|Bo s) (s.1.length+1) 0 44 (i.set 2 .gone) (λj z J=>by obtain⟨B,y⟩:=H.at_ j _ (JS (by rw[b];exact abV b J));exact⟨cf (k B) (A j).1.symm,cf (k y) (A j).2.symm⟩)<|abU x b;have G:freeze 45 (.h 2) i=some (.lst<|rg<|Bo s,f):=by
  show(i[2]?.bind _)=_;rw[k H.hb];show(bP 44 (ym<|s.1.length+1)<|i.set 2 .gone).map _=_;have:ym (s.1.length+1)=(en 0<|s.1.length+1).map λj=>SV.h (aB j):=by unfold ym;rw[List.range_eq_range']
  rw[this,C,Nr,b];rfl
 have M:m[s0.length]? =some I:=Co;have N:v[s0.length+1]? =some (.list xC):=cf Ak<|bN<|cp _;have g:freeze fz (.h s0.length) m=some (BD<|Bo s,f):=
  wk M (fR rfl rfl<|fR rfl rfl<|fR rfl (by show(v[s0.length+1]?.bind _)=_;rw[N];rfl)<|fR rfl G<|oP rfl)
 refine i9 (Mw _ _ _ _ _ g) λQ O=>?_;have r:m.length=s0.length+2:=aj;have cut:jK s0.length f=some (f.take s0.length):=by
  unfold jK;rw[decide_eq_false<|Ot (by rw[Q,r];exact Nat.lt_add_of_pos_right<|by decide)];refine ju<|RA λa o h=>?_;have t:=gU h;rw[bZ] at t;have t:=aY t<|gi _ _;rw[dq t] at h;rcases O a with e|e
  ·rw[e] at h;by_cases q:a<st.length
   ·have h:((st++[SO.list xC])++[I,.list xC])[a]? =some o:=h;rw[aM,aK q] at h;exact Wk H a o h<|abT L w
   ·have n:=cX (aP<|Jy t L)<|ku q;subst n;have h:((st++[SO.list xC])++[I,.list xC])[st.length]? =some o:=h;rw[aM,az<|aF _,bt] at h;rw[<-aa h];rfl
  ·rw[e] at h;rw[<-aa h];rfl
 refine⟨f.take s0.length,?_,?_⟩
 ·rw[dq<|abS x L w b];rw[D 3 λj=>⟨(qp j).2.1,(qp j).2.2.2⟩];exact cf (k H.hs) (by decide)
 ·show(match prog.fns 174 with|some fn=>jx (EV d) MM fn [tS "f",.int 0,.h st.length,.h 2,.fW [] []] [] s0|none=>(prog.cls 174).bind λc=>(prog.fns c.init).bind λfn=>nu (EV d) MM 174 c.Lh fn [tS "f",.int 0,.h st.length,.h 2,.fW [] []] s0)=_;rw[VS];refine aN Ri<|aN VV ?_;exact aN mk<|aN g<|gy cut rfl
theorem Mv{p:List (Nat×Nat)}(H:st[3]? =some (.list<|p.map a7)):(freeze fz (.h st.length)<|st++[.list [GR b L,.h 3]]).map (·.1)=some (.lst [GR b L,.lst<|p.map a7]):=by
 have a:(st++[SO.list [GR b L,.h 3]])[st.length]? =some (.list [GR b L,.h 3]):=Cn;have A:((st++[SO.list [GR b L,.h 3]]).set st.length .gone)[3]? =some (.list<|p.map a7):=by rw[KN,aK<|gU H];exact H
 have f:bP 49 [GR b L,.h 3] ((st++[SO.list [GR b L,.h 3]]).set st.length .gone)=some ([GR b L,.lst<|p.map a7],((st++[SO.list [GR b L,.h 3]]).set st.length .gone).set 3 .gone):=by refine fR rfl uR<|fR rfl ?_<|oP rfl;show(_[3]?.bind _)=_;rw[A];show(bP 46 (p.map a7) _).map _=_;rw[oP<|dU (λz=>rfl) _];rfl
 show((st++[SO.list [GR b L,.h 3]])[st.length]?.bind _).map _=_;rw[a];show((bP 49 [GR b L,.h 3] _).map _).map _=_;rw[f];rfl
def XP:List S:=[.for CB .over [.oR 0] [Kd,BL],et 5<|.list true [.tup [.tup [.str<|sr 3,.tup []],.bool true,.none],.tup [dy 701 [],.bool true,.str<|sr 49]],.ret<|.list true [dy 174 [.str<|sr 50,.int 0,g9,bz,.fM false],cU]]
theorem adw:cG (EV<|d+2) MM V0.body (qT ws none none [])=cG (EV<|d+2) MM XP (qT ws none none [.list [],.list [.h 0,Jb],.list [.h 1],.list []]):=by kernel_rfl
theorem aem(h:ws.length<=30):EV (d+3) (fh 715) [.lst<|ws.map wS] st=some (.lst [BD<|jZ ws,.lst<|(Fp ws).map a7],st):=by
 refine rF (Qo (d:=d) h) λq3 q4 s H e=>?_;have l:=(Mp ws).len;refine dn (aeP (d:=d+1) H<|abR h l) λa j c=>?_;change EV (d+2) _ _ _=some (BD<|jZ ws,a) at c;generalize jZ ws=B at c ⊢;let K:LV->List SO->ba:=λb s=>⟨[.val<|.lst<|ws.map wS,.val<|.h 2,.val<|.h 3,hJ q3,hJ q4,b,.un,.un,.un,.un],s⟩;have f:ji (EV<|d+2) MM (et 5<|.list true [.tup [.tup [.str<|sr 3,.tup []],.bool true,.none],.tup [dy 701 [],.bool true,.str<|sr 49]]) (K .un s)=some (.next,K (.val<|.h s.length)<|s++[.list xC]):=by kernel_rfl
 have A:gp (EV<|d+2) MM [.str<|sr 50,.int 0,g9,bz,.fM false] (K (.val<|.h s.length)<|s++[.list xC])=some ([tS "f",.int 0,.h s.length,.h 2,.fW [] []],K (.val<|.h s.length)<|s++[.list xC]):=rfl;have C:bX (EV<|d+2) MM (dy 174 [.str<|sr 50,.int 0,g9,bz,.fM false]) (K (.val<|.h s.length)<|s++[.list xC])=some (BD B,K (.val<|.h s.length) a):=bM rfl A c;have g:bX (EV<|d+2) MM (.list true [dy 174 [.str<|sr 50,.int 0,g9,bz,.fM false],cU]) (K (.val<|.h s.length)<|s++[.list xC])=some (.h a.length,K (.val<|.h s.length)<|a++[.list [BD B,.h 3]]):=
  aN (kG C<|d4 rfl) rfl
 have i:=
  adw.trans (aW (fj (vs:=[.lst<|ws.map wS]) rfl rfl rfl e)<|aW f<|f7<|ej g)
 exact bE Vk rfl (show((SV.lst<|ws.map wS).free&&true)=true from rfl) rfl i<|Mv j
end
section
variable{d:Nat}{ws:List W}{st:List SO}{S:Nat->List Nat}{L:List (Nat×Nat)}
theorem LC(l:List Int):x∈hK i l↔x=i\/x∈l:=by
 induction l with
 |nil=>show x∈[i]↔_;rw[aD];exact⟨.inl,λh=>h.elim id λh=>absurd h aJ⟩
 |cons y l I=>
  show x∈(if i<=y then i::y::l else y::hK i l)↔_;split
  ·rw[aQ]
  ·rw[aQ,I,aQ];constructor
   ·rintro(h|h|h)
    ·exact .inr<|.inl h
    ·exact .inl h
    ·exact .inr<|.inr h
   ·rintro(h|h|h)
    ·exact .inr<|.inl h
    ·exact .inl h
    ·exact .inr<|.inr h
theorem Qj{n:Nat}(l:List Nat):(n:Int)∈XZ l↔n∈l:=by
 induction l with
 |nil=>exact⟨λh=>absurd h aJ,λh=>absurd h aJ⟩
 |cons i l I=>show(n:Int)∈hK i (XZ l)↔_;rw[LC,I,aQ];exact⟨λh=>h.elim (λh=>.inl<|mW.mp h) .inr,λh=>h.elim (λh=>.inl<|congrArg _ h) .inr⟩
theorem Pc(l:List Int):eQ (l.map SV.int)=some (l.map j3):=by
 induction l with
 |nil=>exact rfl
 |cons i l h=>show(ls<|.int i).bind (λd=>(eQ<|l.map SV.int).map λs=>d::s)=_;rw[h];rfl
theorem U5{n:Nat}{l:List Nat}:ir st .isIn (.int n) (N0 l)=some (decide<|n∈l):=by
 show((eQ<|(XZ l).map SV.int).bind λs=>gd true<|s.findIdx? λx=>bc x<|.int n).map (·.isSome)=_;rw[Pc];show some (((XZ l).map j3).findIdx? λx=>bc x<|.int n).isSome=_;congr 1;rw[qh,List.any_map,g8,uH,decide_eq_true_eq,<-Qj l];constructor
 ·rintro⟨x,H,e⟩;have:(x==n)=true:=e;rw[<-beq_iff_eq.mp this];exact H
 ·intro h;exact⟨n,h,by show((n:Int)==n)=true;exact beq_self_eq_true _⟩
theorem QP(n:∀r,(∀p∈L,p.1≠r)->S r=[])(r:Nat):gx (TV S L) 4 [.int r,.lst []] σ=some (N0<|S r,σ):=by
 refine gy (?_:Qk σ.st (TV S L) [.int r,.lst []]=_) rfl;unfold Qk;refine aN rfl<|aN rfl<|aN (l7 r L) ?_;cases e:L.findIdx? (λp=>p.1==r) with
 |none=>
  have:=n r λp h q=>by have:=bI.mp e p h;rw[q] at this;simp at this
  rw[this];rfl
 |some j=>obtain⟨J,H,_⟩:=bo.mp e;have h:=ax J;generalize L[j]'(J)=p at h H;show(L.map λp=>N0<|S p.1)[j]? =_;rw[ai,h,<-beq_iff_eq.mp H];rfl
def xJ(ws:List W)(B:List dB)(R:List (Nat×Nat))(t:SV)(q6 Q a:OS):ba:=⟨[.val<|.lst<|ws.map wS,.val<|BD B,.val<|.lst<|(Fp ws).map a7,.val<|.inst 662 Hf He,.val<|.lst<|R.map a7,.cell 0,hJ q6,hJ Q,.cell 1,.un,.un,.un,.un,.un,.un,.un,.un,.un],[.cell<|some t,.cell a]⟩
noncomputable def Ni:E:=.comp false [none,none,some 8,some 5] bz qy .fH [.int 6] [.cmp .isIn cU<|.bj dm 4 [bz,.list false []]]
theorem Rh{C:bH}(h:∀r,(∀p∈L,p.1≠r)->S r=[]){B:List dB}{R:List (Nat×Nat)}{q6 Q:OS}{k:Nat}:bX C MM Ni (xJ ws B R (TV S L) q6 Q<|some<|.int k)=some (.lst (((ak 6).filter λr=>decide<|k∈S r).map λr:Nat=>SV.int r),xJ ws B R (TV S L) q6 Q<|some<|.int k):=by
 let s:List SO:=[.cell<|some<|TV S L,.cell<|some<|.int k];obtain⟨l,g⟩:=tP (f:=λx c=>(cS qy x c).bind λc=>(jv C MM [.cmp .isIn cU<|.bj dm 4 [bz,.list false []]] c).bind λq=>(fa q.1).bind λb=>match b with
    |true=>(bX C MM bz q.2).map λr=>([r.1],r.2)
    |false=>some ([],q.2)) (t:=λr=>decide<|k∈S r) (F:=λq=>⟨[.un,hJ q,.cell 1,.cell 0],s⟩) (ak 6) [] none λr z q=>by
  let G:ba:=⟨[.un,.val<|.int r,.cell 1,.cell 0],s⟩
  refine aN (a:=G) (by cases q<;>rfl) ?_
  have j:bX C MM (.bj dm 4 [bz,.list false []]) G=some (N0<|S r,G):=hM (aT:=G) (vs:=[.int r,.lst []]) rfl rfl rfl rfl<|QP h r
  have D:bX C MM (.cmp .isIn cU<|.bj dm 4 [bz,.list false []]) G=some (.bool<|decide<|k∈S r,G):=dz rfl j U5
  cases hd:decide (k∈S r) with
  |true=>rw[hd] at D;exact aN (aN D<|aN rfl rfl)<|aN rfl rfl
  |false=>rw[hd] at D;exact aN (aN D<|aN rfl rfl)<|aN rfl rfl
 have e:=zZ (m:=false) (fr:=[none,none,some 8,some 5]) rfl (σ:=xJ ws B R (TV S L) q6 Q<|some<|.int k) (aC:=xJ ws B R (TV S L) q6 Q<|some<|.int k) (es:=[.int 6]) (vs:=[.int (6:Nat)]) rfl (iV<|by decide) rfl g (by rw[d8,ag];exact ah (pe ..)<|by decide);rw[d8,pC<|dU (λz=>rfl) _] at e;exact e
theorem Ip(p:Nat×Nat)(S:List (Nat×Nat)):qx (a7 p) (S.map a7)=some (S.findIdx? λq=>q==p):=by show((eQ<|S.map a7).bind λs=>gd (decide<|(N4 p).depth<=b7)<|s.findIdx? λx=>bc x<|N4 p)=_;rw[AU];show some _=some _;rw[ij];congr 2;funext q;exact MU q p
theorem U7{R:List (Nat×Nat)}(n:R.Nodup)(l:R.length<=dI){i:Nat}{p:Nat×Nat}(h:R[i]? =some p){σ:ba}:gx (.lst<|R.map a7) 3 [a7 p] σ=some (.int i,σ):=by
 refine gy (?_:td σ.st (.lst<|R.map a7) [a7 p]=_) rfl;unfold td;have e:R.findIdx? (λq=>q==p)=some i:=by refine dn (Ed<|aH h) λj a H=>?_;rw[a];congr 1;exact(ie (af.mp H).1 n).mp<|H.trans h.symm
 exact aN rfl<|aN rfl<|aN (r8 (by rw[ag];exact l))<|aN ((Ip p R).trans<|congrArg some e) rfl
theorem Qr(ws:List W)(i:Nat):mw ws i=[1,2,3,4,5]\/mw ws i=[1,3]\/mw ws i=[]:=by
 unfold mw;split
 ·exact .inl rfl
 ·split
  ·exact .inr<|.inl rfl
  ·exact .inr<|.inr rfl
theorem Lx(ws:List W)(i:Nat):ir st .ne (.lst ((mw ws i).map λr:Nat=>SV.int r)) (.lst ((mw ws i).map λr:Nat=>SV.int r))=some false:=by rcases Qr ws i with e|e|e<;>rw[e]<;>kernel_rfl
theorem Vj:prog.fns 725=some VZ:=by kernel_rfl
theorem ZM(h:ws.length<=30):EV (d+17) (fh 725) [.lst<|ws.map wS] st=some (.bool true,st):=by
 have O:=UE h;have N:(PS<|jZ ws).length<=1000:=by rw[DH];exact abQ h
 refine dn (aeA (d:=d+8) (st:=[.cell none,.cell none]) (was:=Hf) (wvs:=He) O (GG ws) N) λLk hL s=>?_;obtain⟨L,hnd,hno,w⟩:=aey (d:=d) (st:=[.cell none,.cell none]) sj hL.2 (by rw[DH];exact abP h);have z:=aer (d:=d+9) (st:=[.cell none,.cell none]) O (GG ws) N;have n:=Rp (d:=d+13) (st:=[.cell none,.cell none]) O N;have C:=aem (d:=d+13) (st:=[.cell none,.cell none]) h;have A:=aeo (d+10) [.cell none,.cell none];have hc:sk (jZ ws)∈ey:=sj;have live:∀k,k<ws.length->(ak 6).filter (λr=>decide<|k∈uX (sk<|jZ ws) (jZ ws) (PS<|jZ ws).length r)=mw ws k:=λk hk=>H9 hc hk;have U:∀i,i<ws.length->(PS<|jZ ws)[i]? =some (uJ<|mE<|ws.take i):=λi H=>Sx ws H;have nd:=oD<|jZ ws;generalize uX (sk<|jZ ws) (jZ ws) (PS<|jZ ws).length=S at *;generalize IV (sk<|jZ ws) (jZ ws) Hf He Lk=M at *;generalize PS (jZ ws)=R at *;generalize jZ ws=B at *;let T:SV:=TV S L;let F:LV->LV->LV->LV->OS->ba:=λa b c e t=>⟨[.val<|.lst<|ws.map wS,a,b,c,e,.cell 0,.un,.un,.cell 1,.un,.un,.un,.un,.un,.un,.un,.un,.un],[.cell t,.cell none]⟩;let v:LV:=.val<|BD B;let V:LV:=.val<|.lst<|(Fp ws).map a7;let I:LV:=.val<|.inst 662 Hf He;let J:LV:=.val<|.lst<|R.map a7;have s1:ji (EV<|d+16) MM (.asg (.tp [.nm 1,.nm 2])<|dy 715 [bO]) (F .un .un .un .un none)=some (.next,F v V .un .un none):=bC (bM (aT:=F .un .un .un .un none) (vs:=[.lst<|ws.map wS]) rfl rfl C) rfl;have s2:ji (EV<|d+16) MM (.asg (.tp [.nm 3,.nm 4])<|.tup [dy 694 [],dy 183 [bz]]) (F v V .un .un none)=some (.next,F v V I J none):=bC (oU (bM rfl rfl A)<|bM (aT:=F v V .un .un none) (vs:=[BD B]) rfl rfl n) rfl;have s3:ji (EV<|d+16) MM (et 5<|dy 514 [bz,dm,eA,dy 588 [bz],dy 493 [bz,dm]]) (F v V I J none)=some (.next,xJ ws B R T none none none):=
  bC (bM rfl (kG rfl<|kG rfl<|kG rfl<|kG (bM (aT:=F v V I J none) (vs:=[BD B]) rfl rfl z)<|d4<|bM (aT:=F v V I J none) (vs:=[BD B,.inst 662 Hf He]) rfl rfl s) w) rfl
 have Y:R.length<=dI:=ah N (by decide);let P:Nat->ba->Prop:=λi j=>∃l m Q,j=xJ ws B R T l m Q;obtain⟨j,e,l,m,Q,rfl⟩:=oH (f:=λx j=>(cS (.many [6,7]) x j).bind λj=>cG (EV<|d+16) MM [et 8<|.bj eA 3 [ou],.ifs (.cmp .ne Ni<|dy 720 [bO,iS]) [.ret<|.bool false] []] j) (g:=λq:(Nat×Nat)×Nat=>SV.tup [.int q.2,a7 q.1]) P (Fp ws).zipIdx (xJ ws B R T none none none) ⟨none,none,none,rfl⟩ λi q hq j hP=>by
  refine Sn hP λl m Q zz3=>?_;subst zz3;rw[kM,be] at hq;refine dn hq λp D zz2=>?_;subst zz2;have H:i<ws.length:=by have:=(af.mp D).1;unfold Fp at this;rwa[ag,ar] at this
  have hpe:p=uJ (mE<|ws.take i):=by unfold Fp at D;rw[ai,bx H] at D;exact(aa D).symm
  have hR:R[i]? =some p:=by rw[hpe];exact U i H
  let G:OS->ba:=λq=>xJ ws B R T (some<|.int i) (some<|a7 p) q;have c1:bX (EV<|d+16) MM Ni (G<|some<|.int i)=some (.lst ((mw ws i).map λr:Nat=>SV.int r),G<|some<|.int i):=by rw[<-live i H];exact Rh hno
  have c2:bX (EV<|d+16) MM (dy 720 [bO,iS]) (G<|some<|.int i)=some (.lst ((mw ws i).map λr:Nat=>SV.int r),G<|some<|.int i):=bM (aT:=G<|some<|.int i) (vs:=[.lst<|ws.map wS,.int i]) rfl rfl (ael (ah h<|of_decide_eq_true<|id<|cN true)<|by omega);refine⟨G<|some<|.int i,aN (a:=G Q) ?_<|aW (τ:=G<|some<|.int i) (bC (hM (aT:=G Q) (vs:=[a7 p]) rfl rfl rfl rfl<|U7 nd Y hR) rfl)<|aW (uK (dz c1 c2<|Lx ws i) rfl) rfl,some<|.int i,some<|a7 p,some<|.int i,rfl⟩;show m5 [6,7] [.int (0+i:Nat),a7 p] (xJ ws B R T l m Q)=_;rw[b9];cases l<;>cases m<;>rfl
 have it:jX .enum [.lst<|(Fp ws).map a7]=some ((Fp ws).zipIdx.map λq:(Nat×Nat)×Nat=>SV.tup [.int q.2,a7 q.1]):=by show some (((Fp ws).map a7).zipIdx.map _)=_;rw[Ow,iO];rfl
 have y:cG (EV<|d+16) MM VZ.body (F .un .un .un .un none)=some (.ret<|.bool true,xJ ws B R T l m Q):=aW s1<|aW s2<|aW s3<|aW (fj (d4 rfl) it rfl e)<|f7<|ej rfl;exact bE Vj rfl (show((SV.lst<|ws.map wS).free&&true)=true from rfl) rfl y rfl
end
section
variable{d:Nat}{ws:List W}{st pre:List SO}
theorem qH{i j:Int}(h:j.natAbs<2^64):lu .mul (.int i) (.int j)=some (.int<|i*j):=by show gd (decide (i.natAbs<2^64)||decide (j.natAbs<2^64)) (SV.int<|i*j)=_;rw[decide_eq_true h,Bool.or_true];rfl
theorem tc{i j:Int}(h:(j != 0)=true):lu .mod (.int i) (.int j)=some (.int<|md i j):=by show(gd (j != 0)<|md i j).map SV.int=_;rw[h];rfl
theorem M2{i j:Int}(h:(j != 0&&decide (j.natAbs<1073741824))=true):lu .fdiv (.int i) (.int j)=some (.int<|ui i j):=by show(gd (j != 0&&decide (j.natAbs<1073741824))<|ui i j).map SV.int=_;rw[h];rfl
theorem An{i j:Int}:lu .add (.int i) (.int j)=some (.int<|i+j):=rfl
theorem MJ{i:Int}(h:0<n):∃r:Nat,r<n/\md i n=r:=by have H:=Int.fmod_nonneg_of_pos i<|aam h;have a:=Int.fmod_lt_of_pos i<|aam h;exact⟨(md i n).toNat,(uh H).mpr a,Int.eq_natCast_toNat.mpr H⟩
section
variable{C:bH}{M:bQ}{σ aC aT:ba}{lh lN:E}{i j:Int}
theorem yt(h:bX C M lh σ=some (.int i,aC)):bX C M (.bi .int [lh]) σ=some (.int i,aC):=sf (d4 h) rfl
end
def afl(k top:Nat)(q2:OS)(st:List SO):ba:=⟨[.val<|.h k,.val<|.int top,hJ q2,.un],st⟩
theorem Vn:prog.fns 680=some V1:=rfl
theorem Vm:prog.fns 687=some YU:=rfl
theorem Vl:prog.fns 708=some YT:=rfl
theorem Vo:prog.fns 673=some zV:=rfl
theorem Vi:prog.fns 732=some VY:=rfl
noncomputable def hX(a b:Int):SO:=.list [.int a,.int b]
theorem We(H:st[k]? =some (hX a b))(g:0<top)(J:top<=8):∃(r:Nat)(A B:Int),r<top/\EV (d+1) (fh 680) [.h k,.int top] st=some (.int r,st.set k<|hX A B):=by
 let F:OS->List SO->ba:=afl k top;have t:((top:Int) != 0)=true:=by rw[bne_iff_ne];exact Int.natCast_ne_zero_iff_pos.mpr g
 have I:∀{q:OS}{s:List SO}{x y:Int},s[k]? =some (hX x y)->bX (EV d) MM (cy bO 0) (F q s)=some (.int x,F q s):=λ{q s x y} h=>bF rfl rfl<|ox h rfl;have m:∀{q:OS}{s:List SO}{x y:Int},s[k]? =some (hX x y)->bX (EV d) MM (cy bO 1) (F q s)=some (.int y,F q s):=λ{q s x y} h=>bF rfl rfl<|ox h rfl;have c:bX (EV d) MM (.cmp .gt (cy bO 0)<|.int 0) (F none st)=some (.bool<|decide<|0<a,F none st):=dz (I H) rfl rfl;have f:∀{r:Nat}{q:OS}{s:List SO},s.length=st.length->cG (EV d) MM V1.body (F none st)=some (.ret<|.int r,F q s)->EV (d+1) (fh 680) [.h k,.int top] st=some (.int r,s):=λ{r q s} O h=>
  fX Vn (gJ (lo:=(F q s).loc) rfl rfl rfl h rfl<|iq O)
 cases ha:decide (0<a) with
 |true=>rw[ha] at c;refine dn (MJ (i:=a) g) λr l e=>?_;have p:=(tc t).trans (by rw[e]);have D:lu .fdiv (.int a) (.int top)=some (.int<|ui a top):=M2 (by rw[t,decide_eq_true (show(top:Int).natAbs<1073741824 by exact abN g J)];rfl);refine NZ r (ui a top) b l<|f (q:=some<|.int r) eO ?_;refine f7<|Aw c<|aW (τ:=F (some<|.int r) st) (bC (gm (yt<|I H) rfl p) rfl)<|aW (rQ (gm (I H) rfl D) rfl rfl<|pw H (by show 0<2;decide)<|by decide)<|f7<|ej rfl
 |false=>
  rw[ha] at c;let B:Int:=md (b*39373+7) 2147483647;refine dn (MJ (i:=b*39373+7) (n:=2147483647)<|by decide) λQ L G=>?_;let z:Int:=ui (md (B*B) 2147483629) 32;refine dn (MJ (i:=z) g) λr l e=>?_;have p:=(tc t).trans (by rw[e]);have N:B.natAbs<2^64:=by have:B=Q:=G;rw[this];exact ah L<|of_decide_eq_true<|id<|cN true
  have w:(st.set k<|hX a B)[k]? =some (hX a B):=m4 H;refine NZ r a B l<|f (q:=none) eO ?_;refine aW (uK c rfl)<|aW (τ:=F none<|st.set k<|hX a B) (rQ (v:=.int B) (gm (yt<|gm (gm (m H) rfl<|qH<|by decide) rfl An) rfl<|tc<|by decide) rfl rfl<|pw H (by show 1<2;decide)<|by decide)<|f7<|ej<|gm (yt<|gm (gm (yt<|gm (m w) (m w)<|qH N) rfl<|tc<|by decide) rfl<|M2<|by decide) rfl p
noncomputable def MW:List W:=[.set,.use,.drop,.d0,.d1,.d2,.drop,.rest]
theorem aep(f:st[k]? =some (hX a b)):∃(w:W)(A B:Int),EV (d+2) (fh 687) [.h k,.lst<|MW.map wS] st=some (wS w,st.set k<|hX A B):=by
 refine rF (We (d:=d) (top:=8) f (by decide)<|by decide) λr A B H e=>?_;have c:MW[r]? =some (MW[r]'(H)):=ax H;generalize MW[r]'(H)=w at c;let F:List SO->ba:=λs=>⟨[.val<|.h k,.val<|.lst<|MW.map wS,.un,.un],s⟩;have q:bX (EV<|d+1) MM (.sub bz<|dy 680 [bO,jm bz]) (F st)=some (wS w,F<|st.set k<|hX A B):=
  bF rfl (bM (aT:=F st) (vs:=[.h k,.int (8:Nat)]) rfl rfl e) (mZ<|fS (by rw[ai,c];rfl) (by show r<=4000;exact abM H))
 exact y31 w A B<|fX Vm<|gJ rfl rfl rfl (f7<|ej q) rfl<|iq eO
def Aq(pre:List SO)(q2:OS)(a b:Int)(ws:List W):ba:=⟨[.val<|.h pre.length,.val<|.h<|pre.length+1,hJ q2,.un,.un,.un],pre++[hX a b,.list<|ws.map wS]⟩
def ZX:List S:=[.expr<|.bj bz 0 [dy 687 [bO,.list false [.str<|sr 40,.str<|sr 19,.str<|sr 13,.str<|sr 41,.str<|sr 42,.str<|sr 43,.str<|sr 13,.str<|sr 44]]]]
theorem aen(V:∀n,pre.all (SO.low n)=true)(a b:Int):∃(ws:List W)(g k:Int),ws.length<=10/\EV (d+3) (fh 708) [.h pre.length] (pre++[hX a b])=some (.lst<|ws.map wS,pre++[hX g k]):=by
 refine rF (We (d:=d+1) (st:=pre++[hX a b]) (top:=2) Cn (by decide)<|by decide) λr p t H J=>?_;rw[KN] at J;refine rF (We (d:=d+1) (st:=pre++[hX p t,.list<|(bf r W.set).map wS]) (top:=8) Co (by decide)<|by decide) λN y z m L=>?_;rw[KO] at L;let F:LV->List SO->ba:=λq s=>⟨[.val<|.h pre.length,q,.un,.un,.un,.un],s⟩;have s1:ji (EV<|d+2) MM (et 1<|.rep true (.str<|sr 40)<|dy 680 [bO,.int 2]) (F .un<|pre++[hX a b])=some (.next,Aq pre none p t<|bf r W.set):=by refine bC (MZ (x:=wS .set) rfl (bM (aT:=F .un<|pre++[hX a b]) (vs:=[.h pre.length,.int (2:Nat)]) rfl rfl J) (by show r<=4000;exact aal H)) ?_;rw[aj,aM,<-List.map_replicate];rfl
 let P:Nat->ba->Prop:=λi c=>∃q a b ws,ws.length<=1+i/\c=Aq pre q a b ws;obtain⟨c,e,q,A,B,ws,l,rfl⟩:=oH (f:=λx c=>(cS JO x c).bind λc=>cG (EV<|d+2) MM ZX c) P (ak<|2+N) (Aq pre none y z<|bf r W.set) ⟨none,y,z,_,by rw[kb];exact aP H,rfl⟩ λi x Y c O=>by
  refine XJ O λq a b ws l I=>?_;subst I;have U:=(af.mp Y).1;rw[ar] at U;refine Sn (aep (d:=d) (st:=pre++[hX a b,.list<|ws.map wS]) Co) λw g k e=>?_;rw[KO] at e;let G:Int->Int->List W->ba:=λa b ws=>Aq pre (some<|.int x) a b ws;refine⟨G g k<|ws++[w],aN (a:=G a b ws) (by cases q<;>rfl)<|aW (Us (v:=.none)<|hM (aT:=G g k ws) rfl ?_ ?_ (d4<|bM (aT:=G a b ws) rfl (rfl) e)<|(yi Ak (by rw[ag];show _<=4000;omega)).trans ?_) rfl,some<|.int x,g,k,ws++[w],by rw[aj];show _+1<=_;exact dY l,rfl⟩
  ·show(pre++[hX a b,SO.list<|ws.map wS])[pre.length+1]?.bind jT=none;rw[Ak];rfl
  ·show((pre++[hX a b,SO.list<|ws.map wS])[pre.length+1]?.bind ft).isSome=true;rw[Ak];rfl
  ·rw[Uq];show some (SV.none,_)=some (SV.none,Aq pre (some<|.int x) g k<|ws++[w]);unfold Aq;rw[a6];rfl
 rw[ar] at l;refine NZ ws A B (abL m l) ?_;have s2:gp (EV<|d+2) MM [.bin .add (.int 2)<|dy 680 [bO,.int 8]] (Aq pre none p t<|bf r W.set)=some ([.int (2+N:Nat)],Aq pre none y z<|bf r W.set):=by refine d4<|gm rfl (bM (aT:=Aq pre none p t<|bf r W.set) (vs:=[.h pre.length,.int (8:Nat)]) rfl rfl L) ?_;congr 2
 have cut:jK (pre++[hX a b]).length (pre++[hX A B,.gone])=some (pre++[hX A B]):=by
  have l:(pre++[hX a b]).length=(pre++[hX A B]).length:=by rw[aj,aj];rfl
  have Q:pre++[hX A B,.gone]=(pre++[hX A B])++[.gone]:=by rw[aM];rfl
  rw[l,Q];exact l8 (by rw[oa,V];rfl)
 have D:freeze fz (.h<|pre.length+1) (pre++[hX A B,.list<|ws.map wS])=some (.lst<|ws.map wS,pre++[hX A B,.gone]):=by rw[oQ Ak<|vo ws,Uq]
 exact fX Vl<|gJ rfl rfl rfl (aW s1<|aW (fj s2 (iV (by show _<=4000;exact abK m)) rfl e)<|f7<|ej rfl) D cut
def afm(n:List Int)(k:Nat)(q2 q3 q4:OS)(st:List SO):ba:=⟨[.val<|.lst<|n.map SV.int,.val<|.int k,hJ q2,hJ q3,hJ q4,.un,.un,.un],st⟩
theorem aeq{n:List Int}(I:n.length<=63){k:Nat}(H:k<2):∃a b,EV (d+1) (fh 673) [.lst<|n.map SV.int,.int k] st=some (.h st.length,st++[hX a b]):=by
 let F:OS->OS->OS->List SO->ba:=afm n k;have v:∃c:Int,cG (EV d) MM (zV.body.take 2) (F none none none st)=some (.next,F (some<|.int c) none none st):=by
  have s:bX (EV d) MM (.cmp .lt bz<|jm bO) (F (some<|.int 0) none none st)=some (.bool<|decide<|k<(n.map SV.int).length,F (some<|.int 0) none none st):=dz rfl (fL (xs:=n.map SV.int) rfl rfl (by rw[ag];show _<=4000;exact aak I))<|jW rfl;cases h:decide (k<(n.map SV.int).length) with
  |false=>rw[h] at s;exact⟨0,aW (τ:=F (some<|.int 0) none none st) rfl<|aW (uK s rfl) rfl⟩
  |true=>
   rw[h] at s;have t:k<n.length:=by have:=of_decide_eq_true h;rwa[ag] at this
   have e:bX (EV d) MM (.sub bO bz) (F (some<|.int 0) none none st)=some (.int<|n[k]'(t),F (some<|.int 0) none none st):=bF (aC:=F (some<|.int 0) none none st) (aT:=F (some<|.int 0) none none st) (x:=.lst<|n.map SV.int) (y:=.int k) rfl rfl (mZ<|fS (by rw[ai,ax t];rfl) (by show k<=4000;exact aal H));exact⟨n[k]'(t),aW (τ:=F (some<|.int 0) none none st) rfl<|aW (Aw s<|aW (bC e rfl) rfl) rfl⟩
 obtain⟨c,v⟩:=v;let g:Int:=if c< -1-c then -1-c else c
 let m:Int:=md ((md g 2147483629+7919*(k:Int)*(k:Int)+31*(k:Int)+17)*48271) 2147483647;let u:Int:=if decide ((10:Int)^18<=g) then 1 else 0
 have N:(k:Int).natAbs<2^64:=by show k<2^64;exact ah H<|of_decide_eq_true<|id<|cN true
 have w:bX (EV d) MM (.bi .max [.bi .int [cU],.bi .int [.bin .sub (.neg<|.int 1) cU]]) (F (some<|.int c) none none st)=some (.int g,F (some<|.int c) none none st):=rfl;let f:ba:=F (some<|.int c) (some<|.int g) none st;have L:bX (EV d) MM bz f=some (.int k,f):=rfl;have z:bX (EV d) MM (.bin .mod (.bi .int [.bin .mul (.bin .add (.bin .add (.bin .add (.bin .mod (.bi .int [dm])<|.int 2147483629)<|.bin .mul (.bin .mul (.int 7919) bz) bz)<|.bin .mul (.int 31) bz)<|.int 17)<|.int 48271])<|.int 2147483647) f=some (.int m,f):=
  gm (yt<|gm (gm (gm (gm (gm (aC:=f) (yt rfl) rfl<|tc (j:=2147483629)<|by decide) (gm (gm (aC:=f) rfl L<|qH N) L<|qH N) An) (gm (aC:=f) rfl L<|qH N) An) rfl An) rfl<|qH (j:=48271)<|by decide) rfl (tc (j:=2147483647)<|by decide)
 let p:ba:=F (some<|.int c) (some<|.int g) (some<|.int m) st;have U:u.natAbs<2^64:=by show(if decide ((10:Int)^18<=g) then(1:Int) else 0).natAbs<2^64;split<;>decide
 have J:bX (EV d) MM (.bin .pow (.int 10)<|.int 18) p=some (.int<|(10:Int)^18,p):=by kernel_rfl
 have D:bX (EV d) MM (.bin .mul dm<|.bi .int [.cmp .ge dm<|.bin .pow (.int 10)<|.int 18]) p=some (.int<|g*u,p):=
  gm (aC:=p) (x:=.int g) (y:=.int u) rfl (sf (d4<|dz (aC:=p) (x:=.int g) rfl J rfl) rfl) (qH U)
 have G:bX (EV d) MM (.list true [.bin .mul dm<|.bi .int [.cmp .ge dm<|.bin .pow (.int 10)<|.int 18],eA]) p=some (.h st.length,F (some<|.int c) (some<|.int g) (some<|.int m)<|st++[hX (g*u) m]):=
  aN (kG D<|d4 rfl) rfl
 refine⟨g*u,m,fX Vo ?_⟩;have B:=
  (vB (l:=zV.body.take 2) (r:=zV.body.drop 2) v).trans (aW (bC w rfl)<|aW (bC z rfl)<|f7<|ej G)
 show(qP zV [SV.lst<|n.map SV.int,SV.int k]).bind (λA=>(cG (EV d) MM zV.body ⟨(cu zV.kinds A [] st).1,(cu zV.kinds A [] st).2⟩).map λq=>(VW q.1,q.2.st))=_;exact aN (a:=[SV.lst<|n.map SV.int,SV.int k]) rfl<|gy B rfl
end
def lI(n:List Int)(q:OS)(st:List SO):ba:=⟨[.val<|.lst<|n.map SV.int,hJ q,.un,.un,.un,.un,.un,.un,.un],st⟩
noncomputable def ZW:List S:=[.ifs (.not<|dy 725 [dy 708 [dy 673 [bO,bz]]]) [.ret<|.bool false] []]
theorem Sz(h:bX C M e σ=some (.bool true,aC)):bX C M (.not e) σ=some (.bool false,aC):=aN h rfl
theorem LW(s:List Int)(N:s.length<=63):oT prog 40 (fh 732) [.lst<|s.map SV.int] []=some (.bool true,[]):=by
 have Y:ji (EV 39) MM (.ifs (.not<|dy 725 [.list false [.str<|sr 40,.str<|sr 13,.str<|sr 44,.str<|sr 41]]) [.ret<|.bool false] []) (lI s none [])=some (.next,lI s none []):=
  uK (aC:=lI s none []) (Sz<|bM (f:=fh 725) (aC:=lI s none []) (aT:=lI s none []) (vs:=[.lst<|[W.set,.drop,.rest,.d0].map wS]) rfl (by kernel_rfl)<|ZM (d:=22) (ws:=[.set,.drop,.rest,.d0])<|by decide) rfl
 let P:Nat->ba->Prop:=λi c=>∃q p,c=lI s q p/\∀n,p.all (SO.low n)=true;have len:∀m,m<=2->∃c,cz (λx c=>(cS qy x c).bind λc=>cG (EV 39) MM ZW c) ((ak m).map λi:Nat=>SV.int i) (lI s none [])=some (.next,c)/\P (ak m).length c:=λm g=>
  oH P (ak m) (lI s none []) ⟨none,[],rfl,λz=>rfl⟩ λi x O c D=>by
   refine pg D λq p j l=>?_;subst j;obtain⟨I,H⟩:=af.mp O;rw[ar] at I;rw[b3] at H;subst H;refine w5 (aeq (d:=38) (st:=p) N (k:=i)<|by exact ah I g) λa b r=>?_;refine rF (aen (d:=36) l a b) λws A B J t=>?_;let G:List SO->ba:=lI s<|some<|.int i;have e:bX (EV 39) MM (dy 725 [dy 708 [dy 673 [bO,bz]]]) (G p)=some (.bool true,G<|p++[hX A B]):=
    bM (f:=fh 725) (aC:=G p) (aT:=G<|p++[hX A B]) (vs:=[.lst<|ws.map wS]) rfl (d4<|bM (f:=fh 708) (aC:=G p) (aT:=G<|p++[hX a b]) (vs:=[.h p.length]) rfl (d4<|bM (f:=fh 673) (aC:=G p) (aT:=G p) (vs:=[.lst<|s.map SV.int,.int i]) rfl rfl r) t) (ZM (d:=22)<|by exact ah J<|of_decide_eq_true<|id<|cN true)
   exact⟨G<|p++[hX A B],aN (a:=G p) (by cases q<;>rfl)<|aW (uK (Sz e) rfl) rfl,some<|.int i,p++[hX A B],rfl,λn=>by rw[oa,l];rfl⟩
 have V:∃m:Nat,m<=2/\gp (EV 39) MM [.bi .max [.int 1,.bi .min [.int 2,jm bO]]] (lI s none [])=some ([.int m],lI s none []):=by
  have Q:bX (EV 39) MM (jm bO) (lI s none [])=some (.int s.length,lI s none []):=by have:=fL (C:=EV 39) (M:=MM) (e:=bO) (σ:=lI s none []) (aC:=lI s none []) (x:=.lst<|s.map SV.int) (xs:=s.map SV.int) rfl rfl (by rw[ag];show _<=4000;exact aak N);rwa[ag] at this
  have U:bX (EV 39) MM (.bi .min [.int 2,jm bO]) (lI s none [])=some (.int (if(s.length:Int)<2 then(s.length:Int) else 2),lI s none []):=sf (kG (aC:=lI s none []) rfl<|d4 Q) rfl;have L:bX (EV 39) MM (.bi .max [.int 1,.bi .min [.int 2,jm bO]]) (lI s none [])=some (.int (if(1:Int)<(if(s.length:Int)<2 then(s.length:Int) else 2) then(if(s.length:Int)<2 then(s.length:Int) else 2) else 1),lI s none []):=sf (kG (aC:=lI s none []) rfl<|d4 U) rfl;have w:(if(1:Int)<(if(s.length:Int)<2 then(s.length:Int) else 2) then(if(s.length:Int)<2 then(s.length:Int) else 2) else 1)=((if s.length<2 then 1 else 2:Nat):Int):=by
   by_cases q:s.length<2
   ·rw[if_pos (show(s.length:Int)<2 by exact Int.lt_toNat.mp q),if_pos q,if_neg (show ¬((1:Int)<(s.length:Int)) from λh=>absurd (lU.mp (show((1:Nat):Int)<(s.length:Int) from h))<|sM.mpr<|aP q)];rfl
   ·rw[if_neg (show ¬(s.length:Int)<2 from λh=>q<|lU.mp h),if_neg q];rfl
  rw[w] at L;exact⟨if s.length<2 then 1 else 2,by split;exact(by decide:1<=2);exact aF 2,d4 L⟩
 refine dn V λm g v=>?_;obtain⟨c,e,q,p,rfl,_⟩:=len m g;have y:cG (EV 39) MM VY.body (lI s none [])=some (.ret<|.bool true,lI s q p):=aW Y (aW (fj v (iV (n:=m) (by show m<=4000;exact ah g<|of_decide_eq_true<|id<|cN true)) rfl e)<|f7<|ej rfl);exact bE (d:=39) Vi rfl (show((SV.lst<|s.map SV.int).free&&true)=true from rfl) rfl y rfl
noncomputable abbrev pr:Program:=PySem.Challenge.pw_pf0171_01
def oq(i:Nat)(k:Option Nat):Option (Str×el×List Stmt×Scope):=match pr.main.body[i]?,k with
 |some (.FunctionDef n p b _ _ _ s _ _ _),none=>some (n,p,b,s)
 |some (.ClassDef _ _ _ b _ _ _ _ _ _ _),some k=>match b[k]? with
  |some (.FunctionDef n p b _ _ _ s _ _ _)=>some (n,p,b,s)
  |_=>none
 |_,_=>none
structure FD where
 a:Addr
 i:Nat
 k:Option Nat
 q:String
 c:Addr
 d:Value
 m:Nat
structure CD where
 a:Addr
 ns:Addr
 n:String
 t1:Tok
 t2:Tok
 l:List (String×Tok×Value)
def mV(i:Nat):Value:=match i with
 |0=>(.str (o "lendcore.types") 228)
 |1=>(.str (o "lendcore.mir") 321)
 |2=>(.str (o "lendcore.flow") 486)
 |3=>(.str (o "lendcore.moves") 640)
 |4=>(.str (o "lendcore.borrowck") 911)
 |5=>(.str (o "lendcore.liveness") 939)
 |6=>(.str (o "lendcore.world") 1057)
 |7=>(.str (o "law_pf0171_01") 1192)
 |_=>.none
noncomputable def B1:List FD:=[⟨49,5,none,"parts_of",48,.none,0⟩,⟨56,6,none,"rebuilt",55,.none,0⟩,⟨61,7,none,"substituted",60,.none,0⟩,⟨66,8,none,"with_regions",65,.none,0⟩,⟨73,9,none,"no_region",72,.none,0⟩,⟨80,10,none,"erased",79,.none,0⟩,⟨87,11,none,"regions_in",86,.none,0⟩,⟨94,12,none,"matched",93,.none,0⟩,⟨101,13,none,"field_rows",100,.none,0⟩,⟨106,14,none,"fields_of",105,.none,0⟩,⟨113,15,none,"has_drop",112,.none,0⟩,⟨128,17,some 0,"Body.__init__",127,.ref 121,1⟩,⟨135,17,some 1,"Body.type_of",134,.none,1⟩,⟨149,17,some 3,"Body.statements",148,.none,1⟩,⟨156,17,some 4,"Body.terminator",155,.none,1⟩,⟨163,17,some 5,"Body.spot",162,.none,1⟩,⟨183,18,none,"points",182,.none,1⟩,⟨188,19,none,"successors",187,.none,1⟩,⟨193,20,none,"predecessors",192,.none,1⟩,⟨200,21,none,"field_type",199,.none,1⟩,⟨207,22,none,"projected",206,.none,1⟩,⟨214,23,none,"place_type",213,.none,1⟩,⟨221,24,none,"operands_of",220,.none,1⟩,⟨228,25,none,"operands_at",227,.none,1⟩,⟨233,26,none,"indices_of",232,.none,1⟩,⟨240,28,none,"joined",239,.none,2⟩,⟨247,29,none,"through",246,.none,2⟩,⟨254,30,none,"solve_forward",253,.none,2⟩,⟨261,31,none,"all_facts",260,.none,2⟩,⟨268,32,none,"behind_block",267,.none,2⟩,⟨275,33,none,"back_to",274,.none,2⟩,⟨282,34,none,"solve_backward",281,.none,2⟩,⟨289,35,none,"all_facts_before",288,.none,2⟩,⟨296,36,none,"looked_at",295,.none,2⟩,⟨303,37,none,"written_at",302,.none,2⟩,⟨310,38,none,"dropped_at",309,.none,2⟩,⟨317,39,none,"turned_at",316,.none,2⟩,⟨324,45,none,"has_own_drop",323,.none,3⟩,⟨338,46,some 0,"MovePaths.__init__",337,.none,3⟩,⟨345,46,some 1,"MovePaths.add",344,.none,3⟩,⟨352,46,some 2,"MovePaths.depth_of",351,.none,3⟩,⟨359,46,some 3,"MovePaths.cut",358,.none,3⟩,⟨366,46,some 4,"MovePaths.is_cut",365,.none,3⟩,⟨373,46,some 5,"MovePaths.number_of",372,.none,3⟩,⟨380,46,some 6,"MovePaths.is_exact",379,.none,3⟩,⟨401,46,some 9,"MovePaths.below",400,.none,3⟩,⟨422,47,some 0,"Moves.__init__",421,.none,3⟩,⟨429,47,some 1,"Moves.begin",428,.none,3⟩,⟨434,47,some 2,"Moves.turned",433,.none,3⟩,⟨441,47,some 3,"Moves.deeds",440,.none,3⟩,⟨448,47,some 4,"Moves.deeds_of",447,.none,3⟩,⟨455,47,some 5,"Moves.step",454,.none,3⟩,⟨462,47,some 6,"Moves.at",461,.none,3⟩,⟨469,47,some 7,"Moves.may_be",468,.none,3⟩,⟨504,49,none,"drop_regions",503,.none,4⟩,⟨509,50,none,"holds_something",508,.none,4⟩,⟨514,51,none,"live_regions",513,.none,4⟩,⟨522,54,none,"used_locals",521,.none,5⟩,⟨529,55,none,"is_return",528,.none,5⟩,⟨536,56,none,"dropped_locals",535,.none,5⟩,⟨543,57,none,"set_locals",542,.none,5⟩,⟨557,58,some 0,"Liveness.__init__",556,.none,5⟩,⟨564,58,some 1,"Liveness.use_step",563,.none,5⟩,⟨571,58,some 2,"Liveness.drop_step",570,.none,5⟩,⟨578,58,some 3,"Liveness.for_use",577,.none,5⟩,⟨585,58,some 4,"Liveness.for_drop",584,.none,5⟩,⟨608,60,some 0,"Adt.__init__",607,.ref 601,6⟩,⟨630,61,some 0,"ImplRow.__init__",629,.ref 623,6⟩,⟨652,62,some 0,"World.__init__",651,.ref 645,6⟩,⟨673,64,none,"_law_pool",672,.none,7⟩,⟨680,65,none,"_law_take",679,.none,7⟩,⟨687,66,none,"_law_one",686,.none,7⟩,⟨694,67,none,"_law_world",693,.none,7⟩,⟨701,68,none,"_law_type",700,.none,7⟩,⟨708,69,none,"_law_events",707,.none,7⟩,⟨715,70,none,"_law_body",714,.none,7⟩,⟨720,71,none,"_law_lives",719,.none,7⟩,⟨725,72,none,"_law_right",724,.none,7⟩,⟨732,73,none,"law",731,.none,7⟩]
noncomputable def fdM:List FD:=[⟨142,17,some 2,"Body.args",141,.none,1⟩,⟨171,17,some 6,"Body.new_local",170,.ref 164,1⟩,⟨387,46,some 7,"MovePaths.parent",386,.none,3⟩,⟨394,46,some 8,"MovePaths.children",393,.none,3⟩,⟨476,47,some 8,"Moves.is_surely_ready",475,.none,3⟩,⟨483,47,some 9,"Moves.may_be_ready",482,.none,3⟩,⟨490,47,some 10,"Moves.asked",489,.none,3⟩,⟨659,62,some 1,"World.is_field_seen",658,.none,6⟩]
def dsL:List (Addr×List Value):=[(121,[.none,.none]),(601,[.str (o "") 1071,.ref 600]),(623,[.int 0 1113]),(645,[.none])]
def EA:List CD:=[⟨174,173,"Body",323,331,[("__module__",330,.str (o "lendcore.mir") 321),("__firstlineno__",334,.int 94 333),("__init__",346,.ref 128),("type_of",354,.ref 135),("args",361,.ref 142),("statements",369,.ref 149),("terminator",377,.ref 156),("spot",385,.ref 163),("new_local",395,.ref 171),("__static_attributes__",401,.ref 172),("__dict__",403,.ref 175),("__weakref__",405,.ref 176),("__doc__",406,.none)]⟩,⟨404,403,"MovePaths",658,666,[("__module__",665,.str (o "lendcore.moves") 640),("__firstlineno__",669,.int 292 668),("__init__",682,.ref 338),("add",694,.ref 345),("depth_of",705,.ref 352),("cut",713,.ref 359),("is_cut",721,.ref 366),("number_of",732,.ref 373),("is_exact",740,.ref 380),("parent",748,.ref 387),("children",756,.ref 394),("below",767,.ref 401),("__static_attributes__",775,.ref 402),("__dict__",777,.ref 405),("__weakref__",779,.ref 406),("__doc__",780,.none)]⟩,⟨493,492,"Moves",783,791,[("__module__",790,.str (o "lendcore.moves") 640),("__firstlineno__",794,.int 367 793),("__init__",804,.ref 422),("begin",814,.ref 429),("turned",820,.ref 434),("deeds",828,.ref 441),("deeds_of",841,.ref 448),("step",853,.ref 455),("at",861,.ref 462),("may_be",871,.ref 469),("is_surely_ready",880,.ref 476),("may_be_ready",889,.ref 483),("asked",898,.ref 490),("__static_attributes__",903,.ref 491),("__dict__",905,.ref 494),("__weakref__",907,.ref 495),("__doc__",908,.none)]⟩,⟨588,587,"Liveness",985,993,[("__module__",992,.str (o "lendcore.liveness") 939),("__firstlineno__",996,.int 504 995),("__init__",1007,.ref 557),("use_step",1017,.ref 564),("drop_step",1027,.ref 571),("for_use",1035,.ref 578),("for_drop",1043,.ref 585),("__static_attributes__",1049,.ref 586),("__dict__",1051,.ref 589),("__weakref__",1053,.ref 590),("__doc__",1054,.none)]⟩,⟨611,610,"Adt",1059,1067,[("__module__",1066,.str (o "lendcore.world") 1057),("__firstlineno__",1070,.int 529 1069),("__init__",1085,.ref 608),("__static_attributes__",1093,.ref 609),("__dict__",1095,.ref 612),("__weakref__",1097,.ref 613),("__doc__",1098,.none)]⟩,⟨633,632,"ImplRow",1101,1109,[("__module__",1108,.str (o "lendcore.world") 1057),("__firstlineno__",1112,.int 539 1111),("__init__",1128,.ref 630),("__static_attributes__",1137,.ref 631),("__dict__",1139,.ref 634),("__weakref__",1141,.ref 635),("__doc__",1142,.none)]⟩,⟨662,661,"World",1145,1153,[("__module__",1152,.str (o "lendcore.world") 1057),("__firstlineno__",1156,.int 550 1155),("__init__",1164,.ref 652),("is_field_seen",1175,.ref 659),("__static_attributes__",1184,.ref 660),("__dict__",1186,.ref 663),("__weakref__",1188,.ref 664),("__doc__",1189,.none)]⟩]
def Jd:List (String×Value):=[("_wall",.ref 21),("LendError",.ref 39),("DROP",.str (o "Drop") 230),("parts_of",.ref 49),("rebuilt",.ref 56),("substituted",.ref 61),("with_regions",.ref 66),("no_region",.ref 73),("erased",.ref 80),("regions_in",.ref 87),("matched",.ref 94),("field_rows",.ref 101),("fields_of",.ref 106),("has_drop",.ref 113),("Body",.ref 174),("points",.ref 183),("successors",.ref 188),("predecessors",.ref 193),("field_type",.ref 200),("projected",.ref 207),("place_type",.ref 214),("operands_of",.ref 221),("operands_at",.ref 228),("indices_of",.ref 233),("joined",.ref 240),("through",.ref 247),("solve_forward",.ref 254),("all_facts",.ref 261),("behind_block",.ref 268),("back_to",.ref 275),("solve_backward",.ref 282),("all_facts_before",.ref 289),("looked_at",.ref 296),("written_at",.ref 303),("dropped_at",.ref 310),("turned_at",.ref 317),("READY",.int 0 642),("MOVED",.int 1 644),("UNSET",.int 2 646),("DROPPED",.int 3 648),("has_own_drop",.ref 324),("MovePaths",.ref 404),("Moves",.ref 493),("drop_regions",.ref 504),("holds_something",.ref 509),("live_regions",.ref 514),("NOTHING",.ref 515),("used_locals",.ref 522),("is_return",.ref 529),("dropped_locals",.ref 536),("set_locals",.ref 543),("Liveness",.ref 588),("Adt",.ref 611),("ImplRow",.ref 633),("World",.ref 662),("_law_pool",.ref 673),("_law_take",.ref 680),("_law_one",.ref 687),("_law_world",.ref 694),("_law_type",.ref 701),("_law_events",.ref 708),("_law_body",.ref 715),("_law_lives",.ref 720),("_law_right",.ref 725),("law",.ref 732)]
noncomputable def QN:List (String×Value):=[("len",.builtin "len"),("sorted",.builtin "sorted"),("max",.builtin "max"),("min",.builtin "min"),("list",.type "list"),("tuple",.type "tuple"),("frozenset",.type "frozenset"),("int",.type "int"),("dict",.type "dict"),("range",.type "range"),("enumerate",.type "enumerate"),("zip",.type "zip"),("set",.type "set"),("str",.type "str")]
def FD.it(x:FD):Str×el×List Stmt×Scope:=(oq x.i x.k).getD default
def FD.obj(x:FD):Obj:={cls:=.type "function",data:=.func {name:=x.it.1,qualname:=o x.q,params:=x.it.2.1,body:=.stmts x.it.2.2.1,scope:=x.it.2.2.2,globals:=cg,closure:=[],defaults:=x.d,kwdefaults:=.none,pyModule:=mV x.m,code:=.ref x.c,builtins:=fY}}
def CD.obj(x:CD):Obj:={cls:=.type "type",data:=.cls {name:=o x.n,bases:=[.type "object"],mro:=[.ref x.a,.type "object"],ns:=x.ns,qualname:=o x.n},slots:=#[none,none,some<|.str (o x.n) x.t1,some<|.str (o x.n) x.t2,some<|.builtin "object.__new__",some<|.bool true]}
def CD.dict(P:jj)(x:CD):Obj:={cls:=.type "dict",data:=.dict ⟨x.l.map λe=>⟨lL P<|o e.1,.str (o e.1) e.2.1,e.2.2⟩⟩ 4}
def KF(P:jj):Frag:=(B1++fdM).map (λx=>(x.a,x.obj))++EA.map (λx=>(x.a,x.obj))++EA.map λx=>(x.ns,x.dict P)
noncomputable def PL(P:jj):SetTable:={mask:=7,place:=#[],dummies:=#[],finger:=0,led:=!P.followText "set-order",moves:=0,plain:=true}
def ZL(n:String)(t d f g:Tok)(l c:Int)(a b e:Addr)(v V:Value)(i:Int):Obj:={cls:=.type "code",data:=.fields #[.str (o n) t,.str (o n) d,.str (o "/claim/cut.py") f,.int l 0,.int c 0,.int 0 0,.int 0 0,.int 3 0,.ref a,.bool true,.int 181 0,.ref b,.none,v,V,.ref e,.int i 0,.int l 0,.str (o "/claim/cut.py") g]}
noncomputable def QO:List (String×Value):=[("__builtins__",.ref 4)]
def KE(P:jj):Frag:=dsL.map (λx=>(x.1,({cls:=.type "tuple",data:=.seq ⟨x.2⟩ 0}:Obj)))++[(600,{cls:=.type "tuple",data:=.seq #[] 0}),(515,{cls:=.type "frozenset",data:=.set #[] 0 (PL P)}),(82,mR #[]),(103,mR #[]),(4,{cls:=.type "module",dict:=some 0}),(86,ZL "regions_in" 275 276 277 282 47 1 81 82 85 (.ref 83) (.ref 84) 281),(105,ZL "fields_of" 306 307 308 310 76 3 102 103 104 .none .none 309)]
def KA(P:jj):Frag:=KF P++KE P
def KAs:List Addr:=(B1++fdM).map (·.a)++EA.map (·.a)++EA.map (·.ns)++dsL.map (·.1)++[600,515,82,103,4,86,105]
noncomputable def Nh(h:Heap)(c:Addr):Option Value:=(h.get? c).bind λob=>match ob.data with
 |.fields v=>v[1]?
 |_=>none
noncomputable def Pf:Option Value->Option Str
 |some (.str s _)=>some s
 |_=>none
noncomputable def Tz(h:Heap):Bool:=h.isNs cg&&h.isNs fY&&h.isNs CR&&(h.nsMap CR "sys.recursionlimit").isNone&&(h.nsMap CR "sys.int_max_str_digits").isNone&&(h.get? sysModules).isSome
def obs(s:Shared):=(KAs.map s.heap.get?,B1.map λx=>Pf<|Nh s.heap x.c,(QO++Jd).map λx=>s.heap.nsMap cg<|o x.1,QN.map λx=>(s.heap.nsMap cg<|o x.1,s.heap.nsMap fY<|o x.1),Tz s.heap)
def val(w:cD):=((KA w.params).map λx=>some x.2,B1.map λx=>some<|o x.q,(QO++Jd).map λx=>some x.2,QN.map λx=>((none:Option Value),some x.2),true)
noncomputable abbrev X1:=PySem.W.Fast.tw10110043849684766642
noncomputable abbrev Uh:=PySem.W.Fast.tw14364793385576792824
noncomputable abbrev Ub:=PySem.W.Fast.tw15667345088766844465
noncomputable def ofL:List Obj->Nat->BT->BT
 |[],_,t=>t
 |ob::l,n,t=>ofL l (n+1)<|t.ins n ob
def toT(s:Shared):SharedT:=⟨ofL s.heap.objs.toList 0 .nil,s.heap.objs.size,s.heap.life,s.gens,s.drawn,s.toks,s.os⟩
noncomputable def s0(w:cD)(os:tM):Shared:=⟨tL w.params,#[],boot_drawn,boot_toks,os⟩
noncomputable def p0:Pos:={line:=0,col:=0,endLine:=0,endCol:=0}
noncomputable def p1:Pos:={line:=630,col:=0,endLine:=636,endCol:=15}
def Nt:List Stmt:=behindTheImports pr
def env:Env:={scope:=pr.main.scope,locals:=mainNs,globals:=mainNs,cells:=[],code:=.ref 13,frame:=some 14}
def stA(w:cD)(os:tM):SharedT:=(Ub Uh pr w 11 (some<|.ref 6) 12 (s0 w os)<|topStub pr).elim ⟨.nil,0,{},#[],{},0,os⟩ λr=>toT r.1
def OL(w:cD)(os:tM):Option (Flow×SharedT×Code×Pos):=X1 Uh pr w 11 (some<|.ref 6) 1 6000 (stA w os)<|piecesOf Nt env (nH Nt env) p0 [CH p0]
def fl(h:Heap)(s:Shared):Bool:=staticsOk (jE pr.main.body) h s.heap&&namesBound pr s.heap&&gensDone s&&laidKept h s.heap
def q:Program:={pr with main:={pr.main with body:=pr.main.body.drop 73}}
def rD:List Str:=Jd.map λx=>o x.1
noncomputable def Xt(s:Shared):Bool:=true
theorem aek(w:cD)(os:tM):topGo j0 pr w 11 (some<|.ref 6) 12 (s0 w os) (topStub pr)=some ((stA w os).abs,⟨denote j0<|.body Nt env,nH Nt env,p0,[CH p0]⟩):=by kernel_rfl
theorem aej(w:cD)(os:tM):(OL w os).map (λr=>(r.1,r.2.2,fl (tL w.params) r.2.1.abs,openSeen q rD (jE pr.main.body) Xt true r.2.1.abs,obs r.2.1.abs))=some (.next,(nH Nt env,p1),true,openGood q rD,val w):=by kernel_rfl
theorem aei(w:cD)(s:Shared):segRun j0 pr w 11 (some<|.ref 6) 1 1 s (blockOf Nt env (nH Nt env) p0 [CH p0])=some (.next,s,nH Nt env,p0):=by kernel_rfl
theorem aeg(w:cD)(s:Shared):topRun j0 pr w 11 (some<|.ref 6) 2 s ⟨doneF .next,nH Nt env,p1,[CH p0]⟩=some s:=by kernel_rfl
theorem aea(w:cD):((tL w.params).isNs cg&&(Array.mk []:Array GenState).size==0,(tL w.params).objs.size,(tL w.params).nsMap cg "__annotations__")=(true,11,some<|.ref 6):=by kernel_rfl
theorem Tw(w:cD)(os:tM):OL w os=segRunT j0 pr w 11 (some<|.ref 6) 1 6000 (stA w os) (piecesOf Nt env (nH Nt env) p0 [CH p0]):=by unfold OL X1 Uh;rw[<-PySem.W.Fast.te10110043849684766642,<-PySem.W.Fast.te14364793385576792824]
theorem J3(w:cD)(os:tM):∃s:Shared,topRun j0 pr w 11 (some<|.ref 6) 6015 (s0 w os) (topStub pr)=some s/\fl (tL w.params) s=true/\openSeen q rD (jE pr.main.body) Xt true s=openGood q rD/\obs s=val w:=by obtain⟨⟨f,s,c,p⟩,h,H⟩:=be.mp<|aej w os;simp only[iQ] at H;obtain⟨rfl,⟨rfl,rfl⟩,a,b,d⟩:=H;rw[Tw] at h;exact⟨s.abs,go_top (n:=12) (N:=1+(6000+2)) (aek w os)<|piece_block (n:=1) (aei w _) (by have:=piece_app (rest:=[]) (segRun_of h)<|piece_nil<|aeg w s.abs;rwa[a9] at this),a,b,d⟩
theorem Qv{Xt:Shared->Bool}{c:Type}{f:Shared->c}{Y:cD->c}{H:jj->Heap}
  (n:∀w:cD,(fencedOpening j0 p w N).map (λs=>(s.heap,s.gens,s.drawn,s.toks))=some (H w.params,g,D,a))
  (size:∀w:cD,((H w.params).isNs cg&&g.size==0,(H w.params).objs.size,(H w.params).nsMap cg "__annotations__")=(true,m,A))
  (OL:∀(w:cD)(os:tM),∃s,topRun j0 p w m A N ⟨H w.params,g,D,a,os⟩ (topStub p)=some s/\(staticsOk (jE p.main.body) (H w.params) s.heap&&namesBound p s.heap&&gensDone s&&laidKept (H w.params) s.heap)=true/\
   openSeen q rD (jE p.main.body) Xt true s=openGood q rD/\f s=Y w):LeftO p q rD Xt f Y N:=λw=>by
 obtain⟨⟨h,G,d,k,os⟩,e,j⟩:=be.mp<|n w
 obtain⟨rfl,rfl,rfl,rfl⟩:h=H w.params/\G=g/\d=D/\k=a:=by simpa using j
 obtain⟨z,x,y⟩:_/\_/\_:=by simpa only[iQ] using size w
 obtain⟨s,r,l,L,v⟩:=OL w os
 have t:topFrom j0 p w N ⟨H w.params,G,d,k,os⟩=some s:=by unfold topFrom;dsimp only;rw[z,x,y,r];show(match (staticsOk (jE p.main.body) (H w.params) s.heap&&namesBound p s.heap&&gensDone s&&laidKept (H w.params) s.heap) with|true=>_|false=>_)=_;rw[l]
 unfold openEnds
 rw[e]
 show(topFrom j0 p w N _).map _=_
 rw[t]
 exact congrArg some<|R2 L v
theorem left:LeftO pr q rD Xt obs val 6015:=Qv (boot_open rfl (by decide) λz=>rfl) aea J3
def glT(x:Str):Option Value:=((Jd++QN).find? λp=>hH (o p.1) x).map (·.2)
def Ag(x:Str):Nat:=(tQ.findIdx? λy=>hH y x).getD 999
def DR(x:Str):Nat:=if hH x (o "noted") then 0 else 1
def XS:TC:={gl:=glT,ns:=[],at_:=Ag,nst:=DR,uq:=515}
def Ls(a:Nat):Str:=(tQ[a]?).getD ⟨#[a+1000]⟩
theorem EF:tQ.Nodup:=by decide+kernel
theorem yA:∀x∈tQ,x.cps.size≠1:=by decide+kernel
theorem P8(a b:Nat)(h:Ls a=Ls b):a=b:=by
 unfold Ls at h;cases ha:tQ[a]? with
 |some x=>
  rw[ha] at h;cases hb:tQ[b]? with
  |some y=>rw[hb] at h;obtain rfl:x=y:=h;obtain⟨d,H⟩:=af.mp ha;obtain⟨e,c⟩:=af.mp hb;exact(List.getElem_inj EF).mp<|H.trans c.symm
  |none=>rw[hb] at h;obtain rfl:x=⟨#[b+1000]⟩:=h;exact absurd rfl<|yA _<|aH ha
 |none=>
  rw[ha] at h;cases hb:tQ[b]? with
  |some y=>rw[hb] at h;obtain rfl:⟨#[a+1000]⟩=y:=h;exact absurd rfl<|yA _<|aH hb
  |none=>
   rw[hb] at h;have h:=h;injection h with h
   injection h with h
   injection h with h _
   exact Nat.add_right_cancel h
theorem Yg(x:Str)(h:Ag x<gT):Ls (Ag x)=x:=by
 unfold Ag at h ⊢;cases q:tQ.findIdx? λy=>hH y x with
 |none=>rw[q] at h;exact absurd h (by decide)
 |some i=>obtain⟨I,H,_⟩:=bo.mp q;show Ls i=x;unfold Ls;rw[ax I];exact mD H
def qG(i j:Nat):Option (Str×el×List Stmt×Scope×Pos):=match ((oq i none).getD default).2.2.1[j]? with
 |some (.FunctionDef n s b _ _ _ C _ _ p)=>some (n,s,b,C,p)
 |_=>none
def nI(i j:Nat)(q:Str):lH:=let x:=(qG i j).getD default
 {name:=x.1,qual:=q++".<locals>."++x.1,params:=x.2.1,body:=x.2.2.1,scope:=x.2.2.2.1,free:=(x.2.2.2.1.names.filter λp=>p.2==.free).map (·.1)}
def DY:lH:=nI 11 1<|o "regions_in"
def DX:lH:=nI 14 5<|o "fields_of"
def HV:Pos:=((qG 11 1).getD default).2.2.2.2
def Lg:Pos:=((qG 14 5).getD default).2.2.2.2
noncomputable def iI(b:Addr):Bool:=b==82||b==103
def oZ(h:Heap)(P:Addr)(p:Pos)(c:Addr):Prop:=h.get? P=some (mR #[fN p.line,fN p.col,.ref c])
def uu(h:Heap)(P:Addr)(p:Pos):Prop:=h.get? P=some (mR #[])\/∃c,oZ h P p c
theorem uu.keep{h h':Heap}(x:uu h P p)(H:iI P=true)(k:∀b o,h.get? b=some o->iI b=true->h'.get? b=some o):uu h' P p:=
 x.imp (λe=>k _ _ e H) (aA λz e=>k _ _ e H)
theorem uu.there(x:uu h P p):∃ob,h.get? P=some ob:=x.elim (λe=>⟨_,e⟩) λz=>z.elim λy e=>⟨_,e⟩
theorem uu.codes{h h':Heap}(x:uu h P p)(H:iI P=true)(k:∀b o,h.get? b=some o->iI b=true->h'.get? b=some o)(e:oZ h' P p c):oZ h P p c:=by
 rcases x with q|⟨C,q⟩
 ·have:=(k _ _ q H).symm.trans e;injection this with this
  injection this with _ _ this
  injection this with this
  injection this with this
  cases this
 ·have:=(k _ _ q H).symm.trans e;injection this with this
  injection this with _ _ this
  injection this with this
  injection this with this
  injection this with _ this
  injection this with _ this
  injection this with this
  injection this with this
  subst this;exact q
def ZZ(w:cD)(s:Shared):dg where
 prog:=pr
 w:=w
 nm:=Ls
 SA:=P8
 r6 a:=EA.any λx=>x.a==a
 nest k:=if k==0 then some DY else if k==1 then some DX else none
 base b:=if iI b then none else s.heap.get? b
 tab:=iI
 me h:=uu h 82 HV/\uu h 103 Lg
 kU h h' x k _:=⟨x.1.keep rfl k,x.2.keep rfl k⟩
 A0 h b x e:=by
  rcases eI.mp e with e|e
  ·rw[beq_iff_eq.mp e];exact x.1.there
  ·rw[beq_iff_eq.mp e];exact x.2.there
 j8 h c q:=(oZ h 82 HV c/\q=DY.qual)\/(oZ h 103 Lg c/\q=DX.qual)
 yy h h' x k c q:=Or.imp (cx<|x.1.codes rfl k) (cx<|x.2.codes rfl k)
 s₀:=s
structure jY(w:cD)(h:Heap):Prop where
 w7:(KA w.params).In h
 code:∀x∈B1,h.CodeRec (.ref x.c) (o x.q)
 g:∃mg,h.Ns cg mg/\(∀x∈QO++Jd,mg (o x.1)=some x.2)/\∀x∈QN,mg (o x.1)=none
 b:∃mb,h.Ns fY mb/\∀x∈QN,mb (o x.1)=some x.2
 st:∃mc,h.Ns CR mc/\mc "sys.recursionlimit"=none/\mc "sys.int_max_str_digits"=none
 sys:∃ob,h.get? sysModules=some ob
theorem jY.keeps(w:cD)(h h':Heap)(x:jY w h)(k:∀b o,h.get? b=some o->h'.get? b=some o):jY w h':=
 ⟨λa ob e=>k _ _<|x.w7 a ob e,λy H=>(x.code y H).keeps k,x.g.imp λz=>cx λa=>a.keeps k,x.b.imp λz=>cx λa=>a.keeps k,x.st.imp λz=>cx λa=>a.keeps k,x.sys.imp λz=>k _ _⟩
theorem gK{l:List b}(h:l.map f=l.map g):∀x∈l,f x=g x:=by
 induction l with
 |nil=>intro x H;exact absurd H aJ
 |cons a l i=>
  rw[cA,cA,E5] at h;intro x H;rcases aQ.mp H with e|e
  ·rw[e];exact h.1
  ·exact i h.2 x e
theorem WV(P:jj):KAs=(KA P).map (·.1):=rfl
theorem PN(w:cD)(s:Shared)(h:obs s=val w):jY w s.heap:=by
 have g:=congrArg i8 h;have e2:B1.map (λx=>Pf<|Nh s.heap x.c)=B1.map (λx=>some<|o x.q):=congrArg (λx=>x.2.1) h;have i:=congrArg (λx=>x.2.2.1) h;have a:QN.map (λx=>(s.heap.nsMap cg<|o x.1,s.heap.nsMap fY<|o x.1))=QN.map (λx=>(none,some x.2)):=congrArg (λx=>x.2.2.2.1) h;have e:=congrArg (λx=>x.2.2.2.2) h;have e:Tz s.heap=true:=e;unfold Tz at e;simp only[dr] at e;obtain⟨⟨⟨⟨⟨A,b⟩,a3⟩,c⟩,d⟩,f⟩:=e;refine⟨Frag.in_of (WV w.params) g,λx H=>?_,⟨_,uj A,gK i,λx H=>congrArg i8<|gK a x H⟩,⟨_,uj b,λx H=>congrArg qf<|gK a x H⟩,⟨_,uj a3,bB.mp c,bB.mp d⟩,gh.mp f⟩;have:=gK e2 x H;unfold Nh at this;cases ho:s.heap.get? x.c with
 |none=>rw[ho] at this;exact aR this
 |some ob=>
  rw[ho] at this;have this:Pf (match ob.data with|.fields vs=>vs[1]?|_=>none)=some (o x.q):=this;cases hd:ob.data with
  |fields vs=>
   rw[hd] at this;have this:Pf vs[1]? =some (o x.q):=this;cases hv:vs[1]? with
   |none=>rw[hv] at this;exact aR this
   |some v=>
    rw[hv] at this;cases v with
    |str z t=>exact⟨x.c,ob,vs,t,rfl,ho,hd,by rw[hv,<-aa this]⟩
    |_=>exact aR this
  |_=>rw[hd] at this;exact aR this
def M9(a:Addr):List SV:=if a==128 then [.none,.none] else if a==608 then [.str<|o "",.tup []] else if a==630 then [.int 0] else if a==652 then [.none] else []
noncomputable def UY(a:Addr):Bool:=a==673||a==345
def FD.fn(x:FD):Fn:=J2 XS (UY x.a) x.it.2.1 (M9 x.a) x.it.2.2.1 x.it.2.2.2
theorem trU:B1.map (λx=>(x.a,x.fn))=fnL:=by kernel_rfl
theorem tr0:J2 XS false DY.params [] DY.body DY.scope=n0:=by kernel_rfl
theorem tr1:J2 XS false DX.params [] DX.body DX.scope=n1:=by kernel_rfl
theorem ad8:(B1.all λx=>BW x.it.2.1 x.it.2.2.2 (M9 x.a)&&x.it.2.2.2.names.all λp=>!(p.2==.free))=true:=by kernel_rfl
theorem ZG:(BW DY.params DY.scope []&&DY.body.all nO&&(BW DX.params DX.scope []&&DX.body.all nO))=true:=by kernel_rfl
theorem aeh:(B1.all λx=>(x.a==87&&x.c==86&&x.i==11&&x.k.isNone&&x.q=="regions_in")||(x.a==106&&x.c==105&&x.i==14&&x.k.isNone&&x.q=="fields_of")||x.it.2.2.1.all nO)=true:=by kernel_rfl
theorem ZE:((((oq 11 none).getD default).2.2.1.take 1).all nO&&(((oq 11 none).getD default).2.2.1.drop 2).all nO&&((((oq 14 none).getD default).2.2.1.take 5).all nO&&(((oq 14 none).getD default).2.2.1.drop 6).all nO))=true:=by kernel_rfl
theorem aec(P:jj):EA.map (λx=>makesIn (KF P) x.a)=EA.map (λz=>true):=by kernel_rfl
theorem Wd(P:jj):EA.map (λx=>(de (KF P) (.ref x.a) "__getattribute__",de (KF P) (.ref x.a) "__getattr__",de (KF P) (.ref x.a) "__setattr__"))=EA.map (λz=>(some<|some<|.builtin "object.__getattribute__",some none,some<|some<|.builtin "object.__setattr__")):=by kernel_rfl
theorem ZI(P:jj):EA.map (λx=>((clsIn (KF P) x.a).any (·.hasDict),plainOver (KF P) x.a))=EA.map (λz=>(true,true)):=by kernel_rfl
theorem aef(P:jj):Nj.map (λx=>(de (KF P) (.ref x.1) "__init__",typeIn (KF P)<|.ref x.2.init))=Nj.map (λx=>(some<|some<|.ref x.2.init,some<|.type "function")):=by kernel_rfl
theorem ad9(P:jj):EA.map (λx=>(ak 67).map λa=>(Ol.contains<|Ls a,takerIn (KF P) x.a<|Ls a,de (KF P) (.ref x.a)<|Ls a))=EA.map (λx=>(ak 67).map λa=>(false,some none,some<|(prog.meths x.a a).map lK)):=by kernel_rfl
theorem ZH(P:jj):(Bv.flatMap (·.2)).map (λf=>(typeIn (KF P)<|.ref f.2,I3 (KF P) (.ref f.2) "__get__",takesIn (KF P)<|.ref f.2))=(Bv.flatMap (·.2)).map (λz=>(some<|.type "function",some<|some<|.builtin "function.__get__",some false)):=by kernel_rfl
section
variable{w:cD}{bG:Shared}
theorem NJ{P:jj}{ob:Obj}(h:(KF P).lookup a=some ob):(KA P).lookup a=some ob:=by unfold KA;rw[I4,h];rfl
theorem NI:∀{P:jj}{a:Addr}{ob:Obj},(KF P).lookup a=some ob->iI a=false:=by
 intro P a ob h;cases q:iI a with
 |false=>rfl
 |true=>
  exfalso;rcases eI.mp q with e|e
  ·rw[beq_iff_eq.mp e] at h;exact bU _<|h.symm.trans<|by kernel_rfl
  ·rw[beq_iff_eq.mp e] at h;exact bU _<|h.symm.trans<|by kernel_rfl
theorem fm{ob:Obj}(h:bG.heap.get? a=some ob)(t:iI a=false):(ZZ w bG).base a=some ob:=by show(if iI a then none else bG.heap.get? a)=_;rw[t];exact h
theorem P2{ob:Obj}(h:(ZZ w bG).base a=some ob):bG.heap.get? a=some ob/\iI a=false:=by
 have h:(if iI a then none else bG.heap.get? a)=some ob:=h;cases q:iI a with
 |true=>rw[q] at h;exact aR h
 |false=>rw[q] at h;exact⟨h,rfl⟩
theorem UX(h:(ZZ w bG).r6 a=true):∃x∈EA,x.a=a:=by refine dn (uH.mp h) λx H e=>⟨x,H,beq_iff_eq.mp e⟩
theorem F6(Y:jY w bG.heap):∀a ob,(KF w.params).lookup a=some ob->(ZZ w bG).base a=some ob:=λa ob h=>fm (Y.w7 a ob<|NJ h)<|NI h
theorem FW(h:prog.meths c a=some f):(a,f)∈Bv.flatMap (·.2):=by
 refine dn (fo.mp h) λl H d=>?_;have m:∀{b:Type}{L:List (Nat×b)}{k:Nat}{v:b},L.lookup k=some v->(k,v)∈L:=by
  intro b L k v e;induction L with
  |nil=>exact aR e
  |cons p r i=>
   obtain⟨j,x⟩:=p;rw[bY] at e;cases q:k==j with
   |true=>rw[q] at e;rw[beq_iff_eq.mp q,<-aa e];exact aw ..
   |false=>rw[q] at e;exact ay _<|i e
 exact uF.mpr ⟨_,m H,m d⟩
theorem LA:∀p∈Bv.flatMap (·.2),p.1<gT:=by decide+kernel
theorem kok(Y:jY w bG.heap):wZ (ZZ w bG) (KF w.params) prog.meths where
 YD:=F6 Y
 low c a f h:=LA _ (FW h)
 ga c hc:=(UX hc).elim λx z=>z.2▸congrArg i8 (gK (Wd w.params) x z.1)
 gn c hc:=(UX hc).elim λx z=>z.2▸congrArg (λz=>z.2.1) (gK (Wd w.params) x z.1)
 sa c hc:=(UX hc).elim λx z=>z.2▸congrArg (λz=>z.2.2) (gK (Wd w.params) x z.1)
 cd c hc:=(UX hc).elim λx z=>z.2▸congrArg i8 (gK (ZI w.params) x z.1)
 po c hc:=(UX hc).elim λx z=>z.2▸congrArg qf (gK (ZI w.params) x z.1)
 at_ c a hc ha:=by
  refine dn (UX hc) λx d b=>?_;subst b;have h:=gK (gK (ad9 w.params) x d) a<|bV.mpr ha;refine⟨congrArg i8 h,congrArg (λz=>z.2.1) h,?_⟩;have h3:=congrArg (λz=>z.2.2) h;have h3:W.findIn (KF w.params) (.ref x.a) (Ls a)=some ((prog.meths x.a a).map lK):=h3;cases q:prog.meths x.a a with
  |none=>rw[q] at h3;exact .inl ⟨h3,rfl⟩
  |some f=>rw[q] at h3;have H:=gK (ZH w.params) _<|FW q;exact .inr ⟨f,h3,rfl,congrArg i8 H,congrArg (λz=>z.2.1) H,congrArg (λz=>z.2.2) H⟩
theorem nmm:NmM (ZZ w bG):=⟨rfl,rfl,rfl,rfl,rfl,rfl⟩
theorem Su{mg m:Str->Option Value}(Y:jY w bG.heap)(H:bG.heap.Ns cg mg)(h:bG.heap.Ns fY m):wU (ZZ w bG) mg m where
 g:=(kB H).imp λy z=>⟨fm z.1 rfl,z.2⟩
 b:=(kB h).imp λy z=>⟨fm z.1 rfl,z.2⟩
 st:=Y.st.elim λc z=>(kB z.1).imp λob q=>⟨c,fm q.1 rfl,q.2,z.2.1,z.2.2⟩
theorem Vg{mg b:Str->Option Value}(g:(∀x∈QO++Jd,mg (o x.1)=some x.2)/\∀x∈QN,mg (o x.1)=none)(B:∀x∈QN,b (o x.1)=some x.2)(x:Str)(v:Value)(h:glT x=some v):mg x=some v\/(mg x=none/\b x=some v):=by
 refine dn (be.mp h) λp H z=>?_;subst z;have a:=mD<|n9 (p:=λ(p:String×Value)=>hH (o p.1) x) H;subst a;rcases b4.mp (yQ H) with m|m
 ·exact .inl<|g.1 p<|ib _ m
 ·exact .inr ⟨g.2 p m,B p m⟩
theorem Up:SG w #[] (PL w.params) (λz=>False):=
 ⟨λz h=>(absurd h aJ),λz h=>False.elim h,fg,λz h=>False.elim h,rfl,rfl,by
  unfold PL;cases w.params.followText "set-order" with
  |true=>exact .inl rfl
  |false=>exact .inr rfl⟩
theorem P5(Y:jY w bG.heap):(ZZ w bG).base 515=some (wj #[] 0 (PL w.params)):=fm (Y.w7 _ _<|rfl) rfl
theorem XR(Y:jY w bG.heap):iw (ZZ w bG) XS where
 gl:=Y.g.imp λy z=>Y.b.imp λy q=>⟨Su Y z.1 q.1,Vg z.2 q.2⟩
 uq:=⟨0,_,P5 Y,Up⟩
 at_:=Yg
theorem Td(Y:jY w bG.heap){C:bH}(H:nA (ZZ w bG) n C):sP (ZZ w bG) (KF w.params) prog.meths n C:=
 ⟨kok Y,nmm,H,Y.sys.imp λz h=>fm h rfl⟩
theorem Z0(P:jj):(KA P).lookup 86=some (ZL "regions_in" 275 276 277 282 47 1 81 82 85 (.ref 83) (.ref 84) 281):=by kernel_rfl
theorem Tf(P:jj):(KA P).lookup 105=some (ZL "fields_of" 306 307 308 310 76 3 102 103 104 .none .none 309):=by kernel_rfl
theorem Nm{h:Heap}(O:h.get? a=some (ZL n t d f g l c A b e v V i))(H:a≠b):CodeHd h a b:=
 ⟨_,_,_,_,_,_,_,_,_,O,rfl,rfl,rfl,rfl,rfl,rfl,rfl,rfl,H⟩
theorem XG{mg:Str->Option Value}(Y:jY w bG.heap)(g:∀x∈QO++Jd,mg (o x.1)=some x.2)(H:4≠P)(h:Heap)(B:∀b o,(ZZ w bG).base b=some o->h.get? b=some o):h.BuiltinsAt mg P:=
 ⟨4,_,g ("__builtins__",.ref 4) (aw ..),by decide,by decide,H,B _ _<|fm (Y.w7 4 {cls:=.type "module",dict:=some 0}<|rfl) rfl,rfl,rfl,rfl⟩
theorem AY{h h':Heap}(x:uu h P p)(e:h.get? P=some (mR s))(n:mK p s.toList=none)(a:h'.get? P=some (mR<|s++#[fN p.line,fN p.col,.ref C])):oZ h' P p C:=by
 rcases x with q|⟨c,q⟩
 ·have:=q.symm.trans e;injection this with this
  injection this with _ _ this
  injection this with this
  subst this;exact a
 ·have:=q.symm.trans e;injection this with this
  injection this with _ _ this
  injection this with this
  subst this;exfalso;simp[mK,fN] at n
theorem AZ(x:uu h P p):∃s,h.get? P=some (mR s)/\TriplesOk s.toList/\(mK p s.toList=none\/∃C,mK p s.toList=some (.ref C)/\oZ h P p C):=by
 rcases x with q|⟨c,q⟩
 ·exact xX _ q trivial<|.inl rfl
 ·exact xX _ q trivial<|.inr ⟨c,by simp[mK,fN],q⟩
theorem pI(a:oZ h P p c)(b:oZ h P p C):c=C:=by
 have:=a.symm.trans b;injection this with this
 injection this with _ _ this
 injection this with this
 injection this with this
 injection this with _ this
 injection this with _ this
 injection this with this
 injection this with this
theorem adj{mg:Str->Option Value}(Y:jY w bG.heap)(h1:bG.heap.Ns cg mg)(g:∀x∈QO++Jd,mg (o x.1)=some x.2):sq (ZZ w bG) mg 86 82 HV DY.qual where
 tab:=rfl
 ns:=(kB h1).imp λu z=>⟨fm z.1 rfl,z.2⟩
 bi:=XG Y g (by decide)
 ne:=by decide
 code h x hb:=⟨Nm (hb _ _<|fm (Y.w7 86 _<|Z0 _) rfl) (by decide),(AZ x.1).imp λu z=>⟨z.1,z.2.1,z.2.2.imp id<|aA λu=>aG λe=>.inl ⟨e,rfl⟩⟩⟩
 grow h h' ps c' x e hn k e':=by
  have y:=AY x.1 e hn e';have d:=λb ob e ne=>k b ob ne e;refine⟨⟨.inr ⟨c',y⟩,x.2.imp (λq=>d _ _ q<|by decide)<|aA λu q=>d _ _ q<|by decide⟩,λC q H=>?_⟩;rcases H with ⟨a,rfl⟩|⟨a,rfl⟩
  ·exact .inr ⟨pI a y,rfl⟩
  ·refine .inl<|.inr ⟨?_,rfl⟩;rcases x.2 with q|⟨c,q⟩
   ·have:=(d _ _ q<|by decide).symm.trans a;injection this with this
    injection this with _ _ this
    injection this with this
    injection this with this
    cases this
   ·have:=d _ _ q (by decide);rw[pI a this];exact q
theorem adi{mg:Str->Option Value}(Y:jY w bG.heap)(h1:bG.heap.Ns cg mg)(g:∀x∈QO++Jd,mg (o x.1)=some x.2):sq (ZZ w bG) mg 105 103 Lg DX.qual where
 tab:=rfl
 ns:=(kB h1).imp λu z=>⟨fm z.1 rfl,z.2⟩
 bi:=XG Y g (by decide)
 ne:=by decide
 code h x hb:=⟨Nm (hb _ _<|fm (Y.w7 105 _<|Tf _) rfl) (by decide),(AZ x.2).imp λu z=>⟨z.1,z.2.1,z.2.2.imp id<|aA λu=>aG λe=>.inr ⟨e,rfl⟩⟩⟩
 grow h h' ps c' x e hn k e':=by
  have y:=AY x.2 e hn e';have d:=λb ob e ne=>k b ob ne e;refine⟨⟨x.1.imp (λq=>d _ _ q<|by decide)<|aA λu q=>d _ _ q<|by decide,.inr ⟨c',y⟩⟩,λC q H=>?_⟩;rcases H with ⟨a,rfl⟩|⟨a,rfl⟩
  ·refine .inl<|.inl ⟨?_,rfl⟩;rcases x.1 with q|⟨c,q⟩
   ·have:=(d _ _ q<|by decide).symm.trans a;injection this with this
    injection this with _ _ this
    injection this with this
    injection this with this
    cases this
   ·have:oZ h' 82 HV c:=d _ _ q (by decide);rw[pI a this];exact q
  ·exact .inr ⟨pI a y,rfl⟩
end
noncomputable def kd(a:Addr):Nat:=if a==128 then 1 else if a==608 then 2 else if a==630 then 3 else if a==652 then 4 else 0
noncomputable def dvK:Nat->Value
 |1=>.ref 121|2=>.ref 601|3=>.ref 623|4=>.ref 645|_=>.none
def dfK:Nat->List SV
 |1=>[.none,.none]|2=>[.str<|o "",.tup []]|3=>[.int 0]|4=>[.none]|_=>[]
def dsK:Nat->List Value
 |1=>[.none,.none]|2=>[.str (o "") 1071,.ref 600]|3=>[.int 0 1113]|4=>[.none]|_=>[]
theorem aee:B1.map (λx=>(x.d,M9 x.a))=B1.map (λx=>(dvK<|kd x.a,dfK<|kd x.a)):=by kernel_rfl
theorem aeb:B1.map (λx=>iI x.a)=B1.map (λx=>false):=by kernel_rfl
theorem aed(P:jj):B1.map (λx=>(KF P).lookup x.a)=B1.map (λx=>some x.obj):=by kernel_rfl
theorem ad7:(Nj.map λc=>(EA.any λx=>x.a==c.1,match c.2.Lh with|.some []=>false|_=>true))=Nj.map λz=>(true,true):=by kernel_rfl
section
variable{w:cD}{bG:Shared}
theorem V6(Y:jY w bG.heap){h:Heap}(H:∀b o,(ZZ w bG).base b=some o->h.get? b=some o):∀k,Cv h (dvK k)<|dsK k
 |1=>.inr ⟨121,_,0,#[.none,.none],rfl,H _ _<|fm (Y.w7 121 {cls:=.type "tuple",data:=.seq #[.none,.none] 0}<|rfl) rfl,rfl,rfl⟩
 |2=>.inr ⟨601,_,0,#[.str (o "") 1071,.ref 600],rfl,H _ _<|fm (Y.w7 601 {cls:=.type "tuple",data:=.seq #[.str (o "") 1071,.ref 600] 0}<|rfl) rfl,rfl,rfl⟩
 |3=>.inr ⟨623,_,0,#[.int 0 1113],rfl,H _ _<|fm (Y.w7 623 {cls:=.type "tuple",data:=.seq #[.int 0 1113] 0}<|rfl) rfl,rfl,rfl⟩
 |4=>.inr ⟨645,_,0,#[.none],rfl,H _ _<|fm (Y.w7 645 {cls:=.type "tuple",data:=.seq #[.none] 0}<|rfl) rfl,rfl,rfl⟩
 |0=>.inl ⟨rfl,rfl⟩
 |_+5=>.inl ⟨rfl,rfl⟩
theorem Ut(Y:jY w bG.heap):∀k,dD (ZZ w bG) (ZZ w bG).base [] (dfK k)<|dsK k
 |1=>⟨_,_,rfl,rfl,_,_,rfl,rfl,rfl⟩
 |2=>⟨_,_,rfl,⟨_,rfl⟩,_,_,rfl,⟨600,#[],0,rfl,fm (Y.w7 600 {cls:=.type "tuple",data:=.seq #[] 0}<|rfl) rfl,rfl⟩,rfl⟩
 |3=>⟨_,_,rfl,⟨_,rfl⟩,rfl⟩
 |4=>⟨_,_,rfl,rfl,rfl⟩
 |0=>rfl
 |_+5=>rfl
theorem FQ(e:((oq i none).getD default).2.2.1[j]? =some (.FunctionDef name p d D r t s ts b O)):qG i j=some (name,p,d,s,O):=by unfold qG;rw[e]
theorem Qc(Y:jY w bG.heap)(k:bG.heap.Ns cg mg)(G:∀x∈QO++Jd,mg (o x.1)=some x.2)
  (e:((oq 11 none).getD default).2.2.1[1]? =some (.FunctionDef name a b [] none [] s none name O)) (r:m9 s.names=some x):qR (ZZ w bG) mg (DR name) (λenv=>env.code=.ref 86/\env.qual=o "regions_in"++".<locals>.") name a b s O x:=by
 have q:=FQ e
 have A:(qG 11 1).map (λz=>(DR z.1,z.2.1.defaults.isEmpty,z.2.1.kw_defaults.isEmpty))=some (0,true,true):=rfl
 rw[q] at A
 injection A with A
 simp only[iQ] at A
 refine nK A λB i j=>?_
 have h:DY={name:=name,qual:=o "regions_in"++".<locals>."++name,params:=a,body:=b,scope:=s,free:=(s.names.filter λp=>p.2==.free).map (·.1)}:=by unfold DY nI;rw[q];rfl
 have m:HV=O:=by unfold HV;rw[q];rfl
 have H:∀env,annTrees DY.params none env=[]:=λenv=>rfl
 have d:(ZZ w bG).nest (DR name)=some DY:=by rw[B];rfl
 refine⟨⟨DY,d,by rw[h],by rw[h],by rw[h],?_⟩,bg.mp i,bg.mp j,λenv=>?_,λenv I f N=>?_⟩
 ·rw[h];refine dn (be.mp r) λp l c=>?_;subst c;show(s.names.filter λp=>p.2==.free).map (·.1)=[p.1];rw[jq l id];rfl
 ·have:=H env;rw[h] at this;exact this
 ·obtain rfl:=aa<|d.symm.trans N;exact⟨86,82,f.1,m▸adj Y k G,by rw[f.2,h]⟩
theorem Qb(Y:jY w bG.heap)(k:bG.heap.Ns cg mg)(G:∀x∈QO++Jd,mg (o x.1)=some x.2)
  (e:((oq 14 none).getD default).2.2.1[5]? =some (.FunctionDef name a b [] none [] s none name O)) (r:m9 s.names=some x):qR (ZZ w bG) mg (DR name) (λenv=>env.code=.ref 105/\env.qual=o "fields_of"++".<locals>.") name a b s O x:=by
 have q:=FQ e
 have A:(qG 14 5).map (λz=>(DR z.1,z.2.1.defaults.isEmpty,z.2.1.kw_defaults.isEmpty))=some (1,true,true):=rfl
 rw[q] at A
 injection A with A
 simp only[iQ] at A
 refine nK A λB i j=>?_
 have h:DX={name:=name,qual:=o "fields_of"++".<locals>."++name,params:=a,body:=b,scope:=s,free:=(s.names.filter λp=>p.2==.free).map (·.1)}:=by unfold DX nI;rw[q];rfl
 have m:Lg=O:=by unfold Lg;rw[q];rfl
 have H:∀env,annTrees DX.params none env=[]:=λenv=>rfl
 have d:(ZZ w bG).nest (DR name)=some DX:=by rw[B];rfl
 refine⟨⟨DX,d,by rw[h],by rw[h],by rw[h],?_⟩,bg.mp i,bg.mp j,λenv=>?_,λenv I f N=>?_⟩
 ·rw[h];refine dn (be.mp r) λp l c=>?_;subst c;show(s.names.filter λp=>p.2==.free).map (·.1)=[p.1];rw[jq l id];rfl
 ·have:=H env;rw[h] at this;exact this
 ·obtain rfl:=aa<|d.symm.trans N;exact⟨105,103,f.1,m▸adi Y k G,by rw[f.2,h]⟩
theorem MA(Y:jY w bG.heap)(H:x∈B1):pR (ZZ w bG) prog.meths x.a x.fn x.it.2.1 x.it.2.2.1 x.it.2.2.2 (o x.q) (.ref x.c) (dsK<|kd x.a):=by
 have V:=gK aee x H;have A:x.d=dvK (kd x.a):=congrArg i8 V;have G:M9 x.a=dfK (kd x.a):=congrArg qf V;have Q:=aZ.mp ad8 x H;refine sA Y.g λmg N U hg2=>⟨λn C hC=>?_,λh v=>?_,?_,λp hp e=>?_⟩
 ·refine yq (mg:=mg) (Td Y hC) (XR Y) (cn Q λa z=>a) λs l=>?_;have d:=aZ.mp aeh x H;rcases eI.mp d with d|d
  ·rcases eI.mp d with d|d
   ·exact cn d λd k=>cn d λd j=>cn d λd i=>cn d λd1 D=>by
     have D:=beq_iff_eq.mp D;have i:=beq_iff_eq.mp i;have j:=bB.mp j;have k:=beq_iff_eq.mp k;have I:x.it=(oq 11 none).getD default:=by unfold FD.it;rw[i,j]
     rw[I] at l;rcases Ck (cn ZE λa z=>a) s l with h|h
     ·exact .inl h
     ·refine .inr λm r B O L y e J=>?_;rw[D,k];exact Qc Y N U (e▸h) J
   ·exact cn d λd k=>cn d λd j=>cn d λd i=>cn d λd1 D=>by
     have D:=beq_iff_eq.mp D;have i:=beq_iff_eq.mp i;have j:=bB.mp j;have k:=beq_iff_eq.mp k;have I:x.it=(oq 14 none).getD default:=by unfold FD.it;rw[i,j]
     rw[I] at l;rcases Ck (cn ZE λz a=>a) s l with h|h
     ·exact .inl h
     ·refine .inr λm r B O L y e J=>?_;rw[D,k];exact Qb Y N U (e▸h) J
  ·exact .inl<|aZ.mp d s l
 ·refine⟨⟨x.obj,_,v _ _<|fm (Y.w7 _ _<|NJ<|gK (aed w.params) x H)<|gK aeb x H,rfl,rfl,rfl,rfl,rfl,rfl,rfl,rfl,rfl,?_⟩,?_⟩
  ·show Cv h x.d _;rw[A];exact V6 Y v _
  ·refine x44 (Y.code x H) λc ob vs t M e2 e3 e4=>y44 c ob vs t M (v _ _<|fm e2 ?_) e3 e4;have:=gK (f:=λx=>iI x.c) (g:=λz=>false) (rfl) x H;rw[<-o8 M];exact this
 ·show dD _ _ _ (M9 x.a) _;rw[G];exact Ut Y _
 ·have h:=aZ.mp (cn Q λz b=>b) p hp;rw[e] at h;exact ae h
theorem xT{b:Type}{L:List (Addr×b)}:∀{a:Addr}{v:b},L.lookup a=some v->(a,v)∈L:=by
 induction L with
 |nil=>intro _ _ e;exact aR e
 |cons p r i=>
  obtain⟨j,x⟩:=p;intro a v e;rw[bY] at e;cases q:a==j with
  |true=>rw[q] at e;rw[beq_iff_eq.mp q,<-aa e];exact aw ..
  |false=>rw[q] at e;exact ay _<|i e
theorem Bt(Y:jY w bG.heap){i:lH}(h:(BW i.params i.scope []&&i.body.all nO)=true)(e:J2 XS false i.params [] i.body i.scope=fn)(f:i.free=(i.scope.names.filter λp=>p.2==.free).map (·.1)):yG (ZZ w bG) prog.meths fn i:=by subst e;refine sA Y.g λm d G g=>⟨rfl,f,λn C code H=>yq (mg:=m) (Td Y H) (XR Y) (cn h λa z=>a) λs c=>.inl<|aZ.mp (cn h λz b=>b) s c⟩
theorem Uy(Y:jY w bG.heap):oY (ZZ w bG) (KF w.params) prog where
 top:=Y.g.imp λu z=>Y.b.imp λu q=>Su Y z.1 q.1
 fns a fn h:=by
  have m:=xT h;rw[<-trU] at m;refine dn (bw.mp m) λx H e=>?_;injection e with f e2
  subst f e2;exact y61 _ _ _ _ _ _ (MA Y H)
 cls a c h:=by have m:=xT h;have H:=gK ad7 _ m;have i:=gK (aef w.params) _ m;have d:(ZZ w bG).r6 a=true:=congrArg i8 H;refine dn (UX d) λy g b=>?_;subst b;exact⟨⟨F6 Y,gK (aec w.params) y g,congrArg i8 i,congrArg qf i,d⟩,λe=>by have q:(match c.Lh with|.some []=>false|_=>true)=true:=congrArg qf H;rw[e] at q;exact ae q⟩
 nest k fn h:=by
  have h:(if(k==0)=true then some n0 else if(k==1)=true then some n1 else none)=some fn:=h;cases q:k==0 with
  |true=>rw[q] at h;obtain rfl:=beq_iff_eq.mp q;exact⟨DY,rfl,Bt Y (cn ZG λa u=>a) (tr0.trans<|aa h) rfl⟩
  |false=>
   rw[q] at h;cases q1:k==1 with
   |true=>rw[q1] at h;obtain rfl:=beq_iff_eq.mp q1;exact⟨DX,rfl,Bt Y (cn ZG λu a=>a) (tr1.trans<|aa h) rfl⟩
   |false=>rw[q1] at h;exact aR h
end
abbrev Ap:Prop:=∀n:List Int,n.length<=63->oT prog 40 (.raw<|.ref 732) [.lst<|n.map SV.int] []=some (.bool true,[])
noncomputable abbrev x7:OpenLaw:=PySem.Challenge.rw_pf0171_01
theorem QD:Js R xs .int=true->∃n:List Int,xs=n.map qe:=by
 induction xs with
 |nil=>exact λz=>⟨[],rfl⟩
 |cons x xs I=>intro h;refine i9 (bK.mp (show(WShape.has R x .int&&Js R xs .int)=true from h)) λH b=>eS (hasW_int H) λi a=>?_;subst a;refine eS (I b) λn a=>?_;subst a;exact⟨i::n,rfl⟩
theorem Rx(h:x7.row.toRowW.claim.pre args=true):∃n:List Int,args=[.list<|n.map qe]/\n.length<=63:=by
 refine i9 (pre_splitW h) λc H=>iz (hasAllW_cons c) λd r a f g=>?_;subst a;refine dn (hasW_list f) λx z i=>?_;subst z;refine eS (QD i) λn z=>?_;subst z;obtain rfl:=hasAllW_nil g;refine⟨n,rfl,?_⟩;let F:Bool->Bool:=λb=>WTm.holds [] (.and (.not<|.lit<|.bool b) (.lit<|.bool true)) {args:=[.list<|n.map qe]};have e:x7.pre.holds [] {args:=[.list<|n.map qe]}=F (decide<|(63:Int)<((n.map qe).length:Int)):=rfl;have H:=e.symm.trans H;rw[ag] at H;cases q:decide ((63:Int)<n.length) with
 |true=>rw[q] at H;exact ae H
 |false=>exact fG.mp<|oh.mp<|of_decide_eq_false q
theorem KR:∀{n:List Int}{vs:List Value},WellAll P h vs (n.map qe)->dD Z g [] (n.map SV.int) vs:=λ{n}=>by
 induction n with
 |nil=>intro vs h;cases h;rfl
 |cons i n I=>
  intro vs h;cases h with
  |cons h r=>cases h with
   |int _ t=>exact xW _ _ rfl ⟨t,rfl⟩<|I r
section
variable{w:cD}{bG:Shared}
theorem Hn(Y:jY w bG.heap):bR (ZZ w bG) [] (ZZ w bG).base (λz=>none) [] bG where
 keep b ob e:=(P2 e).1
 fix b ob e:=aR e
 len:=rfl
 objs k ob p h:=aR h
 uniq i j x oi oj p q h:=aR h
 off k ob p x h:=aR h
 top b ob e:=e
 tabs:=⟨.inl<|Y.w7 82 _<|rfl,.inl<|Y.w7 103 _<|rfl⟩
 f6 b e:=⟨by show(if iI b then none else bG.heap.get? b)=none;rw[show iI b=true from e];rfl,rfl⟩
 q9 b ob e:=aR e
 same:=⟨rfl,rfl,rfl⟩
 codes c q h:=by
  have k:∀{P:Addr}{s:Pos},bG.heap.get? P=some (mR #[])->oZ bG.heap P s c->False:=λe a=>by
   have:=e.symm.trans a;injection this with this
   injection this with _ _ this
   injection this with this
   injection this with this
   cases this
  rcases h with ⟨a,_⟩|⟨a,_⟩
  ·exact(k (Y.w7 82 _<|rfl) a).elim
  ·exact(k (Y.w7 103 _<|rfl) a).elim
theorem IH:rj 40 callerA:=⟨rfl,by decide,by decide⟩
theorem L1(Y:jY w bG.heap)(h:iI b=true):isCodeTable bG.heap b:=by
 rcases eI.mp h with e|e
 ·rw[beq_iff_eq.mp e];exact⟨86,_,_,Y.w7 86 _<|Z0 _,rfl,rfl,rfl⟩
 ·rw[beq_iff_eq.mp e];exact⟨105,_,_,Y.w7 105 _<|Tf _,rfl,rfl,rfl⟩
theorem FK{h':Heap}(Y:jY w bG.heap){p:Pos}(h:iI P=true)(e:bG.heap.get? P=some (mR #[]))(x:uu h' P p){ob:Obj}(a:bG.heap.get? P=some ob):asItWas bG.heap h' P ob:=by
 obtain rfl:=aa<|e.symm.trans a;rcases x with q|⟨c,q⟩
 ·exact .inl q
 ·exact .inr<|.inl ⟨L1 Y h,rfl,#[],#[fN p.line,fN p.col,.ref c],rfl,q⟩
theorem Yd{st:List SO}(Y:jY w bG.heap)(S:bR (ZZ w bG) st g f ρ s'):OldK bG.heap s'.heap:=by
 have k:∀b ob,bG.heap.get? b=some ob->asItWas bG.heap s'.heap b ob:=λb ob e=>by
  cases q:iI b with
  |false=>exact .inl<|S.eC b ob<|fm e q
  |true=>
   rcases eI.mp q with r|r
   ·obtain rfl:=beq_iff_eq.mp r;exact FK Y rfl (Y.w7 82 _<|rfl) S.tabs.1 e
   ·obtain rfl:=beq_iff_eq.mp r;exact FK Y rfl (Y.w7 103 _<|rfl) S.tabs.2 e
 refine⟨k,λb ob e=>?_⟩;rcases k b ob e with h|⟨_,_,_,_,_,h⟩|⟨_,_,⟨_,_,_,h,_⟩,_⟩
 ·exact⟨_,h⟩
 ·exact⟨_,h⟩
 ·exact⟨_,h⟩
theorem LX(H:Ap){c:Str->Option Addr}{m:ExcName->Option Value}(Y:jY w bG.heap)(g:bG.gens=#[]){args:List WData}{l:List Value}(p:x7.row.toRowW.claim.pre args=true)(i:WellAll w.params bG.heap l args){E:Value->Shared->Prop}:
  au (model pr w) callerA (PySem.call (.ref 732) l) (λv s'=>GoodWG x7.row.toRowW.claim c m args bG (.ok<|.ret v) s') E bG:=by
 refine dn (Rx p) λn b L=>?_
 subst b
 cases i with
 |cons d f=>
  cases f with
  |nil=>
   cases d with
   |@list a t x O V=>
    have B:iI a=false:=by
     cases q:iI a with
     |false=>rfl
     |true=>
      exfalso;have k:bG.heap.get? a=some (mR #[]):=by
       rcases eI.mp q with r|r
       ·rw[beq_iff_eq.mp r];exact Y.w7 82 _<|rfl
       ·rw[beq_iff_eq.mp r];exact Y.w7 103 _<|rfl
      have:=k.symm.trans O;injection this with this
      injection this with this
      cases this
    have C:=Nn (Uy Y) 40 _ _ _ _ _ (H n L) callerA _ _ _ bG (.ref 732) [.ref a] IH (Hn Y) ⟨rfl,rfl⟩ ⟨_,_,rfl,⟨a,_,0,rfl,fm O B,KR V⟩,rfl⟩;refine C.2 E _ λG j s' y X S r=>?_;obtain rfl:y=.bool true:=r;refine I9 (.inl ⟨.bool true,.bool true,[],rfl,λz=>rfl,.bool true,?_,λz=>⟨fg,λz h=>absurd h aJ⟩⟩) (Yd Y S) S.same.2.2<|.of_eq<|S.same.1.trans g;kernel_rfl
end
theorem LU(H:Ap)(d:DefRec)(k:List (Str×ao))(D:d.name=o "law"):WalkO q rD (λz z=>True) jY x7.row.toRowW d k λf vs=>PySem.call f vs:=λw s bG M mb G Y a ob pm cd c dV kV h1 h2 h3 h4 h j r v V p y x l L=>by
 have A:a=732:=by
  refine sA Y.g λm g b z=>?_;obtain⟨x1,B,x3,C,I,x6,J⟩:=g;obtain⟨y1,N,y3,O,Q,y6,U⟩:=G.T.g;obtain rfl:=aa<|C.symm.trans O;have e:B=N:=by have:=I.symm.trans Q;injection this
  subst e;have n:M (o "law")=m (o "law"):=(U _).symm.trans<|J _;have t:m (o "law")=some (.ref 732):=b ("law",.ref 732) (by refine ib _<|aH (i:=Jd.length-1) ?_;kernel_rfl);rw[D,n,t] at h;injection h with h
  injection h with h
  exact h.symm
 subst A;exact LX H Y j p l
theorem Rd:∃d k,defOf q x7.row.name=some (d,k)/\d.name=o "law"/\x7.row.prog.theDef x7.row.name=some (d.params,d.body,d.scope)/\kwWritten? d.params.kwonlyargs d.params.kw_defaults=some k:=by
 have h:(defOf q x7.row.name).map (λx=>(x.1.name,x7.row.prog.theDef x7.row.name,kwWritten? x.1.params.kwonlyargs x.1.params.kw_defaults))=(defOf q x7.row.name).map (λx=>(o "law",some (x.1.params,x.1.body,x.1.scope),some x.2)):=rfl;have H:(defOf q x7.row.name).isSome=true:=rfl;obtain⟨⟨d,k⟩,e⟩:=gh.mp H;rw[e] at h;injection h with h
 simp only[iQ] at h;exact Sm d k e h.1 h.2.1 h.2.2
section
set_option maxHeartbeats 8000000
theorem ws0:PySem.W.Fast.tw9446332074065402090 x7=true:=by kernel_rfl
theorem ws:x7.wellSaid=true:=by rw[PySem.W.Fast.te9446332074065402090];exact ws0
end
section
set_option maxHeartbeats 8000000
theorem ok1:(chainsOk q&&opensWell x7.row.prog&&(frees x7.row.toRowW&&x7.row.within.isEmpty))=true:=by decide+kernel
theorem ok2:x7.row.prog.bare:=⟨rfl,rfl,rfl,rfl,rfl,by decide+kernel⟩
theorem ok3:x7.row.toRowW.promised:=⟨[.list []],by decide+kernel,by decide+kernel⟩
end
theorem Ld:Ap:=λn h=>LW n h
end Internal.Mine
end
open Internal.Mine
set_option maxHeartbeats 8000000 in
theorem PySem.Challenge.cw_pf0171_01_holds : PySem.Challenge.rw_pf0171_01.Holds := by
 refine O0 Rd λd k e a b c=>⟨ws,W.holds_open left PN jY.keeps (λz z=>trivial) (λz z z z z=>trivial) e b c (λs z=>recFacts_of rfl) rfl (row_said ws) ok1 ok2 ok3<|LU Ld d k a⟩
