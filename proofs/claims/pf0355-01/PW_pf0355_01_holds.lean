import PyProof.Rows.All
import Wide.All
import OpenK.AllK
import Wide.FinOn
import PySem.Challenge.RW_pf0355_01
set_option Elab.async false
set_option linter.all false
set_option maxRecDepth 100000
set_option maxHeartbeats 8000000
set_option genSizeOf false
set_option genInjectivity false
set_option bootstrap.genMatcherCode false
set_option tactic.hygienic false
noncomputable section
namespace Mine
open And renaming intro->aj,imp_right->bV,imp->nK,left->Br
open Array renaming getElem?_toList->cV,getElem?_eq_some_iff->dk,toArray_toList->jd,length_toList->jr,getElem?_eq_getElem->ud,getElem?_eq_none->wX,toList_push->Bz,toList_inj->DH
open Bool renaming noConfusion->aM,and_eq_true->bI,false_eq_true->ch,or_true->iB,false_or->jc,or_eq_true->jt,or_eq_true_iff->nJ,false_ne_true->oQ,and_false->ua,true_and->u0,or_eq_false_iff->zc,and_eq_true_iff->zk,or_false->HN
open Classical renaming byContradiction->ew
open Eq renaming symm->iP
open Exists renaming imp->cg,intro->fZ
open ForInStep renaming yield->bX
open Int renaming emod_lt_of_pos->aN,emod_nonneg->aR,natCast_nonneg->aT,le_of_lt_add_one->bJ,eq_ofNat_of_zero_le->bL,toNat_natCast->cK,not_lt->dJ,lt_of_le_of_lt->dL,le_trans->eU,le_of_lt->fB,emod_eq_of_lt->iH,ne_of_gt->iJ,le_refl->jm,toNat_of_nonneg->jL,pow_succ->jR,toNat->kc,lt_of_lt_of_le->kn,sub_nonneg_of_le->nl,ofNat_lt->qg,fdiv_eq_ediv_of_nonneg->uN,ediv_ediv_of_nonneg->xa,toNat_le->xP,mul_ediv_add_emod->zi,sub_add_cancel->DD,ediv_nonneg->GC,add_nonneg->HY,le_add_one->Ia,ofNat_inj->Il,toNat_sub->Iz,add_assoc->IA
open Lean.Omega.Int renaming ofNat_min->Ik
open List renaming length_map->ag,getElem?_eq_getElem->an,length_append->az,set_cons_zero->aC,set_cons_succ->aD,getElem?_map->aF,lookup_cons->aG,getD_eq_getElem?_getD->aJ,mem_singleton->aK,getElem?_eq_some_iff->aO,length_cons->aQ,length_singleton->aV,mem_cons->aZ,mem_of_getElem?->a6,map->a8,map_append->bh,map_cons->bk,all_eq_true->bt,mem_map->bE,range->bH,length_range->bP,length_take->bU,replicate->b9,mem_range->ca,nodup_cons->cc,mem_append->cv,drop_eq_getElem_cons->cC,map_map->cD,not_mem_nil->cI,zip_cons_cons->cM,take_length->c8,take_add_one->dp,nil_append->dy,take_append_drop->dA,pairwise_cons->dD,mem_cons_self->dE,pairwise_append->dQ,mem_cons_of_mem->dR,append_nil->d5,mem_map_of_mem->d9,length_drop->eq,contains_cons->eH,getElem?_append_left->eL,append_assoc->eS,getElem_range->fv,lookup_append->fx,length_nil->fK,getElem?_append_right->fW,map_congr_left->gu,foldl_cons->gL,lookup->ia,nodup_append->ir,nodup_nil->iu,take_of_length_le->iw,drop_length->i5,set_comm->jg,map_take->jh,find?_cons->js,length_set->ju,length_reverse->jK,set_set->jM,mem_filterMap->kb,length->kU,any_cons->kX,filter_cons_of_neg->lH,filter_cons->lI,pairwise_singleton->lJ,getD->lK,getElem?_set_self->lN,range_succ->ml,getElem?_set_ne->mT,mem_of_mem_take->mU,filterMap_cons->nH,map_drop->oL,filter_append->oU,foldl_append->qd,countP->sk,forIn_cons->su,drop_zero->t5,nodup_iff_pairwise_ne->ub,pairwise_iff_getElem->uV,filterMap_cons_some->uZ,countP_cons_of_pos->wS,take->wT,mem_singleton_self->wU,lookup_eq_none_iff->wV,eq_nil_or_concat->yd,concat_eq_append->yf,countP_le_length->yg,perm_append_comm->yh,mem_append_left->zf,replicate_succ->Bh,countP_eq_zero->Bq,size_toArray->DG,any_eq_false->DI,ext_getElem?->DN,reverse_cons->DO,pairwise_map->DP,flatten_cons->DQ,mem_reverse->DY,drop->D0,zip_append->Fi,take_zero->GD,map_id'->IB
open List.Pairwise renaming imp_of_mem->pF
open Nat renaming le_trans->ao,le_of_ble_eq_true->aP,le_refl->bW,succ_le_succ->cw,lt_of_lt_of_le->cG,le_succ_of_le->cL,zero_le->cU,not_lt->dw,min_le_right->dH,lt_succ_self->dI,ne_of_lt->dN,lt_irrefl->eY,le_add_right->fo,le_of_lt->fE,lt_of_le_of_lt->fF,le_of_eq->gm,sub_lt_sub_left->gB,blt_eq->hV,blt->iI,lt_succ_of_lt->iM,le_antisymm->jJ,add_right_comm->km,beq->kW,le_of_lt_succ->k9,ble->mj,succ_pos->mr,add_le_add->ng,add_le_add_right->nj,succ->nz,add_le_add_left->oM,log2_lt->sq,noConfusion->ta,sub_le->uM,ne_of_gt->xY,sub_add_min_cancel->yi,zero_add->ym,sub_eq_zero_of_le->y9,ble_eq_true_of_le->zh,le_succ->Bj,lt_or_gt_of_ne->DS,sub_pos_of_lt->DZ,shiftLeft_eq->Fl,two_pow_pos->GB,le_add_left->GE,not_lt_zero->GF
open Nat.succ renaming inj->t8
open Ne renaming symm->fT
open Option renaming map_eq_some_iff->aH,bind_eq_some_iff->gN,bind_some->k8,map_some->qt,none_or->sx,ne_none_iff_exists'->sy,isSome_map->Bp,getD_some->BA
open Option.some renaming inj->ac
open Or renaming imp->zg
open Prod renaming ext->GA
open Prod.mk renaming injEq->tc,inj->wY
open PyProof.Rows renaming seqObj->ij,IsTup->ja,slot_tuple_getitem->lu,subscriptTail->mq,iadd_int->sg,isub_int->si,len_list->so,tail_any->sR,subscriptTail_ops->sU,SortKind->td,slicePart_none->xT,tupleItemsOf_->Bi,cnt->Bv,News->DE,keyKind'->Fp,getMethod_list_of->Iu,tuples'->ID
open PyProof.Rows.SortSt renaming mk'->zj
open PySem renaming wpAny_bind->ae,wpAny_pure->ah,wpAny_mono->aq,Value->av,Str->aw,Shared->ax,model->ay,wpAny->aE,Addr->aI,wpAny_holding->bA,sizeLine->bG,wpAny_standAt->cq,Heap->cO,Program->cR,wpAny_newObj_type->cY,mainGlobals->dj,Around->dz,sizeLine_eq->d8,importedModules->eh,wpAny_isSubtype_exc->eB,codeAny->eT,sysModules->fq,wpAny_execs_nil->fU,DictEntry->fV,swappedStores->fX,treeTable->fY,World->f8,intKind->f9,wpAny_loadPart_at->gb,wpAny_field->gz,Scope->gA,wpAny_setField->gC,wpAny_call_entry->gM,wpAny_execs_cons->gQ,starEach->il,letOwnedTupleGo->iz,OsState->iA,wpAny_call->iK,rawInt->iL,Env->i4,Builtin->jb,NameKind->je,foldedSetIterable->jf,wpAny_storeName_local->jv,wpAny_rule->jH,compareOp->jI,wpAny_typeNameOfWhole_keyiter->jS,notedBy->kT,IsTupleKey->lr,tupleKind_room_in1->lx,letTemporaryGo->ly,Stmt->lz,builtinsNs->lB,isTrue->lM,wpAny_of_eq->lO,wpAny_assign_Name->lP,wpAny_callSpecial?_slot->mF,cLine->mG,wpAny_items_cons->mH,intKind_is->nv,strKind_is->nw,standAt->nG,PyData->pk,subscripted->pq,wpAny_loadName_local->pz,backTo->pA,codeAny_call_builtin->pD,tupleKind->qa,relabel->qb,comprehension->qo,swapsWithSole->qp,assignEach->sf,getItem->sP,slot_dict_getitem->sS,bootBuiltins->sV,codeAny_mono->sX,getMethod_builtin->sZ,pyNext->uR,isSubtype->uS,wpAny_in_of->uW,Sem->uX,richCompare->u6,wpAny_items_nil->wQ,byteArr->w9,Obj->xQ,Operator->xR,call_meets->xS,recursionLimit->xV,wpAny_Name->xW,pyIter->xX,FuncData->xZ,isInstance->x4,wpAny_getItem_list_slice->Bk,Comprehension->Bm,wpAny_comprehension_free->Bn,wpAny_release->Bo,Pos->Bx,wpAny_list_append_plain->By,seqSlot_of->DF,stored->DJ,operate->DK,newList->DL,call_meetsIn->DR,builtinLookup_eq_fast->DV,wpAny_notOrdered_dict->DW,wpAny_isOneOf_keyiter->D3,IntMulOk->Fb,binaryOp->Fc,lookup_relabel_local->Ff,compPost->Fh,list_getitem_lookup->Gs,wpAny_setItem_pairs->Gu,wpAny_loadName_cell->Gv,wpAny_loadName_free->Gw,wpAny_isTrue_BoolOp->Gz,wpAny_setItem_heap->HO,Result->HP,wpAny_Constant_str->HQ,wpAny_Constant_int->HR,wpAny_Expr->HS,wpAny_sequenceKey->Io,slot_dict_setitem->Ip,setAttr->Iq,wpAny_truthy_bool->Ir,wpAny_pyIter_list->Iv,holding->Iw,wpAny_dictEntries->IC
open PySem.Builtin renaming divisionGoesByPylong->cX,bitNot->ig,bitOr->kt,bitAnd->mh
open PySem.Builtin.Dict_items renaming ownsTuple->D1
open PySem.Builtin.Int renaming intBits->lL
open PySem.Builtin.List renaming listFitsIndex->oV
open PySem.Builtin.Range renaming rangeSize->qc,small->sr
open PySem.Builtin.Slice renaming sliceAdjust->bl,slicePlaces->ee,slicePartIndex->eZ
open PySem.Builtin.Tuple renaming tupleExact->eA
open PySem.Challenge renaming rw_pf0355_01->eV,pw_pf0355_01->HW
open PySem.CmpOp renaming Eq->lE,Lt->yk
open PySem.Code renaming quiet_builtin->BB
open PySem.Data renaming fields->sj
open PySem.DictEntry renaming refKey->xU
open PySem.Env renaming kindOf->DM
open PySem.Expr renaming Name->wR
open PySem.F renaming slot_dict_keyiterator_next->gF,slot_dict_get->iy,plainAttrs_dict->kS,slot_tuple_mul->mn,excBase_Exception->sw,slot_list_insert->sY,slot_dict_update->s9,args_dict_get_2->uc,entry_dict_get->uT,slot_dict_iter->uU,type_dict_get->uY,slot_tuple_lt->u9,args_tuple_mul_2->Fd,entry_tuple_mul->Gr,slot_int_rmul->Im
open PySem.Heap renaming get?_push_of_some->ak,get?_push_size->bu,lt_size->bz,get?_update_other->cf,get?_update_self->co,SameBut->dm,size_push->eF
open PySem.Heap.FunFrames renaming cons->Ix
open PySem.Heap.IsList renaming typeIs->uP
open PySem.Heap.IsSliceOf renaming new->iQ
open PySem.Heap.SameBut renaming update->dM
open PySem.IntMulOk renaming of_left->ed
open PySem.Keeper renaming boundFrame->Bl,machine->DX,frame->Gx
open PySem.NameKind renaming free->eK,cell->sv
open PySem.Obj renaming mapFields->cz,data_mapFields->dK,mapSeq->fc,isFreed_of_fields->fQ,data_mapDictKeys->nu,data_mapDict->r9,isFreed_of_dict->Bw,mk->HV
open PySem.Operator renaming Mod->dB,Add->kZ,Pow->nO,FloorDiv->yj
open PySem.PyData renaming canLay0->aU,depth->eN,canLayAll0->fL,depthAll->jj,eqv->zb,list->HZ
open PySem.SeqAt renaming shaped->jG,canLay_of_shaped->wW,eqv_refl->Fo
open PySem.Shared renaming mk->iR
open PySem.Str renaming ofString->aa
open PySem.Value renaming ref->aS,none->bR,type->cP,builtin->gE,int->lD
open PySem.Value.ref renaming inj->se
open PySem.W renaming findIn->cS,fragOf->eR,kas_sort->fH,Frag->gk,boot_heap->iS,instObj->kR,emptyDict->kY,Looks->lC,behindTheImports->mI,dictOf->nq,looks_findIn->nF,typeIn->pt,handedIn->sQ,hasDictIn->uO,keepIn->uQ,kas_ask->xb,namesBound->yb,topFrame->yc,staticsOk->BC,readsOut->Fa,getL->Fe,gensDone->Fj,laidKept->Fk,check_slot->HT,boot_drawn->HX,topStub->Iy
open PySem.W.Fast renaming te10110043849684766642->dT,te14364793385576792824->dU,te14082659384304107361->dW
open PySem.W.Looks renaming ld->pB,of_pure->Gy
open PySem.Within renaming cons->HU
section
open PySem PySem.W PyProof.Rows PySem.Calls
theorem Gf {α:Type} (ne:Nonempty α) (P:α->Prop):∃a,P a->∀x,P x:=
 (Classical.em (∃x,¬P x)).elim (λ ⟨a,ha⟩=>⟨a,λ z=>(ha z).elim⟩)
  λ n=>ne.elim λ a=>⟨a,λ Z x=>ew λ z=>n ⟨x,z⟩⟩
noncomputable def dr {α:Type} (ne:Nonempty α) (P:α->Prop):α:=Classical.choose (Gf ne P)
theorem bC {α:Type} {ne:Nonempty α} {P:α->Prop}:P (dr ne P)->∀x,P x:=Classical.choose_spec (Gf ne P)
@[reducible] def UU {α β:Type} (f:α->β->Prop) (p:α×β):Prop:=f p.1 p.2
@[reducible] def UV {α β γ δ:Type} (f:α->β->γ->δ->Prop) (p:α×β×γ×δ):Prop:=f p.1 p.2.1 p.2.2.1 p.2.2.2
theorem qe:Nonempty dz:=⟨{}⟩
theorem Js:Nonempty Drawn:=⟨{}⟩
theorem pH:Nonempty ax:=⟨{}⟩
theorem vt:Nonempty f8:=⟨⟨λ Z Z=>0,{strHash:=λ Z=>0,shareClass:=λ Z=>0,mergeTok:=id,idOf:=λ Z=>0,idOfShared:=λ Z Z=>0,followText:=λ Z=>false,idOfImm:=λ Z=>0}⟩⟩
theorem bw {T0:Type} {A:T0->Prop} {X:Prop} (h:∃a,A a) (k:∀a,A a->X):X:=h.elim λ a z=>k a z
theorem CK {T0 T1:Type} {A:T0->T1->Prop} {X:Prop} (h:∃a b,A a b) (k:∀a b,A a b->X):X:=h.elim λ a y1=>y1.elim λ b z=>k a b z
theorem iC {T0 T1 T2:Type} {A:T0->T1->T2->Prop} {X:Prop} (h:∃a b c,A a b c) (k:∀a b c,A a b c->X):X:=h.elim λ a y1=>y1.elim λ b y2=>y2.elim λ c z=>k a b c z
theorem bx {X:Prop} (h:A/\B) (k:A->B->X):X:=k h.1 h.2
theorem gK {X:Prop} (h:A/\B/\C) (k:A->B->C->X):X:=k h.1 h.2.1 h.2.2
theorem oB {X:Prop} (h:A/\B/\C/\D) (k:A->B->C->D->X):X:=k h.1 h.2.1 h.2.2.1 h.2.2.2
theorem wb {X:Prop} (h:A/\B/\C/\D/\E) (k:A->B->C->D->E->X):X:=k h.1 h.2.1 h.2.2.1 h.2.2.2.1 h.2.2.2.2
theorem GW {X:Prop} (h:A/\B/\C/\D/\E/\F) (k:A->B->C->D->E->F->X):X:=k h.1 h.2.1 h.2.2.1 h.2.2.2.1 h.2.2.2.2.1 h.2.2.2.2.2
theorem Dr {X:Prop} (h:A/\B/\C/\D/\E/\F/\G) (k:A->B->C->D->E->F->G->X):X:=k h.1 h.2.1 h.2.2.1 h.2.2.2.1 h.2.2.2.2.1 h.2.2.2.2.2.1 h.2.2.2.2.2.2
theorem aL {T0:Type} {A B:T0->Prop} {X:Prop} (h:∃a,A a/\B a) (k:∀a,A a->B a->X):X:=h.elim λ a z=>k a z.1 z.2
theorem cJ {T0:Type} {A B C:T0->Prop} {X:Prop} (h:∃a,A a/\B a/\C a) (k:∀a,A a->B a->C a->X):X:=h.elim λ a z=>k a z.1 z.2.1 z.2.2
theorem fy {T0:Type} {A B C D:T0->Prop} {X:Prop} (h:∃a,A a/\B a/\C a/\D a) (k:∀a,A a->B a->C a->D a->X):X:=h.elim λ a z=>k a z.1 z.2.1 z.2.2.1 z.2.2.2
theorem f7 {T0 T1:Type} {A B:T0->T1->Prop} {X:Prop} (h:∃a b,A a b/\B a b) (k:∀a b,A a b->B a b->X):X:=h.elim λ a y1=>y1.elim λ b z=>k a b z.1 z.2
theorem cu {T0 T1:Type} {A B C:T0->T1->Prop} {X:Prop} (h:∃a b,A a b/\B a b/\C a b) (k:∀a b,A a b->B a b->C a b->X):X:=h.elim λ a y1=>y1.elim λ b z=>k a b z.1 z.2.1 z.2.2
theorem jO {T0 T1:Type} {A B C D:T0->T1->Prop} {X:Prop} (h:∃a b,A a b/\B a b/\C a b/\D a b) (k:∀a b,A a b->B a b->C a b->D a b->X):X:=h.elim λ a y1=>y1.elim λ b z=>k a b z.1 z.2.1 z.2.2.1 z.2.2.2
theorem iV {T0 T1 T2:Type} {A B C:T0->T1->T2->Prop} {X:Prop} (h:∃a b c,A a b c/\B a b c/\C a b c) (k:∀a b c,A a b c->B a b c->C a b c->X):X:=h.elim λ a y1=>y1.elim λ b y2=>y2.elim λ c z=>k a b c z.1 z.2.1 z.2.2
theorem kg {T0 T1 T2:Type} {A B C D:T0->T1->T2->Prop} {X:Prop} (h:∃a b c,A a b c/\B a b c/\C a b c/\D a b c) (k:∀a b c,A a b c->B a b c->C a b c->D a b c->X):X:=h.elim λ a y1=>y1.elim λ b y2=>y2.elim λ c z=>k a b c z.1 z.2.1 z.2.2.1 z.2.2.2
theorem uf {T0 T1 T2:Type} {A B C D E:T0->T1->T2->Prop} {X:Prop} (h:∃a b c,A a b c/\B a b c/\C a b c/\D a b c/\E a b c) (k:∀a b c,A a b c->B a b c->C a b c->D a b c->E a b c->X):X:=h.elim λ a y1=>y1.elim λ b y2=>y2.elim λ c z=>k a b c z.1 z.2.1 z.2.2.1 z.2.2.2.1 z.2.2.2.2
theorem zu {T0 T1 T2 T3:Type} {A B C D:T0->T1->T2->T3->Prop} {X:Prop} (h:∃a b c d,A a b c d/\B a b c d/\C a b c d/\D a b c d) (k:∀a b c d,A a b c d->B a b c d->C a b c d->D a b c d->X):X:=h.elim λ a y1=>y1.elim λ b y2=>y2.elim λ c y3=>y3.elim λ d z=>k a b c d z.1 z.2.1 z.2.2.1 z.2.2.2
@[elab_as_elim] theorem af {α:Sort u} {a b:α} {P:α->Prop} (h:a=b) (q:P b):P a:=h▸q
theorem kO (h:a=true) (k:b=true):(a&&b)=true:=h.symm▸k
theorem Kk (j:Nat) (h:a<=4):min j a+(0+1)+(a -j)<=2^24:=ao (ng (nj (dH _ _) _) (uM _ _)) (ao (ng (nj h _) h) (by decide))
theorem Hn (j:Nat) (h:a<=4):min j a+(0+1)<=2^24:=ao (nj (ao (dH _ _) h) _) (by decide)
theorem Hu (n:Nat) (h:a<=4):a -n+min n a<=2^24:=ao (ng (uM _ _) (dH _ _)) (ao (ng h h) (by decide))
theorem EL (j a:Nat):a<min j a+(0+1)+(a -j):=(Nat.le_total j a).elim (λ h=>by rw [Nat.min_eq_left h,km,Nat.add_sub_of_le h];exact dI a) λ h=>by rw [Nat.min_eq_right h,y9 h];exact dI a
theorem K0 {l:Nat} (h:x<max 1 (l:Int)) (k:l<=4):x.toNat<=1000:=xP.mpr (eU (fB h) (Int.max_le.mpr ⟨by decide,Int.ofNat_le.mpr (ao k (by decide))⟩))
theorem Ky (n:Nat) (h:0<=k):min k (n:Int)=((min k.toNat n:Nat):Int):=by
 obtain ⟨j,rfl⟩:=bL h
 rw [cK];exact (Ik j n).symm
theorem Ey {P:Nat->Prop} (j:Nat) (h:j<0):P j:=(GF j h).elim
theorem oP {P:Nat->Prop} (f:∀j,j<n->P j) (h:P n) (j:Nat) (k:j<n+1):P j:=(Nat.lt_or_eq_of_le (k9 k)).elim (f j) λ e=>e▸h
theorem JW {i j:Nat} (q:Int) (h:i≠j) (hi:i<3) (hj:j<3):((i:Int)+q) %3≠((j:Int)+q) %3:=λ e=>h (Il.mp
 ((iH (aT _) (qg.mpr hi)).symm.trans (((Int.emod_add_cancel_right q).mp e).trans (iH (aT _) (qg.mpr hj)))))
theorem JV {A B c d:Int} (h:A<B) (k:d<5):10*A+c+d<10*B+c:=by
 refine kn (Int.add_lt_add_left (Int.lt_trans k (show (5:Int)<10 by decide)) _) ?_
 rw [Int.add_right_comm]
 exact Int.add_le_add_right (eU (Int.le_of_eq (Int.mul_add 10 A 1).symm) (Int.mul_le_mul_of_nonneg_left h (by decide))) _
theorem Kc (c:Int) (h:A≠B) (d1:d<5) (e1:e<5):10*A+c+d<10*B+c\/10*B+c+e<10*A+c:=(Int.lt_or_gt_of_ne h).elim (λ x=>.inl (JV x d1)) λ x=>.inr (JV x e1)
theorem Cd (m:Int):(m %4).toNat<=3:=xP.mpr (bJ (aN m (by decide)))
theorem E2 {b r:Int} (h:0<=r) (k:r<b+1):b.toNat=r.toNat+(b -r).toNat:=by
 rw [<-Int.toNat_add h (nl (bJ k)),Int.add_comm,DD]
theorem Es {b:Int} (h:b=32\/b=128):8*(b/8)=b:=h.elim (λ e=>e▸rfl) λ e=>e▸rfl
theorem GS {b r:Int} (h:b=32\/b=128) (k:0<=r):(b -r).toNat<=128:=xP.mpr (eU (Int.sub_le_self b k) (h.elim (λ e=>e▸by decide) λ e=>e▸by decide))
theorem HE (h:8*(b/8)=b) (k:r<b+1):8*(b/8) -((b -r).toNat:Int)=r:=by
 rw [h,jL (nl (bJ k)),Int.sub_sub_self]
theorem bF {α:Type} {a:α} {X:Prop} (h:none=some a):X:=nomatch h
theorem b7 {α:Type} {a:α} {X:Prop} (h:some a=none):X:=nomatch h
theorem gf {a b:Data} {X:Prop} (h:a=b) (k:kW a.ctorIdx b.ctorIdx=false):X:=by rw [h,Nat.beq_refl] at k;exact absurd k aM
theorem cH {α β:Type} {f:α->β} {x b:α} {A B:β} (e:f x=A) (h:f b=B) (n:A=B->False):x≠b:=λ z=>n (e.symm.trans ((congrArg f z).trans h))
inductive Fn where
 |user (n:Nat)
 |cls (n:Nat)
 |bi (id:String)
 |ty (id:String)
 deriving DecidableEq,Inhabited
inductive V where
 |none
 |bool (b:Bool)
 |int (i:Int)
 |str (s:aw)
 |bytes (b:List Int)
 |fn (f:Fn)
 |ref (a:aI)
 |tuple (vs:List V)
 |flist (vs:List V)
 |range (n:Int)
 deriving Inhabited
inductive bK where
 |list (vs:List V)
 |sdict (es:List (aw×V))
 |idict (f:Int->Option V) (n:Nat)
 |tdict (es:List (List Int×V))
 |edict
 |inst (c:Fn) (d:aI) (as:List (aw×V))
theorem ik {o:bK} (h:kW o.ctorIdx 5=false) (c d as):o≠.inst c d as:=λ e=>by rw [e] at h;exact aM h
theorem oJ {a b:bK} {X:Prop} (h:some a=some b) (k:kW a.ctorIdx b.ctorIdx=false):X:=by rw [ac h,Nat.beq_refl] at k;exact absurd k aM
theorem nk {a b:bK} (k:kW a.ctorIdx b.ctorIdx=false) (h:some a=some b):False:=oJ h k
abbrev MH:=aI->Option bK
noncomputable def MH.set (H:MH) (a:aI) (o:bK):MH:=λ b=>if b=a then some o else H b
theorem MH.set_self (H:MH) (a:aI) (o:bK):H.set a o a=some o:=by simp [MH.set]
theorem MH.set_ne (H:MH) (o:bK) (h:b≠a):H.set a o b=H b:=by simp [MH.set,h]
noncomputable def MH.del (H:MH) (a:aI):MH:=λ b=>if b=a then none else H b
theorem MH.del_self (H:MH) (a:aI):H.del a a=none:=by simp [MH.del]
theorem MH.del_ne (H:MH) (h:b≠a):H.del a b=H b:=by simp [MH.del,h]
theorem N8:Nonempty bK:=⟨.edict⟩
def ci (H:MH) (a:aI):Prop:=H a=none/\∀b c as,H b≠some (.inst c a as)
structure Cx where
 prog:cR
 w:f8
 base:cO
 K:gk
 addr:Fn->av
 fld:Fn->aw->Bool
theorem tJ:Nonempty Cx:=vt.elim λ w=>⟨⟨default,w,default,default,default,default⟩⟩
mutual
noncomputable def VRel (cx:Cx) (h:cO):V->av->Prop
 |.none,v=>v=.none
 |.bool b,v=>v=.bool b
 |.int i,v=>∃t,v=.int i t
 |.str s,v=>∃t,v=.str s t
 |.bytes b,v=>∃t,v=.bytes (w9 b) t/\∀x∈b,0<=x/\x<256
 |.fn f,v=>v=cx.addr f
 |.ref a,v=>v=.ref a
 |.tuple us,v=>∃a aB,v=.ref a/\ja h a aB/\VRels cx h us aB.toList
 |.flist us,v=>∃a aB,v=.ref a/\cx.base.IsList a aB/\VRels cx h us aB.toList
 |.range n,v=>∃a t u w,v=.ref a/\IsRange h a 0 n 1 t u w/\-1000000<=n/\n<=1000000
noncomputable def VRels (cx:Cx) (h:cO):List V->List av->Prop
 |[],vs=>vs=[]
 |u::us,vs=>∃v vs',vs=v::vs'/\VRel cx h u v/\VRels cx h us vs'
end
def tK (o:xQ):Prop:=(∃xs n,o.data=.seq xs n/\o.cls=.type "tuple")\/(∃vs,o.data=.fields vs/\o.cls=.type "range")
def Kp (o:xQ):Prop:=(∃xs n,o.data=.seq xs n)\/∃vs,o.data=.fields vs/\(o.cls=.type "list_iterator"\/o.cls=.type "tuple_iterator"\/o.cls=.type "range_iterator"\/o.cls=.type "bytes_iterator")
theorem Kp.no_dict (k:Kp o):(∀es n,o.data≠.dict es n)/\∀v,o.data≠.cell v:=by
 rcases k with ⟨_,_,e⟩|⟨_,e,_⟩<;>exact ⟨λ Z Z q=>(by rw [e] at q;exact gf q rfl),λ Z q=>(by rw [e] at q;exact gf q rfl)⟩
structure bf (P:aI->Prop) (H:MH) (h:cO) (H':MH) (h':cO):Prop where
 imm:∀a o,h.get? a=some o->tK o->h'.get? a=some o
 ns:∀a m,h.Ns a m->ci H a->¬P a->h'.Ns a m
 cell:∀a v,h.IsCell a v->¬P a->h'.IsCell a v
 nsP:∀a m,h.Ns a m->ci H a->∃m',h'.Ns a m'
 fresh:∀a,ci H a->¬ci H' a->h.get? a=none
 there:∀a o,h.get? a=some o->∃o',h'.get? a=some o'
 kp:∀a o,h.get? a=some o->Kp o->ci H a->¬P a->h'.get? a=some o
abbrev fe:aI->Prop:=λ Z=>False
theorem gw {h:cO} (n:h.Ns a m):∃o,h.get? a=some o:=let ⟨o,_,_,e,_⟩:=n;⟨o,e⟩
theorem bf.refl:bf P H h H h:=⟨λ Z Z e Z=>e,λ Z Z e Z Z=>e,λ Z Z e Z=>e,λ Z m e Z=>⟨m,e⟩,λ Z p q=>absurd p q,λ Z o e=>⟨o,e⟩,λ Z Z e Z Z Z=>e⟩
theorem bf.free (x:bf P H h H' h') (e:h.get? a=some o) (n:ci H a):ci H' a:=
 ew λ q=>by have:=x.fresh a n q;rw [e] at this;exact b7 this
theorem bf.trans (x:bf P H h H' h') (y:bf P H' h' H'' h''):bf P H h H'' h'':=
 ⟨λ a o e i=>y.imm a o (x.imm a o e i) i,λ a m e f p=>y.ns a m (x.ns a m e f p) (x.free (gw e).choose_spec f) p,λ a v e p=>y.cell a v (x.cell a v e p) p,
  λ a m e f=>let ⟨m',e'⟩:=x.nsP a m e f;y.nsP a m' e' (x.free (gw e).choose_spec f),
  λ a n k=>by
   by_cases q:ci H' a
   ·have:=y.fresh a q k
    cases z:h.get? a with
    |none=>rfl
    |some o=>obtain ⟨o',e'⟩:=x.there a o z;rw [this] at e';exact bF e'
   ·exact x.fresh a n q,λ a o e=>let ⟨o',e'⟩:=x.there a o e;y.there a o' e',λ a o e k f p=>y.kp a o (x.kp a o e k f p) k (x.free e f) p⟩
theorem bf.weak (x:bf fe H h H' h'):bf P H h H' h':=
 ⟨x.imm,λ a m e f Z=>x.ns a m e f λ q=>q,λ a v e Z=>x.cell a v e λ q=>q,x.nsP,x.fresh,x.there,λ a o e k f Z=>x.kp a o e k f λ q=>q⟩
def bQ (h h':cO):Prop:=∀a o,h.get? a=some o->tK o->h'.get? a=some o
theorem bQ.of_keeps (k:∀b o,h.get? b=some o->h'.get? b=some o):bQ h h':=λ a o e Z=>k a o e
theorem IsTup.keepI (k:bQ h h'):ja h a aB->ja h' a aB:=λ ⟨o,e,c,n,d⟩=>⟨o,k a o e (.inl ⟨_,_,d,c⟩),c,n,d⟩
theorem IsRange.keepI (k:bQ h h') (r:IsRange h a x y z t u w):IsRange h' a x y z t u w:=
 k a _ r (.inr ⟨_,rfl,rfl⟩)
mutual
theorem VRel.mono (x:bQ h h'):∀(u:V) {v:av},VRel cx h u v->VRel cx h' u v
 |.none,_,r=>by exact r
 |.bool _,_,r=>by exact r
 |.int _,_,r=>by exact r
 |.str _,_,r=>by exact r
 |.bytes _,_,r=>by exact r
 |.fn _,_,r=>by exact r
 |.ref _,_,r=>by exact r
 |.tuple us,_,r=>by
  obtain ⟨a,aB,e,h1,h3⟩:=r
  exact ⟨a,aB,e,IsTup.keepI x h1,VRels.mono x us h3⟩
 |.flist us,_,r=>by
  obtain ⟨a,aB,e,h2,h3⟩:=r
  exact ⟨a,aB,e,h2,VRels.mono x us h3⟩
 |.range k,_,r=>by
  obtain ⟨a,t,u,w,e,h1,h2⟩:=r
  exact ⟨a,t,u,w,e,IsRange.keepI x h1,h2⟩
theorem VRels.mono (x:bQ h h'):∀(us:List V) {vs:List av},VRels cx h us vs->VRels cx h' us vs
 |[],_,r=>by exact r
 |u::us,_,r=>by
  obtain ⟨v,vs',e,h1,h2⟩:=r
  exact ⟨v,vs',e,VRel.mono x u h1,VRels.mono x us h2⟩
end
section
variable {cx:Cx}
theorem VRels.len:∀{us:List V} {vs:List av},VRels cx h us vs->vs.length=us.length
 |[],_,r=>by rw [r];rfl
 |u::us,_,r=>by
  obtain ⟨v,vs',e,_,h2⟩:=r
  rw [e,aQ,aQ,VRels.len h2]
theorem VRels.get:∀{us:List V} {vs:List av},VRels cx h us vs->∀{i:Nat} {u:V},us[i]?=some u->∃v,vs[i]?=some v/\VRel cx h u v
 |[],_,_,_,_,e=>by simp at e
 |u::us,_,r,i,u',e=>by
  obtain ⟨v,vs',rfl,h1,h2⟩:=r
  cases i with
  |zero=>simp at e;subst e;exact ⟨v,by simp,h1⟩
  |succ i=>simp at e;obtain ⟨v',e',r'⟩:=VRels.get h2 e;exact ⟨v',by simpa using e',r'⟩
theorem VRels.app:∀{us us':List V} {vs vs':List av},VRels cx h us vs->VRels cx h us' vs'->VRels cx h (us++us') (vs++vs')
 |[],_,_,_,r,r'=>by subst r;exact r'
 |u::us,_,_,_,r,r'=>by
  obtain ⟨v,vs',rfl,h1,h2⟩:=r
  show VRels cx h (u::(us++_)) (v::(vs'++_))
  exact ⟨v,_,rfl,h1,VRels.app h2 r'⟩
theorem VRels.nil:VRels cx h [] []:=by rfl
theorem VRels.cons (a:VRel cx h u v) (b:VRels cx h us vs):VRels cx h (u::us) (v::vs):=by
 exact ⟨v,vs,rfl,a,b⟩
theorem VRels.one (a:VRel cx h u v):VRels cx h [u] [v]:=.cons a .nil
theorem VRels.cons_inv (r:VRels cx h (u::us) vs):∃v vs',vs=v::vs'/\VRel cx h u v/\VRels cx h us vs':=by exact r
theorem VRels.nil_inv (r:VRels cx h [] vs):vs=[]:=by exact r
theorem VRels.drop:∀(n:Nat) {us:List V} {vs:List av},VRels cx h us vs->VRels cx h (us.drop n) (vs.drop n)
 |0,_,_,r=>r
 |n+1,[],_,r=>by subst r;simp [VRels]
 |n+1,u::us,_,r=>by
  obtain ⟨v,vs',rfl,_,h2⟩:=r
  exact VRels.drop n h2
theorem VRels.take:∀(n:Nat) {us:List V} {vs:List av},VRels cx h us vs->VRels cx h (us.take n) (vs.take n)
 |0,_,_,_=>by simp [VRels]
 |n+1,[],_,r=>by subst r;simp [VRels]
 |n+1,u::us,_,r=>by
  obtain ⟨v,vs',rfl,h1,h2⟩:=r
  exact .cons h1 (VRels.take n h2)
end
noncomputable def ARel (cx:Cx) (h:cO):List (aw×V)->List fV->Prop
 |[],es=>es=[]
 |(n,u)::as,es=>∃e es' t,es=e::es'/\e.key=.str n t/\VRel cx h u e.val/\ARel cx h as es'
theorem ARel.mono (x:bQ h h'):∀{as:List (aw×V)} {es:List fV},ARel cx h as es->ARel cx h' as es
 |[],_,r=>by exact r
 |(n,u)::as,_,r=>by
  obtain ⟨e,es',t,h1,h2,h3,h4⟩:=r
  exact ⟨e,es',t,h1,h2,h3.mono x _,h4.mono x⟩
noncomputable def KRel (cx:Cx) (h:cO):List (aw×V)->List (aw×av)->Prop
 |[],kvs=>kvs=[]
 |(n,u)::es,kvs=>∃v kvs',kvs=(n,v)::kvs'/\VRel cx h u v/\KRel cx h es kvs'
theorem KRel.mono (x:bQ h h'):∀{es:List (aw×V)} {kvs:List (aw×av)},KRel cx h es kvs->KRel cx h' es kvs
 |[],_,r=>by exact r
 |(n,u)::es,_,r=>by
  obtain ⟨v,kvs',h1,h3,h4⟩:=r
  exact ⟨v,kvs',h1,h3.mono x _,h4.mono x⟩
noncomputable def TRel (cx:Cx) (h:cO):List (List Int×V)->List (List Int×aI×av)->Prop
 |[],xs=>xs=[]
 |(k,u)::es,xs=>∃a v xs',xs=(k,a,v)::xs'/\lr (f9 cx.prog cx.w) h k a/\VRel cx h u v/\TRel cx h es xs'
theorem gq {cx:Cx} (x:bQ h h') (r:lr (f9 cx.prog cx.w) h k a):lr (f9 cx.prog cx.w) h' k a:=by
 obtain ⟨o,aB,n',e,hc,hd,hi⟩:=r
 exact ⟨o,aB,n',x a o e (.inl ⟨_,_,hd,hc⟩),hc,hd,hi⟩
theorem TRel.mono (x:bQ h h'):∀{as:List (List Int×V)} {es:List (List Int×aI×av)},TRel cx h as es->TRel cx h' as es
 |[],_,r=>by exact r
 |(n,u)::as,_,r=>by
  obtain ⟨a,v,xs',h1,h3,h4,h5⟩:=r
  exact ⟨a,v,xs',h1,gq x h3,h4.mono x _,h5.mono x⟩
noncomputable def OR (cx:Cx) (h:cO):Option V->Option av->Prop
 |some u,some v=>VRel cx h u v
 |none,none=>True
 |_,_=>False
theorem OR.mono (k:bQ h h'):∀{x:Option V} {y:Option av},OR cx h x y->OR cx h' x y
 |some _,some _,r=>VRel.mono k _ r
 |none,none,_=>trivial
 |some _,none,r=>r
 |none,some _,r=>r
theorem OR.some (r:OR cx h (some u) y):∃v,y=some v/\VRel cx h u v:=by
 cases y with
 |none=>exact r.elim
 |some v=>exact ⟨v,rfl,r⟩
theorem OR.none (r:OR cx h none y):y=none:=by
 cases y with
 |none=>rfl
 |some v=>exact r.elim
theorem OR.isSome (r:OR cx h x y):y.isSome=x.isSome:=by
 cases x<;>cases y<;>first|rfl|exact r.elim
noncomputable def ORel (cx:Cx) (h:cO) (a:aI):bK->Prop
 |.list us=>∃aB n,h.get? a=some {cls:=.type "list",data:=.seq aB n}/\VRels cx h us aB.toList
 |.sdict es=>∃kvs,h.DictOf (strKind cx.prog cx.w) a kvs/\KRel cx h es kvs
 |.idict f n=>∃g,h.MapOf (f9 cx.prog cx.w) a g/\h.DictLe a n/\∀k,OR cx h (f k) (g k)
 |.tdict es=>∃xs,h.DictOfH (qa (f9 cx.prog cx.w)) a xs/\TRel cx h es xs
 |.edict=>∃n,h.get? a=some (nq [] n)
 |.inst c d as=>∃C es n,cx.addr c=.ref C/\h.get? a=some (kR C d)/\h.get? d=some (nq es n)/\ARel cx h as es/\∀p∈as,cx.fld c p.1=true
structure cb (cx:Cx) (H:MH) (h:cO):Prop where
 base:∀a o,cx.base.get? a=some o->h.get? a=some o
 old:∀a,¬ci H a->cx.base.objs.size<=a
 own:∀a o,H a=some o->ORel cx h a o
 sep:∀a c d as,H a=some (.inst c d as)->H d=none/\∀b c' as',H b=some (.inst c' d as')->b=a
theorem ft (e:H a=some o):¬ci H a:=λ f=>by rw [f.1] at e;exact bF e
theorem jE {a c d as} (e:H a=some (.inst c d as)):¬ci H d:=λ f=>f.2 _ _ _ e
namespace ORel.at
def S_ (cx h a):=∀{o:bK} (r:ORel cx h a o),∃ob,h.get? a=some ob
def U_:=UU λ cx=>UU λ h=>S_ cx h
def t_:=dr (by have:=tJ;infer_instance) U_
def cx:=t_.1
def h:=t_.2.1
def a:=t_.2.2
theorem P_:S_ cx h a:=by
 intro o r
 cases o with
 |list us=>obtain ⟨_,_,e,_⟩:=r;exact ⟨_,e⟩
 |sdict es=>obtain ⟨_,⟨o,_,_,e,_⟩,_⟩:=r;exact ⟨_,e⟩
 |idict f n=>obtain ⟨_,⟨o,_,_,e,_⟩,_⟩:=r;exact ⟨_,e⟩
 |tdict es=>obtain ⟨_,⟨o,_,_,e,_⟩,_⟩:=r;exact ⟨_,e⟩
 |edict=>obtain ⟨_,e⟩:=r;exact ⟨_,e⟩
 |inst c d as=>obtain ⟨_,_,_,_,e,_⟩:=r;exact ⟨_,e⟩
theorem A_:∀p,U_ p:=bC P_
end ORel.at
theorem ORel.at {cx h a}:ORel.at.S_ cx h a:=ORel.at.A_ (cx,h,a)
theorem cb.at (I:cb cx H h) (e:¬ci H a):∃o,h.get? a=some o:=by
 cases q:H a with
 |some o=>exact (I.own a o q).at
 |none=>
  have:∃b c as,H b=some (.inst c a as):=ew λ n=>e ⟨q,λ b c as x=>n ⟨b,c,as,x⟩⟩
  obtain ⟨b,c,as,x⟩:=this
  obtain ⟨_,_,_,_,_,e,_⟩:=I.own b _ x
  exact ⟨_,e⟩
theorem cb.free (I:cb cx H h) (e:h.get? a=none):ci H a:=
 ew λ q=>by obtain ⟨o,e'⟩:=I.at q;rw [e] at e';exact bF e'
theorem dO {h:cO} {a:aI} (e:h.objs.size<=a):h.get? a=none:=by
 cases q:h.get? a with
 |none=>rfl
 |some o=>exact absurd (bz q) (dw.mpr e)
theorem ORel.mono (x:bQ h h') (ha:h'.get? a=h.get? a):∀{o:bK},(∀c d as,o=.inst c d as->h'.get? d=h.get? d)->ORel cx h a o->ORel cx h' a o
 |.list us,_,r=>by obtain ⟨aB,n,e,q⟩:=r;exact ⟨aB,n,ha.trans e,q.mono x _⟩
 |.sdict es,_,r=>by
  obtain ⟨kvs,⟨o,es',ep,e,q⟩,k⟩:=r
  exact ⟨kvs,⟨o,es',ep,ha.trans e,q⟩,k.mono x⟩
 |.idict f n,_,r=>by
  obtain ⟨g,⟨o,es,ep,e,q⟩,z,k⟩:=r
  exact ⟨g,⟨o,es,ep,ha.trans e,q⟩,λ o' es' ep' e'=>z o' es' ep' (ha▸e'),λ y=>(k y).mono x⟩
 |.tdict es,_,r=>by
  obtain ⟨xs,⟨o,es',ep,e,q1,q2,q3,q4,q5⟩,k⟩:=r
  exact ⟨xs,⟨o,es',ep,ha.trans e,q1,q2,q3,λ y hy=>gq x (q4 y hy),q5⟩,k.mono x⟩
 |.inst c d as,hd,r=>by
  obtain ⟨C,es,n,h1,h2,h5,h6,h7⟩:=r
  exact ⟨C,es,n,h1,ha.trans h2,(hd _ _ _ rfl).trans h5,h6.mono x,h7⟩
 |.edict,_,r=>by obtain ⟨o,e⟩:=r;exact ⟨o,ha.trans e⟩
theorem cb.moved (I:cb cx H h) (x:bQ h h') (hb:∀a o,cx.base.get? a=some o->h'.get? a=some o) (hH:∀a,¬ci H a->h'.get? a=h.get? a):cb cx H h':=
 ⟨hb,I.old,λ a o e=>(I.own a o e).mono x (hH a (ft e)) λ c d as q=>hH d (by subst q;exact jE e),I.sep⟩
theorem cb.keeps (I:cb cx H h) (k:∀b o,h.get? b=some o->h'.get? b=some o):cb cx H h':=by
 refine I.moved (.of_keeps k) (λ a o e=>k _ _ (I.base a o e)) λ a n=>?_
 obtain ⟨ob,e⟩:=I.at n
 rw [e];exact k _ _ e
theorem bf.keeps (k:∀b o,h.get? b=some o->h'.get? b=some o):bf P H h H h':=
 ⟨bQ.of_keeps k,λ Z Z e Z Z=>e.keeps k,λ Z Z e Z=>e.keeps k,λ Z m e Z=>⟨m,e.keeps k⟩,λ Z p q=>absurd p q,λ a o e=>⟨o,k a o e⟩,λ a o e Z Z Z=>k a o e⟩
theorem bf.push (o:xQ):bf P H h H (h.push o):=.keeps (λ Z Z e=>ak _ e)
theorem cb.push (I:cb cx H h) (o:xQ):cb cx H (h.push o):=I.keeps λ Z Z e=>ak _ e
theorem lS (hn:∀c d as,mo≠.inst c d as) (h:ci H a) (hac:a≠c):ci (H.set c mo) a:=
 ⟨by rw [MH.set_ne _ _ hac];exact h.1,λ b cl as e=>by
  by_cases q:b=c
  ·subst q;rw [MH.set_self] at e;(have e:=ac e;subst e);exact hn _ _ _ rfl
  ·rw [MH.set_ne _ _ q] at e;exact h.2 _ _ _ e⟩
theorem cb.take (I:cb cx H h) (hn:∀c d as,mo≠.inst c d as) (hf:ci H a) (hb:cx.base.objs.size<=a) (r:ORel cx h a mo):cb cx (H.set a mo) h:=by
 refine ⟨I.base,λ b k=>?_,λ b o e=>?_,λ b c d as e=>?_⟩
 ·by_cases q:b=a
  ·rw [q];exact hb
  ·exact I.old b λ f=>k (lS hn f q)
 ·by_cases q:b=a
  ·subst q;rw [MH.set_self] at e;(have e:=ac e;subst e);exact r
  ·rw [MH.set_ne _ _ q] at e;exact I.own b o e
 ·by_cases q:b=a
  ·subst q;rw [MH.set_self] at e;(have e:=ac e;subst e);exact absurd rfl (hn _ _ _)
  ·rw [MH.set_ne _ _ q] at e
   obtain ⟨h1,h2⟩:=I.sep b c d as e
   have hd:d≠a:=λ z=>hf.2 b c as (z▸e)
   refine ⟨by rw [MH.set_ne _ _ hd];exact h1,λ b' c' as' e'=>?_⟩
   by_cases q':b'=a
   ·subst q';rw [MH.set_self] at e';(have e':=ac e';subst e');exact absurd rfl (hn _ _ _)
   ·rw [MH.set_ne _ _ q'] at e';exact h2 _ _ _ e'
theorem bf.take (x:bf P H h H' h') (hn:∀c d as,mo≠.inst c d as) (ha:h.get? a=none):bf P H h (H'.set a mo) h':=
 ⟨x.imm,x.ns,x.cell,x.nsP,λ b f k=>by
  by_cases q:b=a
  ·exact q▸ha
  ·exact x.fresh b f λ f'=>k (lS hn f' q),x.there,x.kp⟩
theorem tS (h:ci H a) (hac:a≠x) (had:a≠d):ci (H.set x (.inst c d as)) a:=
 ⟨by rw [MH.set_ne _ _ hac];exact h.1,λ b cl as e=>by
  by_cases q:b=x
  ·subst q;rw [MH.set_self] at e;cases e;exact had rfl
  ·rw [MH.set_ne _ _ q] at e;exact h.2 _ _ _ e⟩
theorem cb.takeI (I:cb cx H h) (hf:ci H a) (hd:ci H d) (hne:d≠a) (hb:cx.base.objs.size<=a) (hbd:cx.base.objs.size<=d) (r:ORel cx h a (.inst c d as)):cb cx (H.set a (.inst c d as)) h:=by
 refine ⟨I.base,λ b k=>?_,λ b o e=>?_,λ b c' d' as' e=>?_⟩
 ·by_cases q:b=a
  ·rw [q];exact hb
  by_cases q2:b=d
  ·rw [q2];exact hbd
  ·exact I.old b λ f=>k (tS f q q2)
 ·by_cases q:b=a
  ·subst q;rw [MH.set_self] at e;(have e:=ac e;subst e);exact r
  ·rw [MH.set_ne _ _ q] at e;exact I.own b o e
 ·by_cases q:b=a
  ·subst q;rw [MH.set_self] at e;cases e
   refine ⟨by rw [MH.set_ne _ _ hne];exact hd.1,λ b' c' as' e'=>?_⟩
   by_cases q':b'=b
   ·exact q'
   ·rw [MH.set_ne _ _ q'] at e';exact absurd e' (hd.2 _ _ _)
  ·rw [MH.set_ne _ _ q] at e
   obtain ⟨h1,h2⟩:=I.sep b c' d' as' e
   have hd':d'≠a:=λ z=>hf.2 b c' as' (z▸e)
   refine ⟨by rw [MH.set_ne _ _ hd'];exact h1,λ b' c' as' e'=>?_⟩
   by_cases q':b'=a
   ·subst q';rw [MH.set_self] at e';cases e';exact absurd e (hd.2 _ _ _)
   ·rw [MH.set_ne _ _ q'] at e';exact h2 _ _ _ e'
theorem bf.takeI (x:bf P H h H' h') (ha:h.get? a=none) (hd:h.get? d=none):bf P H h (H'.set a (.inst c d as)) h':=
 ⟨x.imm,x.ns,x.cell,x.nsP,λ b f k=>by
  by_cases q:b=a
  ·exact q▸ha
  by_cases q2:b=d
  ·exact q2▸hd
  ·exact x.fresh b f λ f'=>k (tS f' q q2),x.there,x.kp⟩
noncomputable def SameKind:bK->bK->Prop
 |.inst c d _,.inst c' d' _=>c=c'/\d=d'
 |.inst ..,_=>False
 |_,.inst ..=>False
 |_,_=>True
theorem tA (ha:H a=some mo) (hk:SameKind mo mo') (b:aI):ci (H.set a mo') b↔ci H b:=by
 constructor
 ·rintro ⟨h1,h2⟩
  refine ⟨?_,λ b' c as e=>?_⟩
  ·by_cases q:b=a
   ·subst q;rw [MH.set_self] at h1;exact b7 h1
   ·rw [MH.set_ne _ _ q] at h1;exact h1
  ·by_cases q:b'=a
   ·subst q
    rw [ha] at e;(have e:=ac e;subst e)
    cases mo'<;>first|exact hk.elim|skip
    exact h2 b' _ _ (by rw [MH.set_self,hk.2])
   ·exact h2 b' c as (by rw [MH.set_ne _ _ q];exact e)
 ·rintro ⟨h1,h2⟩
  refine ⟨?_,λ b' c as e=>?_⟩
  ·rw [MH.set_ne];exact h1
   rintro rfl;rw [ha] at h1;exact b7 h1
  ·by_cases q:b'=a
   ·subst q
    rw [MH.set_self] at e;(have e:=ac e;subst e)
    cases mo<;>first|exact hk.elim|skip
    exact h2 b' _ _ (by rw [ha,hk.2])
   ·rw [MH.set_ne _ _ q] at e;exact h2 _ _ _ e
theorem cb.upd (I:cb cx H h) (ha:H a=some mo) (hk:SameKind mo mo') (x:bQ h h') (hb:∀a o,cx.base.get? a=some o->h'.get? a=some o)
  (hs:∀b,¬ci H b->b≠a->(∀c as,mo≠.inst c b as)->h'.get? b=h.get? b) (r:ORel cx h' a mo'):cb cx (H.set a mo') h':=by
 refine ⟨hb,λ b k=>I.old b λ f=>k ((tA ha hk b).mpr f),λ b o e=>?_,λ b c d as e=>?_⟩
 ·by_cases q:b=a
  ·subst q;rw [MH.set_self] at e;(have e:=ac e;subst e);exact r
  ·rw [MH.set_ne _ _ q] at e
   refine (I.own b o e).mono x (hs b (ft e) q λ c as z=>?_) λ c d as z=>?_
   ·subst z;rw [(I.sep a _ _ _ ha).1] at e;exact bF e
   ·subst z
    refine hs d (jE e) (λ z=>?_) λ c' as' z=>?_
    ·rw [<-z,(I.sep b _ _ _ e).1] at ha;exact bF ha
    ·subst z;exact q ((I.sep a _ _ _ ha).2 _ _ _ e)
 ·by_cases q:b=a
  ·subst q;rw [MH.set_self] at e;(have e:=ac e;subst e)
   cases mo<;>first|exact hk.elim|skip
   obtain ⟨rfl,rfl⟩:=hk
   obtain ⟨h1,h2⟩:=I.sep _ _ _ _ ha
   refine ⟨?_,λ b' c' as' e'=>?_⟩
   ·rw [MH.set_ne];exact h1
    rintro rfl;rw [ha] at h1;exact b7 h1
   ·by_cases q':b'=b
    ·exact q'
    ·rw [MH.set_ne _ _ q'] at e';exact h2 _ _ _ e'
  ·rw [MH.set_ne _ _ q] at e
   obtain ⟨h1,h2⟩:=I.sep _ _ _ _ e
   have hd':d≠a:=cH h1 ha bF
   refine ⟨by rw [MH.set_ne _ _ hd'];exact h1,λ b' c' as' e'=>?_⟩
   by_cases q':b'=a
   ·subst q';rw [MH.set_self] at e';(have e':=ac e';subst e')
    cases mo<;>first|exact hk.elim|skip
    exact h2 _ _ _ (by rw [ha,hk.2])
   ·rw [MH.set_ne _ _ q'] at e';exact h2 _ _ _ e'
theorem bf.same (x:bf P H h H' h') (ha:H' a=some mo) (hk:SameKind mo mo'):bf P H h (H'.set a mo') h':=
 ⟨x.imm,x.ns,x.cell,x.nsP,λ b f k=>x.fresh b f λ f'=>k ((tA ha hk b).mpr f'),x.there,x.kp⟩
theorem bQ.but (ho:h.get? a=some o) (hi:¬tK o) (hs:dm a h h'):bQ h h':=λ b ob e i=>by
 by_cases q:b=a
 ·subst q;rw [ho] at e;(have e:=ac e;subst e);exact absurd i hi
 ·rw [hs.2 b q];exact e
theorem bf.but (ho:h.get? a=some o) (hi:¬tK o) (hc:∀v,o.data≠.cell v) (hf:¬ci H a) (ho':h'.get? a=some o') (hs:dm a h h'):bf P H h H h':=
 ⟨bQ.but ho hi hs,λ b m e f Z=>e.sameBut hs λ q=>hf (q▸f),λ b v e Z=>e.sameBut hs λ q=>by
  subst q;obtain ⟨o',e1,e2⟩:=e;rw [ho] at e1;(have e1:=ac e1;subst e1);exact hc _ e2,λ b m e f=>⟨m,e.sameBut hs λ q=>hf (q▸f)⟩,λ Z p q=>absurd p q,λ b ob e=>by
   by_cases q:b=a
   ·exact ⟨o',q▸ho'⟩
   ·exact ⟨ob,(hs.2 b q).trans e⟩,λ b ob e Z f Z=>(hs.2 b λ q=>hf (q▸f)).trans e⟩
theorem bf.chg (x:bf P H0 h0 H h) (n:h0.get? I=none) (k:∀b o,b≠I->h.get? b=some o->h'.get? b=some o):bf P H0 h0 H h':=by
 have ne:∀{b o},h0.get? b=some o->b≠I:=λ e q=>by subst q;rw [n] at e;exact bF e
 have ns:∀{b m0 m},h0.Ns b m0->h.Ns b m->h'.Ns b m:=λ e0 ⟨o,es,ep,e,r⟩=>⟨o,es,ep,k _ _ (ne (gw e0).choose_spec) e,r⟩
 exact ⟨λ a o e i=>k _ _ (ne e) (x.imm a o e i),λ a m e f p=>ns e (x.ns a m e f p),λ a v e p=>let ⟨o,e1,e2⟩:=x.cell a v e p;⟨o,k _ _ (ne e.choose_spec.1) e1,e2⟩,
  λ a m e f=>let ⟨m',e'⟩:=x.nsP a m e f;⟨m',ns e e'⟩,x.fresh,λ a o e=>let ⟨o',e'⟩:=x.there a o e;⟨o',k _ _ (ne e) e'⟩,λ a o e q f p=>k _ _ (ne e) (x.kp a o e q f p)⟩
def MH.Sub (H' H:MH):Prop:=∀a o,H' a=some o->H a=some o
theorem MH.Sub.none (s:MH.Sub H' H) (f:H a=none):H' a=none:=by
 cases q:H' a with
 |none=>rfl
 |some o=>
  have:=s _ _ q
  rw [f] at this
  exact bF this
theorem MH.Sub.free (s:MH.Sub H' H) (f:ci H a):ci H' a:=⟨s.none f.1,λ b c as e=>f.2 _ _ _ (s _ _ e)⟩
theorem MH.Sub.refl:MH.Sub H H:=λ Z Z e=>e
theorem MH.Sub.trans (x:MH.Sub H'' H') (y:MH.Sub H' H):MH.Sub H'' H:=λ Z Z e=>y _ _ (x _ _ e)
theorem cb.forget (I:cb cx H h) (s:MH.Sub H' H):cb cx H' h:=
 ⟨I.base,λ a k=>I.old a λ f=>k (s.free f),λ a o e=>I.own a o (s _ _ e),λ a c d as e=>
  ⟨s.none (I.sep _ _ _ _ (s _ _ e)).1,λ b c' as' e'=>(I.sep _ _ _ _ (s _ _ e)).2 _ _ _ (s _ _ e')⟩⟩
theorem bf.forget (x:bf P H h H' h') (s:MH.Sub H'' H'):bf P H h H'' h':=
 ⟨x.imm,x.ns,x.cell,x.nsP,λ a f k=>x.fresh a f λ f'=>k (s.free f'),x.there,x.kp⟩
theorem yt (H:MH) (a:aI):MH.Sub (H.del a) H:=λ b o e=>by
 by_cases h:b=a
 ·subst h;rw [MH.del_self] at e;exact bF e
 ·rwa [MH.del_ne _ h] at e
end
section
open PySem PySem.W PyProof.Rows
noncomputable abbrev l0:OpenLaw:=eV
noncomputable abbrev p0_:cR:=l0.row.prog
theorem NR:(sreFenced p0_.main&&((moduleNames p0_.main.body).isEmpty||lookedIntoSs (moduleNames p0_.main.body) p0_.main.body))=true:=by kernel_rfl
theorem N2:namesResolve p0_=true:=by kernel_rfl
theorem NK:p0_.boundNames.all (λ n=>!worldNames.contains n)=true:=by kernel_rfl
theorem NT:(!(eh p0_.main.body).all cThrough.contains)=false:=by kernel_rfl
theorem NN:Fa p0_ p0_.main.body "vars"=false:=by kernel_rfl
theorem NP:Fa p0_ p0_.main.body "dir"=false:=by kernel_rfl
theorem N3:Fa p0_ p0_.main.body "locals"=false:=by kernel_rfl
theorem NV:noRoadLSs {strict:=false,foot:=none,bare:=[]} p0_.main.body=true:=by kernel_rfl
theorem NX:(namesMeet p0_ p0_.main.body λ Z n=>attrL n)=true:=by kernel_rfl
theorem Nc {α:Type} {f:α->Bool} {a b c:α} (x:f a=false) (y:f b=false) (z:f c=false):[a,b,c].filter f=[]:=by
 rw [lH (by rw [x];decide),lH (by rw [y];decide),lH (by rw [z];decide)];rfl
theorem Nu:noRoadLSs {strict:=!(eh p0_.main.body).all cThrough.contains,foot:=none,bare:=(["vars","dir","locals"]:List aw).filter (Fa p0_ p0_.main.body)} p0_.main.body=true:=by
 rw [NT,Nc NN NP N3];exact NV
theorem Mz:looksOpen p0_=true:=kO (kO (kO (kO NR N2) NK) Nu) NX
theorem LU:OpenRow.partSaid l0.row=true:=
 kO (kO (kO (kO (kO (kO (kO (kO (kO (kO (kO (kO (kO Mz (by kernel_rfl)) (by kernel_rfl)) (by kernel_rfl)) (by kernel_rfl)) (by kernel_rfl)) (by kernel_rfl)) (by kernel_rfl)) (by kernel_rfl)) (by kernel_rfl)) (by kernel_rfl)) (by kernel_rfl)) (by kernel_rfl)) (by kernel_rfl)
theorem Nv:noRoadLSs {strict:=true,foot:=some l0.bound',writes:=l0.writes,may:=l0.may} l0.footing=true:=by kernel_rfl
theorem LQ:l0.bound'.all (λ n=>!builtinNamed n||l0.about==[n]||!l0.reads n)=true:=by kernel_rfl
theorem L2:namesMeet l0.prog l0.above (λ Z n=>!l0.own.contains n)=true:=by kernel_rfl
theorem Ni:defStands l0.about l0.above=true:=by kernel_rfl
theorem Nw:eV.wellSaid=true:=
 kO (kO (kO (kO (kO (kO (kO (kO (kO (kO (kO (kO (kO (kO (kO (kO (kO (kO (kO (kO LU (by kernel_rfl)) (by kernel_rfl)) (by kernel_rfl)) (by kernel_rfl)) (by kernel_rfl)) (by kernel_rfl)) (by kernel_rfl)) Nv) Ni) (by kernel_rfl)) (by kernel_rfl)) LQ) (by kernel_rfl)) (by kernel_rfl)) (by kernel_rfl)) (by kernel_rfl)) (by kernel_rfl)) (by kernel_rfl)) L2) (by kernel_rfl)
end
section
open PySem PySem.W PyProof.Rows PySem.Calls
inductive E where
 |none
 |bool (b:Bool)
 |int (i:Int)
 |str (s:aw)
 |loc (i:Nat)
 |fn (x:aw) (f:Fn)
 |neg (a:E)
 |bin (op:xR) (a b:E)
 |cmp (op:CmpOp) (a b:E)
 |not (a:E)
 |bop (isAnd:Bool) (es:List E)
 |ifx (t b o:E)
 |tup (es:List E)
 |lst (es:List E)
 |edct
 |dfn (ps:List (aw×aw×Fn))
 |sub (a i:E)
 |slc (a:E) (lo hi:Option E)
 |attr (a:E) (n:aw)
 |call (f:E) (args:List E)
 |meth (o:E) (n:aw) (args:List E)
 |comp (own:List aw) (frees:List Nat) (fJ:E) (t:Nat) (it:E) (cond:Option E)
 |comp2 (own:List aw) (frees:List Nat) (fJ:E) (t:Nat) (it:E) (cond:E) (t2:Nat) (it2:E)
 |stuck
 deriving Inhabited
inductive T where
 |loc (i:Nat)
 |tup (is:List Nat)
 deriving Inhabited
inductive S where
 |assign (t:T) (e:E)
 |setattr (o:E) (n:aw) (e:E)
 |setitem (o i e:E)
 |aug (i:Nat) (op:xR) (e:E)
 |augattr (o:E) (n:aw) (op:xR) (e:E)
 |ite (t:E) (b o:List S)
 |while_ (t:E) (b:List S)
 |for_ (t:T) (it:E) (b:List S)
 |ret (e:E)
 |expr (e:E)
 |raise_ (e:E)
 |tryWhy (e:E) (i j:Nat)
 |pass
 |stuck
 deriving Inhabited
abbrev db:=List (Option V)
abbrev cB:=List V->MH->(V->MH->Prop)->(aw->MH->Prop)->Prop
noncomputable def db.at (ρ:db) (i:Nat):Option V:=(ρ[i]?).join
noncomputable def itemsOf (H:MH):V->Option (List V)
 |.tuple us=>some us
 |.flist us=>some us
 |.bytes b=>some (b.map V.int)
 |.ref a=>match H a with
  |some (.list us)=>some us
  |_=>none
 |.range n=>some ((bH n.toNat).map λ i=>V.int (i:Nat))
 |_=>none
noncomputable def seqOf (H:MH):V->Option (List V)
 |.tuple us=>some us
 |.ref a=>match H a with
  |some (.list us)=>some us
  |_=>none
 |_=>none
noncomputable def asideOf (H:MH):V->MH
 |.ref a=>H.del a
 |_=>H
noncomputable def backOf (H0 H:MH):V->MH
 |.ref a=>match H0 a with
  |some o=>H.set a o
  |none=>H
 |_=>H
noncomputable def mapO (f:V->Option pk):List V->Option (List pk)
 |[]=>some []
 |u::us=>(f u).bind λ d=>(mapO f us).map (d::·)
noncomputable def dataOf (H:MH):Nat->V->Option pk
 |0,_=>none
 |n+1,u=>match u with
  |.none=>some .none
  |.bool b=>some (.bool b)
  |.int i=>some (.int i)
  |.str s=>some (.str s)
  |.tuple us=>(mapO (dataOf H n) us).map .tuple
  |.flist us=>(mapO (dataOf H n) us).map .list
  |.ref a=>(seqOf H (.ref a)).bind λ us=>(mapO (dataOf H n) us).map .list
  |_=>none
noncomputable def truthV (H:MH):V->Option Bool
 |.none=>some false
 |.bool b=>some b
 |.int i=>some (decide (i≠0))
 |_=>none
theorem cW {α:Type} {x:α} (h:none=some x):False:=by exact bF h
@[reducible] noncomputable def eqb (c b:Bool):Bool:=match c with
 |true=>b
 |false=>!b
@[reducible] def br (b:Bool) (A B:Prop):Prop:=match b with
 |true=>A
 |false=>B
theorem kj (h:b=true->A) (k:b=false->B):br b A B:=by cases b<;>first|exact h rfl|exact k rfl
theorem IJ (h:br b A B):(b=true->A)/\(b=false->B):=by cases b<;>first|exact ⟨λ Z=>h,nofun⟩|exact ⟨nofun,λ Z=>h⟩
theorem vP (h:A->A') (k:B->B'):br b A B->br b A' B':=by cases b<;>assumption
@[reducible] def BS (b:Bool) (A:Prop):Prop:=match b with
 |true=>A
 |false=>False
theorem p8 (h:b=true) (q:A):BS b A:=by exact af h q
theorem kD (h:BS b A):b=true/\A:=by cases b<;>first|exact ⟨rfl,h⟩|exact h.elim
theorem qM (k:A->B):BS b A->BS b B:=by cases b<;>first|exact id|exact k
noncomputable def divOk (y:Int):Bool:=decide (0<y)&&iI y.natAbs 1024
noncomputable def nth:List V->Nat->Option V
 |[],_=>none
 |u::r,n=>match n with
  |0=>some u
  |n+1=>nth r n
noncomputable def ix (us:List V) (k:Int):Option V:=match k with
 |.ofNat n=>cond (iI n 4611686018427387904) (nth us n) none
 |.negSucc _=>none
theorem xq:∀(us:List V) (n:Nat),nth us n=us[n]?
 |[],_=>rfl
 |_::_,0=>rfl
 |_::r,n+1=>xq r n
theorem JY (h:ix us k=some u):0<=k/\k<us.length/\k<2^62/\us[k.toNat]?=some u:=by
 cases k with
 |ofNat n=>
  have h:cond (iI n 4611686018427387904) (nth us n) none=some u:=h
  cases e:iI n 4611686018427387904 with
  |false=>rw [e] at h;cases h
  |true=>
   rw [e] at h
   have h:nth us n=some u:=h
   rw [xq] at h
   have:=hV.mp e
   have:=(aO.mp h).1
   exact ⟨aT _,by lia,by lia,h⟩
 |negSucc n=>cases h
theorem wc (h:0<=k/\k<2^62) (e:us[k.toNat]?=some u):ix us k=some u:=by
 refine bw (bL h.1) λ n r1_=>?_
 subst r1_
 show cond (iI n 4611686018427387904) (nth us n) none=some u
 refine af (hV.mpr (by lia)) (af (xq _ _) ?_);exact e
@[reducible] def w7 (o:Option V) (K:V->Prop):Prop:=match o with
 |some u=>K u
 |none=>False
theorem pJ {K:V->Prop} (h:w7 o K):∃u,o=some u/\K u:=by
 cases o with
 |none=>exact h.elim
 |some u=>exact ⟨u,rfl,h⟩
theorem ji {K:V->Prop} (e:o=some u) (h:K u):w7 o K:=by exact af e h
theorem yy {K K':V->Prop} (k:∀u,K u->K' u):w7 o K->w7 o K':=by cases o<;>first|exact id|exact k _
noncomputable def alSet:List (aw×V)->aw->V->List (aw×V)
 |[],n,u=>[(n,u)]
 |(m,w)::r,n,u=>if n=m then (m,u)::r else (m,w)::alSet r n u
@[reducible] def oO (u:V) (I:Int->Prop) (S:aw->Prop) (T:List V->Prop) (R:aI->Prop):Prop:=match u with
 |.int x=>I x
 |.str x=>S x
 |.tuple us=>T us
 |.ref a=>R a
 |_=>False
@[reducible] def d6 {α:Type} (_:α):Prop:=False
theorem gj {S S':aw->Prop} {T T':List V->Prop} (i:∀x,I x->I' x) (s:∀x,S x->S' x) (t:∀x,T x->T' x) (r:∀x,R x->R' x):oO u I S T R->oO u I' S' T' R':=by
 cases u<;>first|exact i _|exact s _|exact t _|exact r _|exact id
theorem rJ {S:aw->Prop} {T:List V->Prop} {G:Prop} (h:oO u I S T R) (i:∀x,u=.int x->I x->G) (s:∀x,u=.str x->S x->G) (t:∀x,u=.tuple x->T x->G) (r:∀x,u=.ref x->R x->G):G:=by
 cases u<;>first|exact i _ rfl h|exact s _ rfl h|exact t _ rfl h|exact r _ rfl h|exact h.elim
theorem rq (h:oO u I d6 d6 d6):∃x,u=.int x/\I x:=by cases u<;>first|exact ⟨_,rfl,h⟩|exact h.elim
theorem KU (h:oO u d6 I d6 d6):∃x,u=.str x/\I x:=by cases u<;>first|exact ⟨_,rfl,h⟩|exact h.elim
theorem IT (h:oO u d6 d6 I d6):∃x,u=.tuple x/\I x:=by cases u<;>first|exact ⟨_,rfl,h⟩|exact h.elim
theorem wh (h:oO u d6 d6 d6 I):∃x,u=.ref x/\I x:=by cases u<;>first|exact ⟨_,rfl,h⟩|exact h.elim
@[reducible] def at_ (o:Option bK) (L:List V->Prop) (S:List (aw×V)->Prop) (I:(Int->Option V)->Nat->Prop) (T:List (List Int×V)->Prop) (E:Prop) (O:Fn->aI->List (aw×V)->Prop):Prop:=match o with
 |none=>False
 |some o=>match o with
  |.list us=>L us
  |.sdict es=>S es
  |.idict f n=>I f n
  |.tdict es=>T es
  |.edict=>E
  |.inst c d as=>O c d as
@[reducible] def Bt {α β:Type} (_:α) (_:β):Prop:=False
@[reducible] def Bs {α β γ:Type} (_:α) (_:β) (_:γ):Prop:=False
section
variable {S S':List (aw×V)->Prop} {T T':List (List Int×V)->Prop} {E E' G:Prop}
theorem pg (l:∀x,L x->L' x) (s:∀x,S x->S' x) (i:∀x y,I x y->I' x y) (t:∀x,T x->T' x) (e:E->E') (q:∀x y z,O x y z->O' x y z):at_ o L S I T E O->at_ o L' S' I' T' E' O':=by
 cases o with
 |none=>exact id
 |some o=>cases o<;>first|exact l _|exact s _|exact i _ _|exact t _|exact e|exact q _ _ _
theorem sH (h:at_ o L S I T E O) (l:∀x,o=some (.list x)->L x->G) (s:∀x,o=some (.sdict x)->S x->G) (i:∀x y,o=some (.idict x y)->I x y->G) (t:∀x,o=some (.tdict x)->T x->G) (e:o=some .edict->E->G) (q:∀x y z,o=some (.inst x y z)->O x y z->G):G:=by
 cases o with
 |none=>exact h.elim
 |some o=>cases o<;>first|exact l _ rfl h|exact s _ rfl h|exact i _ _ rfl h|exact t _ rfl h|exact e rfl h|exact q _ _ _ rfl h
theorem GI (h:at_ o L d6 Bt d6 False Bs):∃us,o=some (.list us)/\L us:=sH h (λ x e z=>⟨x,e,z⟩) (λ Z Z z=>z.elim) (λ Z Z Z z=>z.elim) (λ Z Z z=>z.elim) (λ Z z=>z.elim) λ Z Z Z Z z=>z.elim
theorem JH (h:at_ o d6 d6 Bt d6 False O):∃c d as,o=some (.inst c d as)/\O c d as:=sH h (λ Z Z z=>z.elim) (λ Z Z z=>z.elim) (λ Z Z Z z=>z.elim) (λ Z Z z=>z.elim) (λ Z z=>z.elim) λ c d as e z=>⟨c,d,as,e,z⟩
end
@[reducible] def xu (o:Option (List V)) (K:List V->Prop):Prop:=match o with
 |some u=>K u
 |none=>False
theorem rK {K:List V->Prop} (h:xu o K):∃u,o=some u/\K u:=by
 cases o with
 |none=>exact h.elim
 |some u=>exact ⟨u,rfl,h⟩
theorem tP {K K':List V->Prop} (k:∀u,K u->K' u):xu o K->xu o K':=by cases o<;>first|exact id|exact k _
@[reducible] def ii (u v:V) (K:Int->Int->Prop):Prop:=oO u (λ x=>oO v (λ y=>K x y) d6 d6 d6) d6 d6 d6
theorem Hd {K:Int->Int->Prop} (h:ii u v K):∃x y,u=.int x/\v=.int y/\K x y:=
 let ⟨x,e,h⟩:=rq h;let ⟨y,e',h⟩:=rq h;⟨x,y,e,e',h⟩
theorem xM {K K':Int->Int->Prop} (k:∀x y,K x y->K' x y):ii u v K->ii u v K':=gj (λ Z=>gj (λ Z=>k _ _) (λ Z=>id) (λ Z=>id) λ Z=>id) (λ Z=>id) (λ Z=>id) λ Z=>id
def Ju (a b:aI) (H:MH) (Q:V->MH->Prop):Prop:=at_ (H a) (λ us=>at_ (H b) (λ vs=>us.length+vs.length<=bG/\∀c,H c=none->Q (.ref c) (H.set c (.list (us++vs)))) d6 Bt d6 False Bs) d6 Bt d6 False Bs
@[reducible] noncomputable def addV (u v:V) (H:MH) (Q:V->MH->Prop):Prop:=
 oO u (λ x=>oO v (λ y=>Q (.int (x+y)) H) d6 d6 d6) (λ x=>oO v d6 (λ y=>x.length+y.length<=bG/\Q (.str (x++y)) H) d6 d6)
  (λ us=>oO v d6 d6 (λ vs=>us.length+vs.length<=bG/\Q (.tuple (us++vs)) H) d6) λ a=>oO v d6 d6 d6 λ b=>Ju a b H Q
@[reducible] def EK (us:List V) (K:V->Prop):Prop:=match us with
 |[]=>False
 |u::r=>match r with
  |[]=>K u
  |_::_=>False
theorem DB {K:V->Prop} (h:EK us K):∃u,us=[u]/\K u:=by
 cases us with
 |nil=>exact h.elim
 |cons u r=>cases r with
  |nil=>exact ⟨u,rfl,h⟩
  |cons _ _=>exact h.elim
theorem Hr {K K':V->Prop} (k:∀u,K u->K' u) (h:EK us K):EK us K':=by
 obtain ⟨u,rfl,h⟩:=DB h;exact k _ h
@[reducible] noncomputable def mulV (u v:V) (H:MH) (Q:V->MH->Prop):Prop:=
 oO v (λ y=>oO u (λ x=>Fb x y/\Q (.int (x*y)) H) d6 (λ us=>EK us λ u=>(0<y/\y<=1000)/\Q (.tuple (b9 y.toNat u)) H) d6) d6 d6 d6
@[reducible] noncomputable def binV (op:xR) (u v:V) (H:MH) (Q:V->MH->Prop):Prop:=
 match op with
 |.Add=>addV u v H Q
 |.Sub=>ii u v λ x y=>Q (.int (x -y)) H
 |.Mult=>mulV u v H Q
 |.FloorDiv=>ii u v λ x y=>br (divOk y) (Q (.int (x/y)) H) ((0<y/\cX x y=false)/\Q (.int (x/y)) H)
 |.Mod=>ii u v λ x y=>BS (decide (0<y)) (Q (.int (x %y)) H)
 |.Pow=>ii u v λ x y=>(0<=y/\y<=1000000/\x.natAbs<2^64)/\Q (.int (x^y.toNat)) H
 |.LShift=>ii u v λ x y=>(0<=y/\(lL x:Int)+y<=2^27)/\Q (.int (x*2^y.toNat)) H
 |.RShift=>ii u v λ x y=>0<=y/\Q (.int (x/2^y.toNat)) H
 |.BitOr=>ii u v λ x y=>Q (.int (kt x y)) H
 |.BitAnd=>ii u v λ x y=>Q (.int (mh x y)) H
 |_=>False
noncomputable def eqO (u v:V):Option Bool:=match u with
 |.int x=>match v with
  |.int y=>some (decide (x=y))
  |_=>none
 |.str x=>match v with
  |.str y=>some (decide (x=y))
  |_=>none
 |_=>none
theorem FS (h:eqO u v=some b):(∃x y,u=.int x/\v=.int y/\decide (x=y)=b)\/∃x y,u=.str x/\v=.str y/\decide (x=y)=b:=by
 cases u with
 |int x=>cases v with
  |int y=>exact .inl ⟨x,y,rfl,rfl,ac h⟩
  |_=>exact (cW h).elim
 |str x=>cases v with
  |str y=>exact .inr ⟨x,y,rfl,rfl,ac h⟩
  |_=>exact (cW h).elim
 |_=>exact (cW h).elim
@[reducible] def FM (o:Option Bool) (K:Bool->Prop) (N:Prop):Prop:=match o with
 |some u=>K u
 |none=>N
theorem yx {K:Bool->Prop} (h:FM o K N):(∃u,o=some u/\K u)\/N:=by
 cases o with
 |none=>exact .inr h
 |some u=>exact .inl ⟨u,rfl,h⟩
theorem Ci {K:Bool->Prop} (h:FM o K False):∃u,o=some u/\K u:=(yx h).resolve_right id
theorem y0 {K K':Bool->Prop} (k:∀u,K u->K' u) (n:N->N'):FM o K N->FM o K' N':=by cases o<;>first|exact n|exact k _
@[reducible] def Ib (o:Option pk) (K:pk->Prop):Prop:=match o with
 |some u=>K u
 |none=>False
theorem yL {K:pk->Prop} (h:Ib o K):∃u,o=some u/\K u:=by
 cases o with
 |none=>exact h.elim
 |some u=>exact ⟨u,rfl,h⟩
theorem yz {K:pk->Prop} (e:o=some u) (h:K u):Ib o K:=by exact af e h
theorem FY {K K':pk->Prop} (k:∀u,K u->K' u):Ib o K->Ib o K':=by cases o<;>first|exact id|exact k _
@[reducible] def N0 (u v:V) (H:MH) (Q:Bool->Prop):Prop:=Ib (dataOf H 30 u) λ d=>Ib (dataOf H 30 v) λ d'=>jG d=true/\jG d'=true/\Q (zb d d')
@[reducible] def Ih (u v:V) (H:MH) (Q:Bool->Prop):Prop:=FM (eqO u v) Q (N0 u v H Q)
noncomputable def inV (u v:V) (H:MH) (Q:Bool->Prop):Prop:=
 oO u (λ x=>oO v d6 d6 d6 λ a=>at_ (H a) d6 d6 (λ f Z=>Q (f x).isSome) d6 (Q false) Bs)
  (λ x=>oO v d6 d6 (λ us=>∃ss:List aw,us=ss.map V.str/\Q (decide (x∈ss))) λ a=>at_ (H a) d6 (λ es=>Q (es.lookup x).isSome) Bt d6 (Q false) Bs) d6 d6
noncomputable def isO (u:V):Option Bool:=match u with
 |.none=>some true
 |.bool _=>some false
 |.int _=>some false
 |.str _=>some false
 |.tuple _=>some false
 |.ref _=>some false
 |_=>none
@[reducible] def J9 (u v:V) (Q:Bool->Prop):Prop:=match v with
 |.none=>FM (isO u) Q False
 |_=>False
@[reducible] noncomputable def cmpV (op:CmpOp) (u v:V) (H:MH) (Q:Bool->Prop):Prop:=
 match op with
 |.Eq=>Ih u v H Q
 |.NotEq=>Ih u v H λ b=>Q (!b)
 |.Lt=>ii u v λ x y=>Q (decide (x<y))
 |.LtE=>ii u v λ x y=>Q (decide (x<=y))
 |.Gt=>ii u v λ x y=>Q (decide (y<x))
 |.GtE=>ii u v λ x y=>Q (decide (y<=x))
 |.In=>inV u v H Q
 |.NotIn=>inV u v H λ b=>Q (!b)
 |.Is=>J9 u v Q
 |.IsNot=>J9 u v λ b=>Q (!b)
noncomputable def subR (a:aI) (i:V) (H:MH) (Q:V->MH->Prop):Prop:=
 oO i (λ k=>at_ (H a) (λ us=>w7 (ix us k) λ u=>Q u H) d6 (λ f Z=>w7 (f k) λ u=>Q u H) d6 False Bs) (λ x=>at_ (H a) d6 (λ es=>w7 (es.lookup x) λ u=>Q u H) Bt d6 False Bs)
  (λ ks=>at_ (H a) d6 d6 Bt (λ es=>∃k:List Int,ks=k.map V.int/\w7 (es.lookup k) λ u=>Q u H) False Bs) d6
@[reducible] noncomputable def subV (u i:V) (H:MH) (Q:V->MH->Prop):Prop:=
 match u with
 |.tuple us=>oO i (λ k=>w7 (ix us k) λ u=>Q u H) d6 d6 d6
 |.flist us=>oO i (λ k=>w7 (ix us k) λ u=>Q u H) d6 d6 d6
 |.bytes b=>oO i (λ k=>(0<=k/\k<b.length/\b.length<=1000000)/\Q (.int (b.getD k.toNat 0)) H) d6 d6 d6
 |.ref a=>subR a i H Q
 |_=>False
noncomputable def cutV (us:List V) (lo hi:V):Option (List V):=match lo with
 |.int k=>match hi with
  |.none=>cond (decide (0<=k/\k<2^62)) (some (us.drop k.toNat)) none
  |_=>none
 |.none=>match hi with
  |.int k=>cond (decide (0<=k/\k<2^62)) (some (us.take k.toNat)) none
  |_=>none
 |_=>none
theorem ue {α:Type} {x y:α} (h:cond b (some x) none=some y):b=true/\x=y:=by
 cases b with
 |true=>exact ⟨rfl,ac h⟩
 |false=>exact (cW h).elim
theorem BN {lo hi:V} (h:cutV us lo hi=some vs):(∃k,lo=.int k/\hi=.none/\0<=k/\us.drop k.toNat=vs)\/∃k,lo=.none/\hi=.int k/\0<=k/\us.take k.toNat=vs:=by
 cases lo with
 |int k=>cases hi with
  |none=>exact .inl ⟨k,rfl,rfl,(of_decide_eq_true (ue h).1).1,(ue h).2⟩
  |_=>exact (cW h).elim
 |none=>cases hi with
  |int k=>exact .inr ⟨k,rfl,rfl,(of_decide_eq_true (ue h).1).1,(ue h).2⟩
  |_=>exact (cW h).elim
 |_=>exact (cW h).elim
noncomputable def slcV (u lo hi:V) (H:MH) (Q:V->MH->Prop):Prop:=
 oO u d6 d6 (λ us=>xu (cutV us lo hi) λ vs=>us.length<=bG/\Q (.tuple vs) H) λ a=>at_ (H a) (λ us=>xu (cutV us lo hi) λ vs=>us.length<=bG/\∀c,H c=none->Q (.ref c) (H.set c (.list vs))) d6 Bt d6 False Bs
def rL (u:V) (n:aw) (H:MH) (Q:V->MH->Prop):Prop:=oO u d6 d6 d6 λ a=>at_ (H a) d6 d6 Bt d6 False λ Z Z as=>w7 (as.lookup n) λ w=>Q w H
noncomputable def setattrV (fld:Fn->aw->Bool) (u:V) (n:aw) (w:V) (H:MH) (N:MH->Prop):Prop:=
 oO u d6 d6 d6 λ a=>at_ (H a) d6 d6 Bt d6 False λ c d as=>BS (fld c n) (BS (mj as.length 100) (N (H.set a (.inst c d (alSet as n w)))))
def eI (u i w:V) (H:MH) (N:MH->Prop):Prop:=oO u d6 d6 d6 λ a=>
 oO i (λ k=>at_ (H a) d6 d6 (λ f n=>n<=100000/\N (H.set a (.idict (λ x=>if x=k then some w else f x) (n+1)))) d6 (N (H.set a (.idict (λ x=>if x=k then some w else none) 1))) Bs)
  (λ k=>at_ (H a) d6 (λ es=>es.length<=100000/\N (H.set a (.sdict (alSet es k w)))) Bt d6 (N (H.set a (.sdict [(k,w)]))) Bs)
  (λ ks=>∃k:List Int,ks=k.map V.int/\at_ (H a) d6 d6 Bt (λ es=>es.length<=1000/\es.lookup k=none/\N (H.set a (.tdict (es++[(k,w)])))) (N (H.set a (.tdict [(k,w)]))) Bs) d6
@[reducible] def Lo (u:V) (K:Int->Prop):Prop:=match u with
 |.int x=>K x
 |_=>False
@[reducible] def Au (u:V) (K:Bool->Prop):Prop:=match u with
 |.bool x=>K x
 |_=>False
@[reducible] def JN (u:V) (K:Fn->Prop):Prop:=match u with
 |.fn x=>K x
 |_=>False
@[reducible] def Lk (u:V) (K:List V->Prop):Prop:=match u with
 |.tuple x=>K x
 |_=>False
@[reducible] def J4 (u:V) (K:aw->Prop):Prop:=match u with
 |.str x=>K x
 |_=>False
@[reducible] def G6 (o:Option Fn) (K:Fn->Prop):Prop:=match o with
 |some x=>K x
 |none=>False
theorem Fv {K:Int->Prop} (h:Lo u K):∃x,u=.int x/\K x:=by cases u<;>first|exact ⟨_,rfl,h⟩|exact h.elim
theorem KA {K:Bool->Prop} (h:Au u K):∃x,u=.bool x/\K x:=by cases u<;>first|exact ⟨_,rfl,h⟩|exact h.elim
theorem Fs {K:Fn->Prop} (h:JN u K):∃x,u=.fn x/\K x:=by cases u<;>first|exact ⟨_,rfl,h⟩|exact h.elim
theorem FQ {K:List V->Prop} (h:Lk u K):∃x,u=.tuple x/\K x:=by cases u<;>first|exact ⟨_,rfl,h⟩|exact h.elim
theorem Ga {K:aw->Prop} (h:J4 u K):∃x,u=.str x/\K x:=by cases u<;>first|exact ⟨_,rfl,h⟩|exact h.elim
theorem CS {K:Fn->Prop} (h:G6 u K):∃x,u=some x/\K x:=by cases u<;>first|exact ⟨_,rfl,h⟩|exact h.elim
theorem J3 {K K':Int->Prop} (k:∀x,K x->K' x) (h:Lo u K):Lo u K':=by obtain ⟨x,rfl,h⟩:=Fv h;exact k _ h
theorem qG {K K':Bool->Prop} (k:∀x,K x->K' x) (h:Au u K):Au u K':=by obtain ⟨x,rfl,h⟩:=KA h;exact k _ h
theorem Jb {K K':Fn->Prop} (k:∀x,K x->K' x) (h:JN u K):JN u K':=by obtain ⟨x,rfl,h⟩:=Fs h;exact k _ h
theorem JL {K K':List V->Prop} (k:∀x,K x->K' x) (h:Lk u K):Lk u K':=by obtain ⟨x,rfl,h⟩:=FQ h;exact k _ h
theorem JQ {K K':aw->Prop} (k:∀x,K x->K' x) (h:J4 u K):J4 u K':=by obtain ⟨x,rfl,h⟩:=Ga h;exact k _ h
theorem FP {K K':Fn->Prop} (k:∀x,K x->K' x) (h:G6 u K):G6 u K':=by obtain ⟨x,rfl,h⟩:=CS h;exact k _ h
theorem FU {K:Fn->Prop} (e:o=some f) (h:K f):G6 o K:=by exact af e h
theorem qT {K:List V->Prop} (e:o=some us) (h:K us):xu o K:=by exact af e h
structure ow where
 fld:Fn->aw->Bool
 meth:Fn->aw->Option Fn
 init:Fn->Option Fn
 lvl:Fn->Nat
 spec:Fn->cB
noncomputable def kindM (o:bK):List (aw×Fn):=match o with
 |.list _=>[(aa "append",.bi "list.append"),(aa "insert",.bi "list.insert")]
 |.sdict _=>[(aa "update",.bi "dict.update")]
 |.tdict _=>[(aa "get",.bi "dict.get")]
 |.edict=>[(aa "get",.bi "dict.get")]
 |_=>[]
theorem LY:Nonempty ow:=⟨⟨λ Z Z=>false,λ Z Z=>none,λ Z=>none,λ Z=>0,λ Z=>default⟩⟩
noncomputable def methO (tb:ow) (o:bK) (n:aw):Option Fn:=match o with
 |.inst c _ as=>if (as.lookup n).isSome then none else tb.meth c n
 |o=>(kindM o).lookup n
noncomputable def methOf (tb:ow) (H:MH):V->aw->Option Fn
 |.ref a,n=>(H a).bind λ o=>methO tb o n
 |_,_=>none
def mL (tb:ow) (lv:Nat) (f:V) (us:List V) (H:MH) (Q:V->MH->Prop) (X:aw->MH->Prop):Prop:=JN f λ g=>match g with
 |.cls n=>G6 (tb.init (.cls n)) λ i=>BS (iI (tb.lvl i) lv)<|∀a d,H a=none->tb.spec i (.ref a::us) (H.set a (.inst (.cls n) d [])) (λ u H1=>u=.none/\Q (.ref a) H1) X
 |_=>BS (iI (tb.lvl g) lv) (tb.spec g us H Q X)
noncomputable def framesOf (ρ:db) (own:List aw) (frees:List Nat):db:=(own.map λ Z=>none)++frees.map λ i=>ρ.at i
noncomputable def compTurns (el:V->MH->(V->MH->Prop)->Prop) (cond:V->MH->(Bool->MH->Prop)->Prop):List V->List V->MH->(List V->MH->Prop)->Prop
 |[],acc,H,Q=>Q acc H
 |u::us,acc,H,Q=>cond u H λ b H1=>br b (el u H1 λ v H2=>compTurns el cond us (acc++[v]) H2 Q) (compTurns el cond us acc H1 Q)
noncomputable def compTurns2 (el:V->V->MH->(V->MH->Prop)->Prop) (cond:V->MH->(Bool->MH->Prop)->Prop) (fk:V->MH->(List V->Prop)->Prop):List V->List V->MH->(List V->MH->Prop)->Prop
 |[],acc,H,Q=>Q acc H
 |u::us,acc,H,Q=>cond u H λ b H1=>br b (fk u H1 λ ws=>compTurns (el u) (λ Z H2 R=>R true H2) ws acc H1 λ acc' H2=>compTurns2 el cond fk us acc' H2 Q) (compTurns2 el cond fk us acc H1 Q)
@[reducible] def fh (tst:Bool) (Q:V->MH->Prop):V->MH->Prop:=match tst with
 |false=>Q
 |true=>λ u H=>FM (truthV H u) (λ b=>Q (.bool b) H) False
def j9:aw->MH->Prop:=λ Z Z=>False
mutual
@[reducible] noncomputable def wpE (tb:ow) (lv:Nat) (tst:Bool):E->db->MH->(V->MH->Prop)->(aw->MH->Prop)->Prop
 |.none,_,H,Q,_=>fh tst Q .none H
 |.bool b,_,H,Q,_=>fh tst Q (.bool b) H
 |.int i,_,H,Q,_=>fh tst Q (.int i) H
 |.str s,_,H,Q,_=>fh tst Q (.str s) H
 |.loc i,ρ,H,Q,_=>w7 (ρ.at i) λ u=>fh tst Q u H
 |.fn _ f,_,H,Q,_=>fh tst Q (.fn f) H
 |.neg a,ρ,H,Q,X=>wpE tb lv false a ρ H (λ u H1=>Lo u λ i=>fh tst Q (.int (-i)) H1) X
 |.bin op a b,ρ,H,Q,X=>wpE tb lv false a ρ H (λ u H1=>wpE tb lv false b ρ H1 (λ v H2=>binV op u v H2 (fh tst Q)) X) X
 |.cmp op a b,ρ,H,Q,X=>wpE tb lv false a ρ H (λ u H1=>wpE tb lv false b ρ H1 (λ v H2=>cmpV op u v H2 λ r=>Q (.bool r) H2) X) X
 |.not a,ρ,H,Q,X=>BS tst (wpE tb lv true a ρ H (λ u H1=>Au u λ b=>Q (.bool (!b)) H1) X)
 |.bop c es,ρ,H,Q,X=>match tst with
  |false=>wpB tb lv c es ρ H Q X
  |true=>wpTs tb lv c es ρ H Q X
 |.ifx t b o,ρ,H,Q,X=>wpE tb lv true t ρ H (λ u H1=>Au u λ r=>br r (wpE tb lv tst b ρ H1 Q X) (wpE tb lv tst o ρ H1 Q X)) X
 |.tup es,ρ,H,Q,X=>wpEs tb lv es ρ H (λ us H1=>fh tst Q (.tuple us) H1) X
 |.lst es,ρ,H,Q,X=>wpEs tb lv es ρ H (λ us H1=>∀c,H1 c=none->fh tst Q (.ref c) (H1.set c (.list us))) X
 |.edct,ρ,H,Q,X=>∀c,H c=none->fh tst Q (.ref c) (H.set c .edict)
 |.dfn ps,ρ,H,Q,X=>∀c,H c=none->fh tst Q (.ref c) (H.set c (.sdict (ps.map λ p=>(p.1,V.fn p.2.2))))
 |.sub a i,ρ,H,Q,X=>wpE tb lv false a ρ H (λ u H1=>wpE tb lv false i ρ H1 (λ v H2=>subV u v H2 (fh tst Q)) X) X
 |.slc a lo hi,ρ,H,Q,X=>wpE tb lv false a ρ H (λ u H1=>wpO tb lv lo ρ H1 (λ l H2=>wpO tb lv hi ρ H2 (λ h H3=>slcV u l h H3 (fh tst Q)) X) X) X
 |.attr a n,ρ,H,Q,X=>wpE tb lv false a ρ H (λ u H1=>rL u n H1 (fh tst Q)) X
 |.call f as,ρ,H,Q,X=>wpE tb lv false f ρ H (λ g H1=>JN g λ k=>wpEs tb lv as ρ H1 (λ us H2=>mL tb lv (.fn k) us H2 (fh tst Q) X) X) X
 |.meth o n as,ρ,H,Q,X=>wpE tb lv false o ρ H (λ u H1=>G6 (methOf tb H1 u n) λ g=>wpEs tb lv as ρ H1 (λ us H2=>mL tb lv (.fn g) (u::us) H2 (fh tst Q) X) X) X
 |.comp own fr el t it cond,ρ,H,Q,X=>wpE tb lv false it ρ H (λ u H1=>xu (itemsOf H1 u) λ us=>us.length<=1000000/\compTurns (λ v H2 R=>wpE tb lv false el ((framesOf ρ own fr).set t (some v)) H2 R j9)
    (λ v H2 R=>wpC tb lv cond ((framesOf ρ own fr).set t (some v)) H2 R) us [] (asideOf H1 u) λ vs H2=>∀c,backOf H1 H2 u c=none->fh tst Q (.ref c) ((backOf H1 H2 u).set c (.list vs))) X
 |.comp2 own fr el t it cond t2 it2,ρ,H,Q,X=>wpE tb lv false it ρ H (λ u H1=>xu (itemsOf H1 u) λ us=>us.length<=1000/\compTurns2 (λ v v2 H2 R=>wpE tb lv false el (((framesOf ρ own fr).set t (some v)).set t2 (some v2)) H2 R j9)
    (λ v H2 R=>wpE tb lv true cond ((framesOf ρ own fr).set t (some v)) H2 (λ u H3=>Au u λ b=>R b H3) j9)
    (λ v H2 R=>wpE tb lv false it2 ((framesOf ρ own fr).set t (some v)) H2 (λ u H3=>H3=H2/\Lk u λ ws=>ws.length<=1000/\R ws) j9) us [] (asideOf H1 u) λ vs H2=>∀c,backOf H1 H2 u c=none->fh tst Q (.ref c) ((backOf H1 H2 u).set c (.list vs))) X
 |.stuck,_,_,_,_=>False
@[reducible] noncomputable def wpEs (tb:ow) (lv:Nat):List E->db->MH->(List V->MH->Prop)->(aw->MH->Prop)->Prop
 |[],_,H,Q,_=>Q [] H
 |e::es,ρ,H,Q,X=>wpE tb lv false e ρ H (λ u H1=>wpEs tb lv es ρ H1 (λ us H2=>Q (u::us) H2) X) X
@[reducible] noncomputable def wpO (tb:ow) (lv:Nat):Option E->db->MH->(V->MH->Prop)->(aw->MH->Prop)->Prop
 |none,_,H,Q,_=>Q .none H
 |some e,ρ,H,Q,X=>wpE tb lv false e ρ H Q X
@[reducible] noncomputable def wpC (tb:ow) (lv:Nat):Option E->db->MH->(Bool->MH->Prop)->Prop
 |none,_,H,R=>R true H
 |some c,ρ,H,R=>wpE tb lv true c ρ H (λ u H3=>Au u λ b=>R b H3) j9
@[reducible] noncomputable def wpB (tb:ow) (lv:Nat):Bool->List E->db->MH->(V->MH->Prop)->(aw->MH->Prop)->Prop
 |_,[],_,_,_,_=>False
 |c,e::es,ρ,H,Q,X=>match es with
  |[]=>wpE tb lv false e ρ H Q X
  |_::_=>wpE tb lv false e ρ H (λ u H1=>FM (truthV H1 u) (λ b=>br (eqb c b) (wpB tb lv c es ρ H1 Q X) (Q u H1)) False) X
@[reducible] noncomputable def wpTs (tb:ow) (lv:Nat):Bool->List E->db->MH->(V->MH->Prop)->(aw->MH->Prop)->Prop
 |c,[],_,H,Q,_=>Q (.bool c) H
 |c,e::es,ρ,H,Q,X=>wpE tb lv true e ρ H (λ u H1=>Au u λ b=>br (eqb c b) (wpTs tb lv c es ρ H1 Q X) (Q (.bool (!c)) H1)) X
end
@[reducible] def Ds (op:xR) (x y:Int) (K:Int->Prop):Prop:=match op with
 |.Add=>K (x+y)
 |.Sub=>K (x -y)
 |_=>False
theorem CH {K:Int->Prop} (h:Ds op x y K):(op=.Add/\K (x+y))\/(op=.Sub/\K (x -y)):=by
 cases op<;>first|exact .inl ⟨rfl,h⟩|exact .inr ⟨rfl,h⟩|exact h.elim
noncomputable def setAll (ρ:db):List Nat->List V->db
 |i::is,u::us=>setAll (ρ.set i (some u)) is us
 |_,_=>ρ
@[reducible] noncomputable def assignT (t:T) (u:V) (ρ:db) (H:MH) (N:db->MH->Prop):Prop:=
 match t with
 |.loc i=>N (ρ.set i (some u)) H
 |.tup is=>xu (seqOf H u) λ us=>us.length=is.length/\N (setAll ρ is us) H
noncomputable def forW (turn:V->db->MH->(db->MH->Prop)->Prop):List V->db->MH->(db->MH->Prop)->Prop
 |[],ρ,H,N=>N ρ H
 |u::us,ρ,H,N=>turn u ρ H λ ρ1 H1=>forW turn us ρ1 H1 N
noncomputable def whileW (test:db->MH->(Bool->MH->Prop)->Prop) (body:db->MH->(db->MH->Prop)->Prop) (N:db->MH->Prop):Nat->db->MH->Prop
 |0,_,_=>False
 |n+1,ρ,H=>test ρ H λ b H1=>br b (body ρ H1 λ ρ2 H2=>whileW test body N n ρ2 H2) (N ρ H1)
mutual
@[reducible] noncomputable def wpS (tb:ow) (lv:Nat):S->db->MH->(db->MH->Prop)->(V->MH->Prop)->(aw->MH->Prop)->Prop
 |.assign t e,ρ,H,N,_,X=>wpE tb lv false e ρ H (λ u H1=>assignT t u ρ H1 N) X
 |.setattr o n e,ρ,H,N,_,X=>wpE tb lv false e ρ H (λ w H1=>wpE tb lv false o ρ H1 (λ u H2=>setattrV tb.fld u n w H2 (N ρ)) X) X
 |.setitem o i e,ρ,H,N,_,X=>wpE tb lv false e ρ H (λ w H1=>wpE tb lv false o ρ H1 (λ u H2=>wpE tb lv false i ρ H2 (λ k H3=>eI u k w H3 (N ρ)) X) X) X
 |.aug i op e,ρ,H,N,_,X=>w7 (ρ.at i) λ u=>wpE tb lv false e ρ H (λ v H1=>ii u v λ x y=>Ds op x y λ z=>N (ρ.set i (some (.int z))) H1) X
 |.augattr o n op e,ρ,H,N,_,X=>wpE tb lv false o ρ H (λ u H1=>rL u n H1 λ old H2=>wpE tb lv false e ρ H2 (λ v H3=>ii old v λ x y=>Ds op x y λ z=>setattrV tb.fld u n (.int z) H3 (N ρ)) X) X
 |.ite t b o,ρ,H,N,R,X=>wpE tb lv true t ρ H (λ u H1=>Au u λ r=>br r (wpSs tb lv b ρ H1 N R X) (wpSs tb lv o ρ H1 N R X)) X
 |.while_ t b,ρ,H,N,R,_=>∃n,whileW (λ ρ H K=>wpE tb lv true t ρ H (λ u H1=>Au u λ r=>K r H1) j9) (λ ρ H K=>wpSs tb lv b ρ H K R j9) N n ρ H
 |.for_ t it b,ρ,H,N,R,X=>wpE tb lv false it ρ H (λ u H1=>xu (itemsOf H1 u) λ us=>forW (λ v ρ1 H2 K=>assignT t v ρ1 H2 λ ρ2 H3=>wpSs tb lv b ρ2 H3 K (λ r H4=>R r (backOf H1 H4 u)) j9) us ρ (asideOf H1 u) λ ρ3 H4=>(∀a,u=.ref a->H4 a=none)->N ρ3 (backOf H1 H4 u)) X
 |.ret e,ρ,H,_,R,X=>wpE tb lv false e ρ H R X
 |.expr e,ρ,H,N,_,X=>wpE tb lv false e ρ H (λ u H1=>u=.none/\N ρ H1) X
 |.raise_ e,ρ,H,_,_,X=>BS (iI 0 lv) (wpE tb lv false e ρ H (λ u H1=>J4 u λ w=>X w H1) X)
 |.tryWhy e i j,ρ,H,N,_,_=>wpE tb lv false e ρ H (λ u H1=>u=.none/\N ρ H1) (λ why H1=>N ((ρ.set i none).set j (some (.str why))) H1)
 |.pass,ρ,H,N,_,_=>N ρ H
 |.stuck,_,_,_,_,_=>False
@[reducible] noncomputable def wpSs (tb:ow) (lv:Nat):List S->db->MH->(db->MH->Prop)->(V->MH->Prop)->(aw->MH->Prop)->Prop
 |[],ρ,H,N,_,_=>N ρ H
 |s::r,ρ,H,N,R,X=>wpS tb lv s ρ H (λ ρ1 H1=>wpSs tb lv r ρ1 H1 N R X) R X
end
def dS (s s':ax):Prop:=s'.gens=s.gens/\s'.os=s.os/\s'.drawn=s.drawn
theorem dS.refl:dS s s:=⟨rfl,rfl,rfl⟩
theorem dS.trans (x:dS s s') (y:dS s' s''):dS s s'':=⟨y.1.trans x.1,y.2.1.trans x.2.1,y.2.2.trans x.2.2⟩
inductive bO (cx:Cx) (H:MH) (s:ax) (Q:V->MH->Prop) (v:av) (s':ax):Prop
 |mk (u) (H') (h1:Q u H') (h2:VRel cx s'.heap u v) (h3:cb cx H' s'.heap) (h4:bf fe H s.heap H' s'.heap) (h5:dS s s'):bO cx H s Q v s'
inductive iU (cx:Cx) (H:MH) (s:ax) (Q:Bool->MH->Prop) (b:Bool) (s':ax):Prop
 |mk (H') (h1:Q b H') (h2:cb cx H' s'.heap) (h3:bf fe H s.heap H' s'.heap) (h4:dS s s'):iU cx H s Q b s'
inductive vo (cx:Cx) (H:MH) (s:ax) (Q:List V->MH->Prop) (vs:List av) (s':ax):Prop
 |mk (us) (H') (h1:Q us H') (h2:VRels cx s'.heap us vs) (h3:cb cx H' s'.heap) (h4:bf fe H s.heap H' s'.heap) (h5:dS s s'):vo cx H s Q vs s'
inductive mQ (cx:Cx) (P:aI->Prop) (H:MH) (s:ax) (Q:MH->Prop) (s':ax):Prop
 |mk (H') (h1:Q H') (h2:cb cx H' s'.heap) (h3:bf P H s.heap H' s'.heap) (h4:dS s s'):mQ cx P H s Q s'
section
variable {cx:Cx}
theorem bf.keepI (x:bf P H h H' h'):bQ h h':=x.imm
theorem bO.here (I:cb cx H s.heap) (r:VRel cx s.heap u v) (q:Q u H):bO cx H s Q v s:=⟨u,H,q,r,I,bf.refl,dS.refl⟩
theorem bO.tok (I:cb cx H s.heap) (r:VRel cx s.heap u v) (q:Q u H):bO cx H s Q v {s with toks:=t}:=⟨u,H,q,r,I,bf.refl,rfl,rfl,rfl⟩
theorem bO.after (st:bf fe H s.heap H1 s1.heap) (sm:dS s s1) (p:bO cx H1 s1 Q v s'):bO cx H s Q v s':=by
 obtain ⟨u,H',q,r,I,x,y⟩:=p
 exact ⟨u,H',q,r,I,st.trans x,sm.trans y⟩
theorem iU.after (st:bf fe H s.heap H1 s1.heap) (sm:dS s s1) (p:iU cx H1 s1 Q v s'):iU cx H s Q v s':=by
 obtain ⟨H',q,I,x,y⟩:=p
 exact ⟨H',q,I,st.trans x,sm.trans y⟩
theorem vo.after (st:bf fe H s.heap H1 s1.heap) (sm:dS s s1) (p:vo cx H1 s1 Q v s'):vo cx H s Q v s':=by
 obtain ⟨u,H',q,r,I,x,y⟩:=p
 exact ⟨u,H',q,r,I,st.trans x,sm.trans y⟩
theorem mQ.after (st:bf P H s.heap H1 s1.heap) (sm:dS s s1) (p:mQ cx P H1 s1 Q s'):mQ cx P H s Q s':=by
 obtain ⟨H',q,I,x,y⟩:=p
 exact ⟨H',q,I,st.trans x,sm.trans y⟩
theorem bO.mono (k:∀u H',Q u H'->Q' u H') (p:bO cx H s Q v s'):bO cx H s Q' v s':=by
 obtain ⟨u,H',q,a,b,c,d⟩:=p;exact ⟨u,H',k _ _ q,a,b,c,d⟩
theorem bO.new {Q:V->MH->Prop} {h':cO} {mo:bK} {a:aI} {t:Nat} (I:cb cx H s.heap) (hb:cx.base.objs.size<=a) (k:∀b o,s.heap.get? b=some o->h'.get? b=some o)
  (ha:s.heap.get? a=none) (hn:∀c d as,mo≠.inst c d as) (r:ORel cx h' a mo) (q:∀c,H c=none->Q (.ref c) (H.set c mo)):
  bO cx H s Q (.ref a) {s with heap:=h',toks:=t}:=
 ⟨.ref a,H.set a mo,q _ (I.free ha).1,by rfl,(I.keeps k).take hn (I.free ha) hb r,(bf.keeps k).take hn ha,rfl,rfl,rfl⟩
theorem bO.priv (I:cb cx H s.heap) (k:∀b o,s.heap.get? b=some o->h'.get? b=some o) (r:VRel cx h' u v) (q:Q u H):bO cx H s Q v {s with heap:=h',toks:=t}:=
 ⟨u,H,q,r,I.keeps k,bf.keeps k,rfl,rfl,rfl⟩
end
structure ux (cx:Cx) (H:MH) (h:cO) (L:aI):Prop where
 above:cx.base.objs.size<=L
 free:ci H L
 ns:∃m,h.Ns L m
noncomputable def allNews (h₀ h:cO) (L:aI):List (aI×xQ):=(bH h.objs.size).filterMap λ a=>if a=L\/(h₀.get? a).isSome then none else (h.get? a).map λ o=>(a,o)
theorem fO:p∈allNews h₀ h L↔h.get? p.1=some p.2/\p.1≠L/\h₀.get? p.1=none:=by
 unfold allNews
 rw [kb]
 constructor
 ·rintro ⟨a,ha,e⟩
  split at e
  ·exact bF e
  ·rename_i n
   refine aL (aH.mp e) λ o e1 r1_=>?_
   subst r1_
   refine ⟨e1,λ q=>n (.inl q),?_⟩
   cases q:h₀.get? a with
   |none=>rfl
   |some x=>exact absurd (.inr (by refine af q ?_;rfl)) n
 ·rintro ⟨e,n,e0⟩
  refine ⟨p.1,ca.mpr (bz e),?_⟩
  rw [if_neg (by rintro (q|q);exact n q;rw [e0] at q;cases q),e]
  rfl
theorem lm:DE h₀ L h (allNews h₀ h L):=λ p hp=>fO.mp hp
theorem v5 (I:cb cx H h) (k:ux cx H h L) (n:h.Ns L m):Fr cx.base L h m:=⟨n,I.base,k.above⟩
theorem pV:∀{l:List (aI×xQ)},(l.map (·.1)).Nodup->(d,o)∈l->Upd d o o' l (l.map λ p=>if p.1=d then (d,o') else p)
 |p::r,hn,hm=>by
  rw [bk,cc] at hn
  rcases aZ.mp hm with e|hm
  ·subst e
   have:(r.map λ p=>if p.1=d then (d,o') else p)=r:=by
    conv=>rhs;rw [<-List.map_id r]
    refine gu λ p hp=>?_
    rw [if_neg];rfl
    intro q;exact hn.1 (q▸d9 (f:=(·.1)) hp)
   rw [bk,this,if_pos rfl]
   exact .head λ p hp q=>hn.1 (q▸d9 (f:=(·.1)) hp)
  ·have hne:p.1≠d:=λ q=>hn.1 (by rw [q];exact d9 (f:=(·.1)) hm)
   rw [bk,if_neg hne]
   exact .tail hne (pV hn.2 hm)
namespace gi
noncomputable def S_ (h₀ h L):=((allNews h₀ h L).map (·.1)).Nodup
def U_:=UU λ h₀=>UU λ h=>S_ h₀ h
def t_:=dr (by infer_instance) U_
def h₀:=t_.1
def h:=t_.2.1
def L:=t_.2.2
theorem P_:S_ h₀ h L:=by
 delta S_
 unfold allNews
 generalize h.objs.size=n
 induction n with
 |zero=>simp
 |succ n ih=>
  refine af ml (af List.filterMap_append (af bh ?_));rw [ir]
  refine ⟨ih,?_,?_⟩
  ·simp only [nH,List.filterMap_nil]
   split<;>simp
  ·intro a ha b hb e
   subst e
   refine aL (bE.mp ha) λ p hp r1_=>?_
   subst r1_
   refine aL (bE.mp hb) λ q hq e=>(aL (kb.mp hp) λ i hi ei=>(aL (kb.mp hq) λ j hj ej=>?_))
   have h1:p.1=i:=by
    split at ei
    ·exact bF ei
    ·obtain ⟨o,_,rfl⟩:=aH.mp ei;rfl
   have h2:q.1=j:=by
    split at ej
    ·exact bF ej
    ·obtain ⟨o,_,rfl⟩:=aH.mp ej;rfl
   have h3:j=n:=by simpa using hj
   have h4:=ca.mp hi
   have h5:p.1=q.1:=e.symm
   rw [h1,h2,h3] at h5
   rw [h5] at h4
   exact absurd h4 (eY _)
theorem A_:∀p,U_ p:=bC P_
end gi
theorem gi {h₀ h L}:gi.S_ h₀ h L:=gi.A_ (h₀,h,L)
structure qB (h h':cO) (L:aI):Prop where
 all:∀b o,b≠L->h.get? b=some o->h'.get? b=some o
 ns:∀m,h.Ns L m->h'.Ns L m
theorem ux.le (k:ux cx H h L):cx.base.objs.size<=h.objs.size:=by
 exact bw k.ns λ m n=>(fE (fF k.above n.lt))
theorem ke {h:cO} (n:h.Ns a m) (e:h.get? a=some o):¬tK o/\∀v,o.data≠.cell v:=by
 refine iV n λ o' es ep e' d Z=>?_
 rw [e] at e';(have e':=ac e';subst e')
 refine ⟨?_,λ v q=>by rw [d] at q;exact gf q rfl⟩
 rintro (⟨xs,n,q,_⟩|⟨vs,q,_⟩)<;>(rw [d] at q;exact gf q rfl)
theorem qB.step (k:qB h h' L) (n:∃m,h.Ns L m):bf P H h H h':=by
 refine bw n λ m0 n0=>?_
 clear n
 have ns:∀a m,h.Ns a m->h'.Ns a m:=λ a m e=>by
  by_cases q:a=L
  ·subst q;exact k.ns m e
  ·refine iC e λ o es ep t1_=>(bx t1_ λ e1 r=>?_)
   exact ⟨o,es,ep,k.all _ _ q e1,r⟩
 refine ⟨λ a o e i=>?_,λ a m e Z Z=>ns a m e,λ a v e Z=>?_,λ a m e Z=>⟨m,ns a m e⟩,λ Z p q=>absurd p q,λ a o e=>?_,λ a o e kq Z Z=>?_⟩
 ·refine k.all a o (λ q=>?_) e
  subst q;exact (ke n0 e).1 i
 ·refine aL e λ o e1 e2=>?_
  refine ⟨o,k.all _ _ (λ q=>?_) e1,e2⟩
  subst q;exact (ke n0 e1).2 _ e2
 ·by_cases q:a=L
  ·subst q;exact gw (k.ns _ n0)
  ·exact ⟨o,k.all _ _ q e⟩
 ·refine k.all a o (λ q=>?_) e
  subst q
  refine iV n0 λ o' es ep e' d Z=>?_
  rw [e] at e';(have e':=ac e';subst e')
  exact kq.no_dict.1 _ _ d
theorem qB.inv (k:qB h h' L) (I:cb cx H h) (lk:ux cx H h L):cb cx H h':=by
 refine I.moved (k.step (P:=fe) (H:=H) lk.ns).imm (λ a o e=>k.all a o (λ q=>?_) (I.base a o e)) λ a f=>?_
 ·subst q;exact absurd (bz e) (dw.mpr lk.above)
 ·refine bw (I.at f) λ o e=>?_
  refine af e ?_;exact k.all _ _ (λ q=>by subst q;exact f lk.free) e
theorem oj (I:cb cx H h) (n:h.Ns L m) (F:Fr cx.base L h' m) (N:DE cx.base L h' news') (hs:∀p∈allNews cx.base h L,p∈news'):qB h h' L:=by
 refine ⟨λ b o nb e=>?_,λ m' e=>?_⟩
 ·cases q:cx.base.get? b with
  |some o'=>
   have:=I.base b o' q
   rw [e] at this;(have this:=ac this;subst this)
   exact F.keep b _ q
  |none=>exact (N _ (hs (b,o) (fO.mpr ⟨e,nb,q⟩))).1
 ·refine kg e λ o1 es1 ep1 g1 d1 k1 f1=>?_
  refine kg n λ o2 es2 ep2 g2 d2 k2 f2=>?_
  rw [g1] at g2;(have g2:=ac g2;subst g2)
  rw [d1] at d2;cases d2
  have:m'=m:=funext λ x=>(f1 x).symm.trans (f2 x)
  exact af this F.ns
end
section
open PySem PySem.W PyProof.Rows PySem.Calls Builtin
theorem l8:typeLookup (.type "tuple") (dunderR "mul")=pure (some (.builtin "tuple.__rmul__")):=by (refine af (typeLookup_type _ _) (af DV ?_));kernel_rfl
theorem oX:fillsNumberSlot (.type "tuple") "mul"=pure false:=
 PySem.fillsNumberSlot_seq (id:="tuple.__mul__") (r:=some (.builtin "tuple.__rmul__")) mn.lookup (by decide+kernel) l8 (by decide+kernel)
theorem uu:seqRepeat? (.type "tuple")=pure (some (.builtin "tuple.__mul__")):=by
 refine af (DF (T:="tuple") (name:="__mul__") (id:="tuple.__mul__") mn.lookup (by decide+kernel)) (af (DF (T:="tuple") (name:="__rmul__") (id:="tuple.__rmul__") l8 (by decide+kernel)) ?_)
 rfl
theorem qw (a:Int) (t:Tok) (l:aI) (xs:Array av) (k:Nat) (dd:Option aI) (sl:Array (Option av)):
  Meets (jb.«int.__rmul__» ⟨[.int a t,.ref l],[]⟩) (λ Z R s=>s.heap.get? l=some {cls:=.type "tuple",dict:=dd,data:=.seq xs k,slots:=sl}/\R (.ok (.ret Value.notImplemented)) s):=
 .of_wp λ prog w A R s h=>by
  obtain ⟨hp,g,d,tk,os⟩:=s;obtain ⟨hl,h⟩:=h
  wp_walk;exact ⟨_,rfl,h⟩
namespace iN
def S_ (t xs k u):=∀(dd:Option aI) (sl:Array (Option av)),Meets (jb.«tuple.__mul__» ⟨[.ref t,.int 1 u],[]⟩) (λ Z R s=>s.heap.get? t=some {cls:=.type "tuple",dict:=dd,data:=.seq xs k,slots:=sl}/\R (.ok (.ret (.ref t))) s)
def U_:=UV λ t xs k=>S_ t xs k
def t_:=dr (by infer_instance) U_
def t:=t_.1
def xs:=t_.2.1
def k:=t_.2.2.1
def u:=t_.2.2.2
theorem P_:S_ t xs k u:=λ dd sl=>
 .of_wp λ prog w A R s h=>by
  obtain ⟨hp,g,d,tk,os⟩:=s;obtain ⟨hl,h⟩:=h
  have h1:(xs.isEmpty||(1:Int)==1)=true:=by simp
  wp_walk
  exact ⟨_,rfl,h⟩
theorem A_:∀p,U_ p:=bC P_
end iN
theorem iN (t:aI) (xs:Array av) (k:Nat) (dd:Option aI) (sl:Array (Option av)) (u:Tok):
  Meets (jb.«tuple.__mul__» ⟨[.ref t,.int 1 u],[]⟩) (λ Z R s=>s.heap.get? t=some {cls:=.type "tuple",dict:=dd,data:=.seq xs k,slots:=sl}/\R (.ok (.ret (.ref t))) s):=
 iN.A_ (t,xs,k,u) dd sl
namespace hU
def S_ (t k dd n u):=∀(xs:Array av) (sl:Array (Option av)) (h0:0<n) (h1:n<=1000) (hn:n≠1) (hz:xs.size=1),Meets (jb.«tuple.__mul__» ⟨[.ref t,.int n u],[]⟩) (λ Z R s=>s.heap.get? t=some {cls:=.type "tuple",dict:=dd,data:=.seq xs k,slots:=sl}/\
   R (.ok (.ret (.ref s.heap.objs.size))) {s with heap:=s.heap.push {cls:=.type "tuple",data:=.seq ((b9 n.toNat xs).foldl (·++·) #[])}})
def U_:=UV λ t k dd=>UU λ n=>S_ t k dd n
def t_:=dr (by infer_instance) U_
def t:=t_.1
def k:=t_.2.1
def dd:=t_.2.2.1
def n:=t_.2.2.2.1
def u:=t_.2.2.2.2
theorem P_:S_ t k dd n u:=λ xs sl h0 h1 hn hz=>
 .of_wp λ prog w A R s h=>by
  obtain ⟨hp,g,d,tk,os⟩:=s;obtain ⟨hl,h⟩:=h
  have e1:(decide (n< -2^63)||decide (n≥2^63))=false:=by
   rw [zc];constructor<;>(apply decide_eq_false;lia)
  have ez:xs.isEmpty=false:=by
   cases q:xs.isEmpty with
   |false=>rfl
   |true=>rw [Array.isEmpty_iff] at q;subst q;simp at hz
  have e2:(xs.isEmpty||n==1)=false:=by (refine af ez (af (jc _) ?_));exact beq_eq_false_iff_ne.mpr hn
  have e3:(decide (n<=0)||xs.isEmpty)=false:=by (refine af ez (af (HN _) ?_));exact decide_eq_false (by lia)
  have e4:¬((xs.size:Int)*n>(2^63 -1)/8):=by refine af hz ?_;lia
  have e5:Tuple.tupleTooMany ((xs.size:Int)*n)=false:=by
   refine af hz ?_
   exact decide_eq_false (by refine af d8 ?_;lia)
  have e6:sizeOk (.seq ((b9 n.toNat xs).foldl (·++·) #[])):=by
   show ((b9 n.toNat xs).foldl (·++·) #[]).size<=bG
   have:∀(k:Nat) (acc:Array av),((b9 k xs).foldl (·++·) acc).size=acc.size+k:=by
    intro k
    induction k with
    |zero=>intro acc;simp
    |succ k ih=>intro acc;(refine af Bh (af gL (af (ih _) (af Array.size_append (af hz ?_)))));exact km _ _ _
   refine af (this _ _) (af d8 ?_);simp;exact eU ‹_› (by decide)
  wp_walk
  refine af e1 ?_
  simp only [ch,if_false]
  wp_walk
  refine wpAny_ite ?_
  split
  ·rename_i q;exact absurd q e4
  ·refine af e5 ?_
   simp only [ch,if_false]
   refine ae (m:=eA _) (cY ?_ e6)
   exact ah ⟨_,rfl,h⟩
theorem A_:∀p,U_ p:=bC P_
end hU
theorem hU (t:aI) (xs:Array av) (k:Nat) (dd:Option aI) (sl:Array (Option av)) (n:Int) (u:Tok) (h0:0<n) (h1:n<=1000) (hn:n≠1) (hz:xs.size=1):
  Meets (jb.«tuple.__mul__» ⟨[.ref t,.int n u],[]⟩) (λ Z R s=>s.heap.get? t=some {cls:=.type "tuple",dict:=dd,data:=.seq xs k,slots:=sl}/\
   R (.ok (.ret (.ref s.heap.objs.size))) {s with heap:=s.heap.push {cls:=.type "tuple",data:=.seq ((b9 n.toNat xs).foldl (·++·) #[])}}):=
 hU.A_ (t,k,dd,n,u) xs sl h0 h1 hn hz
section
variable {E:av->ax->Prop}
theorem zV (ht:ja s.heap t aB) (h0:0<n) (h1:n<=1000) (hz:aB.size=1)
  (h:n=1->Q (.ref t) s) (h2:n≠1->Q (.ref s.heap.objs.size) {s with heap:=s.heap.push {cls:=.type "tuple",data:=.seq ((b9 n.toNat aB).foldl (·++·) #[])}}):
  aE (ay prog w) A (Fc .Mult (.ref t) (.int n tk)) Q E s:=by
 refine cJ ht λ w1_ ho hc t2_=>(bw t2_ λ k hd=>?_)
 clear ht t2_
 obtain ⟨c,dd,dt,sl⟩:=w1_
 dsimp only at hc hd
 subst hc hd
 refine wpAny_binaryOp_repeat_ref (T:="tuple") (U:="int") (by decide) ⟨_,ho,rfl⟩ (λ s'=>typeIs_int s' n tk) oX F.fills_int_mul Im uu F.slot_int_index.lookup
  (xS Im (typeIs_int s n tk) F.entry_int_rmul (F.args_int_rmul_2 _ _) (qw n tk t aB k dd sl) ⟨ho,rfl,⟨_,ho,rfl⟩,?_⟩)
 by_cases hn:n=1
 ·subst hn
  exact xS mn ⟨_,ho,rfl⟩ Gr (Fd _ _) (iN t aB k dd sl tk) ⟨ho,h rfl⟩
 ·exact xS mn ⟨_,ho,rfl⟩ Gr (Fd _ _) (hU t aB k dd sl n tk h0 h1 hn hz) ⟨ho,h2 hn⟩
end
section
variable {E:av->ax->Prop}
theorem sK {sl:aI} {n:Nat} {vl vu:av} {a b:Option Int} {Q:Int×Int×Nat->ax->Prop} (hs:s.heap.IsSliceOf sl vl vu .none)
  (pl:∀{Q:Option Int->ax->Prop},Q a s->aE (ay prog w) A (eZ vl) Q E s) (pu:∀{Q:Option Int->ax->Prop},Q b s->aE (ay prog w) A (eZ vu) Q E s)
  (h:Q ((bl a b 1 n).1,1,ee (bl a b 1 n).1 (bl a b 1 n).2 1) s):
  aE (ay prog w) A (Builtin.Slice.sliceApplied (.ref sl) (pure (n:Int))) Q E s:=by
 refine cJ (id hs) λ os hos hcs hds=>?_
 refine ae (ae (gz hos hds (x:=vl) rfl (ae (gz hos hds (x:=vu) rfl (ae (gz hos hds (x:=.none) rfl (ah ?_)))))))
 refine ae (xT ?_)
 refine af (if_neg (by decide)) ?_
 exact ae (pl (ae (pu (ae (ah (ah h))))))
end
namespace di
def S_ (prog w A E s t sl aB a b Q):=∀{vl:av} {vu:av} (ht:ja s.heap t aB) (hs:s.heap.IsSliceOf sl vl vu .none) (pl:∀{E:av->ax->Prop} {Q:Option Int->ax->Prop},Q a s->aE (ay prog w) A.in1 (eZ vl) Q E s) (pu:∀{E:av->ax->Prop} {Q:Option Int->ax->Prop},Q b s->aE (ay prog w) A.in1 (eZ vu) Q E s) {lo:Nat} {Bv:Nat} (hlo:(bl a b 1 aB.size).1=(lo:Int)) (hcnt:ee (bl a b 1 aB.size).1 (bl a b 1 aB.size).2 1=Bv) (hz:aB.size<=bG) (h1:lo=0->Bv=aB.size->Q (.ref t) s) (h2:Q (.ref s.heap.objs.size) {s with heap:=s.heap.push {cls:=.type "tuple",data:=.seq ((aB.toList.drop lo).take Bv).toArray}}),aE (ay prog w) A (sP (.ref t) (.ref sl)) Q E s
def U_:=UV λ prog w A=>UV λ E s t=>UV λ sl aB a=>UU λ b=>S_ prog w A E s t sl aB a b
def t_:=dr (by have:=qe;have:=pH;have:=vt;infer_instance) U_
def prog:=t_.1
def w:=t_.2.1
def A:=t_.2.2.1
def E:=t_.2.2.2.1
def s:=t_.2.2.2.2.1
def t:=t_.2.2.2.2.2.1
def s1_:=t_.2.2.2.2.2.2
def sl:=s1_.1
def aB:=s1_.2.1
def a:=s1_.2.2.1
def b:=s1_.2.2.2.1
def Q:=s1_.2.2.2.2
theorem P_:S_ prog w A E s t sl aB a b Q:=by
 intro vl vu ht hs pl pu lo Bv hlo hcnt hz h1 h2
 have hfit:sizeOk (.seq ((aB.toList.drop lo).take Bv).toArray):=by
  show ((aB.toList.drop lo).take Bv).toArray.size<=bG
  refine af DG (af bU (af eq (af jr ?_)))
  exact ao (dH ..) (ao (uM ..) hz)
 refine cJ (id hs) λ os hos hcs hds=>?_
 have hTs:s.TypeIs (.ref sl) "slice":=⟨os,hos,hcs⟩
 unfold sP
 try with_reducible refine bA ?_
 first|refine ae (ah ?_)|skip
 refine ae (Io ht.typeIs (by decide) ?_)
 refine ae (mF (name:=aa "__getitem__") ht.typeIs lu
  (gM lu ht.typeIs entry_tuple_getitem ?_ (args_tuple_getitem _ _)))
 show aE _ _ (Builtin.Tuple.tupleItemsOf (.ref t)>>=_) _ _ s
 refine ae (Bi ht ?_)
 refine ae (wpAny_typeOf hTs ?_)
 refine af (if_pos (by decide)) ?_
 refine ae (sK hs pl pu ?_)
 refine af hcnt (af hlo ?_)
 have pick:((bH Bv).filterMap λ (k:Nat)=>aB[((lo:Int)+(k:Int)*1).toNat]?).toArray=((aB.toList.drop lo).take Bv).toArray:=by
  have e:(λ (k:Nat)=>aB[((lo:Int)+(k:Int)*1).toNat]?)=(λ x=>aB[x]?)∘λ k=>lo+k:=by
   funext k
   have:((lo:Int)+(k:Int)*1).toNat=lo+k:=(Nat.add_assoc _ _ _).symm
   exact af this rfl
  exact af e (af List.filterMap_map.symm (af (pick_run aB lo Bv) rfl))
 refine cJ ht λ w1_ ho hc t2_=>(bw t2_ λ k hd=>?_)
 clear ht t2_
 obtain ⟨c,dd,dt,sl'⟩:=w1_
 dsimp only at hc hd
 subst hc hd
 by_cases hw:lo=0/\Bv=aB.size
 ·refine bx hw λ r1_ r2_=>?_
  clear hw
  subst r1_
  subst r2_
  show aE _ _ (if (((0:Nat):Int)==0&&(1:Int)==1&&aB.size==aB.size)=true then _ else _) _ _ s
  refine af (if_pos (by simp)) ?_
  refine ae (m:=Builtin.Tuple.tupleIsExact _) ?_
  refine ae (wpAny_typeOf (T:="tuple") ⟨_,ho,rfl⟩ (ah ?_))
  refine af (if_pos (by decide)) ?_
  first
   |exact ae (jH (ah ⟨_,rfl,ah (h1 rfl rfl)⟩))
   |exact ae (jH (ae (ah (ah ⟨_,rfl,ah (h1 rfl rfl)⟩))))
 ·have hno:¬(((lo:Int)==0&&(1:Int)==1&&Bv==aB.size)=true):=by
   intro q
   simp only [bI,beq_iff_eq] at q
   exact hw ⟨by lia,q.2⟩
  show aE _ _ (if ((lo:Int)==0&&(1:Int)==1&&Bv==aB.size)=true then _ else _) _ _ s
  refine af (if_neg hno) (af pick ?_)
  first
   |exact ae (m:=eA _) (cY (ah ⟨_,rfl,ah h2⟩) hfit)
   |exact ae (m:=eA _) (cY (ae (ah (ah ⟨_,rfl,ah h2⟩))) hfit)
   |exact ae (ae (m:=eA _) (cY (ah (ah ⟨_,rfl,ah h2⟩)) hfit))
   |exact ae (ae (m:=eA _) (cY (ah ⟨_,rfl,ah h2⟩) hfit))
theorem A_:∀p,U_ p:=bC P_
end di
section
variable {prog:cR}
theorem di {prog w A E s t sl aB a b Q}:di.S_ prog w A E s t sl aB a b Q:=di.A_ (prog,w,A,E,s,t,sl,aB,a,b,Q)
end
end
section
open PySem PySem.W PyProof.Rows PySem.Calls
section
variable {cx:Cx}
theorem du:VRel cx h (.int i) (.int i t):=by exact ⟨t,rfl⟩
theorem uF:VRel cx h (.str x) (.str x t):=by exact ⟨t,rfl⟩
theorem qj:VRel cx h (.bool b) (.bool b):=by rfl
theorem my:VRel cx h .none .none:=by rfl
theorem lX:VRel cx h (.ref a) (.ref a):=by rfl
theorem jF (ht:ja h a aB) (r:VRels cx h us aB.toList):VRel cx h (.tuple us) (.ref a):=by exact ⟨a,aB,rfl,ht,r⟩
theorem cn (r:VRel cx h (.int i) v):∃t,v=.int i t:=by exact r
theorem hJ (r:VRel cx h (.str x) v):∃t,v=.str x t:=by exact r
theorem mu (r:VRel cx h (.bool b) v):v=.bool b:=by exact r
theorem gr (r:VRel cx h .none v):v=.none:=by exact r
theorem dh (r:VRel cx h (.ref a) v):v=.ref a:=by exact r
theorem fA (r:VRel cx h (.tuple us) v):∃a aB,v=.ref a/\ja h a aB/\VRels cx h us aB.toList:=by exact r
theorem FH (r:VRel cx h (.flist us) v):∃a aB,v=.ref a/\cx.base.IsList a aB/\VRels cx h us aB.toList:=by exact r
theorem yv (r:VRel cx h (.fn f) v):v=cx.addr f:=by exact r
end
theorem re (ht:ja h a aB):ja h a aB.toList.toArray:=by exact af jd ht
theorem tQ {h:cO} (e:h.get? a=some {cls:=.type "list",data:=.seq aB n}):h.IsList a aB.toList.toArray:=by exact af jd ⟨_,e,rfl,n,rfl⟩
theorem rD {l:List av} (e:h.get? a=some {cls:=.type "tuple",data:=.seq l.toArray}):ja h a l.toArray:=⟨_,e,rfl,0,rfl⟩
theorem mW (h:x.natAbs<2^k):lL x<=k:=by
 unfold lL
 split
 ·exact cU _
 ·rename_i hx
  have:x.natAbs≠0:=by
   intro q;apply hx;have:x=0:=by lia
   refine af this ?_;rfl
  exact (sq this).mpr h
theorem HL (h:y.natAbs<2^k) (hk:k<=8000):cX x y=false:=by
 refine PyProof.noPylong_of_log2 ?_
 by_cases h0:y.natAbs=0
 ·refine af h0 ?_;decide
 ·have:=(sq h0).mpr h;lia
theorem Kl (h:iI y.natAbs 1024=true):cX x y=false:=HL (k:=10) (hV.mp h) (by decide)
theorem BW (h:divOk y=true):0<y/\cX x y=false:=by
 unfold divOk at h
 rw [bI] at h
 exact ⟨of_decide_eq_true h.1,Kl h.2⟩
section
variable {s:ax} {E:av->ax->Prop}
theorem sD {Q:V->MH->Prop} {m:aw->Option av} {h':cO} {a:aI} {vs:List av} {us:List V} {news:List (aI×xQ)} {t:Nat} (lk:ux cx H s.heap L) (I:cb cx H s.heap) (n:s.heap.Ns L m) (ha:s.heap.objs.size<=a)
  (F:Fr cx.base L h' m) (N:DE cx.base L h' news) (hm:(a,({cls:=.type "list",data:=.seq vs.toArray}:xQ))∈news) (hs:∀p∈allNews cx.base s.heap L,p∈news) (r:VRels cx s.heap us vs)
  (q:∀c,H c=none->Q (.ref c) (H.set c (.list us))):bO cx H s Q (.ref a) {s with heap:=h',toks:=t}:=by
 have k:=oj I n F N hs
 have st:=k.step (P:=fe) (H:=H) lk.ns
 have I':=k.inv I lk
 have ha':s.heap.get? a=none:=dO ha
 refine ⟨.ref a,H.set a (.list us),q _ (I.free ha').1,lX,I'.take (λ Z Z Z e=>by cases e) (I.free ha') (ao lk.le ha) ⟨vs.toArray,0,(N _ hm).1,?_⟩,st.take (λ Z Z Z e=>by cases e) ha',rfl,rfl,rfl⟩
 exact VRels.mono st.imm _ r
theorem uD (lk:ux cx H s.heap L) (I:cb cx H s.heap) (n:s.heap.Ns L m)
  (F:Fr cx.base L h' m) (N:DE cx.base L h' news) (hm:(a,({cls:=.type "tuple",data:=.seq vs.toArray}:xQ))∈news) (hs:∀p∈allNews cx.base s.heap L,p∈news) (r:VRels cx s.heap us vs)
  (q:Q (.tuple us) H):bO cx H s Q (.ref a) {s with heap:=h',toks:=t}:=by
 have k:=oj I n F N hs
 have st:=k.step (P:=fe) (H:=H) lk.ns
 exact ⟨.tuple us,H,q,jF (rD (N _ hm).1) (VRels.mono st.imm _ r),k.inv I lk,st,rfl,rfl,rfl⟩
theorem xA (lk:ux cx H s.heap L) (I:cb cx H s.heap) (n:s.heap.Ns L m)
  (F:Fr cx.base L h' m) (N:DE cx.base L h' news) (hs:∀p∈allNews cx.base s.heap L,p∈news) (r:VRel cx s.heap u v)
  (q:Q u H):bO cx H s Q v {s with heap:=h',toks:=t}:=by
 have k:=oj I n F N hs
 have st:=k.step (P:=fe) (H:=H) lk.ns
 exact ⟨u,H,q,VRel.mono st.imm _ r,k.inv I lk,st,rfl,rfl,rfl⟩
theorem lG {K:Int->Int->Prop} {R:Prop} (ru:VRel cx h u a) (rv:VRel cx h v b) (q:ii u v K) (k:∀x y t t',K x y->a=.int x t->b=.int y t'->R):R:=by
 refine cu (Hd q) λ x y r1_ r2_ z=>?_
 subst r1_
 subst r2_
 obtain ⟨t,e⟩:=cn ru;obtain ⟨t',e'⟩:=cn rv
 exact k _ _ _ _ z e e'
theorem Hy (lk:ux cx H s.heap L) (I:cb cx H s.heap) (ru:VRel cx s.heap u a) (rv:VRel cx s.heap v b) (q:addV u v H Q):
  aE (ay cx.prog cx.w) A (Fc .Add a b) (bO cx H s Q) E s:=by
 refine bw lk.ns λ m n=>?_
 have F:=v5 I lk n
 have N:DE cx.base L s.heap (allNews cx.base s.heap L):=lm
 refine rJ q (λ x e q=>?_) (λ x e q=>?_) (λ us e q=>?_) (λ x e q=>?_)<;>subst e
 ·refine aL (rq q) λ y r1_ q=>?_
  subst r1_
  obtain ⟨t,rfl⟩:=cn ru;obtain ⟨t',rfl⟩:=cn rv
  exact add_int (bO.tok I du q)
 ·refine aL (KU q) λ y r1_ q=>?_
  subst r1_
  obtain ⟨t,rfl⟩:=hJ ru;obtain ⟨t',rfl⟩:=hJ rv
  exact add_str (λ t' tk=>bO.tok I uF q.2) q.1
 ·refine aL (IT q) λ vs r1_ q=>?_
  subst r1_
  obtain ⟨x,xs,rfl,hx,rx⟩:=fA ru;obtain ⟨y,ys,rfl,hy,ry⟩:=fA rv
  have r:=rx.app ry
  exact add_tuples F N (re hx) (re hy) (λ e=>bO.here I (jF hy (by rw [e] at r;exact r)) q.2) (λ Z e=>bO.here I (jF hx (by rw [e,d5] at r;exact r)) q.2) (λ Z Z h' F' N'=>uD lk I n F' N' (.head _) (λ p hp=>.tail _ hp) r q.2) (by (refine af rx.len (af ry.len ?_));exact q.1)
 ·refine aL (wh q) λ y r1_ q=>?_
  subst r1_
  cases dh ru;cases dh rv
  exact aL (GI q) λ us h1 q=>(aL (GI q) λ vs h2 q=>(f7 (I.own _ _ h1) λ xs nx g1 r1=>(f7 (I.own _ _ h2) λ ys ny g2 r2=>(add_lists F N (tQ g1) (tQ g2) (λ h' F' N'=>sD lk I n (bW _) F' N' (.head _) (λ p hp=>.tail _ hp) (r1.app r2) q.2) (by (refine af r1.len (af r2.len ?_));exact q.1)))))
theorem qJ:∀(k:Nat) (acc:Array av),((b9 k #[w]).foldl (·++·) acc).toList=acc.toList++b9 k w
 |0,acc=>(d5 _).symm
 |k+1,acc=>by (refine af Bh (af gL (af (qJ k _) (af Array.toList_append (af (eS _ _ _) ?_)))));rfl
theorem yF (r:VRel cx h u w):∀k,VRels cx h (b9 k u) (b9 k w)
 |0=>.nil
 |k+1=>.cons r (yF r k)
theorem G5 (I:cb cx H s.heap) (ru:VRel cx s.heap u a) (rv:VRel cx s.heap v b) (q:mulV u v H Q):
  aE (ay cx.prog cx.w) A (Fc .Mult a b) (bO cx H s Q) E s:=by
 refine aL (rq q) λ y r1_ q1=>?_
 subst r1_
 clear q
 refine rJ q1 (λ x e q=>?_) (λ x e q=>q.elim) (λ us e q=>?_) (λ x e q=>q.elim)<;>subst e
 ·obtain ⟨t,rfl⟩:=cn ru;obtain ⟨t',rfl⟩:=cn rv
  exact mul_int (bO.tok I du q.2) q.1
 ·refine bw (cn rv) λ t' r1_=>?_
  subst r1_
  refine aL (DB q) λ u r1_ q=>?_
  subst r1_
  refine cu (fA ru) λ x xs r1_ hx rx=>?_
  subst r1_
  refine cu rx.cons_inv λ w0 ws e r0 r1=>?_
  cases r1.nil_inv
  cases (DH.mp e:xs=#[w0])
  refine zV hx q.1.1 q.1.2 rfl (λ e=>?_) λ e=>?_
  ·subst e;exact bO.here I (jF hx rx) q.2
  ·refine bO.priv (t:=s.toks) I (λ Z Z e=>ak _ e) (jF (aB:=(b9 _ #[w0]).foldl (·++·) #[]) ⟨_,bu _ rfl,rfl,0,rfl⟩ ?_) q.2
   refine af (qJ _ _) ?_
   exact (yF r0 _).mono (bQ.of_keeps λ Z Z e=>ak _ e) _
theorem EC (lk:ux cx H s.heap L) (I:cb cx H s.heap) (ru:VRel cx s.heap u a) (rv:VRel cx s.heap v b) (q:binV op u v H Q):
  aE (ay cx.prog cx.w) A (Fc op a b) (bO cx H s Q) E s:=by
 cases op with
 |Add=>exact Hy lk I ru rv q
 |Sub=>exact lG ru rv q λ x y t t' q e1 e2=>by subst e1 e2;exact sub_int (bO.tok I du q)
 |Mult=>exact G5 I ru rv q
 |FloorDiv=>
  refine lG ru rv q λ x y t t' q e1 e2=>?_
  subst e1 e2
  have q:(0<y/\cX x y=false)/\Q (.int (x/y)) H:=by
   cases e:divOk y with
   |true=>exact ⟨BW e,(IJ q).1 e⟩
   |false=>exact (IJ q).2 e
  exact floordiv_int (iJ q.1.1) (by refine af (uN _ (fB q.1.1)) ?_;exact bO.tok I du q.2) (.inl q.1.2)
 |Mod=>
  refine lG ru rv q λ x y t t' q e1 e2=>?_
  subst e1 e2
  have q1:0<y:=of_decide_eq_true (kD q).1
  exact mod_int' (iJ q1) (by refine af (Int.fmod_eq_emod_of_nonneg _ (fB q1)) ?_;exact bO.tok I du (kD q).2)
 |Pow=>exact lG ru rv q λ x y t t' q e1 e2=>by subst e1 e2;exact pow_int_small q.1.1 q.1.2.1 q.1.2.2 (bO.tok I du q.2)
 |LShift=>exact lG ru rv q λ x y t t' q e1 e2=>by subst e1 e2;exact lshift_int q.1.1 q.1.2 (bO.tok I du q.2)
 |RShift=>
  refine lG ru rv q λ x y t t' q e1 e2=>?_
  subst e1 e2
  refine rshift_int q.1 ?_
  refine af (uN _ (fB (Int.pow_pos (by decide)))) ?_
  exact bO.tok I du q.2
 |BitOr=>exact lG ru rv q λ x y t t' q e1 e2=>by subst e1 e2;exact or_int (bO.tok I du q)
 |BitAnd=>exact lG ru rv q λ x y t t' q e1 e2=>by subst e1 e2;exact and_int (bO.tok I du q)
 |_=>exact q.elim
theorem ED (h:seqOf H (.ref a)=some us):H a=some (.list us):=by
 have h:(match H a with
  |some (.list us)=>some us
  |_=>none)=some us:=h
 generalize H a=o at h⊢
 cases o with
 |none=>cases h
 |some o=>cases o<;>first|exact congrArg (λ l=>some (bK.list l)) (ac h)|cases h
theorem j8 (k:∀u {v d},VRel cx s.heap u v->f u=some d->∃as,Reads s.heap v d as):∀{us:List V} {vs:List av} {ds:List pk},VRels cx s.heap us vs->mapO f us=some ds->∃as,ReadsAll s.heap vs ds as
 |[],_,_,r,e=>by cases r.nil_inv;cases e;exact ⟨_,.nil⟩
 |_::_,_,_,r,e=>by
  refine cu r.cons_inv λ v vs' r1_ r1 r2=>?_
  subst r1_
  refine aL (gN.mp e) λ d e1 e=>(aL (aH.mp e) λ ds e2 r1_=>?_)
  subst r1_
  exact bw (k _ r1 e1) λ as q1=>(bw (j8 k r2 e2) λ bs q2=>⟨_,.cons q1 q2⟩)
theorem ot (I:cb cx H s.heap) (n:Nat):∀(u:V) {v:av} {d:pk},VRel cx s.heap u v->dataOf H n u=some d->∃as,Reads s.heap v d as:=by
 induction n with
 |zero=>exact λ Z Z Z Z e=>nomatch e
 |succ n ih=>
  intro u v d r e
  cases u with
  |none=>cases gr r;cases e;exact ⟨_,.none⟩
  |bool b=>cases mu r;cases e;exact ⟨_,.bool b⟩
  |int i=>obtain ⟨t,rfl⟩:=cn r;cases e;exact ⟨_,.int i t⟩
  |str x=>obtain ⟨t,rfl⟩:=hJ r;cases e;exact ⟨_,.str x t⟩
  |tuple us=>
   refine cu (fA r) λ a aB r1_ w2_ rs=>?_
   subst r1_
   refine cJ w2_ λ o ho hc t1_=>(bw t1_ λ k hd=>?_)
   refine aL (aH.mp e) λ ds e1 r1_=>?_
   subst r1_
   exact bw (j8 ih rs e1) λ as q=>⟨_,.tuple ho hc hd q⟩
  |flist us=>
   refine cu (FH r) λ a aB r1_ w2_ rs=>?_
   subst r1_
   refine cJ w2_ λ o ho hc t1_=>(bw t1_ λ k hd=>?_)
   refine aL (aH.mp e) λ ds e1 r1_=>?_
   subst r1_
   exact bw (j8 ih rs e1) λ as q=>⟨_,.list (I.base _ _ ho) hc hd q⟩
  |ref a=>
   cases dh r
   refine aL (gN.mp e) λ us hu e=>(f7 (I.own _ _ (ED hu)) λ aB k ho rs=>(aL (aH.mp e) λ ds e1 r1_=>?_))
   subst r1_
   exact bw (j8 ih rs e1) λ as q=>⟨_,.list ho rfl rfl q⟩
  |_=>cases e
theorem Hq (hu:A.units+100<mG) (I:cb cx H s.heap) (ru:VRel cx s.heap u a) (rv:VRel cx s.heap v b) (q:Ih u v H Q) (k:∀r,Q r->R (.bool r) s):
  aE (ay cx.prog cx.w) A (jI .Eq a b) R E s:=by
 rcases yx q with ⟨r,e,q⟩|q
 ·rcases FS e with ⟨x,y,rfl,rfl,rfl⟩|⟨x,y,rfl,rfl,rfl⟩
  ·obtain ⟨t,rfl⟩:=cn ru;obtain ⟨t',rfl⟩:=cn rv
   exact eq_int (k _ q)
  ·obtain ⟨t,rfl⟩:=hJ ru;obtain ⟨t',rfl⟩:=hJ rv
   exact eq_str (k _ q)
 ·exact aL (yL q) λ d e1 q=>(aL (yL q) λ d' e2 q=>(bw (ot I _ _ ru e1) λ as q1=>(bw (ot I _ _ rv e2) λ bs q2=>(SeqAt.compareEq_shaped q1 q2 q.1 q.2.1 (by lia) (k _ q.2.2)))))
theorem HA {Q:Bool->Prop} (hu:A.units+100<mG) (I:cb cx H s.heap) (ru:VRel cx s.heap u a) (rv:VRel cx s.heap v b) (q:Ih u v H λ r=>Q (!r)) (k:∀r,Q r->R (.bool r) s):
  aE (ay cx.prog cx.w) A (jI .NotEq a b) R E s:=by
 rcases yx q with ⟨r,e,q⟩|q
 ·rcases FS e with ⟨x,y,rfl,rfl,rfl⟩|⟨x,y,rfl,rfl,rfl⟩
  ·obtain ⟨t,rfl⟩:=cn ru;obtain ⟨t',rfl⟩:=cn rv
   exact ne_int (k _ q)
  ·obtain ⟨t,rfl⟩:=hJ ru;obtain ⟨t',rfl⟩:=hJ rv
   exact ne_str (k _ q)
 ·exact aL (yL q) λ d e1 q=>(aL (yL q) λ d' e2 q=>(bw (ot I _ _ ru e1) λ as q1=>(bw (ot I _ _ rv e2) λ bs q2=>(SeqAt.compareNe_shaped q1 q2 q.1 q.2.1 (by lia) (k _ q.2.2)))))
end
theorem wr {E:av->ax->Prop} (h:aE M A (jI .In k o) (λ v s'=>∃b,v=.bool b/\Q (.bool (!b)) s') E s):aE M A (jI .NotIn k o) Q E s:=λ Γ p hΓ=>by
 have:=h Γ p hΓ
 have e:jI .In k o=(contains o k>>=λ b=>pure (.bool b)):=rfl
 have e2:jI .NotIn k o=(contains o k>>=λ b=>pure (.bool (!b))):=rfl
 rw [e,Sem.wp_bind'] at this
 (refine af e2 ?_;rw [Sem.wp_bind'])
 refine Sem.wp_mono M Γ _ (λ b p' s' h'=>?_) (λ Z Z Z x=>x) p s this
 have h':∃b',Value.bool b=.bool b'/\Q (.bool (!b')) s':=h'
 refine aL h' λ b' e3 q=>?_
 cases e3
 exact q
section
variable {K:Type} [DecidableEq K] {knd:KeyKind prog w K} {E:av->ax->Prop}
theorem xN {f} (hkey:knd.is k key=true) (hm:s.heap.MapOf knd d f) (hz:s.heap.DictLe d n) (hn:n<=bG)
  (hQ:∀h',h'.MapOf knd d (λ x=>if x=k then some v else f x)->h'.DictLe d (n+1)->dm d s.heap h'->Q () {s with heap:=h',toks:=s.toks+1}):
  aE (ay prog w) A (dictSet d key v) Q E s:=by
 refine uf hm λ o es ep ho hc hd hk hf=>?_
 have hes:es.size<=n:=hz _ _ _ ho hd
 unfold dictSet
 try with_reducible refine bA ?_
 refine ae (knd.pyHash hkey ?_)
 unfold dictSetHashed
 try with_reducible refine bA ?_
 refine ae (wpAny_dictFind_of (s:={s with toks:=s.toks+1}) hkey ho hd hk ?_)
 cases hi:es.findIdx? λ e=>knd.is k e.key with
 |some i=>
  have hg:=co (Obj.mapDict (·.modify i λ e=>{e with val:=v})) ho (Bw (r9 hd _))
  refine ae (jH (ae (wpAny_updateDict (s:={s with toks:=s.toks+1}) ho hd (wpAny_point (hQ _ ⟨_,_,ep,hg,
   hc.mapDict _,r9 hd _,hk.modify _ _,λ x=>?_⟩ (λ o' es' ep' ho' hd'=>?_) (dM ..))))))
  ·exact af (findBy_modify knd.is knd.inj es k x v i hi) (af (hf _) rfl)
  ·rw [hg] at ho';(have ho':=ac ho';subst ho')
   rw [r9 hd] at hd';cases hd'
   refine af Array.size_modify ?_;exact cL ‹_›
 |none=>
  have hg:=co (Obj.mapDictKeys (·.push ⟨knd.hash k,key,v⟩)) ho (Bw (nu hd _))
  refine ae (jH (wpAny_updateDictKeys (hz:=ao hes hn) (s:={s with toks:=s.toks+1}) ho hd (hQ _ ⟨_,_,ep+1,hg,
   hc.mapDictKeys _,nu hd _,hk.push hkey _,λ x=>?_⟩ (λ o' es' ep' ho' hd'=>?_) (dM ..))))
  ·exact af (findBy_push knd.is es k x _ _ v (KeyKind.is_eq_decide hkey) hi) (af (hf _) rfl)
  ·rw [hg] at ho';(have ho':=ac ho';subst ho')
   rw [nu hd] at hd';cases hd'
   refine af (Array.size_push _) ?_;exact cw ‹_›
theorem qX {f} (hkey:knd.is k key=true) (hm:s.heap.MapOf knd d f) (hz:s.heap.DictLe d n) (hn:n<=bG)
  (hQ:∀h',h'.MapOf knd d (λ x=>if x=k then some v else f x)->h'.DictLe d (n+1)->dm d s.heap h'->Q () {s with heap:=h',toks:=s.toks+1}):
  aE (ay prog w) A (setItem (.ref d) key v) Q E s:=by
 unfold setItem
 try with_reducible refine bA ?_
 refine ae (Io hm.typeIs (by decide) ?_)
 refine ae (mF (name:=aa "__setitem__") hm.typeIs Ip
  (gM Ip hm.typeIs entry_dict_setitem ?_ (args_dict_setitem _ _ _)))
 refine ae (DW hm.typeIs ?_)
 show aE _ _ (dictSet d key v>>=_) _ _ s
 exact ae (xN hkey hm hz hn λ h' hm' hl' hs'=>ah ⟨.none,rfl,ah (hQ h' hm' hl' hs')⟩)
end
theorem o7 {K:Type} [DecidableEq K] {knd:KeyKind prog w K} {h:cO} (e:h.get? a=some (nq [] n)):h.MapOf knd a λ Z=>none:=
 ⟨_,#[],n,e,⟨rfl,rfl,rfl⟩,rfl,λ Z he=>by simp at he,λ Z=>rfl⟩
theorem Dy {h:cO} (e:h.get? a=some (nq [] n)):h.DictLe a 0:=λ o es ep e1 e2=>by rw [e] at e1;(have e1:=ac e1;subst e1);cases e2;exact bW _
section
variable {s:ax} {E:av->ax->Prop}
theorem rj:∀{ss:List aw} {vs:List av},VRels cx s.heap (ss.map V.str) vs->StrsAre vs ss
 |[],_,r=>by have:=r.nil_inv;subst this;exact .nil
 |x::ss,_,r=>by
  refine cu r.cons_inv λ v vs' r1_ r1 r2=>?_
  subst r1_
  refine bw (hJ r1) λ t r1_=>?_
  subst r1_
  exact .cons _ _ (rj r2)
theorem EW (ss:List aw) (x:aw):(ss.any (·==x))=decide (x∈ss):=by
 induction ss with
 |nil=>rfl
 |cons y r ih=>
  refine af kX (af ih ?_)
  by_cases h:x=y
  ·subst h;simp
  ·have h2:(y==x)=false:=beq_eq_false_iff_ne.mpr λ e=>h e.symm
   simp [h,h2]
theorem lW (hsys:fq<cx.base.objs.size) (I:cb cx H s.heap) (e:H a=some o):(a==fq)=false:=by
 have:=I.old a (ft e)
 rw [beq_eq_false_iff_ne]
 intro q;subst q;exact absurd hsys (dw.mpr this)
theorem uj:∀{es:List (aw×V)} {kvs:List (aw×av)},KRel cx h es kvs->∀k,OR cx h (es.lookup k) (valueAt kvs k)
 |[],_,r,k=>by subst r;exact trivial
 |(n,u)::es,_,r,k=>by
  refine cu r λ v kvs' r1_ h1 h2=>?_
  clear r
  subst r1_
  refine af aG ?_
  unfold valueAt
  refine af (js) ?_
  by_cases q:k=n
  ·subst q
   simp only [beq_self_eq_true,decide_true]
   exact h1
  ·refine af (show (k==n)=false from beq_eq_false_iff_ne.mpr q) ?_
   refine af (show decide (n=k)=false from decide_eq_false λ z=>q z.symm) ?_
   exact uj h2 k
theorem oh:∀{es:List (aw×V)} {kvs:List (aw×av)},KRel cx h es kvs->kvs.length=es.length
 |[],_,r=>by subst r;rfl
 |(n,u)::es,_,r=>by
  refine cu r λ v kvs' r1_ h1 h2=>?_
  clear r
  subst r1_
  exact af aQ (af aQ (af (oh h2) rfl))
theorem tU:∀{kvs:List (aw×av)},(kvs.any λ kv=>decide (kv.1=n))=false->(kvs.map λ kv=>if kv.1=n then (kv.1,v) else kv)=kvs
 |[],_=>rfl
 |(m,x)::kvs,q=>by
  rw [kX,zc] at q
  exact af bk (af (tU q.2) (af (if_neg (of_decide_eq_false q.1)) rfl))
theorem yX {kvs:List (aw×av)} (h:n∉kvs.map (·.1)):(kvs.any λ kv=>decide (kv.1=n))=false:=by
 rw [DI]
 intro kv hk
 simp only [decide_eq_true_eq]
 intro q
 exact h (q▸d9 (f:=(·.1)) hk)
theorem p5 (rv:VRel cx h u v):∀{es:List (aw×V)} {kvs:List (aw×av)},KRel cx h es kvs->(kvs.map (·.1)).Nodup->KRel cx h (alSet es n u) (DJ kvs n v)
 |[],_,r,_=>by subst r;exact ⟨v,[],rfl,rv,rfl⟩
 |(m,w)::es,_,r,hn=>by
  refine cu r λ x kvs' r1_ h1 h2=>?_
  clear r
  subst r1_
  rw [bk,cc] at hn
  unfold alSet DJ
  by_cases q:n=m
  ·subst q
   refine af (if_pos rfl) (af (if_pos (by simp)) (af bk (af (if_pos rfl) (af (tU (yX hn.1)) ?_))))
   exact ⟨v,kvs',rfl,rv,h2⟩
  ·have q':¬m=n:=λ z=>q z.symm
   refine af (if_neg q) ?_
   have ih:=p5 (n:=n) rv h2 hn.2
   unfold DJ at ih
   have e:((m,x)::kvs').any (λ kv=>decide (kv.1=n))=kvs'.any (λ kv=>decide (kv.1=n)):=by
    exact af kX (af (decide_eq_false q') (af (jc _) rfl))
   refine af e ?_
   split
   ·rename_i z
    rw [if_pos z] at ih
    refine af bk (af (if_neg q') ?_)
    exact ⟨x,_,rfl,h1,ih⟩
   ·rename_i z
    rw [if_neg z] at ih
    exact ⟨x,_,rfl,h1,ih⟩
theorem vM {K:Type} [DecidableEq K] {knd:KeyKind prog w K} {h:cO} (e:h.get? a=some (nq [] n)):h.DictOf knd a []:=
 ⟨_,#[],n,e,⟨rfl,rfl,rfl⟩,rfl,λ Z he=>by simp at he,Pairs.nil,iu⟩
theorem CJ (hsys:fq<cx.base.objs.size) (I:cb cx H s.heap) (ru:VRel cx s.heap u a) (rv:VRel cx s.heap v b) (q:inV u v H Q) (k:∀r t,Q r->R (.bool r) {s with toks:=t}):
  aE (ay cx.prog cx.w) A (jI .In a b) R E s:=by
 refine rJ q (λ x e q=>?_) (λ x e q=>?_) (λ Z Z z=>z.elim) (λ Z Z z=>z.elim)<;>subst e
 ·refine bw (cn ru) λ t r1_=>?_
  subst r1_
  refine aL (wh q) λ y e q=>?_
  subst e;cases dh rv
  refine sH q (λ Z Z z=>z.elim) (λ Z Z z=>z.elim) (λ f n e q=>?_) (λ Z Z z=>z.elim) (λ e q=>?_) (λ Z Z Z Z z=>z.elim)
  ·exact cJ (I.own _ _ e) λ g hm Z o=>(uW (nv cx.prog cx.w _ t) (lW hsys I e) hm (k _ _ (by exact af ((o _).isSome) q)))
  ·exact bw (I.own _ _ e) λ n e'=>(uW (nv cx.prog cx.w _ t) (lW hsys I e) (o7 e') (k _ _ q))
 ·refine bw (hJ ru) λ t r1_=>?_
  subst r1_
  refine rJ q (λ Z Z z=>z.elim) (λ Z Z z=>z.elim) (λ us e q=>?_) (λ y e q=>?_)<;>subst e
  ·refine aL q λ ss r1_ q2=>?_
   clear q
   subst r1_
   refine cu (fA rv) λ x aB r1_ ht rs=>?_
   subst r1_
   exact in_tuple_strs ht (rj rs) (by refine af (EW _ _) ?_;exact k _ _ q2)
  ·cases dh rv
   refine sH q (λ Z Z z=>z.elim) (λ es e q=>?_) (λ Z Z Z z=>z.elim) (λ Z Z z=>z.elim) (λ e q=>?_) (λ Z Z Z Z z=>z.elim)
   ·exact aL (I.own _ _ e) λ kvs hm kr=>(uW (nw cx.prog cx.w _ t) (lW hsys I e) hm.mapOf (k _ _ (by exact af ((uj kr _).isSome) q)))
   ·exact bw (I.own _ _ e) λ n e'=>(uW (nw cx.prog cx.w _ t) (lW hsys I e) (o7 e') (k _ _ q))
theorem GH (ru:VRel cx s.heap u a) (e:isO u=some b):(a==.none)=b:=by
 cases u with
 |none=>cases gr ru;exact ac e
 |bool _=>cases mu ru;exact ac e
 |int _=>obtain ⟨t,rfl⟩:=cn ru;exact ac e
 |str _=>obtain ⟨t,rfl⟩:=hJ ru;exact ac e
 |tuple _=>obtain ⟨x,_,rfl,_⟩:=fA ru;exact ac e
 |ref _=>cases dh ru;exact ac e
 |_=>exact (cW e).elim
theorem Cs {R:Prop} (ru:VRel cx s.heap u a) (rv:VRel cx s.heap v b) (q:J9 u v Q) (k:b=.none->Q (a==.none)->R):R:=by
 cases v with
 |none=>
  rcases yx q with ⟨r,e,q⟩|q
  ·exact k (gr rv) (GH ru e▸q)
  ·exact q.elim
 |_=>exact q.elim
theorem EQ (hsys:fq<cx.base.objs.size) (hu:A.units+100<mG) (I:cb cx H s.heap) (ru:VRel cx s.heap u a) (rv:VRel cx s.heap v b) (q:cmpV op u v H Q)
  (k:∀r t,Q r->R (.bool r) {s with toks:=t}):aE (ay cx.prog cx.w) A (jI op a b) R E s:=by
 cases op
 ·exact Hq hu I ru rv q λ r h=>k r s.toks h
 ·exact HA hu I ru rv q λ r h=>k r s.toks h
 ·exact lG ru rv q λ x y t t' q e1 e2=>by subst e1 e2;exact lt_int (k _ s.toks q)
 ·exact lG ru rv q λ x y t t' q e1 e2=>by subst e1 e2;exact le_int (k _ s.toks q)
 ·exact lG ru rv q λ x y t t' q e1 e2=>by subst e1 e2;exact gt_int (k _ s.toks q)
 ·exact lG ru rv q λ x y t t' q e1 e2=>by subst e1 e2;exact ge_int (k _ s.toks q)
 ·exact Cs (Q:=Q) ru rv q λ e h=>by subst e;exact is_none (k _ s.toks h)
 ·exact Cs (Q:=λ b=>Q (!b)) ru rv q λ e h=>by subst e;exact isNot_none (k _ s.toks h)
 ·exact CJ hsys I ru rv q k
 ·exact wr (CJ hsys I ru rv q λ r t h=>⟨r,rfl,k _ t h⟩)
end
structure Good (cx:Cx):Prop where
 X:cx.K.In cx.base
 sys:fq<cx.base.objs.size
 hand:∀f,sQ (cx.addr f)=true
 fld:∀c n,cx.fld c n=true->∃C,cx.addr c=.ref C/\plainGet cx.K C n=true/\uO cx.K C=true/\cS cx.K (.ref C) n=some none/\
  cS cx.K (.ref C) "__setattr__"=some (some (.builtin "object.__setattr__"))/\plainOver cx.K C=true
theorem oK (h:∀l u s p,gd≠.Slice l u s p):pq gd false o i=DK [o,i] (sP o i):=by
 cases gd<;>first|rfl|exact absurd rfl (h _ _ _ _)
section
variable {s:ax} {E:av->ax->Prop}
theorem zt (G:Good cx) (r:VRel cx h u v):sQ v=true:=by
 cases u with
 |none=>refine af (gr r) ?_;rfl
 |bool b=>refine af (mu r) ?_;rfl
 |int i=>obtain ⟨t,rfl⟩:=cn r;rfl
 |str x=>obtain ⟨t,rfl⟩:=hJ r;rfl
 |bytes b=>obtain ⟨t,rfl,_⟩:=r;rfl
 |fn f=>refine af (yv r) ?_;exact G.hand f
 |ref a=>refine af (dh r) ?_;rfl
 |tuple us=>obtain ⟨a,_,rfl,_⟩:=fA r;rfl
 |flist us=>obtain ⟨a,_,rfl,_⟩:=r;rfl
 |range n=>obtain ⟨a,_,_,_,rfl,_⟩:=r;rfl
theorem qu:∀{as:List (aw×V)} {es:List fV} {n:aw} {u:V},ARel cx s.heap as es->as.lookup n=some u->∃v,Fe n es=some (some v)/\VRel cx s.heap u v
 |[],_,_,_,_,e=>by cases e
 |(m,w)::as,es,n,u,r,e=>by
  refine kg r λ e0 es' t r1_ hk hv hr=>?_
  clear r
  subst r1_
  unfold Fe
  refine af (js) ?_
  have hs:e0.key.isStr n=(m==n):=by refine af hk ?_;rfl
  rw [aG] at e
  by_cases q:n=m
  ·subst q
   simp only [beq_self_eq_true] at e
   (have e:=ac e;subst e)
   refine af hs (af (beq_self_eq_true _) ?_)
   exact ⟨_,rfl,hv⟩
  ·have q1:(n==m)=false:=beq_eq_false_iff_ne.mpr q
   have q2:(m==n)=false:=beq_eq_false_iff_ne.mpr λ z=>q z.symm
   rw [q1] at e
   refine af hs (af q2 ?_)
   refine aL (qu hr e) λ v g rv=>⟨v,?_,rv⟩
   have hrk:e0.refKey=false:=by unfold xU;(exact af hk rfl)
   refine af kX (af hrk (af (jc _) ?_))
   exact g
theorem pd:∀{as:List (aw×V)} {es:List fV} {n:aw},ARel cx s.heap as es->as.lookup n=none->Fe n es=some none
 |[],_,_,r,_=>by subst r;rfl
 |(m,w)::as,es,n,r,e=>by
  refine kg r λ e0 es' t r1_ hk hv hr=>?_
  subst r1_
  unfold Fe
  refine af (js) ?_
  have hs:e0.key.isStr n=(m==n):=by refine af hk ?_;rfl
  rw [aG] at e
  by_cases q:n=m
  ·subst q;simp at e
  ·have q1:(n==m)=false:=beq_eq_false_iff_ne.mpr q
   have q2:(m==n)=false:=beq_eq_false_iff_ne.mpr λ z=>q z.symm
   rw [q1] at e
   refine af hs (af q2 ?_)
   have g:=pd hr e
   have hrk:e0.refKey=false:=by unfold xU;(exact af hk rfl)
   refine af kX (af hrk (af (jc _) ?_))
   exact g
theorem vv (rv:VRel cx h u v):∀{as:List (aw×V)} {es:List fV},ARel cx h as es->ARel cx h (alSet as n u) (putL n hsh (.str n t) v es)
 |[],_,r=>by subst r;unfold alSet putL ARel;exact ⟨_,_,t,rfl,rfl,rv,rfl⟩
 |(m,w)::as,es,r=>by
  refine kg r λ e0 es' t' r1_ hk hv hr=>?_
  clear r
  subst r1_
  have hs:e0.key.isStr n=(m==n):=by refine af hk ?_;rfl
  unfold alSet putL
  by_cases q:n=m
  ·subst q
   refine af hs (af (if_pos rfl) (af (if_pos (by simp)) ?_))
   exact ⟨_,_,t',rfl,hk,rv,hr⟩
  ·have q2:(m==n)=false:=beq_eq_false_iff_ne.mpr λ z=>q z.symm
   refine af hs (af q2 (af (if_neg q) (af (if_neg (by decide)) ?_)))
   exact ⟨_,_,t',rfl,hk,hv,vv rv hr⟩
theorem vC:∀{as:List (aw×V)} {es:List fV},ARel cx s.heap as es->es.length=as.length
 |[],_,r=>by subst r;rfl
 |(m,w)::as,es,r=>by
  refine kg r λ e0 es' t r1_ hk hv hr=>?_
  clear r
  subst r1_
  exact af aQ (af aQ (af (vC hr) rfl))
theorem wt (n:aw) (h:Int) (k v:av):∀es:List fV,(putL n h k v es).length<=es.length+1
 |[]=>bW _
 |e::r=>by
  unfold putL
  split
  ·simp
  ·refine af aQ (af aQ ?_);exact cw (wt n h k v r)
theorem tu:∀{as:List (aw×V)} {n:aw} {u:V} {p:aw×V},p∈alSet as n u->p.1=n\/p∈as
 |[],n,u,p,h=>by unfold alSet at h;simp at h;exact .inl (by (exact af h rfl))
 |(m,w)::as,n,u,p,h=>by
  unfold alSet at h
  split at h
  ·rename_i q
   rcases aZ.mp h with e|h
   ·exact .inl (by (exact af e (af q rfl)))
   ·exact .inr (.tail _ h)
  ·rcases aZ.mp h with e|h
   ·exact .inr (by refine af e ?_;exact .head _)
   ·exact (tu h).imp id λ q=>.tail _ q
theorem pe (I:cb cx H s.heap) (e1:s.heap.get? a=some (kR C d)) (e2:s.heap.get? d=some (nq es n)):InstAt s.heap a (kR C d) C (some (nq es n)):=⟨e1,rfl,rfl,e2⟩
theorem pG:∀{as:List (aw×V)} {n:aw} {w:V},as.lookup n=some w->(n,w)∈as
 |[],_,_,h=>(cW h).elim
 |(m,x)::r,n,w,h=>by
  rw [aG] at h
  by_cases z:n=m
  ·subst z
   rw [beq_self_eq_true] at h
   cases ac h;exact .head _
  ·rw [show (n==m)=false from beq_eq_false_iff_ne.mpr z] at h
   exact .tail _ (pG h)
theorem wO (G:Good cx) (I:cb cx H s.heap) (ru:VRel cx s.heap u o) (q:rL u n H Q):aE (ay cx.prog cx.w) A (getAttr o n b) (bO cx H s Q) E s:=by
 refine aL (wh q) λ a e q=>?_
 subst e;cases dh ru
 refine iC (JH q) λ c d as t1_=>(bx t1_ λ e q=>?_)
 refine aL (pJ q) λ w hw q=>(uf (I.own _ _ e) λ C es k hC h1 h2 hr hf=>(fy (G.fld c n (hf _ (pG hw))) λ C' hC' g1 g2 t1_=>(gK t1_ λ g3 g4 g5=>?_)))
 clear t1_
 cases se (hC.symm.trans hC')
 exact aL (qu hr hw) λ v hl rv=>(get_value (G.X.keeps I.base) (pe I h1 h2) (plainGet_of g1).1 (findObj_own g2 g3 rfl (by exact af (lookIn_dict _ _ _) hl)) (zt G rv) (bO.tok I rv q))
end
namespace gG
def S_ (cx H s A L n x Q P):=∀{E:av->ax->Prop} {u:V} {w:V} {o:av} (G:Good cx) (lk:ux cx H s.heap L) (I:cb cx H s.heap) (ru:VRel cx s.heap u o) (rw_:VRel cx s.heap w x) (q:setattrV cx.fld u n w H Q),aE (ay cx.prog cx.w) A (Iq o n x) (λ Z s'=>mQ cx P H s Q s') E s
def U_:=UV λ cx H s=>UV λ A L n=>UU λ x=>UU λ Q=>S_ cx H s A L n x Q
def t_:=dr (by have:=qe;have:=pH;have:=tJ;infer_instance) U_
def cx:=t_.1
def H:=t_.2.1
def s:=t_.2.2.1
def A:=t_.2.2.2.1
def L:=t_.2.2.2.2.1
def n:=t_.2.2.2.2.2.1
def s1_:=t_.2.2.2.2.2.2
def x:=s1_.1
def Q:=s1_.2.1
def P:=s1_.2.2
theorem P_:S_ cx H s A L n x Q P:=by
 intro E u w o G lk I ru rw_ q
 refine aL (wh q) λ a e q=>?_
 subst e;cases dh ru
 refine iC (JH q) λ c d as t1_=>(bx t1_ λ e q=>?_)
 clear t1_
 refine bw lk.ns λ m nL=>(uf (I.own _ _ e) λ C es k hC h1 h2 hr hf=>(fy (G.fld c n (kD q).1) λ C' hC' g1 g2 t1_=>(gK t1_ λ g3 g4 g5=>?_)))
 clear t1_
 cases se (hC.symm.trans hC')
 have hd0:cx.base.get? d=none:=dO (I.old d (jE e))
 have hdL:d≠L:=λ z=>jE e (z▸lk.free)
 refine set_dict (F:=v5 I lk nL) (X₀:=G.X) (N:=lm) (pe I h1 h2) rfl g4 g5 (by unfold takerIn;refine af g3 ?_;rfl) g2 ?_ rfl (pV gi (fO.mpr ⟨h2,hdL,hd0⟩)) ?_ λ h' F' N'=>?_
 ·cases hq:as.lookup n with
  |none=>refine af (pd hr hq) ?_;rfl
  |some w'=>obtain ⟨v,hl,_⟩:=qu hr hq;refine af hl ?_;rfl
 ·refine ao (wt _ _ _ _ _) ?_
  refine af (vC hr) ?_
  have:=aP (kD (kD q).2).1
  exact fF ‹_› (by decide)
 ·
  have all:∀b ob,b≠L->b≠d->s.heap.get? b=some ob->h'.get? b=some ob:=λ b ob n1 n2 eb=>by
   cases z:cx.base.get? b with
   |some o'=>
    have:=I.base b o' z
    rw [eb] at this;(have this:=ac this;subst this)
    exact F'.keep b _ z
   |none=>
    refine (N' (b,ob) ?_).1
    refine bE.mpr ⟨(b,ob),fO.mpr ⟨eb,n1,z⟩,?_⟩
    exact af (if_neg n2) rfl
  have hd':h'.get? d=some (nq (putL n (PyData.keyHash cx.w.params n) (.str n (s.toks+1)) x es) (putN n es k)):=by
   refine (N' (d,_) (bE.mpr ⟨(d,nq es k),fO.mpr ⟨h2,hdL,hd0⟩,?_⟩)).1
   exact af (if_pos rfl) rfl
  have nsL:∀m',s.heap.Ns L m'->h'.Ns L m':=λ m' e'=>by
   refine kg e' λ o1 es1 ep1 g1' d1 k1 f1=>?_
   refine kg nL λ o2 es2 ep2 g2' d2 k2 f2=>?_
   rw [g1'] at g2';(have g2':=ac g2';subst g2')
   rw [d1] at d2;cases d2
   have:m'=m:=funext λ x=>(f1 x).symm.trans (f2 x)
   exact af this F'.ns
  have hLimm:∀ob,s.heap.get? L=some ob->¬tK ob/\∀v,ob.data≠.cell v:=λ ob eo=>ke nL eo
  have hdimm:¬tK (nq es k):=by rintro (⟨_,_,z,_⟩|⟨_,z,_⟩)<;>exact gf z rfl
  have ki:bQ s.heap h':=λ b ob eb im=>all b ob (λ z=>by subst z;exact (hLimm _ eb).1 im) (λ z=>by subst z;rw [h2] at eb;(have eb:=ac eb;subst eb);exact hdimm im) eb
  have ns':∀b m',s.heap.Ns b m'->ci H b->h'.Ns b m':=λ b m' eb fb=>by
   by_cases z:b=L
   ·subst z;exact nsL m' eb
   ·refine iC eb λ ob es0 ep0 t1_=>(bx t1_ λ e0 r0=>?_)
    exact ⟨ob,es0,ep0,all b ob z (λ z2=>jE e (z2▸fb)) e0,r0⟩
  have st:bf P H s.heap H h':=⟨ki,λ b m' eb fb Z=>ns' b m' eb fb,λ b v eb Z=>by
    refine aL eb λ ob e0 e1=>?_
    clear eb
    exact ⟨ob,all b ob (λ z=>by subst z;exact (hLimm _ e0).2 _ e1) (λ z=>by subst z;rw [h2] at e0;(have e0:=ac e0;subst e0);exact gf e1 rfl) e0,e1⟩,λ b m' eb fb=>⟨m',ns' b m' eb fb⟩,λ Z p z=>absurd p z,λ b ob eb=>by
    by_cases z:b=L
    ·subst z;exact gw (nsL _ nL)
    by_cases z2:b=d
    ·subst z2;exact ⟨_,hd'⟩
    ·exact ⟨ob,all b ob z z2 eb⟩,λ b ob eb kq Z Z=>by
    refine iV nL λ o' es0 ep0 e' d' Z=>?_
    exact all b ob (λ z=>by subst z;rw [eb] at e';(have e':=ac e';subst e');exact kq.no_dict.1 _ _ d') (λ z=>by subst z;rw [h2] at eb;(have eb:=ac eb;subst eb);exact kq.no_dict.1 _ _ rfl) eb⟩
  have hdir:=I.sep _ _ _ _ e
  refine ⟨H.set a (.inst c d (alSet as n w)),(kD (kD q).2).2,?_,st.same e ⟨rfl,rfl⟩,rfl,rfl,rfl⟩
  refine I.upd e ⟨rfl,rfl⟩ ki (λ b ob eb=>F'.keep b ob eb) (λ b nb n1 n2=>?_) ?_
  ·refine bw (I.at nb) λ ob eb=>?_
   refine af eb ?_
   refine all b ob (λ z=>nb (z▸lk.free)) (λ z=>n2 c as (by (exact af z rfl))) eb
  ·have had:a≠d:=λ z=>by rw [<-z,e] at hdir;exact b7 hdir.1
   refine ⟨C,_,_,hC,all a _ (λ z=>ft e (z▸lk.free)) had h1,hd',vv (VRel.mono ki _ rw_) (hr.mono ki),λ p hp=>?_⟩
   rcases tu hp with z|z
   ·refine af z ?_;exact (kD q).1
   ·exact hf p z
theorem A_:∀p,U_ p:=bC P_
end gG
section
variable {cx:Cx}
theorem gG {cx H s A L n x Q P}:gG.S_ cx H s A L n x Q P:=gG.A_ (cx,H,s,A,L,n,x,Q,P)
end
section
variable {s:ax} {E:av->ax->Prop}
theorem tF (ru:VRel cx s.heap u v) (e:truthV H u=some b) (q:Q b s):aE (ay cx.prog cx.w) A (truthy v) Q E s:=by
 cases u with
 |none=>cases ac e;refine af (gr ru) ?_;exact truthy_none q
 |bool _=>cases ac e;refine af (mu ru) ?_;exact Ir q
 |int i=>
  refine bw (cn ru) λ t r1_=>?_
  subst r1_
  have:(i !=0)=b:=by
   cases ac e
   by_cases h:i=0
   ·subst h;rfl
   ·refine af (decide_eq_true h) ?_;exact bne_iff_ne.mpr h
  exact truthy_int (by rw [this];exact q)
 |_=>exact (cW e).elim
theorem tB:∀{k:List Int} {vs:List av},VRels cx s.heap (k.map V.int) vs->ItemsAre (f9 cx.prog cx.w) k vs
 |[],_,r=>by have:=r.nil_inv;subst this;exact .nil
 |x::k,_,r=>by
  refine cu r.cons_inv λ v vs' r1_ r1 r2=>?_
  subst r1_
  refine bw (cn r1) λ t r1_=>?_
  subst r1_
  exact .cons (nv cx.prog cx.w x t) (tB r2)
theorem mz (r:VRel cx s.heap (.tuple (k.map V.int)) v):∃a,v=.ref a/\lr (f9 cx.prog cx.w) s.heap k a:=by
 refine cu (fA r) λ a aB r1_ w2_ rs=>?_
 subst r1_
 refine cJ w2_ λ o ho hc t1_=>(bw t1_ λ n hd=>?_)
 exact ⟨a,rfl,o,aB,n,ho,hc,hd,tB rs⟩
theorem rO:∀{es:List (List Int×V)} {xs:List (List Int×aI×av)} {u:V},TRel cx h es xs->es.lookup k=some u->∃p,atKey xs k=some p/\VRel cx h u p.2
 |[],_,_,_,e=>by cases e
 |(k',u')::es,xs,u,r,e=>by
  refine kg r λ a v xs' r1_ hk hv hr=>?_
  clear r
  subst r1_
  rw [aG] at e
  by_cases q:k=k'
  ·subst q
   simp only [beq_self_eq_true] at e
   (have e:=ac e;subst e)
   exact ⟨(a,v),by simp [atKey],hv⟩
  ·rw [show (k==k')=false from beq_eq_false_iff_ne.mpr q] at e
   refine aL (rO hr e) λ p h1 h2=>⟨p,?_,h2⟩
   unfold atKey at h1⊢
   rw [js,show decide (k'=k)=false from decide_eq_false λ z=>q z.symm]
   exact h1
theorem oW:∀{es:List (List Int×V)} {xs:List (List Int×aI×av)},TRel cx h es xs->es.lookup k=none->atKey xs k=none
 |[],xs,r,_=>by subst r;rfl
 |(k',u')::es,xs,r,e=>by
  refine kg r λ a v xs' r1_ hk hv hr=>?_
  clear r
  subst r1_
  rw [aG] at e
  by_cases q:k=k'
  ·subst q;simp at e
  ·rw [show (k==k')=false from beq_eq_false_iff_ne.mpr q] at e
   have h1:=oW hr e
   unfold atKey at h1⊢
   rw [js,show decide (k'=k)=false from decide_eq_false λ z=>q z.symm]
   exact h1
theorem rk (hk:lr (f9 cx.prog cx.w) h k a) (hv:VRel cx h u v):∀{es:List (List Int×V)} {xs:List (List Int×aI×av)},TRel cx h es xs->TRel cx h (es++[(k,u)]) (xs++[(k,a,v)])
 |[],xs,r=>by subst r;exact ⟨a,v,[],rfl,hk,hv,rfl⟩
 |(k',u')::es,xs,r=>by
  refine kg r λ a' v' xs' r1_ hk' hv' hr=>?_
  clear r
  subst r1_
  exact ⟨a',v',_,rfl,hk',hv',rk hk hv hr⟩
theorem rM:∀{es:List (List Int×V)} {xs:List (List Int×aI×av)},TRel cx h es xs->xs.length=es.length
 |[],xs,r=>by subst r;rfl
 |(k',u')::es,xs,r=>by
  refine kg r λ a' v' xs' r1_ hk' hv' hr=>?_
  clear r
  subst r1_
  exact af aQ (af aQ (af (rM hr) rfl))
theorem xF (b:List Int):w9 b=(b.map λ n=>n.toNat.toUInt8).toArray:=rfl
theorem tZ (h:0<=x/\x<256):((x.toNat.toUInt8).toNat:Int)=x:=by
 have h1:x.toNat<256:=by lia
 have:(x.toNat.toUInt8).toNat=x.toNat:=by
  refine af UInt8.toNat_ofNat' ?_
  exact Nat.mod_eq_of_lt h1
 refine af this ?_;lia
theorem v6 (sp:pq gd false (.ref a) (.int k t)=DK [.ref a,.int k t] (sP (.ref a) (.int k t))) (I:cb cx H s.heap) (hl:s.heap.IsList a aB) (rs:VRels cx s.heap l aB.toList) (q:w7 (ix l k) λ u=>Q u H):
  aE (ay cx.prog cx.w) A (mq value gd (.ref a) (.int k t)) (bO cx H s Q) E s:=by
 exact aL (pJ q) λ w0 hx q=>(oB (JY hx) λ h0 h1 h2 hx=>(aL (rs.get hx) λ w hw rw_=>(sR hl.typeIs slot_list_getitem.lookup (wpAny_getItem_list hl h0 (eU ‹_› (by decide)) (by exact af (iP (cV)) hw) (bO.here I rw_ q)) sp)))
theorem IQ {k:Int} {n:Nat} (h0:0<=k) (h1:k<n):seqIndex? k n=some k.toNat:=by
 unfold seqIndex?
 refine af (if_neg (dJ.mpr h0)) ?_
 exact if_pos (by simp [h0,h1])
end
namespace nP
def S_ (cx H s A E value gd Q):=∀{u:V} {i:V} {o:av} {x:av} (hs:∀l u s p,gd≠.Slice l u s p) (hu:A.units+100<mG) (I:cb cx H s.heap) (ru:VRel cx s.heap u o) (ri:VRel cx s.heap i x) (q:subV u i H Q),aE (ay cx.prog cx.w) A (mq value gd o x) (bO cx H s Q) E s
def U_:=UV λ cx H s=>UV λ A E value=>UU λ gd=>S_ cx H s A E value gd
def t_:=dr (by have:=qe;have:=pH;have:=tJ;infer_instance) U_
def cx:=t_.1
def H:=t_.2.1
def s:=t_.2.2.1
def A:=t_.2.2.2.1
def E:=t_.2.2.2.2.1
def value:=t_.2.2.2.2.2.1
def s1_:=t_.2.2.2.2.2.2
def gd:=s1_.1
def Q:=s1_.2
theorem P_:S_ cx H s A E value gd Q:=by
 intro u i o x hs hu I ru ri q
 have sp:=oK (o:=o) (i:=x) hs
 cases u with
 |tuple us=>
  refine aL (rq q) λ k r1_ q1=>?_
  subst r1_
  refine bw (cn ri) λ t r1_=>?_
  subst r1_
  refine cu (fA ru) λ a aB r1_ ht rs=>?_
  subst r1_
  refine aL (pJ q1) λ w0 hx q1=>(oB (JY hx) λ h0 h1 h2 hx=>(aL (rs.get hx) λ w hw rw_=>?_))
  have hl:aB.size=us.length:=rs.len
  exact sR ht.typeIs lu.lookup (PyProof.Rows.getItem_tuple (j:=k.toNat) ht (by lia) (eU ‹_› (by decide)) (IQ h0 (by exact af hl h1)) (by exact af (iP (cV)) hw) (bO.here I rw_ q1)) sp
 |flist us=>
  refine aL (rq q) λ k r1_ q1=>?_
  subst r1_
  refine bw (cn ri) λ t r1_=>?_
  subst r1_
  refine cu (FH ru) λ a aB r1_ w2_ rs=>?_
  subst r1_
  refine aL w2_ λ ob ho hr=>?_
  exact v6 sp I ⟨ob,I.base _ _ ho,hr⟩ rs q1
 |bytes b=>
  refine cJ (rq q) λ k r1_ w2_ q1=>?_
  subst r1_
  refine gK w2_ λ h0 h1 h2=>?_
  refine bw (cn ri) λ t r1_=>?_
  subst r1_
  refine aL ru λ t' r1_ hb=>?_
  clear ru
  subst r1_
  refine sR (typeIs_bytes s _ t') FB.slot_bytes_getitem.lookup (getItem_bytes (by refine af (ag _) ?_;exact ao ‹_› (by decide)) h0 (by exact af (ag _) h1) ?_) sp
  have hlt:k.toNat<b.length:=by lia
  have e:(((b.map λ n:Int=>n.toNat.toUInt8).getD k.toNat 0).toNat:Int)=b.getD k.toNat 0:=by
   refine af (aJ) (af (aF) (af (aJ) (af (an hlt) ?_)))
   exact tZ (hb _ (List.getElem_mem hlt))
  refine af e ?_
  exact bO.tok I du q1
 |ref a=>
  cases dh ru
  refine rJ q (λ k e q=>?_) (λ k e q=>?_) (λ k e q=>?_) (λ Z Z z=>z.elim)<;>subst e
  ·refine bw (cn ri) λ t r1_=>?_
   subst r1_
   refine sH q (λ us e q=>?_) (λ Z Z z=>z.elim) (λ f n e q=>?_) (λ Z Z z=>z.elim) (λ Z z=>z.elim) (λ Z Z Z Z z=>z.elim)
   ·exact f7 (I.own _ _ e) λ aB n ho rs=>(v6 sp I ⟨_,ho,rfl,n,rfl⟩ rs q)
   ·exact cJ (I.own _ _ e) λ g hm Z o=>(aL (pJ q) λ w hw q=>(aL (OR.some (hw▸o k)) λ v hv rv=>(sR hm.typeIs sS.lookup (wpAny_getItem_of (nv cx.prog cx.w k t) hm hv (bO.tok I rv q)) sp)))
  ·refine bw (hJ ri) λ t r1_=>?_
   subst r1_
   refine sH q (λ Z Z z=>z.elim) (λ es e q=>?_) (λ Z Z Z z=>z.elim) (λ Z Z z=>z.elim) (λ Z z=>z.elim) (λ Z Z Z Z z=>z.elim)
   exact aL (I.own _ _ e) λ kvs hm kr=>(aL (pJ q) λ w hw q=>(aL (OR.some (hw▸uj kr k)) λ v hv rv=>(sR hm.typeIs sS.lookup (wpAny_getItem_of (nw cx.prog cx.w k t) hm.mapOf hv (bO.tok I rv q)) sp)))
  ·refine sH q (λ Z Z z=>z.elim) (λ Z Z z=>z.elim) (λ Z Z Z z=>z.elim) (λ es e q=>?_) (λ Z z=>z.elim) (λ Z Z Z Z z=>z.elim)
   refine aL q λ kk r1_ q1=>?_
   clear q
   subst r1_
   refine aL (I.own _ _ e) λ xs hm tr=>(aL (mz ri) λ c r1_ hk=>?_)
   subst r1_
   exact aL (pJ q1) λ w hw q1=>(aL (rO tr hw) λ p hp rv=>(sR hm.typeIs sS.lookup (wpAny_getItem_heap (lx (by lia)) hk hm hp (bO.tok I rv q1)) sp))
 |_=>exact q.elim
theorem A_:∀p,U_ p:=bC P_
end nP
section
variable {cx:Cx}
theorem nP {cx H s A E value gd Q}:nP.S_ cx H s A E value gd Q:=nP.A_ (cx,H,s,A,E,value,gd,Q)
end
section
variable {E:av->ax->Prop}
theorem yD {a b:Nat} (h:a<=b):ee (a:Int) (b:Int) 1=b -a:=by
 show (if (a:Int)<b then ((b:Int) -a -1)/1+1 else 0).toNat=_
 refine af (Int.ediv_one _) ?_
 split<;>lia
theorem Gi {n:Nat} (h:0<=k):(if k<0 then max (k+(n:Int)) 0 else min k (n:Int))=((min k.toNat n:Nat):Int):=by
 rw [if_neg (dJ.mpr h)];exact Ky n h
theorem Cy (k:Int) (n:Nat) (h:0<=k):(bl (some k) none 1 (n:Int)).1=((min k.toNat n:Nat):Int)/\
  ee (bl (some k) none 1 (n:Int)).1 (bl (some k) none 1 (n:Int)).2 1=n -min k.toNat n:=by
 have e:bl (some k) none 1 (n:Int)=(((min k.toNat n:Nat):Int),(n:Int)):=congrArg (·,(n:Int)) (Gi h)
 rw [e]
 exact ⟨rfl,yD (dH ..)⟩
theorem Cp (k:Int) (n:Nat) (h:0<=k):(bl none (some k) 1 (n:Int)).1=((0:Nat):Int)/\
  ee (bl none (some k) 1 (n:Int)).1 (bl none (some k) 1 (n:Int)).2 1=min k.toNat n:=by
 have e:bl none (some k) 1 (n:Int)=(((0:Nat):Int),((min k.toNat n:Nat):Int)):=congrArg (((0:Nat):Int),·) (Gi h)
 rw [e]
 exact ⟨rfl,yD (cU _)⟩
section
variable {u lo hi:V}
abbrev xe (s:ax) (vl vu:av):cO:=s.heap.push {cls:=.type "slice",data:=.fields #[vl,vu,.none]}
theorem ky:∀b ob,s.heap.get? b=some ob->(xe s vl vu).get? b=some ob:=λ Z Z e=>ak _ e
theorem Ed (I:cb cx H s.heap) (ht:ja s.heap a aB) (rs:VRels cx s.heap us aB.toList) (rl:VRel cx s.heap lo vl) (rh:VRel cx s.heap hi vu) (hc:cutV us lo hi=some vs) (hz:us.length<=bG) (q:Q (.tuple vs) H)
  (hs:∀o i,pq gd false o i=DK [i,o] (sP o i)) (hg:∀o r,ly value o r=pure ()):
  aE (ay cx.prog cx.w) A (mq value gd (.ref a) (.ref s.heap.objs.size)) (bO cx H s Q) E {s with heap:=xe s vl vu}:=by
 have ht':ja (xe s vl vu) a aB:=ht.keeps ky
 have hlen:aB.size=us.length:=rs.len
 refine sU (s:={s with heap:=xe s vl vu}) ht'.typeIs lu.lookup ?_ (hs _ _) (hg _)
 have same:us=vs->bO cx H s Q (.ref a) {s with heap:=xe s vl vu}:=λ e=>by
  subst e
  exact bO.priv (t:=s.toks) I ky (jF ht' (VRels.mono (bQ.of_keeps ky) _ rs)) q
 have aY:∀(its:List av),VRels cx s.heap vs its->bO cx H s Q (.ref (xe s vl vu).objs.size) {s with heap:=(xe s vl vu).push {cls:=.type "tuple",data:=.seq its.toArray}}:=λ its r=>
  have kp2:∀b ob,s.heap.get? b=some ob->((xe s vl vu).push {cls:=.type "tuple",data:=.seq its.toArray}).get? b=some ob:=λ b ob e=>ak _ (ky b ob e)
  bO.priv (t:=s.toks) I kp2 (jF (aB:=its.toArray) ⟨_,bu _ rfl,rfl,0,rfl⟩ (VRels.mono (bQ.of_keeps kp2) _ r)) q
 rcases BN hc with ⟨k,e1,e2,hk,e⟩|⟨k,e1,e2,hk,e⟩<;>subst e1 e2
 ·refine bw (cn rl) λ t r1_=>?_
  subst r1_
  cases gr rh
  refine bx (Cy k aB.size hk) λ e1 e2=>(di (a:=some k) (b:=none) ht' (iQ _ _ _ _) (λ h=>slicePart_int h) (λ h=>xT h) e1 e2 (by exact af hlen hz) (λ h1 h2=>same ?_) ?_)
  ·refine af e.symm (af (iP (kmk_drop_min _ _)) (af hlen.symm (af h1 ?_)));rfl
  ·refine aY _ ?_
   rw [iw (by (refine af eq (af jr ?_));exact bW _),<-jr,kmk_drop_min,<-e]
   exact rs.drop _
 ·refine bw (cn rh) λ t r1_=>?_
  subst r1_
  cases gr rl
  refine bx (Cp k aB.size hk) λ e1 e2=>(di (a:=none) (b:=some k) ht' (iQ _ _ _ _) (λ h=>xT h) (λ h=>slicePart_int h) e1 e2 (by exact af hlen hz) (λ h1 h2=>same ?_) ?_)
  ·exact af e.symm (af (iP (kmk_take_min _ _)) (af hlen.symm (af h2 (af hlen (af c8 rfl)))))
  ·refine aY _ ?_
   refine af t5 (af jr.symm (af (kmk_take_min _ _) (af e.symm ?_)))
   exact rs.take _
theorem Dh (lk:ux cx H s.heap L) (I:cb cx H s.heap) (ho:s.heap.get? a=some {cls:=.type "list",data:=.seq aB n}) (rs:VRels cx s.heap us aB.toList) (rl:VRel cx s.heap lo vl) (rh:VRel cx s.heap hi vu) (hc:cutV us lo hi=some vs) (hz:us.length<=bG)
  (q:∀c,H c=none->Q (.ref c) (H.set c (.list vs))) (hs:∀o i,pq gd false o i=DK [i,o] (sP o i)) (hg:∀o r,ly value o r=pure ()):
  aE (ay cx.prog cx.w) A (mq value gd (.ref a) (.ref s.heap.objs.size)) (bO cx H s Q) E {s with heap:=xe s vl vu}:=by
 have hlen:aB.size=us.length:=rs.len
 have hl:s.heap.IsList a aB:=⟨_,ho,rfl,n,rfl⟩
 have fh:∀l,VRels cx s.heap vs l.toList->bO cx H s Q (.ref (xe s vl vu).objs.size) {s with heap:=(xe s vl vu).push {cls:=.type "list",data:=.seq l}}:=λ l r=>
  have kp2:∀b ob,s.heap.get? b=some ob->((xe s vl vu).push {cls:=.type "list",data:=.seq l}).get? b=some ob:=λ b ob e=>ak _ (ky b ob e)
  bO.new (t:=s.toks) (mo:=.list vs) I (by refine af (eF _ _) ?_;exact cL lk.le) kp2 (dO (by refine af (eF _ _) ?_;exact Bj _)) (λ Z Z Z e=>by cases e) ⟨_,0,bu _ rfl,VRels.mono (bQ.of_keeps kp2) _ r⟩ q
 rcases BN hc with ⟨k,e1,e2,hk,e⟩|⟨k,e1,e2,hk,e⟩<;>subst e1 e2
 ·refine bw (cn rl) λ t r1_=>?_
  subst r1_
  cases gr rh
  refine sU (s:={s with heap:=xe s (.int k t) .none}) (uP (hl.push _)) Gs (Bk (hl.push _) (iQ ..) (.int k t) .none .none (by simp) (fh (slicePick aB (some k) none none) ?_) (by exact af hlen hz)) (hs _ _) (hg _)
  have:=slicePick_from' aB k.toNat
  rw [jL hk] at this
  refine af this (af e.symm ?_)
  exact rs.drop _
 ·refine bw (cn rh) λ t r1_=>?_
  subst r1_
  cases gr rl
  refine sU (s:={s with heap:=xe s .none (.int k t)}) (uP (hl.push _)) Gs (Bk (hl.push _) (iQ ..) .none (.int k t) .none (by simp) (fh (slicePick aB none (some k) none) ?_) (by exact af hlen hz)) (hs _ _) (hg _)
  have:=slicePick_upto' aB k.toNat
  rw [jL hk] at this
  refine af this (af e.symm ?_)
  exact rs.take _
theorem Ev (lk:ux cx H s.heap L) (I:cb cx H s.heap) (ru:VRel cx s.heap u o) (rl:VRel cx s.heap lo vl) (rh:VRel cx s.heap hi vu) (q:slcV u lo hi H Q)
  (hs:∀o i,pq gd false o i=DK [i,o] (sP o i)) (hg:∀o r,ly value o r=pure ()):
  aE (ay cx.prog cx.w) A (mq value gd o (.ref s.heap.objs.size)) (bO cx H s Q) E {s with heap:=xe s vl vu}:=by
 refine rJ q (λ Z Z z=>z.elim) (λ Z Z z=>z.elim) (λ us e q=>?_) (λ a e q=>?_)<;>subst e
 ·refine cu (fA ru) λ a aB r1_ ht rs=>?_
  subst r1_
  exact cJ (rK q) λ vs hc hz q=>(Ed I ht rs rl rh hc hz q hs hg)
 ·cases dh ru
  exact aL (GI q) λ us e q=>(f7 (I.own _ _ e) λ aB n ho rs=>(cJ (rK q) λ vs hc hz q=>(Dh lk I ho rs rl rh hc hz q hs hg)))
end
theorem gR (I:cb cx H s.heap) (e:H a=some mo) (hn:∀c d as,mo≠.inst c d as) (hn':∀c d as,mo'≠.inst c d as)
  (ho:s.heap.get? a=some o) (hi:¬tK o) (hc:∀v,o.data≠.cell v) (ho':h'.get? a=some o') (hs:dm a s.heap h') (r:ORel cx h' a mo') (q:Q (H.set a mo')):mQ cx P H s Q {s with heap:=h',toks:=t}:=by
 have hk:SameKind mo mo':=by
  cases mo<;>cases mo'<;>first|trivial|exact absurd rfl (hn _ _ _)|exact absurd rfl (hn' _ _ _)
 have ki:=bQ.but ho hi hs
 refine ⟨_,q,I.upd e hk ki (λ b ob eb=>?_) (λ b nb n1 n2=>hs.2 b n1) r,(bf.but ho hi hc (ft e) ho' hs).same e hk,rfl,rfl,rfl⟩
 by_cases z:b=a
 ·subst z
  exact absurd (bz eb) (dw.mpr (I.old _ (ft e)))
 ·refine af (hs.2 b z) ?_;exact I.base b ob eb
theorem gc {K:Type} [DecidableEq K] {knd:KeyKind prog w K} {h:cO} {f} (m:h.MapOf knd a f):∃o,h.get? a=some o/\¬tK o/\∀v,o.data≠.cell v:=by
 refine kg m λ o es ep ho hx hd Z=>?_
 refine ⟨o,ho,?_,λ v z=>by rw [hd] at z;exact gf z rfl⟩
 rintro (⟨_,_,z,_⟩|⟨_,z,_⟩)<;>(rw [hd] at z;exact gf z rfl)
theorem lb {K:Type} [DecidableEq K] {knd:HeapKind prog w K} {h:cO} {xs} (m:h.DictOfH knd a xs):∃o,h.get? a=some o/\¬tK o/\∀v,o.data≠.cell v:=by
 refine kg m λ o es ep ho hx hd Z=>?_
 refine ⟨o,ho,?_,λ v z=>by rw [hd] at z;exact gf z rfl⟩
 rintro (⟨_,_,z,_⟩|⟨_,z,_⟩)<;>(rw [hd] at z;exact gf z rfl)
theorem um {K:Type} [DecidableEq K] {knd:KeyKind prog w K} {h:cO} {kvs:List (K×av)} (m:h.DictOf knd a kvs):(kvs.map (·.1)).Nodup:=Exists.elim m λ Z m=>m.elim λ Z m=>m.elim λ Z m=>m.2.2.2.2.2
theorem C5 {K:Type} [DecidableEq K] {f:K->Option V} {g:K->Option av} {k:K} (ki:bQ h h') (o:∀y,OR cx h (f y) (g y)) (r:VRel cx h w x):∀y,OR cx h' (if y=k then some w else f y) (if y=k then some x else g y):=λ y=>by
 split
 ·exact VRel.mono ki _ r
 ·exact (o y).mono ki
end
namespace iY
def S_ (cx H s A w Q P):=∀{E:av->ax->Prop} {u:V} {i:V} {o:av} {k:av} {x:av} (hu:A.units+100<mG) (I:cb cx H s.heap) (ru:VRel cx s.heap u o) (ri:VRel cx s.heap i k) (rw_:VRel cx s.heap w x) (q:eI u i w H Q),aE (ay cx.prog cx.w) A (setItem o k x) (λ Z s'=>mQ cx P H s Q s') E s
def U_:=UV λ cx H s=>UV λ A w Q=>S_ cx H s A w Q
def t_:=dr (by have:=qe;have:=pH;have:=tJ;infer_instance) U_
def cx:=t_.1
def H:=t_.2.1
def s:=t_.2.2.1
def A:=t_.2.2.2.1
def w:=t_.2.2.2.2.1
def Q:=t_.2.2.2.2.2.1
def s1_:=t_.2.2.2.2.2.2
def P:=s1_
theorem P_:S_ cx H s A w Q P:=by
 intro E u i o k x hu I ru ri rw_ q
 refine aL (wh q) λ a e q=>?_
 subst e;cases dh ru
 refine rJ q (λ kk e q=>?_) (λ kk e q=>?_) (λ ks e q=>?_) (λ Z Z z=>z.elim)<;>subst e
 ·refine bw (cn ri) λ t r1_=>?_
  subst r1_
  refine sH q (λ Z Z z=>z.elim) (λ Z Z z=>z.elim) (λ f n e q=>?_) (λ Z Z z=>z.elim) (λ e q=>?_) (λ Z Z Z Z z=>z.elim)
  ·refine cJ (I.own _ _ e) λ g hm hl og=>(cJ (gc hm) λ ob ho hi hc=>(qX (nv cx.prog cx.w kk t) hm hl (by refine af d8 ?_;lia) λ h' hm' hl' hs=>?_))
   exact aL (gc hm') λ ob' ho' Z=>(gR (mo':=.idict _ (n+1)) I e (ik rfl) (ik rfl) ho hi hc ho' hs ⟨_,hm',hl',C5 (bQ.but ho hi hs) og rw_⟩ q.2)
  ·refine bw (I.own _ _ e) λ n e'=>?_
   have hm:=o7 (knd:=f9 cx.prog cx.w) e'
   exact cJ (gc hm) λ ob ho hi hc=>(qX (nv cx.prog cx.w kk t) hm (Dy e') (cU _) λ h' hm' hl' hs=>(aL (gc hm') λ ob' ho' Z=>(gR (mo':=.idict _ 1) I e (ik rfl) (ik rfl) ho hi hc ho' hs ⟨_,hm',hl',C5 (f:=λ Z=>none) (bQ.but ho hi hs) (λ Z=>trivial) rw_⟩ q)))
 ·refine bw (hJ ri) λ t r1_=>?_
  subst r1_
  refine sH q (λ Z Z z=>z.elim) (λ es e q=>?_) (λ Z Z Z z=>z.elim) (λ Z Z z=>z.elim) (λ e q=>?_) (λ Z Z Z Z z=>z.elim)
  ·refine aL (I.own _ _ e) λ kvs hm kr=>(cJ (gc hm.mapOf) λ ob ho hi hc=>(Gu (nw cx.prog cx.w kk t) hm (λ h' hm' hs=>?_) (by (refine af (oh kr) (af d8 ?_));lia)))
   exact aL (gc hm'.mapOf) λ ob' ho' Z=>(gR (mo':=.sdict _) I e (ik rfl) (ik rfl) ho hi hc ho' hs ⟨_,hm',p5 (VRel.mono (bQ.but ho hi hs) _ rw_) (kr.mono (bQ.but ho hi hs)) (um hm)⟩ q.2)
  ·refine bw (I.own _ _ e) λ n e'=>?_
   have hm:=vM (knd:=strKind cx.prog cx.w) e'
   refine cJ (gc hm.mapOf) λ ob ho hi hc=>(Gu (nw cx.prog cx.w kk t) hm (λ h' hm' hs=>?_) (cU _))
   exact aL (gc hm'.mapOf) λ ob' ho' Z=>(gR (mo':=.sdict [(kk,w)]) I e (ik rfl) (ik rfl) ho hi hc ho' hs ⟨_,hm',⟨_,[],rfl,VRel.mono (bQ.but ho hi hs) _ rw_,rfl⟩⟩ q)
 ·refine aL q λ kk e q1=>?_
  subst e
  refine aL (mz ri) λ c r1_ hk=>?_
  subst r1_
  refine sH q1 (λ Z Z z=>z.elim) (λ Z Z z=>z.elim) (λ Z Z Z z=>z.elim) (λ es e q=>?_) (λ e q=>?_) (λ Z Z Z Z z=>z.elim)
  ·refine aL (I.own _ _ e) λ xs hm tr=>(cJ (lb hm) λ ob ho hi hc=>(HO (lx (by lia)) hk hm (λ h' hm' hs=>?_) (by (refine af (rM tr) (af d8 ?_));lia)))
   rw [storedH_new (oW tr q.2.1)] at hm'
   refine aL (lb hm') λ ob' ho' Z=>?_
   have ki:=bQ.but ho hi hs
   exact gR (mo':=.tdict _) I e (ik rfl) (ik rfl) ho hi hc ho' hs ⟨_,hm',rk (gq ki hk) (VRel.mono ki _ rw_) (tr.mono ki)⟩ q.2.2
  ·refine bw (I.own _ _ e) λ n e'=>?_
   have hm:s.heap.DictOfH (qa (f9 cx.prog cx.w)) a []:=⟨_,#[],n,e',⟨rfl,rfl,rfl⟩,rfl,rfl,λ Z z=>(cI z).elim,iu⟩
   refine cJ (lb hm) λ ob ho hi hc=>(HO (lx (by lia)) hk hm (λ h' hm' hs=>?_) (cU _))
   rw [storedH_new rfl] at hm'
   refine aL (lb hm') λ ob' ho' Z=>?_
   have ki:=bQ.but ho hi hs
   exact gR (mo':=.tdict _) I e (ik rfl) (ik rfl) ho hi hc ho' hs ⟨_,hm',rk (es:=[]) (xs:=[]) (gq ki hk) (VRel.mono ki _ rw_) (by rfl)⟩ q
theorem A_:∀p,U_ p:=bC P_
end iY
section
variable {cx:Cx}
variable {value gd:Expr}
theorem iY {cx H s A w Q P}:iY.S_ cx H s A w Q P:=iY.A_ (cx,H,s,A,w,Q,P)
end
abbrev GL:=List (aw×Fn)
noncomputable def relS (scope sc:gA):gA:={scope with names:=scope.names.map λ (n,k)=>if (k==.free&&sc.kind==.function&&sc.names.lookup n==some .cell) then (n,.cell) else (n,k)}
noncomputable def kindE:Expr->Nat
 |.Slice ..=>1
 |.Attribute ..=>2
 |.Name ..=>3
 |.Starred ..=>4
 |.Set ..=>5
 |.ListComp ..=>6
 |.SetComp ..=>6
 |.DictComp ..=>6
 |.Tuple ..=>7
 |_=>0
noncomputable def isSlice (x:Expr):Bool:=kW (kindE x) 1
noncomputable def isAttr (x:Expr):Bool:=kW (kindE x) 2
noncomputable def isName (x:Expr):Bool:=kW (kindE x) 3
noncomputable def isStar (x:Expr):Bool:=kW (kindE x) 4
noncomputable def noSet (x:Expr):Bool:=!kW (kindE x) 5
noncomputable def isComp (x:Expr):Bool:=kW (kindE x) 6
noncomputable def plainB:Expr->Bool
 |.Call (.Name id _) [] [] _=>false
 |_=>true
noncomputable def okName (sc:gA) (x:aw):Bool:=!(x==("__debug__":aw))&&!(x==("__classdict__":aw))&&(match sc.names.lookup x with
 |some .local=>true
 |some .cell=>true
 |some .free=>true
 |_=>false)
noncomputable def okGlob (gl:GL) (sc:gA) (x:aw) (f:Fn):Bool:=gl.lookup x==some f&&sc.names.lookup x==some .globalImplicit&&!(x==("__debug__":aw))
noncomputable def chkScope (scope sc:gA) (nm own:List aw) (fr:List Nat):Bool:=scope.kind==.function&&
   (decide ((own++fr.filterMap λ i=>nm[i]?).Nodup)&&(fr.all (λ i=>(nm[i]?).any λ y=>scope.names.lookup y==some .free&&sc.names.lookup y==some .cell)&&
   (own.all (λ y=>scope.names.lookup y==some .local)&&scope.names.all (λ y=>y.2 !=.cell&&((y.2 !=.local||scope.names.lookup y.1==some .local)&&(y.2 !=.free||sc.names.lookup y.1==some .cell))))))
theorem al (h:(a&&b)=true):a=true:=by cases a<;>first|rfl|exact h
theorem ar (h:(a&&b)=true):b=true:=by cases a<;>first|exact h|exact aM h
theorem nt (h:(!a)=true):a=false:=by cases a<;>first|rfl|exact aM h
theorem nb {a b:Nat} (h:(a !=b)=true):a≠b:=λ e=>by subst e;rw [bne_self_eq_false] at h;exact aM h
theorem dt [Decidable p] (h:decide p=true):p:=of_decide_eq_true h
inductive PT where
 |nil
 |n (p:Bx) (k:Nat) (s:gA) (x:lz) (l r:PT)
theorem NJ:Nonempty PT:=⟨.nil⟩
noncomputable def PT.p:PT->Bx
 |.n p _ _ _ _ _=>p
 |.nil=>⟨0,0,0,0⟩
noncomputable def PT.k:PT->Nat
 |.n _ k _ _ _ _=>k
 |.nil=>0
noncomputable def PT.s:PT->gA
 |.n _ _ s _ _ _=>s
 |.nil=>⟨.module,[],false,false,[]⟩
noncomputable def PT.x:PT->lz
 |.n _ _ _ x _ _=>x
 |.nil=>.Pass ⟨0,0,0,0⟩
noncomputable def PT.l:PT->PT
 |.n _ _ _ _ l _=>l
 |.nil=>.nil
noncomputable def PT.r:PT->PT
 |.n _ _ _ _ _ r=>r
 |.nil=>.nil
noncomputable def nmAt (nm:List aw) (i:Nat):aw:=(nm[i]?).getD (aa "")
abbrev sA (nm own:List aw) (fr:List Nat):List aw:=own++fr.filterMap λ i=>nm[i]?
noncomputable def emKs:List (aw×aw×Fn)->PT->List (Option Expr)
 |[],_=>[]
 |p::ps,t=>some (.Constant (.str p.1) t.l.k t.l.p)::emKs ps t.r
noncomputable def emVs:List (aw×aw×Fn)->PT->List Expr
 |[],_=>[]
 |p::ps,t=>.Name p.2.1 t.l.p::emVs ps t.r
mutual
noncomputable def emE (nm:List aw):E->PT->Expr
 |.none,t=>.Constant .none t.k t.p
 |.bool b,t=>.Constant (.bool b) t.k t.p
 |.int i,t=>.Constant (.int i) t.k t.p
 |.str z,t=>.Constant (.str z) t.k t.p
 |.loc i,t=>.Name (nmAt nm i) t.p
 |.fn z _,t=>.Name z t.p
 |.neg a,t=>.UnaryOp .USub (emE nm a t.l) t.p
 |.bin op a b,t=>.BinOp (emE nm a t.l) op (emE nm b t.r) t.p
 |.cmp op a b,t=>.Compare (emE nm a t.l) [op] [emE nm b t.r] t.p
 |.not a,t=>.UnaryOp .Not (emE nm a t.l) t.p
 |.bop c es,t=>.BoolOp (cond c .And .Or) (emEs nm es t.l) t.p
 |.ifx c b o,t=>.IfExp (emE nm c t.l) (emE nm b t.r.l) (emE nm o t.r.r) t.p
 |.tup es,t=>.Tuple (emEs nm es t.l) t.k t.p
 |.lst es,t=>.List (emEs nm es t.l) t.p
 |.edct,t=>.Dict [] [] t.p
 |.dfn ps,t=>.Dict (emKs ps t.l) (emVs ps t.r) t.p
 |.sub a i,t=>.Subscript (emE nm a t.l) (emE nm i t.r) t.p
 |.slc a lo hi,t=>.Subscript (emE nm a t.l) (.Slice (emO nm lo t.r.l) (emO nm hi t.r.r) none t.r.p) t.p
 |.attr a n,t=>.Attribute (emE nm a t.l) n t.p
 |.call f as,t=>.Call (emE nm f t.l) (emEs nm as t.r) [] t.p
 |.meth o n as,t=>.Call (.Attribute (emE nm o t.l.l) n t.l.p) (emEs nm as t.r) [] t.p
 |.comp own fr el j it c,t=>.ListComp (emE (sA nm own fr) el t.l) [⟨.Name (nmAt own j) t.r.p,emE nm it t.r.l,(emO (sA nm own fr) c t.r.r).toList,0⟩] t.s t.p
 |.comp2 own fr el j it c j2 it2,t=>.ListComp (emE (sA nm own fr) el t.l) [⟨.Name (nmAt own j) t.r.p,emE nm it t.r.l,[emE (sA nm own fr) c t.r.r.l],0⟩,⟨.Name (nmAt own j2) t.r.r.p,emE (sA nm own fr) it2 t.r.r.r,[],0⟩] t.s t.p
 |.stuck,t=>.Constant .none t.k t.p
noncomputable def emEs (nm:List aw):List E->PT->List Expr
 |[],_=>[]
 |e::es,t=>emE nm e t.l::emEs nm es t.r
noncomputable def emO (nm:List aw):Option E->PT->Option Expr
 |none,_=>none
 |some e,t=>some (emE nm e t)
end
mutual
noncomputable def okE (gl:GL) (sc:gA) (nm:List aw):E->PT->Bool
 |.loc i,_=>nm[i]?==some (nmAt nm i)&&okName sc (nmAt nm i)
 |.fn z f,_=>okGlob gl sc z f
 |.neg a,t=>okE gl sc nm a t.l
 |.bin _ a b,t=>okE gl sc nm a t.l&&okE gl sc nm b t.r
 |.cmp _ a b,t=>noSet (emE nm b t.r)&&(okE gl sc nm a t.l&&okE gl sc nm b t.r)
 |.not a,t=>okE gl sc nm a t.l
 |.bop _ es,t=>okEs gl sc nm es t.l
 |.ifx c b o,t=>okE gl sc nm c t.l&&(okE gl sc nm b t.r.l&&okE gl sc nm o t.r.r)
 |.tup es,t=>mj es.length 1000&&okEs gl sc nm es t.l
 |.lst es,t=>mj es.length 1000&&okEs gl sc nm es t.l
 |.dfn ps,_=>ps.all (λ p=>okGlob gl sc p.2.1 p.2.2)&&(iI 0 ps.length&&(mj ps.length 15&&decide ((ps.map (·.1)).Nodup)))
 |.sub a i,t=>!isSlice (emE nm i t.r)&&(okE gl sc nm a t.l&&okE gl sc nm i t.r)
 |.slc a lo hi,t=>isName (emE nm a t.l)&&(okE gl sc nm a t.l&&(okO gl sc nm lo t.r.l&&okO gl sc nm hi t.r.r))
 |.attr a _,t=>plainB (emE nm a t.l)&&okE gl sc nm a t.l
 |.call f as,t=>!isAttr (emE nm f t.l)&&(okE gl sc nm f t.l&&okEs gl sc nm as t.r)
 |.meth o _ as,t=>plainB (emE nm o t.l.l)&&(t.l.p.endLine==t.p.line&&(mj as.length 20&&(okE gl sc nm o t.l.l&&okEs gl sc nm as t.r)))
 |.comp own fr el j it c,t=>own[j]?==some (nmAt own j)&&(noSet (emE nm it t.r.l)&&(chkScope t.s sc nm own fr&&
   (okE gl sc nm it t.r.l&&(okE gl (relS t.s sc) (sA nm own fr) el t.l&&okO gl (relS t.s sc) (sA nm own fr) c t.r.r))))
 |.comp2 own fr el j it c j2 it2,t=>own[j]?==some (nmAt own j)&&(own[j2]?==some (nmAt own j2)&&(j !=j2&&(noSet (emE nm it t.r.l)&&(noSet (emE (sA nm own fr) it2 t.r.r.r)&&(chkScope t.s sc nm own fr&&
   (okE gl sc nm it t.r.l&&(okE gl (relS t.s sc) (sA nm own fr) el t.l&&(okE gl (relS t.s sc) (sA nm own fr) c t.r.r.l&&okE gl (relS t.s sc) (sA nm own fr) it2 t.r.r.r))))))))
 |_,_=>true
noncomputable def okEs (gl:GL) (sc:gA) (nm:List aw):List E->PT->Bool
 |[],_=>true
 |e::es,t=>!isStar (emE nm e t.l)&&(okE gl sc nm e t.l&&okEs gl sc nm es t.r)
noncomputable def okO (gl:GL) (sc:gA) (nm:List aw):Option E->PT->Bool
 |none,_=>true
 |some e,t=>okE gl sc nm e t
end
structure Fm (cx:Cx) (au:i4) (nm:List aw) (H:MH) (ρ:db) (h:cO):Prop where
 kind:au.scope.kind=.function
 glob:au.globals=dj
 blt:au.builtins=lB
 nd:nm.Nodup
 len:ρ.length=nm.length
 apart:∀n1 c1 n2 c2,au.cells.lookup n1=some c1->au.cells.lookup n2=some c2->n1≠n2->c1≠c2
 aboveL:cx.base.objs.size<=au.locals
 aboveC:∀n c,au.cells.lookup n=some c->cx.base.objs.size<=c
 cellsAll:∀x,au.kindOf x=some .cell->∃c,au.cells.lookup x=some c
 free:ci H au.locals
 slots:∃(m cm:aw->Option av),h.Ns au.locals m/\(∀n c,au.cells.lookup n=some c->h.IsCell c (cm n))/\
  ∀i x,nm[i]?=some x->(au.kindOf x=some .local/\∀u,ρ.at i=some u->∃v,m x=some v/\VRel cx h u v)\/
   ((au.kindOf x=some .cell\/au.kindOf x=some .free)/\(∃c,au.cells.lookup x=some c)/\∀u,ρ.at i=some u->∃v,cm x=some v/\VRel cx h u v)
def iF (cx:Cx) (A:dz) (H:MH) (h:cO):Prop:=∃l,A.frames=some l/\∀au∈l,au.scope.kind≠.module/\∃L,au.frame=some L/\(∃m,h.Ns L m)/\ci H L/\cx.base.objs.size<=L
structure Bu (A:dz) (lv:Nat):Prop where
 handled:A.handled=none
 depth:A.depth+2*lv+4<xV
 units:A.units+20*lv+400<mG
theorem iF.step (k:iF cx A H h) (x:bf P H h H' h'):iF cx A H' h':=by
 refine aL k λ l h1 h2=>?_
 refine ⟨l,h1,λ au he=>?_⟩
 refine bx (h2 au he) λ a t1_=>(fy t1_ λ L b w2_ d e=>?_)
 obtain ⟨m,c⟩:=w2_
 exact ⟨a,L,b,x.nsP L m c d,x.free (gw c).choose_spec d,e⟩
theorem Fm.step (k:Fm cx au nm H ρ h) (x:bf fe H h H' h'):Fm cx au nm H' ρ h':=by
 refine cu k.slots λ m cm a b c=>⟨k.kind,k.glob,k.blt,k.nd,k.len,k.apart,k.aboveL,k.aboveC,k.cellsAll,x.free (gw a).choose_spec k.free,m,cm,x.ns _ _ a k.free (λ q=>q),λ n c' e=>x.cell _ _ (b n c' e) λ q=>q,λ i y e=>?_⟩
 rcases c i y e with ⟨c1,c2⟩|⟨c1,c2,c3⟩
 ·exact .inl ⟨c1,λ u hu=>let ⟨v,e1,e2⟩:=c2 u hu;⟨v,e1,VRel.mono x.imm _ e2⟩⟩
 ·exact .inr ⟨c1,c2,λ u hu=>let ⟨v,e1,e2⟩:=c3 u hu;⟨v,e1,VRel.mono x.imm _ e2⟩⟩
theorem Fm.lok (k:Fm cx au nm H ρ h):ux cx H h au.locals:=
 cu k.slots λ m Z a Z Z=>⟨k.aboveL,k.free,m,a⟩
inductive ip (cx:Cx) (h0:cO) (H:MH) (h:cO) (e:av) (why:aw):Prop
 |mk (a) (C) (d) (vs) (es) (n) (t) (sl) (od) (h1:e=.ref a) (h2:cx.addr (.cls 1)=.ref C) (h3:h.get? a=some {cls:=.ref C,dict:=some d,data:=.fields vs,slots:=sl}) (h4:cx.base.objs.size<=a) (h5:ci H a) (h6:h.get? d=some od) (h7:od.data=.dict es.toArray n) (h8:cx.base.objs.size<=d) (h9:ci H d) (h10:h0.get? d=none) (h11:Fe "why" es=some (some (.str why t))/\(vs[1]?=some .none\/∃T oT ts,vs[1]?=some (.ref T)/\cx.base.objs.size<=T/\T≠a/\h.get? T=some oT/\oT.data=.fields ts/\ts[3]?=some .none/\oT.cls=.type "traceback"/\ci H T)):ip cx h0 H h e why
theorem ip.from (k:∀b o,h0.get? b=some o->∃o',h1.get? b=some o') (x:ip cx h1 H h e why):ip cx h0 H h e why:=by
 obtain ⟨a,C,d,vs,es,n,t,sl,od,g1,g2,g3,g4,g5,g6,g6b,g7,g8,g9,g10⟩:=x
 refine ⟨a,C,d,vs,es,n,t,sl,od,g1,g2,g3,g4,g5,g6,g6b,g7,g8,?_,g10⟩
 cases z:h0.get? d with
 |none=>rfl
 |some o=>obtain ⟨o',e'⟩:=k d o z;rw [g9] at e';exact bF e'
inductive cj (cx:Cx) (P:aI->Prop) (H:MH) (s:ax) (X:aw->MH->Prop) (e:av) (s':ax):Prop
 |mk (why) (H') (h1:X why H') (h2:ip cx s.heap H' s'.heap e why) (h3:cb cx H' s'.heap) (h4:bf P H s.heap H' s'.heap) (h5:dS s s'):cj cx P H s X e s'
theorem cj.after (st:bf P H s.heap H1 s1.heap) (sm:dS s s1) (p:cj cx P H1 s1 X e s'):cj cx P H s X e s':=by
 obtain ⟨why,H',q,r,I,x,y⟩:=p
 exact ⟨why,H',q,r.from st.there,I,st.trans x,sm.trans y⟩
theorem cj.no (p:cj cx P H s j9 e s'):False:=let ⟨_,_,q,_,_,_,_⟩:=p;q
theorem cj.weak (p:cj cx fe H s X e s'):cj cx P H s X e s':=by
 obtain ⟨why,H',q,r,I,x,y⟩:=p
 exact ⟨why,H',q,r,I,x.weak,y⟩
structure gT (cx:Cx) (tb:ow) (gl:GL):Prop extends Good cx where
 mg:∃mg mb,cx.base.Ns dj mg/\cx.base.Ns lB mb/\∀x:aw,x≠"__name__"->mb x=sV x
 nolimit:cx.base.NoLimit
 glob:∀x f,gl.lookup x=some f->nsIn cx.K dj x=some (some (cx.addr f))\/(nsIn cx.K dj x=some none/\sV x=some (cx.addr f)/\x≠"__name__")
 keep:∀f,uQ cx.K (cx.addr f)=true\/∀a,cx.addr f≠.ref a
 tfld:∀c n,tb.fld c n=cx.fld c n
 meth:∀c n f,tb.meth c n=some f->∃C g,cx.addr c=.ref C/\cx.addr f=.ref g/\cS cx.K (.ref C) "__getattribute__"=some (some (.builtin "object.__getattribute__"))/\cS cx.K (.ref C) "__getattr__"=some none/\
  cS cx.K (.ref C) n=some (some (.ref g))/\pt cx.K (.ref g)=some (.type "function")
 bi:∀id,id∈["list.append","list.insert","dict.get","dict.update"]->cx.addr (.bi id)=.builtin id
 init:∀c f,tb.init c=some f->∃C g,cx.addr c=.ref C/\cx.addr f=.ref g/\makesIn cx.K C=true/\cS cx.K (.ref C) "__init__"=some (some (.ref g))/\pt cx.K (.ref g)=some (.type "function")
structure E1 (A:dz) (l:Nat):Prop where
 handled:A.handled=none
 depth:A.depth+2*l+5<xV
 units:A.units+20*l+410<mG
theorem Bu.u100 (m:Bu A lv):A.units+100<mG:=by have:=m.units;lia
theorem Bu.call (m:Bu A lv) (h:l<lv):E1 A l:=⟨m.handled,by have:=m.depth;lia,by have:=m.units;lia⟩
noncomputable def CallOk (cx:Cx) (tb:ow) (f:Fn):Prop:=
 ∀(A:dz) (H:MH) (s:ax) (us:List V) (vs:List av) (Q:V->MH->Prop) (X:aw->MH->Prop),E1 A (tb.lvl f)->iF cx A H s.heap->(∃L,ux cx H s.heap L)->cb cx H s.heap->VRels cx s.heap us vs->
  tb.spec f us H Q X->aE (ay cx.prog cx.w) A (call (cx.addr f) vs) (bO cx H s Q) (cj cx fe H s X) s
def Jp (Q E:av->ax->Prop) (r:HP) (s':ax):Prop:=match r with
 |.ok (.ret v)=>Q v s'
 |.ok _=>False
 |.error e=>E e s'
noncomputable def CodeOk (cx:Cx) (tb:ow) (f:Fn):Prop:=
 ∀(A:dz) (H:MH) (s:ax) (us:List V) (vs:List av) (Q:V->MH->Prop) (X:aw->MH->Prop),E1 A (tb.lvl f)->iF cx A H s.heap->(∃L,ux cx H s.heap L)->cb cx H s.heap->VRels cx s.heap us vs->
  tb.spec f us H Q X->eT (ay cx.prog cx.w) A (.call (cx.addr f) ⟨vs,[]⟩) (Jp (bO cx H s Q) (cj cx fe H s X)) s
theorem CodeOk.call (k:CodeOk cx tb f):CallOk cx tb f:=λ A H s us vs Q X am st lk I r q=>iK (sX (k A H s us vs Q X am st lk I r q) λ r s' z=>by
 rcases r with e|(_|_|_|_)<;>exact z)
section
variable {cx:Cx}
theorem tV (h:okName sc x=true):(x==("__debug__":aw))=false/\(x==("__classdict__":aw))=false:=⟨nt (al (al h)),nt (ar (al h))⟩
theorem pc (F:Fm cx au nm H ρ s.heap) (hn:nm[i]?=some x) (hk:okName au.scope x=true) (hu:ρ.at i=some u)
  (k:∀v,VRel cx s.heap u v->R v s):aE (ay cx.prog cx.w) A (eval (.Name x pos) au) R Ex s:=by
 refine cu F.slots λ m cm h1 h2 h3=>(bx (tV hk) λ d1 d2=>?_)
 rcases h3 i x hn with ⟨c1,c2⟩|⟨c1,⟨c,c2⟩,c3⟩
 ·exact aL (c2 u hu) λ v e1 e2=>(xW (pz F.kind c1 h1 e1 (k v e2)) d1)
 ·refine aL (c3 u hu) λ v e1 e2=>?_
  rcases c1 with c1|c1
  ·exact xW (Gv F.kind c1 c2 (e1▸h2 _ _ c2) (k v e2)) d1
  ·exact xW (Gw F.kind c1 c2 (e1▸h2 _ _ c2) (k v e2) d2) d1
theorem oG (G:gT cx tb gl) (hg:au.globals=dj) (hb:au.builtins=lB) (hk:au.scope.kind=.function) (I:cb cx H s.heap) (hok:okGlob gl au.scope x f=true) (k:R (cx.addr f) s):
  aE (ay cx.prog cx.w) A (eval (.Name x pos) au) R Ex s:=by
 have h1:=eq_of_beq (al (al hok))
 have h2:=eq_of_beq (ar (al hok))
 have h3:=nt (ar hok)
 refine cu G.mg λ mg mb g1 g2 g3=>?_
 have n1:s.heap.Ns au.globals mg:=by refine af hg ?_;exact g1.keeps I.base
 have n2:s.heap.Ns au.builtins mb:=by refine af hb ?_;exact g2.keeps I.base
 rcases G.glob x f h1 with e|⟨e1,e2,e3⟩
 ·exact Name_function_global hk h2 (loadGlobal_global n1 (mg_of G.X g1 e) k) h3
 ·exact Name_function_global hk h2 (loadGlobal_builtin n1 (mg_none_of G.X g1 e1) n2 ((g3 x e3).trans e2) k) h3
theorem jW:∀{xs:List Expr} {e:Expr},isStar e=false->il (e::xs) au=(false,eval e au)::il xs au:=λ {xs e} h=>by
 cases e<;>first|rfl|cases h
theorem ou (pos:Bx):∀{l:List (Bool×uX av)},(pA pos l).any (·.1)=l.any (·.1)
 |[]=>rfl
 |(b,t)::l=>by
  show (b||(pA pos l).any (·.1))=(b||l.any (·.1))
  exact af (ou pos) rfl
theorem lc:∀{es:List E} {t:PT},okEs gl au.scope nm es t=true->(il (emEs nm es t) au).any (·.1)=false/\(emEs nm es t).length=es.length
 |[],_,_=>⟨rfl,rfl⟩
 |_::_,_,h=>⟨(congrArg (λ l:List (Bool×uX av)=>l.any (·.1)) (jW (xs:=emEs nm _ _) (nt (al h)))).trans (lc (ar (ar h))).1,congrArg nz (lc (ar (ar h))).2⟩
theorem md (G:gT cx tb gl) (hf:uQ cx.K f=true\/∀a,f≠.ref a) (hp:okEs gl au.scope nm es t=true)
  (h:aE (ay cx.prog cx.w) A (spliced (pA pos (il (emEs nm es t) au))) (λ vs s₁=>cx.K.In s₁.heap/\aE (ay cx.prog cx.w) A (call f (first++vs)) R Ex s₁) Ex s):
  aE (ay cx.prog cx.w) A (callWith pos f first (pA pos (il (emEs nm es t) au)) []) R Ex s:=by
 have hk:∀h,cx.K.In h->∃k,(k=Gx\/k=DX\/k=Bl)/\lC (ay cx.prog cx.w) h (keeperOf f) k:=λ h X=>by
  rcases hf with hf|hf
  ·exact keeps_K hf h X
  ·refine ⟨.machine,.inr (.inl rfl),Gy ?_⟩
   cases f<;>first|rfl|exact absurd rfl (hf _)
 refine callWith_of (P:=cx.K.In) (by (refine af (ou _) (af ((lc hp).1) ?_));rfl) hk ?_
 cases es with
 |nil=>exact λ Γ p hΓ=>evalArgs_nil3 (h Γ p hΓ) Γ p hΓ
 |cons e es=>
  have e1:il (emEs nm (e::es) t) au=_:=jW (nt (al hp))
  rw [e1] at h⊢
  exact evalArgs_plain h
theorem qV {n x:aw} {f:Fn} (h:((x,f)::r).lookup n=some g):(n=x/\g=f)\/r.lookup n=some g:=by
 rw [aG] at h
 cases z:n==x with
 |true=>rw [z] at h;exact .inl ⟨eq_of_beq z,(ac h).symm⟩
 |false=>rw [z] at h;exact .inr h
end
namespace kN
def S_ (cx tb s A):=∀{gl:GL} {H:MH} {Ex:av->ax->Prop} {u:V} {n:aw} {g:Fn} {o:av} {pl:uX Bool} {R:av×List av->ax->Prop} (G:gT cx tb gl) (I:cb cx H s.heap) (ru:VRel cx s.heap u o) (hm:methOf tb H u n=some g) (k:R (cx.addr g,[o]) s),aE (ay cx.prog cx.w) A (getMethod o n pl) R Ex s
def U_:=UV λ cx tb s=>S_ cx tb s
def t_:=dr (by have:=qe;have:=pH;have:=tJ;have:=LY;infer_instance) U_
def cx:=t_.1
def tb:=t_.2.1
def s:=t_.2.2.1
def A:=t_.2.2.2
theorem P_:S_ cx tb s A:=by
 intro gl H Ex u n g o pl R G I ru hm k
 cases u with
 |ref a=>
  cases dh ru
  refine aL (gN.mp hm) λ mo e hm=>?_
  have own:=I.own _ _ e
  cases mo with
  |list us=>
   refine f7 own λ aB nn ho Z=>?_
   have hl:s.heap.IsList a aB:=⟨_,ho,rfl,nn,rfl⟩
   rcases qV hm with ⟨e1,e2⟩|hm
   ·subst e1 e2
    rw [G.bi _ (.head _)] at k
    exact Iu slot_list_append type_list_append hl ⟨_,ho,rfl⟩ k
   ·rcases qV hm with ⟨e1,e2⟩|hm
    ·subst e1 e2
     rw [G.bi _ (.tail _ (.head _))] at k
     exact Iu sY PySem.F.type_list_insert hl ⟨_,ho,rfl⟩ k
    ·exact (cW hm).elim
  |sdict es=>
   refine aL own λ kvs hd Z=>?_
   rcases qV hm with ⟨e1,e2⟩|hm
   ·subst e1 e2
    rw [G.bi _ (.tail _ (.tail _ (.tail _ (.head _))))] at k
    exact sZ hd.typeIs kS s9 PySem.F.type_dict_update hd.mapOf.noDict k
   ·exact (cW hm).elim
  |tdict es=>
   refine aL own λ xs hd Z=>?_
   refine iV (id hd) λ ob Z Z ho hx Z=>?_
   rcases qV hm with ⟨e1,e2⟩|hm
   ·subst e1 e2
    rw [G.bi _ (.tail _ (.tail _ (.head _)))] at k
    exact sZ hd.typeIs kS iy uY (λ b e=>by cases e;exact ⟨_,ho,hx.2.1⟩) k
   ·exact (cW hm).elim
  |edict=>
   refine bw own λ nn ho=>?_
   rcases qV hm with ⟨e1,e2⟩|hm
   ·subst e1 e2
    rw [G.bi _ (.tail _ (.tail _ (.head _)))] at k
    exact sZ ⟨_,ho,rfl⟩ kS iy uY (λ b e=>by cases e;exact ⟨_,ho,rfl⟩) k
   ·exact (cW hm).elim
  |inst c d as=>
   have hm:(if (as.lookup n).isSome=true then none else tb.meth c n)=some g:=hm
   cases q:as.lookup n with
   |some w=>rw [q] at hm;exact (cW hm).elim
   |none=>
    rw [q] at hm
    refine uf own λ C es nn hC h1 h2 hr hf=>?_
    refine jO (G.meth _ _ _ hm) λ C' g' hC' hg f1 t1_=>(gK t1_ λ f2 f3 f4=>?_)
    cases se (hC.symm.trans hC')
    rw [hg] at k
    refine method_fn (G.X.keeps I.base) (pe I h1 h2) f1 f2 f3 f4 ?_ k
    show (lookIn n (nq es nn)).map _=_
    refine af (lookIn_dict _ _ _) (af (pd hr q) ?_);rfl
  |_=>exact (cW hm).elim
 |_=>exact (cW hm).elim
theorem A_:∀p,U_ p:=bC P_
end kN
section
variable {cx:Cx}
theorem kN {cx tb s A}:kN.S_ cx tb s A:=kN.A_ (cx,tb,s,A)
end
structure yN (cx:Cx) (A:dz) (h0:cO) (u:V) (us:List V) (I:aI) (fp:List aI) (P:Nat->av->Prop) (St:Nat->cO->Prop):Prop where
 W:Walks cx.prog cx.w A I fp [I] us.length P St
 fpk:∀i h,St i h->∀b∈fp,∃o,h.get? b=some o/\((Kp o/\(b=I\/u=.ref b))\/tK o\/∃ob,cx.base.get? b=some ob)
 kpI:∀i h,St i h->∃o,h.get? I=some o/\Kp o/\¬tK o/\∃vs,o.data=.fields vs
 val:∀i v w h,P i v->us[i]?=some w->bQ h0 h->VRel cx h w v
theorem lp (hd:o.data=.fields vs) (hc:o.cls≠.type "range"):¬tK o:=by
 rintro (⟨xs,n,q,_⟩|⟨vs',q,q2⟩)
 ·rw [hd] at q;exact gf q rfl
 ·exact hc q2
section
variable {cx:Cx}
theorem rA:qc 0 n 1=(n.toNat:Int):=by
 unfold qc
 simp
 split<;>lia
theorem wE (h1:-1000000<=n) (h2:n<=1000000):sr 0 n 1=true:=by
 unfold sr
 refine af rA ?_
 simp only [Builtin.Range.rangeFitsLong,bI,jt,decide_eq_true_eq,beq_iff_eq]
 refine ⟨⟨⟨⟨?_,?_⟩,?_⟩,?_⟩,.inr ?_⟩<;>first|lia|(simp;lia)
theorem vf (hA:A.handled=none) (hne:a≠I) (rs:VRels cx h0 us aB.toList) (hw:u=.ref a\/∃o,cx.base.get? a=some o):
  yN cx A h0 u us I [I,a] (λ i v=>aB[i]?=some v) (λ i h=>h.IsListIter I a i/\h.IsList a aB) where
 W:=by
  have:=Walks.list (prog:=cx.prog) (w:=cx.w) hA I a hne aB
  have e:aB.size=us.length:=by have:=rs.len;simpa using this
  rw [e] at this;exact this
 fpk:=by
  intro i h st b hb
  refine bx st λ w1_ w2_=>?_
  clear st
  refine cJ w1_ λ o ho hc hd=>?_
  clear w1_
  refine cJ w2_ λ o2 ho2 hc2 t1_=>(bw t1_ λ n2 hd2=>?_)
  clear w2_ t1_
  rcases aZ.mp hb with rfl|hb
  ·exact ⟨o,ho,.inl ⟨.inr ⟨_,hd,.inl hc⟩,.inl rfl⟩⟩
  ·have:b=a:=by simpa using hb
   subst this
   rcases hw with rfl|hb'
   ·exact ⟨o2,ho2,.inl ⟨.inl ⟨_,_,hd2⟩,.inr rfl⟩⟩
   ·exact ⟨o2,ho2,.inr (.inr hb')⟩
 kpI:=by
  intro i h st
  refine bx st λ w1_ Z=>?_
  refine cJ w1_ λ o ho hc hd=>?_
  exact ⟨o,ho,.inr ⟨_,hd,.inl hc⟩,lp hd (by refine af hc ?_;decide),_,hd⟩
 val:=by
  intro i v w h hp hw' kp
  refine aL (rs.get hw') λ v' e1 e2=>?_
  rw [cV,hp] at e1;(have e1:=ac e1;subst e1)
  exact VRel.mono kp _ e2
theorem zE (hA:A.handled=none) (hne:a≠I) (rs:VRels cx h0 us aB.toList):
  yN cx A h0 u us I [I,a] (λ i v=>aB[i]?=some v) (λ i h=>h.IsTupleIter I a i/\h.IsTuple a aB) where
 W:=by
  have:=Walks.tuple (prog:=cx.prog) (w:=cx.w) hA I a hne aB
  have e:aB.size=us.length:=by have:=rs.len;simpa using this
  rw [e] at this;exact this
 fpk:=by
  intro i h st b hb
  refine bx st λ w1_ w2_=>?_
  clear st
  refine cJ w1_ λ o ho hc hd=>?_
  clear w1_
  refine cJ w2_ λ o2 ho2 hc2 t1_=>(bw t1_ λ n2 hd2=>?_)
  rcases aZ.mp hb with rfl|hb
  ·exact ⟨o,ho,.inl ⟨.inr ⟨_,hd,.inr (.inl hc)⟩,.inl rfl⟩⟩
  ·have:b=a:=by simpa using hb
   subst this
   exact ⟨o2,ho2,.inr (.inl (.inl ⟨_,_,hd2,hc2⟩))⟩
 kpI:=by
  intro i h st
  refine bx st λ w1_ Z=>?_
  refine cJ w1_ λ o ho hc hd=>?_
  exact ⟨o,ho,.inr ⟨_,hd,.inr (.inl hc)⟩,lp hd (by refine af hc ?_;decide),_,hd⟩
 val:=by
  intro i v w h hp hw' kp
  refine aL (rs.get hw') λ v' e1 e2=>?_
  rw [cV,hp] at e1;cases e1
  exact VRel.mono kp _ e2
theorem AF (hA:A.handled=none):
  yN cx A h0 u ((bH n).map λ i=>V.int (i:Nat)) I [I] (λ i v=>∃t,v=.int (0+i*1) t) (λ i h=>IsRangeIter h I (0+(i:Nat)*1) ((n:Int) -(i:Nat)) 1) where
 W:=by
  have:=Walks.range (prog:=cx.prog) (w:=cx.w) hA I 0 1 n
  simpa using this
 fpk:=by
  intro i h st b hb
  have:b=I:=by simpa using hb
  subst this
  exact ⟨_,st,.inl ⟨.inr ⟨_,rfl,.inr (.inr (.inl rfl))⟩,.inl rfl⟩⟩
 kpI:=by
  intro i h st
  exact ⟨_,st,.inr ⟨_,rfl,.inr (.inr (.inl rfl))⟩,lp rfl (show cP "range_iterator"≠cP "range" by decide),_,rfl⟩
 val:=by
  intro i v w h hp hw' kp
  refine bw hp λ t r1_=>?_
  clear hp
  subst r1_
  rw [aF] at hw'
  refine aL (aH.mp hw') λ j hj r1_=>?_
  subst r1_
  have:j=i:=by
   have h1:=aO.mp hj
   obtain ⟨h2,h3⟩:=h1
   rw [fv] at h3
   exact h3.symm
  subst this
  have:(0:Int)+(j:Int)*1=j:=by lia
  exact af this du
theorem Ak (hA:A.handled=none) (hb:∀x∈b,0<=x/\x<256):
  yN cx A h0 u (b.map V.int) I [I] (λ i v=>∃c u,(w9 b)[i]?=some c/\v=.int (c.toNat:Int) u) (λ i h=>KBw.IsBytesIter h I (w9 b) t i) where
 W:=by
  have:=KBw.walks (prog:=cx.prog) (w:=cx.w) hA I (w9 b) t
  rw [byteArr_size] at this
  simpa using this
 fpk:=by
  intro i h st c hc
  have:c=I:=by simpa using hc
  subst this
  refine cJ st λ o ho hc hd=>?_
  exact ⟨o,ho,.inl ⟨.inr ⟨_,hd,.inr (.inr (.inr hc))⟩,.inl rfl⟩⟩
 kpI:=by
  intro i h st
  refine cJ st λ o ho hc hd=>?_
  exact ⟨o,ho,.inr ⟨_,hd,.inr (.inr (.inr hc))⟩,lp hd (by refine af hc ?_;decide),_,hd⟩
 val:=by
  intro i v w h hp hw' kp
  refine f7 hp λ c tk hc r1_=>?_
  clear hp
  subst r1_
  rw [aF] at hw'
  refine aL (aH.mp hw') λ x hx r1_=>?_
  subst r1_
  rw [<-cV] at hc
  have hc:(b.map λ n:Int=>n.toNat.toUInt8)[i]?=some c:=hc
  rw [aF,hx] at hc
  have:x.toNat.toUInt8=c:=by simpa using hc
  subst this
  refine af (tZ (hb x (a6 hx))) ?_
  exact du
theorem gI (hi:itemsOf H (.ref a)=some us):H a=some (.list us):=by
 unfold itemsOf at hi
 dsimp only at hi
 generalize H a=o at hi⊢
 cases o with
 |none=>exact bF hi
 |some o=>cases o with
  |list l=>exact congrArg (λ l=>some (bK.list l)) (ac hi)
  |_=>exact bF hi
theorem ql (hA:A.handled=none) (I:cb cx H s.heap) (ru:VRel cx s.heap u x) (hi:itemsOf H u=some us)
  (k:∀fp P St h',yN cx A s.heap u us s.heap.objs.size fp P St->(∀b o,s.heap.get? b=some o->h'.get? b=some o)->h'.objs.size=s.heap.objs.size+1->St 0 h'->R (.ref s.heap.objs.size) {s with heap:=h'}):
  aE (ay cx.prog cx.w) A (xX x) R Ex s:=by
 cases u with
 |tuple us'=>
  have hi:=ac hi
  subst hi
  refine cu (fA ru) λ a aB r1_ ht rs=>?_
  subst r1_
  have hne:a≠s.heap.objs.size:=by obtain ⟨o,ho,_⟩:=ht;exact dN (bz ho)
  exact wpAny_pyIter_tuple (show s.heap.IsTuple a aB from ht) (k _ _ _ _ (zE hA hne rs) (λ b o e=>ak _ e) (eF _ _)
   ⟨⟨_,bu _ rfl,rfl,rfl⟩,Heap.IsTuple.push (show s.heap.IsTuple a aB from ht) _⟩)
 |flist us'=>
  have hi:=ac hi
  subst hi
  refine cu ru λ a aB r1_ w2_ rs=>?_
  clear ru
  subst r1_
  refine aL w2_ λ ob ho hr=>?_
  have hl:s.heap.IsList a aB:=⟨ob,I.base _ _ ho,hr⟩
  have hne:a≠s.heap.objs.size:=dN (bz (I.base _ _ ho))
  exact Iv hl (k _ _ _ _ (vf hA hne rs (.inr ⟨_,ho⟩)) (λ b o e=>ak _ e) (eF _ _) ⟨⟨_,bu _ rfl,rfl,rfl⟩,hl.push _⟩)
 |ref a=>
  have:=dh ru;subst this
  refine f7 (I.own _ _ (gI hi)) λ aB n ho rs=>?_
  have hl:s.heap.IsList a aB:=⟨_,ho,rfl,n,rfl⟩
  have hne:a≠s.heap.objs.size:=dN (bz ho)
  exact Iv hl (k _ _ _ _ (vf hA hne rs (.inl rfl)) (λ b o e=>ak _ e) (eF _ _) ⟨⟨_,bu _ rfl,rfl,rfl⟩,hl.push _⟩)
 |range n=>
  have hi:=ac hi
  subst hi
  refine zu ru λ a t u w r1_ hr h1 h2=>?_
  clear ru
  subst r1_
  refine wpAny_pyIter_range hr (wE h1 h2) (k _ _ _ _ (AF hA) (λ b o e=>ak _ e) (eF _ _) ?_)
  refine af rA ?_
  have:=bu s.heap (o:={cls:=.type "range_iterator",data:=.fields #[iL 0,iL n.toNat,iL 1]}) rfl
  simpa using this
 |bytes b=>
  have hi:=ac hi
  subst hi
  refine aL ru λ t r1_ hb=>?_
  clear ru
  subst r1_
  exact KBw.pyIter_bytes (k _ _ _ _ (Ak (t:=t) hA hb) (λ b o e=>ak _ e) (eF _ _) ⟨_,bu _ rfl,rfl,rfl⟩)
 |_=>exact bF hi
theorem yN.keep {St:Nat->cO->Prop} (J:yN cx A h0 u us I fp P St) (st:St i h) (x:bf PP H1 h H2 h') (b1:∀a o,cx.base.get? a=some o->h.get? a=some o)
  (b2:∀a o,cx.base.get? a=some o->h'.get? a=some o) (f1:ci H1 I) (f2:∀a,u=.ref a->ci H1 a) (p1:¬PP I) (p2:∀a,u=.ref a->¬PP a):St i h':=by
 refine J.W.frame i h h' st λ b hb o e=>(aL (J.fpk i h st b hb) λ o' e' q=>?_)
 rw [e] at e';(have e':=ac e';subst e')
 rcases q with ⟨k,q⟩|q|⟨ob,q⟩
 ·exact x.kp b o e k (q.elim (λ z=>z▸f1) λ z=>f2 b z) (q.elim (λ z=>z▸p1) λ z=>p2 b z)
 ·exact x.imm b o e q
 ·have:=b1 b ob q
  rw [e] at this;(have this:=ac this;subst this)
  exact b2 b _ q
end
theorem rn {A:dz}:A.under (.builtin "type.__call__" ⟨.ref C::rest,kw⟩)={A with depth:=A.depth+1,units:=A.units+1}:=by
 obtain ⟨hd,d,fr,gs,u⟩:=A
 have e1:Code.weight (.builtin "type.__call__" ⟨.ref C::rest,kw⟩)=1:=by rfl
 have e2:Code.envs (.builtin "type.__call__" ⟨.ref C::rest,kw⟩)=[]:=by rfl
 have e3:Code.guards (.builtin "type.__call__" ⟨.ref C::rest,kw⟩)=[]:=by rfl
 have e4:Code.cUnits (.builtin "type.__call__" ⟨.ref C::rest,kw⟩)=1:=by rfl
 refine af e1 (af e2 (af e3 (af e4 ?_)))
 rfl
section
variable {cx:Cx}
theorem BI (G:gT cx tb gl) (hi:tb.init (.cls n)=some i) (ck:CodeOk cx tb i) (am:Bu A lv) (hl:tb.lvl i<lv)
  (st:iF cx A H s.heap) (lk:∃L,ux cx H s.heap L) (I:cb cx H s.heap) (r:VRels cx s.heap us vs)
  (q:∀a d,H a=none->tb.spec i (.ref a::us) (H.set a (.inst (.cls n) d [])) (λ u H1=>u=.none/\Q (.ref a) H1) X):
  aE (ay cx.prog cx.w) A (call (cx.addr (.cls n)) vs) (bO cx H s Q) (cj cx fe H s X) s:=by
 refine jO (G.init _ _ hi) λ C g hC hg f1 t1_=>(bx t1_ λ f2 f3=>?_)
 have hX:=G.X.keeps I.base
 refine af hC ?_
 refine iK ?_
 obtain ⟨hh,gg,dd,tk,os⟩:=s
 refine make_core (makes_of hX f1) (nF hX f2) (λ self=>bind_fn hX self f3) (.inl rfl) (bw lk λ L lk_=>?_)
 revert lk_;intro lk
 have hb:cx.base.objs.size<=hh.objs.size:=lk.le
 have k:∀b o,hh.get? b=some o->((hh.push kY).push (kR C hh.objs.size)).get? b=some o:=λ b o e=>ak _ (ak _ e)
 have hx:((hh.push kY).push (kR C hh.objs.size)).get? (hh.objs.size+1)=some (kR C hh.objs.size):=by heap_get
 have hd:((hh.push kY).push (kR C hh.objs.size)).get? hh.objs.size=some kY:=ak _ (bu _ rfl)
 have n1:hh.get? (hh.objs.size+1)=none:=dO (Bj _)
 have n2:hh.get? hh.objs.size=none:=dO (bW _)
 have F1:=I.free n1
 have F2:=I.free n2
 have hr:ORel cx ((hh.push kY).push (kR C hh.objs.size)) (hh.objs.size+1) (.inst (.cls n) hh.objs.size []):=⟨C,[],0,hC,hx,hd,rfl,λ p hp=>by cases hp⟩
 have I':cb cx (H.set (hh.objs.size+1) (.inst (.cls n) hh.objs.size [])) ((hh.push kY).push (kR C hh.objs.size)):=
  ((I.push _).push _).takeI F1 F2 (dN (dI _)) (cL hb) hb hr
 have S':bf fe H hh (H.set (hh.objs.size+1) (.inst (.cls n) hh.objs.size [])) ((hh.push kY).push (kR C hh.objs.size)):=(bf.keeps k).takeI n1 n2
 refine af rn (af hg.symm ?_)
 have st':iF cx {A with depth:=A.depth+1,units:=A.units+1} (H.set (hh.objs.size+1) (.inst (.cls n) hh.objs.size [])) ((hh.push kY).push (kR C hh.objs.size)):=by
  exact aL (st.step S') λ l h1 h2=>⟨l,h1,h2⟩
 refine sX (ck _ _ ⟨_,gg,dd,tk,os⟩ _ _ _ _ ⟨am.handled,?_,?_⟩ st' ⟨L,?_⟩ I' (.cons lX (r.mono (bQ.of_keeps k) us)) (q _ _ F1.1)) λ r s' z=>?_
 ·have:=am.depth;show A.depth+1+_+5<_;lia
 ·have:=am.units;show A.units+1+_+410<_;lia
 ·obtain ⟨a,b,m,c⟩:=lk
  exact ⟨a,S'.free (gw c).choose_spec b,m,S'.ns _ _ c b id⟩
 ·rcases r with e|(_|_|_|v)
  ·exact cj.after (s1:=⟨_,gg,dd,tk,os⟩) S' ⟨rfl,rfl,rfl⟩ z
  ·exact z.elim
  ·exact z.elim
  ·exact z.elim
  ·obtain ⟨u,H1,⟨rfl,q'⟩,rv,I1,S1,m1⟩:=z
   exact ⟨gr rv,.ref _,H1,q',lX,I1,S'.trans S1,m1⟩
end
theorem cb.at_free (I:cb cx H h) (f:ci H a) (hb:cx.base.objs.size<=a) (ho:h.get? a=some o) (hi:¬tK o) (k:∀b o,b≠a->h.get? b=some o->h'.get? b=some o):cb cx H h':=by
 refine I.moved (λ b ob e i=>k b ob (λ q=>?_) e) (λ b ob e=>k b ob (λ q=>?_) (I.base b ob e)) λ b nf=>?_
 ·subst q;rw [ho] at e;(have e:=ac e;subst e);exact hi i
 ·subst q;exact absurd (bz e) (dw.mpr hb)
 ·refine bw (I.at nf) λ ob e=>?_
  refine af e ?_;exact k b ob (λ q=>nf (q▸f)) e
theorem bf.only (ho:h.get? a=some o) (hi:¬tK o) (hd:∀es n,o.data≠.dict es n) (ho':h'.get? a=some o') (p:P a) (k:∀b o,b≠a->h.get? b=some o->h'.get? b=some o):bf P H h H h':=by
 have ns:∀b m,h.Ns b m->h'.Ns b m:=λ b m e=>by
  refine iV e λ ob es ep e1 d r=>?_
  exact ⟨ob,es,ep,k b ob (λ q=>by subst q;rw [ho] at e1;(have e1:=ac e1;subst e1);exact hd _ _ d) e1,d,r⟩
 refine ⟨λ b ob e i=>k b ob (λ q=>?_) e,λ b m e Z Z=>ns b m e,λ b v e np=>?_,λ b m e Z=>⟨m,ns b m e⟩,λ Z x y=>absurd x y,λ b ob e=>?_,λ b ob e Z Z np=>k b ob (λ q=>np (q▸p)) e⟩
 ·subst q;rw [ho] at e;(have e:=ac e;subst e);exact hi i
 ·refine aL e λ ob e1 e2=>?_
  exact ⟨ob,k b ob (λ q=>np (q▸p)) e1,e2⟩
 ·by_cases q:b=a
  ·exact ⟨o',q▸ho'⟩
  ·exact ⟨ob,k b ob q e⟩
theorem yS {h:cO} (x:h.Ns a m) (y:h.Ns a m'):m=m':=by
 refine kg x λ o1 es1 ep1 g1 d1 k1 f1=>?_
 refine kg y λ o2 es2 ep2 g2 d2 k2 f2=>?_
 rw [g1] at g2;(have g2:=ac g2;subst g2)
 rw [d1] at d2;cases d2
 exact funext λ x=>(f1 x).symm.trans (f2 x)
theorem bf.store (n:h.Ns L m) (n':h'.Ns L m') (sb:dm L h h') (p:P L):bf P H h H h':=by
 have k:∀b o,b≠L->h.get? b=some o->h'.get? b=some o:=λ b o q e=>(sb.2 b q).trans e
 refine iV (id n) λ o es ep ho hd Z=>(bw (gw n') λ o' ho'=>?_)
 have hi:=ke n ho
 refine ⟨λ b ob e i=>k b ob (λ q=>?_) e,λ b m0 e Z np=>?_,λ b v e np=>?_,λ b m0 e Z=>?_,λ Z x y=>absurd x y,λ b ob e=>?_,λ b ob e Z Z np=>k b ob (λ q=>np (q▸p)) e⟩
 ·subst q;rw [ho] at e;(have e:=ac e;subst e);exact hi.1 i
 ·exact e.sameBut sb λ q=>np (q▸p)
 ·exact e.sameBut sb λ q=>np (q▸p)
 ·by_cases q:b=L
  ·exact ⟨m',q▸n'⟩
  ·exact ⟨m0,e.sameBut sb q⟩
 ·by_cases q:b=L
  ·exact ⟨o',q▸ho'⟩
  ·exact ⟨ob,k b ob q e⟩
theorem cb.store (I:cb cx H h) (n:h.Ns L m) (sb:dm L h h') (f:ci H L) (hb:cx.base.objs.size<=L):cb cx H h':=by
 exact bw (gw n) λ o ho=>(I.at_free f hb ho (ke n ho).1 λ b ob q e=>(sb.2 b q).trans e)
theorem bf.absorb (x:bf P H0 h0 H h) (y:bf P' H h H' h') (p:∀a,P' a->P a\/h0.get? a=none):bf P H0 h0 H' h':=by
 have no:∀{a o},h0.get? a=some o->¬P a->¬P' a:=λ {a o} e n q=>(p a q).elim n λ z=>by rw [e] at z;exact b7 z
 refine ⟨λ a o e i=>y.imm a o (x.imm a o e i) i,λ a m e f n=>?_,λ a v e n=>?_,λ a m e f=>?_,λ a f n=>?_,λ a o e=>let ⟨o',e'⟩:=x.there a o e;y.there a o' e',λ a o e k f n=>y.kp a o (x.kp a o e k f n) k (x.free e f) (no e n)⟩
 ·exact bw (gw e) λ o ho=>(y.ns a m (x.ns a m e f n) (x.free ho f) (no ho n))
 ·exact aL (id e) λ o ho hv=>(y.cell a v (x.cell a v e n) (no ho n))
 ·exact bw (gw e) λ o ho=>(bw (x.nsP a m e f) λ m' e'=>(y.nsP a m' e' (x.free ho f)))
 ·by_cases q:ci H a
  ·have:=y.fresh a q n
   cases z:h0.get? a with
   |none=>rfl
   |some o=>obtain ⟨o',e'⟩:=x.there a o z;rw [this] at e';exact bF e'
  ·exact x.fresh a f q
theorem Fm.stepP (k:Fm cx au nm H ρ h) (x:bf P H h H' h') (pL:¬P au.locals) (pC:∀n c,au.cells.lookup n=some c->¬P c):Fm cx au nm H' ρ h':=by
 refine cu k.slots λ m cm a b c=>⟨k.kind,k.glob,k.blt,k.nd,k.len,k.apart,k.aboveL,k.aboveC,k.cellsAll,x.free (gw a).choose_spec k.free,m,cm,x.ns _ _ a k.free pL,λ n c' e=>x.cell _ _ (b n c' e) (pC n c' e),λ i y e=>?_⟩
 rcases c i y e with ⟨c1,c2⟩|⟨c1,c2,c3⟩
 ·exact .inl ⟨c1,λ u hu=>let ⟨v,e1,e2⟩:=c2 u hu;⟨v,e1,VRel.mono x.imm _ e2⟩⟩
 ·exact .inr ⟨c1,c2,λ u hu=>let ⟨v,e1,e2⟩:=c3 u hu;⟨v,e1,VRel.mono x.imm _ e2⟩⟩
theorem Fm.only (F:Fm cx au nm H ρ h) (ho:h.get? a=some o) (k:Kp o) (x:bf (·=a) H h H h'):Fm cx au nm H ρ h':=by
 refine cu F.slots λ m cm b c Z=>(F.stepP x (λ q=>?_) λ n c' e q=>?_)
 ·refine iV b λ o' es ep e d Z=>?_
  have q:au.locals=a:=q
  rw [q,ho] at e;(have e:=ac e;subst e)
  exact k.no_dict.1 _ _ d
 ·refine aL (c n c' e) λ o' e1 e2=>?_
  have q:c'=a:=q
  rw [q,ho] at e1;(have e1:=ac e1;subst e1)
  exact k.no_dict.2 _ e2
theorem Fm.but (F:Fm cx au nm H ρ h) (ho:h.get? a=some o) (k:Kp o) (ni:¬tK o) (hk:∀b o,b≠a->h.get? b=some o->h'.get? b=some o):Fm cx au nm H ρ h':=by
 refine cu F.slots λ m cm b c d=>?_
 have ki:bQ h h':=λ b ob e i=>hk b ob (λ q=>by subst q;rw [ho] at e;(have e:=ac e;subst e);exact ni i) e
 refine ⟨F.kind,F.glob,F.blt,F.nd,F.len,F.apart,F.aboveL,F.aboveC,F.cellsAll,F.free,m,cm,?_,λ n c' e=>?_,λ i y e=>?_⟩
 ·refine iV b λ ob es ep e1 d r=>?_
  exact ⟨ob,es,ep,hk _ ob (λ q=>by rw [q,ho] at e1;(have e1:=ac e1;subst e1);exact k.no_dict.1 _ _ d) e1,d,r⟩
 ·exact aL (c n c' e) λ ob e1 e2=>⟨ob,hk _ ob (λ q=>by rw [q,ho] at e1;(have e1:=ac e1;subst e1);exact k.no_dict.2 _ e2) e1,e2⟩
 ·rcases d i y e with ⟨c1,c2⟩|⟨c1,c2,c3⟩
  ·exact .inl ⟨c1,λ u hu=>let ⟨v,e1,e2⟩:=c2 u hu;⟨v,e1,VRel.mono ki _ e2⟩⟩
  ·exact .inr ⟨c1,c2,λ u hu=>let ⟨v,e1,e2⟩:=c3 u hu;⟨v,e1,VRel.mono ki _ e2⟩⟩
theorem iF.but (K:iF cx A H h) (ho:h.get? a=some o) (k:Kp o) (hk:∀b o,b≠a->h.get? b=some o->h'.get? b=some o):iF cx A H h':=by
 refine aL K λ l h1 h2=>?_
 refine ⟨l,h1,λ au he=>?_⟩
 refine bx (h2 au he) λ a1 t1_=>(fy t1_ λ L b w2_ f g=>?_)
 refine iC w2_ λ m ob es t1_=>(cJ t1_ λ ep e1 d r=>?_)
 exact ⟨a1,L,b,⟨m,ob,es,ep,hk _ ob (λ q=>by rw [q,ho] at e1;(have e1:=ac e1;subst e1);exact k.no_dict.1 _ _ d) e1,d,r⟩,f,g⟩
theorem pY {ρ:db} (h:i<ρ.length):db.at (ρ.set i (some u)) i=some u:=by
 unfold db.at
 refine af (lN h) ?_;rfl
theorem o5 (h:i≠j):db.at (ρ.set i u) j=db.at ρ j:=by
 unfold db.at
 exact af (mT h) rfl
theorem C7 {nm:List aw} (nd:nm.Nodup) {i j:Nat} (h:i≠j) (e1:nm[i]?=some x) (e2:nm[j]?=some y):y≠x:=by
 rintro rfl
 exact h ((List.getElem?_inj (aO.mp e1).1 nd).mp (e1.trans e2.symm))
theorem Fm.store (F:Fm cx au nm H ρ h) (hi:nm[i]?=some x) (hk:au.kindOf x=some .local) (n:h.Ns au.locals m)
  (n':h'.Ns au.locals (λ y=>if y=x then some v else m y)) (sb:dm au.locals h h') (r:VRel cx h' u v):Fm cx au nm H (ρ.set i (some u)) h':=by
 refine cu F.slots λ m0 cm a b c=>?_
 have e:=yS n a;subst e
 have st:bf (·=au.locals) H h H h':=bf.store n n' sb rfl
 refine ⟨F.kind,F.glob,F.blt,F.nd,by exact af ju F.len,F.apart,F.aboveL,F.aboveC,F.cellsAll,F.free,_,cm,n',λ n c' e=>st.cell _ _ (b n c' e) λ q=>?_,λ j y e=>?_⟩
 ·refine aL (b n c' e) λ o g1 g2=>?_
  have q:c'=au.locals:=q
  rw [q] at g1
  exact (ke a g1).2 _ g2
 ·by_cases q:i=j
  ·subst q
   rw [hi] at e;(have e:=ac e;subst e)
   refine .inl ⟨hk,λ u' hu=>?_⟩
   rw [pY (by refine af F.len ?_;exact (aO.mp hi).1)] at hu
   (have hu:=ac hu;subst hu)
   exact ⟨v,if_pos rfl,r⟩
  ·refine af (o5 q) ?_
   rcases c j y e with ⟨c1,c2⟩|⟨c1,c2,c3⟩
   ·exact .inl ⟨c1,λ u hu=>let ⟨v,e1,e2⟩:=c2 u hu;⟨v,(if_neg (C7 F.nd q hi e)).trans e1,VRel.mono st.imm _ e2⟩⟩
   ·exact .inr ⟨c1,c2,λ u hu=>let ⟨v,e1,e2⟩:=c3 u hu;⟨v,e1,VRel.mono st.imm _ e2⟩⟩
noncomputable def turnOf (e:Expr) (depth:Nat) (target iter:Expr) (ifs:List Expr) (fJ:Expr) (it acc:av) (au:i4):uX Fin:=do
 nG iter.pos
 match<-uR it with
 |none=>pure (.done .next)
 |some v=>
  iz target it v
  assign target au v
  let mut ok:=true
  for c in ifs do
   if ok then ok<-isTrue c au (eval c au)
  if ok then
   (do let _<-call (.builtin "list.append") [acc,<-eval fJ au])
  again (.compLoop e depth it acc au)
section
variable {prog:cR}
end
namespace lf
def S_ (prog:cR) (w:f8) (A:dz) (R:HP->ax->Prop) (gens:List Bm) (scope:gA) (pos:Bx) (depth:Nat) (fJ target:Expr) (ifs:List Expr) (it acc:av) (au:i4) (I:Nat->ax->Prop):=∀(s:ax) (iter:Expr) (he:compTurn (.ListComp fJ gens scope pos) depth it acc au=turnOf (.ListComp fJ gens scope pos) depth target iter ifs fJ it acc au) (turn:∀n s,I n s->aE (ay prog w) A (uR it) (λ r s₁=>match r with
   |none=>R (.ok .next) s₁
   |some v=>aE (ay prog w) A (assign target au v) (λ Z s₂=>
     aE (ay prog w) A (forIn ifs true λ c r=>if r=true then do let ok<-isTrue c au (eval c au);pure (bX ok) else pure (bX r)) (λ ok s₃=>
      if ok=true then aE (ay prog w) A (eval fJ au) (λ x s₄=>
       aE (ay prog w) A (call (.builtin "list.append") [acc,x]) (λ Z s₅=>∃m,m<n/\I m s₅) (kT (ay prog w) A au λ e s'=>R (.error e) s') s₄) (kT (ay prog w) A au λ e s'=>R (.error e) s') s₃
      else ∃m,m<n/\I m s₃) (kT (ay prog w) A au λ e s'=>R (.error e) s') s₂) (kT (ay prog w) A au λ e s'=>R (.error e) s') s₁) (kT (ay prog w) A au λ e s'=>R (.error e) s') s) (n:Nat) (h:I n s) (ht:∀v,iz target it v=pure ()),eT (ay prog w) A (.compLoop (.ListComp fJ gens scope pos) depth it acc au) R s
def U_:=UV λ prog w A=>UV λ R gens scope=>UV λ pos depth fJ=>UV λ target ifs it=>UU λ acc=>UU λ au=>S_ prog w A R gens scope pos depth fJ target ifs it acc au
def t_:=dr (by have:=qe;have:=pH;have:=vt;infer_instance) U_
def prog:=t_.1
def w:=t_.2.1
def A:=t_.2.2.1
def R:=t_.2.2.2.1
def gens:=t_.2.2.2.2.1
def scope:=t_.2.2.2.2.2.1
def s1_:=t_.2.2.2.2.2.2
def pos:=s1_.1
def depth:=s1_.2.1
def fJ:=s1_.2.2.1
def target:=s1_.2.2.2.1
def ifs:=s1_.2.2.2.2.1
def it:=s1_.2.2.2.2.2.1
def s2_:=s1_.2.2.2.2.2.2
def acc:=s2_.1
def au:=s2_.2.1
def I:=s2_.2.2
theorem P_:S_ prog w A R gens scope pos depth fJ target ifs it acc au I:=by
 intro s iter he turn n h ht
 refine codeAny_loop rfl I (λ n s hI=>?_) n h
 refine wpAny_noted ?_
 refine af he ?_
 refine ae (cq (ae (aq (turn n s hI) (λ r s₁ h₁=>?_) λ Z Z h'=>h')))
 cases r with
 |none=>exact ah h₁
 |some v=>
  refine ae (lO (ht v) ?_)
  refine ae (aq h₁ (λ Z s₂ h₂=>ae (aq h₂ (λ ok s₃ h₃=>?_) λ Z Z h'=>h')) λ Z Z h'=>h')
  cases ok with
  |false=>exact ah ⟨rfl,h₃⟩
  |true=>
   exact ae (ae (aq h₃ (λ x s₄ h₄=>ae (aq h₄ (λ Z s₅ h₅=>ah (ah ⟨rfl,h₅⟩)) λ Z Z h'=>h')) λ Z Z h'=>h'))
theorem A_:∀p,U_ p:=bC P_
end lf
section
variable {prog:cR}
theorem lf (he:compTurn (.ListComp fJ gens scope pos) depth it acc au=turnOf (.ListComp fJ gens scope pos) depth target iter ifs fJ it acc au) (I:Nat->ax->Prop)
  (turn:∀n s,I n s->aE (ay prog w) A (uR it) (λ r s₁=>match r with
   |none=>R (.ok .next) s₁
   |some v=>aE (ay prog w) A (assign target au v) (λ Z s₂=>
     aE (ay prog w) A (forIn ifs true λ c r=>if r=true then do let ok<-isTrue c au (eval c au);pure (bX ok) else pure (bX r)) (λ ok s₃=>
      if ok=true then aE (ay prog w) A (eval fJ au) (λ x s₄=>
       aE (ay prog w) A (call (.builtin "list.append") [acc,x]) (λ Z s₅=>∃m,m<n/\I m s₅) (kT (ay prog w) A au λ e s'=>R (.error e) s') s₄) (kT (ay prog w) A au λ e s'=>R (.error e) s') s₃
      else ∃m,m<n/\I m s₃) (kT (ay prog w) A au λ e s'=>R (.error e) s') s₂) (kT (ay prog w) A au λ e s'=>R (.error e) s') s₁) (kT (ay prog w) A au λ e s'=>R (.error e) s') s)
  (n:Nat) (h:I n s) (ht:∀v,iz target it v=pure ()):
  eT (ay prog w) A (.compLoop (.ListComp fJ gens scope pos) depth it acc au) R s:=
 lf.A_ (prog,w,A,R,gens,scope,pos,depth,fJ,target,ifs,it,acc,au,I) s iter he turn n h ht
end
structure fz (P0:aI->Prop) (cx:Cx) (A:dz) (au:i4) (nm:List aw) (D:aI) (H0:MH) (s0:ax) (H:MH) (ρ:db) (acc:List V) (s:ax):Prop where
 fm:Fm cx au nm H ρ s.heap
 stk:iF cx A H s.heap
 inv:cb cx H s.heap
 acc:∃aB,s.heap.PlainList D aB/\VRels cx s.heap acc aB.toList
 fD:ci H D
 step:bf P0 H0 s0.heap H s.heap
 same:dS s0 s
inductive Gl (el:V->MH->(V->MH->Prop)->Prop) (cond:V->MH->(Bool->MH->Prop)->Prop) (Q:List V->MH->Prop) (P0:aI->Prop) (cx:Cx) (A:dz) (au:i4) (nm:List aw) (D:aI) (H0:MH) (s0:ax) (us acc:List V) (St:Nat->cO->Prop) (t:Nat) (ρ0:db) (I:aI) (u:V) (h0:cO) (n:Nat) (s':ax):Prop
 |mk (i acc' Hc ρc) (g1:n=us.length+1 -i) (g2:i<=us.length) (g3:acc'.length<=acc.length+i) (g4:St i s'.heap) (g5:compTurns el cond (us.drop i) acc' Hc Q) (g6:fz P0 cx A au nm D H0 s0 Hc ρc acc' s')
  (g7:∀v,ρc.set t (some v)=ρ0.set t (some v)) (g8:ci Hc I) (g9:∀a,u=.ref a->ci Hc a/\∃o,s'.heap.get? a=some o) (g10:bQ h0 s'.heap):Gl el cond Q P0 cx A au nm D H0 s0 us acc St t ρ0 I u h0 n s'
section
variable {cx:Cx}
theorem fz.eval {acc:List V} (k:fz P0 cx A au nm D H0 s0 H ρ acc s) (I':cb cx H' s'.heap) (x:bf fe H s.heap H' s'.heap) (m:dS s s'):
  fz P0 cx A au nm D H0 s0 H' ρ acc s':=by
 refine aL k.acc λ aB w1_ hr=>(bw w1_ λ n hp=>?_)
 exact ⟨k.fm.step x,k.stk.step x,I',⟨aB,⟨n,x.kp _ _ hp (.inl ⟨_,_,rfl⟩) k.fD id⟩,hr.mono x.imm _⟩,x.free hp k.fD,k.step.absorb x (λ Z z=>z.elim),k.same.trans m⟩
end
namespace jo
def S_ (cx A R s0 H0 P0 px fJ x ifs au nm D I h0 u us St t ρ0 s acc el cond Q):=∀{gens:List Bm} {scope:gA} {pos:Bx} {depth:Nat} {iter:Expr} {fp:List aI} {P:Nat->av->Prop} {H:MH} (he:compTurn (.ListComp fJ gens scope pos) depth (.ref I) (.ref D) au=turnOf (.ListComp fJ gens scope pos) depth (.Name x px) iter ifs fJ (.ref I) (.ref D) au) (J:yN cx A h0 u us I fp P St) (hst:St 0 s.heap) (hx:au.kindOf x=some .local) (hnm:nm[t]?=some x) (hz:us.length+acc.length<=bG) (nD:P0 D\/s0.heap.get? D=none) (nI:s0.heap.get? I=none) (nC:P0 au.locals\/s0.heap.get? au.locals=none) (hb:cx.base.objs.size<=D) (hbI:cx.base.objs.size<=I) (hDI:D≠I) (hDC:D≠au.locals) (k0:fz P0 cx A au nm D H0 s0 H ρ0 acc s) (fI:ci H I) (fu:∀a,u=.ref a->ci H a/\a≠D/\a≠au.locals/\a≠I/\∃o,s.heap.get? a=some o) (kI:bQ h0 s.heap) (htst:∀v s' H' R,Fm cx au nm H' (ρ0.set t (some v)) s'.heap->iF cx A H' s'.heap->cb cx H' s'.heap->cond v H' R->
   aE (ay cx.prog cx.w) A (forIn ifs true λ c r=>if r=true then do let ok<-isTrue c au (eval c au);pure (bX ok) else pure (bX r)) (iU cx H' s' R) (cj cx fe H' s' j9) s') (helt:∀v s' H' R,Fm cx au nm H' (ρ0.set t (some v)) s'.heap->iF cx A H' s'.heap->cb cx H' s'.heap->el v H' R->aE (ay cx.prog cx.w) A (eval fJ au) (bO cx H' s' R) (cj cx fe H' s' j9) s') (q:compTurns el cond us acc H Q) (hR:∀s' H' acc' ρ',fz P0 cx A au nm D H0 s0 H' ρ' acc' s'->(∀v,ρ'.set t (some v)=ρ0.set t (some v))->acc'.length<=acc.length+us.length->Q acc' H'->R (.ok .next) s'),eT (ay cx.prog cx.w) A (.compLoop (.ListComp fJ gens scope pos) depth (.ref I) (.ref D) au) R s
def U_:=UV λ cx A R=>UV λ s0 H0 P0=>UV λ px fJ x=>UV λ ifs au nm=>UV λ D I h0=>UV λ u us St=>UV λ t ρ0 s=>UV λ acc el cond=>S_ cx A R s0 H0 P0 px fJ x ifs au nm D I h0 u us St t ρ0 s acc el cond
def t_:=dr (by have:=qe;have:=pH;have:=tJ;infer_instance) U_
def cx:=t_.1
def A:=t_.2.1
def R:=t_.2.2.1
def s0:=t_.2.2.2.1
def H0:=t_.2.2.2.2.1
def P0:=t_.2.2.2.2.2.1
def s1_:=t_.2.2.2.2.2.2
def px:=s1_.1
def fJ:=s1_.2.1
def x:=s1_.2.2.1
def ifs:=s1_.2.2.2.1
def au:=s1_.2.2.2.2.1
def nm:=s1_.2.2.2.2.2.1
def s2_:=s1_.2.2.2.2.2.2
def D:=s2_.1
def I:=s2_.2.1
def h0:=s2_.2.2.1
def u:=s2_.2.2.2.1
def us:=s2_.2.2.2.2.1
def St:=s2_.2.2.2.2.2.1
def s3_:=s2_.2.2.2.2.2.2
def t:=s3_.1
def ρ0:=s3_.2.1
def s:=s3_.2.2.1
def acc:=s3_.2.2.2.1
def el:=s3_.2.2.2.2.1
def cond:=s3_.2.2.2.2.2.1
def s4_:=s3_.2.2.2.2.2.2
def Q:=s4_
theorem P_:S_ cx A R s0 H0 P0 px fJ x ifs au nm D I h0 u us St t ρ0 s acc el cond Q:=by
 intro gens scope pos depth iter fp P H he J hst hx hnm hz nD nI nC hb hbI hDI hDC k0 fI fu kI htst helt q hR
 refine lf he (Gl el cond Q P0 cx A au nm D H0 s0 us acc St t ρ0 I u h0) ?_ (us.length+1) ⟨0,acc,H,ρ0,rfl,cU _,bW _,hst,q,k0,λ Z=>rfl,fI,λ a e=>⟨(fu a e).1,(fu a e).2.2.2.2⟩,kI⟩ (λ v=>by rfl)
 rintro n s' ⟨i,acc',Hc,ρc,rfl,hi,hlen,hst',q',k,hρ,fI',fu',kI'⟩
 refine fy (J.kpI _ _ hst') λ oI hoI kpI niI Z=>?_
 by_cases hlt:i<us.length
 ·refine J.W.item i _ _ _ hlt hst' λ v h1 tk1 hP st1 k1=>?_
  have k1':∀b o,b≠I->s'.heap.get? b=some o->h1.get? b=some o:=λ b o n e=>k1 b o (by simpa using n) e
  refine fy (J.kpI _ _ st1) λ oI1 hoI1 kpI1 niI1 Z=>?_
  have S1:bf (·=I) Hc s'.heap Hc h1:=bf.only hoI niI kpI.no_dict.1 hoI1 rfl k1'
  have I1:cb cx Hc h1:=k.inv.at_free fI' hbI hoI niI k1'
  have F1:Fm cx au nm Hc ρc h1:=k.fm.but hoI kpI niI k1'
  refine f7 F1.slots λ m Z hn1 Z=>?_
  obtain ⟨u1,hu1⟩:∃u1,us[i]?=some u1:=⟨_,an hlt⟩
  have hdrop:us.drop i=u1::us.drop (i+1):=by
   refine af (cC hlt) ?_
   rw [an hlt] at hu1;(have hu1:=ac hu1;subst hu1);rfl
  rw [hdrop] at q'
  refine lP (jv hx hn1 (λ h2 hn2 hs2=>?_) (by refine af F1.kind ?_;rfl))
  have S2:bf (·=au.locals) Hc h1 Hc h2:=bf.store hn1 hn2 hs2 rfl
  have I2:cb cx Hc h2:=I1.store hn1 hs2 F1.free F1.aboveL
  have r1:VRel cx h2 u1 v:=J.val i v u1 h2 hP hu1 ((λ a o e i=>S2.imm a o (S1.imm a o (kI' a o e i) i) i))
  have F2:Fm cx au nm Hc (ρ0.set t (some u1)) h2:=by refine af (iP (hρ _)) ?_;exact F1.store hnm hx hn1 hn2 hs2 r1
  have hIL:I≠au.locals:=λ z=>by
   refine iV hn1 λ ob es ep e d Z=>?_
   rw [<-z,hoI1] at e;(have e:=ac e;subst e)
   exact kpI1.no_dict.1 _ _ d
  have hst2:St (i+1) h2:=J.keep st1 S2 I1.base I2.base fI' (λ a e=>(fu' a e).1) hIL λ a e=>(fu a e).2.2.1
  have k2:fz P0 cx A au nm D H0 s0 Hc (ρ0.set t (some u1)) acc' {s' with heap:=h2,toks:=tk1+1}:=by
   refine aL k.acc λ aB w1_ hr=>(bw w1_ λ nn hp=>?_)
   refine ⟨F2,(k.stk.step S1).step S2,I2,⟨aB,⟨nn,S2.kp _ _ (S1.kp _ _ hp (.inl ⟨_,_,rfl⟩) k.fD hDI) (.inl ⟨_,_,rfl⟩) k.fD hDC⟩,(hr.mono S1.imm _).mono S2.imm _⟩,k.fD,?_,k.same.trans ⟨rfl,rfl,rfl⟩⟩
   exact (k.step.chg nI k1').absorb S2 λ b z=>z▸nC
  refine aq (htst u1 _ Hc _ F2 k2.stk I2 q') (λ ok s3 h3=>?_) λ e s3 h3=>h3.no.elim
  obtain ⟨H3,q3,I3,S3,M3⟩:=h3
  have k3:=k2.eval I3 S3 M3
  have hst3:St (i+1) s3.heap:=J.keep hst2 S3 I2.base I3.base fI' (λ a e=>(fu' a e).1) id λ Z Z=>id
  have fI3:ci H3 I:=S3.free (S2.kp I oI1 hoI1 kpI1 fI' hIL) fI'
  have kI3:bQ h0 s3.heap:=λ a o e i=>S3.imm a o (S2.imm a o (S1.imm a o (kI' a o e i) i) i) i
  have fu2:∀a,u=.ref a->∃o,h2.get? a=some o:=λ a e=>by
   exact bw ((fu' a e).2) λ o ho=>(bw (S1.there a o ho) λ o1 ho1=>(S2.there a o1 ho1))
  have fu3:∀a,u=.ref a->ci H3 a/\∃o,s3.heap.get? a=some o:=λ a e=>⟨S3.free (fu2 a e).choose_spec (fu' a e).1,S3.there a _ (fu2 a e).choose_spec⟩
  cases ok with
  |false=>
   simp only [ch,if_false]
   exact ⟨us.length+1 -(i+1),gB (iM hlt) (dI i),i+1,acc',H3,ρ0.set t (some u1),rfl,hlt,cL ‹_›,hst3,q3,k3,λ v=>by (exact af (jM _) rfl),fI3,fu3,kI3⟩
  |true=>
   simp only [if_true]
   refine aq (helt u1 _ H3 _ k3.fm k3.stk I3 q3) (λ y s4 h4=>?_) λ e s3 h3=>h3.no.elim
   obtain ⟨w,H4,q4,r4,I4,S4,M4⟩:=h4
   have k4:=k3.eval I4 S4 M4
   have hst4:St (i+1) s4.heap:=J.keep hst3 S4 I3.base I4.base fI3 (λ a e=>(fu3 a e).1) id λ Z Z=>id
   refine aL k4.acc λ aB w1_ hr=>(bw w1_ λ nn hp=>?_)
   have hsz:aB.size=acc'.length:=by have:=hr.len;simpa using this
   refine By (hsz:=by lia) ⟨nn,hp⟩ λ h5 hl5 hs5=>(bw hl5 λ n5 hp5=>?_)
   have hkb:∀b o,b≠D->s4.heap.get? b=some o->h5.get? b=some o:=λ b o n e=>(hs5.2 b n).trans e
   have niD:¬tK ({cls:=.type "list",data:=.seq aB nn}:xQ):=by
    rintro (⟨_,_,_,z⟩|⟨_,z,_⟩)
    ·exact absurd (show cP "list"=cP "tuple" from z) (by decide)
    ·cases z
   have S5:bf (·=D) H4 s4.heap H4 h5:=bf.only hp niD (λ Z Z z=>by cases z) hp5 rfl hkb
   have I5:cb cx H4 h5:=I4.at_free k4.fD hb hp niD hkb
   have fI4:ci H4 I:=by
    exact aL (J.kpI _ _ hst3) λ o ho Z=>(S4.free ho fI3)
   have fu4:∀a,u=.ref a->ci H4 a/\∃o,s4.heap.get? a=some o:=λ a e=>⟨S4.free (fu3 a e).2.choose_spec (fu3 a e).1,S4.there a _ (fu3 a e).2.choose_spec⟩
   refine ⟨us.length+1 -(i+1),gB (iM hlt) (dI i),i+1,acc'++[w],H4,ρ0.set t (some u1),rfl,hlt,by (refine af az (af aV ?_));exact cw ‹_›,?_,q4,?_,λ v=>by (exact af (jM _) rfl),fI4,λ a e=>⟨(fu4 a e).1,S5.there a _ (fu4 a e).2.choose_spec⟩,λ a o e i=>S5.imm a o (S4.imm a o (kI3 a o e i) i) i⟩
   ·exact J.keep hst4 S5 I4.base I5.base fI4 (λ a e=>(fu4 a e).1) (fT hDI) λ a e=>(fu a e).2.1
   ·refine ⟨k4.fm.but hp (.inl ⟨_,_,rfl⟩) niD hkb,k4.stk.step S5,I5,⟨_,⟨n5,hp5⟩,?_⟩,k4.fD,k4.step.absorb S5 (λ b z=>z▸nD),k4.same.trans ⟨rfl,rfl,rfl⟩⟩
    refine af Bz ?_
    exact VRels.app (hr.mono S5.imm _) (.one (VRel.mono S5.imm _ r4))
 ·have hin:i=us.length:=jJ ‹_› (dw.mp ‹_›)
  subst hin
  refine J.W.done _ _ _ hst' λ h1 tk1 k1=>?_
  have k1':∀b o,b≠I->s'.heap.get? b=some o->h1.get? b=some o:=λ b o n e=>k1 b o (by simpa using n) e
  rw [i5] at q'
  refine aL k.acc λ aB w1_ hr=>(bw w1_ λ nn hp=>?_)
  have ki:bQ s'.heap h1:=λ b ob e i=>k1' b ob (λ z=>by rw [z,hoI] at e;cases e;exact niI i) e
  exact hR {s' with heap:=h1,toks:=tk1} Hc acc' ρc ⟨k.fm.but hoI kpI niI k1',k.stk.but hoI kpI k1',k.inv.at_free fI' hbI hoI niI k1',⟨aB,⟨nn,k1' _ _ hDI hp⟩,hr.mono ki _⟩,k.fD,k.step.chg nI k1',k.same.trans ⟨rfl,rfl,rfl⟩⟩ hρ hlen q'
theorem A_:∀p,U_ p:=bC P_
end jo
section
variable {cx:Cx}
theorem jo {cx A R s0 H0 P0 px fJ x ifs au nm D I h0 u us St t ρ0 s acc Q} (el cond):jo.S_ cx A R s0 H0 P0 px fJ x ifs au nm D I h0 u us St t ρ0 s acc el cond Q:=jo.A_ (cx,A,R,s0,H0,P0,px,fJ,x,ifs,au,nm,D,I,h0,u,us,St,t,ρ0,s,acc,el,cond,Q)
end
noncomputable def clFrom (cells:List (aw×aI)):List (aw×je)->List (aw×aI)->List (aw×aI)
 |[],cs=>cs
 |(n,k)::r,cs=>if k==.free then clFrom cells r ((n,(cells.lookup n).getD 0)::cs) else clFrom cells r cs
theorem mK (h:∀y∈scope.names,y.2=.free->∃c,au.cells.lookup y.1=some c):closureFor scope au=pure (clFrom au.cells scope.names []):=by
 have go:∀(l:List (aw×je)) (cs:List (aw×aI)),(∀y∈l,y.2=.free->∃c,au.cells.lookup y.1=some c)->
   (forIn (m:=uX) l cs λ x r=>match x with
    |(name,kind)=>if (kind==eK)=true then cellOf au name>>=λ a=>pure (bX ((name,a)::r)) else pure (bX r))=pure (clFrom au.cells l cs):=by
  intro l
  induction l with
  |nil=>intro cs _;rfl
  |cons y r ih=>
   intro cs hl
   obtain ⟨n,k⟩:=y
   rw [su]
   by_cases q:(k==eK)=true
   ·refine bw (hl (n,k) (.head _) (by simpa using q)) λ c hc=>?_
    have e:cellOf au n=pure c:=by unfold cellOf;(exact af hc rfl)
    simp only [q,if_true,e,clFrom,hc,BA]
    exact ih _ λ y hy=>hl y (.tail _ hy)
   ·simp only [q,if_false,clFrom]
    exact ih _ λ y hy=>hl y (.tail _ hy)
 unfold closureFor
 have:=go scope.names [] h
 dsimp only at this⊢
 refine af this ?_
 rfl
theorem uL:∀{l:List (aw×je)} {cs:List (aw×aI)} {n:aw} {c:aI},(∀y∈l,y.2=.free->∃c,cells.lookup y.1=some c)->(∀n c,cs.lookup n=some c->cells.lookup n=some c)->(clFrom cells l cs).lookup n=some c->cells.lookup n=some c
 |[],cs,n,c,_,h,e=>h n c e
 |(m,k)::r,cs,n,c,hl,h,e=>by
  unfold clFrom at e
  by_cases q:(k==eK)=true
  ·rw [if_pos q] at e
   refine bw (hl (m,k) (.head _) (by simpa using q)) λ c1 hc=>(uL (λ y hy=>hl y (.tail _ hy)) (λ n' c' e'=>?_) e)
   rw [aG] at e'
   by_cases z:n'=m
   ·subst z;simp only [beq_self_eq_true,hc,BA] at e';(have e':=ac e';subst e');exact hc
   ·rw [show (n'==m)=false from beq_eq_false_iff_ne.mpr z] at e';exact h _ _ e'
  ·rw [if_neg q] at e
   exact uL (λ y hy=>hl y (.tail _ hy)) h e
theorem uq:∀{l:List (aw×je)} {cs:List (aw×aI)} {n:aw},(n,eK)∈l\/(∃c,cs.lookup n=some c)->∃c,(clFrom cells l cs).lookup n=some c
 |[],cs,n,h=>h.elim (λ h=>by cases h) id
 |(m,k)::r,cs,n,h=>by
  unfold clFrom
  by_cases q:(k==eK)=true
  ·refine af (if_pos q) ?_
   refine uq ?_
   by_cases z:n=m
   ·exact .inr ⟨_,by (exact af aG (af z (af (beq_self_eq_true _) rfl)))⟩
   ·rcases h with h|⟨c,h⟩
    ·rcases aZ.mp h with h|h
     ·exact absurd (congrArg Prod.fst h) z
     ·exact .inl h
    ·exact .inr ⟨c,by (refine af aG (af (show (n==m)=false from beq_eq_false_iff_ne.mpr z) ?_));exact h⟩
  ·refine af (if_neg q) ?_
   refine uq ?_
   rcases h with h|h
   ·rcases aZ.mp h with h|h
    ·cases h;exact absurd rfl q
    ·exact .inl h
   ·exact .inr h
theorem lookup_mem {α β:Type} [BEq α] [LawfulBEq α]:∀{l:List (α×β)} {x:α} {y:β},l.lookup x=some y->(x,y)∈l
 |[],_,_,h=>by cases h
 |(a,b)::r,x,y,h=>by
  rw [aG] at h
  by_cases z:x=a
  ·subst z;rw [beq_self_eq_true] at h;(have h:=ac h;subst h);exact .head _
  ·rw [show (x==a)=false from beq_eq_false_iff_ne.mpr z] at h;exact .tail _ (lookup_mem h)
theorem vn {au:i4} (hk:au.scope.kind=.function):∀{names:List (aw×je)} {x:aw},names.lookup x=some .free->au.kindOf x=some .cell->
  (names.map λ (n,k)=>if (k==eK&&au.scope.kind==.function&&au.kindOf n==some .cell) then (n,sv) else (n,k)).lookup x=some .cell
 |[],_,h,_=>by simp at h
 |(n,k)::r,x,h,hc=>by
  have ih:=@vn au hk r x
  show ia x ((if (k==eK&&au.scope.kind==.function&&au.kindOf n==some .cell)=true then (n,sv) else (n,k))::_)=_
  by_cases z:x=n
  ·subst z
   rw [aG,beq_self_eq_true] at h
   (have h:=ac h;subst h)
   rw [if_pos (by (refine af hk (af hc ?_));rfl),aG,beq_self_eq_true]
  ·rw [aG,show (x==n)=false from beq_eq_false_iff_ne.mpr z] at h
   split<;>(refine af aG (af (show (x==n)=false from beq_eq_false_iff_ne.mpr z) ?_))<;>exact ih h hc
theorem C6 {au:i4} {names:List (aw×je)} (hn:∀y∈names,y.2≠.cell)
  (h:(names.map λ (n,k)=>if (k==eK&&au.scope.kind==.function&&au.kindOf n==some .cell) then (n,sv) else (n,k)).lookup x=some .cell):(x,eK)∈names:=by
 refine aL (bE.mp (lookup_mem h)) λ w1_ h1 h2=>?_
 obtain ⟨n,k⟩:=w1_
 dsimp only at h2
 split at h2
 ·rename_i q
  cases h2
  simp only [bI,beq_iff_eq] at q
  exact af q.1.1.symm h1
 ·cases h2;exact absurd rfl (hn _ h1)
theorem yB {nm:List aw}:∀{fr:List Nat} {j:Nat} {y:aw},(∀i∈fr,∃y,nm[i]?=some y)->(fr.filterMap λ i=>nm[i]?)[j]?=some y->∃i,fr[j]?=some i/\nm[i]?=some y
 |[],j,y,_,h=>by simp at h
 |i::fr,j,y,hf,h=>by
  refine bw (hf i (.head _)) λ z hz=>?_
  rw [nH,hz] at h
  cases j with
  |zero=>simp at h;subst h;exact ⟨i,rfl,hz⟩
  |succ j=>
   exact aL (yB (λ i hi=>hf i (.tail _ hi)) (by simpa using h)) λ i' a b=>⟨i',by simpa using a,b⟩
theorem y5 {nm:List aw}:∀{fr:List Nat},(∀i∈fr,∃y,nm[i]?=some y)->(fr.filterMap λ i=>nm[i]?).length=fr.length
 |[],_=>rfl
 |i::fr,hf=>by
  refine bw (hf i (.head _)) λ z hz=>?_
  exact af nH (af hz (af aQ (af aQ (af (y5 λ i hi=>hf i (.tail _ hi)) rfl))))
structure kG (scope:gA) (au:i4) (nm:List aw) (own:List aw) (fr:List Nat):Prop where
 kind:scope.kind=.function
 nd:(own++fr.filterMap λ i=>nm[i]?).Nodup
 fr:∀i∈fr,∃y,nm[i]?=some y/\scope.names.lookup y=some .free/\au.kindOf y=some .cell
 own:∀y∈own,scope.names.lookup y=some .local
 cell:∀y∈scope.names,y.2≠.cell
 loc:∀y∈scope.names,y.2=.local->scope.names.lookup y.1=some .local
 free:∀y∈scope.names,y.2=.free->au.kindOf y.1=some .cell
namespace Fm.comp
def S_ (cx au nm ρ h scope own fr C):=∀{H:MH} {m0:aw->Option av} (F:Fm cx au nm H ρ h) (S:kG scope au nm own fr) (hC:h.Ns C m0) (fC:ci H C) (hb:cx.base.objs.size<=C),Fm cx (compEnvC scope (clFrom au.cells scope.names []) C au) (own++fr.filterMap λ i=>nm[i]?) H (framesOf ρ own fr) h
def U_:=UV λ cx au nm=>UV λ ρ h scope=>UU λ own=>UU λ fr=>S_ cx au nm ρ h scope own fr
def t_:=dr (by have:=tJ;infer_instance) U_
def cx:=t_.1
def au:=t_.2.1
def nm:=t_.2.2.1
def ρ:=t_.2.2.2.1
def h:=t_.2.2.2.2.1
def scope:=t_.2.2.2.2.2.1
def s1_:=t_.2.2.2.2.2.2
def own:=s1_.1
def fr:=s1_.2.1
def C:=s1_.2.2
theorem P_:S_ cx au nm ρ h scope own fr C:=by
 intro H m0 F S hC fC hb
 refine cu F.slots λ m cm a b c=>?_
 have hfr:∀i∈fr,∃y,nm[i]?=some y:=λ i hi=>let ⟨y,e,_⟩:=S.fr i hi;⟨y,e⟩
 have hcl:∀y∈scope.names,y.2=.free->∃c,au.cells.lookup y.1=some c:=λ y hy e=>F.cellsAll _ (S.free y hy e)
 have cs:∀n c,(clFrom au.cells scope.names []).lookup n=some c->au.cells.lookup n=some c:=λ n c e=>uL hcl (λ Z Z e=>by cases e) e
 have hlen:(framesOf ρ own fr).length=(own++fr.filterMap λ i=>nm[i]?).length:=by
  exact af az (af az (af (ag _) (af (ag _) (af (y5 hfr) rfl))))
 refine ⟨S.kind,F.glob,F.blt,S.nd,hlen,λ n1 c1 n2 c2 e1 e2=>F.apart n1 c1 n2 c2 (cs _ _ e1) (cs _ _ e2),hb,λ n c e=>F.aboveC n c (cs _ _ e),λ x e=>uq (.inl (C6 S.cell e)),fC,m0,cm,hC,λ n c e=>b n c (cs _ _ e),λ i x e=>?_⟩
 by_cases q:i<own.length
 ·rw [eL q] at e
  refine .inl ⟨Ff (S.own x (a6 e)),λ u hu=>?_⟩
  unfold framesOf db.at at hu
  rw [eL (by exact af (ag _) q),aF,e] at hu
  cases hu
 ·rw [fW (dw.mp q)] at e
  refine aL (yB hfr e) λ j e1 e2=>(cJ (S.fr j (a6 e1)) λ y g1 g2 g3=>?_)
  rw [e2] at g1;(have g1:=ac g1;subst g1)
  refine bw (uq (cells:=au.cells) (l:=scope.names) (cs:=[]) (n:=x) (.inl (lookup_mem g2))) λ c0 hc0=>(.inr ⟨.inl (vn F.kind g2 g3),⟨c0,hc0⟩,λ u hu=>?_⟩)
  unfold framesOf db.at at hu
  rw [fW (by refine af (ag _) ?_;exact dw.mp q),ag,aF,e1] at hu
  rcases c j x e2 with ⟨c1,_⟩|⟨_,_,c3⟩
  ·rw [c1] at g3;cases g3
  ·exact c3 u hu
theorem A_:∀p,U_ p:=bC P_
end Fm.comp
theorem Fm.comp {cx au nm ρ h scope own fr C}:Fm.comp.S_ cx au nm ρ h scope own fr C:=Fm.comp.A_ (cx,au,nm,ρ,h,scope,own,fr,C)
theorem oZ (H:MH) (u:V):MH.Sub (asideOf H u) H:=by
 unfold asideOf
 split
 ·exact yt _ _
 ·exact .refl
section
variable {cx:Cx}
theorem lh (I:cb cx H h) (hi:itemsOf H u=some us) (e:u=.ref a):ci (asideOf H u) a:=by
 subst e
 have:=gI hi
 refine ⟨MH.del_self _ _,λ b c as z=>?_⟩
 have z:(H.del a) b=_:=z
 by_cases q:b=a
 ·subst q;rw [MH.del_self] at z;exact bF z
 ·rw [MH.del_ne _ q] at z
  rw [(I.sep _ _ _ _ z).1] at this;exact bF this
theorem up (hi:itemsOf H u=some us):backOf H H' u=H'\/∃a,u=.ref a/\H a=some (.list us)/\backOf H H' u=H'.set a (.list us):=by
 unfold backOf
 split
 ·have:=gI hi
  simp only [this]
  exact .inr ⟨_,rfl,this,rfl⟩
 ·exact .inl rfl
theorem bf.back (hi:itemsOf H u=some us) (S:bf P (asideOf H u) h H' h'):bf P H h (backOf H H' u) h':=by
 have sub:∀{b},ci H b->ci (asideOf H u) b:=λ f=>(oZ H u).free f
 refine ⟨S.imm,λ a m e f p=>S.ns a m e (sub f) p,S.cell,λ a m e f=>S.nsP a m e (sub f),λ a f n=>?_,S.there,λ a o e k f p=>S.kp a o e k (sub f) p⟩
 rcases up (H':=H') hi with e|⟨b,_,hb,e⟩
 ·rw [e] at n;exact S.fresh a (sub f) n
 ·rw [e] at n
  have hab:a≠b:=λ z=>by subst z;exact ft hb f
  exact S.fresh a (sub f) λ f'=>n (lS (ik rfl) f' hab)
theorem cb.back (I:cb cx H h) (hi:itemsOf H u=some us) (S:bf P (asideOf H u) h H' h') (I':cb cx H' h') (hp:∀a,u=.ref a->¬P a):cb cx (backOf H H' u) h':=by
 rcases up (H':=H') hi with e|⟨a,rfl,ha,e⟩
 ·exact af e I'
 ·refine af e ?_
  refine f7 (I.own a _ ha) λ aB n ho hr=>?_
  have f:=lh I hi rfl
  refine I'.take (ik rfl) (S.free ho f) (I.old a (ft ha)) ⟨aB,n,S.kp a _ ho (.inl ⟨_,_,rfl⟩) f (hp a rfl),hr.mono S.imm _⟩
theorem pf (hi:itemsOf H u=some us) (f:ci H' c) (hu:u≠.ref c):ci (backOf H H' u) c:=by
 rcases up (H':=H') hi with e|⟨a,rfl,ha,e⟩
 ·exact af e f
 ·refine af e ?_;exact lS (ik rfl) f λ z=>hu (by (exact af z rfl))
end
section
variable {cx:Cx}
end
namespace jp
def S_ (cx:Cx) (A:dz) (E:av->ax->Prop) (au:i4) (nm:List aw) (H:MH) (ρ:db) (s:ax) (scope:gA) (own:List aw) (fr:List Nat) (fJ target iter:Expr) (ifs:List Expr) (rest:List Bm) (pos:Bx) (us:List V) (qf:Option (av->uX Unit)) (Q:List V->MH->Prop) (QQ):=∀{u:V} {x:av} (hA:A.handled=none) (F:Fm cx au nm H ρ s.heap) (S:kG scope au nm own fr) (st:iF cx A H s.heap) (I:cb cx H s.heap) (ru:VRel cx s.heap u x) (hi:itemsOf H u=some us) (loop:∀cenv D It fp P St s' (R:HP->ax->Prop),cenv.scope=qb scope au->yN cx A s.heap u us It fp P St->St 0 s'.heap->s.heap.get? D=none->s.heap.get? It=none->s.heap.get? cenv.locals=none->cx.base.objs.size<=D->cx.base.objs.size<=It->D≠It->D≠cenv.locals->
   fz fe cx A cenv (own++fr.filterMap λ i=>nm[i]?) D (asideOf H u) s (asideOf H u) (framesOf ρ own fr) [] s'->ci (asideOf H u) It->(∀a,u=.ref a->ci (asideOf H u) a/\a≠D/\a≠cenv.locals/\a≠It/\∃o,s'.heap.get? a=some o)->bQ s.heap s'.heap->
   (∀s'' H' acc' ρ',fz fe cx A cenv (own++fr.filterMap λ i=>nm[i]?) D (asideOf H u) s H' ρ' acc' s''->Q acc' H'->R (.ok .next) s'')->
   eT (ay cx.prog cx.w) A (.compLoop (.ListComp fJ (⟨target,iter,ifs,0⟩::rest) scope pos) 0 (.ref It) (.ref D) cenv) R s') (fh:∀D C s' H' acc' m,Q acc' H'->s.heap.get? C=none->cx.base.objs.size<=C->s'.heap.Ns C m->D≠C->ci ((backOf H H' u).set D (.list acc')) C->backOf H H' u D=none->
   cb cx ((backOf H H' u).set D (.list acc')) s'.heap->bf fe H s.heap ((backOf H H' u).set D (.list acc')) s'.heap->dS s s'->Fh (ay cx.prog cx.w) A E qf QQ (.ref D) C (.ok .next) s'),aE (ay cx.prog cx.w) A (xX x) (λ it s₂=>aE (ay cx.prog cx.w) A (DL []) (λ acc s₃=>aE (ay cx.prog cx.w) A (newFunctionEnv scope au.globals (clFrom au.cells scope.names []) [] au.qual none .none (some au)) (λ cenv s₄=>
   eT (ay cx.prog cx.w) A (.compStart (.ListComp fJ (⟨target,iter,ifs,0⟩::rest) scope pos) 0 it acc {cenv with scope:=qb scope au}) (Fh (ay cx.prog cx.w) A E qf QQ acc cenv.locals) s₄) E s₃) E s₂) E s
def U_:=UV λ cx A E=>UV λ au nm H=>UV λ ρ s scope=>UV λ own fr fJ=>UV λ target iter ifs=>UV λ rest pos us=>UU λ qf=>UU λ Q=>S_ cx A E au nm H ρ s scope own fr fJ target iter ifs rest pos us qf Q
def t_:=dr (by have:=qe;have:=pH;have:=tJ;infer_instance) U_
def cx:=t_.1
def A:=t_.2.1
def E:=t_.2.2.1
def au:=t_.2.2.2.1
def nm:=t_.2.2.2.2.1
def H:=t_.2.2.2.2.2.1
def s1_:=t_.2.2.2.2.2.2
def ρ:=s1_.1
def s:=s1_.2.1
def scope:=s1_.2.2.1
def own:=s1_.2.2.2.1
def fr:=s1_.2.2.2.2.1
def fJ:=s1_.2.2.2.2.2.1
def s2_:=s1_.2.2.2.2.2.2
def target:=s2_.1
def iter:=s2_.2.1
def ifs:=s2_.2.2.1
def rest:=s2_.2.2.2.1
def pos:=s2_.2.2.2.2.1
def us:=s2_.2.2.2.2.2.1
def s3_:=s2_.2.2.2.2.2.2
def qf:=s3_.1
def Q:=s3_.2.1
def QQ:=s3_.2.2
theorem P_:S_ cx A E au nm H ρ s scope own fr fJ target iter ifs rest pos us qf Q QQ:=by
 intro u x hA F S st I ru hi loop fh
 refine ql hA I ru hi λ fp P St h1 J k1 z1 st1=>(cY (wpAny_newFunctionEnv S.cell (by intro y hy;simp at hy) (λ h2 hn2 hs2=>?_) S.kind))
 dsimp only at hn2 hs2⊢
 generalize hH2:h1.push {cls:=.type "list",dict:=none,data:=.seq ([]:List av).toArray}=g2 at hn2 hs2⊢
 have zC:g2.objs.size=h1.objs.size+1:=by (exact af hH2.symm (af (eF _ _) rfl))
 have hb:cx.base.objs.size<=s.heap.objs.size:=F.lok.le
 have nI:s.heap.get? s.heap.objs.size=none:=dO (bW _)
 have nD:s.heap.get? h1.objs.size=none:=dO (by lia)
 have nC:s.heap.get? g2.objs.size=none:=dO (by lia)
 have w1:(h1.objs.size:Nat)≠g2.objs.size:=by lia
 have w2:(h1.objs.size:Nat)≠s.heap.objs.size:=by lia
 have w3:cx.base.objs.size<=(h1.objs.size:Nat):=by lia
 have w4:cx.base.objs.size<=(g2.objs.size:Nat):=by lia
 have w5:∀b:Nat,b<s.heap.objs.size->b≠h1.objs.size/\b≠g2.objs.size/\b≠s.heap.objs.size:=λ b e=>by lia
 have below:∀(b:Nat) o,s.heap.get? b=some o->b<s.heap.objs.size:=λ b o e=>bz e
 have k12:∀(b:Nat) o,b≠g2.objs.size->h1.get? b=some o->h2.get? b=some o:=λ b o n e=>hs2.extBut b o n (ak _ (hH2▸ak _ e))
 have k2:∀(b:Nat) o,s.heap.get? b=some o->h2.get? b=some o:=λ b o e=>k12 b o (by have:=below b o e;lia) (k1 b o e)
 have hacc:h2.PlainList h1.objs.size #[]:=⟨_,hs2.extBut _ _ w1 (ak _ (hH2▸bu _ rfl))⟩
 have sub:=oZ H u
 have I2:cb cx (asideOf H u) h2:=(I.keeps k2).forget sub
 have S2:bf fe (asideOf H u) s.heap (asideOf H u) h2:=bf.keeps k2
 have st2:St 0 h2:=J.W.frame _ _ _ st1 λ b hb o e=>k12 b o (λ z=>by
  refine aL (J.fpk 0 h1 st1 b hb) λ o' e' Z=>?_
  have e2:=bz e'
  rw [z] at e2
  exact absurd e2 (dw.mpr (by lia))) e
 have F2:Fm cx au nm (asideOf H u) ρ h2:=F.step ((bf.keeps k2).forget sub)
 have fC:ci (asideOf H u) g2.objs.size:=sub.free (I.free nC)
 have FC:=F2.comp S hn2 fC w4
 have L0:fz fe cx A (compEnvC scope (clFrom au.cells scope.names []) g2.objs.size au) (own++fr.filterMap λ i=>nm[i]?) h1.objs.size (asideOf H u) s (asideOf H u) (framesOf ρ own fr) [] {s with heap:=h2,toks:=s.toks+([]:List (aw×av)).length}:=
  ⟨FC,st.step ((bf.keeps (P:=fe) k2).forget sub),I2,⟨#[],hacc,.nil⟩,sub.free (I.free nD),S2,rfl,rfl,rfl⟩
 have run:∀s',s'=({s with heap:=h2,toks:=s.toks+([]:List (aw×av)).length}:ax)->eT (ay cx.prog cx.w) A (.compLoop (.ListComp fJ (⟨target,iter,ifs,0⟩::rest) scope pos) 0 (.ref s.heap.objs.size) (.ref h1.objs.size) (compEnvC scope (clFrom au.cells scope.names []) g2.objs.size au))
   (Fh (ay cx.prog cx.w) A E qf QQ (.ref h1.objs.size) g2.objs.size) s':=by
  rintro s' rfl
  refine loop _ _ _ fp P St _ _ rfl J st2 nD nI nC w3 hb w2 w1 L0 (sub.free (I.free nI)) (λ a e=>?_) (bQ.of_keeps k2) λ s'' H' acc' ρ' L q=>?_
  ·subst e
   refine f7 (I.own a _ (gI hi)) λ aB n ho Z=>?_
   have:=w5 _ (below _ _ ho)
   exact ⟨lh I hi rfl,this.1,this.2.1,this.2.2,_,k2 _ _ ho⟩
  ·refine f7 L.fm.slots λ m cm hn Z=>(aL L.acc λ aB w1_ hr=>(bw w1_ λ n ho=>?_))
   have B:=cb.back I hi L.step L.inv λ Z Z=>id
   have SB:=bf.back hi L.step
   have huD:u≠.ref h1.objs.size:=λ e=>by
    subst e
    exact f7 (I.own _ _ (gI hi)) λ aB n ho Z=>((w5 _ (below _ _ ho)).1 rfl)
   have huC:u≠.ref g2.objs.size:=λ e=>by
    subst e
    exact f7 (I.own _ _ (gI hi)) λ aB n ho Z=>((w5 _ (below _ _ ho)).2.1 rfl)
   have fD:=pf hi L.fD huD
   have fC':ci H' g2.objs.size:=L.fm.free
   refine fh _ _ _ H' acc' m q nC w4 hn w1 (lS (ik rfl) (pf hi fC' huC) w1.symm) fD.1 (B.take (ik rfl) fD w3 ⟨aB,n,ho,hr⟩) (SB.take (ik rfl) nD) L.same
 exact codeAny_compStart_list (run _ rfl) (J.W.self 0 _ _ _ st2 (run _ rfl))
theorem A_:∀p,U_ p:=bC P_
end jp
section
variable {cx:Cx}
theorem jp {cx A E au nm H ρ s scope own fr fJ target iter ifs rest pos us qf Q QQ}:jp.S_ cx A E au nm H ρ s scope own fr fJ target iter ifs rest pos us qf Q QQ:=jp.A_ (cx,A,E,au,nm,H,ρ,s,scope,own,fr,fJ,target,iter,ifs,rest,pos,us,qf,Q,QQ)
end
section
variable {prog:cR}
theorem xi (hg:(g'.is_async !=0)=false)
  (h0:eT (ay prog w) A (.compLoop (.ListComp fJ [g,g'] scope pos) 1 it acc au) R s)
  (h:aE (ay prog w) A (xX it) (λ it' s'=>eT (ay prog w) A (.compLoop (.ListComp fJ [g,g'] scope pos) 1 it' acc au) R s')
   (kT (ay prog w) A au λ x s'=>R (.error x) s') s):
  eT (ay prog w) A (.compStart (.ListComp fJ [g,g'] scope pos) 1 it acc au) R s:=by
 refine codeAny_of_tree ?_
 refine wpAny_notedAt ?_
 unfold compStart
 refine af (show ((clausesOf (.ListComp fJ [g,g'] scope pos))[1]?).elim false (·.is_async !=0)=false from hg) ?_
 refine ae (wpAny_askSetting (wpAny_ite ?_))
 split
 ·first
   |exact ae (ah (ah (aj rfl h0)))
   |exact ah (aj rfl h0)
 ·first
   |exact ae (jH (ae (cq (ae (aq h (λ it' s' h'=>ah (aj rfl h')) λ Z Z x=>x)))))
   |(refine ae (jH ?_);show aE _ _ (nG g'.iter.pos>>=_) _ _ s;exact ae (cq (ae (aq h (λ it' s' h'=>ah (aj rfl h')) λ Z Z x=>x))))
end
namespace jU
def S_ (prog:cR) (w:f8) (A:dz) (R:HP->ax->Prop) (scope:gA) (pos px p2:Bx) (fJ iter dX d:Expr) (x x2:aw) (it acc:av) (au:i4) (I:Nat->ax->Prop):=∀(s:ax) (hns:∀v,jf dX au v=pure v) (turn:∀n s,I n s->aE (ay prog w) A (uR it) (λ r s₁=>match r with
   |none=>R (.ok .next) s₁
   |some v=>aE (ay prog w) A (assign (.Name x px) au v) (λ Z s₂=>
     aE (ay prog w) A (isTrue d au (eval d au)) (λ ok s₃=>
      if ok=true then aE (ay prog w) A (eval dX au) (λ y s₄=>aE (ay prog w) A (xX y) (λ it2 s₅=>
       eT (ay prog w) A (.compStart (.ListComp fJ [⟨.Name x px,iter,[d],0⟩,⟨.Name x2 p2,dX,[],0⟩] scope pos) 1 it2 acc au) (λ r s₆=>match r with
        |.ok _=>∃m,m<n/\I m s₆
        |.error _=>False) s₅) (λ Z Z=>False) s₄) (λ Z Z=>False) s₃
      else ∃m,m<n/\I m s₃) (λ Z Z=>False) s₂) (λ Z Z=>False) s₁) (λ Z Z=>False) s) (n:Nat) (h:I n s),eT (ay prog w) A (.compLoop (.ListComp fJ [⟨.Name x px,iter,[d],0⟩,⟨.Name x2 p2,dX,[],0⟩] scope pos) 0 it acc au) R s
def U_:=UV λ prog w A=>UV λ R scope pos=>UV λ px p2 fJ=>UV λ iter dX d=>UV λ x x2 it=>UU λ acc=>UU λ au=>S_ prog w A R scope pos px p2 fJ iter dX d x x2 it acc au
def t_:=dr (by have:=qe;have:=pH;have:=vt;infer_instance) U_
def prog:=t_.1
def w:=t_.2.1
def A:=t_.2.2.1
def R:=t_.2.2.2.1
def scope:=t_.2.2.2.2.1
def pos:=t_.2.2.2.2.2.1
def s1_:=t_.2.2.2.2.2.2
def px:=s1_.1
def p2:=s1_.2.1
def fJ:=s1_.2.2.1
def iter:=s1_.2.2.2.1
def dX:=s1_.2.2.2.2.1
def d:=s1_.2.2.2.2.2.1
def s2_:=s1_.2.2.2.2.2.2
def x:=s2_.1
def x2:=s2_.2.1
def it:=s2_.2.2.1
def acc:=s2_.2.2.2.1
def au:=s2_.2.2.2.2.1
def I:=s2_.2.2.2.2.2
theorem P_:S_ prog w A R scope pos px p2 fJ iter dX d x x2 it acc au I:=by
 intro s hns turn n h
 refine codeAny_loop rfl I (λ n s hI=>?_) n h
 refine wpAny_noted ?_
 show aE _ A (do
  nG iter.pos
  match<-uR it with
  |none=>pure (.done .next)
  |some v=>
   iz (.Name x px) it v
   assign (.Name x px) au v
   let mut ok:=true
   for c in [d] do
    if ok then ok<-isTrue c au (eval c au)
   if ok then
    let y<-eval dX au
    nG dX.pos
    let y<-jf dX au y
    let _<-runOwn (.compStart (.ListComp fJ [⟨.Name x px,iter,[d],0⟩,⟨.Name x2 p2,dX,[],0⟩] scope pos) 1 (<-Iw [y] (xX y)) acc au) au
   again (.compLoop (.ListComp fJ [⟨.Name x px,iter,[d],0⟩,⟨.Name x2 p2,dX,[],0⟩] scope pos) 0 it acc au)) _ _ s
 refine ae (cq (ae (aq (turn n s hI) (λ r s₁ h₁=>?_) λ Z Z h'=>h'.elim)))
 cases r with
 |none=>exact ah h₁
 |some v=>
  refine ae (lO (show iz (.Name x px) it v=pure () by rfl) ?_)
  refine ae (aq h₁ (λ Z s₂ h₂=>ae (aq (wpAny_tests_one h₂) (λ ok s₃ h₃=>?_) λ Z Z h'=>h'.elim)) λ Z Z h'=>h'.elim)
  cases ok with
  |false=>exact ah ⟨rfl,h₃⟩
  |true=>
   refine ae (aq h₃ (λ y s₄ h₄=>ae (cq (ae (lO (hns y) (ae (bA (aq h₄ (λ it2 s₅ h₅=>?_) λ Z Z h'=>h'.elim))))))) λ Z Z h'=>h'.elim)
   refine ae (wpAny_runOwn (h:=none) (sX h₅ λ r s₆ h₆=>?_))
   rcases r with e|f
   ·exact h₆.elim
   ·exact ah ⟨rfl,h₆⟩
theorem A_:∀p,U_ p:=bC P_
end jU
section
variable {prog:cR}
theorem jU (hns:∀v,jf dX au v=pure v) (I:Nat->ax->Prop)
  (turn:∀n s,I n s->aE (ay prog w) A (uR it) (λ r s₁=>match r with
   |none=>R (.ok .next) s₁
   |some v=>aE (ay prog w) A (assign (.Name x px) au v) (λ Z s₂=>
     aE (ay prog w) A (isTrue d au (eval d au)) (λ ok s₃=>
      if ok=true then aE (ay prog w) A (eval dX au) (λ y s₄=>aE (ay prog w) A (xX y) (λ it2 s₅=>
       eT (ay prog w) A (.compStart (.ListComp fJ [⟨.Name x px,iter,[d],0⟩,⟨.Name x2 p2,dX,[],0⟩] scope pos) 1 it2 acc au) (λ r s₆=>match r with
        |.ok _=>∃m,m<n/\I m s₆
        |.error _=>False) s₅) (λ Z Z=>False) s₄) (λ Z Z=>False) s₃
      else ∃m,m<n/\I m s₃) (λ Z Z=>False) s₂) (λ Z Z=>False) s₁) (λ Z Z=>False) s)
  (n:Nat) (h:I n s):
  eT (ay prog w) A (.compLoop (.ListComp fJ [⟨.Name x px,iter,[d],0⟩,⟨.Name x2 p2,dX,[],0⟩] scope pos) 0 it acc au) R s:=
 jU.A_ (prog,w,A,R,scope,pos,px,p2,fJ,iter,dX,d,x,x2,it,acc,au,I) s hns turn n h
end
theorem Fm.unset (F:Fm cx au nm H ρ h) (i:Nat):Fm cx au nm H (ρ.set i none) h:=by
 refine cu F.slots λ m cm a b c=>?_
 have at_:∀j u,db.at (ρ.set i none) j=some u->db.at ρ j=some u:=λ j u e=>by
  by_cases q:i=j
  ·subst q
   unfold db.at at e
   by_cases z:i<ρ.length
   ·rw [lN z] at e;cases e
   ·rw [List.getElem?_eq_none (by refine af ju ?_;exact dw.mp ‹_›)] at e;cases e
  ·rwa [o5 q] at e
 refine ⟨F.kind,F.glob,F.blt,F.nd,by exact af ju F.len,F.apart,F.aboveL,F.aboveC,F.cellsAll,F.free,m,cm,a,b,λ j y e=>?_⟩
 rcases c j y e with ⟨c1,c2⟩|⟨c1,c2,c3⟩
 ·exact .inl ⟨c1,λ u hu=>c2 u (at_ _ _ hu)⟩
 ·exact .inr ⟨c1,c2,λ u hu=>c3 u (at_ _ _ hu)⟩
theorem fz.unset {P0 cx A au nm D H0 s0 H ρ acc s} (k:fz P0 cx A au nm D H0 s0 H ρ acc s) (i:Nat):fz P0 cx A au nm D H0 s0 H (ρ.set i none) acc s:=⟨k.fm.unset i,k.stk,k.inv,k.acc,k.fD,k.step,k.same⟩
inductive xt (el:V->V->MH->(V->MH->Prop)->Prop) (cond:V->MH->(Bool->MH->Prop)->Prop) (fk:V->MH->(List V->Prop)->Prop) (Q:List V->MH->Prop) (P0:aI->Prop) (cx:Cx) (A:dz) (au:i4) (nm:List aw) (D:aI) (H0:MH) (s0:ax) (us:List V) (St:Nat->cO->Prop) (t:Nat) (ρ0:db) (I:aI) (u:V) (h0:cO) (n:Nat) (s':ax):Prop
 |mk (i acc' Hc ρc) (g1:n=us.length+1 -i) (g2:i<=us.length) (g3:acc'.length<=i*1000) (g4:St i s'.heap) (g5:compTurns2 el cond fk (us.drop i) acc' Hc Q) (g6:fz P0 cx A au nm D H0 s0 Hc ρc acc' s')
  (g7:∀v,ρc.set t (some v)=ρ0.set t (some v)) (g8:ci Hc I) (g9:∀a,u=.ref a->ci Hc a/\∃o,s'.heap.get? a=some o) (g10:bQ h0 s'.heap):xt el cond fk Q P0 cx A au nm D H0 s0 us St t ρ0 I u h0 n s'
section
variable {cx:Cx}
end
namespace jz
def S_ (cx A R s0 H0 P0 scope pos px p2 fJ iter dX d x x2 au nm D I h0 u us St t ρ0 el cond fk Q):=∀{fp:List aI} {P:Nat->av->Prop} {t2:Nat} {H:MH} {s:ax} (hA:A.handled=none) (hns:∀v,jf dX au v=pure v) (J:yN cx A h0 u us I fp P St) (hst:St 0 s.heap) (hx:au.kindOf x=some .local) (hnm:nm[t]?=some x) (hx2:au.kindOf x2=some .local) (hnm2:nm[t2]?=some x2) (ht:t≠t2) (hρ2:ρ0.set t2 none=ρ0) (hz:us.length<=1000) (nD:P0 D\/s0.heap.get? D=none) (nI:s0.heap.get? I=none) (nC:P0 au.locals\/s0.heap.get? au.locals=none) (hb:cx.base.objs.size<=D) (hbI:cx.base.objs.size<=I) (hDI:D≠I) (hDC:D≠au.locals) (k0:fz P0 cx A au nm D H0 s0 H ρ0 [] s) (fI:ci H I) (fu:∀a,u=.ref a->ci H a/\a≠D/\a≠au.locals/\a≠I/\∃o,s.heap.get? a=some o) (kI:bQ h0 s.heap) (htst:∀v s' H' R,Fm cx au nm H' (ρ0.set t (some v)) s'.heap->iF cx A H' s'.heap->cb cx H' s'.heap->cond v H' R->
   aE (ay cx.prog cx.w) A (isTrue d au (eval d au)) (iU cx H' s' R) (cj cx fe H' s' j9) s') (hin:∀v s' H' R,Fm cx au nm H' (ρ0.set t (some v)) s'.heap->iF cx A H' s'.heap->cb cx H' s'.heap->fk v H' R->
   aE (ay cx.prog cx.w) A (eval dX au) (bO cx H' s' λ u H2=>H2=H'/\∃ws,u=.tuple ws/\ws.length<=1000/\R ws) (cj cx fe H' s' j9) s') (helt:∀v v2 s' H' R,Fm cx au nm H' ((ρ0.set t (some v)).set t2 (some v2)) s'.heap->iF cx A H' s'.heap->cb cx H' s'.heap->el v v2 H' R->aE (ay cx.prog cx.w) A (eval fJ au) (bO cx H' s' R) (cj cx fe H' s' j9) s') (q:compTurns2 el cond fk us [] H Q) (hR:∀s' H' acc' ρ',fz P0 cx A au nm D H0 s0 H' ρ' acc' s'->Q acc' H'->R (.ok .next) s'),eT (ay cx.prog cx.w) A (.compLoop (.ListComp fJ [⟨.Name x px,iter,[d],0⟩,⟨.Name x2 p2,dX,[],0⟩] scope pos) 0 (.ref I) (.ref D) au) R s
def U_:=UV λ cx A R=>UV λ s0 H0 P0=>UV λ scope pos px=>UV λ p2 fJ iter=>UV λ dX d x=>UV λ x2 au nm=>UV λ D I h0=>UV λ u us St=>UV λ t ρ0 el=>UU λ cond=>UU λ fk=>S_ cx A R s0 H0 P0 scope pos px p2 fJ iter dX d x x2 au nm D I h0 u us St t ρ0 el cond fk
def t_:=dr (by have:=qe;have:=pH;have:=tJ;infer_instance) U_
def cx:=t_.1
def A:=t_.2.1
def R:=t_.2.2.1
def s0:=t_.2.2.2.1
def H0:=t_.2.2.2.2.1
def P0:=t_.2.2.2.2.2.1
def s1_:=t_.2.2.2.2.2.2
def scope:=s1_.1
def pos:=s1_.2.1
def px:=s1_.2.2.1
def p2:=s1_.2.2.2.1
def fJ:=s1_.2.2.2.2.1
def iter:=s1_.2.2.2.2.2.1
def s2_:=s1_.2.2.2.2.2.2
def dX:=s2_.1
def d:=s2_.2.1
def x:=s2_.2.2.1
def x2:=s2_.2.2.2.1
def au:=s2_.2.2.2.2.1
def nm:=s2_.2.2.2.2.2.1
def s3_:=s2_.2.2.2.2.2.2
def D:=s3_.1
def I:=s3_.2.1
def h0:=s3_.2.2.1
def u:=s3_.2.2.2.1
def us:=s3_.2.2.2.2.1
def St:=s3_.2.2.2.2.2.1
def s4_:=s3_.2.2.2.2.2.2
def t:=s4_.1
def ρ0:=s4_.2.1
def el:=s4_.2.2.1
def cond:=s4_.2.2.2.1
def fk:=s4_.2.2.2.2.1
def Q:=s4_.2.2.2.2.2
theorem P_:S_ cx A R s0 H0 P0 scope pos px p2 fJ iter dX d x x2 au nm D I h0 u us St t ρ0 el cond fk Q:=by
 intro fp P t2 H s hA hns J hst hx hnm hx2 hnm2 ht hρ2 hz nD nI nC hb hbI hDI hDC k0 fI fu kI htst hin helt q hR
 refine jU hns (xt el cond fk Q P0 cx A au nm D H0 s0 us St t ρ0 I u h0) ?_ (us.length+1) ⟨0,[],H,ρ0,rfl,cU _,cU _,hst,q,k0,λ Z=>rfl,fI,λ a e=>⟨(fu a e).1,(fu a e).2.2.2.2⟩,kI⟩
 rintro n s' ⟨i,acc',Hc,ρc,rfl,hi,hlen,hst',q',k,hρ,fI',fu',kI'⟩
 refine fy (J.kpI _ _ hst') λ oI hoI kpI niI Z=>?_
 by_cases hlt:i<us.length
 ·refine J.W.item i _ _ _ hlt hst' λ v h1 tk1 hP st1 k1=>?_
  have k1':∀b o,b≠I->s'.heap.get? b=some o->h1.get? b=some o:=λ b o n e=>k1 b o (by simpa using n) e
  refine fy (J.kpI _ _ st1) λ oI1 hoI1 kpI1 niI1 Z=>?_
  have S1:bf (·=I) Hc s'.heap Hc h1:=bf.only hoI niI kpI.no_dict.1 hoI1 rfl k1'
  have I1:cb cx Hc h1:=k.inv.at_free fI' hbI hoI niI k1'
  have F1:Fm cx au nm Hc ρc h1:=k.fm.but hoI kpI niI k1'
  refine f7 F1.slots λ m Z hn1 Z=>?_
  obtain ⟨u1,hu1⟩:∃u1,us[i]?=some u1:=⟨_,an hlt⟩
  have hdrop:us.drop i=u1::us.drop (i+1):=by
   refine af (cC hlt) ?_
   rw [an hlt] at hu1;(have hu1:=ac hu1;subst hu1);rfl
  rw [hdrop] at q'
  refine lP (jv hx hn1 (λ h2 hn2 hs2=>?_) (by refine af F1.kind ?_;rfl))
  have S2:bf (·=au.locals) Hc h1 Hc h2:=bf.store hn1 hn2 hs2 rfl
  have I2:cb cx Hc h2:=I1.store hn1 hs2 F1.free F1.aboveL
  have r1:VRel cx h2 u1 v:=J.val i v u1 h2 hP hu1 ((λ a o e i=>S2.imm a o (S1.imm a o (kI' a o e i) i) i))
  have F2:Fm cx au nm Hc (ρ0.set t (some u1)) h2:=by refine af (iP (hρ _)) ?_;exact F1.store hnm hx hn1 hn2 hs2 r1
  have hIL:I≠au.locals:=λ z=>by
   refine iV hn1 λ ob es ep e d Z=>?_
   rw [<-z,hoI1] at e;(have e:=ac e;subst e)
   exact kpI1.no_dict.1 _ _ d
  have hst2:St (i+1) h2:=J.keep st1 S2 I1.base I2.base fI' (λ a e=>(fu' a e).1) hIL λ a e=>(fu a e).2.2.1
  have k2:fz P0 cx A au nm D H0 s0 Hc (ρ0.set t (some u1)) acc' {s' with heap:=h2,toks:=tk1+1}:=by
   refine aL k.acc λ aB w1_ hr=>(bw w1_ λ nn hp=>?_)
   refine ⟨F2,(k.stk.step S1).step S2,I2,⟨aB,⟨nn,S2.kp _ _ (S1.kp _ _ hp (.inl ⟨_,_,rfl⟩) k.fD hDI) (.inl ⟨_,_,rfl⟩) k.fD hDC⟩,(hr.mono S1.imm _).mono S2.imm _⟩,k.fD,?_,k.same.trans ⟨rfl,rfl,rfl⟩⟩
   exact (k.step.chg nI k1').absorb S2 λ b z=>z▸nC
  refine aq (htst u1 _ Hc _ F2 k2.stk I2 q') (λ ok s3 h3=>?_) λ e s3 h3=>h3.no.elim
  obtain ⟨H3,q3,I3,S3,M3⟩:=h3
  have k3:=k2.eval I3 S3 M3
  have hst3:St (i+1) s3.heap:=J.keep hst2 S3 I2.base I3.base fI' (λ a e=>(fu' a e).1) id λ Z Z=>id
  have fI3:ci H3 I:=S3.free (S2.kp I oI1 hoI1 kpI1 fI' hIL) fI'
  have kI3:bQ h0 s3.heap:=λ a o e i=>S3.imm a o (S2.imm a o (S1.imm a o (kI' a o e i) i) i) i
  have fu2:∀a,u=.ref a->∃o,h2.get? a=some o:=λ a e=>by
   exact bw ((fu' a e).2) λ o ho=>(bw (S1.there a o ho) λ o1 ho1=>(S2.there a o1 ho1))
  have fu3:∀a,u=.ref a->ci H3 a/\∃o,s3.heap.get? a=some o:=λ a e=>⟨S3.free (fu2 a e).choose_spec (fu' a e).1,S3.there a _ (fu2 a e).choose_spec⟩
  cases ok with
  |false=>
   simp only [ch,if_false]
   exact ⟨us.length+1 -(i+1),gB (iM hlt) (dI i),i+1,acc',H3,ρ0.set t (some u1),rfl,hlt,by lia,hst3,q3,k3,λ v=>by (exact af (jM _) rfl),fI3,fu3,kI3⟩
  |true=>
   simp only [if_true]
   refine aq (hin u1 _ H3 _ k3.fm k3.stk I3 q3) (λ y s4 h4=>?_) λ e s3 h3=>h3.no.elim
   obtain ⟨w,H4,⟨rfl,ws,rfl,hwz,q4⟩,r4,I4,S4,M4⟩:=h4
   have k4:=k3.eval I4 S4 M4
   have hst4:St (i+1) s4.heap:=J.keep hst3 S4 I3.base I4.base fI3 (λ a e=>(fu3 a e).1) id λ Z Z=>id
   refine ql hA I4 r4 rfl λ fp5 P5 St5 h5 J5 kk5 z5 st5=>?_
   have S5:bf fe H4 s4.heap H4 h5:=bf.keeps kk5
   have I5:cb cx H4 h5:=I4.keeps kk5
   have nI5:s4.heap.get? s4.heap.objs.size=none:=dO (bW _)
   refine aL k4.acc λ items4 w1_ hr4=>(bw w1_ λ n4 hp4=>?_)
   have zz:cx.base.objs.size<=s4.heap.objs.size:=k4.fm.lok.le
   refine f7 k4.fm.slots λ m4 Z hn4 Z=>?_
   have hDI5:D≠s4.heap.objs.size:=dN (bz hp4)
   have run:∀s5,s5=({s4 with heap:=h5}:ax)->eT (ay cx.prog cx.w) A (.compLoop (.ListComp fJ [⟨.Name x px,iter,[d],0⟩,⟨.Name x2 p2,dX,[],0⟩] scope pos) 1 (.ref s4.heap.objs.size) (.ref D) au)
    (λ r s₆=>match r with
        |.ok _=>∃m,m<us.length+1 -i/\xt el cond fk Q P0 cx A au nm D H0 s0 us St t ρ0 I u h0 m s₆
        |.error _=>False) s5:=by
    rintro s5 rfl
    refine jo (P0:=λ a=>a=D\/a=au.locals) (s0:=s4) (H0:=H4) (t:=t2) (ρ0:=ρ0.set t (some u1)) (H:=H4) (acc:=acc') (el u1) (λ Z H2 R=>R true H2) (by rfl) J5 st5 hx2 hnm2 (by simp only [bG];lia)
     (.inl (.inl rfl)) nI5 (.inl (.inr rfl)) hb zz hDI5 hDC ⟨k4.fm.step S5,k4.stk.step S5,I5,⟨items4,⟨n4,kk5 _ _ hp4⟩,hr4.mono S5.imm _⟩,k4.fD,bf.keeps kk5,rfl,rfl,rfl⟩ (I4.free nI5) (λ a e=>by cases e) S5.imm
     (λ v s' H' R F st I q=>wpAny_tests_nil ⟨H',q,I,.refl,.refl⟩) (λ v s' H' R F st I q=>helt u1 v s' H' R F st I q) q4 λ s6 H6 acc6 ρ6 L6 hρ6 hl6 q6=>?_
    have pI:¬(I=D\/I=au.locals):=λ z=>z.elim (λ z=>hDI z.symm) hIL
    have hI4:∃o,s4.heap.get? I=some o:=let ⟨o,ho,_⟩:=J.kpI _ _ hst4;⟨o,ho⟩
    have fu4:∀a,u=.ref a->∃o,s4.heap.get? a=some o:=λ a e=>S4.there a _ (fu3 a e).2.choose_spec
    have k6:fz P0 cx A au nm D H0 s0 H6 ρ6 acc6 s6:=⟨L6.fm,L6.stk,L6.inv,L6.acc,L6.fD,k4.step.absorb L6.step (λ a z=>z.elim (λ z=>z▸nD) λ z=>z▸nC),k4.same.trans L6.same⟩
    refine ⟨us.length+1 -(i+1),gB (iM hlt) (dI i),i+1,acc6,H6,ρ6.set t2 none,rfl,hlt,by lia,?_,q6,k6.unset t2,λ v=>?_,L6.step.free hI4.choose_spec fI3,λ a e=>⟨L6.step.free (fu4 a e).choose_spec (fu3 a e).1,L6.step.there a _ (fu4 a e).choose_spec⟩,
     λ a o e i=>L6.step.imm a o (S4.imm a o (kI3 a o e i) i) i⟩
    ·exact J.keep hst4 L6.step I4.base L6.inv.base fI3 (λ a e=>(fu3 a e).1) pI λ a e z=>z.elim (fu a e).2.1 (fu a e).2.2.1
    ·have e1:=hρ6 .none
     have e2:ρ6.set t2 none=ρ0.set t (some u1):=by
      have:=congrArg (λ l=>List.set l t2 none) e1
      simp only [jM] at this
      exact af this (af (jg _ _ ht) (af hρ2 rfl))
     exact af e2 (af (jM _) rfl)
   exact xi rfl (run _ rfl) (J5.W.self 0 _ _ _ st5 (run _ rfl))
 ·have hin:i=us.length:=jJ ‹_› (dw.mp ‹_›)
  subst hin
  refine J.W.done _ _ _ hst' λ h1 tk1 k1=>?_
  have k1':∀b o,b≠I->s'.heap.get? b=some o->h1.get? b=some o:=λ b o n e=>k1 b o (by simpa using n) e
  rw [i5] at q'
  refine aL k.acc λ aB w1_ hr=>(bw w1_ λ nn hp=>?_)
  have ki:bQ s'.heap h1:=λ b ob e i=>k1' b ob (λ z=>by rw [z,hoI] at e;cases e;exact niI i) e
  exact hR {s' with heap:=h1,toks:=tk1} Hc acc' ρc ⟨k.fm.but hoI kpI niI k1',k.stk.but hoI kpI k1',k.inv.at_free fI' hbI hoI niI k1',⟨aB,⟨nn,k1' _ _ hDI hp⟩,hr.mono ki _⟩,k.fD,k.step.chg nI k1',k.same.trans ⟨rfl,rfl,rfl⟩⟩ q'
theorem A_:∀p,U_ p:=bC P_
end jz
section
variable {cx:Cx}
theorem jz {cx A R s0 H0 P0 scope pos px p2 fJ iter dX d x x2 au nm D I h0 u us St t ρ0 Q} (el cond fk):jz.S_ cx A R s0 H0 P0 scope pos px p2 fJ iter dX d x x2 au nm D I h0 u us St t ρ0 el cond fk Q:=jz.A_ (cx,A,R,s0,H0,P0,scope,pos,px,p2,fJ,iter,dX,d,x,x2,au,nm,D,I,h0,u,us,St,t,ρ0,el,cond,fk,Q)
end
theorem jk (h:noSet iter=true) (v:av):jf iter au v=pure v:=by
 cases iter<;>first|rfl|cases h
theorem m5 {au cenv:i4} (he:cenv.scope=qb scope au) (h:scope.names.lookup x=some .local):cenv.kindOf x=some .local:=by
 unfold DM
 refine af he ?_
 exact Ff h
theorem uB {t:Nat} (h:own[t]?=some x) (l:List aw):(own++l)[t]?=some x:=by
 exact af (eL (aO.mp h).1) h
section
variable {E:av->ax->Prop}
noncomputable def CompFin (cx:Cx) (A:dz) (E:av->ax->Prop) (qf:Option (av->uX Unit)) (QQ:av->ax->Prop) (H:MH) (s:ax) (QF:V->MH->Prop):Prop:=
 ∀D C s' H' m,QF (.ref D) H'->s.heap.get? C=none->cx.base.objs.size<=C->s'.heap.Ns C m->D≠C->ci H' C->cb cx H' s'.heap->bf fe H s.heap H' s'.heap->dS s s'->
  Fh (ay cx.prog cx.w) A E qf QQ (.ref D) C (.ok .next) s'
theorem nS:CompFin cx A E none (bO cx H s QF) H s QF:=by
 intro D C s' H' m q nC hb hn hDC fC I' S' M'
 refine ⟨m,hn,λ h' sb=>⟨.ref D,H',q,lX,I'.store hn sb fC hb,?_,M'.trans ⟨rfl,rfl,rfl⟩⟩⟩
 exact S'.chg nC λ b o n e=>(sb.2 b n).trans e
theorem tD (S:bf P H h H1 h1) (n:h1.get? a=none):h.get? a=none:=by
 cases z:h.get? a with
 |none=>rfl
 |some o=>obtain ⟨o',e⟩:=S.there a o z;rw [n] at e;exact bF e
theorem zT
  (el:V->MH->(V->MH->Prop)->Prop) (cond:V->MH->(Bool->MH->Prop)->Prop)
  (hA:A.handled=none) (F:Fm cx au nm H ρ s.heap) (S:kG scope au nm own fr) (st:iF cx A H s.heap) (ht:own[t]?=some x) (hns:noSet iter=true)
  (hit:aE (ay cx.prog cx.w) A (eval iter au) (bO cx H s λ u H1=>xu (itemsOf H1 u) λ us=>us.length<=1000000/\compTurns el cond us [] (asideOf H1 u) λ vs H2=>∀c,backOf H1 H2 u c=none->QF (.ref c) ((backOf H1 H2 u).set c (.list vs))) E s)
  (htst:∀cenv,cenv.scope=qb scope au->∀v s' H' R,Fm cx cenv (own++fr.filterMap λ i=>nm[i]?) H' ((framesOf ρ own fr).set t (some v)) s'.heap->iF cx A H' s'.heap->cb cx H' s'.heap->cond v H' R->
   aE (ay cx.prog cx.w) A (forIn ifs true λ c r=>if r=true then do let ok<-isTrue c cenv (eval c cenv);pure (bX ok) else pure (bX r)) (iU cx H' s' R) (cj cx fe H' s' j9) s')
  (helt:∀cenv,cenv.scope=qb scope au->∀v s' H' R,Fm cx cenv (own++fr.filterMap λ i=>nm[i]?) H' ((framesOf ρ own fr).set t (some v)) s'.heap->iF cx A H' s'.heap->cb cx H' s'.heap->el v H' R->aE (ay cx.prog cx.w) A (eval fJ cenv) (bO cx H' s' R) (cj cx fe H' s' j9) s')
  (fh:CompFin cx A E qf QQ H s QF):
  aE (ay cx.prog cx.w) A (qo (.ListComp fJ [⟨.Name x px,iter,ifs,0⟩] scope pos) scope au pos' (DL []) false (eval iter au) qf) QQ E s:=by
 refine Bn rfl (jk hns) (mK λ y hy e=>F.cellsAll _ (S.free y hy e)) S.kind S.loc (aq hit (λ v s1 h1=>?_) λ Z Z e=>e)
 obtain ⟨u,H1,q,r1,I1,S1,M1⟩:=h1
 refine cJ (rK q) λ us hi hz q=>?_
 ·refine jp (Q:=λ vs H2=>∀c,backOf H1 H2 u c=none->QF (.ref c) ((backOf H1 H2 u).set c (.list vs))) hA (F.step S1) S (st.step S1) I1 r1 hi ?_ ?_
  ·intro cenv D It fp P St s' R hs J hst nD nI nC hb hbI hDI hDC L fI fu kI hR
   refine jo el cond (by rfl) J hst (m5 hs (S.own x (a6 ht))) (uB ht _) (by simp only [bG,fK];exact ao ‹_› (by decide)) (.inr nD) nI (.inr nC) hb hbI hDI hDC L fI fu kI (htst cenv hs) (helt cenv hs) q λ s6 H6 acc6 ρ6 L6 Z Z q6=>hR s6 H6 acc6 ρ6 L6 q6
  ·intro D C s' H' acc' m q nC hb hn hDC fC nD I' S' M'
   exact fh D C s' _ m (q D nD) (tD S1 nC) hb hn hDC fC I' (S1.trans S') (M1.trans M')
theorem AA
  (el:V->V->MH->(V->MH->Prop)->Prop) (cond:V->MH->(Bool->MH->Prop)->Prop) (fk:V->MH->(List V->Prop)->Prop)
  (hA:A.handled=none) (F:Fm cx au nm H ρ s.heap) (S:kG scope au nm own fr) (st:iF cx A H s.heap) (ht:own[t]?=some x) (ht2:own[t2]?=some x2) (hne:t≠t2) (hns:noSet iter=true) (hns2:noSet dX=true)
  (hit:aE (ay cx.prog cx.w) A (eval iter au) (bO cx H s λ u H1=>xu (itemsOf H1 u) λ us=>us.length<=1000/\compTurns2 el cond fk us [] (asideOf H1 u) λ vs H2=>∀c,backOf H1 H2 u c=none->QF (.ref c) ((backOf H1 H2 u).set c (.list vs))) E s)
  (htst:∀cenv,cenv.scope=qb scope au->∀v s' H' R,Fm cx cenv (own++fr.filterMap λ i=>nm[i]?) H' ((framesOf ρ own fr).set t (some v)) s'.heap->iF cx A H' s'.heap->cb cx H' s'.heap->cond v H' R->
   aE (ay cx.prog cx.w) A (isTrue d cenv (eval d cenv)) (iU cx H' s' R) (cj cx fe H' s' j9) s')
  (hin:∀cenv,cenv.scope=qb scope au->∀v s' H' R,Fm cx cenv (own++fr.filterMap λ i=>nm[i]?) H' ((framesOf ρ own fr).set t (some v)) s'.heap->iF cx A H' s'.heap->cb cx H' s'.heap->fk v H' R->
   aE (ay cx.prog cx.w) A (eval dX cenv) (bO cx H' s' λ u H2=>H2=H'/\∃ws,u=.tuple ws/\ws.length<=1000/\R ws) (cj cx fe H' s' j9) s')
  (helt:∀cenv,cenv.scope=qb scope au->∀v v2 s' H' R,Fm cx cenv (own++fr.filterMap λ i=>nm[i]?) H' (((framesOf ρ own fr).set t (some v)).set t2 (some v2)) s'.heap->iF cx A H' s'.heap->cb cx H' s'.heap->el v v2 H' R->aE (ay cx.prog cx.w) A (eval fJ cenv) (bO cx H' s' R) (cj cx fe H' s' j9) s')
  (fh:CompFin cx A E qf QQ H s QF):
  aE (ay cx.prog cx.w) A (qo (.ListComp fJ [⟨.Name x px,iter,[d],0⟩,⟨.Name x2 p2,dX,[],0⟩] scope pos) scope au pos' (DL []) false (eval iter au) qf) QQ E s:=by
 refine Bn rfl (jk hns) (mK λ y hy e=>F.cellsAll _ (S.free y hy e)) S.kind S.loc (aq hit (λ v s1 h1=>?_) λ Z Z e=>e)
 obtain ⟨u,H1,q,r1,I1,S1,M1⟩:=h1
 refine cJ (rK q) λ us hi hz q=>?_
 ·refine jp (Q:=λ vs H2=>∀c,backOf H1 H2 u c=none->QF (.ref c) ((backOf H1 H2 u).set c (.list vs))) hA (F.step S1) S (st.step S1) I1 r1 hi ?_ ?_
  ·intro cenv D It fp P St s' R hs J hst nD nI nC hb hbI hDI hDC L fI fu kI hR
   refine jz el cond fk hA (jk hns2) J hst (m5 hs (S.own x (a6 ht))) (uB ht _) (m5 hs (S.own x2 (a6 ht2))) (uB ht2 _) hne ?_ hz (.inr nD) nI (.inr nC) hb hbI hDI hDC L fI fu kI (htst cenv hs) (hin cenv hs) (helt cenv hs) q λ s6 H6 acc6 ρ6 L6 q6=>hR s6 H6 acc6 ρ6 L6 q6
   unfold framesOf
   have hl:t2<own.length:=(aO.mp ht2).1
   rw [List.set_append_left _ _ (by exact af (ag _) hl)]
   congr 1
   refine DN λ j=>?_
   by_cases z:t2=j
   ·subst z
    rw [lN (by exact af (ag _) hl),aF,ht2];rfl
   ·exact af (mT z) rfl
  ·intro D C s' H' acc' m q nC hb hn hDC fC nD I' S' M'
   exact fh D C s' _ m (q D nD) (tD S1 nC) hb hn hDC fC I' (S1.trans S') (M1.trans M')
end
theorem xj {n:aw} (h:n∉kvs.map (·.1)):DJ kvs n v=kvs++[(n,v)]:=by
 unfold DJ
 rw [if_neg (by refine af (yX h) ?_;simp)]
theorem qR:∀{more acc:List (aw×av)},((acc++more).map (·.1)).Nodup->merged acc more=acc++more
 |[],acc,_=>by simp [merged]
 |(n,v)::more,acc,h=>by
  have h1:n∉acc.map (·.1):=by
   intro q
   rw [bh,bk,ir] at h
   exact h.2.2 n q n (.head _) rfl
  show merged (DJ acc n v) more=_
  refine af (xj h1) (af (qR (by simpa using h)) ?_)
  simp
section
variable {cx:Cx}
theorem vK (G:gT cx tb gl) (hg:au.globals=dj) (hb:au.builtins=lB) (hk:au.scope.kind=.function):∀{ps:List (aw×aw×Fn)} {t u:PT} {s1:ax} {R:List (av×av)->ax->Prop},ps.all (λ p=>okGlob gl au.scope p.2.1 p.2.2)=true->cb cx H s1.heap->
  (∀vals t,Carries (strKind cx.prog cx.w) vals (ps.map λ p=>(p.1,cx.addr p.2.2))->R vals {s1 with toks:=t})->aE (ay cx.prog cx.w) A (evalPairs (pairTrees (emKs ps t) (emVs ps u) au pos)) R Ex s1
 |[],_,_,s1,R,_,I,k=>pairTrees_nil_walk (k [] s1.toks trivial)
 |p::ps,t,u,s1,R,h,I,k=>
  pairTrees_cons_walk (HQ (oG G hg hb hk I (al h) (vK G hg hb hk (ar h) I λ Z Z c=>k _ _ ⟨nw cx.prog cx.w _ _,rfl,c⟩)))
theorem jq:∀{ps:List (aw×aw×Fn)} {t:PT},(emKs ps t).all (·.isSome)=true/\(emKs ps t).length=ps.length
 |[],_=>⟨rfl,rfl⟩
 |_::ps,t=>⟨(jq (ps:=ps) (t:=t.r)).1,congrArg nz (jq (ps:=ps) (t:=t.r)).2⟩
theorem wI:∀{ps:List (aw×aw×Fn)} {t:PT},(emVs ps t).length=ps.length
 |[],_=>rfl
 |_::ps,t=>congrArg nz (wI (ps:=ps) (t:=t.r))
theorem wM:∀{ps:List (aw×aw×Fn)},KRel cx h (ps.map λ p=>(p.1,V.fn p.2.2)) (ps.map λ p=>(p.1,cx.addr p.2.2))
 |[]=>rfl
 |p::ps=>⟨_,_,rfl,by rfl,wM⟩
theorem GQ (G:gT cx tb gl) (F:Fm cx au nm H ρ s.heap) (I:cb cx H s.heap) (h:ps.all (λ p=>okGlob gl au.scope p.2.1 p.2.2)=true) (h3:0<ps.length) (h4:ps.length<=15) (h5:(ps.map (·.1)).Nodup)
  (q:∀c,H c=none->Q (.ref c) (H.set c (.sdict (ps.map λ p=>(p.1,V.fn p.2.2))))):aE (ay cx.prog cx.w) A (eval (.Dict (emKs ps t) (emVs ps u) pos) au) (bO cx H s Q) Ex s:=by
 refine wpAny_Dict_walk (knd:=strKind cx.prog cx.w) jq.1 (jq.2.trans wI.symm) (λ e=>by have:=congrArg kU e;rw [jq.2] at this;exact absurd this (xY h3)) (ao (gm jq.2) h4) (vK G F.glob F.blt F.kind h (I.push _) λ vals t c=>⟨_,c,vM (n:=0) (bu _ rfl),λ h' hd sb=>?_⟩)
 rw [qR (by simpa [cD,Function.comp_def] using h5),dy] at hd
 exact bO.new (mo:=.sdict (ps.map λ p=>(p.1,V.fn p.2.2))) I F.lok.le (λ b o e=>(sb.2 b (dN (bz e))).trans (ak _ e)) (dO (bW _)) (ik rfl) ⟨_,hd,wM⟩ q
structure zw (cx:Cx) (tb:ow) (gl:GL) (A:dz) (lv:Nat):Prop where
 G:gT cx tb gl
 hc:∀f,tb.lvl f<lv->CallOk cx tb f
 hi:∀c f,tb.init c=some f->tb.lvl f<lv->CodeOk cx tb f
 am:Bu A lv
theorem wz (W:zw cx tb gl A lv)
  (st:iF cx A H s.heap) (lk:∃L,ux cx H s.heap L) (I:cb cx H s.heap) (rf:VRel cx s.heap u f) (r:VRels cx s.heap us vs) (q:mL tb lv u us H Q X):
  aE (ay cx.prog cx.w) A (call f vs) (bO cx H s Q) (cj cx fe H s X) s:=by
 cases u with
 |fn g=>
  cases yv rf
  cases g with
  |cls n=>
   refine aL (CS q) λ i e q=>?_
   have l:=hV.mp (kD q).1
   exact BI W.G e (W.hi _ _ e l) W.am l st lk I r (kD q).2
  |_=>
   have l:=hV.mp (kD q).1
   exact W.hc _ l A H s us vs Q X (W.am.call l) st lk I r (kD q).2
 |_=>exact q.elim
end
theorem pO (h:chkScope scope au.scope nm own fr=true):kG scope au nm own fr:=by
 unfold chkScope at h
 simp only [bI,beq_iff_eq,decide_eq_true_eq,bt,jt,bne_iff_ne,ne_eq] at h
 refine wb h λ h1 h2 h3 h4 h5=>?_
 refine ⟨h1,h2,λ i hi=>?_,λ y hy=>by simpa using h4 y hy,λ y hy=>(h5 y hy).1,λ y hy e=>(h5 y hy).2.1.resolve_left (λ n=>n e),λ y hy e=>(h5 y hy).2.2.resolve_left (λ n=>n e)⟩
 have:=h3 i hi
 cases q:nm[i]? with
 |none=>rw [q] at this;simp at this
 |some y=>
  rw [q] at this
  simp only [Option.any_some,bI,beq_iff_eq] at this
  exact ⟨y,rfl,this.1,this.2⟩
section
variable (cx:Cx) (tb:ow) (gl:GL) (A:dz) (lv:Nat)
def wZ (nm:List aw) (au:i4) (e:Mine.E) (x:Expr):Prop:=∀(H:MH) (s:ax) (ρ:db) (Q:V->MH->Prop) (X:aw->MH->Prop),Fm cx au nm H ρ s.heap->iF cx A H s.heap->cb cx H s.heap->
 wpE tb lv false e ρ H Q X->aE (ay cx.prog cx.w) A (eval x au) (bO cx H s Q) (cj cx fe H s X) s
def HD (nm:List aw) (au:i4) (e:Mine.E) (x:Expr):Prop:=∀(H:MH) (s:ax) (ρ:db) (Q:V->MH->Prop) (X:aw->MH->Prop),Fm cx au nm H ρ s.heap->iF cx A H s.heap->cb cx H s.heap->
 wpE tb lv true e ρ H Q X->aE (ay cx.prog cx.w) A (lM x au (eval x au)) (iU cx H s λ b H1=>Q (.bool b) H1) (cj cx fe H s X) s
def NM (nm:List aw) (au:i4) (es:List Mine.E) (xs:List Expr):Prop:=∀(pos:Bx) (H:MH) (s:ax) (ρ:db) (Q:List V->MH->Prop) (X:aw->MH->Prop),Fm cx au nm H ρ s.heap->iF cx A H s.heap->cb cx H s.heap->
 wpEs tb lv es ρ H Q X->aE (ay cx.prog cx.w) A (spliced (pA pos (il xs au))) (vo cx H s λ us H1=>us.length=es.length/\Q us H1) (cj cx fe H s X) s
def NW (nm:List aw) (au:i4) (e:Option Mine.E) (x:Option Expr):Prop:=∀(H:MH) (s:ax) (ρ:db) (Q:V->MH->Prop) (X:aw->MH->Prop),Fm cx au nm H ρ s.heap->iF cx A H s.heap->cb cx H s.heap->
 wpO tb lv e ρ H Q X->aE (ay cx.prog cx.w) A (evalPart x au) (bO cx H s Q) (cj cx fe H s X) s
def MR (nm:List aw) (au:i4) (op:BoolOp) (c:Bool) (es:List Mine.E) (xs:List Expr):Prop:=∀(pos:Bx) (H:MH) (s:ax) (ρ:db) (Q:V->MH->Prop) (X:aw->MH->Prop),Fm cx au nm H ρ s.heap->iF cx A H s.heap->cb cx H s.heap->
 wpB tb lv c es ρ H Q X->aE (ay cx.prog cx.w) A (boolOp pos op (evalEach xs au)) (bO cx H s Q) (cj cx fe H s X) s
def Na (nm:List aw) (au:i4) (op:BoolOp) (c:Bool) (es:List Mine.E) (xs:List Expr):Prop:=∀(H:MH) (s:ax) (ρ:db) (Q:V->MH->Prop) (X:aw->MH->Prop),Fm cx au nm H ρ s.heap->iF cx A H s.heap->cb cx H s.heap->
 wpTs tb lv c es ρ H Q X->aE (ay cx.prog cx.w) A (allTrue op xs au) (iU cx H s λ b H1=>Q (.bool b) H1) (cj cx fe H s X) s
end
section
variable {cx:Cx}
theorem Hb (hv:wZ cx tb A lv nm au e x) (ht:∀ρ H Q X,wpE tb lv true e ρ H Q X->wpE tb lv false e ρ H (fh true Q) X)
  (he:∀whole,lM x au whole=(do let v<-whole;nG x.pos;Iw [v] (truthy v)):=by intro _;rfl):HD cx tb A lv nm au e x:=λ H s ρ Q X F st I q=>by
 refine wpAny_isTrue_value (aq (hv H s ρ _ X F st I (ht _ _ _ _ q)) (λ v s1 h1=>?_) λ Z Z e=>e) (he _)
 obtain ⟨u,H1,q1,r1,I1,S1,M1⟩:=h1
 exact aL (Ci q1) λ b e q1=>(tF r1 e ⟨H1,q1,I1,S1,M1⟩)
end
theorem gH {α:Type} {m:uX α} {R1 R:α->ax->Prop} (S1:bf fe H s.heap H1 s1.heap) (M1:dS s s1) (h:aE (ay cx.prog cx.w) A m R1 (cj cx fe H1 s1 X) s1) (k:∀v s',R1 v s'->R v s'):
  aE (ay cx.prog cx.w) A m R (cj cx fe H s X) s1:=aq h k λ Z Z z=>z.after S1 M1
section
variable {cx:Cx} {tb:ow} {gl:GL} {A:dz} {lv:Nat}
theorem mZ {v:Expr} {n:aw} {au:i4} {whole:uX av} (h:plainB v=true):attributeBase v n au whole=whole:=by
 cases v with
 |Call f as ks p=>
  cases f with
  |Name x q=>
   cases as with
   |nil=>
    cases ks with
    |nil=>exact aM h
    |cons _ _=>rfl
   |cons _ _=>rfl
  |_=>rfl
 |_=>rfl
theorem qD {v:Expr} {n:aw} {au:i4} {pos:Bx} (h:plainB v=true):eval (.Attribute v n pos) au=(do
  let o<-eval v au
  nG pos.atName
  let r<-Iw [o] (getAttr o n true)
  ly v o r
  pure r):=by (rewrite [arm_eval_Attribute];exact af (mZ h) rfl)
theorem xJ {g:Expr} {xs:List Expr} {au:i4} {pos:Bx} (h:isAttr g=false):eval (.Call g xs [] pos) au=(do
  callWith pos (<-eval g au) [] (pA pos (il xs au)) (backToKw pos (keywordEach [] au))):=by
 cases g<;>first|rfl|cases h
theorem C9 {sl:Expr} (h:isSlice sl=false):∀l u s p,sl≠.Slice l u s p:=λ l u s p e=>by subst e;cases h
theorem EG {v:Expr} (h:isName v=true) (o r:av):ly v o r=pure ():=by
 cases v<;>first|rfl|cases h
theorem we {α:Type} {m m':uX α} {Q:α->ax->Prop} {E:av->ax->Prop} {s:ax} (h:m=m') (q:aE (ay cx.prog cx.w) A m' Q E s):aE (ay cx.prog cx.w) A m Q E s:=h▸q
theorem to {as:List Mine.E} {t:PT} {au:i4} {nm:List aw} {pos:Bx} (h:okEs gl au.scope nm as t=true) (hl:as.length<=20):methodCallForm ((emEs nm as t).length+([]:List Keyword).length) (pA pos (il (emEs nm as t) au)) (backToKw pos (keywordEach [] au))=true:=by
 refine bx (lc h) λ h1 h2=>?_
 have e:(pA pos (il (emEs nm as t) au)).all (λ x=>!x.1)=true:=by
  refine af List.all_eq_not_any_not ?_
  simp only [Bool.not_not]
  refine af (ou _) (af h1 ?_);rfl
 show (_&&true&&decide ((emEs nm as t).length+0+0<30))=true
 refine af e (af (decide_eq_true (by lia)) ?_);rfl
theorem vD {o:Expr} {au:i4} {apos pos:Bx} (h:apos.endLine=pos.line):methodCallPos true o au apos pos=pure pos:=by unfold methodCallPos;simp [h]
theorem pU {op:CmpOp} {r:Expr} (h:noSet r=true):behindInMarks op r=false:=by
 cases r<;>first|rfl|cases h
theorem wZ.after {nm:List aw} {au:i4} {e:Mine.E} {x:Expr} (k:wZ cx tb A lv nm au e x) {H H1:MH} {s s1:ax} {ρ:db} {Q:V->MH->Prop} {X:aw->MH->Prop} (F:Fm cx au nm H ρ s.heap) (st:iF cx A H s.heap) (S1:bf fe H s.heap H1 s1.heap) (M1:dS s s1) (I1:cb cx H1 s1.heap) (q:wpE tb lv false e ρ H1 Q X):
  aE (ay cx.prog cx.w) A (eval x au) (bO cx H s Q) (cj cx fe H s X) s1:=aq (k H1 s1 ρ Q X (F.step S1) (st.step S1) I1 q) (λ Z Z z=>z.after S1 M1) λ Z Z z=>z.after S1 M1
theorem HD.after {nm:List aw} {au:i4} {e:Mine.E} {x:Expr} (k:HD cx tb A lv nm au e x) {H H1:MH} {s s1:ax} {ρ:db} {Q:V->MH->Prop} {X:aw->MH->Prop} (F:Fm cx au nm H ρ s.heap) (st:iF cx A H s.heap) (S1:bf fe H s.heap H1 s1.heap) (M1:dS s s1) (I1:cb cx H1 s1.heap) (q:wpE tb lv true e ρ H1 Q X):
  aE (ay cx.prog cx.w) A (lM x au (eval x au)) (iU cx H s λ b H1=>Q (.bool b) H1) (cj cx fe H s X) s1:=aq (k H1 s1 ρ Q X (F.step S1) (st.step S1) I1 q) (λ Z Z z=>z.after S1 M1) λ Z Z z=>z.after S1 M1
theorem Na.after {nm:List aw} {au:i4} {op:BoolOp} {c:Bool} {e:List Mine.E} {x:List Expr} (k:Na cx tb A lv nm au op c e x) {H H1:MH} {s s1:ax} {ρ:db} {Q:V->MH->Prop} {X:aw->MH->Prop} (F:Fm cx au nm H ρ s.heap) (st:iF cx A H s.heap) (S1:bf fe H s.heap H1 s1.heap) (M1:dS s s1) (I1:cb cx H1 s1.heap) (q:wpTs tb lv c e ρ H1 Q X):
  aE (ay cx.prog cx.w) A (allTrue op x au) (iU cx H s λ b H1=>Q (.bool b) H1) (cj cx fe H s X) s1:=aq (k H1 s1 ρ Q X (F.step S1) (st.step S1) I1 q) (λ Z Z z=>z.after S1 M1) λ Z Z z=>z.after S1 M1
theorem iU.not {H:MH} {s s':ax} {Q:V->MH->Prop} {b:Bool} (z:iU cx H s (λ b H1=>Au (V.bool b) λ b=>Q (.bool (!b)) H1) b s'):iU cx H s (λ b H1=>Q (.bool b) H1) (!b) s':=let ⟨H1,q1,I1,S1,M1⟩:=z;⟨H1,q1,I1,S1,M1⟩
theorem FV {h:cO} {f:Fn}:VRel cx h (.fn f) (cx.addr f):=rfl
def NH (cx:Cx) (tb:ow) (A:dz) (lv:Nat) (nm:List aw) (au:i4) (e:Option Mine.E) (x:Option Expr):Prop:=∀(H:MH) (s:ax) (ρ:db) (R:Bool->MH->Prop),Fm cx au nm H ρ s.heap->iF cx A H s.heap->cb cx H s.heap->wpC tb lv e ρ H R->
 aE (ay cx.prog cx.w) A (forIn x.toList true λ c r=>if r=true then do let ok<-lM c au (eval c au);pure (bX ok) else pure (bX r)) (iU cx H s R) (cj cx fe H s j9) s
theorem lg {nm:List aw} {au:i4} {e:Mine.E} {x:Expr} (hv:wZ cx tb A lv nm au e x) (ht:∀ρ H Q X,wpE tb lv true e ρ H Q X->wpE tb lv false e ρ H (fh true Q) X:=by exact λ Z Z Z Z q=>q)
  (he:∀whole,lM x au whole=(do let v<-whole;nG x.pos;Iw [v] (truthy v)):=by intro _;rfl):wZ cx tb A lv nm au e x/\HD cx tb A lv nm au e x:=⟨hv,Hb hv ht he⟩
theorem yI (W:zw cx tb gl A lv) {own:List aw} {fr:List Nat} {el it:Mine.E} {j:Nat} {c:Option Mine.E} {t:PT} {nm:List aw} {au:i4} {H:MH} {s:ax} {ρ:db} {QF:V->MH->Prop} {X:aw->MH->Prop} {Ex:av->ax->Prop} {qf:Option (av->uX Unit)} {QQ:av->ax->Prop} {pos:Bx}
  (ii:wZ cx tb A lv nm au it (emE nm it t.r.l)) (ie:∀cenv:i4,cenv.scope=relS t.s au.scope->wZ cx tb A lv (sA nm own fr) cenv el (emE (sA nm own fr) el t.l)) (ic:∀cenv:i4,cenv.scope=relS t.s au.scope->NH cx tb A lv (sA nm own fr) cenv c (emO (sA nm own fr) c t.r.r))
  (h:okE gl au.scope nm (.comp own fr el j it c) t=true) (F:Fm cx au nm H ρ s.heap) (st:iF cx A H s.heap) (I:cb cx H s.heap) (q:wpE tb lv false (.comp own fr el j it c) ρ H QF X) (fh:CompFin cx A Ex qf QQ H s QF) (hE:∀e s',cj cx fe H s X e s'->Ex e s'):
  aE (ay cx.prog cx.w) A (qo (emE nm (.comp own fr el j it c) t) t.s au pos (DL []) false (eval (emE nm it t.r.l) au) qf) QQ Ex s:=
 zT (own:=own) (fr:=fr) (t:=j) (QF:=QF) _ _ W.am.handled F (pO (al (ar (ar h)))) st (eq_of_beq (al h)) (al (ar h)) (aq (ii H s ρ _ X F st I q) (λ Z Z e=>e) hE)
  (λ cenv hs Z s' H' R F' st' I' q'=>ic cenv hs H' s' _ R F' st' I' q') (λ cenv hs Z s' H' R F' st' I' q'=>ie cenv hs H' s' _ R _ F' st' I' q') fh
theorem wJ (W:zw cx tb gl A lv) {own:List aw} {fr:List Nat} {el it c it2:Mine.E} {j j2:Nat} {t:PT} {nm:List aw} {au:i4} {H:MH} {s:ax} {ρ:db} {QF:V->MH->Prop} {X:aw->MH->Prop} {Ex:av->ax->Prop} {qf:Option (av->uX Unit)} {QQ:av->ax->Prop} {pos:Bx}
  (ii:wZ cx tb A lv nm au it (emE nm it t.r.l)) (ie:∀cenv:i4,cenv.scope=relS t.s au.scope->wZ cx tb A lv (sA nm own fr) cenv el (emE (sA nm own fr) el t.l)) (ic:∀cenv:i4,cenv.scope=relS t.s au.scope->HD cx tb A lv (sA nm own fr) cenv c (emE (sA nm own fr) c t.r.r.l)) (i2:∀cenv:i4,cenv.scope=relS t.s au.scope->wZ cx tb A lv (sA nm own fr) cenv it2 (emE (sA nm own fr) it2 t.r.r.r))
  (h:okE gl au.scope nm (.comp2 own fr el j it c j2 it2) t=true) (F:Fm cx au nm H ρ s.heap) (st:iF cx A H s.heap) (I:cb cx H s.heap) (q:wpE tb lv false (.comp2 own fr el j it c j2 it2) ρ H QF X) (fh:CompFin cx A Ex qf QQ H s QF) (hE:∀e s',cj cx fe H s X e s'->Ex e s'):
  aE (ay cx.prog cx.w) A (qo (emE nm (.comp2 own fr el j it c j2 it2) t) t.s au pos (DL []) false (eval (emE nm it t.r.l) au) qf) QQ Ex s:=
 AA (own:=own) (fr:=fr) (t:=j) (t2:=j2) (QF:=QF) _ _ _ W.am.handled F (pO (al (ar (ar (ar (ar (ar h))))))) st (eq_of_beq (al h)) (eq_of_beq (al (ar h))) (nb (al (ar (ar h)))) (al (ar (ar (ar h)))) (al (ar (ar (ar (ar h))))) (aq (ii H s ρ _ X F st I q) (λ Z Z e=>e) hE)
  (λ cenv hs Z s' H' R F' st' I' q'=>ic cenv hs H' s' _ _ _ F' st' I' q') (λ cenv hs Z s' H' R F' st' I' q'=>aq (i2 cenv hs H' s' _ _ _ F' st' I' q') (λ Z Z=>bO.mono (λ u Z z=>⟨z.1,FQ z.2⟩)) λ Z Z e=>e) (λ cenv hs Z Z s' H' R F' st' I' q'=>ie cenv hs H' s' _ R _ F' st' I' q') fh
def N6 (cx tb gl A lv) (e:Mine.E):=∀⦃t:PT⦄⦃nm:List aw⦄⦃au:i4⦄,okE gl au.scope nm e t=true->wZ cx tb A lv nm au e (emE nm e t)/\HD cx tb A lv nm au e (emE nm e t)
def LO (cx tb gl A lv) (es:List Mine.E):=∀⦃t:PT⦄⦃nm:List aw⦄⦃au:i4⦄,okEs gl au.scope nm es t=true->NM cx tb A lv nm au es (emEs nm es t)
def M8 (cx tb gl A lv) (e:Option Mine.E):=∀⦃t:PT⦄⦃nm:List aw⦄⦃au:i4⦄,okO gl au.scope nm e t=true->NW cx tb A lv nm au e (emO nm e t)
def Nz (cx tb gl A lv) (e:Option Mine.E):=∀⦃t:PT⦄⦃nm:List aw⦄⦃au:i4⦄,okO gl au.scope nm e t=true->NH cx tb A lv nm au e (emO nm e t)
def LI (cx tb gl A lv) (es:List Mine.E):=∀⦃c:Bool⦄⦃t:PT⦄⦃nm:List aw⦄⦃au:i4⦄,okEs gl au.scope nm es t=true->MR cx tb A lv nm au (cond c .And .Or) c es (emEs nm es t)
mutual
theorem ev (W:zw cx tb gl A lv):∀(e:Mine.E),N6 cx tb gl A lv e
 |.none=>λ Z Z Z Z=>lg λ Z Z Z Z Z Z Z I q=>wpAny_Constant_none (bO.here I my q)
 |.bool _=>λ Z Z Z Z=>lg λ Z Z Z Z Z Z Z I q=>wpAny_Constant_bool (bO.here I qj q)
 |.int _=>λ Z Z Z Z=>lg λ Z Z Z Z Z Z Z I q=>HR (bO.tok I du q)
 |.str _=>λ Z Z Z Z=>lg λ Z Z Z Z Z Z Z I q=>HQ (bO.tok I uF q)
 |.loc _=>λ Z Z Z h=>lg (λ Z Z Z Z Z F Z I q=>let ⟨_,e,q⟩:=pJ q;pc F (eq_of_beq (al h)) (ar h) e λ Z r=>bO.here I r q) λ Z Z Z Z q=>q
 |.fn _ f=>λ Z Z Z h=>lg λ Z Z Z Z Z F Z I q=>oG W.G F.glob F.blt F.kind I h (bO.here (u:=.fn f) I FV q)
 |.neg a=>λ Z Z Z h=>lg λ H s ρ Q X F st I q=>wpAny_UnaryOp (aq ((ev W a h).1 H s ρ _ X F st I q) (λ v s1 h1=>by
   obtain ⟨u,H1,q1,r1,I1,S1,M1⟩:=h1
   refine aL (Fv q1) λ i r1_ q1=>?_
   subst r1_
   refine bw (cn r1) λ t r1_=>?_
   subst r1_
   exact P.neg_int (bO.after S1 M1 (bO.tok I1 du q1))) λ Z Z e=>e)
 |.bin op a b=>λ Z Z Z h=>lg λ H s ρ Q X F st I q=>wpAny_BinOp (aq ((ev W a (al h)).1 H s ρ _ X F st I q) (λ v s1 h1=>by
   obtain ⟨u,H1,q1,r1,I1,S1,M1⟩:=h1
   refine gH S1 M1 ((ev W b (ar h)).1 H1 s1 ρ _ X (F.step S1) (st.step S1) I1 q1) λ v2 s2 h2=>?_
   obtain ⟨u2,H2,q2,r2,I2,S2,M2⟩:=h2
   exact aq (EC ((F.step S1).step S2).lok I2 (r1.mono S2.imm) r2 q2) (λ Z Z z=>(z.after S2 M2).after S1 M1) λ Z Z e=>e) λ Z Z e=>e)
 |.cmp op a b=>λ t nm au h=>by
   have key:∀(H:MH) (s:ax) (ρ:db) (Q:V->MH->Prop) (X:aw->MH->Prop) (R:av->ax->Prop),Fm cx au nm H ρ s.heap->iF cx A H s.heap->cb cx H s.heap->wpE tb lv false (.cmp op a b) ρ H Q X->
     (∀b s',iU cx H s (λ b H'=>Q (.bool b) H') b s'->R (.bool b) s')->
     aE (ay cx.prog cx.w) A (eval (emE nm a t.l) au) (λ a s₁=>aE (ay cx.prog cx.w) A (eval (emE nm b t.r) au) (λ b s₂=>aE (ay cx.prog cx.w) A (jI op a b) R (cj cx fe H s X) s₂) (cj cx fe H s X) s₁) (cj cx fe H s X) s:=by
    intro H s ρ Q X R F st I q k
    refine aq ((ev W a (al (ar h))).1 H s ρ _ X F st I q) (λ v s1 h1=>?_) λ Z Z e=>e
    obtain ⟨u,H1,q1,r1,I1,S1,M1⟩:=h1
    refine gH S1 M1 ((ev W b (ar (ar h))).1 H1 s1 ρ _ X (F.step S1) (st.step S1) I1 q1) λ v2 s2 h2=>?_
    obtain ⟨u2,H2,q2,r2,I2,S2,M2⟩:=h2
    exact EQ W.G.sys W.am.u100 I2 (r1.mono S2.imm) r2 q2 λ r t qr=>k r {s2 with toks:=t} ⟨H2,qr,I2,S1.trans S2,M1.trans (M2.trans ⟨rfl,rfl,rfl⟩)⟩
   exact ⟨λ H s ρ Q X F st I q=>wpAny_Compare1 (key H s ρ Q X _ F st I q λ b s' ⟨H',q',I',S',M'⟩=>⟨.bool b,H',q',qj,I',S',M'⟩) (pU (al h)),λ H s ρ Q X F st I q=>wpAny_isTrue_Compare1 (key H s ρ Q X _ F st I q λ b s' z=>Ir z) (pU (al h))⟩
 |.not a=>λ Z Z Z h=>⟨λ Z Z Z Z Z Z Z Z q=>q.elim,λ H s ρ Q X F st I q=>wpAny_isTrue_Not (aq ((ev W a h).2 H s ρ _ X F st I q) (λ Z Z z=>z.not) λ Z Z e=>e)⟩
 |.bop true es=>λ Z Z Z h=>⟨λ H s ρ Q X F st I q=>GM W es h _ H s ρ Q X F st I q,λ H s ρ Q X F st I q=>Gz (K5 W es h H s ρ Q X F st I q)⟩
 |.bop false es=>λ Z Z Z h=>⟨λ H s ρ Q X F st I q=>GM W es h _ H s ρ Q X F st I q,λ H s ρ Q X F st I q=>Gz (K5 W es h H s ρ Q X F st I q)⟩
 |.ifx c b o=>λ Z Z Z h=>⟨λ H s ρ Q X F st I q=>wpAny_IfExp (aq ((ev W c (al h)).2 H s ρ _ X F st I q) (λ r s1 h1=>by
    obtain ⟨H1,q1,I1,S1,M1⟩:=h1
    cases r with
    |true=>exact ((ev W b (al (ar h))).1).after F st S1 M1 I1 q1
    |false=>exact ((ev W o (ar (ar h))).1).after F st S1 M1 I1 q1) λ Z Z e=>e),
   λ H s ρ Q X F st I q=>isTrue_IfExp (aq ((ev W c (al h)).2 H s ρ _ X F st I q) (λ r s1 h1=>by
    obtain ⟨H1,q1,I1,S1,M1⟩:=h1
    cases r with
    |true=>exact ((ev W b (al (ar h))).2).after F st S1 M1 I1 q1
    |false=>exact ((ev W o (ar (ar h))).2).after F st S1 M1 I1 q1) λ Z Z e=>e)⟩
 |.tup es=>λ Z Z Z h=>lg λ H s ρ Q X F st I q=>wpAny_Tuple (aq (JB W es (ar h) _ H s ρ _ X F st I q) (λ vs s1 h1=>by
   obtain ⟨us,H1,⟨l1,q1⟩,r1,I1,S1,M1⟩:=h1
   refine ⟨ao (gm (r1.len.trans l1)) (ao (aP (al h)) (by decide)),bO.after S1 M1 (bO.priv (t:=s1.toks) (u:=.tuple us) I1 (λ b o e=>ak _ e) ?_ q1)⟩
   exact jF (rD (bu _ rfl)) (r1.mono (bQ.of_keeps λ b o e=>ak _ e) us)) λ Z Z e=>e)
 |.lst es=>λ Z Z Z h=>lg λ H s ρ Q X F st I q=>wpAny_List (aq (JB W es (ar h) _ H s ρ _ X F st I q) (λ vs s1 h1=>by
   obtain ⟨us,H1,⟨l1,q1⟩,r1,I1,S1,M1⟩:=h1
   refine ⟨ao (gm (r1.len.trans l1)) (ao (aP (al h)) (by decide)),bO.after S1 M1 (bO.new (t:=s1.toks) (mo:=.list us) I1 (F.step S1).lok.le (λ b o e=>ak _ e) (dO (bW _)) (ik rfl) ?_ q1)⟩
   exact ⟨vs.toArray,0,bu _ rfl,r1.mono (bQ.of_keeps λ b o e=>ak _ e) us⟩) λ Z Z e=>e)
 |.edct=>λ Z Z Z h=>lg λ H s ρ Q X F st I q=>wpAny_Dict_empty (bO.new (t:=s.toks) (mo:=.edict) I F.lok.le (λ b o e=>ak _ e) (dO (bW _)) (ik rfl) ⟨0,bu _ rfl⟩ q)
 |.dfn ps=>λ Z Z Z h=>lg λ H s ρ Q X F st I q=>GQ W.G F I (al h) (aP (al (ar h))) (aP (al (ar (ar h)))) (dt (ar (ar (ar h)))) q
 |.sub a i=>λ Z Z Z h=>lg λ H s ρ Q X F st I q=>Subscript_ (aq ((ev W a (al (ar h))).1 H s ρ _ X F st I q) (λ v s1 h1=>by
   obtain ⟨u,H1,q1,r1,I1,S1,M1⟩:=h1
   refine gH S1 M1 ((ev W i (ar (ar h))).1 H1 s1 ρ _ X (F.step S1) (st.step S1) I1 q1) λ v2 s2 h2=>?_
   obtain ⟨u2,H2,q2,r2,I2,S2,M2⟩:=h2
   exact aq (nP (C9 (nt (al h))) W.am.u100 I2 (r1.mono S2.imm) r2 q2) (λ Z Z z=>(z.after S2 M2).after S1 M1) λ Z Z e=>e) λ Z Z e=>e)
 |.slc a lo hi'=>λ Z Z Z h=>lg λ H s ρ Q X F st I q=>Subscript_ (aq ((ev W a (al (ar h))).1 H s ρ _ X F st I q) (λ v s1 h1=>by
   obtain ⟨u,H1,q1,r1,I1,S1,M1⟩:=h1
   refine wpAny_Slice (gH S1 M1 (NF W lo (al (ar (ar h))) H1 s1 ρ _ X (F.step S1) (st.step S1) I1 q1) λ v2 s2 h2=>?_)
   obtain ⟨u2,H2,q2,r2,I2,S2,M2⟩:=h2
   refine gH (S1.trans S2) (M1.trans M2) (NF W hi' (ar (ar (ar h))) H2 s2 ρ _ X ((F.step S1).step S2) ((st.step S1).step S2) I2 q2) λ v3 s3 h3=>?_
   obtain ⟨u3,H3,q3,r3,I3,S3,M3⟩:=h3
   refine we (evalPart_none _) (ah ?_)
   exact aq (Ev (((F.step S1).step S2).step S3).lok I3 ((r1.mono S2.imm).mono S3.imm) (r2.mono S3.imm) r3 q3 (λ o i=>rfl) (EG (al h))) (λ Z Z z=>((z.after S3 M3).after S2 M2).after S1 M1) λ Z Z e=>e) λ Z Z e=>e)
 |.attr a n=>λ Z Z Z h=>lg λ H s ρ Q X F st I q=>Attribute_any_ (aq ((ev W a (ar h)).1 H s ρ _ X F st I q) (λ v s1 h1=>by
   obtain ⟨u,H1,q1,r1,I1,S1,M1⟩:=h1
   exact aq (wO W.G.toGood I1 r1 q1) (λ Z Z z=>z.after S1 M1) λ Z Z e=>e) λ Z Z e=>e) (qD (al h))
 |.call f as=>λ Z Z Z h=>lg λ H s ρ Q X F st I q=>we (xJ (nt (al h))) (ae (aq ((ev W f (al (ar h))).1 H s ρ _ X F st I q) (λ v s1 h1=>by
   obtain ⟨u,H1,q1,r1,I1,S1,M1⟩:=h1
   refine aL (Fs q1) λ k r1_ q1=>?_
   subst r1_
   refine md W.G (by refine af (yv r1) ?_;exact W.G.keep k) (ar (ar h)) (gH S1 M1 (JB W as (ar (ar h)) _ H1 s1 ρ _ X (F.step S1) (st.step S1) I1 q1) λ vs s2 h2=>?_)
   obtain ⟨us,H2,⟨_,q2⟩,r2,I2,S2,M2⟩:=h2
   exact ⟨W.G.X.keeps I2.base,aq (wz W ((st.step S1).step S2) ⟨_,((F.step S1).step S2).lok⟩ I2 (r1.mono S2.imm) r2 q2) (λ Z Z z=>(z.after S2 M2).after S1 M1) λ Z Z z=>(z.after S2 M2).after S1 M1⟩) λ Z Z e=>e))
 |.meth o n as=>λ Z Z Z h=>lg λ H s ρ Q X F st I q=>ae (we (mZ (al h)) (aq ((ev W o (al (ar (ar (ar h))))).1 H s ρ _ X F st I q) (λ v s1 h1=>by
   obtain ⟨u,H1,q1,r1,I1,S1,M1⟩:=h1
   refine aL (CS q1) λ g hg q1=>(ae (cq ?_))
   unfold methodCall
   refine af (to (ar (ar (ar (ar h)))) (aP (al (ar (ar h))))) ?_
   refine ae (bA (kN W.G I1 r1 hg (ae (lO (vD (eq_of_beq (al (ar h)))) ?_))))
   refine md W.G (W.G.keep g) (ar (ar (ar (ar h)))) (gH S1 M1 (JB W as (ar (ar (ar (ar h)))) _ H1 s1 ρ _ X (F.step S1) (st.step S1) I1 q1) λ vs s2 h2=>?_)
   obtain ⟨us,H2,⟨_,q2⟩,r2,I2,S2,M2⟩:=h2
   exact ⟨W.G.X.keeps I2.base,aq (wz W ((st.step S1).step S2) ⟨_,((F.step S1).step S2).lok⟩ I2 (u:=.fn g) FV (.cons (r1.mono S2.imm) r2) q2) (λ Z Z z=>(z.after S2 M2).after S1 M1) λ Z Z z=>(z.after S2 M2).after S1 M1⟩) λ Z Z e=>e))
 |.comp own fr el j it c=>λ Z Z Z h=>lg λ H s ρ Q X F st I q=>yI W ((ev W it (al (ar (ar (ar h))))).1) (λ cenv hs=>(ev W el (by refine af hs ?_;exact al (ar (ar (ar (ar h)))))).1) (λ cenv hs=>NG W c (by refine af hs ?_;exact ar (ar (ar (ar (ar h)))))) h F st I q nS λ Z Z e=>e
 |.comp2 own fr el j it c j2 it2=>λ Z Z Z h=>lg λ H s ρ Q X F st I q=>wJ W ((ev W it (al (ar (ar (ar (ar (ar (ar h)))))))).1) (λ cenv hs=>(ev W el (by refine af hs ?_;exact al (ar (ar (ar (ar (ar (ar (ar h))))))))).1)
   (λ cenv hs=>(ev W c (by refine af hs ?_;exact al (ar (ar (ar (ar (ar (ar (ar (ar h)))))))))).2) (λ cenv hs=>(ev W it2 (by refine af hs ?_;exact ar (ar (ar (ar (ar (ar (ar (ar (ar h)))))))))).1) h F st I q nS λ Z Z e=>e
 |.stuck=>λ Z Z Z Z=>⟨λ Z Z Z Z Z Z Z Z q=>q.elim,λ Z Z Z Z Z Z Z Z q=>q.elim⟩
theorem JB (W:zw cx tb gl A lv):∀(es:List Mine.E),LO cx tb gl A lv es
 |[]=>λ Z Z Z Z=>λ Z H s ρ Q X F st I q=>wQ ⟨[],H,⟨rfl,q⟩,.nil,I,.refl,.refl⟩
 |e::es=>λ Z Z Z h=>λ pos H s ρ Q X F st I q=>mH (aq ((ev W e (al (ar h))).1 H s ρ _ X F st I q) (λ v s1 h1=>by
   obtain ⟨u,H1,q1,r1,I1,S1,M1⟩:=h1
   refine gH S1 M1 (JB W es (ar (ar h)) pos H1 s1 ρ _ X (F.step S1) (st.step S1) I1 q1) λ vs s2 h2=>?_
   obtain ⟨us,H2,⟨l2,q2⟩,r2,I2,S2,M2⟩:=h2
   exact ⟨u::us,H2,⟨congrArg nz l2,q2⟩,.cons (r1.mono S2.imm) r2,I2,S1.trans S2,M1.trans M2⟩) λ Z Z e=>e) (jW (nt (al h)))
theorem NF (W:zw cx tb gl A lv):∀(e:Option Mine.E),M8 cx tb gl A lv e
 |none=>λ Z Z Z Z=>λ Z Z Z Z Z Z Z I q=>we (evalPart_none _) (ah (bO.here I my q))
 |some e=>λ Z Z Z h=>λ H s ρ Q X F st I q=>we (evalPart_some _ _) ((ev W e h).1 H s ρ Q X F st I q)
theorem NG (W:zw cx tb gl A lv):∀(e:Option Mine.E),Nz cx tb gl A lv e
 |none=>λ Z Z Z Z=>λ H Z Z Z Z Z I q=>wpAny_tests_nil ⟨H,q,I,.refl,.refl⟩
 |some e=>λ Z Z Z h=>λ H s ρ R F st I q=>wpAny_tests_one ((ev W e h).2 H s ρ _ _ F st I q)
theorem GM (W:zw cx tb gl A lv):∀(es:List Mine.E),LI cx tb gl A lv es
 |[]=>λ c Z Z Z Z=>λ Z Z Z Z Z Z Z Z Z q=>q.elim
 |[e]=>λ c Z Z Z h=>λ Z H s ρ Q X F st I q=>(ev W e (al (ar h))).1 H s ρ Q X F st I q
 |e::e2::es=>λ c Z Z Z h=>λ pos H s ρ Q X F st I q=>ae (aq ((ev W e (al (ar h))).1 H s ρ _ X F st I q) (λ v s1 h1=>by
   obtain ⟨u,H1,q1,r1,I1,S1,M1⟩:=h1
   refine aL (Ci q1) λ b e q1=>(ae (cq (ae (bA (tF r1 e ?_)))))
   cases c<;>cases b<;>first
    |exact aq (GM W (e2::es) (ar (ar h)) pos H1 s1 ρ Q X (F.step S1) (st.step S1) I1 q1) (λ Z Z z=>z.after S1 M1) λ Z Z z=>z.after S1 M1
    |exact ah (bO.after S1 M1 (bO.here I1 r1 q1))) λ Z Z e=>e)
theorem K5 (W:zw cx tb gl A lv):∀(es:List Mine.E) {c:Bool} {t:PT} {nm:List aw} {au:i4},okEs gl au.scope nm es t=true->Na cx tb A lv nm au (cond c .And .Or) c es (emEs nm es t)
 |[],true,_,_,_,_=>λ H Z Z Z Z Z Z I q=>wpAny_allTrue_And_nil ⟨H,q,I,.refl,.refl⟩
 |[],false,_,_,_,_=>λ H Z Z Z Z Z Z I q=>wpAny_allTrue_Or_nil ⟨H,q,I,.refl,.refl⟩
 |e::es,true,_,_,_,h=>λ H s ρ Q X F st I q=>wpAny_allTrue_And_cons (aq ((ev W e (al (ar h))).2 H s ρ _ X F st I q) (λ b s1 h1=>by
   obtain ⟨H1,q1,I1,S1,M1⟩:=h1
   cases b with
   |true=>exact (K5 W es (c:=true) (ar (ar h))).after F st S1 M1 I1 q1
   |false=>exact ⟨H1,q1,I1,S1,M1⟩) λ Z Z e=>e)
 |e::es,false,_,_,_,h=>λ H s ρ Q X F st I q=>wpAny_allTrue_Or_cons (aq ((ev W e (al (ar h))).2 H s ρ _ X F st I q) (λ b s1 h1=>by
   obtain ⟨H1,q1,I1,S1,M1⟩:=h1
   cases b with
   |false=>exact (K5 W es (c:=false) (ar (ar h))).after F st S1 M1 I1 q1
   |true=>exact ⟨H1,q1,I1,S1,M1⟩) λ Z Z e=>e)
end
end
def PF (au:i4):aI->Prop:=λ a=>a=au.locals\/∃n,au.cells.lookup n=some a
theorem bf.mono (x:bf P H h H' h') (k:∀a,P a->P' a):bf P' H h H' h':=
 ⟨x.imm,λ a m e f n=>x.ns a m e f λ z=>n (k _ z),λ a v e n=>x.cell a v e λ z=>n (k _ z),x.nsP,x.fresh,x.there,λ a o e q f n=>x.kp a o e q f λ z=>n (k _ z)⟩
theorem bf.storeC (n:h.IsCell c v) (n':h'.IsCell c v') (sb:dm c h h') (p:P c):bf P H h H h':=by
 refine aL (id n) λ o ho hd=>(aL n' λ o' ho' Z=>?_)
 have ne:∀b m,h.Ns b m->b≠c:=λ b m e q=>by
  refine iV e λ ob es ep e1 d Z=>?_
  rw [q,ho] at e1;(have e1:=ac e1;subst e1);rw [hd] at d;exact gf d rfl
 have k:∀b o,b≠c->h.get? b=some o->h'.get? b=some o:=λ b o q e=>(sb.2 b q).trans e
 refine ⟨λ b ob e i=>k b ob (λ q=>?_) e,λ b m e Z Z=>e.sameBut sb (ne b m e),λ b v e np=>?_,λ b m e Z=>⟨m,e.sameBut sb (ne b m e)⟩,λ Z x y=>absurd x y,λ b ob e=>?_,λ b ob e Z Z np=>k b ob (λ q=>np (q▸p)) e⟩
 ·rw [q,ho] at e;(have e:=ac e;subst e)
  rcases i with ⟨xs,n,z,_⟩|⟨vs,z,_⟩<;>(rw [hd] at z;exact gf z rfl)
 ·exact e.sameBut sb λ q=>np (q▸p)
 ·by_cases q:b=c
  ·exact ⟨o',q▸ho'⟩
  ·exact ⟨ob,k b ob q e⟩
namespace cb.storeC
def S_ (cx h v):=∀{H:MH} {h':cO} (I:cb cx H h) {c:aI} (n:h.IsCell c v) (sb:dm c h h') (hb:cx.base.objs.size<=c),cb cx H h'
def U_:=UU λ cx=>UU λ h=>S_ cx h
def t_:=dr (by have:=tJ;infer_instance) U_
def cx:=t_.1
def h:=t_.2.1
def v:=t_.2.2
theorem P_:S_ cx h v:=by
 intro H h' I c n sb hb
 refine aL n λ o ho hd=>?_
 have ni:¬tK o:=by rintro (⟨xs,n,z,_⟩|⟨vs,z,_⟩)<;>(rw [hd] at z;exact gf z rfl)
 refine I.moved (λ b ob e i=>(sb.2 b λ q=>?_).trans e) (λ b ob e=>(sb.2 b λ q=>?_).trans (I.base b ob e)) λ b nf=>sb.2 b λ q=>?_
 ·rw [q,ho] at e;(have e:=ac e;subst e);exact ni i
 ·rw [q] at e;exact absurd (bz e) (dw.mpr hb)
 ·subst q
  have:(∃mo,H b=some mo)\/∃a cl as,H a=some (.inst cl b as):=by
   cases z:H b with
   |some mo=>exact .inl ⟨mo,rfl⟩
   |none=>exact .inr (ew λ y=>nf ⟨z,λ a cl as e=>y ⟨a,cl,as,e⟩⟩)
  rcases this with ⟨mo,e⟩|⟨a,cl,as,e⟩
  ·have r:=I.own _ _ e
   cases mo with
   |list us=>obtain ⟨_,_,g,_⟩:=r;rw [ho] at g;cases g;cases hd
   |sdict es=>obtain ⟨_,⟨o',_,_,g,_,d,_⟩,_⟩:=r;rw [ho] at g;cases g;rw [hd] at d;cases d
   |idict f n=>obtain ⟨_,⟨o',_,_,g,_,d,_⟩,_⟩:=r;rw [ho] at g;cases g;rw [hd] at d;cases d
   |tdict es=>obtain ⟨_,⟨o',_,_,g,_,d,_⟩,_⟩:=r;rw [ho] at g;cases g;rw [hd] at d;cases d
   |edict=>obtain ⟨_,g⟩:=r;rw [ho] at g;cases g;cases hd
   |inst c d as=>obtain ⟨_,_,_,_,g,_⟩:=r;rw [ho] at g;cases g;cases hd
  ·refine kg (I.own _ _ e) λ Z Z Z Z Z g Z=>?_
   rw [ho] at g;cases g;cases hd
theorem A_:∀p,U_ p:=bC P_
end cb.storeC
theorem cb.storeC {cx h v}:cb.storeC.S_ cx h v:=cb.storeC.A_ (cx,h,v)
noncomputable def stName (sc:gA) (x:aw):Bool:=sc.names.lookup x==some .local||sc.names.lookup x==some .cell
section
variable {cx:Cx}
theorem oH (F:Fm cx au nm H ρ s.heap) (I:cb cx H s.heap) (hn:nm[i]?=some x) (hk:stName au.scope x=true) (r:VRel cx s.heap u v)
  (k:∀s',Fm cx au nm H (ρ.set i (some u)) s'.heap->cb cx H s'.heap->bf (PF au) H s.heap H s'.heap->dS s s'->R () s'):aE (ay cx.prog cx.w) A (storeName au x v) R Ex s:=by
 unfold stName at hk
 simp only [jt,beq_iff_eq] at hk
 refine cu (id F.slots) λ m cm h1 h2 h3=>?_
 by_cases hl:au.kindOf x=some .local
 ·refine jv hl h1 (λ h' hn' hs'=>?_) (by refine af F.kind ?_;rfl)
  exact k {s with heap:=h',toks:=s.toks+1} (F.store hn hl h1 hn' hs' (VRel.mono (bf.store (P:=PF au) (H:=H) h1 hn' hs' (.inl rfl)).imm _ r)) (I.store h1 hs' F.free F.aboveL) (bf.store h1 hn' hs' (.inl rfl)) ⟨rfl,rfl,rfl⟩
 ·have hc:au.kindOf x=some .cell:=hk.resolve_left hl
  refine bw (F.cellsAll x hc) λ c hcl=>?_
  have h2c:=h2 x c hcl
  refine wpAny_storeName_cell F.kind hc hcl h2c λ h' hn' hs'=>?_
  have S:bf (PF au) H s.heap H h':=bf.storeC h2c hn' hs' (.inr ⟨x,hcl⟩)
  refine k {s with heap:=h'} ?_ (I.storeC h2c hs' (F.aboveC x c hcl)) S ⟨rfl,rfl,rfl⟩
  have nL:au.locals≠c:=λ q=>by
   refine aL h2c λ o g1 g2=>?_
   rw [<-q] at g1
   exact (ke h1 g1).2 _ g2
  refine ⟨F.kind,F.glob,F.blt,F.nd,by exact af ju F.len,F.apart,F.aboveL,F.aboveC,F.cellsAll,F.free,m,(λ y=>if y=x then some v else cm y),h1.sameBut hs' nL,λ n c' e=>?_,λ j y e=>?_⟩
  ·by_cases q:n=x
   ·subst q
    rw [hcl] at e;(have e:=ac e;subst e)
    show h'.IsCell _ (if n=n then some v else cm n)
    exact af (if_pos rfl) hn'
   ·show h'.IsCell _ (if n=x then some v else cm n)
    refine af (if_neg q) ?_
    exact (h2 n c' e).sameBut hs' (F.apart _ _ _ _ e hcl q)
  ·by_cases q:i=j
   ·subst q
    rw [hn] at e;(have e:=ac e;subst e)
    refine .inr ⟨.inl hc,⟨c,hcl⟩,λ u' hu=>?_⟩
    rw [pY (by refine af F.len ?_;exact (aO.mp hn).1)] at hu
    (have hu:=ac hu;subst hu)
    exact ⟨v,if_pos rfl,VRel.mono S.imm _ r⟩
   ·refine af (o5 q) ?_
    rcases h3 j y e with ⟨c1,c2⟩|⟨c1,c2,c3⟩
    ·exact .inl ⟨c1,λ u hu=>let ⟨v,e1,e2⟩:=c2 u hu;⟨v,e1,VRel.mono S.imm _ e2⟩⟩
    ·exact .inr ⟨c1,c2,λ u hu=>let ⟨v,e1,e2⟩:=c3 u hu;⟨v,(if_neg (C7 F.nd q hn e)).trans e1,VRel.mono S.imm _ e2⟩⟩
theorem yN.cls {St:Nat->cO->Prop} (J:yN cx A h0 u us I fp P St) (st:St i h):
  ∃o vs T,h.get? I=some o/\o.data=.fields vs/\o.cls=.type T/\["enumerate","zip","dict_itemiterator","dict_reverseitemiterator","odict_iterator","itertools.zip_longest","itertools.pairwise"].contains T=false:=by
 refine fy (J.kpI i h st) λ o ho k Z t1_=>(bw t1_ λ vs hd=>?_)
 rcases k with ⟨_,_,q⟩|⟨_,_,q|q|q|q⟩
 ·rw [hd] at q;exact gf q rfl
 ·exact ⟨o,vs,_,ho,hd,q,by decide⟩
 ·exact ⟨o,vs,_,ho,hd,q,by decide⟩
 ·exact ⟨o,vs,_,ho,hd,q,by decide⟩
 ·exact ⟨o,vs,_,ho,hd,q,by decide⟩
theorem yW {St:Nat->cO->Prop} (J:yN cx A h0 u us It fp P St):∀(n i:Nat) (s:ax) (R:List av->ax->Prop),i+n<=us.length->St i s.heap->bQ h0 s.heap->
  (∀vs h' tk,VRels cx h' ((us.drop i).take n) vs->St (i+n) h'->(∀b o,b≠It->s.heap.get? b=some o->h'.get? b=some o)->R vs {s with heap:=h',toks:=tk})->aE (ay cx.prog cx.w) A (draw (.ref It) n) R Ex s
 |0,i,s,R,_,st,_,k=>ah (by simpa using k [] s.heap s.toks (by simpa using VRels.nil) st λ Z Z Z e=>e)
 |n+1,i,s,R,hle,st,ki,k=>by
  refine ae (J.W.item i _ _ _ (by lia) st λ v h1 tk1 hP st1 k1=>?_)
  have k1':∀b o,b≠It->s.heap.get? b=some o->h1.get? b=some o:=λ b o n e=>k1 b o (by simpa using n) e
  refine fy (J.kpI _ _ st) λ oI hoI Z niI Z=>?_
  have ki1:bQ s.heap h1:=λ b ob e i=>k1' b ob (λ z=>by rw [z,hoI] at e;(have e:=ac e;subst e);exact niI i) e
  obtain ⟨u1,hu1⟩:∃u1,us[i]?=some u1:=⟨_,an (by lia)⟩
  have hd:us.drop i=u1::us.drop (i+1):=by
   refine af (cC (by lia)) ?_
   rw [an (by lia)] at hu1;(have hu1:=ac hu1;subst hu1);rfl
  refine ae (bA (yW J n (i+1) {s with heap:=h1,toks:=tk1} _ (by lia) st1 (λ a o e i=>ki1 a o (ki a o e i) i) λ vs h2 tk2 r2 st2 k2=>ah ?_))
  have rv:VRel cx h2 u1 v:=J.val i v u1 h2 hP hu1 (λ a o e i=>by
   exact fy (J.kpI _ _ st1) λ oI1 hoI1 Z niI1 Z=>(k2 a o (λ z=>by rw [z] at e;have:=ki1 _ _ (ki _ _ e i) i;rw [hoI1] at this;(have this:=ac this;subst this);exact niI1 i) (ki1 _ _ (ki _ _ e i) i)))
  refine k (v::vs) h2 tk2 ?_ (by exact af (show i+(n+1)=i+1+n by lia) st2) λ b o nb e=>k2 b o nb (k1' b o nb e)
  refine af hd (af List.take_succ_cons ?_)
  exact .cons rv r2
theorem tL (h:seqOf H u=some us):itemsOf H u=some us:=by
 cases u<;>first|exact h|exact bF h
end
namespace eX
def S_ (cx s A n):=∀{H:MH} {Ex:av->ax->Prop} {u:V} {us:List V} {v:av} {R:List av->ax->Prop} (hA:A.handled=none) (I:cb cx H s.heap) (ru:VRel cx s.heap u v) (hi:seqOf H u=some us) (hn:us.length=n) (k:∀vs h' tk,VRels cx h' us vs->(∀b o,s.heap.get? b=some o->h'.get? b=some o)->R vs {s with heap:=h',toks:=tk}),aE (ay cx.prog cx.w) A (unpackItems v n none) R Ex s
def U_:=UV λ cx s A=>S_ cx s A
def t_:=dr (by have:=qe;have:=pH;have:=tJ;infer_instance) U_
def cx:=t_.1
def s:=t_.2.1
def A:=t_.2.2.1
def n:=t_.2.2.2
theorem P_:S_ cx s A n:=by
 intro H Ex u us v R hA I ru hi hn k
 have start:(∃T id,s.TypeIs v T/\Slot T "__iter__" id):=by
  cases u with
  |tuple us'=>obtain ⟨a,aB,rfl,ht,_⟩:=fA ru;exact ⟨_,_,ht.typeIs,slot_tuple_iter⟩
  |ref a=>
   have:=dh ru;subst this
   have e:=gI (tL hi)
   exact f7 (I.own _ _ e) λ aB nn ho Z=>⟨_,_,(show s.heap.IsList a aB from ⟨_,ho,rfl,nn,rfl⟩).typeIs,slot_list_iter⟩
  |_=>exact bF hi
 refine f7 start λ T id hT sl=>?_
 refine ae (ae (wpAny_specialOf hT sl.lookup (ah ?_)))
 simp only [ch,if_false]
 refine ae (bA (ql hA I ru (tL hi) λ fp P St h1 J k1 z1 st1=>?_))
 refine ae (bA (yW J n 0 {s with heap:=h1} _ (by lia) st1 (bQ.of_keeps k1) λ vs h2 tk2 r2 st2 k2=>?_))
 have hall:(us.drop 0).take n=us:=by refine af t5 ?_;exact iw (gm ‹_›)
 rw [hall] at r2
 rw [if_neg (by refine af r2.len ?_;lia)]
 have st2:St us.length h2:=by refine af hn ?_;simpa using st2
 refine ae (bA (J.W.done _ _ _ st2 λ h3 tk3 k3=>?_))
 simp only [Option.isSome_none,ch,if_false]
 have ne:∀b o,s.heap.get? b=some o->b≠s.heap.objs.size:=λ b o e=>dN (bz e)
 refine fy (J.kpI _ _ st2) λ oI hoI Z niI Z=>?_
 have ki3:bQ h2 h3:=λ b ob e i=>k3 b ob (λ z=>by rw [aK.mp z,hoI] at e;cases e;exact niI i) e
 refine ah (k vs h3 tk3 (r2.mono ki3 us) λ b o e=>k3 b o (by simpa using ne b o e) (k2 b o (ne b o e) (k1 b o e)))
theorem A_:∀p,U_ p:=bC P_
end eX
section
variable {cx:Cx}
theorem eX {cx s A n}:eX.S_ cx s A n:=eX.A_ (cx,s,A,n)
end
inductive FZ (cx:Cx) (au:i4) (nm:List aw) (H:MH) (s:ax) (N:db->MH->Prop) (s':ax):Prop
 |mk (ρ' H') (h1:N ρ' H') (h2:Fm cx au nm H' ρ' s'.heap) (h3:cb cx H' s'.heap) (h4:bf (PF au) H s.heap H' s'.heap) (h5:dS s s'):FZ cx au nm H s N s'
inductive Gd (cx:Cx) (au:i4) (H:MH) (s:ax) (R:V->MH->Prop) (v:av) (s':ax):Prop
 |mk (u H') (h1:R u H') (h2:VRel cx s'.heap u v) (h3:cb cx H' s'.heap) (h4:bf (PF au) H s.heap H' s'.heap) (h5:dS s s'):Gd cx au H s R v s'
def gJ (cx:Cx) (au:i4) (nm:List aw) (H:MH) (s:ax) (N:db->MH->Prop) (R:V->MH->Prop) (f:Flow) (s':ax):Prop:=match f with
 |.next=>FZ cx au nm H s N s'
 |.ret v=>Gd cx au H s R v s'
 |_=>False
theorem gJ.after (st:bf (PF au) H s.heap H1 s1.heap) (sm:dS s s1) (p:gJ cx au nm H1 s1 N R f s'):gJ cx au nm H s N R f s':=by
 cases f with
 |next=>obtain ⟨ρ',H',q,F,I,x,y⟩:=p;exact ⟨ρ',H',q,F,I,st.trans x,sm.trans y⟩
 |ret v=>obtain ⟨u,H',q,r,I,x,y⟩:=p;exact ⟨u,H',q,r,I,st.trans x,sm.trans y⟩
 |brk=>exact p.elim
 |cont=>exact p.elim
noncomputable def emNs (nm:List aw):List Nat->PT->List Expr
 |[],_=>[]
 |i::is,t=>.Name (nmAt nm i) t.l.p::emNs nm is t.r
noncomputable def emT (nm:List aw):T->PT->Expr
 |.loc i,t=>.Name (nmAt nm i) t.p
 |.tup is,t=>.Tuple (emNs nm is t.l) t.k t.p
noncomputable def okNs (sc:gA) (nm:List aw) (is:List Nat):Bool:=is.all λ i=>nm[i]?==some (nmAt nm i)&&stName sc (nmAt nm i)
noncomputable def okT (sc:gA) (nm:List aw):T->Bool
 |.loc i=>nm[i]?==some (nmAt nm i)&&stName sc (nmAt nm i)
 |.tup is=>okNs sc nm is
inductive rB (cx:Cx) (au:i4) (nm:List aw) (H:MH) (s:ax) (N:db->MH->Prop) (s':ax):Prop
 |mk (ρ') (h1:N ρ' H) (h2:Fm cx au nm H ρ' s'.heap) (h3:cb cx H s'.heap) (h4:bf (PF au) H s.heap H s'.heap) (h5:dS s s'):rB cx au nm H s N s'
section
variable {cx:Cx}
theorem jA (F:Fm cx au nm H ρ s.heap) (I:cb cx H s.heap) (hn:nm[i]?=some x) (hk:stName au.scope x=true) (r:VRel cx s.heap u v) (q:N (ρ.set i (some u)) H):
  aE (ay cx.prog cx.w) A (assign (.Name x px) au v) (λ Z s'=>rB cx au nm H s N s') Ex s:=
 lP (oH F I hn hk r λ s' F' I' S' M'=>⟨_,q,F',I',S',M'⟩)
inductive o6 (cx:Cx) (A:dz) (au:i4) (nm:List aw):List Nat->List (av->uX Unit)->Prop
 |nil:o6 cx A au nm [] []
 |cons {i is f fs} (h:∀v (Q:Unit->ax->Prop) E s,aE (ay cx.prog cx.w) A (storeName au (nmAt nm i) v) Q E s->aE (ay cx.prog cx.w) A (f v) Q E s) (r:o6 cx A au nm is fs):o6 cx A au nm (i::is) (f::fs)
theorem tv (hs:o6 cx A au nm is fs):∀{us:List V} {vs:List av} {s:ax} {ρ:db} {N:db->MH->Prop},okNs au.scope nm is=true->Fm cx au nm H ρ s.heap->cb cx H s.heap->us.length=is.length->VRels cx s.heap us vs->N (setAll ρ is us) H->
  aE (ay cx.prog cx.w) A (assignInOrder fs vs) (λ Z s'=>rB cx au nm H s N s') Ex s:=by
 induction hs with
 |nil=>exact λ {us} {_} {_} {ρ} {_} Z F I hl Z q=>ah ⟨ρ,by cases us with
  |nil=>exact q
  |cons _ _=>exact ta hl,F,I,.refl,.refl⟩
 |cons h _ ih=>
  intro us vs s ρ N ho F I hl r q
  cases us with
  |nil=>exact ta hl
  |cons u us=>
   refine cu r.cons_inv λ v vs' r1_ r1 r2=>?_
   subst r1_
   refine ae (bA (h _ _ _ _ (oH F I (eq_of_beq (al (al ho))) (ar (al ho)) r1 λ s' F' I' S' M'=>?_)))
   exact aq (ih (N:=N) (ar ho) F' I' (t8 hl) (r2.mono S'.imm _) q) (λ Z s2 ⟨ρ2,q2,F2,I2,S2,M2⟩=>⟨ρ2,q2,F2,I2,S'.trans S2,M'.trans M2⟩) λ Z Z e=>e
theorem pW:∀{is:List Nat} {t:PT},o6 cx A au nm is ((sf (emNs nm is t) au).map (·.2))
 |[],_=>.nil
 |_::_,_=>.cons (λ Z Z Z Z=>lP) pW
theorem pP:∀{is:List Nat},o6 cx A au nm is ((is.map (nmAt nm)).map λ n=>bindName au n)
 |[]=>.nil
 |_::_=>.cons (λ Z Z Z Z=>wpAny_bindName) pP
theorem m3:∀{is:List Nat} {t:PT},(sf (emNs nm is t) au).length=is.length/\(sf (emNs nm is t) au).findIdx? (·.1)=none
 |[],_=>⟨rfl,rfl⟩
 |_::is,t=>⟨congrArg nz (m3 (is:=is) (t:=t.r)).1,by
  refine af (List.findIdx?_cons) (af ((m3 (is:=is) (t:=t.r)).2) ?_);rfl⟩
theorem rC (hA:A.handled=none) (F:Fm cx au nm H ρ s.heap) (I:cb cx H s.heap) (h:okT au.scope nm x=true) (r:VRel cx s.heap u v) (q:assignT x u ρ H N):
  aE (ay cx.prog cx.w) A (assign (emT nm x t) au v) (λ Z s'=>rB cx au nm H s N s') Ex s:=by
 cases x with
 |loc i=>exact jA F I (eq_of_beq (al h)) (ar h) r q
 |tup is=>
  refine aL (rK q) λ us e q=>(bx (m3 (nm:=nm) (au:=au) (is:=is) (t:=t.l)) λ b c=>?_)
  refine ae (cq ?_)
  unfold unpack
  refine af c (af b ?_)
  refine ae (bA (eX hA I r e q.1 λ vs h' tk rs k=>?_))
  exact aq (tv pW (s:={s with heap:=h',toks:=tk}) (N:=N) h (F.step (bf.keeps k)) (I.keeps k) q.1 rs q.2) (λ Z s2 ⟨ρ2,q2,F2,I2,S2,M2⟩=>⟨ρ2,q2,F2,I2,(bf.keeps k).trans S2,dS.trans ⟨rfl,rfl,rfl⟩ M2⟩) λ Z Z e=>e
end
noncomputable def swC (n m:Nat):Bool:=!(n==2||n==3)||m !=n||ScopeKind.function !=.function
noncomputable def swOk (sc:gA) (nm:List aw) (line:Nat):List Nat->PT->Bool
 |[],_=>true
 |i::is,t=>(sc.names.lookup (nmAt nm i)==some .local&&t.l.p.line==line)&&swOk sc nm line is t.r
noncomputable def okSw (sc:gA) (nm:List aw) (is:List Nat) (t:PT):E->PT->Bool
 |.tup es,u=>swC (emNs nm is t).length (emEs nm es u.l).length||(!swC (emNs nm is t).length (emEs nm es u.l).length&&(decide is.Nodup&&(!((emEs nm es u.l).any λ|.Starred ..=>true|_=>false)&&(swOk sc nm (((emNs nm is t).head?.map (·.pos.line)).getD 0) is t&&
  (!((is.map (nmAt nm)).length !=(emNs nm is t).length||(is.map (nmAt nm)).eraseDups.length !=(is.map (nmAt nm)).length)&&(!((emEs nm es u.l).all (foldedForSure 8))&&!((emEs nm es u.l).all (constantsAlone 8))))))))
 |_,_=>true
theorem wf {au:i4} (h:au.scope.kind=.function):au.blockKind=.function:=by unfold Env.blockKind;refine af h ?_;rfl
theorem vz {au:i4}:∀{is:List Nat} {t:PT},swOk au.scope nm line is t=true->
  ((emNs nm is t).filterMap λ|.Name id pos=>if au.kindOf id==some .local&&pos.line==line then some id else none|_=>none)=is.map (nmAt nm)
 |[],_,_=>rfl
 |_::_,_,h=>by
  refine af (uZ (b:=nmAt nm _) (by exact if_pos (al h))) (af (vz (ar h)) ?_);rfl
theorem v9:∀{is:List Nat} {t:PT},(emNs nm is t).length=is.length
 |[],_=>rfl
 |_::is,t=>congrArg nz (v9 (is:=is) (t:=t.r))
theorem oa {α:Type} {x y:uX α} (h:b=false):(if b=true then x else y)=y:=by subst h;rfl
theorem EI (hk:au.scope.kind=.function) (h:swC (emNs nm is t).length (emEs nm es u).length=true):fX [.Tuple (emNs nm is t) c p] (.Tuple (emEs nm es u) k q) au=pure none:=by
 unfold fX
 refine af (wf hk) ?_
 exact if_pos h
theorem NZ (h:(false||(!false&&b))=true):b=true:=h
theorem E7 (hk:au.scope.kind=.function) (h:okSw au.scope nm is t (.tup es) u=true) (h0:swC (emNs nm is t).length (emEs nm es u.l).length=false):
  is.Nodup/\(is.length=2\/is.length=3)/\fX [.Tuple (emNs nm is t) c p] (.Tuple (emEs nm es u.l) k q) au=pure (some (is.map (nmAt nm))):=by
 have h1:(swC (emNs nm is t).length (emEs nm es u.l).length||_)=true:=h
 rw [h0] at h1
 have h2:=NZ h1
 refine ⟨dt (al h2),?_,?_⟩
 ·cases z:(emNs nm is t).length==2||(emNs nm is t).length==3 with
  |true=>rw [v9] at z;exact (nJ.mp z).imp eq_of_beq eq_of_beq
  |false=>unfold swC at h0;rw [z] at h0;cases h0
 ·have e:=vz (al (ar (ar h2)))
  unfold fX
  refine af (wf hk) ?_
  exact (oa h0).trans ((oa (nt (al (ar h2)))).trans ((oa ((congrArg (λ ns:List aw=>ns.length !=(emNs nm is t).length||ns.eraseDups.length !=ns.length) e).trans (nt (al (ar (ar (ar h2))))))).trans ((oa (nt (al (ar (ar (ar (ar h2))))))).trans ((oa (nt (ar (ar (ar (ar (ar h2))))))).trans (congrArg (λ l=>(pure (some l):uX (Option (List aw)))) e)))))
theorem uk {α:Type} {l:List α} (h:l.length=2):∃a b,l=[a,b]:=⟨_,_,List.eq_getElem_of_length_eq_two l h⟩
theorem mv {α:Type} {l:List α} (h:l.length=3):∃a b c,l=[a,b,c]:=⟨_,_,_,List.eq_getElem_of_length_eq_three l h⟩
theorem xx (hn:is.Nodup) (hl:is.length=2\/is.length=3) (hu:us.length=is.length):setAll ρ is.reverse us.reverse=setAll ρ is us:=by
 rcases hl with h|h
 ·refine CK (uk h) λ i j r1_=>?_
  subst r1_
  refine CK (uk (hu.trans h)) λ u v r1_=>?_
  subst r1_
  simp only [cc,aK] at hn
  exact jg _ _ (fT hn.1)
 ·refine iC (mv h) λ i j k r1_=>?_
  subst r1_
  refine iC (mv (hu.trans h)) λ u v w r1_=>?_
  subst r1_
  simp only [cc,aZ,aK,not_or,cI,or_false] at hn
  show ((ρ.set k (some w)).set j (some v)).set i (some u)=((ρ.set i (some u)).set j (some v)).set k (some w)
  have n1:i≠j:=hn.1.1
  have n2:i≠k:=hn.1.2
  have n3:j≠k:=hn.2.1
  exact af (jg _ _ (fT n3)) (af (jg (i:=k) (j:=i) _ _ (fT n2)) (af (jg (i:=j) (j:=i) _ _ (fT n1)) rfl))
theorem nU (h:isComp value=false):swapsWith value t line au=pure false:=by
 cases value<;>first|rfl|cases h
theorem xd:∃b,swapsWith value (some (.Name x px)) line au=pure b:=by
 cases value<;>exact ⟨_,rfl⟩
theorem As:qp [.Tuple ts c px] value line au=pure false:=by
 cases value<;>rfl
theorem qP:qp [.Attribute o n px] value line au=pure false:=by
 cases value<;>rfl
theorem z8:qp [.Subscript o i px] value line au=pure false:=by
 cases value<;>rfl
section
variable {cx:Cx}
theorem rB.toS (p:rB cx au nm H s N s'):gJ cx au nm H s N R .next s':=
 let ⟨ρ',q,F,I,S,M⟩:=p;⟨ρ',H,q,F,I,S,M⟩
theorem VRels.rev:∀{us:List V} {vs:List av},VRels cx h us vs->VRels cx h us.reverse vs.reverse
 |[],_,r=>by cases r.nil_inv;exact .nil
 |u::us,_,r=>by
  refine cu r.cons_inv λ v vs' r1_ r1 r2=>?_
  subst r1_
  refine af DO (af DO ?_)
  exact (VRels.rev r2).app (.one r1)
theorem EV (hA:A.handled=none) (F:Fm cx au nm H ρ s.heap) (I:cb cx H s.heap)
  (h:okNs au.scope nm is=true) (hn:is.Nodup) (hl:is.length=2\/is.length=3) (r:VRel cx s.heap u v) (e:seqOf H u=some us) (q:us.length=is.length/\N (setAll ρ is us) H):
  aE (ay cx.prog cx.w) A (assignStores au v (some (is.map (nmAt nm))) stores) (gJ cx au nm H s N R) Ex s:=by
 show aE _ _ (do
  rule "assign.swapped-stores"
  let aB<-unpackItems v (is.map (nmAt nm)).length none
  assignInOrder ((is.map (nmAt nm)).reverse.map λ n=>bindName au n) aB.reverse
  pure Flow.next) _ _ _
 refine af List.map_reverse.symm ?_
 refine ae (jH (ae (eX hA I r e (q.1.trans (ag _).symm) λ vs h' tk rs k=>?_)))
 refine ae (aq (tv pP (s:={s with heap:=h',toks:=tk}) (N:=N) (us:=us.reverse) (List.all_reverse.trans h) (F.step (bf.keeps k)) (I.keeps k) (jK.trans (q.1.trans jK.symm)) rs.rev ?_) (λ Z s2 ⟨ρ2,q2,F2,I2,S2,M2⟩=>?_) λ Z Z e=>e)
 ·exact af (xx hn hl q.1) q.2
 ·exact ah (rB.toS ⟨ρ2,q2,F2,I2,(bf.keeps k).trans S2,dS.trans ⟨rfl,rfl,rfl⟩ M2⟩)
theorem Fm.beside (F:Fm cx au nm H ρ h) (n:h.Ns C m) (sb:dm C h h') (nL:au.locals≠C) (nC:∀x c,au.cells.lookup x=some c->c≠C):Fm cx au nm H ρ h':=by
 refine cu F.slots λ m1 cm b c d=>?_
 have ki:bQ h h':=λ b ob e i=>(sb.2 b (λ q=>by subst q;exact (ke n e).1 i)).trans e
 refine ⟨F.kind,F.glob,F.blt,F.nd,F.len,F.apart,F.aboveL,F.aboveC,F.cellsAll,F.free,m1,cm,b.sameBut sb nL,λ n c' e=>(c n c' e).sameBut sb (nC n c' e),λ i y e=>?_⟩
 rcases d i y e with ⟨c1,c2⟩|⟨c1,c2,c3⟩
 ·exact .inl ⟨c1,λ u hu=>let ⟨v,e1,e2⟩:=c2 u hu;⟨v,e1,VRel.mono ki _ e2⟩⟩
 ·exact .inr ⟨c1,c2,λ u hu=>let ⟨v,e1,e2⟩:=c3 u hu;⟨v,e1,VRel.mono ki _ e2⟩⟩
theorem Fm.notNew (F:Fm cx au nm H ρ h) (n:h.get? C=none):au.locals≠C/\∀x c,au.cells.lookup x=some c->c≠C:=by
 refine cu F.slots λ m1 cm b c d=>⟨λ q=>?_,λ x c' e q=>?_⟩
 ·refine bw (gw b) λ o ho=>?_
  rw [q,n] at ho;exact bF ho
 ·refine aL (c x c' e) λ o ho Z=>?_
  rw [q,n] at ho;cases ho
theorem Fm.notPF (F:Fm cx au nm H ρ h) (n:h.get? C=none):¬PF au C:=by
 refine bx (F.notNew n) λ a b=>?_
 rintro (z|⟨x,e⟩)
 ·exact a z.symm
 ·exact b x C e rfl
theorem sN (F:Fm cx au nm H ρ s.heap) (hn:nm[i]?=some y) (hk:stName au.scope y=true):
  CompFin cx A Ex (some λ v=>assign (.Name y py) au v) (λ Z s'=>gJ cx au nm H s N R .next s') H s (λ u H'=>N (ρ.set i (some u)) H'):=by
 intro D C s' H' m q nC hb hm hDC fC I' S' M'
 have F':=F.step S'
 refine bx (F.notNew nC) λ nL nCs=>?_
 refine aq (jA F' I' hn hk lX q) (λ Z s2 h2=>?_) λ Z Z e=>e
 obtain ⟨ρ2,q2,F2,I2,S2,M2⟩:=h2
 have hm2:=S2.ns _ _ hm fC (F.notPF nC)
 refine ⟨m,hm2,λ h' sb=>⟨ρ2,H',q2,F2.beside hm2 sb nL nCs,I2.store hm2 sb fC hb,?_,(M'.trans M2).trans ⟨rfl,rfl,rfl⟩⟩⟩
 exact (S'.weak.trans S2).chg nC λ b o n e=>(sb.2 b n).trans e
end
section
variable (cx:Cx) (tb:ow) (gl:GL) (A:dz) (lv:Nat)
def Ie (nm:List aw) (au:i4) (e:Mine.S) (x:lz):Prop:=∀(H:MH) (s:ax) (ρ:db) (N:db->MH->Prop) (R:V->MH->Prop) (X:aw->MH->Prop),Fm cx au nm H ρ s.heap->iF cx A H s.heap->cb cx H s.heap->
 wpS tb lv e ρ H N R X->aE (ay cx.prog cx.w) A (exec x au) (gJ cx au nm H s N R) (cj cx (PF au) H s X) s
def Dx (nm:List aw) (au:i4) (e:List Mine.S) (x:List lz):Prop:=∀(H:MH) (s:ax) (ρ:db) (N:db->MH->Prop) (R:V->MH->Prop) (X:aw->MH->Prop),Fm cx au nm H ρ s.heap->iF cx A H s.heap->cb cx H s.heap->
 wpSs tb lv e ρ H N R X->aE (ay cx.prog cx.w) A (execs x au) (gJ cx au nm H s N R) (cj cx (PF au) H s X) s
end
inductive Gp (te:db->MH->(Bool->MH->Prop)->Prop) (bo:db->MH->(db->MH->Prop)->Prop) (N:db->MH->Prop) (cx:Cx) (A:dz) (au:i4) (nm:List aw) (H:MH) (s:ax) (n:Nat) (s':ax):Prop
 |mk (ρ' H') (g1:whileW te bo N n ρ' H') (g2:Fm cx au nm H' ρ' s'.heap) (g3:iF cx A H' s'.heap) (g4:cb cx H' s'.heap) (g5:bf (PF au) H s.heap H' s'.heap) (g6:dS s s'):Gp te bo N cx A au nm H s n s'
inductive F9 (bo:V->db->MH->(db->MH->Prop)->Prop) (N:db->MH->Prop) (cx:Cx) (A:dz) (au:i4) (nm:List aw) (us:List V) (St:Nat->cO->Prop) (H1:MH) (u:V) (s1:ax) (n:Nat) (s':ax):Prop
 |mk (i Hc ρc) (g1:n=us.length+1 -i) (g2:i<=us.length) (g3:St i s'.heap) (g4:forW bo (us.drop i) ρc Hc N) (g5:Fm cx au nm Hc ρc s'.heap) (g6:iF cx A Hc s'.heap) (g7:cb cx Hc s'.heap) (g8:bf (PF au) (asideOf H1 u) s1.heap Hc s'.heap) (g9:dS s1 s') (g10:ci Hc s1.heap.objs.size) (g11:∀a,u=.ref a->ci Hc a):F9 bo N cx A au nm us St H1 u s1 n s'
section
variable {cx:Cx}
end
namespace mf
def S_ (cx tb A lv nm au t b y bs H s N R X):=∀{pos:Bx} {ρ:db} (it:HD cx tb A lv nm au t y) (ib:Dx cx tb A lv nm au b bs) (F:Fm cx au nm H ρ s.heap) (st:iF cx A H s.heap) (I:cb cx H s.heap) (q:wpS tb lv (.while_ t b) ρ H N R X),aE (ay cx.prog cx.w) A (exec (.While y bs [] pos) au) (gJ cx au nm H s N R) (cj cx (PF au) H s X) s
def U_:=UV λ cx tb A=>UV λ lv nm au=>UV λ t b y=>UV λ bs H s=>UU λ N=>UU λ R=>S_ cx tb A lv nm au t b y bs H s N R
def t_:=dr (by have:=qe;have:=pH;have:=tJ;have:=LY;infer_instance) U_
def cx:=t_.1
def tb:=t_.2.1
def A:=t_.2.2.1
def lv:=t_.2.2.2.1
def nm:=t_.2.2.2.2.1
def au:=t_.2.2.2.2.2.1
def s1_:=t_.2.2.2.2.2.2
def t:=s1_.1
def b:=s1_.2.1
def y:=s1_.2.2.1
def bs:=s1_.2.2.2.1
def H:=s1_.2.2.2.2.1
def s:=s1_.2.2.2.2.2.1
def s2_:=s1_.2.2.2.2.2.2
def N:=s2_.1
def R:=s2_.2.1
def X:=s2_.2.2
theorem P_:S_ cx tb A lv nm au t b y bs H s N R X:=by
 intro pos ρ it ib F st I q
 have q:∃n,whileW (λ ρ H K=>wpE tb lv true t ρ H (λ u H1=>Au u λ r=>K r H1) j9) (λ ρ H K=>wpSs tb lv b ρ H K R j9) N n ρ H:=q
 refine bw q λ n q=>?_
 refine wpAny_While (codeAny_whileLoop (Gp (λ ρ H K=>wpE tb lv true t ρ H (λ u H1=>Au u λ r=>K r H1) j9) (λ ρ H K=>wpSs tb lv b ρ H K R j9) N cx A au nm H s) ?_ n ⟨ρ,H,q,F,st,I,.refl,.refl⟩)
 rintro n s' ⟨ρ',H',q',F',st',I',S',M'⟩
 cases n with
 |zero=>exact q'.elim
 |succ n=>
  refine aq (it H' s' ρ' _ _ F' st' I' q') (λ r s1 h1=>?_) λ Z Z e=>e.no.elim
  obtain ⟨H1,q1,I1,S1,M1⟩:=h1
  cases r with
  |true=>
   simp only [if_true]
   refine aq (ib H1 s1 ρ' _ _ _ (F'.step S1) (st'.step S1) I1 q1) (λ f s2 h2=>?_) λ Z Z e=>e.no.elim
   have h2:=h2.after (S1.weak) M1
   cases f with
   |next=>
    obtain ⟨ρ2,H2,q2,F2,I2,S2,M2⟩:=h2
    exact ⟨n,dI _,ρ2,H2,q2,F2,st'.step S2,I2,S'.trans S2,M'.trans M2⟩
   |ret v=>exact gJ.after S' M' h2
   |brk=>exact h2.elim
   |cont=>exact h2.elim
  |false=>
   simp only [ch,if_false]
   exact fU ⟨ρ',H1,q1,F'.step S1,I1,S'.trans S1.weak,M'.trans M1⟩
theorem A_:∀p,U_ p:=bC P_
end mf
section
variable {cx:Cx}
theorem mf {cx tb A lv nm au t b y bs H s N R X}:mf.S_ cx tb A lv nm au t b y bs H s N R X:=mf.A_ (cx,tb,A,lv,nm,au,t,b,y,bs,H,s,N,R,X)
theorem vh {St:Nat->cO->Prop} (J:yN cx A h0 u us It fp P St) (st:St i s.heap) (q:Q () s):
  aE (ay cx.prog cx.w) A (iz target (.ref It) v) Q Ex s:=by
 refine kg (J.cls st) λ o vs T ho hd hc hT=>?_
 have key:aE (ay cx.prog cx.w) A (do
  let (.ref r,.ref a):=(aS It,v)|return
  let o<-load r
  match o.cls,o.data with
  |.type n,.fields vs=>
   if ["enumerate","zip","dict_itemiterator","dict_reverseitemiterator","odict_iterator","itertools.zip_longest","itertools.pairwise"].contains n&&vs[0]?==some (iL a) then
    rule "for.unpacks-the-owned-tuple"
    updateField r 0 .none
  |_,_=>pure ()) Q Ex s:=by
  cases v with
  |ref a=>
   refine ae (wpAny_load ho ?_)
   refine af hc (af hd ?_)
   dsimp only
   refine af hT ?_
   exact ah q
  |_=>exact ah q
 cases target<;>first|exact key|exact ah q
end
namespace r8
def S_ (cx tb A lv nm au t b y bs H s ρ N R X):=∀{it:Mine.E} {z:Expr} {pos:Bx} (hA:A.handled=none) (ii:wZ cx tb A lv nm au it z) (ib:Dx cx tb A lv nm au b bs) (ht:okT au.scope nm t=true) (hns:noSet z=true) (F:Fm cx au nm H ρ s.heap) (st:iF cx A H s.heap) (I:cb cx H s.heap) (q:wpS tb lv (.for_ t it b) ρ H N R X),aE (ay cx.prog cx.w) A (exec (.For (emT nm t y) z bs [] pos) au) (gJ cx au nm H s N R) (cj cx (PF au) H s X) s
def U_:=UV λ cx tb A=>UV λ lv nm au=>UV λ t b y=>UV λ bs H s=>UV λ ρ N R=>S_ cx tb A lv nm au t b y bs H s ρ N R
def t_:=dr (by have:=qe;have:=pH;have:=tJ;have:=NJ;have:=LY;infer_instance) U_
def cx:=t_.1
def tb:=t_.2.1
def A:=t_.2.2.1
def lv:=t_.2.2.2.1
def nm:=t_.2.2.2.2.1
def au:=t_.2.2.2.2.2.1
def s1_:=t_.2.2.2.2.2.2
def t:=s1_.1
def b:=s1_.2.1
def y:=s1_.2.2.1
def bs:=s1_.2.2.2.1
def H:=s1_.2.2.2.2.1
def s:=s1_.2.2.2.2.2.1
def s2_:=s1_.2.2.2.2.2.2
def ρ:=s2_.1
def N:=s2_.2.1
def R:=s2_.2.2.1
def X:=s2_.2.2.2
theorem P_:S_ cx tb A lv nm au t b y bs H s ρ N R X:=by
 intro it z pos hA ii ib ht hns F st I q
 refine wpAny_For (aq (ii H s ρ _ X F st I q) (λ x s1 h1=>?_) λ Z Z e=>e.weak) (jk hns)
 obtain ⟨u,H1,q1,r1,I1,S1,M1⟩:=h1
 refine aL (rK q1) λ us hi q1=>?_
 ·have F1:=F.step S1
  have st1:=st.step S1
  have fu1:∀a,u=.ref a->¬PF au a/\∃o,s1.heap.get? a=some o:=λ a e=>by
   subst e
   have e:=gI hi
   refine f7 (I1.own _ _ e) λ aB n ho Z=>⟨?_,_,ho⟩
   rintro (z|⟨x,ex⟩)
   ·exact ft e (z▸F1.free)
   ·refine cu F1.slots λ m cm Z b Z=>(aL (b x a ex) λ o ho' hd=>?_)
    rw [ho] at ho';(have ho':=ac ho';subst ho');exact gf hd rfl
  refine ql hA I1 r1 hi λ fp P St h2 J k2 z2 st2=>?_
  have nI:s1.heap.get? s1.heap.objs.size=none:=dO (bW _)
  have pI:¬PF au s1.heap.objs.size:=F1.notPF nI
  have hbI:cx.base.objs.size<=s1.heap.objs.size:=F1.lok.le
  have sub:=oZ H1 u
  have S2:bf (PF au) (asideOf H1 u) s1.heap (asideOf H1 u) h2:=bf.keeps k2
  refine codeAny_forLoop_any (F9 (λ v ρ1 H2 K=>assignT t v ρ1 H2 λ ρ2 H3=>wpSs tb lv b ρ2 H3 K (λ r H4=>R r (backOf H1 H4 u)) j9) (λ ρ3 H4=>(∀a,u=.ref a->H4 a=none)->N ρ3 (backOf H1 H4 u)) cx A au nm us St H1 u s1) ?_ (us.length+1)
   ⟨0,asideOf H1 u,ρ,rfl,cU _,st2,q1,F1.step ((bf.keeps (P:=fe) k2).forget sub),st1.step ((bf.keeps (P:=fe) k2).forget sub),(I1.keeps k2).forget sub,S2,⟨rfl,rfl,rfl⟩,sub.free (I1.free nI),λ a e=>lh I1 hi e⟩
  rintro n s' ⟨i,Hc,ρc,rfl,hi',st',q',F',stk',I',S',M',fI',fu'⟩
  refine fy (J.kpI _ _ st') λ oI hoI kpI niI Z=>?_
  by_cases hlt:i<us.length
  ·refine J.W.item i _ _ _ hlt st' λ v h3 tk3 hP st3 k3=>?_
   have k3':∀b o,b≠s1.heap.objs.size->s'.heap.get? b=some o->h3.get? b=some o:=λ b o n e=>k3 b o (by simpa using n) e
   refine fy (J.kpI _ _ st3) λ oI1 hoI1 kpI1 niI1 Z=>?_
   have SI:bf (·=s1.heap.objs.size) Hc s'.heap Hc h3:=bf.only hoI niI kpI.no_dict.1 hoI1 rfl k3'
   have I3:cb cx Hc h3:=I'.at_free fI' hbI hoI niI k3'
   have F3:Fm cx au nm Hc ρc h3:=F'.but hoI kpI niI k3'
   have stk3:=stk'.step SI
   have S3:bf (PF au) (asideOf H1 u) s1.heap Hc h3:=S'.chg nI k3'
   obtain ⟨u1,hu1⟩:∃u1,us[i]?=some u1:=⟨_,an hlt⟩
   have hdrop:us.drop i=u1::us.drop (i+1):=by
    refine af (cC hlt) ?_
    rw [an hlt] at hu1;(have hu1:=ac hu1;subst hu1);rfl
   rw [hdrop] at q'
   have r3:VRel cx h3 u1 v:=J.val i v u1 h3 hP hu1 S3.imm
   refine vh (s:={s' with heap:=h3,toks:=tk3}) J st3 ?_
   have q'':assignT t u1 ρc Hc (λ ρ2 H3=>wpSs tb lv b ρ2 H3 (λ ρ1 H5=>forW (λ v ρ1 H2 K=>assignT t v ρ1 H2 λ ρ2 H3=>wpSs tb lv b ρ2 H3 K (λ r H4=>R r (backOf H1 H4 u)) j9) (us.drop (i+1)) ρ1 H5 (λ ρ3 H4=>(∀a,u=.ref a->H4 a=none)->N ρ3 (backOf H1 H4 u))) (λ r H4=>R r (backOf H1 H4 u)) j9):=q'
   refine aq (rC (s:={s' with heap:=h3,toks:=tk3}) hA F3 I3 ht r3 q'') (λ Z s4 h4=>?_) λ Z Z e=>e
   obtain ⟨ρ4,q4,F4,I4,S4,M4⟩:=h4
   have stk4:iF cx A Hc s4.heap:=stk3.step S4
   have st4:St (i+1) s4.heap:=J.keep st3 S4 I3.base I4.base fI' (λ a e=>fu' a e) pI λ a e=>(fu1 a e).1
   have S14:bf (PF au) (asideOf H1 u) s1.heap Hc s4.heap:=S3.trans S4
   refine aq (ib Hc s4 ρ4 _ _ _ F4 stk4 I4 q4) (λ f s5 h5=>?_) λ Z Z e=>e.no.elim
   cases f with
   |next=>
    obtain ⟨ρ5,H5,q5,F5,I5,S5,M5⟩:=h5
    refine ⟨us.length+1 -(i+1),gB (iM hlt) (dI i),i+1,H5,ρ5,rfl,hlt,J.keep st4 S5 I4.base I5.base fI' (λ a e=>fu' a e) pI (λ a e=>(fu1 a e).1),q5,F5,stk4.step S5,I5,S14.trans S5,?_,?_,λ a e=>?_⟩
    ·exact M'.trans (dS.trans ⟨rfl,rfl,rfl⟩ (M4.trans M5))
    ·exact aL (J.kpI _ _ st4) λ o ho Z=>(S5.free ho fI')
    ·exact bw ((fu1 a e).2) λ o ho=>((S14.trans S5).free ho (lh I1 hi e))
   |ret w=>
    obtain ⟨u5,H5,q5,r5,I5,S5,M5⟩:=h5
    have SB:=S14.trans S5
    refine ⟨u5,backOf H1 H5 u,q5,r5,cb.back I1 hi SB I5 λ a e=>(fu1 a e).1,S1.weak.trans (SB.back hi),?_⟩
    exact M1.trans (M'.trans (dS.trans ⟨rfl,rfl,rfl⟩ (M4.trans M5)))
   |brk=>exact h5.elim
   |cont=>exact h5.elim
  ·have hin:i=us.length:=jJ ‹_› (dw.mp ‹_›)
   subst hin
   refine J.W.done _ _ _ st' λ h3 tk3 k3=>fU ?_
   have k3':∀b o,b≠s1.heap.objs.size->s'.heap.get? b=some o->h3.get? b=some o:=λ b o n e=>k3 b o (by simpa using n) e
   rw [i5] at q'
   have I3:cb cx Hc h3:=I'.at_free fI' hbI hoI niI k3'
   have F3:Fm cx au nm Hc ρc h3:=F'.but hoI kpI niI k3'
   have S3:bf (PF au) (asideOf H1 u) s1.heap Hc h3:=S'.chg nI k3'
   have SB:=S3.back hi
   refine ⟨ρc,backOf H1 Hc u,q' λ a e=>(fu' a e).1,?_,cb.back I1 hi S3 I3 λ a e=>(fu1 a e).1,S1.weak.trans SB,M1.trans (M'.trans ⟨rfl,rfl,rfl⟩)⟩
   refine cu F3.slots λ m cm a b c=>⟨F3.kind,F3.glob,F3.blt,F3.nd,F3.len,F3.apart,F3.aboveL,F3.aboveC,F3.cellsAll,pf hi F3.free λ e=>?_,m,cm,a,b,c⟩
   exact (fu1 _ e).1 (.inl rfl)
theorem A_:∀p,U_ p:=bC P_
end r8
section
variable {cx:Cx}
theorem r8 {cx tb A lv nm au t b y bs H s ρ N R X}:r8.S_ cx tb A lv nm au t b y bs H s ρ N R X:=r8.A_ (cx,tb,A,lv,nm,au,t,b,y,bs,H,s,ρ,N,R,X)
end
mutual
noncomputable def emS (nm:List aw):S->PT->lz
 |.assign x e,t=>.Assign [emT nm x t.l] (emE nm e t.r) t.p
 |.setattr o n e,t=>.Assign [.Attribute (emE nm o t.l.l) n t.l.p] (emE nm e t.r) t.p
 |.setitem o i e,t=>.Assign [.Subscript (emE nm o t.l.l) (emE nm i t.l.r) t.l.p] (emE nm e t.r) t.p
 |.aug i op e,t=>.AugAssign (.Name (nmAt nm i) t.l.p) op (emE nm e t.r) t.p
 |.augattr o n op e,t=>.AugAssign (.Attribute (emE nm o t.l.l) n t.l.p) op (emE nm e t.r) t.p
 |.ite c b o,t=>.If (emE nm c t.l) (emSs nm b t.r.l) (emSs nm o t.r.r) t.p
 |.while_ c b,t=>.While (emE nm c t.l) (emSs nm b t.r) [] t.p
 |.for_ x it b,t=>.For (emT nm x t.l) (emE nm it t.r.l) (emSs nm b t.r.r) [] t.p
 |.ret e,t=>.Return (some (emE nm e t.l)) t.p
 |.expr e,t=>.Expr (emE nm e t.l) t.p
 |.raise_ e,t=>.Raise (some (.Call (.Name (aa "Misused") t.l.l.p) [emE nm e t.l.r.l] [] t.l.p)) none t.p
 |.tryWhy e i j,t=>.Try [.Expr (emE nm e t.l.l) t.l.p] [.ExceptHandler (some (.Name (aa "Misused") t.r.l.l.p)) (some (nmAt nm i)) [.Assign [.Name (nmAt nm j) t.r.r.l.p] (.Attribute (.Name (nmAt nm i) t.r.r.r.l.p) (aa "why") t.r.r.r.p) t.r.r.p] t.r.l.p] [] [] t.p
 |.pass,t=>.Pass t.p
 |.stuck,t=>t.x
noncomputable def emSs (nm:List aw):List S->PT->List lz
 |[],_=>[]
 |e::es,t=>emS nm e t.l::emSs nm es t.r
end
mutual
noncomputable def okS (gl:GL) (sc:gA) (nm:List aw):S->PT->Bool
 |.assign x e,t=>okE gl sc nm e t.r&&(okT sc nm x&&match x with
  |.tup is=>okSw sc nm is t.l.l e t.r
  |.loc _=>true)
 |.setattr o _ e,t=>okE gl sc nm e t.r&&okE gl sc nm o t.l.l
 |.setitem o i e,t=>okE gl sc nm e t.r&&(okE gl sc nm o t.l.l&&okE gl sc nm i t.l.r)
 |.aug i _ e,t=>okE gl sc nm e t.r&&(nm[i]?==some (nmAt nm i)&&(okName sc (nmAt nm i)&&stName sc (nmAt nm i)))
 |.augattr o _ _ e,t=>okE gl sc nm e t.r&&okE gl sc nm o t.l.l
 |.ite c b o,t=>okE gl sc nm c t.l&&(okSs gl sc nm b t.r.l&&okSs gl sc nm o t.r.r)
 |.while_ c b,t=>okE gl sc nm c t.l&&okSs gl sc nm b t.r
 |.for_ x it b,t=>okT sc nm x&&(noSet (emE nm it t.r.l)&&(okE gl sc nm it t.r.l&&okSs gl sc nm b t.r.r))
 |.ret e,t=>okE gl sc nm e t.l
 |.expr e,t=>!isComp (emE nm e t.l)&&okE gl sc nm e t.l
 |.raise_ e,t=>okGlob gl sc (aa "Misused") (.cls 1)&&(!isStar (emE nm e t.l.r.l)&&okE gl sc nm e t.l.r.l)
 |.tryWhy e i j,t=>okGlob gl sc (aa "Misused") (.cls 1)&&(nm[i]?==some (nmAt nm i)&&(sc.names.lookup (nmAt nm i)==some .local&&(nm[j]?==some (nmAt nm j)&&(stName sc (nmAt nm j)&&(!(nmAt nm i==("__debug__":aw))&&(i !=j&&(!isComp (emE nm e t.l.l)&&okE gl sc nm e t.l.l)))))))
 |_,_=>true
noncomputable def okSs (gl:GL) (sc:gA) (nm:List aw):List S->PT->Bool
 |[],_=>true
 |e::es,t=>okS gl sc nm e t.l&&okSs gl sc nm es t.r
end
section
variable {cx:Cx}
theorem HI (h:isComp (emE nm e t)=true):(∃own fr el j it c,e=.comp own fr el j it c)\/∃own fr el j it c j2 it2,e=.comp2 own fr el j it c j2 it2:=by
 cases e<;>first|exact .inl ⟨_,_,_,_,_,_,rfl⟩|exact .inr ⟨_,_,_,_,_,_,_,_,rfl⟩|exact aM h
theorem BL (W:zw cx tb gl A lv)
  {qf:av->uX Unit} {QQ:Unit->ax->Prop} (h:okE gl au.scope nm e t=true) (hx:isComp (emE nm e t)=true) (F:Fm cx au nm H ρ s.heap) (st:iF cx A H s.heap) (I:cb cx H s.heap) (q:wpE tb lv false e ρ H Q X)
  (fh:CompFin cx A Ex (some qf) (λ Z s'=>QQ () s') H s Q) (hE:∀e s',cj cx fe H s X e s'->Ex e s'):aE (ay cx.prog cx.w) A (evalThenUse (emE nm e t) au qf) QQ Ex s:=by
 rcases HI hx with ⟨own,fr,el,j,it,c,rfl⟩|⟨own,fr,el,j,it,c,j2,it2,rfl⟩
 ·exact ae (aq (yI W ((ev W it (al (ar (ar (ar h))))).1) (λ cenv hs=>(ev W el (by refine af hs ?_;exact al (ar (ar (ar (ar h)))))).1) (λ cenv hs=>NG W c (by refine af hs ?_;exact ar (ar (ar (ar (ar h)))))) h F st I q fh hE) (λ Z Z z=>ah z) λ Z Z e=>e)
 ·exact ae (aq (wJ W ((ev W it (al (ar (ar (ar (ar (ar (ar h)))))))).1) (λ cenv hs=>(ev W el (by refine af hs ?_;exact al (ar (ar (ar (ar (ar (ar (ar h))))))))).1)
   (λ cenv hs=>(ev W c (by refine af hs ?_;exact al (ar (ar (ar (ar (ar (ar (ar (ar h)))))))))).2) (λ cenv hs=>(ev W it2 (by refine af hs ?_;exact ar (ar (ar (ar (ar (ar (ar (ar (ar h)))))))))).1) h F st I q fh hE) (λ Z Z z=>ah z) λ Z Z e=>e)
theorem KW (hk:au.scope.kind=.function) (h:okSw au.scope nm is t e u=true):fX [.Tuple (emNs nm is t) c p] (emE nm e u) au=pure none\/(is.Nodup/\(is.length=2\/is.length=3)/\fX [.Tuple (emNs nm is t) c p] (emE nm e u) au=pure (some (is.map (nmAt nm)))):=by
 cases e with
 |tup es=>
  cases z:swC (emNs nm is t).length (emEs nm es u.l).length with
  |true=>exact .inl (EI hk z)
  |false=>exact .inr (E7 hk h z)
 |_=>exact .inl rfl
end
namespace iZ
def S_ (cx gl A nm au e t):=∀{tb:ow} {lv:Nat} (W:zw cx tb gl A lv) {x:T} (h:okS gl au.scope nm (.assign x e) t=true),Ie cx tb A lv nm au (.assign x e) (emS nm (.assign x e) t)
def U_:=UV λ cx gl A=>UV λ nm au e=>S_ cx gl A nm au e
def t_:=dr (by have:=qe;have:=tJ;have:=NJ;infer_instance) U_
def cx:=t_.1
def gl:=t_.2.1
def A:=t_.2.2.1
def nm:=t_.2.2.2.1
def au:=t_.2.2.2.2.1
def e:=t_.2.2.2.2.2.1
def s1_:=t_.2.2.2.2.2.2
def t:=s1_
theorem P_:S_ cx gl A nm au e t:=by
 intro tb lv W x h
 intro H s ρ N R X F st I q
 have plain:∀(stores:av->uX Flow),(∀(v':av) (s1:ax) (u:V) (H1:MH),assignT x u ρ H1 N->VRel cx s1.heap u v'->Fm cx au nm H1 ρ s1.heap->cb cx H1 s1.heap->aE (ay cx.prog cx.w) A (stores v') (gJ cx au nm H1 s1 N R) (cj cx (PF au) H s X) s1)->
   aE (ay cx.prog cx.w) A (eval (emE nm e t.r) au>>=stores) (gJ cx au nm H s N R) (cj cx (PF au) H s X) s:=λ stores k=>by
  refine ae (aq ((ev W e (al h)).1 H s ρ _ X F st I q) (λ v' s1 ⟨u,H1,q1,r1,I1,S1,M1⟩=>?_) λ Z Z e=>e.weak)
  exact aq (k v' s1 u H1 q1 r1 (F.step S1) I1) (λ f s2 h2=>h2.after S1.weak M1) λ Z Z e=>e
 cases x with
 |loc i=>
  have h2:=eq_of_beq (al (al (ar h)))
  have h3:=ar (al (ar h))
  have pl:aE (ay cx.prog cx.w) A (do
   let v'<-eval (emE nm e t.r) au
   assignStores au v' (<-fX [.Name (nmAt nm i) t.l.p] (emE nm e t.r) au) ((sf [.Name (nmAt nm i) t.l.p] au).map (·.2))) (gJ cx au nm H s N R) (cj cx (PF au) H s X) s:=
   plain _ λ v' s1 u H1 q1 r1 F1 I1=>ae (ah (a:=none) (ae (aq (jA F1 I1 h2 h3 r1 q1) (λ Z Z z=>ah z.toS) λ Z Z e=>e)))
  refine ae (cq ?_)
  cases hcmp:isComp (emE nm e t.r) with
  |false=>
   have hb:=nU (t:=some (.Name (nmAt nm i) t.l.p)) (line:=t.p.line) (au:=au) hcmp
   exact ae (we hb (ah (a:=false) pl))
  |true=>
   refine bw (xd (value:=emE nm e t.r) (x:=nmAt nm i) (px:=t.l.p) (line:=t.p.line) (au:=au)) λ b hb=>(ae (we hb (ah ?_)))
   cases b with
   |false=>exact pl
   |true=>exact ae (aq (BL (QQ:=λ Z s'=>gJ cx au nm H s N R .next s') W (al h) hcmp F st I q (sN F h2 h3) λ Z Z e=>e.weak) (λ Z Z z=>ah z) λ Z Z e=>e)
 |tup is=>
  have hb:=As (value:=emE nm e t.r) (ts:=emNs nm is t.l.l) (c:=t.l.k) (px:=t.l.p) (line:=t.p.line) (au:=au)
  refine ae (cq (ae (we hb (ah (a:=false) (plain _ λ v' s1 u H1 q1 r1 F1 I1=>?_)))))
  rcases KW (c:=t.l.k) (p:=t.l.p) F1.kind (ar (ar h)) with e|⟨hn,hl,e⟩
  ·exact ae (we e (ah (ae (aq (rC (x:=.tup is) W.am.handled F1 I1 (al (ar h)) r1 q1) (λ Z Z z=>ah z.toS) λ Z Z e=>e))))
  ·exact aL (rK q1) λ us eu q1=>(ae (we e (ah (EV W.am.handled F1 I1 (al (ar h)) hn hl r1 eu q1))))
theorem A_:∀p,U_ p:=bC P_
end iZ
section
variable {cx:Cx}
theorem iZ {cx gl A nm au e t}:iZ.S_ cx gl A nm au e t:=iZ.A_ (cx,gl,A,nm,au,e,t)
end
section
variable {cx:Cx}
theorem Ea (F:Fm cx au nm H ρ s.heap) (hn:nm[i]?=some x) (hk:okName au.scope x=true) (hu:ρ.at i=some u)
  (k:∀v,VRel cx s.heap u v->R v s):aE (ay cx.prog cx.w) A (loadName au x) R Ex s:=by
 refine cu F.slots λ m cm h1 h2 h3=>(bx (tV hk) λ d1 d2=>?_)
 rcases h3 i x hn with ⟨c1,c2⟩|⟨c1,⟨c,c2⟩,c3⟩
 ·exact aL (c2 u hu) λ v e1 e2=>(pz F.kind c1 h1 e1 (k v e2))
 ·refine aL (c3 u hu) λ v e1 e2=>?_
  rcases c1 with c1|c1
  ·exact Gv F.kind c1 c2 (e1▸h2 _ _ c2) (k v e2)
  ·exact Gw F.kind c1 c2 (e1▸h2 _ _ c2) (k v e2) d2
theorem mQ.toS (F:Fm cx au nm H ρ s.heap) (p:mQ cx fe H s (N ρ) s'):gJ cx au nm H s N R .next s':=
 let ⟨H',q,I,S,M⟩:=p;⟨ρ,H',q,F.step S,I,S.weak,M⟩
theorem rZ (h:au.scope.kind=.function):interactive au=false:=by unfold interactive;refine af h ?_;rfl
end
structure Lq (cx:Cx) (tb:ow) (gl:GL) (A:dz) (lv:Nat) (au:i4):Prop where
 raise_:∀{nm e c y pn cp pos},wZ cx tb A lv nm au e y->okGlob gl au.scope c (.cls 1)=true->isStar y=false->Ie cx tb A lv nm au (.raise_ e) (.Raise (some (.Call (.Name c pn) [y] [] cp)) none pos)
 try_:∀{nm e c y i j n w yp pn wp fp ap sp hp pos},wZ cx tb A lv nm au e y->okGlob gl au.scope c (.cls 1)=true->nm[i]?=some n->au.scope.names.lookup n=some .local->nm[j]?=some w->stName au.scope w=true->(n==("__debug__":aw))=false->i≠j->isComp y=false->
  Ie cx tb A lv nm au (.tryWhy e i j) (.Try [.Expr y yp] [.ExceptHandler (some (.Name c pn)) (some n) [.Assign [.Name w wp] (.Attribute (.Name n fp) "why" ap) sp] hp] [] [] pos)
section
variable {cx:Cx}
theorem Dx.after (k:Dx cx tb A lv nm au b x) (F:Fm cx au nm H ρ s.heap) (st:iF cx A H s.heap) (S1:bf fe H s.heap H1 s1.heap) (M1:dS s s1) (I1:cb cx H1 s1.heap) (q:wpSs tb lv b ρ H1 N R X):
  aE (ay cx.prog cx.w) A (execs x au) (gJ cx au nm H s N R) (cj cx (PF au) H s X) s1:=aq (k H1 s1 ρ N R X (F.step S1) (st.step S1) I1 q) (λ Z Z z=>z.after S1.weak M1) λ Z Z z=>z.after S1.weak M1
theorem rN {E:av->ax->Prop} (hs:qp [x] v pos.line au=pure false) (hn:fX [x] v au=pure none) (ha:(sf [x] au).map (·.2)=[assign x au])
  (k:aE (ay cx.prog cx.w) A (eval v au) (λ w s1=>aE (ay cx.prog cx.w) A (assign x au w) (λ Z s2=>Q .next s2) E s1) E s):aE (ay cx.prog cx.w) A (exec (.Assign [x] v pos) au) Q E s:=by
 refine af (exec_Assign_arm _ _ _) (af hs (af hn (af ha ?_)))
 exact ae (cq (ae (ah (a:=false) (ae (aq k (λ w s1 z=>ae (ah (a:=none) (ae (aq z (λ Z Z z=>ah z) λ Z Z e=>e)))) λ Z Z e=>e)))))
theorem Cf (G:gT cx tb gl):tb.fld=cx.fld:=funext λ c=>funext λ n=>G.tfld c n
def MG (cx tb gl A lv) (au:i4) (e:Mine.S):=∀⦃t:PT⦄⦃nm:List aw⦄,okS gl au.scope nm e t=true->Ie cx tb A lv nm au e (emS nm e t)
def JG (cx tb gl A lv) (au:i4) (es:List Mine.S):=∀⦃t:PT⦄⦃nm:List aw⦄,okSs gl au.scope nm es t=true->Dx cx tb A lv nm au es (emSs nm es t)
mutual
theorem NQ (W:zw cx tb gl A lv) (he:Lq cx tb gl A lv au):∀(e:Mine.S),MG cx tb gl A lv au e
 |.assign x e=>λ Z Z h=>iZ W h
 |.setattr o n e=>λ Z nm h=>λ H s ρ N R X F st I q=>rN qP rfl rfl (aq ((ev W e (al h)).1 H s ρ _ X F st I q) (λ w s1 h1=>by
   obtain ⟨u1,H1,q1,r1,I1,S1,M1⟩:=h1
   refine ae (bA (aq ((ev W o (ar h)).1 H1 s1 ρ _ X (F.step S1) (st.step S1) I1 q1) (λ o' s2 h2=>?_) λ Z Z e=>(e.after S1 M1).weak))
   obtain ⟨u2,H2,q2,r2,I2,S2,M2⟩:=h2
   have F2:=(F.step S1).step S2
   exact ae (cq (ae (bA (aq (gG (P:=fe) W.G.toGood F2.lok I2 r2 (r1.mono S2.imm) (Cf W.G▸q2)) (λ Z s3 h3=>Bo (((h3.toS F2).after S2.weak M2).after S1.weak M1)) λ Z Z e=>e))))) λ Z Z e=>e.weak)
 |.setitem o i e=>λ t nm h=>λ H s ρ N R X F st I q=>rN z8 rfl rfl (aq ((ev W e (al h)).1 H s ρ _ X F st I q) (λ w s1 h1=>by
   obtain ⟨u1,H1,q1,r1,I1,S1,M1⟩:=h1
   refine ae (bA (aq ((ev W o (al (ar h))).1 H1 s1 ρ _ X (F.step S1) (st.step S1) I1 q1) (λ o' s2 h2=>?_) λ Z Z e=>(e.after S1 M1).weak))
   obtain ⟨u2,H2,q2,r2,I2,S2,M2⟩:=h2
   have F2:=(F.step S1).step S2
   refine ae (bA (aq ((ev W i (ar (ar h))).1 H2 s2 ρ _ X F2 ((st.step S1).step S2) I2 q2) (λ i' s3 h3=>?_) λ Z Z e=>((e.after S2 M2).after S1 M1).weak))
   obtain ⟨u3,H3,q3,r3,I3,S3,M3⟩:=h3
   exact ae (cq (ae (bA (aq (iY (P:=fe) W.am.u100 I3 (r2.mono S3.imm) r3 ((r1.mono S2.imm).mono S3.imm) q3) (λ Z s4 h4=>Bo ((((h4.toS (F2.step S3)).after S3.weak M3).after S2.weak M2).after S1.weak M1)) λ Z Z e=>e))))) λ Z Z e=>e.weak)
 |.aug i op e=>λ t nm h=>λ H s ρ N R X F st I q=>by
   refine aL (pJ q) λ u hk q=>?_
   have h1:=eq_of_beq (al (ar h))
   refine wpAny_AugAssign_Name (Ea F h1 (al (ar (ar h))) hk λ old ro=>aq ((ev W e (al h)).1 H s ρ _ X F st I q) (λ w s1 h1'=>?_) λ Z Z e=>e.weak)
   obtain ⟨u1,H1,q1,r1,I1,S1,M1⟩:=h1'
   have fh:∀(z:Int) (tk:Nat),N (ρ.set i (some (.int z))) H1->aE (ay cx.prog cx.w) A (storeName au (nmAt nm i) (.int z tk)) (λ Z=>gJ cx au nm H s N R .next) (cj cx (PF au) H s X) {s1 with toks:=s1.toks+1}:=λ z tk qz=>
    oH (s:={s1 with toks:=s1.toks+1}) (F.step S1) I1 h1 (ar (ar (ar h))) du λ s' F' I' S' M'=>⟨_,H1,qz,F',I',S1.weak.trans S',M1.trans (dS.trans ⟨rfl,rfl,rfl⟩ M')⟩
   refine cu (Hd q1) λ x y r1_ r2_ q2=>?_
   subst r1_
   subst r2_
   refine bw (cn ro) λ t r1_=>?_
   subst r1_
   refine bw (cn r1) λ t2 r1_=>?_
   subst r1_
   rcases CH q2 with ⟨rfl,q2⟩|⟨rfl,q2⟩
   ·exact sg (fh _ _ q2)
   ·exact si (fh _ _ q2)
 |.augattr o n op e=>λ t nm h=>λ H s ρ N R X F st I q=>wpAny_AugAssign_AttributeAny (aq ((ev W o (ar h)).1 H s ρ _ X F st I q) (λ o' s1 h1=>by
   obtain ⟨u1,H1,q1,r1,I1,S1,M1⟩:=h1
   refine aq (wO W.G.toGood I1 r1 q1) (λ old s2 h2=>?_) λ Z Z e=>e
   obtain ⟨u2,H2,q2,r2,I2,S2,M2⟩:=h2
   have F2:=(F.step S1).step S2
   refine aq ((ev W e (al h)).1 H2 s2 ρ _ X F2 ((st.step S1).step S2) I2 q2) (λ w s3 h3=>?_) λ Z Z e=>((e.after S2 M2).after S1 M1).weak
   obtain ⟨u3,H3,q3,r3,I3,S3,M3⟩:=h3
   have F3:=F2.step S3
   refine cu (Hd q3) λ x y r1_ r2_ q4=>?_
   subst r1_
   subst r2_
   refine bw (cn r2) λ t r1_=>?_
   subst r1_
   refine bw (cn r3) λ t2 r1_=>?_
   subst r1_
   have fh:∀(z:Int) (tk:Nat),setattrV tb.fld u1 n (.int z) H3 (N ρ)->aE (ay cx.prog cx.w) A (Iq o' n (.int z tk)) (λ Z=>gJ cx au nm H s N R .next) (cj cx (PF au) H s X) {s3 with toks:=s3.toks+1}:=λ z tk qz=>
    aq (gG (P:=fe) (s:={s3 with toks:=s3.toks+1}) W.G.toGood F3.lok I3 ((r1.mono S2.imm).mono S3.imm) du (Cf W.G▸qz)) (λ Z s4 h4=>(((h4.toS (R:=R) (s:={s3 with toks:=s3.toks+1}) F3).after (H:=H2) (s:=s2) (s1:={s3 with toks:=s3.toks+1}) S3.weak (M3.trans ⟨rfl,rfl,rfl⟩)).after S2.weak M2).after S1.weak M1) λ Z Z e=>e
   rcases CH q4 with ⟨rfl,q4⟩|⟨rfl,q4⟩
   ·exact sg (fh _ _ q4)
   ·exact si (fh _ _ q4)) λ Z Z e=>e.weak)
 |.ite c b o=>λ Z Z h=>λ H s ρ N R X F st I q=>wpAny_If (aq ((ev W c (al h)).2 H s ρ _ X F st I q) (λ r s1 h1=>by
   obtain ⟨H1,q1,I1,S1,M1⟩:=h1
   cases r with
   |true=>exact (xK W he b (al (ar h))).after F st S1 M1 I1 q1
   |false=>exact (xK W he o (ar (ar h))).after F st S1 M1 I1 q1) λ Z Z e=>e.weak)
 |.while_ c b=>λ Z Z h=>λ H s ρ N R X F st I q=>mf (ev W c (al h)).2 (xK W he b (ar h)) F st I q
 |.for_ x it b=>λ Z Z h=>λ H s ρ N R X F st I q=>r8 W.am.handled (ev W it (al (ar (ar h)))).1 (xK W he b (ar (ar (ar h)))) (al h) (al (ar h)) F st I q
 |.ret e=>λ Z Z h=>λ H s ρ N R X F st I q=>wpAny_Return_some (aq ((ev W e h).1 H s ρ R X F st I q) (λ v s1 ⟨u1,H1,q1,r1,I1,S1,M1⟩=>⟨u1,H1,q1,r1,I1,S1.weak,M1⟩) λ Z Z e=>e.weak)
 |.expr e=>λ Z Z h=>λ H s ρ N R X F st I q=>HS (aq ((ev W e (ar h)).1 H s ρ _ X F st I q) (λ v s1 ⟨u1,H1,⟨e1,q1⟩,r1,I1,S1,M1⟩=>by
   cases e1
   refine af (gr r1) ?_
   exact ⟨ρ,H1,q1,F.step S1,I1,S1.weak,M1⟩) λ Z Z e=>e.weak) (rZ F.kind) (nU (nt (al h)))
 |.raise_ e=>λ Z Z h=>he.raise_ (ev W e (ar (ar h))).1 (al h) (nt (al (ar h)))
 |.tryWhy e i j=>λ Z Z h=>he.try_ (ev W e (ar (ar (ar (ar (ar (ar (ar (ar h))))))))).1 (al h) (eq_of_beq (al (ar h))) (eq_of_beq (al (ar (ar h)))) (eq_of_beq (al (ar (ar (ar h))))) (al (ar (ar (ar (ar h))))) (nt (al (ar (ar (ar (ar (ar h))))))) (nb (al (ar (ar (ar (ar (ar (ar h)))))))) (nt (al (ar (ar (ar (ar (ar (ar (ar h)))))))))
 |.pass=>λ Z Z h=>λ H s ρ N R X F st I q=>wpAny_Pass ⟨ρ,H,q,F,I,.refl,.refl⟩
 |.stuck=>λ Z Z h=>λ H s ρ N R X F st I q=>q.elim
theorem xK (W:zw cx tb gl A lv) (he:Lq cx tb gl A lv au):∀(es:List Mine.S),JG cx tb gl A lv au es
 |[]=>λ Z Z h=>λ H s ρ N R X F st I q=>fU ⟨ρ,H,q,F,I,.refl,.refl⟩
 |e::es=>λ Z Z h=>λ H s ρ N R X F st I q=>gQ (aq (NQ W he e (al h) H s ρ _ R X F st I q) (λ f s1 h1=>by
   cases f with
   |next=>
    obtain ⟨ρ1,H1,q1,F1,I1,S1,M1⟩:=h1
    exact aq (xK W he es (ar h) H1 s1 ρ1 N R X F1 (st.step S1) I1 q1) (λ Z Z z=>z.after S1 M1) λ Z Z z=>z.after S1 M1
   |ret v=>exact h1
   |brk=>exact h1.elim
   |cont=>exact h1.elim) λ Z Z e=>e)
end
end
theorem tw {α:Type} {x y z:uX α} (h:b=false) (k:y=z):(if b=true then x else y)=z:=by subst h;exact k
theorem fw {α β γ:Type} {l:List γ} {s s':β} {f:γ->β->uX (ForInStep β)} {g:β->uX α} {z:uX α} (h:forIn l s f=pure s') (k:g s'=z):(forIn l s f>>=g)=z:=by exact af h k
noncomputable def plainPar (as:List Arg) (kd:List (Option Expr)) (dd:List Expr):Arguments:=⟨[],as,none,[],kd,none,dd⟩
namespace kC
def S_ (fd:xZ) (as:List Arg) (kd dd vs):=∀{ns:List aw} {ds:List av} (hn:as.map (·.arg)=ns) (hl:vs.length+ds.length=ns.length) (h1:((ns.take (ns.length -(ds.drop (ds.length -ns.length)).length)).filter λ n=>((ns.zip vs).lookup n).isNone)=[]) (h2:forIn ((ns.drop (ns.length -(ds.drop (ds.length -ns.length)).length)).zip (ds.drop (ds.length -ns.length))) (ns.zip vs) (λ (x:aw×av) (sl:List (aw×av))=>(if (sl.lookup x.1).isNone=true then pure (bX (sl++[(x.1,x.2)])) else pure (bX sl):uX (ForInStep (List (aw×av)))))=pure (ns.zip (vs++ds))) (h3:ns.filterMap (λ n=>((ns.zip (vs++ds)).lookup n).map (n,·))=ns.zip (vs++ds)),∃k,bindArgs {fd with params:=plainPar as kd dd} ⟨vs,[]⟩=(seqItems? fd.defaults>>=k)/\∀o:Option (Array av),(o.getD #[]).toList=ds->k o=pure (ns.zip (vs++ds))
def U_:=UV λ fd as kd=>UU λ dd=>S_ fd as kd dd
def t_:=dr (by infer_instance) U_
def fd:=t_.1
def as:=t_.2.1
def kd:=t_.2.2.1
def dd:=t_.2.2.2.1
def vs:=t_.2.2.2.2
theorem P_:S_ fd as kd dd vs:=by
 intro ns ds hn hl h1 h2 h3
 subst hn
 refine ⟨_,rfl,λ o ho=>?_⟩
 subst ho
 refine tw (b:=decide (vs.length>(as.map (·.arg)).length)&&true) (by refine af (decide_eq_false (by lia)) ?_;rfl) ?_
 exact tw (b:=!(List.isEmpty _)) (congrArg (λ l:List aw=>!l.isEmpty) h1) (fw h2 (congrArg (λ l=>(pure l:uX (List (aw×av)))) ((congrArg (List.filterMap _) (d5 _)).trans h3)))
theorem A_:∀p,U_ p:=bC P_
end kC
theorem kC {fd as kd dd vs}:kC.S_ fd as kd dd vs:=kC.A_ (fd,as,kd,dd,vs)
theorem qZ:∀{ns:List aw} {vs:List av} {i:Nat} {x:aw} {v:av},ns.Nodup->ns[i]?=some x->vs[i]?=some v->(ns.zip vs).lookup x=some v
 |[],_,_,_,_,_,e,_=>by simp at e
 |_::_,[],_,_,_,_,_,e=>by simp at e
 |n::ns,w::vs,i,x,v,nd,e1,e2=>by
  refine af cM (af aG ?_)
  rw [cc] at nd
  cases i with
  |zero=>simp at e1 e2;subst e1 e2;simp
  |succ i=>
   have h1:ns[i]?=some x:=by simpa using e1
   have:x≠n:=λ q=>nd.1 (q▸a6 h1)
   refine af (show (x==n)=false from beq_eq_false_iff_ne.mpr this) ?_
   exact qZ nd.2 h1 (by simpa using e2)
theorem BJ {ns:List aw} {vs:List av} (nd:ns.Nodup) (hl:vs.length=ns.length) (h:x∈ns):∃v,(ns.zip vs).lookup x=some v:=by
 obtain ⟨i,hi,e⟩:=List.mem_iff_getElem.mp h
 exact ⟨vs[i],qZ nd (by (exact af (an hi) (af e rfl))) (an (by lia))⟩
theorem vj:∀{ns:List aw} {vs:List av} {x:aw},x∉ns->(ns.zip vs).lookup x=none
 |[],_,_,_=>rfl
 |_::_,[],_,_=>rfl
 |n::ns,_::vs,x,h=>by
  rw [cM,aG,show (x==n)=false from beq_eq_false_iff_ne.mpr λ q=>h (by refine af q ?_;exact .head _)]
  exact vj λ q=>h (.tail _ q)
abbrev FN (x:aw×av) (sl:List (aw×av)):uX (ForInStep (List (aw×av))):=if (sl.lookup x.1).isNone=true then pure (bX (sl++[(x.1,x.2)])) else pure (bX sl)
theorem vQ {x y:aw} {d:av} (h:x≠y):ia x [(y,d)]=none:=by
 refine af aG (af (show (x==y)=false from beq_eq_false_iff_ne.mpr h) ?_);rfl
theorem tz:∀{b:List aw} {ds:List av} {acc:List (aw×av)},b.Nodup->(∀x∈b,acc.lookup x=none)->forIn (b.zip ds) acc FN=pure (acc++b.zip ds)
 |[],_,acc,_,_=>congrArg (λ l=>(pure l:uX (List (aw×av)))) (d5 acc).symm
 |_::_,[],acc,_,_=>congrArg (λ l=>(pure l:uX (List (aw×av)))) (d5 acc).symm
 |x::b,d::ds,acc,nd,h=>by
  have nd:=cc.mp nd
  have e:FN (x,d) acc=pure (.yield (acc++[(x,d)])):=if_pos (congrArg Option.isNone (h x (.head _)))
  (refine af cM ?_;rewrite [su];refine af e ?_)
  refine (tz (acc:=acc++[(x,d)]) nd.2 λ y hy=>?_).trans (congrArg (λ l=>(pure l:uX (List (aw×av)))) (eS ..))
  rw [fx,h y (.tail _ hy),vQ λ q=>nd.1 (by exact af q.symm hy)];rfl
theorem vU:∀{ns:List aw} {vs:List av} (l:List (aw×av)),ns.Nodup->vs.length=ns.length->(∀x∈ns,l.lookup x=none)->ns.filterMap (λ n=>((l++ns.zip vs).lookup n).map (n,·))=ns.zip vs
 |[],vs,l,_,_,_=>rfl
 |n::ns,[],l,_,h,_=>ta h
 |n::ns,v::vs,l,nd,hl,hx=>by
  have nd:=cc.mp nd
  have e:(l++(n::ns).zip (v::vs)).lookup n=some v:=by (refine af fx (af (hx n (.head _)) (af cM (af aG (af (beq_self_eq_true _) ?_)))));rfl
  have ih:=vU (ns:=ns) (vs:=vs) (l++[(n,v)]) nd.2 (t8 hl) (λ x h=>by
   rw [fx,hx x (.tail _ h),vQ λ q=>nd.1 (by exact af q.symm h)];rfl)
  rw [eS] at ih
  exact (uZ (f:=λ x=>((l++(n::ns).zip (v::vs)).lookup x).map (x,·)) (congrArg (Option.map (n,·)) e)).trans (congrArg ((n,v)::·) ih)
structure C0 (fd:xZ) (ps:List aw):Prop where
 po:fd.params.posonlyargs=[]
 va:fd.params.vararg=none
 ko:fd.params.kwonlyargs=[]
 kw:fd.params.kwarg=none
 ar:fd.params.args.map (·.arg)=ps
 nd:ps.Nodup
theorem wx (p:C0 fd ns) (hl:vs.length+ds.length=ns.length):
  ∃k,bindArgs fd ⟨vs,[]⟩=(seqItems? fd.defaults>>=k)/\∀o:Option (Array av),(o.getD #[]).toList=ds->k o=pure (ns.zip (vs++ds)):=by
 have e:fd={fd with params:=plainPar fd.params.args fd.params.kw_defaults fd.params.defaults}:=by
  obtain ⟨_,_,⟨po,as,va,ko,kd,kw,dd⟩,_,_,_,_,_,_,_,_,_,_,_,_⟩:=fd
  cases p.po;cases p.va;cases p.ko;cases p.kw;rfl
 refine af e ?_
 obtain ⟨a,b,ha,rfl⟩:∃a b,a.length=vs.length/\ns=a++b:=⟨ns.take vs.length,ns.drop vs.length,List.length_take_of_le (by lia),(dA _ _).symm⟩
 have nd:=ir.mp p.nd
 have e1:ds.drop (ds.length -(a++b).length)=ds:=by refine af (y9 (by lia)) ?_;rfl
 have e2:(a++b).length -ds.length=a.length:=by lia
 have z1:(a++b).zip vs=a.zip vs:=by
  have:=Fi (r₁:=b) (r₂:=([]:List av)) ha
  rw [d5,List.zip_nil_right,d5] at this;exact this
 have z2:(a++b).zip (vs++ds)=a.zip vs++b.zip ds:=Fi ha
 refine kC p.ar hl ?_ ?_ ?_
 ·refine af e1 (af e2 (af List.take_left (af z1 ?_)))
  refine List.filter_eq_nil_iff.mpr λ x hx=>(bw (BJ nd.1 ha.symm hx) λ v e=>?_)
  exact af e oQ
 ·refine af e1 (af e2 (af List.drop_left (af z1 (af z2 ?_))))
  exact tz nd.2.1 λ x hx=>vj λ h=>nd.2.2 x h x hx rfl
 ·exact vU [] p.nd (by exact af az hl) λ Z Z=>rfl
noncomputable def frame0 (nm:List aw) (us:List V):db:=(us.map some)++b9 (nm.length -us.length) none
theorem p7 {kindOf:aw->Option je}:∀{binds:List (aw×av)} {m:aw->Option av},x∉binds.map (·.1)->bindL kindOf binds m x=m x
 |[],m,_=>rfl
 |(n,v)::r,m,h=>by
  simp only [bk,aZ,not_or] at h
  refine af (p7 h.2) ?_
  split
  ·exact if_neg h.1
  ·rfl
theorem p6 {kindOf:aw->Option je}:∀{binds:List (aw×av)} {m:aw->Option av},x∉binds.map (·.1)->bindC kindOf binds m x=m x
 |[],m,_=>rfl
 |(n,v)::r,m,h=>by
  simp only [bk,aZ,not_or] at h
  refine af (p6 h.2) ?_
  split
  ·rfl
  ·exact if_neg h.1
theorem oE:∀{ns:List aw} {vs:List av},vs.length=ns.length->(ns.zip vs).map (·.1)=ns
 |[],_,_=>by simp
 |n::ns,[],h=>by simp at h
 |n::ns,v::vs,h=>by
  exact af cM (af bk (af (oE (by simpa using h)) rfl))
theorem tR {kindOf:aw->Option je}:∀{ns:List aw} {vs:List av} {m:aw->Option av} {i:Nat} {x:aw} {v:av},ns.Nodup->vs.length=ns.length->ns[i]?=some x->vs[i]?=some v->kindOf x=some .local->bindL kindOf (ns.zip vs) m x=some v
 |[],_,_,_,_,_,_,_,e,_,_=>by simp at e
 |_::_,[],_,_,_,_,_,h,_,_,_=>by simp at h
 |n::ns,w::vs,m,i,x,v,nd,hl,e1,e2,hk=>by
  rw [cc] at nd
  refine af cM ?_
  unfold bindL
  cases i with
  |zero=>
   simp at e1 e2;subst e1 e2
   rw [p7 (by exact af (oE (by simpa using hl)) nd.1),if_pos hk]
   exact if_pos rfl
  |succ i=>exact tR nd.2 (by simpa using hl) (by simpa using e1) (by simpa using e2) hk
theorem ti {kindOf:aw->Option je}:∀{ns:List aw} {vs:List av} {m:aw->Option av} {i:Nat} {x:aw} {v:av},ns.Nodup->vs.length=ns.length->ns[i]?=some x->vs[i]?=some v->kindOf x≠some .local->bindC kindOf (ns.zip vs) m x=some v
 |[],_,_,_,_,_,_,_,e,_,_=>by simp at e
 |_::_,[],_,_,_,_,_,h,_,_,_=>by simp at h
 |n::ns,w::vs,m,i,x,v,nd,hl,e1,e2,hk=>by
  rw [cc] at nd
  refine af cM ?_
  unfold bindC
  cases i with
  |zero=>
   simp at e1 e2;subst e1 e2
   rw [p6 (by exact af (oE (by simpa using hl)) nd.1),if_neg hk]
   exact if_pos rfl
  |succ i=>exact ti nd.2 (by simpa using hl) (by simpa using e1) (by simpa using e2) hk
theorem ge:∀{names:List (aw×je)} {n:Nat} {acc:List (aw×aI)},names.lookup x=some .cell\/(∃c,acc.lookup x=some c)->∃c,(cellsFrom n names acc).lookup x=some c
 |[],_,_,h=>h.elim (λ h=>by simp at h) id
 |(y,k)::r,n,acc,h=>by
  unfold cellsFrom
  split
  ·rename_i hk
   refine ge ?_
   by_cases q:x=y
   ·exact .inr ⟨n,by (exact af aG (af q (af (beq_self_eq_true _) rfl)))⟩
   ·rcases h with h|⟨c,h⟩
    ·rw [aG,show (x==y)=false from beq_eq_false_iff_ne.mpr q] at h
     exact .inl h
    ·exact .inr ⟨c,by (refine af aG (af (show (x==y)=false from beq_eq_false_iff_ne.mpr q) ?_));exact h⟩
  ·rename_i hk
   refine ge ?_
   rcases h with h|h
   ·rw [aG] at h
    by_cases q:x=y
    ·subst q
     rw [beq_self_eq_true] at h
     (have h:=ac h;subst h)
     exact absurd rfl hk
    ·rw [show (x==y)=false from beq_eq_false_iff_ne.mpr q] at h
     exact .inl h
   ·exact .inr h
def Fg (Q:V->MH->Prop):V->MH->Prop:=λ u H'=>∃H'',MH.Sub H'' H'/\Q u H''
def rE (Q:aw->MH->Prop):aw->MH->Prop:=λ u H'=>∃H'',MH.Sub H'' H'/\Q u H''
theorem ip.forget (x:ip cx h0 H h e why) (s:MH.Sub H' H):ip cx h0 H' h e why:=by
 obtain ⟨a,C,d,vs,es,n,t,sl,od,h1,h2,h3,h4,h5,h6,h6b,h7,h8,h8b,h9,h10⟩:=x
 refine ⟨a,C,d,vs,es,n,t,sl,od,h1,h2,h3,h4,s.free h5,h6,h6b,h7,s.free h8,h8b,h9,h10.imp id ?_⟩
 rintro ⟨T,oT,ts,g1,g2,g3,g4,g5,g6,g7,g8⟩
 exact ⟨T,oT,ts,g1,g2,g3,g4,g5,g6,g7,s.free g8⟩
def yZ (cx:Cx):Prop:=∀(A:dz) (au:i4) (outer:List i4) (h0:cO) (H:MH) (s:ax) (e:av) (why:aw) (Q:Unit->ax->Prop) (Ex:av->ax->Prop),A.frames=some (au::outer)->iF cx A H s.heap->ip cx h0 H s.heap e why->cb cx H s.heap->
 (∀s',ip cx h0 H s'.heap e why->cb cx H s'.heap->bf fe H s.heap H s'.heap->dS s s'->Q () s')->aE (ay cx.prog cx.w) A (leaving au e) Q Ex s
structure My (cx:Cx) (f:Fn) (ps nm:List aw) (ds:List V) (P:gA->List lz->Prop) (a:aI) (o:xQ) (fd:xZ) (b:List lz) (dv:List av):Prop where
 ha:cx.addr f=.ref a
 hb:cx.base.get? a=some o
 hd:o.data=.func fd
 hbody:fd.body=.stmts b
 hP:P fd.scope b
 hglob:fd.globals=dj
 hblt:fd.builtins=lB
 hclo:fd.closure=[]
 hkind:fd.scope.kind=.function
 hco:fd.scope.isCoroutine=false
 hgen:fd.scope.isGenerator=false
 hcode:cx.base.CodeRec fd.code fd.qualname
 hnames:∀x∈nm,fd.scope.names.lookup x=some .local\/fd.scope.names.lookup x=some .cell
 rdv:VRels cx cx.base ds dv
 hbind:∀(vs:List av) (s:ax),(∀a o,cx.base.get? a=some o->s.heap.get? a=some o)->vs.length+ds.length=ps.length->BindsTo s fd ⟨vs,[]⟩ (ps.zip (vs++dv))
structure KS (cx:Cx) (f:Fn) (ps nm:List aw) (ds:List V) (P:gA->List lz->Prop):Prop where
 ex:∃a o fd b dv,My cx f ps nm ds P a o fd b dv
 nd:nm.Nodup
 pre:∃r,nm=ps++r
abbrev z0 (cx:Cx) (gl:GL) (f:Fn) (ps nm:List aw) (ds:List V) (body:List S):Prop:=KS cx f ps nm ds λ sc b=>∃t,b=emSs nm body t/\okSs gl sc nm body t=true
section
variable {cx:Cx}
theorem cb.keepB (I:cb cx H h):bQ cx.base h:=λ a o e Z=>I.base a o e
theorem Al (h:(frame0 nm us).at i=some u):us[i]?=some u:=by
 unfold frame0 db.at at h
 by_cases q:i<us.length
 ·rw [eL (by simpa using q),aF,an q] at h
  refine af (an q) ?_
  exact h
 ·rw [fW (by simpa using dw.mp q)] at h
  obtain ⟨o,e1,e2⟩:∃o,(b9 (nm.length -us.length) (none:Option V))[i -(us.map some).length]?=some o/\o=some u:=by
   cases z:(b9 (nm.length -us.length) (none:Option V))[i -(us.map some).length]? with
   |none=>rw [z] at h;cases h
   |some o=>rw [z] at h;exact ⟨o,rfl,h⟩
  have:=a6 e1
  rw [List.mem_replicate] at this
  rw [this.2] at e2;exact bF e2
end
namespace jy
def S_ (cx f ps nm ds A H s us vs):=∀{tb:ow} {gl:GL} {P:gA->List lz->Prop} {l:Nat} {R:HP->ax->Prop} (G:gT cx tb gl) (hf:KS cx f ps nm ds P) (am:E1 A l) (st:iF cx A H s.heap) (hbs:cx.base.objs.size<=s.heap.objs.size) (I:cb cx H s.heap) (r:VRels cx s.heap us vs) (hl:us.length+ds.length=ps.length) (k:∀(au:i4) (b:List lz) (s1:ax),P au.scope b->(∃outer,(A.deeper au).frames=some (au::outer))->Fm cx au nm H (frame0 nm (us++ds)) s1.heap->iF cx (A.deeper au) H s1.heap->cb cx H s1.heap->bf fe H s.heap H s1.heap->dS s s1->(∀b o,s.heap.get? b=some o->s1.heap.get? b=some o)->
   (∀{H':MH} {h':cO},bf (PF au) H s1.heap H' h'->bf fe H s.heap H' h')->Bu (A.deeper au) l->
   aE (ay cx.prog cx.w) (A.deeper au) (execs b au) (λ f s'=>R (.ok (.ret (match f with|.ret v=>v|_=>.none))) s')
    (λ e s'=>aE (ay cx.prog cx.w) (A.deeper au) (leaving au e) (λ Z s''=>R (.error e) s'') (λ e' s''=>R (.error e') s'') s') s1),eT (ay cx.prog cx.w) A (.call (cx.addr f) ⟨vs,[]⟩) R s
def U_:=UV λ cx f ps=>UV λ nm ds A=>UV λ H s us=>S_ cx f ps nm ds A H s us
def t_:=dr (by have:=qe;have:=pH;have:=tJ;infer_instance) U_
def cx:=t_.1
def f:=t_.2.1
def ps:=t_.2.2.1
def nm:=t_.2.2.2.1
def ds:=t_.2.2.2.2.1
def A:=t_.2.2.2.2.2.1
def s1_:=t_.2.2.2.2.2.2
def H:=s1_.1
def s:=s1_.2.1
def us:=s1_.2.2.1
def vs:=s1_.2.2.2
theorem P_:S_ cx f ps nm ds A H s us vs:=by
 intro tb gl P l R G hf am st hbs I r hl k
 refine iC hf.ex λ a o fd t1_=>(CK t1_ λ b dv w2_=>?_)
 clear t1_
 obtain ⟨ha,hb,hd,hbody,hchk,hglob,hblt,hclo,hkind,hco,hgen,hcode,hnames,rdv,hbind⟩:=w2_
 refine bw hf.pre λ rest hpre=>?_
 have hnd:=hf.nd
 refine af ha ?_
 have rall:VRels cx s.heap (us++ds) (vs++dv):=r.app (rdv.mono I.keepB _)
 have hlen:(vs++dv).length=ps.length:=by (refine af rall.len (af az ?_));exact hl
 have hndp:ps.Nodup:=by rw [hpre] at hnd;exact (ir.mp hnd).1
 have inps:∀x∈ps,x∈nm:=λ x hx=>by refine af hpre ?_;exact zf _ hx
 refine codeAny_call_function (by have:=am.depth;lia) (I.base a o hb) hd hco hgen hbody (hcode.keeps I.base) (hbind vs s I.base (by exact af r.len hl) _ _ _ _ ?_)
 refine af hclo ?_
 refine wpAny_newFunctionEnv_cells hkind (λ x hx=>?_) λ au he' s1 x=>?_
 ·have hx1:x.1∈ps:=by
   have:=d9 (f:=(·.1)) hx
   rwa [oE hlen] at this
  rcases hnames x.1 (inps _ hx1) with h|h
  ·exact .inl h
  ·exact bw (ge (n:=s.heap.objs.size+1) (acc:=[]) (.inl h)) λ c hc'=>(.inr ⟨h,by refine af hc' ?_;rfl⟩)
 ·have k1:∀b o,s.heap.get? b=some o->s1.heap.get? b=some o:=x.toInCall.keep
  have hL:au.locals=s.heap.objs.size:=by refine af he' ?_;rfl
  have nL:s.heap.get? au.locals=none:=by refine af hL ?_;exact dO (bW _)
  have hcells:au.cells=cellsFrom (s.heap.objs.size+1) fd.scope.names []:=by refine af he' ?_;rfl
  have hsc:au.scope=fd.scope:=by refine af he' ?_;rfl
  have nC:∀n c,au.cells.lookup n=some c->s.heap.get? c=none/\cx.base.objs.size<=c:=λ n c e=>by
   have:=x.above n c (mem_of_lookup e)
   rw [hL] at this
   exact ⟨dO (fE this),ao hbs (fE this)⟩
  refine ⟨(G.nolimit.keeps I.base).keeps k1,codeAny_func ?_⟩
  have I1:cb cx H s1.heap:=I.keeps k1
  have S1:bf fe H s.heap H s1.heap:=bf.keeps k1
  have M1:dS s s1:=by obtain ⟨h,tk,e⟩:=x.toInCall.same;exact af e ⟨rfl,rfl,rfl⟩
  have hfr:(A.deeper au).frames=some (au::st.choose):=Around.frames_deeper st.choose_spec.1
  have F1:Fm cx au nm H (frame0 nm (us++ds)) s1.heap:=by
   refine ⟨by exact af hsc hkind,by exact af he' hglob,by exact af he' hblt,hnd,?_,λ n1 c1 n2 c2 e1 e2 ne q=>?_,by exact af hL hbs,λ n c e=>(nC n c e).2,λ y hy=>?_,I.free nL,_,_,x.toInCall.ns,x.cell,λ i y hy=>?_⟩
   ·refine af az (af (ag _) (af List.length_replicate ?_))
    have:nm.length=ps.length+rest.length:=by (exact af hpre (af az rfl))
    refine af az ?_;lia
   ·subst q;exact ne (name_of_addr x.apart (mem_of_lookup e1) (mem_of_lookup e2))
   ·refine af hcells ?_
    refine ge (.inl ?_)
    have:au.kindOf y=fd.scope.names.lookup y:=by unfold DM;(exact af hsc rfl)
    exact af this.symm hy
   ·have hk:au.kindOf y=fd.scope.names.lookup y:=by unfold DM;(exact af hsc rfl)
    have val:∀u,(frame0 nm (us++ds)).at i=some u->ps[i]?=some y/\∃v,(vs++dv)[i]?=some v/\VRel cx s1.heap u v:=λ u hu=>by
     have e:=Al hu
     refine aL (rall.get e) λ v e1 e2=>?_
     have hi:i<ps.length:=by refine af hlen.symm ?_;exact (aO.mp e1).1
     refine ⟨?_,v,e1,VRel.mono S1.imm _ e2⟩
     rw [hpre,eL hi] at hy
     exact hy
    rcases hnames y (a6 hy) with h|h
    ·refine .inl ⟨hk.trans h,λ u hu=>?_⟩
     refine bx (val u hu) λ e1 t1_=>(aL t1_ λ v e2 e3=>?_)
     exact ⟨v,tR hndp hlen e1 e2 (hk.trans h),e3⟩
    ·refine bw (ge (n:=s.heap.objs.size+1) (acc:=[]) (.inl h)) λ c hc'=>(.inr ⟨.inl (hk.trans h),⟨c,by exact af hcells hc'⟩,λ u hu=>?_⟩)
     refine bx (val u hu) λ e1 t1_=>(aL t1_ λ v e2 e3=>?_)
     exact ⟨v,ti hndp hlen e1 e2 (by (refine af hk (af h ?_));decide),e3⟩
  have st1:iF cx (A.deeper au) H s1.heap:=by
   refine ⟨_,hfr,λ e' h'=>?_⟩
   rcases aZ.mp h' with h'|h'
   ·refine af h' ?_
    exact ⟨by (refine af hsc (af hkind ?_));decide,au.locals,by refine af he' ?_;rfl,⟨_,x.toInCall.ns⟩,I.free nL,by exact af hL hbs⟩
   ·refine bx (st.choose_spec.2 e' h') λ a1 t1_=>(fy t1_ λ L a2 w2_ a4 a5=>?_)
    obtain ⟨m,a3⟩:=w2_
    exact ⟨a1,L,a2,⟨m,a3.keeps k1⟩,a4,a5⟩
  have am1:Bu (A.deeper au) l:=⟨am.handled,by have:=am.depth;show A.depth+1+_+_<_;lia,by have:=am.units;have e:(A.deeper au).units=A.units+3:=rfl;refine af e ?_;lia⟩
  have ab:∀{H':MH} {h':cO},bf (PF au) H s1.heap H' h'->bf fe H s.heap H' h':=λ z=>S1.absorb z λ a p=>.inr (p.elim (λ p=>p▸nL) λ ⟨n,e⟩=>(nC n a e).1)
  exact k au b s1 (by exact af hsc hchk) ⟨_,hfr⟩ F1 st1 I1 S1 M1 k1 ab am1
theorem A_:∀p,U_ p:=bC P_
end jy
section
variable {cx:Cx}
theorem jy {cx f ps nm ds A H s us vs}:jy.S_ cx f ps nm ds A H s us vs:=jy.A_ (cx,f,ps,nm,ds,A,H,s,us,vs)
theorem EZ (G:gT cx tb gl) (lv:yZ cx) (he:∀A au,Bu A (tb.lvl f)->(∃outer,A.frames=some (au::outer))->Lq cx tb gl A (tb.lvl f) au) (hf:z0 cx gl f ps nm ds body)
  (hc:∀g,tb.lvl g<tb.lvl f->CallOk cx tb g) (hi:∀c g,tb.init c=some g->tb.lvl g<tb.lvl f->CodeOk cx tb g)
  (vc:∀us H Q X,tb.spec f us H Q X->us.length+ds.length=ps.length/\wpSs tb (tb.lvl f) body (frame0 nm (us++ds)) H (λ Z H'=>Fg Q .none H') (Fg Q) (rE X)):CodeOk cx tb f:=by
 intro A H s us vs Q X am st lk I r q
 refine bx (vc us H Q X q) λ hl q=>(jy G hf am st (let ⟨L,k⟩:=lk;k.le) I r hl λ au b s1 ⟨t,hb,hchk⟩ ⟨outer,hfr⟩ F1 st1 I1 S1 M1 Z ab am1=>?_)
 subst hb
 refine aq (xK ⟨G,hc,hi,am1⟩ (he _ _ am1 ⟨outer,hfr⟩) body hchk H s1 _ _ _ _ F1 st1 I1 q) (λ fl s2 h2=>?_) λ e s2 h2=>?_
 ·cases fl with
  |next=>
   obtain ⟨ρ',H',⟨H2,sub,q'⟩,F',I',S',M'⟩:=h2
   exact ⟨.none,H2,q',my,I'.forget sub,(ab S').forget sub,M1.trans M'⟩
  |ret v=>
   obtain ⟨u,H',⟨H2,sub,q'⟩,rv,I',S',M'⟩:=h2
   exact ⟨u,H2,q',rv,I'.forget sub,(ab S').forget sub,M1.trans M'⟩
  |brk=>exact h2.elim
  |cont=>exact h2.elim
 ·obtain ⟨why,H',⟨H2,sub,q'⟩,x',I',S',M'⟩:=h2
  exact lv (A.deeper au) au outer _ H' s2 e why _ _ hfr (st1.step S') x' I' λ s3 x3 I3 S3 M3=>⟨why,H2,q',(x3.from S1.there).forget sub,I3.forget sub,((ab S').trans S3).forget sub,(M1.trans M').trans M3⟩
end
end
section
open PySem PySem.W
noncomputable def ps1:List aw:=["low","high","bits"]
noncomputable def nm1:List aw:=["low","high","bits","size","length"]
noncomputable def c1:List S:=
 [.assign (.loc 3) (.bin .Add (.bin .Sub (.loc 1) (.loc 0)) (.int 1)),
 .ite (.bop false [(.cmp .Lt (.loc 3) (.int 1)),(.cmp .NotEq (.bin .BitAnd (.loc 3) (.bin .Sub (.loc 3) (.int 1))) (.int 0)),(.cmp .NotEq (.bin .Mod (.loc 0) (.loc 3)) (.int 0)),(.cmp .NotEq (.bin .RShift (.loc 1) (.loc 2)) (.int 0))])
  [.ret .none]
  [],
 .assign (.loc 4) (.loc 2),
 .while_ (.cmp .Gt (.loc 3) (.int 1))
  [.assign (.loc 3) (.bin .RShift (.loc 3) (.int 1)),
  .assign (.loc 4) (.bin .Sub (.loc 4) (.int 1))],
 .ret (.loc 4)]
noncomputable def ps17:List aw:=["size"]
noncomputable def nm17:List aw:=["size"]
noncomputable def c17:List S:=
 [.ret (.bin .FloorDiv (.bin .Add (.loc 0) (.int 3)) (.int 4))]
noncomputable def ps13:List aw:=["octets"]
noncomputable def nm13:List aw:=["octets","number","octet"]
noncomputable def c13:List S:=
 [.assign (.loc 1) (.int 0),
 .for_ (.loc 2) (.loc 0)
  [.assign (.loc 1) (.bin .BitOr (.bin .LShift (.loc 1) (.int 8)) (.loc 2))],
 .ret (.loc 1)]
noncomputable def ps14:List aw:=["octets"]
noncomputable def nm14:List aw:=["octets","last"]
noncomputable def c14:List S:=
 [.assign (.loc 1) (.bin .Sub (.call (.fn "len" (.bi "len")) [(.loc 0)]) (.int 1)),
 .ret (.call (.fn "bytes" (.ty "bytes")) [(.comp ["place"] [0,1] (.sub (.loc 1) (.bin .Sub (.loc 2) (.loc 0))) 0 (.call (.fn "range" (.ty "range")) [(.bin .Add (.loc 1) (.int 1))]) none)])]
noncomputable def ps15:List aw:=["octets","order"]
noncomputable def nm15:List aw:=["octets","order"]
noncomputable def c15:List S:=
 [.ite (.cmp .Eq (.loc 1) (.str "big"))
  [.ret (.call (.fn "number_of" (.user 13)) [(.loc 0)])]
  [],
 .ite (.cmp .Eq (.loc 1) (.str "little"))
  [.ret (.call (.fn "number_of" (.user 13)) [(.call (.fn "turned" (.user 14)) [(.loc 0)])])]
  [],
 .raise_ (.bin .Add (.str "no such order of octets: ") (.loc 1))]
noncomputable def ps16:List aw:=["order","host"]
noncomputable def nm16:List aw:=["order","host"]
noncomputable def c16:List S:=
 [.ret (.ifx (.cmp .Eq (.loc 0) (.str "host")) (.loc 1) (.loc 0))]
noncomputable def ps18:List aw:=["self","fields","family","sets"]
noncomputable def nm18:List aw:=["self","fields","family","sets"]
noncomputable def c18:List S:=
 [.setattr (.loc 0) "fields" (.loc 1),
 .setattr (.loc 0) "family" (.loc 2),
 .setattr (.loc 0) "sets" (.loc 3),
 .setattr (.loc 0) "order" (.str "little"),
 .setattr (.loc 0) "cells" .edct,
 .setattr (.loc 0) "at" (.int 0),
 .setattr (.loc 0) "slots" .edct,
 .setattr (.loc 0) "known" .edct,
 .setattr (.loc 0) "pending" (.lst []),
 .setattr (.loc 0) "dropped" (.lst []),
 .setattr (.loc 0) "statements" (.lst [])]
noncomputable def ps19:List aw:=["rows","at","statement"]
noncomputable def nm19:List aw:=["rows","at","statement","place"]
noncomputable def c19:List S:=
 [.assign (.loc 3) (.call (.fn "len" (.bi "len")) [(.loc 0)]),
 .while_ (.bop true [(.cmp .Gt (.loc 3) (.int 0)),(.cmp .Gt (.sub (.sub (.loc 0) (.bin .Sub (.loc 3) (.int 1))) (.int 0)) (.loc 1))])
  [.aug 3 .Sub (.int 1)],
 .expr (.meth (.loc 0) "insert" [(.loc 3),(.tup [(.loc 1),(.loc 2)])])]
noncomputable def ps20:List aw:=["known","name","number","at"]
noncomputable def nm20:List aw:=["known","name","number","at"]
noncomputable def c20:List S:=
 [.ite (.bop false [(.cmp .NotIn (.loc 1) (.loc 0)),(.cmp .Lt (.sub (.sub (.loc 0) (.loc 1)) (.int 0)) (.loc 3))])
  [.setitem (.loc 0) (.loc 1) (.tup [(.loc 3),(.loc 2)])]
  []]
noncomputable def ps21:List aw:=["need"]
noncomputable def nm21:List aw:=["need"]
noncomputable def c21:List S:=
 [.ret (.tup [(.str "match"),(.tup [(.str "field"),(.sub (.loc 0) (.int 0))]),(.str "=="),(.tup [(.str "num"),(.sub (.loc 0) (.int 1))])])]
noncomputable def ps22:List aw:=["reading"]
noncomputable def nm22:List aw:=["reading","need"]
noncomputable def c22:List S:=
 [.for_ (.loc 1) (.attr (.loc 0) "pending")
  [.ite (.cmp .NotEq (.sub (.loc 1) (.int 2)) (.int 0))
   [.raise_ (.str "a need that no field asked for")]
   [],
  .expr (.call (.fn "note" (.user 20)) [(.attr (.loc 0) "known"),(.sub (.loc 1) (.int 0)),(.sub (.loc 1) (.int 1)),(.sub (.loc 1) (.int 3))]),
  .expr (.call (.fn "put_row" (.user 19)) [(.attr (.loc 0) "statements"),(.sub (.loc 1) (.int 3)),(.call (.fn "need_match" (.user 21)) [(.loc 1)])])],
 .setattr (.loc 0) "pending" (.lst [])]
noncomputable def ps23:List aw:=["reading","statement"]
noncomputable def nm23:List aw:=["reading","statement"]
noncomputable def c23:List S:=
 [.expr (.call (.fn "flush" (.user 22)) [(.loc 0)]),
 .expr (.call (.fn "put_row" (.user 19)) [(.attr (.loc 0) "statements"),(.attr (.loc 0) "at"),(.loc 1)])]
noncomputable def ps24:List aw:=["reading","reg"]
noncomputable def nm24:List aw:=["reading","reg"]
noncomputable def c24:List S:=
 [.ite (.cmp .NotIn (.loc 1) (.attr (.loc 0) "slots"))
  [.raise_ (.str "a register that nothing was put into")]
  [],
 .ret (.sub (.attr (.loc 0) "slots") (.loc 1))]
noncomputable def ps25:List aw:=["reading","reg"]
noncomputable def nm25:List aw:=["reading","reg","slot"]
noncomputable def c25:List S:=
 [.assign (.loc 2) (.call (.fn "slot_of" (.user 24)) [(.loc 0),(.loc 1)]),
 .ite (.cmp .Eq (.sub (.sub (.loc 2) (.int 0)) (.int 0)) (.str "half"))
  [.raise_ (.str "octets that are no field")]
  [],
 .ret (.loc 2)]
noncomputable def ps26:List aw:=["reading","octets","order"]
noncomputable def nm26:List aw:=["reading","octets","order"]
noncomputable def c26:List S:=
 [.ret (.call (.fn "host_number" (.user 15)) [(.loc 1),(.call (.fn "host_order" (.user 16)) [(.loc 2),(.attr (.loc 0) "order")])])]
noncomputable def ps27:List aw:=["parts"]
noncomputable def nm27:List aw:=["parts"]
noncomputable def c27:List S:=
 [.ite (.cmp .Eq (.call (.fn "len" (.bi "len")) [(.loc 0)]) (.int 1))
  [.ret (.sub (.loc 0) (.int 0))]
  [],
 .ret (.tup [(.str "concat"),(.call (.fn "tuple" (.ty "tuple")) [(.loc 0)])])]
noncomputable def ps28:List aw:=["reading","reg","layout"]
noncomputable def nm28:List aw:=["reading","reg","layout","parts","size","order"]
noncomputable def c28:List S:=
 [.assign (.loc 3) (.lst []),
 .for_ (.tup [4,5]) (.loc 2)
  [.expr (.meth (.loc 3) "append" [(.sub (.call (.fn "held" (.user 25)) [(.loc 0),(.loc 1)]) (.int 0))]),
  .aug 1 .Add (.call (.fn "slots_of" (.user 17)) [(.loc 4)])],
 .ret (.call (.fn "joined" (.user 27)) [(.loc 3)])]
noncomputable def ps29:List aw:=["reading","name"]
noncomputable def nm29:List aw:=["reading","name","literals","element"]
noncomputable def c29:List S:=
 [.ite (.cmp .NotIn (.loc 1) (.attr (.loc 0) "sets"))
  [.ret .none]
  [],
 .assign (.loc 2) (.lst []),
 .for_ (.loc 3) (.meth (.attr (.sub (.attr (.loc 0) "sets") (.loc 1)) "store") "elements" [])
  [.expr (.meth (.loc 2) "append" [(.tup [(.attr (.loc 3) "box"),(.attr (.loc 3) "data"),(.attr (.loc 3) "timeout"),(.attr (.loc 3) "comment")])])],
 .ret (.call (.fn "tuple" (.ty "tuple")) [(.loc 2)])]
noncomputable def ps30:List aw:=["reading","name","tag"]
noncomputable def nm30:List aw:=["reading","name","tag","literals"]
noncomputable def c30:List S:=
 [.assign (.loc 3) (.call (.fn "elements_told" (.user 29)) [(.loc 0),(.loc 1)]),
 .ite (.cmp .Is (.loc 3) .none)
  [.ret (.tup [(.str "ref"),(.loc 1)])]
  [],
 .ret (.tup [(.loc 2),(.loc 3)])]
noncomputable def ps31:List aw:=["reading","row"]
noncomputable def nm31:List aw:=["reading","row"]
noncomputable def c31:List S:=
 [.setitem (.attr (.loc 0) "slots") (.sub (.loc 1) (.int 1)) (.tup [(.tup [(.str "field"),(.bin .Add (.str "meta ") (.sub (.loc 1) (.int 2)))]),(.sub (.loc 1) (.int 4)),(.sub (.loc 1) (.int 3))])]
noncomputable def ps32:List aw:=["reading","row"]
noncomputable def nm32:List aw:=["reading","row"]
noncomputable def c32:List S:=
 [.setitem (.attr (.loc 0) "slots") (.sub (.loc 1) (.int 1)) (.tup [(.tup [(.str "raw"),(.sub (.loc 1) (.int 2))]),(.str "big"),(.call (.fn "len" (.bi "len")) [(.sub (.loc 1) (.int 2))])])]
noncomputable def ps33:List aw:=["reading","e","op","n"]
noncomputable def nm33:List aw:=["reading","e","op","n","rest"]
noncomputable def c33:List S:=
 [.ite (.bop true [(.cmp .Eq (.sub (.loc 1) (.int 0)) (.str "mask")),(.cmp .In (.loc 2) (.tup [(.str "=="),(.str "!=")]))])
  [.ite (.bop true [(.cmp .Eq (.loc 3) (.int 0)),(.cmp .In (.call (.fn "type_of" (.user 12)) [(.attr (.loc 0) "fields"),(.sub (.loc 1) (.int 1))]) (.tup [(.str "ct_state"),(.str "ct_status"),(.str "tcp_flag")]))])
   [.ret (.tup [(.str "match"),(.sub (.loc 1) (.int 1)),(.ifx (.cmp .Eq (.loc 2) (.str "==")) (.str "none") (.str "any")),(.tup [(.str "num"),(.sub (.loc 1) (.int 2))])])]
   [],
  .assign (.loc 4) (.bin .Sub (.bin .Sub (.bin .LShift (.int 1) (.call (.fn "bits_of_e" (.user 11)) [(.attr (.loc 0) "fields"),(.sub (.loc 1) (.int 1))])) (.int 1)) (.sub (.loc 1) (.int 2))),
  .ite (.bop true [(.cmp .Gt (.sub (.loc 1) (.int 2)) (.int 0)),(.cmp .Gt (.loc 4) (.int 0)),(.cmp .Eq (.bin .BitAnd (.loc 4) (.bin .Add (.loc 4) (.int 1))) (.int 0)),(.cmp .Eq (.bin .BitAnd (.loc 3) (.sub (.loc 1) (.int 2))) (.loc 3))])
   [.ret (.tup [(.str "match"),(.sub (.loc 1) (.int 1)),(.loc 2),(.tup [(.str "span"),(.loc 3),(.bin .Add (.loc 3) (.loc 4))])])]
   []]
  [],
 .ret (.tup [(.str "match"),(.loc 1),(.loc 2),(.tup [(.str "num"),(.loc 3)])])]
noncomputable def ps34:List aw:=["reading","row"]
noncomputable def nm34:List aw:=["reading","row","e","order","size","n","needed"]
noncomputable def c34:List S:=
 [.assign (.tup [2,3,4]) (.call (.fn "held" (.user 25)) [(.loc 0),(.sub (.loc 1) (.int 2))]),
 .assign (.loc 5) (.call (.fn "number_in" (.user 26)) [(.loc 0),(.sub (.loc 1) (.int 3)),(.loc 3)]),
 .assign (.loc 6) (.tup [(.str "meta nfproto"),(.str "meta l4proto"),(.str "meta protocol"),(.str "ether type")]),
 .ite (.bop true [(.cmp .Eq (.sub (.loc 1) (.int 1)) (.str "==")),(.cmp .Eq (.sub (.loc 2) (.int 0)) (.str "field")),(.cmp .In (.sub (.loc 2) (.int 1)) (.loc 6))])
  [.expr (.meth (.attr (.loc 0) "pending") "append" [(.tup [(.sub (.loc 2) (.int 1)),(.loc 5),(.sub (.loc 1) (.int 2)),(.attr (.loc 0) "at")])])]
  [.expr (.call (.fn "emit" (.user 23)) [(.loc 0),(.call (.fn "match_of" (.user 33)) [(.loc 0),(.loc 2),(.sub (.loc 1) (.int 1)),(.loc 5)])])]]
noncomputable def ps35:List aw:=["reading","row"]
noncomputable def nm35:List aw:=["reading","row","e","reg","size","order"]
noncomputable def c35:List S:=
 [.assign (.loc 2) (.tup [(.str "map"),(.call (.fn "key_at" (.user 28)) [(.loc 0),(.sub (.loc 1) (.int 1)),(.sub (.loc 1) (.int 2))]),(.call (.fn "where_of" (.user 30)) [(.loc 0),(.sub (.loc 1) (.int 3)),(.str "map")])]),
 .assign (.loc 3) (.sub (.loc 1) (.int 4)),
 .for_ (.tup [4,5]) (.sub (.loc 1) (.int 5))
  [.setitem (.attr (.loc 0) "slots") (.loc 3) (.tup [(.loc 2),(.loc 5),(.loc 4)]),
  .aug 3 .Add (.call (.fn "slots_of" (.user 17)) [(.loc 4)])]]
noncomputable def ps36:List aw:=["reading","row"]
noncomputable def nm36:List aw:=["reading","row"]
noncomputable def c36:List S:=
 [.expr (.call (.fn "emit" (.user 23)) [(.loc 0),(.loc 1)])]
noncomputable def ps37:List aw:=["reading","low","high"]
noncomputable def nm37:List aw:=["reading","low","high"]
noncomputable def c37:List S:=
 [.ite (.bop false [(.cmp .Lt (.loc 1) (.int 0)),(.cmp .NotEq (.sub (.sub (.call (.fn "held" (.user 25)) [(.loc 0),(.loc 1)]) (.int 0)) (.int 0)) (.str "raw"))])
  [.ret .none]
  [],
 .ret (.tup [(.call (.fn "number_of" (.user 13)) [(.sub (.sub (.call (.fn "held" (.user 25)) [(.loc 0),(.loc 1)]) (.int 0)) (.int 1))]),(.call (.fn "number_of" (.user 13)) [(.sub (.sub (.call (.fn "held" (.user 25)) [(.loc 0),(.loc 2)]) (.int 0)) (.int 1))])])]
noncomputable def ps38:List aw:=["reading","row"]
noncomputable def nm38:List aw:=["reading","row","flags","addresses","pair"]
noncomputable def c38:List S:=
 [.assign (.loc 2) (.comp ["flag"] [] (.loc 0) 0 (.sub (.loc 1) (.int 8)) (some (.cmp .NotEq (.loc 0) (.str "netmap")))),
 .assign (.loc 3) .none,
 .ite (.cmp .GtE (.sub (.loc 1) (.int 3)) (.int 0))
  [.assign (.loc 4) (.call (.fn "raw_pair" (.user 37)) [(.loc 0),(.sub (.loc 1) (.int 3)),(.sub (.loc 1) (.int 4))]),
  .ite (.cmp .Is (.loc 4) .none)
   [.assign (.loc 3) (.sub (.call (.fn "held" (.user 25)) [(.loc 0),(.sub (.loc 1) (.int 3))]) (.int 0))]
   [.ite (.cmp .Lt (.call (.fn "len" (.bi "len")) [(.loc 2)]) (.call (.fn "len" (.bi "len")) [(.sub (.loc 1) (.int 8))]))
    [.assign (.loc 3) (.tup [(.str "net"),(.sub (.loc 4) (.int 0)),(.call (.fn "span_prefix" (.user 1)) [(.sub (.loc 4) (.int 0)),(.sub (.loc 4) (.int 1)),(.bin .Mult (.int 8) (.sub (.loc 1) (.int 5)))])])]
    [.assign (.loc 3) (.tup [(.str "span"),(.sub (.loc 4) (.int 0)),(.sub (.loc 4) (.int 1))])]]]
  [],
 .expr (.call (.fn "emit" (.user 23)) [(.loc 0),(.tup [(.str "nat"),(.sub (.loc 1) (.int 1)),(.sub (.loc 1) (.int 2)),(.loc 3),(.call (.fn "raw_pair" (.user 37)) [(.loc 0),(.sub (.loc 1) (.int 6)),(.sub (.loc 1) (.int 7))]),(.call (.fn "tuple" (.ty "tuple")) [(.loc 2)])])])]
noncomputable def ps39:List aw:=[]
noncomputable def nm39:List aw:=[]
noncomputable def c39:List S:=
 [.ret (.dfn [("nat","back_nat_row",(.user 38)),("expect","back_same",(.user 36)),("flow","back_same",(.user 36))])]
noncomputable def ps41:List aw:=["box"]
noncomputable def nm41:List aw:=["box","key","low","high"]
noncomputable def c41:List S:=
 [.assign (.loc 1) (.tup []),
 .for_ (.tup [2,3]) (.loc 0)
  [.ite (.cmp .NotEq (.loc 2) (.loc 3))
   [.ret .none]
   [],
  .assign (.loc 1) (.bin .Add (.loc 1) (.tup [(.loc 2)]))],
 .ret (.loc 1)]
noncomputable def ps42:List aw:=["self","box","data","until"]
noncomputable def nm42:List aw:=["self","box","data","until"]
noncomputable def c42:List S:=
 [.setattr (.loc 0) "box" (.loc 1),
 .setattr (.loc 0) "data" (.loc 2),
 .setattr (.loc 0) "until" (.loc 3),
 .setattr (.loc 0) "timeout" (.int 0),
 .setattr (.loc 0) "comment" (.str ""),
 .setattr (.loc 0) "cells" .edct]
noncomputable def ps43:List aw:=["element","now"]
noncomputable def nm43:List aw:=["element","now"]
noncomputable def c43:List S:=
 [.ret (.bop false [(.cmp .Eq (.attr (.loc 0) "until") (.int 0)),(.cmp .Lt (.loc 1) (.attr (.loc 0) "until"))])]
noncomputable def ps44:List aw:=["self"]
noncomputable def nm44:List aw:=["self"]
noncomputable def c44:List S:=
 [.setattr (.loc 0) "table" .edct]
noncomputable def ps45:List aw:=["self","element","now"]
noncomputable def nm45:List aw:=["self","element","now","key"]
noncomputable def c45:List S:=
 [.assign (.loc 3) (.call (.fn "single_key" (.user 41)) [(.attr (.loc 1) "box")]),
 .ite (.cmp .Is (.loc 3) .none)
  [.stuck]
  [],
 .ite (.cmp .IsNot (.meth (.loc 0) "find" [(.loc 3),(.loc 2)]) .none)
  [.stuck]
  [],
 .setitem (.attr (.loc 0) "table") (.loc 3) (.loc 1)]
noncomputable def ps47:List aw:=["self","key","now"]
noncomputable def nm47:List aw:=["self","key","now","element"]
noncomputable def c47:List S:=
 [.assign (.loc 3) (.meth (.attr (.loc 0) "table") "get" [(.loc 1)]),
 .ite (.bop false [(.cmp .Is (.loc 3) .none),(.not (.call (.fn "is_live" (.user 43)) [(.loc 3),(.loc 2)]))])
  [.ret .none]
  [],
 .ret (.loc 3)]
noncomputable def ps49:List aw:=["self"]
noncomputable def nm49:List aw:=["self","found","key"]
noncomputable def c49:List S:=
 [.assign (.loc 1) (.lst []),
 .for_ (.loc 2) (.call (.fn "sorted" (.bi "sorted")) [(.attr (.loc 0) "table")])
  [.expr (.meth (.loc 1) "append" [(.sub (.attr (.loc 0) "table") (.loc 2))])],
 .ret (.loc 1)]
noncomputable def ps52:List aw:=["items","n"]
noncomputable def nm52:List aw:=["items","n","low","high","middle"]
noncomputable def c52:List S:=
 [.assign (.loc 2) (.int 0),
 .assign (.loc 3) (.call (.fn "len" (.bi "len")) [(.loc 0)]),
 .while_ (.cmp .Lt (.loc 2) (.loc 3))
  [.assign (.loc 4) (.bin .FloorDiv (.bin .Add (.loc 2) (.loc 3)) (.int 2)),
  .ite (.cmp .Lt (.sub (.sub (.attr (.sub (.loc 0) (.loc 4)) "box") (.int 0)) (.int 1)) (.loc 1))
   [.assign (.loc 2) (.bin .Add (.loc 4) (.int 1))]
   [.assign (.loc 3) (.loc 4)]],
 .ret (.loc 2)]
noncomputable def ps54:List aw:=["self"]
noncomputable def nm54:List aw:=["self"]
noncomputable def c54:List S:=
 [.setattr (.loc 0) "items" (.lst [])]
noncomputable def ps55:List aw:=["self","element","now"]
noncomputable def nm55:List aw:=["self","element","now","low","high","begin","place"]
noncomputable def c55:List S:=
 [.assign (.tup [3,4]) (.sub (.attr (.loc 1) "box") (.int 0)),
 .assign (.loc 5) (.call (.fn "place_in" (.user 52)) [(.attr (.loc 0) "items"),(.loc 3)]),
 .assign (.loc 6) (.loc 5),
 .while_ (.bop true [(.cmp .Lt (.loc 6) (.call (.fn "len" (.bi "len")) [(.attr (.loc 0) "items")])),(.cmp .LtE (.sub (.sub (.attr (.sub (.attr (.loc 0) "items") (.loc 6)) "box") (.int 0)) (.int 0)) (.loc 4))])
  [.ite (.call (.fn "is_live" (.user 43)) [(.sub (.attr (.loc 0) "items") (.loc 6)),(.loc 2)])
   [.aug 6 .Add (.int 1)]
   [.expr (.meth (.attr (.loc 0) "items") "pop" [(.loc 6)])]],
 .ite (.cmp .Gt (.loc 6) (.loc 5))
  [.ite (.cmp .Eq (.attr (.sub (.attr (.loc 0) "items") (.loc 5)) "box") (.attr (.loc 1) "box"))
   [.stuck]
   [],
  .stuck]
  [],
 .expr (.meth (.attr (.loc 0) "items") "insert" [(.loc 5),(.loc 1)])]
noncomputable def ps59:List aw:=["self"]
noncomputable def nm59:List aw:=["self"]
noncomputable def c59:List S:=
 [.ret (.call (.fn "list" (.ty "list")) [(.attr (.loc 0) "items")])]
noncomputable def ps76:List aw:=["spec","bits"]
noncomputable def nm76:List aw:=["spec","bits"]
noncomputable def c76:List S:=
 [.ite (.cmp .NotIn (.str "interval") (.sub (.loc 0) (.int 2)))
  [.ret (.call (.fn "PlainStore" (.cls 5)) [])]
  [],
 .ite (.cmp .Eq (.call (.fn "len" (.bi "len")) [(.loc 1)]) (.int 1))
  [.ret (.call (.fn "SpanStore" (.cls 6)) [])]
  [],
 .ret (.call (.fn "BitTables" (.cls 8)) [(.loc 1)])]
noncomputable def ps77:List aw:=["self","name","spec","bits"]
noncomputable def nm77:List aw:=["self","name","spec","bits"]
noncomputable def c77:List S:=
 [.setattr (.loc 0) "name" (.loc 1),
 .setattr (.loc 0) "spec" (.loc 2),
 .setattr (.loc 0) "bits" (.loc 3),
 .setattr (.loc 0) "handle" (.int 0),
 .setattr (.loc 0) "is_anonymous" (.bool false),
 .setattr (.loc 0) "is_bound" (.bool false),
 .setattr (.loc 0) "store" (.call (.fn "new_store" (.user 76)) [(.loc 2),(.loc 3)])]
noncomputable def ps79:List aw:=["name","bits","elements","is_map"]
noncomputable def nm79:List aw:=["name","bits","elements","is_map","flags","literal","data","body","element"]
noncomputable def c79:List S:=
 [.assign (.loc 4) (.tup [(.str "constant")]),
 .for_ (.loc 5) (.loc 2)
  [.ite (.cmp .Is (.call (.fn "single_key" (.user 41)) [(.sub (.loc 5) (.int 0))]) .none)
   [.assign (.loc 4) (.tup [(.str "constant"),(.str "interval")])]
   []],
 .assign (.loc 6) .none,
 .ite (.loc 3)
  [.assign (.loc 6) (.tup []),
  .ite (.bop true [(.cmp .Gt (.call (.fn "len" (.bi "len")) [(.loc 2)]) (.int 0)),(.call (.fn "isinstance" (.bi "isinstance")) [(.sub (.sub (.sub (.loc 2) (.int 0)) (.int 1)) (.int 0)),(.fn "str" (.ty "str"))])])
   [.assign (.loc 6) (.str "verdict")]
   []]
  [],
 .assign (.loc 7) (.call (.fn "SetBody" (.cls 9)) [(.loc 0),(.tup [(.tup []),(.loc 6),(.loc 4),(.int 0),(.int 0),(.bool false)]),(.loc 1)]),
 .setattr (.loc 7) "is_anonymous" (.bool true),
 .setattr (.loc 7) "is_bound" (.bool true),
 .for_ (.loc 5) (.loc 2)
  [.assign (.loc 8) (.call (.fn "Element" (.cls 4)) [(.sub (.loc 5) (.int 0)),(.sub (.loc 5) (.int 1))]),
  .setattr (.loc 8) "comment" (.sub (.loc 5) (.int 3)),
  .expr (.meth (.attr (.loc 7) "store") "put" [(.loc 8),(.int 0)])],
 .ret (.loc 7)]
noncomputable def ps80:List aw:=["script","place"]
noncomputable def nm80:List aw:=["script","place"]
noncomputable def c80:List S:=
 [.ret (.ifx (.cmp .Lt (.loc 1) (.call (.fn "len" (.bi "len")) [(.loc 0)])) (.bin .Mod (.sub (.loc 0) (.loc 1)) (.bin .Pow (.int 2) (.int 64))) (.int 0))]
noncomputable def ps81:List aw:=["number","many"]
noncomputable def nm81:List aw:=["number","many","out","k"]
noncomputable def c81:List S:=
 [.assign (.loc 2) (.lst []),
 .for_ (.loc 3) (.call (.fn "range" (.ty "range")) [(.loc 1)])
  [.expr (.meth (.loc 2) "append" [(.bin .Mod (.loc 0) (.int 256))]),
  .assign (.loc 0) (.bin .FloorDiv (.loc 0) (.int 256))],
 .ret (.call (.fn "bytes" (.ty "bytes")) [(.comp ["k"] [2,1] (.sub (.loc 1) (.bin .Sub (.bin .Sub (.loc 2) (.int 1)) (.loc 0))) 0 (.call (.fn "range" (.ty "range")) [(.loc 1)]) none)])]
noncomputable def ps82:List aw:=["low","bits","m","q","is_ported"]
noncomputable def nm82:List aw:=["low","bits","m","q","is_ported","literals","k","first","data"]
noncomputable def c82:List S:=
 [.assign (.loc 5) (.lst []),
 .for_ (.loc 6) (.call (.fn "range" (.ty "range")) [(.bin .Mod (.loc 2) (.int 4))])
  [.assign (.loc 7) (.bin .Add (.bin .Mult (.int 10) (.bin .Mod (.bin .Add (.loc 6) (.loc 3)) (.int 3))) (.bin .Mod (.bin .FloorDiv (.loc 3) (.int 3)) (.int 5))),
  .assign (.loc 8) (.tup [(.bin .Mod (.bin .Add (.loc 0) (.bin .Mult (.int 257) (.loc 6))) (.bin .Pow (.int 2) (.loc 1)))]),
  .ite (.loc 4)
   [.assign (.loc 8) (.bin .Add (.loc 8) (.tup [(.bin .Mod (.bin .Add (.loc 3) (.bin .Mult (.int 11) (.loc 6))) (.int 65536))]))]
   [],
  .expr (.meth (.loc 5) "append" [(.tup [(.tup [(.tup [(.loc 7),(.bin .Add (.loc 7) (.bin .Mod (.bin .FloorDiv (.bin .FloorDiv (.loc 2) (.int 4)) (.bin .Pow (.int 5) (.loc 6))) (.int 5)))])]),(.loc 8),(.int 0),(.sub (.lst [(.str ""),(.bin .Add (.str "c") (.call (.fn "str" (.ty "str")) [(.loc 6)]))]) (.bin .Mod (.bin .FloorDiv (.loc 3) (.int 15)) (.int 2)))])])],
 .ret (.loc 5)]
noncomputable def ps83:List aw:=["p","q"]
noncomputable def nm83:List aw:=["p","q","low"]
noncomputable def c83:List S:=
 [.assign (.loc 2) (.bin .Mod (.bin .FloorDiv (.loc 0) (.int 3)) (.int 65536)),
 .ite (.cmp .Eq (.bin .Mod (.loc 0) (.int 3)) (.int 0))
  [.ret .none]
  [],
 .ret (.ifx (.cmp .Eq (.bin .Mod (.loc 0) (.int 3)) (.int 2)) (.tup [(.loc 2),(.bin .Add (.loc 2) (.bin .Mod (.loc 1) (.bin .Sub (.int 65536) (.loc 2))))]) (.tup [(.loc 2),(.loc 2)]))]
noncomputable def ps84:List aw:=["form","low","bits","m","literals","names"]
noncomputable def nm84:List aw:=["form","low","bits","m","literals","names","wide","key"]
noncomputable def c84:List S:=
 [.ite (.cmp .Eq (.loc 0) (.int 0))
  [.ret .none]
  [],
 .ite (.cmp .Eq (.loc 0) (.int 1))
  [.ret (.tup [(.str "span"),(.loc 1),(.loc 1)])]
  [],
 .ite (.cmp .Eq (.loc 0) (.int 2))
  [.ret (.tup [(.str "span"),(.loc 1),(.bin .Add (.loc 1) (.bin .Mod (.loc 3) (.bin .Sub (.bin .Pow (.int 2) (.loc 2)) (.loc 1))))])]
  [],
 .ite (.cmp .Eq (.loc 0) (.int 3))
  [.assign (.loc 6) (.bin .Pow (.int 2) (.bin .Sub (.loc 2) (.bin .Mod (.loc 3) (.bin .Add (.loc 2) (.int 1))))),
  .ret (.tup [(.str "net"),(.bin .Mult (.bin .FloorDiv (.loc 1) (.loc 6)) (.loc 6)),(.bin .Mod (.loc 3) (.bin .Add (.loc 2) (.int 1)))])]
  [],
 .assign (.loc 7) (.tup [(.str "field"),(.bin .Add (.str "meta ") (.sub (.loc 5) (.int 0)))]),
 .ite (.cmp .Eq (.call (.fn "len" (.bi "len")) [(.loc 5)]) (.int 2))
  [.assign (.loc 7) (.tup [(.str "concat"),(.tup [(.loc 7),(.tup [(.str "field"),(.bin .Add (.str "meta ") (.sub (.loc 5) (.int 1)))])])])]
  [],
 .ite (.cmp .Eq (.loc 0) (.int 4))
  [.ret (.tup [(.str "map"),(.loc 7),(.tup [(.str "map"),(.call (.fn "tuple" (.ty "tuple")) [(.call (.fn "sorted" (.bi "sorted")) [(.loc 4)])])])])]
  [],
 .ret (.tup [(.str "map"),(.loc 7),(.tup [(.str "ref"),(.bin .Add (.str "n") (.call (.fn "str" (.ty "str")) [(.bin .Mod (.loc 3) (.int 10))]))])])]
noncomputable def ps85:List aw:=["reg","other","ends","many","is_twice"]
noncomputable def nm85:List aw:=["reg","other","ends","many","is_twice","low","high","puts"]
noncomputable def c85:List S:=
 [.assign (.tup [5,6]) (.loc 2),
 .ite (.bop true [(.cmp .Eq (.loc 5) (.loc 6)),(.not (.loc 4))])
  [.ret (.tup [(.lst [(.lst [(.tup [(.str "immediate"),(.loc 0),(.call (.fn "_law_octets" (.user 81)) [(.loc 5),(.loc 3)])])])]),(.lst [(.loc 0),(.loc 0)])])]
  [],
 .assign (.loc 7) (.lst [(.lst [(.tup [(.str "immediate"),(.loc 0),(.call (.fn "_law_octets" (.user 81)) [(.loc 5),(.loc 3)])])]),(.lst [(.tup [(.str "immediate"),(.loc 1),(.call (.fn "_law_octets" (.user 81)) [(.loc 6),(.loc 3)])])])]),
 .ret (.tup [(.loc 7),(.lst [(.loc 0),(.loc 1)])])]
noncomputable def ps86:List aw:=["k","base","script","sets"]
noncomputable def nm86:List aw:=[(aa "k"),(aa "base"),(aa "script"),(aa "sets"),(aa "c"),(aa "low"),(aa "m"),(aa "p"),(aa "q"),(aa "r"),(aa "s"),(aa "form"),(aa "bits"),(aa "kind"),(aa "nfproto"),(aa "flags"),(aa "is_ported"),(aa "ports"),(aa "names"),(aa "literals"),(aa "addresses"),(aa "size"),(aa "a"),(aa "b"),(aa "other"),(aa "is_twice"),(aa "groups"),(aa "places"),(aa "more"),(aa "name"),(aa "at"),(aa "group"),(aa "layout"),(aa "ends"),(aa "puts"),(aa "turn"),(aa "rows"),(aa "told"),(aa "due")]
noncomputable def d86a:List S:=[.assign (.tup [4,5,6,7,8,9,10]) (.comp ["j"] [1,2,0] (.bin .Add (.sub (.loc 1) (.loc 0)) (.call (.fn "_law_digit" (.user 80)) [(.loc 2),(.bin .Add (.bin .Mult (.int 7) (.loc 3)) (.loc 0))])) 0 (.call (.fn "range" (.ty "range")) [(.int 7)]) none),.assign (.loc 11) (.bin .Mod (.loc 4) (.int 8)),.assign (.loc 12) (.sub (.lst [(.int 32),(.int 128)]) (.bin .Mod (.bin .FloorDiv (.loc 4) (.int 128)) (.int 2))),.assign (.loc 5) (.bin .Mod (.loc 5) (.bin .Pow (.int 2) (.loc 12))),.assign (.loc 13) (.sub (.lst [(.str "snat"),(.str "dnat")]) (.bin .Mod (.bin .FloorDiv (.loc 4) (.int 8)) (.int 2))),.assign (.loc 14) (.sub (.lst [(.int 2),(.int 10)]) (.bin .FloorDiv (.loc 12) (.int 128))),.ite (.bop true [(.cmp .Eq (.loc 11) (.int 0)),(.cmp .Gt (.bin .Mod (.bin .FloorDiv (.loc 4) (.int 8)) (.int 4)) (.int 1))]) [.assign (.tup [13,14]) (.tup [(.sub (.lst [(.str "masquerade"),(.str "redirect")]) (.bin .Mod (.bin .FloorDiv (.loc 4) (.int 8)) (.int 2))),(.int 0)])] [],.assign (.loc 15) (.sub (.lst [(.tup []),(.tup [(.str "random")]),(.tup [(.str "persistent")]),(.tup [(.str "random"),(.str "persistent")])]) (.bin .Mod (.bin .FloorDiv (.loc 4) (.int 32)) (.int 4))),.assign (.loc 16) (.bop true [(.cmp .Gt (.loc 11) (.int 3)),(.cmp .Eq (.bin .Mod (.bin .FloorDiv (.loc 10) (.int 24)) (.int 2)) (.int 1))]),.assign (.loc 17) (.ifx (.loc 16) .none (.call (.fn "_law_ports" (.user 83)) [(.loc 7),(.loc 8)])),.assign (.loc 18) (.ifx (.bop true [(.cmp .Eq (.loc 11) (.int 5)),(.cmp .Eq (.bin .Mod (.loc 8) (.int 2)) (.int 1))]) (.lst [(.str "mark"),(.str "iif")]) (.lst [(.str "mark")])),.assign (.loc 19) (.call (.fn "_law_literals" (.user 82)) [(.loc 5),(.loc 12),(.loc 6),(.loc 8),(.loc 16)]),.assign (.loc 20) (.call (.fn "_law_addresses" (.user 84)) [(.loc 11),(.loc 5),(.loc 12),(.loc 6),(.loc 19),(.loc 18)]),.assign (.loc 21) (.ifx (.cmp .Eq (.loc 11) (.int 0)) (.int 0) (.bin .FloorDiv (.loc 12) (.int 8))),.assign (.tup [22,23,24]) (.ifx (.cmp .Eq (.bin .Mod (.loc 9) (.int 2)) (.int 0)) (.tup [(.int 0),(.int 8),(.int 9)]) (.tup [(.bin .Mod (.bin .FloorDiv (.loc 9) (.int 2)) (.int 5)),(.bin .Add (.int 12) (.bin .Mod (.bin .FloorDiv (.loc 9) (.int 10)) (.int 2))),(.bin .Add (.int 14) (.bin .Mod (.bin .FloorDiv (.loc 9) (.int 20)) (.int 2)))])),.assign (.loc 25) (.cmp .Eq (.bin .Mod (.bin .FloorDiv (.loc 10) (.int 4)) (.int 2)) (.int 1))]
noncomputable def d86b:List S:=[.assign (.tup [26,27,28]) (.tup [(.lst []),(.lst [(.neg (.int 1)),(.neg (.int 1))]),(.lst [(.neg (.int 1)),(.neg (.int 1))])]),.ite (.cmp .Gt (.loc 11) (.int 3)) [.assign (.loc 29) (.ifx (.cmp .Eq (.loc 11) (.int 4)) (.bin .Add (.str "s") (.call (.fn "str" (.ty "str")) [(.loc 0)])) (.sub (.sub (.loc 20) (.int 2)) (.int 1))),.ite (.cmp .Eq (.loc 11) (.int 4)) [.setitem (.loc 3) (.loc 29) (.call (.fn "set_of" (.user 79)) [(.loc 29),(.tup [(.int 32)]),(.call (.fn "tuple" (.ty "tuple")) [(.loc 19)]),(.bool true)])] [],.assign (.loc 30) (.bin .Add (.loc 22) (.bin .Mod (.bin .FloorDiv (.loc 10) (.int 4)) (.int 2))),.assign (.loc 31) (.comp ["j"] [30,18] (.tup [(.str "meta"),(.bin .Add (.loc 1) (.loc 0)),(.sub (.loc 2) (.loc 0)),(.int 4),(.str "host")]) 0 (.call (.fn "range" (.ty "range")) [(.call (.fn "len" (.bi "len")) [(.loc 18)])]) none),.assign (.loc 32) (.ifx (.loc 16) (.tup [(.tup [(.loc 21),(.str "big")]),(.tup [(.int 2),(.str "big")])]) (.tup [(.tup [(.loc 21),(.str "big")])])),.assign (.loc 26) (.lst [(.bin .Add (.loc 31) (.lst [(.tup [(.str "map"),(.loc 30),(.bin .Mult (.tup [(.tup [(.int 4),(.str "host")])]) (.call (.fn "len" (.bi "len")) [(.loc 18)])),(.loc 29),(.loc 22),(.loc 32)])]))]),.assign (.loc 27) (.lst [(.loc 22),(.loc 22)]),.ite (.loc 16) [.assign (.loc 28) (.lst [(.bin .Add (.loc 22) (.bin .FloorDiv (.loc 21) (.int 4))),(.bin .Add (.loc 22) (.bin .FloorDiv (.loc 21) (.int 4)))])] []] [.ite (.cmp .Gt (.loc 11) (.int 0)) [.assign (.loc 33) (.tup [(.sub (.loc 20) (.int 1)),(.sub (.loc 20) (.int 2))]),.ite (.cmp .Eq (.loc 11) (.int 3)) [.assign (.loc 33) (.tup [(.sub (.loc 20) (.int 1)),(.bin .Sub (.bin .Add (.sub (.loc 20) (.int 1)) (.bin .Pow (.int 2) (.bin .Sub (.loc 12) (.sub (.loc 20) (.int 2))))) (.int 1))])] [],.assign (.tup [26,27]) (.call (.fn "_law_pair" (.user 85)) [(.loc 22),(.bin .Add (.loc 22) (.bin .FloorDiv (.loc 21) (.int 4))),(.loc 33),(.loc 21),(.loc 25)])] []]]
noncomputable def d86c:List S:=[.ite (.cmp .IsNot (.loc 17) .none) [.assign (.tup [34,28]) (.call (.fn "_law_pair" (.user 85)) [(.loc 23),(.loc 24),(.loc 17),(.int 2),(.loc 25)]),.assign (.loc 26) (.bin .Add (.loc 26) (.loc 34))] []]
noncomputable def d86d:List S:=[.assign (.loc 35) (.bin .Mod (.loc 10) (.call (.fn "max" (.bi "max")) [(.int 1),(.call (.fn "len" (.bi "len")) [(.loc 26)])])),.assign (.loc 36) (.lst []),.for_ (.loc 31) (.bin .Add (.slc (.loc 26) (some (.loc 35)) none) (.slc (.loc 26) none (some (.loc 35)))) [.assign (.loc 36) (.bin .Add (.loc 36) (.loc 31))]]
noncomputable def d86e:List S:=[.assign (.loc 37) (.loc 15),.ite (.cmp .Eq (.loc 11) (.int 3)) [.assign (.loc 37) (.bin .Add (.bin .Add (.slc (.loc 15) none (some (.bin .Mod (.bin .FloorDiv (.loc 10) (.int 8)) (.int 3)))) (.tup [(.str "netmap")])) (.slc (.loc 15) (some (.bin .Mod (.bin .FloorDiv (.loc 10) (.int 8)) (.int 3))) none))] [],.expr (.meth (.loc 36) "append" [(.tup [(.str "nat"),(.loc 13),(.loc 14),(.sub (.loc 27) (.int 0)),(.sub (.loc 27) (.int 1)),(.loc 21),(.sub (.loc 28) (.int 0)),(.sub (.loc 28) (.int 1)),(.loc 37)])]),.assign (.loc 38) (.lst [(.tup [(.bin .Sub (.call (.fn "len" (.bi "len")) [(.loc 36)]) (.int 1)),(.tup [(.str "nat"),(.loc 13),(.loc 14),(.loc 20),(.loc 17),(.loc 15)])])]),.ite (.cmp .Eq (.bin .Mod (.bin .FloorDiv (.loc 4) (.int 256)) (.int 2)) (.int 1)) [.ite (.cmp .Eq (.loc 11) (.int 2)) [.assign (.loc 20) (.tup [(.str "span"),(.loc 5),(.loc 5)])] [],.ite (.cmp .Eq (.loc 11) (.int 3)) [.assign (.loc 20) (.tup [(.str "net"),(.sub (.loc 20) (.int 1)),(.loc 12)])] [],.expr (.meth (.loc 36) "append" [(.tup [(.str "nat"),(.str "dnat"),(.loc 14),(.sub (.loc 27) (.int 0)),(.sub (.loc 27) (.int 0)),(.loc 21),(.neg (.int 1)),(.neg (.int 1)),(.loc 37)])]),.expr (.meth (.loc 38) "append" [(.tup [(.bin .Sub (.call (.fn "len" (.bi "len")) [(.loc 36)]) (.int 1)),(.tup [(.str "nat"),(.str "dnat"),(.loc 14),(.loc 20),.none,(.loc 15)])])])] [],.ret (.tup [(.loc 36),(.loc 38)])]
noncomputable def c86:List S:=d86a++(d86b++(d86c++(d86d++(d86e))))
noncomputable def ps87:List aw:=["base","script","k","order"]
noncomputable def nm87:List aw:=["base","script","k","order","c","n","m","p","q","row","number","rows","octets","op"]
noncomputable def c87:List S:=
 [.assign (.tup [4,5,6,7,8]) (.comp ["j"] [0,1,2] (.bin .Add (.sub (.loc 1) (.loc 0)) (.call (.fn "_law_digit" (.user 80)) [(.loc 2),(.bin .Add (.bin .Mult (.int 7) (.loc 3)) (.loc 0))])) 0 (.call (.fn "range" (.ty "range")) [(.int 5)]) none),
 .ite (.cmp .Eq (.bin .Mod (.loc 4) (.int 8)) (.int 6))
  [.assign (.loc 9) (.tup [(.sub (.lst [(.str "expect"),(.str "flow")]) (.bin .Mod (.loc 6) (.int 2))),(.bin .Add (.str "o") (.call (.fn "str" (.ty "str")) [(.bin .Mod (.loc 8) (.int 10))]))]),
  .ret (.tup [(.lst [(.loc 9)]),(.lst [(.tup [(.int 0),(.loc 9)])])])]
  [],
 .ite (.cmp .Eq (.bin .Mod (.loc 6) (.int 2)) (.int 0))
  [.assign (.loc 10) (.sub (.lst [(.int 6),(.int 17),(.int 1),(.int 58)]) (.bin .Mod (.loc 8) (.int 4))),
  .assign (.loc 11) (.lst [(.tup [(.str "meta"),(.int 0),(.str "l4proto"),(.int 1),(.str "big")]),(.tup [(.str "cmp"),(.str "=="),(.int 0),(.call (.fn "bytes" (.ty "bytes")) [(.lst [(.loc 10)])])])]),
  .ret (.tup [(.loc 11),(.lst [(.tup [(.int 1),(.tup [(.str "match"),(.tup [(.str "field"),(.str "meta l4proto")]),(.str "=="),(.tup [(.str "num"),(.loc 10)])])])])])]
  [],
 .assign (.loc 12) (.call (.fn "_law_octets" (.user 81)) [(.bin .Mod (.loc 5) (.bin .Pow (.int 2) (.int 32))),(.int 4)]),
 .ite (.cmp .Eq (.loc 3) (.str "little"))
  [.assign (.loc 12) (.call (.fn "bytes" (.ty "bytes")) [(.lst [(.sub (.loc 12) (.int 3)),(.sub (.loc 12) (.int 2)),(.sub (.loc 12) (.int 1)),(.sub (.loc 12) (.int 0))])])]
  [],
 .assign (.loc 13) (.sub (.lst [(.str "=="),(.str "!=")]) (.bin .Mod (.loc 8) (.int 2))),
 .assign (.loc 11) (.lst [(.tup [(.str "meta"),(.bin .Mod (.loc 7) (.int 16)),(.str "mark"),(.int 4),(.str "host")]),(.tup [(.str "cmp"),(.loc 13),(.bin .Mod (.loc 7) (.int 16)),(.loc 12)])]),
 .ret (.tup [(.loc 11),(.lst [(.tup [(.int 1),(.tup [(.str "match"),(.tup [(.str "field"),(.str "meta mark")]),(.loc 13),(.tup [(.str "num"),(.bin .Mod (.loc 5) (.bin .Pow (.int 2) (.int 32)))])])])])])]
noncomputable def ps88:List aw:=["script","order"]
noncomputable def nm88:List aw:=["script","order","base","sets","rows","due","k","at","statement","more","statements","reading","backs","row","back_one"]
noncomputable def d88a:List S:=[.assign (.loc 2) (.lst [(.tup [(.int 227),(.int 42540766464122081094298350666160367223),(.int 56),(.int 0),(.int 0),(.int 0),(.int 16)]),(.tup [(.int 7),(.int 287454020),(.int 0),(.int 0),(.int 0),(.int 0),(.int 0)])]),.assign (.loc 2) (.bin .Add (.loc 2) (.lst [(.tup [(.int 298),(.int 3325256725),(.int 20),(.int 12002),(.int 99),(.int 27),(.int 1)]),(.tup [(.int 76),(.int 167772260),(.int 143),(.int 0),(.int 19),(.int 0),(.int 24)])])),.assign (.loc 2) (.bin .Add (.loc 2) (.lst [(.tup [(.int 133),(.int 65152),(.int 4),(.int 24241),(.int 1),(.int 3),(.int 5)]),(.tup [(.int 48),(.int 0),(.int 0),(.int 3074),(.int 64511),(.int 0),(.int 0)])])),.assign (.loc 3) .edct,.assign (.loc 4) (.lst []),.assign (.loc 5) (.lst [])]
noncomputable def d88b:List S:=[.for_ (.loc 6) (.call (.fn "range" (.ty "range")) [(.int 6)]) [.ite (.cmp .Lt (.bin .Mod (.bin .Add (.sub (.sub (.loc 2) (.loc 6)) (.int 0)) (.call (.fn "_law_digit" (.user 80)) [(.loc 0),(.bin .Mult (.int 7) (.loc 6))])) (.int 8)) (.int 6)) [.assign (.tup [9,10]) (.call (.fn "_law_nat" (.user 86)) [(.loc 6),(.sub (.loc 2) (.loc 6)),(.loc 0),(.loc 3)])] [.assign (.tup [9,10]) (.call (.fn "_law_rest" (.user 87)) [(.sub (.loc 2) (.loc 6)),(.loc 0),(.loc 6),(.loc 1)])],.for_ (.tup [7,8]) (.loc 10) [.expr (.meth (.loc 5) "append" [(.tup [(.bin .Add (.call (.fn "len" (.bi "len")) [(.loc 4)]) (.loc 7)),(.loc 8)])])],.assign (.loc 4) (.bin .Add (.loc 4) (.loc 9))],.assign (.loc 11) (.call (.fn "Reading" (.cls 3)) [.edct,(.str "inet"),(.loc 3)]),.setattr (.loc 11) "order" (.loc 1),.assign (.loc 12) (.call (.fn "back_nat" (.user 39)) []),.expr (.meth (.loc 12) "update" [(.dfn [("immediate","back_immediate",(.user 32)),("meta","back_meta",(.user 31)),("cmp","back_cmp",(.user 34)),("map","back_map",(.user 35))])]),.for_ (.loc 13) (.loc 4) [.assign (.loc 14) (.sub (.loc 12) (.sub (.loc 13) (.int 0))),.expr (.call (.loc 14) [(.loc 11),(.loc 13)]),.augattr (.loc 11) "at" .Add (.int 1)],.expr (.call (.fn "flush" (.user 22)) [(.loc 11)]),.ret (.bop true [(.cmp .Eq (.attr (.loc 11) "statements") (.loc 5)),(.cmp .Eq (.attr (.loc 11) "pending") (.lst [])),(.cmp .Eq (.attr (.loc 11) "dropped") (.lst []))])]
noncomputable def c88:List S:=d88a++(d88b)
noncomputable def ps89:List aw:=["script","at","k","base"]
noncomputable def nm89:List aw:=["script","at","k","base","gaps","low","high","port_low","port_high","reading","numbers","reg","asked","due","addresses","ports","why","fault"]
noncomputable def c89:List S:=
 [.assign (.tup [4,5,6,7,8]) (.comp ["j"] [3,0,1] (.bin .Add (.sub (.loc 1) (.loc 0)) (.call (.fn "_law_digit" (.user 80)) [(.loc 2),(.bin .Add (.loc 3) (.loc 0))])) 0 (.call (.fn "range" (.ty "range")) [(.int 5)]) none),
 .assign (.tup [5,6,7,8]) (.tup [(.bin .Sub (.bin .Mod (.loc 5) (.int 7)) (.int 1)),(.bin .Mod (.loc 6) (.int 6)),(.bin .Sub (.bin .Mod (.loc 7) (.int 7)) (.int 1)),(.bin .Mod (.loc 8) (.int 6))]),
 .assign (.loc 9) (.call (.fn "Reading" (.cls 3)) [.edct,(.str "ip"),.edct]),
 .setattr (.loc 9) "at" (.bin .Add (.int 7) (.loc 2)),
 .assign (.loc 10) .edct,
 .for_ (.loc 11) (.call (.fn "range" (.ty "range")) [(.int 5)])
  [.ite (.cmp .Eq (.bin .Mod (.bin .FloorDiv (.loc 4) (.bin .Pow (.int 2) (.loc 11))) (.int 2)) (.int 0))
   [.setitem (.loc 10) (.loc 11) (.bin .Mod (.bin .Add (.bin .Add (.int 2712847316) (.bin .Mult (.int 16843009) (.loc 11))) (.bin .FloorDiv (.loc 4) (.int 32))) (.bin .Pow (.int 2) (.int 32))),
   .expr (.call (.fn "back_immediate" (.user 32)) [(.loc 9),(.tup [(.str "immediate"),(.loc 11),(.call (.fn "_law_octets" (.user 81)) [(.sub (.loc 10) (.loc 11)),(.int 4)])])])]
   []],
 .assign (.loc 12) (.comp2 ["one","reg"] [] (.loc 1) 0 (.lst [(.tup [(.loc 5),(.loc 6)]),(.tup [(.loc 7),(.loc 8)])]) (.cmp .GtE (.sub (.loc 0) (.int 0)) (.int 0)) 1 (.loc 0)),
 .assign (.loc 13) (.tup [(.str "a register that nothing was put into"),(.lst [])]),
 .ite (.call (.fn "all" (.bi "all")) [(.comp ["reg"] [10] (.cmp .In (.loc 0) (.loc 1)) 0 (.loc 12) none)])
  [.assign (.loc 14) (.ifx (.cmp .Lt (.loc 5) (.int 0)) .none (.tup [(.str "span"),(.sub (.loc 10) (.loc 5)),(.sub (.loc 10) (.loc 6))])),
  .assign (.loc 15) (.ifx (.cmp .Lt (.loc 7) (.int 0)) .none (.tup [(.sub (.loc 10) (.loc 7)),(.sub (.loc 10) (.loc 8))])),
  .assign (.loc 13) (.tup [(.str ""),(.lst [(.tup [(.bin .Add (.int 7) (.loc 2)),(.tup [(.str "nat"),(.str "snat"),(.int 2),(.loc 14),(.loc 15),(.tup [(.str "random")])])])])])]
  [],
 .assign (.loc 16) (.str ""),
 .tryWhy (.call (.fn "back_nat_row" (.user 38)) [(.loc 9),(.tup [(.str "nat"),(.str "snat"),(.int 2),(.loc 5),(.loc 6),(.int 4),(.loc 7),(.loc 8),(.tup [(.str "random")])])]) 17 16,
 .ret (.cmp .Eq (.tup [(.loc 16),(.attr (.loc 9) "statements")]) (.loc 13))]
noncomputable def ps90:List aw:=["script"]
noncomputable def nm90:List aw:=["script","base","k"]
noncomputable def c90:List S:=
 [.ite (.not (.call (.fn "_law_rule_holds" (.user 88)) [(.loc 0),(.sub (.lst [(.str "little"),(.str "big")]) (.bin .Mod (.call (.fn "_law_digit" (.user 80)) [(.loc 0),(.int 62)]) (.int 2)))]))
  [.ret (.bool false)]
  [],
 .assign (.loc 1) (.lst [(.tup [(.int 0),(.int 3),(.int 0),(.int 5),(.int 2)]),(.tup [(.int 9),(.int 2),(.int 1),(.int 0),(.int 4)]),(.tup [(.int 0),(.int 0),(.int 3),(.int 3),(.int 5)]),(.tup [(.int 4),(.int 3),(.int 3),(.int 5),(.int 0)])]),
 .for_ (.loc 2) (.call (.fn "range" (.ty "range")) [(.int 4)])
  [.ite (.not (.call (.fn "_law_hand_holds" (.user 89)) [(.loc 0),(.bin .Add (.int 42) (.bin .Mult (.int 5) (.loc 2))),(.loc 2),(.sub (.loc 1) (.loc 2))]))
   [.ret (.bool false)]
   []],
 .ret (.bool true)]
end
section
open PySem PySem.W PyProof.Rows PySem.Calls
theorem tX {α:Type} {o:Option α} {p:α->Bool} (h:o.any p=true):∃x,o=some x/\p x=true:=by
 cases o with
 |none=>exact aM h
 |some x=>exact ⟨x,rfl,h⟩
theorem wy {α β:Type} {o:Option α} {f:α->Option β} {y:β} (h:o.bind f=some y):∃x,o=some x/\f x=some y:=by
 cases o with
 |none=>exact (cW h).elim
 |some x=>exact ⟨x,rfl,h⟩
noncomputable def fdOf (K:gk) (a:aI):Option xZ:=(K.lookup a).bind λ o=>match o.data with
 |.func fd=>some fd
 |_=>none
theorem Hj {K:gk} (h:fdOf K a=some fd):∃o,K.lookup a=some o/\o.data=.func fd:=by
 refine aL (wy h) λ o e h=>⟨o,e,?_⟩
 generalize o.data=d at h
 cases d<;>first|exact congrArg Data.func (ac h)|exact (cW h).elim
noncomputable def flOf (K:gk) (v:av):Option (Array av):=match v with
 |.ref a=>(K.lookup a).bind λ o=>match o.data with
  |.fields vs=>some vs
  |_=>none
 |_=>none
theorem HK {K:gk} (h:flOf K v=some vs):∃a o,v=.ref a/\K.lookup a=some o/\o.data=.fields vs:=by
 cases v<;>first|exact (cW h).elim|skip
 refine aL (wy h) λ o e h=>⟨_,o,rfl,e,?_⟩
 generalize o.data=d at h
 cases d<;>first|exact congrArg sj (ac h)|exact (cW h).elim
noncomputable def strIs (q:aw) (o:Option av):Bool:=match o with
 |some (.str q1 _)=>q1==q
 |_=>false
theorem EF (h:strIs q o=true):∃t,o=some (.str q t):=by
 cases o with
 |none=>exact aM h
 |some v=>cases v<;>first|exact ⟨_,congrArg (λ q=>some (Value.str q _)) (eq_of_beq h)⟩|exact aM h
noncomputable def codeChk (K:gk) (cd:av) (q:aw):Bool:=(flOf K cd).any λ vs=>strIs q vs[1]?
theorem xn {K:gk} (X:K.In h) (e:codeChk K cd q=true):h.CodeRec cd q:=by
 refine aL (tX e) λ vs e1 e2=>(cu (HK e1) λ a o r1_ e3 e4=>?_)
 subst r1_
 exact bw (EF e2) λ t e5=>⟨a,o,vs,t,rfl,X _ _ e3,e4,e5⟩
noncomputable def stOf (K:gk) (a:aI):Option (List lz):=(fdOf K a).bind λ fd=>match fd.body with
 |.stmts b=>some b
 |_=>none
theorem Hl {K:gk} (h:stOf K a=some b) (e:fdOf K a=some fd):fd.body=.stmts b:=by
 refine aL (wy h) λ fd' e' h=>?_
 (have e_:=ac (e.symm.trans e');subst e_)
 generalize fd.body=d at h⊢
 cases d<;>first|exact congrArg FuncBody.stmts (ac h)|exact (cW h).elim
noncomputable def parChk (fd:xZ) (ps nm:List aw):Bool:=
 fd.globals==dj&&(fd.builtins==lB&&(fd.closure.isEmpty&&(fd.scope.kind==.function&&(!fd.scope.isCoroutine&&(!fd.scope.isGenerator&&
  (fd.params.posonlyargs.isEmpty&&(fd.params.vararg.isNone&&(fd.params.kwonlyargs.isEmpty&&(fd.params.kwarg.isNone&&(fd.params.args.map (·.arg)==ps&&(decide nm.Nodup&&(nm.take ps.length==ps&&
   nm.all λ x=>fd.scope.names.lookup x==some .local||fd.scope.names.lookup x==some .cell))))))))))))
noncomputable def fnChk1 (gl:GL) (K:gk) (a:aI) (ps nm:List aw) (t:PT) (body:List S):Bool:=(fdOf K a).any λ fd=>codeChk K fd.code fd.qualname&&(parChk fd ps nm&&okSs gl fd.scope nm body t)
noncomputable def noDf (K:gk) (a:aI):Bool:=(fdOf K a).any λ fd=>fd.defaults==.none
noncomputable def pN (p:Bx) (l r:PT):PT:=.n p 0 PT.nil.s PT.nil.x l r
noncomputable def pL (l r:PT):PT:=pN PT.nil.p l r
noncomputable def pE:Nat->Expr->PT
 |0,_=>.nil
 |n+1,x=>match x with
  |.Constant _ k p=>.n p k PT.nil.s PT.nil.x .nil .nil
  |.Name _ p=>pN p .nil .nil
  |.UnaryOp _ a p=>pN p (pE n a) .nil
  |.BinOp a _ b p=>pN p (pE n a) (pE n b)
  |.Compare a _ bs p=>pN p (pE n a) (bs.foldr (λ x Z=>pE n x) .nil)
  |.BoolOp _ es p=>pN p (es.foldr (λ x=>pL (pE n x)) .nil) .nil
  |.IfExp c b o p=>pN p (pE n c) (pL (pE n b) (pE n o))
  |.Tuple es k p=>.n p k PT.nil.s PT.nil.x (es.foldr (λ x=>pL (pE n x)) .nil) .nil
  |.List es p=>pN p (es.foldr (λ x=>pL (pE n x)) .nil) .nil
  |.Dict ks vs p=>pN p (ks.foldr (λ x=>pL (x.elim .nil (pE n))) .nil) (vs.foldr (λ x=>pL (pE n x)) .nil)
  |.Subscript a i p=>pN p (pE n a) (pE n i)
  |.Slice lo hi _ p=>pN p (lo.elim .nil (pE n)) (hi.elim .nil (pE n))
  |.Attribute a _ p=>pN p (pE n a) .nil
  |.Call f as _ p=>pN p (pE n f) (as.foldr (λ x=>pL (pE n x)) .nil)
  |.ListComp el gs s p=>.n p 0 s PT.nil.x (pE n el) (match gs with
   |[g]=>pN g.target.pos (pE n g.iter) (g.ifs.foldr (λ x Z=>pE n x) .nil)
   |[g,g2]=>pN g.target.pos (pE n g.iter) (pN g2.target.pos (g.ifs.foldr (λ x Z=>pE n x) .nil) (pE n g2.iter))
   |_=>.nil)
  |_=>.nil
noncomputable def pS:Nat->lz->PT
 |0,_=>.nil
 |n+1,x=>match x with
  |.Assign ts v p=>pN p (ts.foldr (λ x Z=>pE n x) .nil) (pE n v)
  |.AugAssign x _ v p=>pN p (pE n x) (pE n v)
  |.If c b o p=>pN p (pE n c) (pL (b.foldr (λ x=>pL (pS n x)) .nil) (o.foldr (λ x=>pL (pS n x)) .nil))
  |.While c b _ p=>pN p (pE n c) (b.foldr (λ x=>pL (pS n x)) .nil)
  |.For x it b _ p=>pN p (pE n x) (pL (pE n it) (b.foldr (λ x=>pL (pS n x)) .nil))
  |.Return o p=>pN p (o.elim .nil (pE n)) .nil
  |.Expr e p=>pN p (pE n e) .nil
  |.Raise o _ p=>.n p 0 PT.nil.s x (o.elim .nil (pE n)) .nil
  |.Try b hs _ _ p=>pN p (b.foldr (λ x Z=>pS n x) .nil) (match hs with
   |[.ExceptHandler ty _ [a] hp]=>pL (pN hp (ty.elim .nil (pE n)) .nil) (pS n a)
   |_=>.nil)
  |x=>.n x.pos 0 PT.nil.s x .nil .nil
noncomputable def pSs (b:List lz):PT:=b.foldr (λ x=>pL (pS 60 x)) .nil
end
section
open PySem PySem.W
structure yw (tb:ow):Prop where
 m:∀f us H (Q Q':V->MH->Prop) (X X':aw->MH->Prop),(∀u H,Q u H->Q' u H)->(∀w H,X w H->X' w H)->tb.spec f us H Q X->tb.spec f us H Q' X'
theorem df (k:∀u H,Q u H->Q' u H):∀u H,fh tst Q u H->fh tst Q' u H:=λ u H h=>by
 cases tst with
 |false=>exact k _ _ h
 |true=>exact y0 (λ Z=>k _ _) id h
theorem i0 {α:Type} {P:α->Prop}:∀x,P x->P x:=λ Z h=>h
theorem i2 {α β:Type} {P:α->β->Prop}:∀x y,P x y->P x y:=λ Z Z h=>h
theorem i3 {α β γ:Type} {P:α->β->γ->Prop}:∀x y z,P x y z->P x y z:=λ Z Z Z h=>h
theorem AI {op u v H} (k:∀u H,Q u H->Q' u H):binV op u v H Q->binV op u v H Q':=by
 cases op with
 |Add=>exact gj (λ Z=>gj (λ Z=>k _ _) i0 i0 i0) (λ Z=>gj i0 (λ Z h=>⟨h.1,k _ _ h.2⟩) i0 i0) (λ Z=>gj i0 i0 (λ Z h=>⟨h.1,k _ _ h.2⟩) i0) λ Z=>gj i0 i0 i0 λ Z=>pg (λ Z=>pg (λ Z h=>⟨h.1,λ c hc=>k _ _ (h.2 c hc)⟩) i0 i2 i0 id i3) i0 i2 i0 id i3
 |Mult=>exact gj (λ Z=>gj (λ Z h=>⟨h.1,k _ _ h.2⟩) i0 (λ Z=>Hr λ Z h=>⟨h.1,k _ _ h.2⟩) i0) i0 i0 i0
 |_=>first
  |exact id
  |exact xM (λ Z Z=>k _ _)
  |exact xM (λ Z Z q=>⟨q.1,k _ _ q.2⟩)
  |exact xM (λ Z Z=>qM (k _ _))
  |exact xM (λ Z Z=>vP (k _ _) λ q=>⟨q.1,k _ _ q.2⟩)
theorem wd {u v H} (k:∀b,Q b->Q' b):Ih u v H Q->Ih u v H Q':=y0 k (FY λ Z=>FY λ Z h=>⟨h.1,h.2.1,k _ h.2.2⟩)
theorem wB {u v H} (k:∀b,Q b->Q' b):inV u v H Q->inV u v H Q':=
 gj (λ Z=>gj i0 i0 i0 λ Z=>pg i0 i0 (λ Z Z=>k _) i0 (k _) i3) (λ Z=>gj i0 i0 (λ Z ⟨ss,e,q⟩=>⟨ss,e,k _ q⟩) λ Z=>pg i0 (λ Z=>k _) i2 i0 (k _) i3) i0 i0
theorem wG {u v} (k:∀b,Q b->Q' b):J9 u v Q->J9 u v Q':=by
 cases v with
 |none=>exact y0 k id
 |_=>exact id
theorem zY {op u v H} (k:∀b,Q b->Q' b):cmpV op u v H Q->cmpV op u v H Q':=by
 cases op
 ·exact wd k
 ·exact wd (λ b=>k _)
 all_goals first
  |exact xM (λ Z Z=>k _)
  |exact wB k
  |exact wB (λ b=>k _)
  |exact wG k
  |exact wG (λ b=>k _)
theorem zM {u i H} (k:∀u H,Q u H->Q' u H):subV u i H Q->subV u i H Q':=by
 have o:∀{o:Option V},w7 o (λ u=>Q u H)->w7 o λ u=>Q' u H:=yy λ Z=>k _ _
 cases u with
 |tuple us=>exact gj (λ Z=>o) i0 i0 i0
 |flist us=>exact gj (λ Z=>o) i0 i0 i0
 |bytes b=>exact gj (λ Z h=>⟨h.1,k _ _ h.2⟩) i0 i0 i0
 |ref a=>exact gj (λ Z=>pg (λ Z=>o) i0 (λ Z Z=>o) i0 id i3) (λ Z=>pg i0 (λ Z=>o) i2 i0 id i3) (λ Z=>pg i0 i0 i2 (λ Z ⟨kk,e,q⟩=>⟨kk,e,o q⟩) id i3) i0
 |_=>exact id
theorem zq {u lo hi H} (k:∀u H,Q u H->Q' u H):slcV u lo hi H Q->slcV u lo hi H Q':=
 gj i0 i0 (λ Z=>tP λ Z h=>⟨h.1,k _ _ h.2⟩) λ Z=>pg (λ Z=>tP λ Z h=>⟨h.1,λ c hc=>k _ _ (h.2 c hc)⟩) i0 i2 i0 id i3
theorem rY {u n H} (k:∀u H,Q u H->Q' u H):rL u n H Q->rL u n H Q':=gj i0 i0 i0 λ Z=>pg i0 i0 i2 i0 id λ Z Z Z=>yy λ Z=>k _ _
theorem mP {fl u n w H} (k:∀H,N H->N' H):setattrV fl u n w H N->setattrV fl u n w H N':=gj i0 i0 i0 λ Z=>pg i0 i0 i2 i0 id λ Z Z Z=>qM (qM (k _))
theorem sB {u i w H} (k:∀H,N H->N' H):eI u i w H N->eI u i w H N':=gj i0 i0 i0 λ Z=>
 gj (λ Z=>pg i0 i0 (λ Z Z h=>⟨h.1,k _ h.2⟩) i0 (k _) i3) (λ Z=>pg i0 (λ Z h=>⟨h.1,k _ h.2⟩) i2 i0 (k _) i3) (λ Z ⟨kk,e,q⟩=>⟨kk,e,pg i0 i0 i2 (λ Z h=>⟨h.1,h.2.1,k _ h.2.2⟩) (k _) i3 q⟩) i0
theorem rU (m:yw tb) {lv f us H} (k:∀u H,Q u H->Q' u H) (kx:∀w H,X w H->X' w H) (h:mL tb lv f us H Q X):mL tb lv f us H Q' X':=by
 cases f with
 |fn g=>
  cases g with
  |cls n=>
   exact FP (λ i=>qM λ h a d ha=>m.m _ _ _ _ _ _ _ (λ u H q=>⟨q.1,k _ _ q.2⟩) kx (h a d ha)) h
  |_=>exact qM (m.m _ _ _ _ _ _ _ k kx) h
 |_=>exact h.elim
theorem gV {cond:V->MH->(Bool->MH->Prop)->Prop} (me:∀u H R R',(∀v H,R v H->R' v H)->el u H R->el u H R') (mc:∀u H R R',(∀v H,R v H->R' v H)->cond u H R->cond u H R'):
  ∀{us acc H} {Q Q':List V->MH->Prop},(∀u H,Q u H->Q' u H)->compTurns el cond us acc H Q->compTurns el cond us acc H Q'
 |[],_,_,_,_,k,h=>k _ _ h
 |u::us,_,_,_,_,k,h=>mc _ _ _ _ (λ b H q=>vP (me _ _ _ _ λ v H q=>gV me mc k q) (gV me mc k) q) h
theorem i8 {cond:V->MH->(Bool->MH->Prop)->Prop} (me:∀u w H R R',(∀v H,R v H->R' v H)->el u w H R->el u w H R') (mc:∀u H R R',(∀v H,R v H->R' v H)->cond u H R->cond u H R') (mi:∀u H R R',(∀v,R v->R' v)->fk u H R->fk u H R'):
  ∀{us acc H} {Q Q':List V->MH->Prop},(∀u H,Q u H->Q' u H)->compTurns2 el cond fk us acc H Q->compTurns2 el cond fk us acc H Q'
 |[],_,_,_,_,k,h=>k _ _ h
 |u::us,_,_,_,_,k,h=>mc _ _ _ _ (λ b H q=>vP (mi _ _ _ _ λ v (q:compTurns (el u) (λ Z H2 R=>R true H2) v _ _ _)=>by
   refine gV (me u) ?_ ?_ q
   ·exact λ Z Z Z Z k h=>k _ _ h
   ·exact λ Z Z q=>i8 me mc mi k q) (i8 me mc mi k) q) h
def mE (tb lv) (e:E):=∀⦃tst:Bool⦄⦃ρ:db⦄⦃H:MH⦄⦃Q Q':V->MH->Prop⦄⦃X X':aw->MH->Prop⦄,(∀u H,Q u H->Q' u H)->(∀w H,X w H->X' w H)->wpE tb lv tst e ρ H Q X->wpE tb lv tst e ρ H Q' X'
def NY (tb lv) (es:List E):=∀⦃ρ:db⦄⦃H:MH⦄⦃Q Q':List V->MH->Prop⦄⦃X X':aw->MH->Prop⦄,(∀u H,Q u H->Q' u H)->(∀w H,X w H->X' w H)->wpEs tb lv es ρ H Q X->wpEs tb lv es ρ H Q' X'
def mO (tb lv) (e:Option E):=∀⦃ρ:db⦄⦃H:MH⦄⦃Q Q':V->MH->Prop⦄⦃X X':aw->MH->Prop⦄,(∀u H,Q u H->Q' u H)->(∀w H,X w H->X' w H)->wpO tb lv e ρ H Q X->wpO tb lv e ρ H Q' X'
def mC (tb lv) (e:Option E):=∀⦃ρ:db⦄⦃H:MH⦄⦃Q Q':Bool->MH->Prop⦄,(∀u H,Q u H->Q' u H)->wpC tb lv e ρ H Q->wpC tb lv e ρ H Q'
def mB (tb lv) (c:Bool) (es:List E):=∀⦃ρ:db⦄⦃H:MH⦄⦃Q Q':V->MH->Prop⦄⦃X X':aw->MH->Prop⦄,(∀u H,Q u H->Q' u H)->(∀w H,X w H->X' w H)->wpB tb lv c es ρ H Q X->wpB tb lv c es ρ H Q' X'
def NU (tb lv) (c:Bool) (es:List E):=∀⦃ρ:db⦄⦃H:MH⦄⦃Q Q':V->MH->Prop⦄⦃X X':aw->MH->Prop⦄,(∀u H,Q u H->Q' u H)->(∀w H,X w H->X' w H)->wpTs tb lv c es ρ H Q X->wpTs tb lv c es ρ H Q' X'
section
variable (m:yw tb) (lv:Nat)
include m
mutual
theorem bj:∀(e:E),mE tb lv e
 |.none=>λ Z ρ H Q R X Y k Z h=>df k _ _ h
 |.bool b=>λ Z ρ H Q R X Y k Z h=>df k _ _ h
 |.int b=>λ Z ρ H Q R X Y k Z h=>df k _ _ h
 |.str b=>λ Z ρ H Q R X Y k Z h=>df k _ _ h
 |.loc i=>λ Z ρ H Q R X Y k Z h=>yy (λ Z=>df k _ _) h
 |.fn _ f=>λ Z ρ H Q R X Y k Z h=>df k _ _ h
 |.neg a=>λ Z ρ H Q R X Y k kx h=>bj a (λ u H=>J3 λ Z=>df k _ _) kx h
 |.bin op a b=>λ Z ρ H Q R X Y k kx h=>bj a (λ u H q=>bj b (λ v H q=>AI (df k) q) kx q) kx h
 |.cmp op a b=>λ Z ρ H Q R X Y k kx h=>bj a (λ u H q=>bj b (λ v H q=>zY (λ Z=>k _ _) q) kx q) kx h
 |.not a=>λ Z ρ H Q R X Y k kx h=>qM (bj a (λ u H=>qG λ Z=>k _ _) kx) h
 |.bop c es=>λ tst ρ H Q R X Y k kx h=>by
  cases tst with
  |false=>exact wj c es k kx h
  |true=>exact tq c es k kx h
 |.ifx t b o=>λ Z ρ H Q R X Y k kx h=>bj t (λ u H=>qG λ Z=>vP (bj b k kx) (bj o k kx)) kx h
 |.tup es=>λ Z ρ H Q R X Y k kx h=>kM es (λ us H q=>df k _ _ q) kx h
 |.lst es=>λ Z ρ H Q R X Y k kx h=>kM es (λ us H q c hc=>df k _ _ (q c hc)) kx h
 |.edct=>λ Z ρ H Q R X Y k kx h=>λ c hc=>df k _ _ (h c hc)
 |.dfn ps=>λ Z ρ H Q R X Y k kx h=>λ c hc=>df k _ _ (h c hc)
 |.sub a i=>λ Z ρ H Q R X Y k kx h=>bj a (λ u H q=>bj i (λ v H q=>zM (df k) q) kx q) kx h
 |.slc a lo hi=>λ Z ρ H Q R X Y k kx h=>bj a (λ u H q=>wk lo (λ v H q=>wk hi (λ w H q=>zq (df k) q) kx q) kx q) kx h
 |.attr a n=>λ Z ρ H Q R X Y k kx h=>bj a (λ u H q=>rY (df k) q) kx h
 |.call f as=>λ Z ρ H Q R X Y k kx h=>bj f (λ g H=>Jb λ Z=>kM as (λ us H=>rU m (df k) kx) kx) kx h
 |.meth o n as=>λ Z ρ H Q R X Y k kx h=>bj o (λ u H=>FP λ Z=>kM as (λ us H=>rU m (df k) kx) kx) kx h
 |.comp own fr el t it cond=>λ Z ρ H Q R X Y k kx h=>bj it (λ u H=>tP λ us q=>by
   refine ⟨q.1,gV (λ v H R R' kr=>?_) (λ v H R R' kr=>?_) (λ vs H q c hc=>?_) q.2⟩
   ·exact bj el kr λ Z Z z=>z
   ·exact Du cond kr
   ·exact df k _ _ (q c hc)) kx h
 |.comp2 own fr el t it cond t2 it2=>λ Z ρ H Q R X Y k kx h=>bj it (λ u H=>tP λ us q=>by
   refine ⟨q.1,i8 (λ v w H R R' kr=>?_) (λ v H R R' kr=>?_) (λ v H R R' kr=>?_) (λ vs H q c hc=>?_) q.2⟩
   ·exact bj el kr λ Z Z z=>z
   ·exact bj cond (λ u H=>qG λ Z=>kr _ _) λ Z Z z=>z
   ·exact bj it2 (λ u H q=>⟨q.1,JL (λ Z q=>⟨q.1,kr _ q.2⟩) q.2⟩) λ Z Z z=>z
   ·exact df k _ _ (q c hc)) kx h
 |.stuck=>λ Z ρ H Q R X Y Z Z h=>h.elim
theorem kM:∀(es:List E),NY tb lv es
 |[]=>λ ρ H Q R X Y k Z h=>k _ _ h
 |e::es=>λ ρ H Q R X Y k kx h=>bj e (λ u H q=>kM es (λ us H q=>k _ _ q) kx q) kx h
theorem wk:∀(e:Option E),mO tb lv e
 |none=>λ ρ H Q R X Y k Z h=>k _ _ h
 |some e=>λ ρ H Q R X Y k kx h=>bj e k kx h
theorem Du:∀(e:Option E),mC tb lv e
 |none=>λ ρ H Q R k h=>k _ _ h
 |some e=>λ ρ H Q R k h=>bj e (λ u H=>qG λ Z=>k _ _) (λ Z Z z=>z) h
theorem wj:∀(c:Bool) (es:List E),mB tb lv c es
 |_,[]=>λ ρ H Q R X Y Z Z h=>h.elim
 |_,[e]=>λ ρ H Q R X Y k kx h=>bj e k kx h
 |c,e::e2::es=>λ ρ H Q R X Y k kx h=>bj e (λ u H=>y0 (λ Z=>vP (wj c (e2::es) k kx) (k _ _)) id) kx h
theorem tq:∀(c:Bool) (es:List E),NU tb lv c es
 |_,[]=>λ ρ H Q R X Y k Z h=>k _ _ h
 |c,e::es=>λ ρ H Q R X Y k kx h=>bj e (λ u H=>qG λ Z=>vP (tq c es k kx) (k _ _)) kx h
end
end
theorem on {t u ρ H} (k:∀ρ H,N ρ H->N' ρ H):assignT t u ρ H N->assignT t u ρ H N':=by
 cases t with
 |loc i=>exact k _ _
 |tup is=>exact tP λ Z h=>⟨h.1,k _ _ h.2⟩
theorem Dt (k:∀z,K z->K' z):Ds op x y K->Ds op x y K':=by cases op<;>first|exact k _|exact id
theorem tM (mt:∀u ρ H N N',(∀ρ H,N ρ H->N' ρ H)->turn u ρ H N->turn' u ρ H N'):∀{us ρ H} {N N':db->MH->Prop},(∀ρ H,N ρ H->N' ρ H)->forW turn us ρ H N->forW turn' us ρ H N'
 |[],_,_,_,_,k,h=>k _ _ h
 |u::us,_,_,_,_,k,h=>mt _ _ _ _ _ (λ ρ H q=>tM mt k q) h
theorem p9 (mt:∀ρ H K K',(∀b H,K b H->K' b H)->test ρ H K->test ρ H K') (mb:∀ρ H K K',(∀ρ H,K ρ H->K' ρ H)->body ρ H K->body' ρ H K')
  (k:∀ρ H,N ρ H->N' ρ H):∀{n ρ H},whileW test body N n ρ H->whileW test body' N' n ρ H
 |0,_,_,h=>h.elim
 |n+1,_,_,h=>mt _ _ _ _ (λ b H q=>vP (mb _ _ _ _ λ ρ H q=>p9 mt mb k q) (k _ _) q) h
def mS (tb lv) (e:S):=∀⦃ρ:db⦄⦃H:MH⦄⦃N N':db->MH->Prop⦄⦃R R':V->MH->Prop⦄⦃X X':aw->MH->Prop⦄,(∀u H,N u H->N' u H)->(∀u H,R u H->R' u H)->(∀w H,X w H->X' w H)->wpS tb lv e ρ H N R X->wpS tb lv e ρ H N' R' X'
def N1 (tb lv) (e:List S):=∀⦃ρ:db⦄⦃H:MH⦄⦃N N':db->MH->Prop⦄⦃R R':V->MH->Prop⦄⦃X X':aw->MH->Prop⦄,(∀u H,N u H->N' u H)->(∀u H,R u H->R' u H)->(∀w H,X w H->X' w H)->wpSs tb lv e ρ H N R X->wpSs tb lv e ρ H N' R' X'
section
variable (m:yw tb) (lv:Nat)
include m
mutual
theorem rT:∀(e:S),mS tb lv e
 |.assign t e=>λ ρ H N O R P X Y k kr kx h=>bj m lv e (λ u H q=>on k q) kx h
 |.setattr o n e=>λ ρ H N O R P X Y k kr kx h=>bj m lv e (λ u H q=>bj m lv o (λ u H q=>mP (k _) q) kx q) kx h
 |.setitem o i e=>λ ρ H N O R P X Y k kr kx h=>bj m lv e (λ u H q=>bj m lv o (λ u H q=>bj m lv i (λ u H q=>sB (k _) q) kx q) kx q) kx h
 |.aug i op e=>λ ρ H N O R P X Y k kr kx h=>yy (λ u h=>bj m lv e (λ v H1=>xM λ x y=>Dt λ z=>k _ _) kx h) h
 |.augattr o n op e=>λ ρ H N O R P X Y k kr kx h=>bj m lv o (λ u H=>rY (λ u H=>bj m lv e (λ v H=>xM λ x y=>Dt λ z=>mP (k _)) kx)) kx h
 |.ite t b o=>λ ρ H N O R P X Y k kr kx h=>bj m lv t (λ u H=>qG λ Z=>vP (kP b k kr kx) (kP o k kr kx)) kx h
 |.while_ t b=>λ ρ H N O R P X Y k kr kx h=>by
  refine bw h λ n h=>?_
  refine ⟨n,p9 ?_ ?_ k h⟩
  ·exact λ ρ H K K' kk q=>bj m lv t (λ u H=>qG λ Z=>kk _ _) (λ Z Z z=>z) q
  ·exact λ ρ H K K' kk q=>kP b kk kr (λ Z Z z=>z) q
 |.for_ t it b=>λ ρ H N O R P X Y k kr kx h=>bj m lv it (λ u H=>tP λ us q=>by
   refine tM (λ v ρ H N N' kk q=>?_) (λ ρ H q z=>?_) q
   ·exact on (λ ρ H q=>kP b kk (λ r H q=>kr _ _ q) (λ Z Z z=>z) q) q
   ·exact k _ _ (q z)) kx h
 |.ret e=>λ ρ H N O R P X Y k kr kx h=>bj m lv e kr kx h
 |.expr e=>λ ρ H N O R P X Y k kr kx h=>bj m lv e (λ u H q=>⟨q.1,k _ _ q.2⟩) kx h
 |.raise_ e=>λ ρ H N O R P X Y k kr kx h=>qM (bj m lv e (λ u H=>JQ λ Z=>kx _ _) kx) h
 |.tryWhy e i j=>λ ρ H N O R P X Y k kr kx h=>bj m lv e (λ u H q=>⟨q.1,k _ _ q.2⟩) (λ w H q=>k _ _ q) h
 |.pass=>λ ρ H N O R P X Y k kr kx h=>k _ _ h
 |.stuck=>λ ρ H N O R P X Y k kr kx h=>h.elim
theorem kP:∀(e:List S),N1 tb lv e
 |[]=>λ ρ H N O R P X Y k kr kx h=>k _ _ h
 |e::es=>λ ρ H N O R P X Y k kr kx h=>rT e (λ ρ H q=>kP es k kr kx q) kr kx h
end
theorem yU (P:db->MH->Prop) (h:wpS tb lv s ρ H P R X) (k:∀ρ H,P ρ H->wpSs tb lv r ρ H N R X):wpSs tb lv (s::r) ρ H N R X:=
 rT m lv s k (λ Z Z z=>z) (λ Z Z z=>z) h
theorem Em (P:V->MH->Prop) (h:wpE tb lv false e ρ H P X) (k:∀u H,P u H->wpSs tb lv r (ρ.set i (some u)) H N R X):wpSs tb lv (.assign (.loc i) e::r) ρ H N R X:=
 bj m lv e k (λ Z Z z=>z) h
end
theorem nX:∀{us:List V} {ρ:db} {H:MH} {N:db->MH->Prop} (P:Nat->db->MH->Prop),P 0 ρ H->
  (∀i u ρ H,us[i]?=some u->P i ρ H->∀N',(∀ρ' H',P (i+1) ρ' H'->N' ρ' H')->turn u ρ H N')->(∀ρ H,P us.length ρ H->N ρ H)->forW turn us ρ H N
 |[],_,_,_,P,h0,_,fh=>fh _ _ h0
 |u::us,ρ,H,N,P,h0,step,fh=>step 0 u ρ H rfl h0 _ λ ρ' H' h1=>nX (λ i=>P (i+1)) h1 (λ i u ρ H e=>step (i+1) u ρ H (by simpa using e)) fh
theorem rH (P:Nat->db->MH->Prop)
  (step:∀n ρ H,P n ρ H->∀K:Bool->MH->Prop,(∀b H1,(b=true->0<n/\∀N',(∀ρ2 H2,P (n -1) ρ2 H2->N' ρ2 H2)->body ρ H1 N')->(b=false->N ρ H1)->K b H1)->test ρ H K):∀n {ρ H},P n ρ H->whileW test body N (n+1) ρ H
 |0,ρ,H,h=>step 0 ρ H h _ λ b H1 h1 h2=>kj (λ e=>absurd (h1 e).1 (eY _)) h2
 |n+1,ρ,H,h=>step (n+1) ρ H h _ λ b H1 h1 h2=>kj (λ e=>(h1 e).2 _ λ ρ2 H2 h3=>rH P step n h3) h2
theorem eQ {cond:V->MH->(Bool->MH->Prop)->Prop} (f:V->V) (hc:∀u (R:Bool->MH->Prop),R true H->cond u H R):∀{us:List V} {acc:List V},(∀u∈us,∀(R:V->MH->Prop),R (f u) H->el u H R)->Q (acc++us.map f) H->compTurns el cond us acc H Q
 |[],acc,_,q=>by simpa [compTurns] using q
 |u::us,acc,h,q=>hc u _ (h u (.head _) _ (eQ f hc (λ v hv=>h v (.tail _ hv)) (by simpa using q)))
theorem iE {cond:V->MH->(Bool->MH->Prop)->Prop} (f:V->V) (p:V->Bool):∀{us:List V} {acc:List V},(∀u∈us,∀(R:Bool->MH->Prop),R (p u) H->cond u H R)->(∀u∈us,p u=true->∀(R:V->MH->Prop),R (f u) H->el u H R)->
  Q (acc++(us.filter p).map f) H->compTurns el cond us acc H Q
 |[],acc,_,_,q=>by simpa [compTurns] using q
 |u::us,acc,hc,h,q=>hc u (.head _) _<|kj (λ e=>h u (.head _) e _ (iE f p (λ v hv=>hc v (.tail _ hv)) (λ v hv=>h v (.tail _ hv)) (by simpa [lI,e] using q)))<|
   λ e=>iE f p (λ v hv=>hc v (.tail _ hv)) (λ v hv=>h v (.tail _ hv)) (by simpa [lI,e] using q)
structure Slot where
 tag:aw
 rest:List V
 order:aw
 size:Int
noncomputable def Slot.e (x:Slot):V:=.tuple (.str x.tag::x.rest)
noncomputable def Slot.v (x:Slot):V:=.tuple [x.e,.str x.order,.int x.size]
abbrev c7:=Int->Option Slot
noncomputable def c7.put (sl:c7) (g:Int) (x:Slot):c7:=λ i=>if i=g then some x else sl i
def d7 (H:MH) (a:aI) (sl:c7) (n:Nat):Prop:=(H a=some .edict/\∀i,sl i=none)\/∃f k,H a=some (.idict f k)/\k<=n/\∀i,f i=(sl i).map Slot.v
noncomputable def needV (p:Int×Int):V:=.tuple [.str "meta l4proto",.int p.1,.int 0,.int p.2]
noncomputable def matchV (e:V) (op:aw) (n:Int):V:=.tuple [.str "match",e,.str op,.tuple [.str "num",.int n]]
noncomputable def fieldV (x:aw):V:=.tuple [.str "field",.str x]
noncomputable def needSt (p:Int×Int):Int×V:=(p.2,matchV (fieldV "meta l4proto") "==" p.1)
noncomputable def stV (p:Int×V):V:=.tuple [.int p.1,p.2]
noncomputable def whyEmpty:aw:="a register that nothing was put into"
structure RS where
 d:aI
 fields:aI
 family:aw
 sets:aI
 order:aw
 cells:aI
 at_:Int
 slots:aI
 known:aI
 pend:aI
 dropped:aI
 stmts:aI
 sl:c7
 n:Nat
 eff:List (Int×V)
theorem Ic:Nonempty RS:=⟨⟨0,0,default,0,default,0,0,0,0,0,0,0,default,0,default⟩⟩
noncomputable def RS.attrs (z:RS):List (aw×V):=[("fields",.ref z.fields),("family",.str z.family),("sets",.ref z.sets),("order",.str z.order),("cells",.ref z.cells),("at",.int z.at_),("slots",.ref z.slots),("known",.ref z.known),("pending",.ref z.pend),("dropped",.ref z.dropped),("statements",.ref z.stmts)]
noncomputable def RS.obj (z:RS):bK:=.inst (.cls 3) z.d z.attrs
def dx (H:MH) (a:aI):Prop:=H a=some .edict\/∃x y,H a=some (.sdict [("meta l4proto",.tuple [.int x,.int y])])
structure dZ (B H:MH) (r:aI) (z:RS):Prop where
 keep:MH.Sub B H
 newr:B r=none
 news:B z.slots=none
 newk:B z.known=none
 newp:B z.pend=none
 newt:B z.stmts=none
 obj:H r=some z.obj
 slots:d7 H z.slots z.sl z.n
 known:dx H z.known
 lists:∃(S:List (Int×V)) (P:List (Int×Int)),H z.pend=some (.list (P.map needV))/\H z.stmts=some (.list (S.map stV))/\z.eff=S++P.map needSt
 ord:z.eff.Pairwise λ a b=>a.1<=b.1
 top:∀p∈z.eff,p.1<=z.at_
 dropped:H z.dropped=some (.list [])
 nsk:z.slots≠z.known
 npt:z.pend≠z.stmts
 ndp:z.dropped≠z.pend
 ndt:z.dropped≠z.stmts
def io (b:List Int):Prop:=(∀x∈b,0<=x/\x<256)/\b.length<=64
noncomputable def numOf (b:List Int):Int:=b.foldl (λ n o=>n*256+o) 0
noncomputable def numIn (b:List Int) (o:aw):Int:=if o="big" then numOf b else numOf b.reverse
noncomputable def octets (n k:Int):List Int:=(bH k.toNat).map λ i=>n/256^(k.toNat -1 -i) %256
noncomputable def dg (k:Int):aw:=aa (toString k.toNat)
noncomputable def digit (zs:List Int) (k:Int):Int:=if k<zs.length then zs.getD k.toNat 0 %2^64 else 0
structure dY where
 first:Int
 last:Int
 data:List Int
 note:aw
theorem LW:Nonempty dY:=⟨⟨0,0,default,default⟩⟩
noncomputable def dY.box (x:dY):V:=.tuple [.tuple [.int x.first,.int x.last]]
noncomputable def dY.dataV (x:dY):V:=.tuple (x.data.map .int)
noncomputable def dY.v (x:dY):V:=.tuple [x.box,x.dataV,.int 0,.str x.note]
noncomputable def ins {α:Type} (f:α->Int) (x:α):List α->List α
 |[]=>[x]
 |y::r=>if f x<f y then x::y::r else y::ins f x r
noncomputable def isort {α:Type} (f:α->Int) (l:List α):List α:=l.foldl (λ acc x=>ins f x acc) []
noncomputable def elemAttrs (x:dY) (cells:aI):List (aw×V):=[("box",x.box),("data",x.dataV),("until",.int 0),("timeout",.int 0),("comment",.str x.note),("cells",.ref cells)]
def kh (H:MH) (v:V) (x:dY):Prop:=∃a d c,v=.ref a/\H a=some (.inst (.cls 4) d (elemAttrs x c))
abbrev w6:=List (dY×V)
def kK (H:MH) (b8:w6):Prop:=∀p∈b8,kh H p.2 p.1
def ek (H:MH) (st:aI) (b8:w6):Prop:=∃d tb,H st=some (.inst (.cls 5) d [("table",.ref tb)])/\
 ((H tb=some .edict/\b8=[])\/H tb=some (.tdict (b8.map λ p=>([p.1.first],p.2))))/\kK H b8/\(∀p∈b8,p.1.first=p.1.last)/\(b8.map λ p=>p.1.first).Nodup/\b8.length<=3
def gy (H:MH) (st:aI) (b8:w6):Prop:=∃d it,H st=some (.inst (.cls 6) d [("items",.ref it)])/\H it=some (.list ((isort (λ p=>p.1.first) b8).map (·.2)))/\kK H b8/\b8.length<=3/\
 (∀p∈b8,p.1.first<=p.1.last)/\b8.Pairwise λ p q=>p.1.last<q.1.first\/q.1.last<p.1.first
def yJ (H:MH) (st:aI) (b8:w6):Prop:=ek H st b8\/gy H st b8
def lF (H:MH) (v:V) (ls:List dY):Prop:=∃b d as st b8,v=.ref b/\H b=some (.inst (.cls 9) d as)/\as.lookup ("store":aw)=some (.ref st)/\yJ H st b8/\ls=isort dY.first (b8.map (·.1))
abbrev iX:=List (aw×List dY)
def cE (H:MH) (a:aI) (T:iX):Prop:=(H a=some .edict/\T=[])\/∃es,H a=some (.sdict es)/\es.map (·.1)=T.map (·.1)/\T.length<=10/\∀n ls,T.lookup n=some ls->∃v,es.lookup n=some v/\lF H v ls
noncomputable def joinV:List V->V
 |[u]=>u
 |us=>.tuple [.str "concat",.tuple us]
noncomputable def litsV (ls:List dY):V:=.tuple (ls.map dY.v)
noncomputable def whereV (T:iX) (name tag:aw):V:=match T.lookup name with
 |none=>.tuple [.str "ref",.str name]
 |some ls=>.tuple [.str tag,litsV ls]
noncomputable def layV (l:List (Int×aw)):V:=.tuple (l.map λ p=>.tuple [.int p.1,.str p.2])
noncomputable def slotsOf (n:Int):Int:=(n+3)/4
noncomputable def mapPut (e:Slot):c7->Int->List (Int×aw)->c7
 |sl,_,[]=>sl
 |sl,g,(size,order)::r=>mapPut e (sl.put g {e with order:=order,size:=size}) (g+slotsOf size) r
noncomputable def rawNum (x:Slot):Option Int:=if x.tag="raw" then match x.rest with
 |[.bytes b]=>some (numOf b)
 |_=>none else none
noncomputable def pairOf (sl:c7) (lo hi:Int):Option (Option (Int×Int)):=
 if lo<0 then some none else match sl lo with
  |none=>none
  |some x=>match rawNum x with
   |none=>some none
   |some a=>match sl hi with
    |none=>none
    |some y=>match rawNum y with
     |some b=>some (some (a,b))
     |none=>none
noncomputable def pairV:Option (Int×Int)->V
 |none=>.none
 |some p=>.tuple [.int p.1,.int p.2]
def i9 (x:Slot):Prop:=x.tag≠"half"/\(x.tag="raw"->∃b,x.rest=[.bytes b]/\io b)
abbrev nC (us:List V) (k:V->List V->Prop):Prop:=match us with
 |u::r=>k u r
 |[]=>False
abbrev nN (us:List V) (k:Prop):Prop:=match us with
 |[]=>k
 |_::_=>False
@[elab_as_elim] theorem bb {W:List V->Prop} {us k} (f:∀u r,k u r->W (u::r)) (h:nC us k):W us:=by cases us<;>first|exact h.elim|exact f _ _ h
theorem ba {us k k'} (f:∀u r,k u r->k' u r):nC us k->nC us k':=by cases us<;>first|exact id|exact f _ _
@[elab_as_elim] theorem c9 {W:List V->Prop} {us} (f:k->W []) (h:nN us k):W us:=by cases us<;>first|exact f h|exact h.elim
theorem da {us} (f:k->k'):nN us k->nN us k':=by cases us<;>first|exact f|exact id
abbrev vI (u:V) (k:Int->Prop):Prop:=match u with
 |.int x=>k x
 |_=>False
@[elab_as_elim] theorem dF {W:V->Prop} {u k} (f:∀x,k x->W (.int x)) (h:vI u k):W u:=by cases u<;>first|exact f _ h|exact h.elim
theorem dG {u k k'} (f:∀x,k x->k' x):vI u k->vI u k':=by cases u<;>first|exact f _|exact id
abbrev vS (u:V) (k:aw->Prop):Prop:=match u with
 |.str x=>k x
 |_=>False
@[elab_as_elim] theorem i6 {W:V->Prop} {u k} (f:∀x,k x->W (.str x)) (h:vS u k):W u:=by cases u<;>first|exact f _ h|exact h.elim
theorem i7 {u k k'} (f:∀x,k x->k' x):vS u k->vS u k':=by cases u<;>first|exact f _|exact id
abbrev vR (u:V) (k:aI->Prop):Prop:=match u with
 |.ref x=>k x
 |_=>False
@[elab_as_elim] theorem gZ {W:V->Prop} {u k} (f:∀x,k x->W (.ref x)) (h:vR u k):W u:=by cases u<;>first|exact f _ h|exact h.elim
theorem gX {u k k'} (f:∀x,k x->k' x):vR u k->vR u k':=by cases u<;>first|exact f _|exact id
abbrev vY (u:V) (k:List Int->Prop):Prop:=match u with
 |.bytes x=>k x
 |_=>False
@[elab_as_elim] theorem Cg {W:V->Prop} {u k} (f:∀x,k x->W (.bytes x)) (h:vY u k):W u:=by cases u<;>first|exact f _ h|exact h.elim
theorem Dl {u k k'} (f:∀x,k x->k' x):vY u k->vY u k':=by cases u<;>first|exact f _|exact id
abbrev vF (u:V) (k:List V->Prop):Prop:=match u with
 |.flist x=>k x
 |_=>False
@[elab_as_elim] theorem zJ {W:V->Prop} {u k} (f:∀x,k x->W (.flist x)) (h:vF u k):W u:=by cases u<;>first|exact f _ h|exact h.elim
theorem z9 {u k k'} (f:∀x,k x->k' x):vF u k->vF u k':=by cases u<;>first|exact f _|exact id
abbrev vB (u:V) (k:Bool->Prop):Prop:=match u with
 |.bool x=>k x
 |_=>False
@[elab_as_elim] theorem GU {W:V->Prop} {u k} (f:∀x,k x->W (.bool x)) (h:vB u k):W u:=by cases u<;>first|exact f _ h|exact h.elim
theorem G0 {u k k'} (f:∀x,k x->k' x):vB u k->vB u k':=by cases u<;>first|exact f _|exact id
abbrev vT (u:V) (k:List V->Prop):Prop:=match u with
 |.tuple x=>k x
 |_=>False
@[elab_as_elim] theorem jN {W:V->Prop} {u k} (f:∀x,k x->W (.tuple x)) (h:vT u k):W u:=by cases u<;>first|exact f _ h|exact h.elim
theorem jP {u k k'} (f:∀x,k x->k' x):vT u k->vT u k':=by cases u<;>first|exact f _|exact id
abbrev Li (u:V) (k:String->Prop):Prop:=match u with
 |.fn f=>match f with
  |.ty x=>k x
  |_=>False
 |_=>False
@[elab_as_elim] theorem JK {W:V->Prop} {u k} (f:∀x,k x->W (.fn (.ty x))) (h:Li u k):W u:=by set_option tactic.hygienic true in cases u<;>first|exact h.elim|(rename_i g;cases g<;>first|exact f _ h|exact h.elim)
theorem KO {u k k'} (f:∀x,k x->k' x):Li u k->Li u k':=by set_option tactic.hygienic true in cases u<;>first|exact id|(rename_i g;cases g<;>first|exact f _|exact id)
abbrev Ii (u:V) (k:Prop):Prop:=vI u λ x=>cond (x==32) k False
@[elab_as_elim] theorem CO {W:V->Prop} {u} (f:k->W (.int 32)) (h:Ii u k):W u:=dF (λ x h=>by
 by_cases e:x=32
 ·subst e;exact f h
 ·rw [beq_false_of_ne e] at h;exact h.elim) h
theorem BM {u} (f:k->k'):Ii u k->Ii u k':=dG λ x=>by cases x==32<;>first|exact id|exact f
abbrev yM (u:V) (k:Prop):Prop:=vB u λ x=>cond x k False
@[elab_as_elim] theorem EN {W:V->Prop} {u} (f:k->W (.bool true)) (h:yM u k):W u:=GU (λ x h=>by cases x<;>first|exact h.elim|exact f h) h
theorem Ew {u} (f:k->k'):yM u k->yM u k':=G0 λ x=>by cases x<;>first|exact id|exact f
abbrev q1 (us:List V) (k:V->Prop):Prop:=nC us λ x2 t1=>nN t1<|k x2
@[elab_as_elim] theorem NC {W:List V->Prop} {us} {k:V->Prop} (f:∀x2,k x2->W [x2]) (h:q1 us k):W us:=bb (λ x2 t1 h=>c9 (λ h=>f x2 h) h) h
theorem MF {us} {k k':V->Prop} (f:∀x2,k x2->k' x2):q1 us k->q1 us k':=ba (λ x2 t1=>da (f x2))
abbrev q2 (us:List V) (k:Int->Prop):Prop:=nC us λ u2 t1=>vI u2 λ x3=>nN t1<|k x3
@[elab_as_elim] theorem Hx {W:List V->Prop} {us} {k:Int->Prop} (f:∀x3,k x3->W [.int x3]) (h:q2 us k):W us:=bb (λ u2 t1 h=>dF (λ x3 h=>c9 (λ h=>f x3 h) h) h) h
theorem GZ {us} {k k':Int->Prop} (f:∀x3,k x3->k' x3):q2 us k->q2 us k':=ba (λ u2 t1=>dG (λ x3=>da (f x3)))
abbrev q3 (us:List V) (k:aI->Prop):Prop:=nC us λ u2 t1=>vR u2 λ x3=>nN t1<|k x3
@[elab_as_elim] theorem rG {W:List V->Prop} {us} {k:aI->Prop} (f:∀x3,k x3->W [.ref x3]) (h:q3 us k):W us:=bb (λ u2 t1 h=>gZ (λ x3 h=>c9 (λ h=>f x3 h) h) h) h
theorem qW {us} {k k':aI->Prop} (f:∀x3,k x3->k' x3):q3 us k->q3 us k':=ba (λ u2 t1=>gX (λ x3=>da (f x3)))
abbrev q4 (us:List V) (k:Int->String->Prop):Prop:=nC us λ u2 t1=>vI u2 λ x3=>nC t1 λ u5 t4=>Li u5 λ x6=>nN t4<|k x3 x6
@[elab_as_elim] theorem MI {W:List V->Prop} {us} {k:Int->String->Prop} (f:∀x3 x6,k x3 x6->W [.int x3,.fn (.ty x6)]) (h:q4 us k):W us:=bb (λ u2 t1 h=>dF (λ x3 h=>bb (λ u5 t4 h=>JK (λ x6 h=>c9 (λ h=>f x3 x6 h) h) h) h) h) h
theorem Mc {us} {k k':Int->String->Prop} (f:∀x3 x6,k x3 x6->k' x3 x6):q4 us k->q4 us k':=ba (λ u2 t1=>dG (λ x3=>ba (λ u5 t4=>KO (λ x6=>da (f x3 x6)))))
abbrev q5 (us:List V) (k:Int->Int->Prop):Prop:=nC us λ u2 t1=>vI u2 λ x3=>nC t1 λ u5 t4=>vI u5 λ x6=>nN t4<|k x3 x6
@[elab_as_elim] theorem GV {W:List V->Prop} {us} {k:Int->Int->Prop} (f:∀x3 x6,k x3 x6->W [.int x3,.int x6]) (h:q5 us k):W us:=bb (λ u2 t1 h=>dF (λ x3 h=>bb (λ u5 t4 h=>dF (λ x6 h=>c9 (λ h=>f x3 x6 h) h) h) h) h) h
theorem GP {us} {k k':Int->Int->Prop} (f:∀x3 x6,k x3 x6->k' x3 x6):q5 us k->q5 us k':=ba (λ u2 t1=>dG (λ x3=>ba (λ u5 t4=>dG (λ x6=>da (f x3 x6)))))
abbrev q6 (us:List V) (k:aI->V->Prop):Prop:=nC us λ u2 t1=>vR u2 λ x3=>nC t1 λ x5 t4=>nN t4<|k x3 x5
@[elab_as_elim] theorem HF {W:List V->Prop} {us} {k:aI->V->Prop} (f:∀x3 x5,k x3 x5->W [.ref x3,x5]) (h:q6 us k):W us:=bb (λ u2 t1 h=>gZ (λ x3 h=>bb (λ x5 t4 h=>c9 (λ h=>f x3 x5 h) h) h) h) h
theorem HC {us} {k k':aI->V->Prop} (f:∀x3 x5,k x3 x5->k' x3 x5):q6 us k->q6 us k':=ba (λ u2 t1=>gX (λ x3=>ba (λ x5 t4=>da (f x3 x5))))
abbrev q7 (us:List V) (k:aI->Int->V->Prop):Prop:=nC us λ u2 t1=>vR u2 λ x3=>nC t1 λ u5 t4=>vI u5 λ x6=>nC t4 λ x8 t7=>nN t7<|k x3 x6 x8
@[elab_as_elim] theorem KQ {W:List V->Prop} {us} {k:aI->Int->V->Prop} (f:∀x3 x6 x8,k x3 x6 x8->W [.ref x3,.int x6,x8]) (h:q7 us k):W us:=bb (λ u2 t1 h=>gZ (λ x3 h=>bb (λ u5 t4 h=>dF (λ x6 h=>bb (λ x8 t7 h=>c9 (λ h=>f x3 x6 x8 h) h) h) h) h) h) h
theorem Jo {us} {k k':aI->Int->V->Prop} (f:∀x3 x6 x8,k x3 x6 x8->k' x3 x6 x8):q7 us k->q7 us k':=ba (λ u2 t1=>gX (λ x3=>ba (λ u5 t4=>dG (λ x6=>ba (λ x8 t7=>da (f x3 x6 x8))))))
abbrev q8 (us:List V) (k:aI->Int->Prop):Prop:=nC us λ u2 t1=>vR u2 λ x3=>nC t1 λ u5 t4=>vT u5 λ l6=>nC l6 λ u8 t7=>vI u8 λ x9=>nN t7<|nN t4<|k x3 x9
@[elab_as_elim] theorem Mm {W:List V->Prop} {us} {k:aI->Int->Prop} (f:∀x3 x9,k x3 x9->W [.ref x3,.tuple [.int x9]]) (h:q8 us k):W us:=bb (λ u2 t1 h=>gZ (λ x3 h=>bb (λ u5 t4 h=>jN (λ l6 h=>bb (λ u8 t7 h=>dF (λ x9 h=>c9 (λ h=>c9 (λ h=>f x3 x9 h) h) h) h) h) h) h) h) h
theorem MZ {us} {k k':aI->Int->Prop} (f:∀x3 x9,k x3 x9->k' x3 x9):q8 us k->q8 us k':=ba (λ u2 t1=>gX (λ x3=>ba (λ u5 t4=>jP (λ l6=>ba (λ u8 t7=>dG (λ x9=>da (da (f x3 x9))))))))
abbrev q9 (us:List V) (k:aI->aI->Prop):Prop:=nC us λ u2 t1=>vR u2 λ x3=>nC t1 λ u5 t4=>vR u5 λ x6=>nN t4<|k x3 x6
@[elab_as_elim] theorem MN {W:List V->Prop} {us} {k:aI->aI->Prop} (f:∀x3 x6,k x3 x6->W [.ref x3,.ref x6]) (h:q9 us k):W us:=bb (λ u2 t1 h=>gZ (λ x3 h=>bb (λ u5 t4 h=>gZ (λ x6 h=>c9 (λ h=>f x3 x6 h) h) h) h) h) h
theorem Np {us} {k k':aI->aI->Prop} (f:∀x3 x6,k x3 x6->k' x3 x6):q9 us k->q9 us k':=ba (λ u2 t1=>gX (λ x3=>ba (λ u5 t4=>gX (λ x6=>da (f x3 x6)))))
abbrev K9 (us:List V) (k:Int->Int->Int->Prop):Prop:=nC us λ u2 t1=>vI u2 λ x3=>nC t1 λ u5 t4=>vI u5 λ x6=>nC t4 λ u8 t7=>vI u8 λ x9=>nN t7<|k x3 x6 x9
@[elab_as_elim] theorem J0 {W:List V->Prop} {us} {k:Int->Int->Int->Prop} (f:∀x3 x6 x9,k x3 x6 x9->W [.int x3,.int x6,.int x9]) (h:K9 us k):W us:=bb (λ u2 t1 h=>dF (λ x3 h=>bb (λ u5 t4 h=>dF (λ x6 h=>bb (λ u8 t7 h=>dF (λ x9 h=>c9 (λ h=>f x3 x6 x9 h) h) h) h) h) h) h) h
theorem Kf {us} {k k':Int->Int->Int->Prop} (f:∀x3 x6 x9,k x3 x6 x9->k' x3 x6 x9):K9 us k->K9 us k':=ba (λ u2 t1=>dG (λ x3=>ba (λ u5 t4=>dG (λ x6=>ba (λ u8 t7=>dG (λ x9=>da (f x3 x6 x9)))))))
abbrev Jz (us:List V) (k:List Int->Prop):Prop:=nC us λ u2 t1=>vY u2 λ x3=>nN t1<|k x3
@[elab_as_elim] theorem Go {W:List V->Prop} {us} {k:List Int->Prop} (f:∀x3,k x3->W [.bytes x3]) (h:Jz us k):W us:=bb (λ u2 t1 h=>Cg (λ x3 h=>c9 (λ h=>f x3 h) h) h) h
theorem Gh {us} {k k':List Int->Prop} (f:∀x3,k x3->k' x3):Jz us k->Jz us k':=ba (λ u2 t1=>Dl (λ x3=>da (f x3)))
abbrev K2 (us:List V) (k:List Int->aw->Prop):Prop:=nC us λ u2 t1=>vY u2 λ x3=>nC t1 λ u5 t4=>vS u5 λ x6=>nN t4<|k x3 x6
@[elab_as_elim] theorem KB {W:List V->Prop} {us} {k:List Int->aw->Prop} (f:∀x3 x6,k x3 x6->W [.bytes x3,.str x6]) (h:K2 us k):W us:=bb (λ u2 t1 h=>Cg (λ x3 h=>bb (λ u5 t4 h=>i6 (λ x6 h=>c9 (λ h=>f x3 x6 h) h) h) h) h) h
theorem IM {us} {k k':List Int->aw->Prop} (f:∀x3 x6,k x3 x6->k' x3 x6):K2 us k->K2 us k':=ba (λ u2 t1=>Dl (λ x3=>ba (λ u5 t4=>i7 (λ x6=>da (f x3 x6)))))
abbrev Ln (us:List V) (k:aw->aw->Prop):Prop:=nC us λ u2 t1=>vS u2 λ x3=>nC t1 λ u5 t4=>vS u5 λ x6=>nN t4<|k x3 x6
@[elab_as_elim] theorem IG {W:List V->Prop} {us} {k:aw->aw->Prop} (f:∀x3 x6,k x3 x6->W [.str x3,.str x6]) (h:Ln us k):W us:=bb (λ u2 t1 h=>i6 (λ x3 h=>bb (λ u5 t4 h=>i6 (λ x6 h=>c9 (λ h=>f x3 x6 h) h) h) h) h) h
theorem Kq {us} {k k':aw->aw->Prop} (f:∀x3 x6,k x3 x6->k' x3 x6):Ln us k->Ln us k':=ba (λ u2 t1=>i7 (λ x3=>ba (λ u5 t4=>i7 (λ x6=>da (f x3 x6)))))
abbrev Ll (us:List V) (k:aI->aI->aw->aI->Prop):Prop:=nC us λ u2 t1=>vR u2 λ x3=>nC t1 λ u5 t4=>vR u5 λ x6=>nC t4 λ u8 t7=>vS u8 λ x9=>nC t7 λ u11 t10=>vR u11 λ x12=>nN t10<|k x3 x6 x9 x12
@[elab_as_elim] theorem Km {W:List V->Prop} {us} {k:aI->aI->aw->aI->Prop} (f:∀x3 x6 x9 x12,k x3 x6 x9 x12->W [.ref x3,.ref x6,.str x9,.ref x12]) (h:Ll us k):W us:=bb (λ u2 t1 h=>gZ (λ x3 h=>bb (λ u5 t4 h=>gZ (λ x6 h=>bb (λ u8 t7 h=>i6 (λ x9 h=>bb (λ u11 t10 h=>gZ (λ x12 h=>c9 (λ h=>f x3 x6 x9 x12 h) h) h) h) h) h) h) h) h) h
theorem JU {us} {k k':aI->aI->aw->aI->Prop} (f:∀x3 x6 x9 x12,k x3 x6 x9 x12->k' x3 x6 x9 x12):Ll us k->Ll us k':=ba (λ u2 t1=>gX (λ x3=>ba (λ u5 t4=>gX (λ x6=>ba (λ u8 t7=>i7 (λ x9=>ba (λ u11 t10=>gX (λ x12=>da (f x3 x6 x9 x12)))))))))
abbrev Lh (us:List V) (k:aI->aw->Int->Int->Prop):Prop:=nC us λ u2 t1=>vR u2 λ x3=>nC t1 λ u5 t4=>vS u5 λ x6=>nC t4 λ u8 t7=>vI u8 λ x9=>nC t7 λ u11 t10=>vI u11 λ x12=>nN t10<|k x3 x6 x9 x12
@[elab_as_elim] theorem Jv {W:List V->Prop} {us} {k:aI->aw->Int->Int->Prop} (f:∀x3 x6 x9 x12,k x3 x6 x9 x12->W [.ref x3,.str x6,.int x9,.int x12]) (h:Lh us k):W us:=bb (λ u2 t1 h=>gZ (λ x3 h=>bb (λ u5 t4 h=>i6 (λ x6 h=>bb (λ u8 t7 h=>dF (λ x9 h=>bb (λ u11 t10 h=>dF (λ x12 h=>c9 (λ h=>f x3 x6 x9 x12 h) h) h) h) h) h) h) h) h) h
theorem Ji {us} {k k':aI->aw->Int->Int->Prop} (f:∀x3 x6 x9 x12,k x3 x6 x9 x12->k' x3 x6 x9 x12):Lh us k->Lh us k':=ba (λ u2 t1=>gX (λ x3=>ba (λ u5 t4=>i7 (λ x6=>ba (λ u8 t7=>dG (λ x9=>ba (λ u11 t10=>dG (λ x12=>da (f x3 x6 x9 x12)))))))))
abbrev LH (us:List V) (k:aw->Int->V->V->Prop):Prop:=nC us λ u2 t1=>vT u2 λ l3=>nC l3 λ u5 t4=>vS u5 λ x6=>nC t4 λ u8 t7=>vI u8 λ x9=>nC t7 λ x11 t10=>nC t10 λ x13 t12=>nN t12<|nN t1<|k x6 x9 x11 x13
@[elab_as_elim] theorem JX {W:List V->Prop} {us} {k:aw->Int->V->V->Prop} (f:∀x6 x9 x11 x13,k x6 x9 x11 x13->W [.tuple [.str x6,.int x9,x11,x13]]) (h:LH us k):W us:=bb (λ u2 t1 h=>jN (λ l3 h=>bb (λ u5 t4 h=>i6 (λ x6 h=>bb (λ u8 t7 h=>dF (λ x9 h=>bb (λ x11 t10 h=>bb (λ x13 t12 h=>c9 (λ h=>c9 (λ h=>f x6 x9 x11 x13 h) h) h) h) h) h) h) h) h) h) h
theorem Kr {us} {k k':aw->Int->V->V->Prop} (f:∀x6 x9 x11 x13,k x6 x9 x11 x13->k' x6 x9 x11 x13):LH us k->LH us k':=ba (λ u2 t1=>jP (λ l3=>ba (λ u5 t4=>i7 (λ x6=>ba (λ u8 t7=>dG (λ x9=>ba (λ x11 t10=>ba (λ x13 t12=>da (da (f x6 x9 x11 x13))))))))))
abbrev Ig (us:List V) (k:aI->Int->Prop):Prop:=nC us λ u2 t1=>vR u2 λ x3=>nC t1 λ u5 t4=>vI u5 λ x6=>nN t4<|k x3 x6
@[elab_as_elim] theorem B7 {W:List V->Prop} {us} {k:aI->Int->Prop} (f:∀x3 x6,k x3 x6->W [.ref x3,.int x6]) (h:Ig us k):W us:=bb (λ u2 t1 h=>gZ (λ x3 h=>bb (λ u5 t4 h=>dF (λ x6 h=>c9 (λ h=>f x3 x6 h) h) h) h) h) h
theorem Cj {us} {k k':aI->Int->Prop} (f:∀x3 x6,k x3 x6->k' x3 x6):Ig us k->Ig us k':=ba (λ u2 t1=>gX (λ x3=>ba (λ u5 t4=>dG (λ x6=>da (f x3 x6)))))
abbrev Lr (us:List V) (k:aI->List Int->aw->Prop):Prop:=nC us λ u2 t1=>vR u2 λ x3=>nC t1 λ u5 t4=>vY u5 λ x6=>nC t4 λ u8 t7=>vS u8 λ x9=>nN t7<|k x3 x6 x9
@[elab_as_elim] theorem Je {W:List V->Prop} {us} {k:aI->List Int->aw->Prop} (f:∀x3 x6 x9,k x3 x6 x9->W [.ref x3,.bytes x6,.str x9]) (h:Lr us k):W us:=bb (λ u2 t1 h=>gZ (λ x3 h=>bb (λ u5 t4 h=>Cg (λ x6 h=>bb (λ u8 t7 h=>i6 (λ x9 h=>c9 (λ h=>f x3 x6 x9 h) h) h) h) h) h) h) h
theorem Kx {us} {k k':aI->List Int->aw->Prop} (f:∀x3 x6 x9,k x3 x6 x9->k' x3 x6 x9):Lr us k->Lr us k':=ba (λ u2 t1=>gX (λ x3=>ba (λ u5 t4=>Dl (λ x6=>ba (λ u8 t7=>i7 (λ x9=>da (f x3 x6 x9)))))))
abbrev Lu (us:List V) (k:aI->Int->List V->Prop):Prop:=nC us λ u2 t1=>vR u2 λ x3=>nC t1 λ u5 t4=>vI u5 λ x6=>nC t4 λ u8 t7=>vT u8 λ x9=>nN t7<|k x3 x6 x9
@[elab_as_elim] theorem Jj {W:List V->Prop} {us} {k:aI->Int->List V->Prop} (f:∀x3 x6 x9,k x3 x6 x9->W [.ref x3,.int x6,.tuple x9]) (h:Lu us k):W us:=bb (λ u2 t1 h=>gZ (λ x3 h=>bb (λ u5 t4 h=>dF (λ x6 h=>bb (λ u8 t7 h=>jN (λ x9 h=>c9 (λ h=>f x3 x6 x9 h) h) h) h) h) h) h) h
theorem Ki {us} {k k':aI->Int->List V->Prop} (f:∀x3 x6 x9,k x3 x6 x9->k' x3 x6 x9):Lu us k->Lu us k':=ba (λ u2 t1=>gX (λ x3=>ba (λ u5 t4=>dG (λ x6=>ba (λ u8 t7=>jP (λ x9=>da (f x3 x6 x9)))))))
abbrev Lv (us:List V) (k:aI->aw->Prop):Prop:=nC us λ u2 t1=>vR u2 λ x3=>nC t1 λ u5 t4=>vS u5 λ x6=>nN t4<|k x3 x6
@[elab_as_elim] theorem Jh {W:List V->Prop} {us} {k:aI->aw->Prop} (f:∀x3 x6,k x3 x6->W [.ref x3,.str x6]) (h:Lv us k):W us:=bb (λ u2 t1 h=>gZ (λ x3 h=>bb (λ u5 t4 h=>i6 (λ x6 h=>c9 (λ h=>f x3 x6 h) h) h) h) h) h
theorem IP {us} {k k':aI->aw->Prop} (f:∀x3 x6,k x3 x6->k' x3 x6):Lv us k->Lv us k':=ba (λ u2 t1=>gX (λ x3=>ba (λ u5 t4=>i7 (λ x6=>da (f x3 x6)))))
abbrev Lc (us:List V) (k:aI->aw->aw->Prop):Prop:=nC us λ u2 t1=>vR u2 λ x3=>nC t1 λ u5 t4=>vS u5 λ x6=>nC t4 λ u8 t7=>vS u8 λ x9=>nN t7<|k x3 x6 x9
@[elab_as_elim] theorem Jd {W:List V->Prop} {us} {k:aI->aw->aw->Prop} (f:∀x3 x6 x9,k x3 x6 x9->W [.ref x3,.str x6,.str x9]) (h:Lc us k):W us:=bb (λ u2 t1 h=>gZ (λ x3 h=>bb (λ u5 t4 h=>i6 (λ x6 h=>bb (λ u8 t7 h=>i6 (λ x9 h=>c9 (λ h=>f x3 x6 x9 h) h) h) h) h) h) h) h
theorem JA {us} {k k':aI->aw->aw->Prop} (f:∀x3 x6 x9,k x3 x6 x9->k' x3 x6 x9):Lc us k->Lc us k':=ba (λ u2 t1=>gX (λ x3=>ba (λ u5 t4=>i7 (λ x6=>ba (λ u8 t7=>i7 (λ x9=>da (f x3 x6 x9)))))))
abbrev K1 (us:List V) (k:aI->aw->Int->aw->Int->aw->Prop):Prop:=nC us λ u2 t1=>vR u2 λ x3=>nC t1 λ u5 t4=>vT u5 λ l6=>nC l6 λ u8 t7=>vS u8 λ x9=>nC t7 λ u11 t10=>vI u11 λ x12=>nC t10 λ u14 t13=>vS u14 λ dC=>nC t13 λ u17 t16=>vI u17 λ x18=>nC t16 λ u20 t19=>vS u20 λ x21=>nN t19<|nN t4<|k x3 x9 x12 dC x18 x21
@[elab_as_elim] theorem IX {W:List V->Prop} {us} {k:aI->aw->Int->aw->Int->aw->Prop} (f:∀x3 x9 x12 dC x18 x21,k x3 x9 x12 dC x18 x21->W [.ref x3,.tuple [.str x9,.int x12,.str dC,.int x18,.str x21]]) (h:K1 us k):W us:=bb (λ u2 t1 h=>gZ (λ x3 h=>bb (λ u5 t4 h=>jN (λ l6 h=>bb (λ u8 t7 h=>i6 (λ x9 h=>bb (λ u11 t10 h=>dF (λ x12 h=>bb (λ u14 t13 h=>i6 (λ dC h=>bb (λ u17 t16 h=>dF (λ x18 h=>bb (λ u20 t19 h=>i6 (λ x21 h=>c9 (λ h=>c9 (λ h=>f x3 x9 x12 dC x18 x21 h) h) h) h) h) h) h) h) h) h) h) h) h) h) h) h) h
theorem Jn {us} {k k':aI->aw->Int->aw->Int->aw->Prop} (f:∀x3 x9 x12 dC x18 x21,k x3 x9 x12 dC x18 x21->k' x3 x9 x12 dC x18 x21):K1 us k->K1 us k':=ba (λ u2 t1=>gX (λ x3=>ba (λ u5 t4=>jP (λ l6=>ba (λ u8 t7=>i7 (λ x9=>ba (λ u11 t10=>dG (λ x12=>ba (λ u14 t13=>i7 (λ dC=>ba (λ u17 t16=>dG (λ x18=>ba (λ u20 t19=>i7 (λ x21=>da (da (f x3 x9 x12 dC x18 x21))))))))))))))))
abbrev Ly (us:List V) (k:aI->aw->Int->List Int->Prop):Prop:=nC us λ u2 t1=>vR u2 λ x3=>nC t1 λ u5 t4=>vT u5 λ l6=>nC l6 λ u8 t7=>vS u8 λ x9=>nC t7 λ u11 t10=>vI u11 λ x12=>nC t10 λ u14 t13=>vY u14 λ dC=>nN t13<|nN t4<|k x3 x9 x12 dC
@[elab_as_elim] theorem IR {W:List V->Prop} {us} {k:aI->aw->Int->List Int->Prop} (f:∀x3 x9 x12 dC,k x3 x9 x12 dC->W [.ref x3,.tuple [.str x9,.int x12,.bytes dC]]) (h:Ly us k):W us:=bb (λ u2 t1 h=>gZ (λ x3 h=>bb (λ u5 t4 h=>jN (λ l6 h=>bb (λ u8 t7 h=>i6 (λ x9 h=>bb (λ u11 t10 h=>dF (λ x12 h=>bb (λ u14 t13 h=>Cg (λ dC h=>c9 (λ h=>c9 (λ h=>f x3 x9 x12 dC h) h) h) h) h) h) h) h) h) h) h) h) h
theorem KC {us} {k k':aI->aw->Int->List Int->Prop} (f:∀x3 x9 x12 dC,k x3 x9 x12 dC->k' x3 x9 x12 dC):Ly us k->Ly us k':=ba (λ u2 t1=>gX (λ x3=>ba (λ u5 t4=>jP (λ l6=>ba (λ u8 t7=>i7 (λ x9=>ba (λ u11 t10=>dG (λ x12=>ba (λ u14 t13=>Dl (λ dC=>da (da (f x3 x9 x12 dC))))))))))))
abbrev LG (us:List V) (k:aI->aw->List V->aw->Int->Prop):Prop:=nC us λ u2 t1=>vR u2 λ x3=>nC t1 λ u5 t4=>vT u5 λ l6=>nC l6 λ u7 x8=>vS u7 λ x9=>nC t4 λ u11 t10=>vS u11 λ x12=>nC t10 λ u14 t13=>vI u14 λ dC=>nN t13<|k x3 x9 x8 x12 dC
@[elab_as_elim] theorem KX {W:List V->Prop} {us} {k:aI->aw->List V->aw->Int->Prop} (f:∀x3 x9 x8 x12 dC,k x3 x9 x8 x12 dC->W [.ref x3,.tuple (.str x9::x8),.str x12,.int dC]) (h:LG us k):W us:=bb (λ u2 t1 h=>gZ (λ x3 h=>bb (λ u5 t4 h=>jN (λ l6 h=>bb (λ u7 x8 h=>i6 (λ x9 h=>bb (λ u11 t10 h=>i6 (λ x12 h=>bb (λ u14 t13 h=>dF (λ dC h=>c9 (λ h=>f x3 x9 x8 x12 dC h) h) h) h) h) h) h) h) h) h) h) h
theorem Ka {us} {k k':aI->aw->List V->aw->Int->Prop} (f:∀x3 x9 x8 x12 dC,k x3 x9 x8 x12 dC->k' x3 x9 x8 x12 dC):LG us k->LG us k':=ba (λ u2 t1=>gX (λ x3=>ba (λ u5 t4=>jP (λ l6=>ba (λ u7 x8=>i7 (λ x9=>ba (λ u11 t10=>i7 (λ x12=>ba (λ u14 t13=>dG (λ dC=>da (f x3 x9 x8 x12 dC)))))))))))
abbrev K4 (us:List V) (k:aI->aw->aw->Int->List Int->Prop):Prop:=nC us λ u2 t1=>vR u2 λ x3=>nC t1 λ u5 t4=>vT u5 λ l6=>nC l6 λ u8 t7=>vS u8 λ x9=>nC t7 λ u11 t10=>vS u11 λ x12=>nC t10 λ u14 t13=>vI u14 λ dC=>nC t13 λ u17 t16=>vY u17 λ x18=>nN t16<|nN t4<|k x3 x9 x12 dC x18
@[elab_as_elim] theorem JC {W:List V->Prop} {us} {k:aI->aw->aw->Int->List Int->Prop} (f:∀x3 x9 x12 dC x18,k x3 x9 x12 dC x18->W [.ref x3,.tuple [.str x9,.str x12,.int dC,.bytes x18]]) (h:K4 us k):W us:=bb (λ u2 t1 h=>gZ (λ x3 h=>bb (λ u5 t4 h=>jN (λ l6 h=>bb (λ u8 t7 h=>i6 (λ x9 h=>bb (λ u11 t10 h=>i6 (λ x12 h=>bb (λ u14 t13 h=>dF (λ dC h=>bb (λ u17 t16 h=>Cg (λ x18 h=>c9 (λ h=>c9 (λ h=>f x3 x9 x12 dC x18 h) h) h) h) h) h) h) h) h) h) h) h) h) h) h
theorem Jr {us} {k k':aI->aw->aw->Int->List Int->Prop} (f:∀x3 x9 x12 dC x18,k x3 x9 x12 dC x18->k' x3 x9 x12 dC x18):K4 us k->K4 us k':=ba (λ u2 t1=>gX (λ x3=>ba (λ u5 t4=>jP (λ l6=>ba (λ u8 t7=>i7 (λ x9=>ba (λ u11 t10=>i7 (λ x12=>ba (λ u14 t13=>dG (λ dC=>ba (λ u17 t16=>Dl (λ x18=>da (da (f x3 x9 x12 dC x18))))))))))))))
abbrev Lm (us:List V) (k:aI->aw->Int->List V->aw->Int->V->Prop):Prop:=nC us λ u2 t1=>vR u2 λ x3=>nC t1 λ u5 t4=>vT u5 λ l6=>nC l6 λ u8 t7=>vS u8 λ x9=>nC t7 λ u11 t10=>vI u11 λ x12=>nC t10 λ u14 t13=>vT u14 λ dC=>nC t13 λ u17 t16=>vS u17 λ x18=>nC t16 λ u20 t19=>vI u20 λ x21=>nC t19 λ x23 t22=>nN t22<|nN t4<|k x3 x9 x12 dC x18 x21 x23
@[elab_as_elim] theorem J8 {W:List V->Prop} {us} {k:aI->aw->Int->List V->aw->Int->V->Prop} (f:∀x3 x9 x12 dC x18 x21 x23,k x3 x9 x12 dC x18 x21 x23->W [.ref x3,.tuple [.str x9,.int x12,.tuple dC,.str x18,.int x21,x23]]) (h:Lm us k):W us:=bb (λ u2 t1 h=>gZ (λ x3 h=>bb (λ u5 t4 h=>jN (λ l6 h=>bb (λ u8 t7 h=>i6 (λ x9 h=>bb (λ u11 t10 h=>dF (λ x12 h=>bb (λ u14 t13 h=>jN (λ dC h=>bb (λ u17 t16 h=>i6 (λ x18 h=>bb (λ u20 t19 h=>dF (λ x21 h=>bb (λ x23 t22 h=>c9 (λ h=>c9 (λ h=>f x3 x9 x12 dC x18 x21 x23 h) h) h) h) h) h) h) h) h) h) h) h) h) h) h) h) h) h
theorem Kw {us} {k k':aI->aw->Int->List V->aw->Int->V->Prop} (f:∀x3 x9 x12 dC x18 x21 x23,k x3 x9 x12 dC x18 x21 x23->k' x3 x9 x12 dC x18 x21 x23):Lm us k->Lm us k':=ba (λ u2 t1=>gX (λ x3=>ba (λ u5 t4=>jP (λ l6=>ba (λ u8 t7=>i7 (λ x9=>ba (λ u11 t10=>dG (λ x12=>ba (λ u14 t13=>jP (λ dC=>ba (λ u17 t16=>i7 (λ x18=>ba (λ u20 t19=>dG (λ x21=>ba (λ x23 t22=>da (da (f x3 x9 x12 dC x18 x21 x23)))))))))))))))))
abbrev K3 (us:List V) (k:aI->Int->Int->Prop):Prop:=nC us λ u2 t1=>vR u2 λ x3=>nC t1 λ u5 t4=>vI u5 λ x6=>nC t4 λ u8 t7=>vI u8 λ x9=>nN t7<|k x3 x6 x9
@[elab_as_elim] theorem IW {W:List V->Prop} {us} {k:aI->Int->Int->Prop} (f:∀x3 x6 x9,k x3 x6 x9->W [.ref x3,.int x6,.int x9]) (h:K3 us k):W us:=bb (λ u2 t1 h=>gZ (λ x3 h=>bb (λ u5 t4 h=>dF (λ x6 h=>bb (λ u8 t7 h=>dF (λ x9 h=>c9 (λ h=>f x3 x6 x9 h) h) h) h) h) h) h) h
theorem IV {us} {k k':aI->Int->Int->Prop} (f:∀x3 x6 x9,k x3 x6 x9->k' x3 x6 x9):K3 us k->K3 us k':=ba (λ u2 t1=>gX (λ x3=>ba (λ u5 t4=>dG (λ x6=>ba (λ u8 t7=>dG (λ x9=>da (f x3 x6 x9)))))))
abbrev K6 (us:List V) (k:aI->aw->V->V->Int->Int->Int->Int->Int->List V->Prop):Prop:=nC us λ u2 t1=>vR u2 λ x3=>nC t1 λ u5 t4=>vT u5 λ l6=>nC l6 λ u8 t7=>vS u8 λ x9=>nC t7 λ x11 t10=>nC t10 λ x13 t12=>nC t12 λ u15 t14=>vI u15 λ x16=>nC t14 λ u18 t17=>vI u18 λ x19=>nC t17 λ u21 t20=>vI u21 λ x22=>nC t20 λ u24 t23=>vI u24 λ x25=>nC t23 λ u27 t26=>vI u27 λ x28=>nC t26 λ u30 t29=>vT u30 λ mw=>nN t29<|nN t4<|k x3 x9 x11 x13 x16 x19 x22 x25 x28 mw
@[elab_as_elim] theorem IL {W:List V->Prop} {us} {k:aI->aw->V->V->Int->Int->Int->Int->Int->List V->Prop} (f:∀x3 x9 x11 x13 x16 x19 x22 x25 x28 mw,k x3 x9 x11 x13 x16 x19 x22 x25 x28 mw->W [.ref x3,.tuple [.str x9,x11,x13,.int x16,.int x19,.int x22,.int x25,.int x28,.tuple mw]]) (h:K6 us k):W us:=bb (λ u2 t1 h=>gZ (λ x3 h=>bb (λ u5 t4 h=>jN (λ l6 h=>bb (λ u8 t7 h=>i6 (λ x9 h=>bb (λ x11 t10 h=>bb (λ x13 t12 h=>bb (λ u15 t14 h=>dF (λ x16 h=>bb (λ u18 t17 h=>dF (λ x19 h=>bb (λ u21 t20 h=>dF (λ x22 h=>bb (λ u24 t23 h=>dF (λ x25 h=>bb (λ u27 t26 h=>dF (λ x28 h=>bb (λ u30 t29 h=>jN (λ mw h=>c9 (λ h=>c9 (λ h=>f x3 x9 x11 x13 x16 x19 x22 x25 x28 mw h) h) h) h) h) h) h) h) h) h) h) h) h) h) h) h) h) h) h) h) h) h) h
theorem II {us} {k k':aI->aw->V->V->Int->Int->Int->Int->Int->List V->Prop} (f:∀x3 x9 x11 x13 x16 x19 x22 x25 x28 mw,k x3 x9 x11 x13 x16 x19 x22 x25 x28 mw->k' x3 x9 x11 x13 x16 x19 x22 x25 x28 mw):K6 us k->K6 us k':=ba (λ u2 t1=>gX (λ x3=>ba (λ u5 t4=>jP (λ l6=>ba (λ u8 t7=>i7 (λ x9=>ba (λ x11 t10=>ba (λ x13 t12=>ba (λ u15 t14=>dG (λ x16=>ba (λ u18 t17=>dG (λ x19=>ba (λ u21 t20=>dG (λ x22=>ba (λ u24 t23=>dG (λ x25=>ba (λ u27 t26=>dG (λ x28=>ba (λ u30 t29=>jP (λ mw=>da (da (f x3 x9 x11 x13 x16 x19 x22 x25 x28 mw))))))))))))))))))))))
abbrev Lz (us:List V) (k:Prop):Prop:=nN us<|k
@[elab_as_elim] theorem IF {W:List V->Prop} {us} {k:Prop} (f:k->W []) (h:Lz us k):W us:=c9 (λ h=>f h) h
theorem Kg {us} {k k':Prop} (f:k->k'):Lz us k->Lz us k':=da (f)
abbrev Ij (us:List V) (k:Int->Int->Prop):Prop:=nC us λ u2 t1=>vT u2 λ l3=>nC l3 λ u5 t4=>vT u5 λ l6=>nC l6 λ u8 t7=>vI u8 λ x9=>nC t7 λ u11 t10=>vI u11 λ x12=>nN t10<|nN t4<|nN t1<|k x9 x12
@[elab_as_elim] theorem JM {W:List V->Prop} {us} {k:Int->Int->Prop} (f:∀x9 x12,k x9 x12->W [.tuple [.tuple [.int x9,.int x12]]]) (h:Ij us k):W us:=bb (λ u2 t1 h=>jN (λ l3 h=>bb (λ u5 t4 h=>jN (λ l6 h=>bb (λ u8 t7 h=>dF (λ x9 h=>bb (λ u11 t10 h=>dF (λ x12 h=>c9 (λ h=>c9 (λ h=>c9 (λ h=>f x9 x12 h) h) h) h) h) h) h) h) h) h) h) h
theorem KE {us} {k k':Int->Int->Prop} (f:∀x9 x12,k x9 x12->k' x9 x12):Ij us k->Ij us k':=ba (λ u2 t1=>jP (λ l3=>ba (λ u5 t4=>jP (λ l6=>ba (λ u8 t7=>dG (λ x9=>ba (λ u11 t10=>dG (λ x12=>da (da (da (f x9 x12)))))))))))
abbrev Lp (us:List V) (k:aI->V->V->Prop):Prop:=nC us λ u2 t1=>vR u2 λ x3=>nC t1 λ x5 t4=>nC t4 λ x7 t6=>nN t6<|k x3 x5 x7
@[elab_as_elim] theorem I0 {W:List V->Prop} {us} {k:aI->V->V->Prop} (f:∀x3 x5 x7,k x3 x5 x7->W [.ref x3,x5,x7]) (h:Lp us k):W us:=bb (λ u2 t1 h=>gZ (λ x3 h=>bb (λ x5 t4 h=>bb (λ x7 t6 h=>c9 (λ h=>f x3 x5 x7 h) h) h) h) h) h
theorem KY {us} {k k':aI->V->V->Prop} (f:∀x3 x5 x7,k x3 x5 x7->k' x3 x5 x7):Lp us k->Lp us k':=ba (λ u2 t1=>gX (λ x3=>ba (λ x5 t4=>ba (λ x7 t6=>da (f x3 x5 x7)))))
abbrev LD (us:List V) (k:V->Int->Prop):Prop:=nC us λ x2 t1=>nC t1 λ u4 t3=>vI u4 λ x5=>nN t3<|k x2 x5
@[elab_as_elim] theorem Ke {W:List V->Prop} {us} {k:V->Int->Prop} (f:∀x2 x5,k x2 x5->W [x2,.int x5]) (h:LD us k):W us:=bb (λ x2 t1 h=>bb (λ u4 t3 h=>dF (λ x5 h=>c9 (λ h=>f x2 x5 h) h) h) h) h
theorem KR {us} {k k':V->Int->Prop} (f:∀x2 x5,k x2 x5->k' x2 x5):LD us k->LD us k':=ba (λ x2 t1=>ba (λ u4 t3=>dG (λ x5=>da (f x2 x5))))
abbrev IN (us:List V) (k:aI->V->Int->Prop):Prop:=nC us λ u2 t1=>vR u2 λ x3=>nC t1 λ x5 t4=>nC t4 λ u7 t6=>vI u7 λ x8=>nN t6<|k x3 x5 x8
@[elab_as_elim] theorem FG {W:List V->Prop} {us} {k:aI->V->Int->Prop} (f:∀x3 x5 x8,k x3 x5 x8->W [.ref x3,x5,.int x8]) (h:IN us k):W us:=bb (λ u2 t1 h=>gZ (λ x3 h=>bb (λ x5 t4 h=>bb (λ u7 t6 h=>dF (λ x8 h=>c9 (λ h=>f x3 x5 x8 h) h) h) h) h) h) h
theorem FF {us} {k k':aI->V->Int->Prop} (f:∀x3 x5 x8,k x3 x5 x8->k' x3 x5 x8):IN us k->IN us k':=ba (λ u2 t1=>gX (λ x3=>ba (λ x5 t4=>ba (λ u7 t6=>dG (λ x8=>da (f x3 x5 x8))))))
abbrev Lg (us:List V) (k:aI->Int->Int->Prop):Prop:=nC us λ u2 t1=>vR u2 λ x3=>nC t1 λ u5 t4=>vT u5 λ l6=>nC l6 λ u8 t7=>vI u8 λ x9=>nN t7<|nC t4 λ u11 t10=>vI u11 λ x12=>nN t10<|k x3 x9 x12
@[elab_as_elim] theorem KJ {W:List V->Prop} {us} {k:aI->Int->Int->Prop} (f:∀x3 x9 x12,k x3 x9 x12->W [.ref x3,.tuple [.int x9],.int x12]) (h:Lg us k):W us:=bb (λ u2 t1 h=>gZ (λ x3 h=>bb (λ u5 t4 h=>jN (λ l6 h=>bb (λ u8 t7 h=>dF (λ x9 h=>c9 (λ h=>bb (λ u11 t10 h=>dF (λ x12 h=>c9 (λ h=>f x3 x9 x12 h) h) h) h) h) h) h) h) h) h) h
theorem Jk {us} {k k':aI->Int->Int->Prop} (f:∀x3 x9 x12,k x3 x9 x12->k' x3 x9 x12):Lg us k->Lg us k':=ba (λ u2 t1=>gX (λ x3=>ba (λ u5 t4=>jP (λ l6=>ba (λ u8 t7=>dG (λ x9=>da (ba (λ u11 t10=>dG (λ x12=>da (f x3 x9 x12))))))))))
abbrev LC (us:List V) (k:V->Prop):Prop:=nC us λ x2 t1=>nC t1 λ u4 t3=>vT u4 λ l5=>nC l5 λ u7 t6=>Ii u7<|nN t6<|nN t3<|k x2
@[elab_as_elim] theorem KZ {W:List V->Prop} {us} {k:V->Prop} (f:∀x2,k x2->W [x2,.tuple [.int 32]]) (h:LC us k):W us:=bb (λ x2 t1 h=>bb (λ u4 t3 h=>jN (λ l5 h=>bb (λ u7 t6 h=>CO (λ h=>c9 (λ h=>c9 (λ h=>f x2 h) h) h) h) h) h) h) h
theorem I8 {us} {k k':V->Prop} (f:∀x2,k x2->k' x2):LC us k->LC us k':=ba (λ x2 t1=>ba (λ u4 t3=>jP (λ l5=>ba (λ u7 t6=>BM (da (da (f x2)))))))
abbrev Lf (us:List V) (k:aI->aw->V->Prop):Prop:=nC us λ u2 t1=>vR u2 λ x3=>nC t1 λ u5 t4=>vS u5 λ x6=>nC t4 λ x8 t7=>nC t7 λ u10 t9=>vT u10 λ l11=>nC l11 λ u13 t12=>Ii u13<|nN t12<|nN t9<|k x3 x6 x8
@[elab_as_elim] theorem Jt {W:List V->Prop} {us} {k:aI->aw->V->Prop} (f:∀x3 x6 x8,k x3 x6 x8->W [.ref x3,.str x6,x8,.tuple [.int 32]]) (h:Lf us k):W us:=bb (λ u2 t1 h=>gZ (λ x3 h=>bb (λ u5 t4 h=>i6 (λ x6 h=>bb (λ x8 t7 h=>bb (λ u10 t9 h=>jN (λ l11 h=>bb (λ u13 t12 h=>CO (λ h=>c9 (λ h=>c9 (λ h=>f x3 x6 x8 h) h) h) h) h) h) h) h) h) h) h) h
theorem Ja {us} {k k':aI->aw->V->Prop} (f:∀x3 x6 x8,k x3 x6 x8->k' x3 x6 x8):Lf us k->Lf us k':=ba (λ u2 t1=>gX (λ x3=>ba (λ u5 t4=>i7 (λ x6=>ba (λ x8 t7=>ba (λ u10 t9=>jP (λ l11=>ba (λ u13 t12=>BM (da (da (f x3 x6 x8)))))))))))
abbrev Le (us:List V) (k:aw->List V->Prop):Prop:=nC us λ u2 t1=>vS u2 λ x3=>nC t1 λ u5 t4=>vT u5 λ l6=>nC l6 λ u8 t7=>Ii u8<|nN t7<|nC t4 λ u10 t9=>vT u10 λ x11=>nC t9 λ u13 t12=>yM u13<|nN t12<|k x3 x11
@[elab_as_elim] theorem JS {W:List V->Prop} {us} {k:aw->List V->Prop} (f:∀x3 x11,k x3 x11->W [.str x3,.tuple [.int 32],.tuple x11,.bool true]) (h:Le us k):W us:=bb (λ u2 t1 h=>i6 (λ x3 h=>bb (λ u5 t4 h=>jN (λ l6 h=>bb (λ u8 t7 h=>CO (λ h=>c9 (λ h=>bb (λ u10 t9 h=>jN (λ x11 h=>bb (λ u13 t12 h=>EN (λ h=>c9 (λ h=>f x3 x11 h) h) h) h) h) h) h) h) h) h) h) h) h
theorem KD {us} {k k':aw->List V->Prop} (f:∀x3 x11,k x3 x11->k' x3 x11):Le us k->Le us k':=ba (λ u2 t1=>i7 (λ x3=>ba (λ u5 t4=>jP (λ l6=>ba (λ u8 t7=>BM (da (ba (λ u10 t9=>jP (λ x11=>ba (λ u13 t12=>Ew (da (f x3 x11))))))))))))
abbrev Lw (us:List V) (k:List V->Int->Prop):Prop:=nC us λ u2 t1=>vF u2 λ x3=>nC t1 λ u5 t4=>vI u5 λ x6=>nN t4<|k x3 x6
@[elab_as_elim] theorem Kd {W:List V->Prop} {us} {k:List V->Int->Prop} (f:∀x3 x6,k x3 x6->W [.flist x3,.int x6]) (h:Lw us k):W us:=bb (λ u2 t1 h=>zJ (λ x3 h=>bb (λ u5 t4 h=>dF (λ x6 h=>c9 (λ h=>f x3 x6 h) h) h) h) h) h
theorem JP {us} {k k':List V->Int->Prop} (f:∀x3 x6,k x3 x6->k' x3 x6):Lw us k->Lw us k':=ba (λ u2 t1=>z9 (λ x3=>ba (λ u5 t4=>dG (λ x6=>da (f x3 x6)))))
abbrev K8 (us:List V) (k:Int->Int->Int->Int->Bool->Prop):Prop:=nC us λ u2 t1=>vI u2 λ x3=>nC t1 λ u5 t4=>vI u5 λ x6=>nC t4 λ u8 t7=>vI u8 λ x9=>nC t7 λ u11 t10=>vI u11 λ x12=>nC t10 λ u14 t13=>vB u14 λ dC=>nN t13<|k x3 x6 x9 x12 dC
@[elab_as_elim] theorem IK {W:List V->Prop} {us} {k:Int->Int->Int->Int->Bool->Prop} (f:∀x3 x6 x9 x12 dC,k x3 x6 x9 x12 dC->W [.int x3,.int x6,.int x9,.int x12,.bool dC]) (h:K8 us k):W us:=bb (λ u2 t1 h=>dF (λ x3 h=>bb (λ u5 t4 h=>dF (λ x6 h=>bb (λ u8 t7 h=>dF (λ x9 h=>bb (λ u11 t10 h=>dF (λ x12 h=>bb (λ u14 t13 h=>GU (λ dC h=>c9 (λ h=>f x3 x6 x9 x12 dC h) h) h) h) h) h) h) h) h) h) h) h
theorem JJ {us} {k k':Int->Int->Int->Int->Bool->Prop} (f:∀x3 x6 x9 x12 dC,k x3 x6 x9 x12 dC->k' x3 x6 x9 x12 dC):K8 us k->K8 us k':=ba (λ u2 t1=>dG (λ x3=>ba (λ u5 t4=>dG (λ x6=>ba (λ u8 t7=>dG (λ x9=>ba (λ u11 t10=>dG (λ x12=>ba (λ u14 t13=>G0 (λ dC=>da (f x3 x6 x9 x12 dC)))))))))))
abbrev LB (us:List V) (k:Int->Int->Int->Int->aI->aI->Prop):Prop:=nC us λ u2 t1=>vI u2 λ x3=>nC t1 λ u5 t4=>vI u5 λ x6=>nC t4 λ u8 t7=>vI u8 λ x9=>nC t7 λ u11 t10=>vI u11 λ x12=>nC t10 λ u14 t13=>vR u14 λ dC=>nC t13 λ u17 t16=>vR u17 λ x18=>nN t16<|k x3 x6 x9 x12 dC x18
@[elab_as_elim] theorem Ko {W:List V->Prop} {us} {k:Int->Int->Int->Int->aI->aI->Prop} (f:∀x3 x6 x9 x12 dC x18,k x3 x6 x9 x12 dC x18->W [.int x3,.int x6,.int x9,.int x12,.ref dC,.ref x18]) (h:LB us k):W us:=bb (λ u2 t1 h=>dF (λ x3 h=>bb (λ u5 t4 h=>dF (λ x6 h=>bb (λ u8 t7 h=>dF (λ x9 h=>bb (λ u11 t10 h=>dF (λ x12 h=>bb (λ u14 t13 h=>gZ (λ dC h=>bb (λ u17 t16 h=>gZ (λ x18 h=>c9 (λ h=>f x3 x6 x9 x12 dC x18 h) h) h) h) h) h) h) h) h) h) h) h) h) h
theorem Jq {us} {k k':Int->Int->Int->Int->aI->aI->Prop} (f:∀x3 x6 x9 x12 dC x18,k x3 x6 x9 x12 dC x18->k' x3 x6 x9 x12 dC x18):LB us k->LB us k':=ba (λ u2 t1=>dG (λ x3=>ba (λ u5 t4=>dG (λ x6=>ba (λ u8 t7=>dG (λ x9=>ba (λ u11 t10=>dG (λ x12=>ba (λ u14 t13=>gX (λ dC=>ba (λ u17 t16=>gX (λ x18=>da (f x3 x6 x9 x12 dC x18)))))))))))))
abbrev La (us:List V) (k:Int->Int->Int->Int->Int->Bool->Prop):Prop:=nC us λ u2 t1=>vI u2 λ x3=>nC t1 λ u5 t4=>vI u5 λ x6=>nC t4 λ u8 t7=>vT u8 λ l9=>nC l9 λ u11 t10=>vI u11 λ x12=>nC t10 λ u14 t13=>vI u14 λ dC=>nN t13<|nC t7 λ u17 t16=>vI u17 λ x18=>nC t16 λ u20 t19=>vB u20 λ x21=>nN t19<|k x3 x6 x12 dC x18 x21
@[elab_as_elim] theorem J7 {W:List V->Prop} {us} {k:Int->Int->Int->Int->Int->Bool->Prop} (f:∀x3 x6 x12 dC x18 x21,k x3 x6 x12 dC x18 x21->W [.int x3,.int x6,.tuple [.int x12,.int dC],.int x18,.bool x21]) (h:La us k):W us:=bb (λ u2 t1 h=>dF (λ x3 h=>bb (λ u5 t4 h=>dF (λ x6 h=>bb (λ u8 t7 h=>jN (λ l9 h=>bb (λ u11 t10 h=>dF (λ x12 h=>bb (λ u14 t13 h=>dF (λ dC h=>c9 (λ h=>bb (λ u17 t16 h=>dF (λ x18 h=>bb (λ u20 t19 h=>GU (λ x21 h=>c9 (λ h=>f x3 x6 x12 dC x18 x21 h) h) h) h) h) h) h) h) h) h) h) h) h) h) h) h) h
theorem Kt {us} {k k':Int->Int->Int->Int->Int->Bool->Prop} (f:∀x3 x6 x12 dC x18 x21,k x3 x6 x12 dC x18 x21->k' x3 x6 x12 dC x18 x21):La us k->La us k':=ba (λ u2 t1=>dG (λ x3=>ba (λ u5 t4=>dG (λ x6=>ba (λ u8 t7=>jP (λ l9=>ba (λ u11 t10=>dG (λ x12=>ba (λ u14 t13=>dG (λ dC=>da (ba (λ u17 t16=>dG (λ x18=>ba (λ u20 t19=>G0 (λ x21=>da (f x3 x6 x12 dC x18 x21))))))))))))))))
abbrev Lx (us:List V) (k:Int->List V->List V->aI->Prop):Prop:=nC us λ u2 t1=>vI u2 λ x3=>nC t1 λ u5 t4=>vT u5 λ x6=>nC t4 λ u8 t7=>vF u8 λ x9=>nC t7 λ u11 t10=>vR u11 λ x12=>nN t10<|k x3 x6 x9 x12
@[elab_as_elim] theorem IH {W:List V->Prop} {us} {k:Int->List V->List V->aI->Prop} (f:∀x3 x6 x9 x12,k x3 x6 x9 x12->W [.int x3,.tuple x6,.flist x9,.ref x12]) (h:Lx us k):W us:=bb (λ u2 t1 h=>dF (λ x3 h=>bb (λ u5 t4 h=>jN (λ x6 h=>bb (λ u8 t7 h=>zJ (λ x9 h=>bb (λ u11 t10 h=>gZ (λ x12 h=>c9 (λ h=>f x3 x6 x9 x12 h) h) h) h) h) h) h) h) h) h
theorem Jx {us} {k k':Int->List V->List V->aI->Prop} (f:∀x3 x6 x9 x12,k x3 x6 x9 x12->k' x3 x6 x9 x12):Lx us k->Lx us k':=ba (λ u2 t1=>dG (λ x3=>ba (λ u5 t4=>jP (λ x6=>ba (λ u8 t7=>z9 (λ x9=>ba (λ u11 t10=>gX (λ x12=>da (f x3 x6 x9 x12)))))))))
abbrev Ld (us:List V) (k:List V->List V->Int->aw->Prop):Prop:=nC us λ u2 t1=>vT u2 λ x3=>nC t1 λ u5 t4=>vF u5 λ x6=>nC t4 λ u8 t7=>vI u8 λ x9=>nC t7 λ u11 t10=>vS u11 λ x12=>nN t10<|k x3 x6 x9 x12
@[elab_as_elim] theorem IS {W:List V->Prop} {us} {k:List V->List V->Int->aw->Prop} (f:∀x3 x6 x9 x12,k x3 x6 x9 x12->W [.tuple x3,.flist x6,.int x9,.str x12]) (h:Ld us k):W us:=bb (λ u2 t1 h=>jN (λ x3 h=>bb (λ u5 t4 h=>zJ (λ x6 h=>bb (λ u8 t7 h=>dF (λ x9 h=>bb (λ u11 t10 h=>i6 (λ x12 h=>c9 (λ h=>f x3 x6 x9 x12 h) h) h) h) h) h) h) h) h) h
theorem Ks {us} {k k':List V->List V->Int->aw->Prop} (f:∀x3 x6 x9 x12,k x3 x6 x9 x12->k' x3 x6 x9 x12):Ld us k->Ld us k':=ba (λ u2 t1=>jP (λ x3=>ba (λ u5 t4=>z9 (λ x6=>ba (λ u8 t7=>dG (λ x9=>ba (λ u11 t10=>i7 (λ x12=>da (f x3 x6 x9 x12)))))))))
abbrev Lb (us:List V) (k:List V->aw->Prop):Prop:=nC us λ u2 t1=>vF u2 λ x3=>nC t1 λ u5 t4=>vS u5 λ x6=>nN t4<|k x3 x6
@[elab_as_elim] theorem Jl {W:List V->Prop} {us} {k:List V->aw->Prop} (f:∀x3 x6,k x3 x6->W [.flist x3,.str x6]) (h:Lb us k):W us:=bb (λ u2 t1 h=>zJ (λ x3 h=>bb (λ u5 t4 h=>i6 (λ x6 h=>c9 (λ h=>f x3 x6 h) h) h) h) h) h
theorem Kz {us} {k k':List V->aw->Prop} (f:∀x3 x6,k x3 x6->k' x3 x6):Lb us k->Lb us k':=ba (λ u2 t1=>z9 (λ x3=>ba (λ u5 t4=>i7 (λ x6=>da (f x3 x6)))))
abbrev Lj (us:List V) (k:List V->Int->Int->List V->Prop):Prop:=nC us λ u2 t1=>vF u2 λ x3=>nC t1 λ u5 t4=>vI u5 λ x6=>nC t4 λ u8 t7=>vI u8 λ x9=>nC t7 λ u11 t10=>vT u11 λ x12=>nN t10<|k x3 x6 x9 x12
@[elab_as_elim] theorem IU {W:List V->Prop} {us} {k:List V->Int->Int->List V->Prop} (f:∀x3 x6 x9 x12,k x3 x6 x9 x12->W [.flist x3,.int x6,.int x9,.tuple x12]) (h:Lj us k):W us:=bb (λ u2 t1 h=>zJ (λ x3 h=>bb (λ u5 t4 h=>dF (λ x6 h=>bb (λ u8 t7 h=>dF (λ x9 h=>bb (λ u11 t10 h=>jN (λ x12 h=>c9 (λ h=>f x3 x6 x9 x12 h) h) h) h) h) h) h) h) h) h
theorem IE {us} {k k':List V->Int->Int->List V->Prop} (f:∀x3 x6 x9 x12,k x3 x6 x9 x12->k' x3 x6 x9 x12):Lj us k->Lj us k':=ba (λ u2 t1=>z9 (λ x3=>ba (λ u5 t4=>dG (λ x6=>ba (λ u8 t7=>dG (λ x9=>ba (λ u11 t10=>jP (λ x12=>da (f x3 x6 x9 x12)))))))))
abbrev LA (us:List V) (k:List V->Prop):Prop:=nC us λ u2 t1=>vF u2 λ x3=>nN t1<|k x3
@[elab_as_elim] theorem J2 {W:List V->Prop} {us} {k:List V->Prop} (f:∀x3,k x3->W [.flist x3]) (h:LA us k):W us:=bb (λ u2 t1 h=>zJ (λ x3 h=>c9 (λ h=>f x3 h) h) h) h
theorem KP {us} {k k':List V->Prop} (f:∀x3,k x3->k' x3):LA us k->LA us k':=ba (λ u2 t1=>z9 (λ x3=>da (f x3)))
noncomputable def lenOf (H:MH):V->Option Nat
 |.tuple us=>some us.length
 |.flist us=>some us.length
 |.bytes b=>some b.length
 |.ref a=>match H a with
  |some (.list us)=>some us.length
  |_=>none
 |_=>none
def CF:cB:=λ us H Q X=>q1 us λ u=>match lenOf H u with
  |some n=>n<=1000000/\Q (.int n) H
  |none=>False
def ui:cB:=λ us H Q X=>q2 us λ n=>-1000000<=n/\n<=1000000/\Q (.range n) H
def uh:cB:=λ us H Q X=>q3 us λ a=>∃l:List Int,H a=some (.list (l.map .int))/\io l/\Q (.bytes l) H
def Ct:cB:=λ us H Q X=>q2 us λ k=>0<=k/\k<=9/\Q (.str (dg k)) H
def uH:cB:=λ us H Q X=>q3 us λ a=>∃vs,H a=some (.list vs)/\vs.length<=100000/\Q (.tuple vs) H
def xB:cB:=λ us H Q X=>q3 us λ a=>∃vs,H a=some (.list vs)/\vs.length<=100000/\∀c,H c=none->Q (.ref c) (H.set c (.list vs))
def qS:cB:=λ us H Q X=>q3 us λ a=>(∃ls:List dY,H a=some (.list (ls.map dY.v))/\(ls.map dY.first).Nodup/\ls.length<=3/\∀c,H c=none->Q (.ref c) (H.set c (.list ((isort dY.first ls).map dY.v))))\/
  (∃es:List (Int×V),(H a=some .edict/\es=[]\/H a=some (.tdict (es.map λ p=>([p.1],p.2))))/\(es.map (·.1)).Nodup/\es.length<=3/\∀c,H c=none->Q (.ref c) (H.set c (.list ((isort (λ k=>k) (es.map (·.1))).map λ k=>.tuple [.int k]))))
def qA:cB:=λ us H Q X=>q4 us λ Z t=>t="str"/\Q (.bool false) H
def CP:cB:=λ us H Q X=>q3 us λ a=>∃bs:List Bool,H a=some (.list (bs.map .bool))/\bs.length<=1000/\Q (.bool (bs.all id)) H
def CW:cB:=λ us H Q X=>q5 us λ a b=>Q (.int (max a b)) H
def rS:cB:=λ us H Q X=>q6 us λ a u=>∃vs,H a=some (.list vs)/\vs.length<=100000/\Q .none (H.set a (.list (vs++[u])))
def rR:cB:=λ us H Q X=>q7 us λ a i u=>∃vs,H a=some (.list vs)/\vs.length<=100000/\0<=i/\i<=vs.length/\Q .none (H.set a (.list (vs.take i.toNat++u::vs.drop i.toNat)))
def CD:cB:=λ us H Q X=>q8 us λ a k=>(H a=some .edict/\Q .none H)\/∃es,H a=some (.tdict es)/\match es.lookup [k] with
  |none=>Q .none H
  |some u=>Q u H
def qv:cB:=λ us H Q X=>q9 us λ a b=>∃es fs,a≠b/\H a=some (.sdict es)/\H b=some (.sdict fs)/\((es++fs).map (·.1)).Nodup/\es.length+fs.length<=100/\Q .none (H.set a (.sdict (es++fs)))
def KG:cB:=λ us H Q X=>K9 us λ low cy aA=>∃j:Nat,j<=128/\cy=low+2^j -1/\0<=low/\low %2^j=0/\0<=aA/\aA<=128/\cy<2^aA.toNat/\Q (.int (aA -j)) H
def Da:cB:=λ us H Q X=>q2 us λ n=>0<=n/\n<=1000/\Q (.int (slotsOf n)) H
def B1:cB:=λ us H Q X=>Jz us λ b=>io b/\Q (.int (numOf b)) H
def Dj:cB:=λ us H Q X=>Jz us λ b=>io b/\Q (.bytes b.reverse) H
def E0:cB:=λ us H Q X=>K2 us λ b o=>io b/\(o="big"\/o="little")/\Q (.int (numIn b o)) H
def Ec:cB:=λ us H Q X=>Ln us λ o h=>Q (.str (if o="host" then h else o)) H
def E9:cB:=λ us H Q X=>Ll us λ r fields family sets=>∃d,H r=some (.inst (.cls 3) d [])/\r≠fields/\r≠sets/\∀z H',dZ (H.del r) H' r z->z.at_=0->z.order="little"->z.sets=sets->(∀i,z.sl i=none)->z.n=0->z.eff=[]->(H.del r) z.dropped=none->Q .none H'
def Ei:cB:=λ us H Q X=>q7 us λ a t st=>∃S:List (Int×V),H a=some (.list (S.map stV))/\S.length<=10000/\(∀p∈S,p.1<=t)/\Q .none (H.set a (.list ((S++[(t,st)]).map stV)))
def Et:cB:=λ us H Q X=>Lh us λ a n k t=>n="meta l4proto"/\dx H a/\∀x y,Q .none (H.set a (.sdict [("meta l4proto",.tuple [.int x,.int y])]))
def E8:cB:=λ us H Q X=>LH us λ x n a b=>Q (matchV (fieldV x) "==" n) H
def C1:cB:=λ us H Q X=>q3 us λ r=>∃B z,dZ B H r z/\z.eff.length<=1000/\∀c H',dZ B H' r {z with pend:=c}->H' c=some (.list [])->Q .none H'
def BR:cB:=λ us H Q X=>q6 us λ r st=>∃B z,dZ B H r z/\z.eff.length<=1000/\∀c H',dZ B H' r {z with pend:=c,eff:=z.eff++[(z.at_,st)]}->Q .none H'
def CZ:cB:=λ us H Q X=>Ig us λ r g=>∃B z,dZ B H r z/\match z.sl g with
  |some t=>Q t.v H
  |none=>X whyEmpty H
def Dk:cB:=λ us H Q X=>Ig us λ r g=>∃B z,dZ B H r z/\match z.sl g with
  |some t=>t.tag≠"half"/\Q t.v H
  |none=>X whyEmpty H
def D8:cB:=λ us H Q X=>Lr us λ r b o=>∃B z,dZ B H r z/\io b/\((if o="host" then z.order else o)="big"\/(if o="host" then z.order else o)="little")/\Q (.int (numIn b (if o="host" then z.order else o))) H
def CE:cB:=λ us H Q X=>q3 us λ a=>∃vs,H a=some (.list vs)/\vs.length<=1000/\Q (joinV vs) H
def E6:cB:=λ us H Q X=>Lu us λ r g lay=>∃B z,∃ts:List Slot,dZ B H r z/\lay=ts.map (λ Z=>.tuple [.int 4,.str "host"])/\(∀(i:Nat) (t:Slot),ts[i]?=some t->z.sl (g+i)=some t/\t.tag≠"half")/\ts.length<=10/\Q (joinV (ts.map Slot.e)) H
def B5:cB:=λ us H Q X=>Lv us λ r name=>∃B z T,dZ B H r z/\cE B z.sets T/\match T.lookup name with
  |none=>Q .none H
  |some ls=>Q (litsV ls) H
def ES:cB:=λ us H Q X=>Lc us λ r name tag=>∃B z T,dZ B H r z/\cE B z.sets T/\Q (whereV T name tag) H
def A0:cB:=λ us H Q X=>K1 us λ r Z g name size order=>∃B z,dZ B H r z/\z.n<=10000/\name.length<=100/\∀H',dZ B H' r {z with sl:=z.sl.put g ⟨"field",[.str ("meta "++name)],order,size⟩,n:=z.n+1}->Q .none H'
def Aq:cB:=λ us H Q X=>Ly us λ r Z g b=>∃B z,dZ B H r z/\z.n<=10000/\io b/\∀H',dZ B H' r {z with sl:=z.sl.put g ⟨"raw",[.bytes b],"big",b.length⟩,n:=z.n+1}->Q .none H'
def D6:cB:=λ us H Q X=>LG us λ r tag rest op n=>tag≠"mask"/\Q (matchV (.tuple (.str tag::rest)) op n) H
def zN:cB:=λ us H Q X=>K4 us λ r Z op g b=>∃B z o size nm,dZ B H r z/\z.eff.length<=1000/\io b/\z.sl g=some ⟨"field",[.str nm],o,size⟩/\(nm="meta mark"\/nm="meta l4proto"/\op="=="/\g=0)/\
   ((if o="host" then z.order else o)="big"\/(if o="host" then z.order else o)="little")/\
   ∀c H',dZ B H' r {z with pend:=c,eff:=z.eff++[(z.at_,matchV (fieldV nm) op (numIn b (if o="host" then z.order else o)))]}->Q .none H'
def AK:cB:=λ us H Q X=>Lm us λ r Z g lay name wP lay2=>∃B z T,∃ts:List Slot,∃l2:List (Int×aw),dZ B H r z/\cE B z.sets T/\lay=ts.map (λ Z=>.tuple [.int 4,.str "host"])/\(∀(i:Nat) (t:Slot),ts[i]?=some t->z.sl (g+i)=some t/\t.tag≠"half")/\ts.length<=10/\
   lay2=layV l2/\l2.length<=10/\(∀p∈l2,0<=p.1/\p.1<=1000)/\z.n<=10000/\
   ∀H',dZ B H' r {z with sl:=mapPut ⟨"map",[joinV (ts.map Slot.e),whereV T name "map"],"",0⟩ z.sl wP l2,n:=z.n+l2.length}->Q .none H'
def z7:cB:=λ us H Q X=>q6 us λ r row=>∃B z,dZ B H r z/\z.eff.length<=1000/\∀c H',dZ B H' r {z with pend:=c,eff:=z.eff++[(z.at_,row)]}->Q .none H'
def Dz:cB:=λ us H Q X=>K3 us λ r lo hi=>∃B z,dZ B H r z/\(∀g t,(g=lo\/g=hi)->z.sl g=some t->i9 t)/\(∀a b,z.sl lo=some a->a.tag="raw"->z.sl hi=some b->b.tag="raw")/\match pairOf z.sl lo hi with
  |some p=>Q (pairV p) H
  |none=>X whyEmpty H
noncomputable def natAddr (sl:c7) (r3 r4 size:Int) (isNet:Bool) (out:Option V->Prop):Prop:=
 if r3<0 then out (some .none) else match pairOf sl r3 r4 with
  |none=>out none
  |some none=>match sl r3 with
   |some t=>out (some t.e)
   |none=>False
  |some (some p)=>if isNet then ∃j:Nat,j<=128/\p.2=p.1+2^j -1/\0<=p.1/\p.1 %2^j=0/\0<=size/\size<=16/\p.2<2^(8*size).toNat/\out (some (.tuple [.str "net",.int p.1,.int (8*size -j)]))
   else out (some (.tuple [.str "span",.int p.1,.int p.2]))
def AX:cB:=λ us H Q X=>K6 us λ r nat kind nf r3 r4 size r6 r7 told=>∃B z,∃ts:List aw,dZ B H r z/\z.eff.length<=1000/\told=ts.map .str/\ts.length<=100/\
   (∀g t,(g=r3\/g=r4\/g=r6\/g=r7)->z.sl g=some t->i9 t)/\(∀a b,z.sl r3=some a->a.tag="raw"->z.sl r4=some b->b.tag="raw")/\(∀a b,z.sl r6=some a->a.tag="raw"->z.sl r7=some b->b.tag="raw")/\
   natAddr z.sl r3 r4 size (decide ((ts.filter (·≠("netmap":aw))).length<ts.length)) λ v=>match v with
    |none=>X whyEmpty H
    |some v=>match pairOf z.sl r6 r7 with
     |none=>X whyEmpty H
     |some p=>∀c H',dZ B H' r {z with pend:=c,eff:=z.eff++[(z.at_,.tuple [.str "nat",kind,nf,v,pairV p,.tuple ((ts.filter (·≠("netmap":aw))).map .str)])]}->Q .none H'
noncomputable def backs0:List (aw×V):=[("nat",.fn (.user 38)),("expect",.fn (.user 36)),("flow",.fn (.user 36))]
def DA:cB:=λ us H Q X=>Lz us<|∀c,H c=none->Q (.ref c) (H.set c (.sdict backs0))
def vi:cB:=λ us H Q X=>Ij us λ a b=>Q (if a=b then .tuple [.int a] else .none) H
def EP:cB:=λ us H Q X=>Lp us λ e box data=>∃d,H e=some (.inst (.cls 4) d [])/\∀c,H c=none->Q .none ((H.set c .edict).set e (.inst (.cls 4) d [("box",box),("data",data),("until",.int 0),("timeout",.int 0),("comment",.str ""),("cells",.ref c)]))
def EE:cB:=λ us H Q X=>LD us λ v now=>∃x,kh H v x/\Q (.bool true) H
def EJ:cB:=λ us H Q X=>q3 us λ s=>∃d,H s=some (.inst (.cls 5) d [])/\∀c,H c=none->Q .none ((H.set c .edict).set s (.inst (.cls 5) d [("table",.ref c)]))
def BZ:cB:=λ us H Q X=>IN us λ st v now=>∃b8 x,ek H st b8/\b8.length<=2/\kh H v x/\x.first=x.last/\x.first∉b8.map (λ p=>p.1.first)/\∀H',ek H' st (b8++[(x,v)])->(∀b o,H b=some o->(∀es,o≠.tdict es)->o≠.edict->H' b=some o)->(∀d tb,H st=some (.inst (.cls 5) d [("table",.ref tb)])->∀b,b≠tb->H' b=H b)->Q .none H'
def CC:cB:=λ us H Q X=>Lg us λ st k now=>∃b8,ek H st b8/\k∉b8.map (λ p=>p.1.first)/\Q .none H
def Dg:cB:=λ us H Q X=>q3 us λ st=>∃b8,ek H st b8/\∀c,H c=none->Q (.ref c) (H.set c (.list ((isort (λ p=>p.1.first) b8).map (·.2))))
def Ck:cB:=λ us H Q X=>Ig us λ it n=>∃b8:w6,H it=some (.list (b8.map (·.2)))/\kK H b8/\b8.length<=3/\(∀p∈b8,p.1.first<=p.1.last)/\(b8.Pairwise λ p q=>p.1.last<q.1.first)/\Q (.int (b8.countP λ p=>decide (p.1.last<n))) H
def EX:cB:=λ us H Q X=>q3 us λ s=>∃d,H s=some (.inst (.cls 6) d [])/\∀c,H c=none->Q .none ((H.set c (.list [])).set s (.inst (.cls 6) d [("items",.ref c)]))
def Av:cB:=λ us H Q X=>IN us λ st v now=>∃b8 x,gy H st b8/\b8.length<=2/\kh H v x/\x.first<=x.last/\(∀p∈b8,p.1.last<x.first\/x.last<p.1.first)/\∀d it,H st=some (.inst (.cls 6) d [("items",.ref it)])->Q .none (H.set it (.list ((isort (λ p=>p.1.first) (b8++[(x,v)])).map (·.2))))
def Cw:cB:=λ us H Q X=>q3 us λ st=>∃b8,gy H st b8/\∀c,H c=none->Q (.ref c) (H.set c (.list ((isort (λ p=>p.1.first) b8).map (·.2))))
noncomputable def setSpec (aW:List aw):V:=.tuple [.tuple [],.tuple [],.tuple (aW.map .str),.int 0,.int 0,.bool false]
def G4 (iv:Bool) (H H':MH) (st x:aI):Prop:=(∃d,H' st=some (if iv then .inst (.cls 6) d [("items",.ref x)] else .inst (.cls 5) d [("table",.ref x)]))/\H' x=some (if iv then .list [] else .edict)/\H st=none/\H x=none/\st≠x
def CN:cB:=λ us H Q X=>LC us λ sp=>∃aW,sp=setSpec aW/\∀st x H',G4 (decide (("interval":aw)∈aW)) H H' st x->MH.Sub H H'->Q (.ref st) H'
def Eu:cB:=λ us H Q X=>Lf us λ b name sp=>∃d aW,sp=setSpec aW/\H b=some (.inst (.cls 9) d [])/\∀st x H' as,G4 (decide (("interval":aw)∈aW)) H H' st x->MH.Sub (H.del b) H'->H' b=some (.inst (.cls 9) d as)->as.lookup ("store":aw)=some (.ref st)->as.length<=20->Q .none H'
def mV (ls:List dY):Prop:=ls.length<=3/\(∀x∈ls,x.first<=x.last)/\ls.Pairwise (λ x y=>x.last<y.first\/y.last<x.first)/\∀x∈ls,x.data≠[]
def Cm:cB:=λ us H Q X=>Le us λ name vs=>∃ls,vs=ls.map dY.v/\mV ls/\∀v H',(∀H'':MH,(∀x o,H x=none->H' x=some o->H'' x=some o)->lF H'' v (isort dY.first ls))->MH.Sub H H'->Q v H'
def CT:cB:=λ us H Q X=>Lw us λ l k=>∃zs:List Int,l=zs.map .int/\0<=k/\k<=1000/\zs.length<=1000/\Q (.int (digit zs k)) H
def Co:cB:=λ us H Q X=>q5 us λ n k=>0<=n/\0<=k/\k<=16/\Q (.bytes (octets n k)) H
structure Cr where
 sl:c7
 n:Nat
 eff:List (Int×V)
inductive iq (T:iX) (order:aw) (t:Int) (c:Cr):V->Cr->Prop
 |imm (g:Int) (b:List Int):io b->iq T order t c (.tuple [.str "immediate",.int g,.bytes b]) {c with sl:=c.sl.put g ⟨"raw",[.bytes b],"big",b.length⟩,n:=c.n+1}
 |met (g:Int) (name:aw) (size:Int) (o:aw):name.length<=100->iq T order t c (.tuple [.str "meta",.int g,.str name,.int size,.str o]) {c with sl:=c.sl.put g ⟨"field",[.str ("meta "++name)],o,size⟩,n:=c.n+1}
 |cmp (op:aw) (g:Int) (b:List Int) (nm o:aw) (size:Int):io b->c.sl g=some ⟨"field",[.str nm],o,size⟩->(nm="meta mark"\/nm="meta l4proto"/\op="=="/\g=0)->((if o="host" then order else o)="big"\/(if o="host" then order else o)="little")->
   iq T order t c (.tuple [.str "cmp",.str op,.int g,.bytes b]) {c with eff:=c.eff++[(t,matchV (fieldV nm) op (numIn b (if o="host" then order else o)))]}
 |mp (g:Int) (ts:List Slot) (name:aw) (wP:Int) (l2:List (Int×aw)):(∀(i:Nat) (t:Slot),ts[i]?=some t->c.sl (g+i)=some t/\t.tag≠"half")->ts.length<=10->l2.length<=2->(∀p∈l2,0<=p.1/\p.1<=1000)->
   iq T order t c (.tuple [.str "map",.int g,.tuple (ts.map λ Z=>.tuple [.int 4,.str "host"]),.str name,.int wP,layV l2]) {c with sl:=mapPut ⟨"map",[joinV (ts.map Slot.e),whereV T name "map"],"",0⟩ c.sl wP l2,n:=c.n+l2.length}
 |same (kind name:aw):(kind="expect"\/kind="flow")->iq T order t c (.tuple [.str kind,.str name]) {c with eff:=c.eff++[(t,.tuple [.str kind,.str name])]}
 |nat (kind nf:V) (r3 r4 size r6 r7:Int) (ts:List aw) (va:V) (p:Option (Int×Int)):ts.length<=100->
   (∀g t,(g=r3\/g=r4\/g=r6\/g=r7)->c.sl g=some t->i9 t)->(∀a b,c.sl r3=some a->a.tag="raw"->c.sl r4=some b->b.tag="raw")->(∀a b,c.sl r6=some a->a.tag="raw"->c.sl r7=some b->b.tag="raw")->
   natAddr c.sl r3 r4 size (decide ((ts.filter (·≠("netmap":aw))).length<ts.length)) (λ v=>v=some va)->pairOf c.sl r6 r7=some p->
   iq T order t c (.tuple [.str "nat",kind,nf,.int r3,.int r4,.int size,.int r6,.int r7,.tuple (ts.map .str)]) {c with eff:=c.eff++[(t,.tuple [.str "nat",kind,nf,va,pairV p,.tuple ((ts.filter (·≠("netmap":aw))).map .str)])]}
inductive iT (T:iX) (order:aw):Int->Cr->List V->Cr->Prop
 |nil (t c):iT T order t c [] c
 |cons {t c row c1 rows c2}:iq T order t c row c1->iT T order (t+1) c1 rows c2->iT T order t c (row::rows) c2
theorem iT.app {T order} {c c1:Cr} (x:iT T order t c l c1) (y:iT T order (t+l.length) c1 l' c2):iT T order t c (l++l') c2:=by
 induction x with
 |nil t c=>simpa using y
 |@cons t c row c1 rows c3 a b ih=>
  refine .cons a (ih ?_)
  have:t+1+(rows.length:Int)=t+((row::rows).length:Int):=by refine af aQ ?_;lia
  exact af this y
noncomputable def atomV:V->Bool
 |.none=>true
 |.bool _=>true
 |.int _=>true
 |.str s=>aU (.str s)
 |_=>false
noncomputable def datV:Nat->V->Bool
 |0,u=>atomV u
 |n+1,u=>match u with
  |.tuple us=>us.all (datV n)
  |u=>atomV u
noncomputable def PartOk (T:iX) (order:aw) (rows:List V) (jQ:List (Int×V)):Prop:=
 rows.length<=30/\jQ.length<=2/\(∀p∈jQ,datV 12 p.2=true)/\
 ∀t c,(∀i,i<0->c.sl i=none)->∃c',iT T order t c rows c'/\(∀i,i<0->c'.sl i=none)/\c'.eff=c.eff++jQ.map λ p=>(t+p.1,p.2)
noncomputable def lits (low aA m q:Int) (aX:Bool):List dY:=(bH (m %4).toNat).map λ (k:Nat)=>
 ⟨10*(((k:Int)+q) %3)+q/3 %5,10*(((k:Int)+q) %3)+q/3 %5+m/4/5^k %5,(low+257*k) %2^aA.toNat::(if aX then [(q+11*k) %65536] else []),if q/15 %2=0 then "" else ("c":aw)++dg k⟩
noncomputable def portsOf (p q:Int):Option (Int×Int):=if p %3=0 then none else some (p/3 %65536,if p %3=2 then p/3 %65536+q %(65536 -p/3 %65536) else p/3 %65536)
noncomputable def keyOf (names:List aw):V:=joinV (names.map λ x=>fieldV ("meta "++x))
noncomputable def addrV (a9 low aA m:Int) (ls:List dY) (names:List aw):V:=
 if a9=0 then .none else if a9=1 then .tuple [.str "span",.int low,.int low]
 else if a9=2 then .tuple [.str "span",.int low,.int (low+m %(2^aA.toNat -low))]
 else if a9=3 then .tuple [.str "net",.int (low/2^(aA -m %(aA+1)).toNat*2^(aA -m %(aA+1)).toNat),.int (m %(aA+1))]
 else if a9=4 then .tuple [.str "map",keyOf names,.tuple [.str "map",litsV (isort dY.first ls)]]
 else .tuple [.str "map",keyOf names,.tuple [.str "ref",.str (("n":aw)++dg (m %10))]]
noncomputable def GroupsAt (H:MH):List V->List (List V)->Prop
 |[],[]=>True
 |v::vs,g::gs=>(∃a,v=.ref a/\H a=some (.list g))/\GroupsAt H vs gs
 |_,_=>False
noncomputable def immV (gU n dq:Int):V:=.tuple [.str "immediate",.int gU,.bytes (octets n dq)]
noncomputable def pairGs (gU aY lo hi dq:Int) (twice:Bool):List (List V):=if lo=hi/\twice=false then [[immV gU lo dq]] else [[immV gU lo dq],[immV aY hi dq]]
noncomputable def pairRegs (gU aY lo hi:Int) (twice:Bool):List V:=if lo=hi/\twice=false then [.int gU,.int gU] else [.int gU,.int aY]
def CM:cB:=λ us H Q X=>K8 us λ low aA m q aX=>0<=low/\low<2^200/\(aA=32\/aA=128)/\0<=m/\m<2^200/\0<=q/\q<2^200/\∀c,H c=none->Q (.ref c) (H.set c (.list ((lits low aA m q aX).map dY.v)))
def Dc:cB:=λ us H Q X=>q5 us λ p q=>0<=p/\0<=q/\Q (pairV (portsOf p q)) H
def C2:cB:=λ us H Q X=>LB us λ a9 low aA m a b=>∃(ls:List dY) (names:List aw),H a=some (.list (ls.map dY.v))/\H b=some (.list (names.map .str))/\(names=[("mark":aw)]\/names=[("mark":aw),("iif":aw)])/\mV ls/\0<=a9/\a9<=5/\(aA=32\/aA=128)/\
   0<=low/\low<2^aA.toNat/\0<=m/\m<2^200/\Q (addrV a9 low aA m ls names) H
def CQ:cB:=λ us H Q X=>La us λ gU aY lo hi dq twice=>0<=lo/\0<=hi/\0<=dq/\dq<=16/\
   ∀p b vs H',H' p=some (.list vs)->GroupsAt H' vs (pairGs gU aY lo hi dq twice)->H' b=some (.list (pairRegs gU aY lo hi twice))->MH.Sub H H'->H p=none->H b=none->Q (.tuple [.ref p,.ref b]) H'
noncomputable def nums (base zs:List Int) (k:Int) (dq:Nat):List Int:=(bH dq).map λ j=>base.getD j 0+digit zs (7*k+j)
def C3:cB:=λ us H Q X=>Lx us λ k bs l sets=>∃(base zs:List Int) (T:iX),bs=base.map .int/\base.length=7/\(∀x∈base,0<=x/\x<2^127)/\l=zs.map .int/\zs.length<=1000/\0<=k/\k<=5/\cE H sets T/\T.length<=k/\
   (∀n ls,(n,ls)∈T->∃i:Int,0<=i/\i<k/\n=("s":aw)++dg i)/\(base.getD 0 0+digit zs (7*k)) %8<6/\
   ∀a b rows jQ T' H',H' a=some (.list rows)->H' b=some (.list (jQ.map stV))->cE H' sets T'->MH.Sub (H.del sets) H'->H a=none->H b=none->(T'=T\/∃ls,T'=T++[(("s":aw)++dg k,ls)])->
    (∀T2,(∀n ls,T'.lookup n=some ls->T2.lookup n=some ls)->(∀i:Int,0<=i->i<=9->T2.lookup (("n":aw)++dg i)=none)->∀order:aw,(order="big"\/order="little")->PartOk T2 order rows jQ)->(∀D,H D≠none->D≠sets->cE (H.del D) sets T->cE (H'.del D) sets T')->Q (.tuple [.ref a,.ref b]) H'
def B6:cB:=λ us H Q X=>Ld us λ bs l k order=>∃(base zs:List Int),bs=base.map .int/\5<=base.length/\(∀x∈base,0<=x/\x<2^127)/\l=zs.map .int/\zs.length<=1000/\0<=k/\k<=5/\(order="big"\/order="little")/\
   ∀a b rows jQ H',H' a=some (.list rows)->H' b=some (.list (jQ.map stV))->MH.Sub H H'->H a=none->H b=none->(∀T,PartOk T order rows jQ)->Q (.tuple [.ref a,.ref b]) H'
def BQ:cB:=λ us H Q X=>Lb us λ l order=>∃zs:List Int,l=zs.map .int/\zs.length<=1000/\(order="big"\/order="little")/\Q (.bool true) H
def BE:cB:=λ us H Q X=>Lj us λ l t k bs=>∃(base zs:List Int),bs=base.map .int/\base.length=5/\(∀x∈base,0<=x/\x<100)/\l=zs.map .int/\zs.length<=1000/\0<=t/\t<=900/\0<=k/\k<=10/\Q (.bool true) H
def AP:cB:=λ us H Q X=>LA us λ l=>∃zs:List Int,l=zs.map .int/\zs.length<=1000/\Q (.bool true) H
noncomputable def flds:List (Nat×List aw):=[(3,["fields","family","sets","order","cells","at","slots","known","pending","dropped","statements"]),(4,["box","data","until","timeout","comment","cells"]),(5,["table"]),(6,["items"]),(9,["name","spec","bits","handle","is_anonymous","is_bound","store"])]
noncomputable def fldOf (k:Nat):List aw:=(flds.lookup k).getD []
noncomputable def fld0:Fn->aw->Bool
 |.cls n,x=>(fldOf n).contains x
 |_,_=>false
noncomputable def mths:List (Nat×aw×Nat):=[(5,"put",45),(5,"find",47),(5,"elements",49),(6,"put",55),(6,"elements",59)]
noncomputable def meth0:Fn->aw->Option Fn
 |.cls c,x=>(mths.find? λ m=>m.1==c&&m.2.1==x).map λ m=>.user m.2.2
 |_,_=>none
noncomputable def inits:List (Nat×Nat):=[(3,18),(4,42),(5,44),(6,54),(9,77)]
noncomputable def init0:Fn->Option Fn
 |.cls n=>(inits.lookup n).map .user
 |_=>none
noncomputable def lvls:List (Nat×Nat):=[(1,2),(17,2),(13,2),(14,2),(15,3),(16,2),(18,2),(19,2),(20,2),(21,2),(22,3),(23,4),(24,2),(25,3),(26,4),(27,2),(28,4),(29,3),(30,4),(31,2),(32,2),(33,2),(34,5),(35,5),(36,5),(37,4),(38,5),(39,2),(41,2),(42,2),(43,2),(44,2),(45,4),(47,3),(49,2),(52,2),(54,2),(55,3),(59,2),(76,3),(77,4),(79,5),(80,2),(81,2),(82,2),(83,2),(84,2),(85,3),(86,6),(87,3),(88,7),(89,6),(90,8)]
noncomputable def lvl0:Fn->Nat
 |.user n=>(lvls.lookup n).getD 50
 |.cls _=>50
 |_=>1
def gx:cB:=λ Z Z Z Z=>False
noncomputable def users0:List (Nat×cB):=[(42,EP),(1,KG),(17,Da),(13,B1),(14,Dj),(15,E0),(16,Ec),(18,E9),(19,Ei),(20,Et),(21,E8),(22,C1),(23,BR),(24,CZ),(25,Dk),(26,D8),(27,CE),(28,E6),(29,B5),(30,ES),(31,A0),(32,Aq),(33,D6),(34,zN),(35,AK),(36,z7),(37,Dz),(38,AX),(39,DA),(41,vi),(43,EE),(44,EJ),(45,BZ),(47,CC),(49,Dg),(52,Ck),(54,EX),(55,Av),(59,Cw),(76,CN),(77,Eu),(79,Cm),(80,CT),(81,Co),(82,CM),(83,Dc),(84,C2),(85,CQ),(86,C3),(87,B6),(88,BQ),(89,BE),(90,AP)]
noncomputable def bis0:List (String×cB):=[("len",CF),("sorted",qS),("isinstance",qA),("all",CP),("max",CW),("list.append",rS),("list.insert",rR),("dict.get",CD),("dict.update",qv)]
noncomputable def tys0:List (String×cB):=[("range",ui),("bytes",uh),("str",Ct),("tuple",uH),("list",xB)]
noncomputable def spec0:Fn->cB
 |.user n=>(users0.lookup n).getD gx
 |.bi n=>(bis0.lookup n).getD gx
 |.ty n=>(tys0.lookup n).getD gx
 |.cls _=>gx
noncomputable def tb0:ow:=⟨fld0,meth0,init0,lvl0,spec0⟩
theorem qm {α:Sort _} {p q:α->Prop} (h:∀x,p x->q x):(∀x,p x)->∀x,q x:=λ f x=>h x (f x)
def bM (sp:cB):Prop:=∀us H (Q Q':V->MH->Prop) (X X':aw->MH->Prop),(∀u H,Q u H->Q' u H)->(∀w H,X w H->X' w H)->sp us H Q X->sp us H Q' X'
theorem lT:bM gx:=λ Z Z Z Z Z Z Z Z h=>h.elim
theorem oo {sl r3 r4 size isNet} (k:∀v,out v->out' v):natAddr sl r3 r4 size isNet out->natAddr sl r3 r4 size isNet out':=by
 unfold natAddr
 split
 ·exact k _
 ·split
  ·exact k _
  ·split
   ·exact k _
   ·exact id
  ·split
   ·exact cg λ j=>bV (bV (bV (bV (bV (bV (bV (k _)))))))
   ·exact k _
set_option hygiene false in
local macro_rules |`(tactic|walk_at "MONO")=>`(tactic|repeat' first|exact k _ _|exact kx _ _|exact id|refine cg λ Z=>?_|refine nK id ?_|refine zg ?_ ?_|refine qm λ Z=>?_|split)
theorem xC:bM CF:=λ us H Q Q' X X' k kx=>by
 refine MF (λ Z=>?_)
 walk_at "MONO"
theorem sM:bM qS:=λ us H Q Q' X X' k kx=>by
 refine qW (λ Z=>?_)
 walk_at "MONO"
theorem sC:bM qA:=λ us H Q Q' X X' k kx=>by
 refine Mc (λ Z Z=>?_)
 walk_at "MONO"
theorem xG:bM CP:=λ us H Q Q' X X' k kx=>by
 refine qW (λ Z=>?_)
 walk_at "MONO"
theorem xL:bM CW:=λ us H Q Q' X X' k kx=>by
 refine GP (λ Z Z=>?_)
 walk_at "MONO"
theorem sO:bM rS:=λ us H Q Q' X X' k kx=>by
 refine HC (λ Z Z=>?_)
 walk_at "MONO"
theorem sL:bM rR:=λ us H Q Q' X X' k kx=>by
 refine Jo (λ Z Z Z=>?_)
 walk_at "MONO"
theorem xf:bM CD:=λ us H Q Q' X X' k kx=>by
 refine MZ (λ Z Z=>?_)
 walk_at "MONO"
theorem sI:bM qv:=λ us H Q Q' X X' k kx=>by
 refine Np (λ Z Z=>?_)
 walk_at "MONO"
theorem uI:bM ui:=λ us H Q Q' X X' k kx=>by
 refine GZ (λ Z=>?_)
 walk_at "MONO"
theorem uv:bM uh:=λ us H Q Q' X X' k kx=>by
 refine qW (λ Z=>?_)
 walk_at "MONO"
theorem xE:bM Ct:=λ us H Q Q' X X' k kx=>by
 refine GZ (λ Z=>?_)
 walk_at "MONO"
theorem uC:bM uH:=λ us H Q Q' X X' k kx=>by
 refine qW (λ Z=>?_)
 walk_at "MONO"
theorem wC:bM xB:=λ us H Q Q' X X' k kx=>by
 refine qW (λ Z=>?_)
 walk_at "MONO"
theorem C4:bM KG:=λ us H Q Q' X X' k kx=>by
 refine Kf (λ Z Z Z=>?_)
 walk_at "MONO"
theorem zA:bM Da:=λ us H Q Q' X X' k kx=>by
 refine GZ (λ Z=>?_)
 walk_at "MONO"
theorem zR:bM B1:=λ us H Q Q' X X' k kx=>by
 refine Gh (λ Z=>?_)
 walk_at "MONO"
theorem zP:bM Dj:=λ us H Q Q' X X' k kx=>by
 refine Gh (λ Z=>?_)
 walk_at "MONO"
theorem zQ:bM E0:=λ us H Q Q' X X' k kx=>by
 refine IM (λ Z Z=>?_)
 walk_at "MONO"
theorem zy:bM Ec:=λ us H Q Q' X X' k kx=>by
 refine Kq (λ Z Z=>?_)
 walk_at "MONO"
theorem AO:bM E9:=λ us H Q Q' X X' k kx=>by
 refine JU (λ Z Z Z Z=>?_)
 walk_at "MONO"
theorem zI:bM Ei:=λ us H Q Q' X X' k kx=>by
 refine Jo (λ Z Z Z=>?_)
 walk_at "MONO"
theorem Aw:bM Et:=λ us H Q Q' X X' k kx=>by
 refine Ji (λ Z Z Z Z=>?_)
 walk_at "MONO"
theorem zB:bM E8:=λ us H Q Q' X X' k kx=>by
 refine Kr (λ Z Z Z Z=>?_)
 walk_at "MONO"
theorem zS:bM C1:=λ us H Q Q' X X' k kx=>by
 refine qW (λ Z=>?_)
 walk_at "MONO"
theorem Af:bM BR:=λ us H Q Q' X X' k kx=>by
 refine HC (λ Z Z=>?_)
 walk_at "MONO"
theorem A5:bM CZ:=λ us H Q Q' X X' k kx=>by
 refine Cj (λ Z Z=>?_)
 walk_at "MONO"
theorem Bd:bM Dk:=λ us H Q Q' X X' k kx=>by
 refine Cj (λ Z Z=>?_)
 walk_at "MONO"
theorem Ai:bM D8:=λ us H Q Q' X X' k kx=>by
 refine Kx (λ Z Z Z=>?_)
 walk_at "MONO"
theorem At:bM CE:=λ us H Q Q' X X' k kx=>by
 refine qW (λ Z=>?_)
 walk_at "MONO"
theorem AH:bM E6:=λ us H Q Q' X X' k kx=>by
 refine Ki (λ Z Z Z=>?_)
 walk_at "MONO"
theorem zX:bM B5:=λ us H Q Q' X X' k kx=>by
 refine IP (λ Z Z=>?_)
 walk_at "MONO"
theorem Ae:bM ES:=λ us H Q Q' X X' k kx=>by
 refine JA (λ Z Z Z=>?_)
 walk_at "MONO"
theorem AJ:bM A0:=λ us H Q Q' X X' k kx=>by
 refine Jn (λ Z Z Z Z Z Z=>?_)
 walk_at "MONO"
theorem Bb:bM Aq:=λ us H Q Q' X X' k kx=>by
 refine KC (λ Z Z Z Z=>?_)
 walk_at "MONO"
theorem AC:bM D6:=λ us H Q Q' X X' k kx=>by
 refine Ka (λ Z Z Z Z Z=>?_)
 walk_at "MONO"
theorem Ax:bM zN:=λ us H Q Q' X X' k kx=>by
 refine Jr (λ Z Z Z Z Z=>?_)
 walk_at "MONO"
theorem A4:bM AK:=λ us H Q Q' X X' k kx=>by
 refine Kw (λ Z Z Z Z Z Z Z=>?_)
 walk_at "MONO"
theorem zF:bM z7:=λ us H Q Q' X X' k kx=>by
 refine HC (λ Z Z=>?_)
 walk_at "MONO"
theorem AM:bM Dz:=λ us H Q Q' X X' k kx=>by
 refine IV (λ Z Z Z=>?_)
 walk_at "MONO"
theorem zx:bM AX:=by
 intro us H Q Q' X X' k kx
 refine II (λ Z Z Z Z Z Z Z Z Z Z=>?_)
 ·refine cg λ Z=>cg λ Z=>cg λ Z=>bV (bV (bV (bV (bV (bV (bV (oo λ v=>?_)))))))
  cases v with
  |none=>exact kx _ _
  |some v=>
   dsimp only
   split
   ·exact kx _ _
   ·exact qm λ Z=>qm λ Z=>qm λ Z=>k _ _
theorem zD:bM DA:=λ us H Q Q' X X' k kx=>by
 refine Kg ?_
 walk_at "MONO"
theorem A6:bM vi:=λ us H Q Q' X X' k kx=>by
 refine KE (λ Z Z=>?_)
 walk_at "MONO"
theorem Am:bM EP:=λ us H Q Q' X X' k kx=>by
 refine KY (λ Z Z Z=>?_)
 walk_at "MONO"
theorem zU:bM EE:=λ us H Q Q' X X' k kx=>by
 refine KR (λ Z Z=>?_)
 walk_at "MONO"
theorem Bf:bM EJ:=λ us H Q Q' X X' k kx=>by
 refine qW (λ Z=>?_)
 walk_at "MONO"
theorem zH:bM BZ:=λ us H Q Q' X X' k kx=>by
 refine FF (λ Z Z Z=>?_)
 walk_at "MONO"
theorem A8:bM CC:=λ us H Q Q' X X' k kx=>by
 refine Jk (λ Z Z Z=>?_)
 walk_at "MONO"
theorem AG:bM Dg:=λ us H Q Q' X X' k kx=>by
 refine qW (λ Z=>?_)
 walk_at "MONO"
theorem zW:bM Ck:=λ us H Q Q' X X' k kx=>by
 refine Cj (λ Z Z=>?_)
 walk_at "MONO"
theorem AR:bM EX:=λ us H Q Q' X X' k kx=>by
 refine qW (λ Z=>?_)
 walk_at "MONO"
theorem zO:bM Av:=λ us H Q Q' X X' k kx=>by
 refine FF (λ Z Z Z=>?_)
 walk_at "MONO"
theorem zo:bM Cw:=λ us H Q Q' X X' k kx=>by
 refine qW (λ Z=>?_)
 walk_at "MONO"
theorem Az:bM CN:=λ us H Q Q' X X' k kx=>by
 refine I8 (λ Z=>?_)
 walk_at "MONO"
theorem AS:bM Eu:=λ us H Q Q' X X' k kx=>by
 refine Ja (λ Z Z Z=>?_)
 walk_at "MONO"
theorem Ag:bM Cm:=λ us H Q Q' X X' k kx=>by
 refine KD (λ Z Z=>?_)
 walk_at "MONO"
theorem AN:bM CT:=λ us H Q Q' X X' k kx=>by
 refine JP (λ Z Z=>?_)
 walk_at "MONO"
theorem Ar:bM Co:=λ us H Q Q' X X' k kx=>by
 refine GP (λ Z Z=>?_)
 walk_at "MONO"
theorem A9:bM CM:=λ us H Q Q' X X' k kx=>by
 refine JJ (λ Z Z Z Z Z=>?_)
 walk_at "MONO"
theorem zL:bM Dc:=λ us H Q Q' X X' k kx=>by
 refine GP (λ Z Z=>?_)
 walk_at "MONO"
theorem Ao:bM C2:=λ us H Q Q' X X' k kx=>by
 refine Jq (λ Z Z Z Z Z Z=>?_)
 walk_at "MONO"
theorem A3:bM CQ:=λ us H Q Q' X X' k kx=>by
 refine Kt (λ Z Z Z Z Z Z=>?_)
 walk_at "MONO"
theorem AT:bM C3:=λ us H Q Q' X X' k kx=>by
 refine Jx (λ Z Z Z Z=>?_)
 walk_at "MONO"
theorem A7:bM B6:=λ us H Q Q' X X' k kx=>by
 refine Ks (λ Z Z Z Z=>?_)
 walk_at "MONO"
theorem z6:bM BQ:=λ us H Q Q' X X' k kx=>by
 refine Kz (λ Z Z=>?_)
 walk_at "MONO"
theorem Ap:bM BE:=λ us H Q Q' X X' k kx=>by
 refine IE (λ Z Z Z Z=>?_)
 walk_at "MONO"
theorem An:bM AP:=λ us H Q Q' X X' k kx=>by
 refine KP (λ Z=>?_)
 walk_at "MONO"
theorem ln {α:Type} [BEq α] [LawfulBEq α] {P:cB->Prop} {x:α}:∀{l:List (α×cB)},(∀p∈l,P p.2)->P gx->P ((l.lookup x).getD gx)
 |[],_,h=>h
 |p::l,h,h0=>by
  refine af aG ?_
  split
  ·exact h p (.head _)
  ·exact ln (λ q hq=>h q (.tail _ hq)) h0
theorem ai {α:Type _} {P:α->Prop} {a:α} {l:List α} (h:P a) (k:∀p∈l,P p):∀p∈a::l,P p:=List.forall_mem_cons.2 ⟨h,k⟩
theorem lU:yw tb0:=by
 have hu:∀p∈users0,bM p.2:=by
  exact ai Am<|ai C4<|ai zA<|ai zR<|ai zP<|ai zQ<|ai zy<|ai AO<|ai zI<|ai Aw<|ai zB<|ai zS<|ai Af<|ai A5<|ai Bd<|ai Ai<|ai At<|ai AH<|ai zX<|ai Ae<|ai AJ<|ai Bb<|ai AC<|ai Ax<|ai A4<|ai zF<|ai AM<|ai zx<|ai zD<|ai A6<|ai zU<|ai Bf<|ai zH<|ai A8<|ai AG<|ai zW<|ai AR<|ai zO<|ai zo<|ai Az<|ai AS<|ai Ag<|ai AN<|ai Ar<|ai A9<|ai zL<|ai Ao<|ai A3<|ai AT<|ai A7<|ai z6<|ai Ap<|ai An<|λ Z h=>by cases h
 have hb:∀p∈bis0,bM p.2:=by
  exact ai xC<|ai sM<|ai sC<|ai xG<|ai xL<|ai sO<|ai sL<|ai xf<|ai sI<|λ Z h=>by cases h
 have ht:∀p∈tys0,bM p.2:=by
  exact ai uI<|ai uv<|ai xE<|ai uC<|ai wC<|λ Z h=>by cases h
 refine ⟨λ f us H Q Q' X X' k kx h=>?_⟩
 cases f with
 |user n=>exact ln (P:=bM) hu lT us H Q Q' X X' k kx h
 |bi n=>exact ln (P:=bM) hb lT us H Q Q' X X' k kx h
 |ty n=>exact ln (P:=bM) ht lT us H Q Q' X X' k kx h
 |cls n=>exact h.elim
theorem N5:tb0.spec (.user 1)=KG:=rfl
theorem Nx:tb0.spec (.user 17)=Da:=rfl
theorem Jm:tb0.spec (.user 13)=B1:=rfl
theorem M0:tb0.spec (.user 14)=Dj:=rfl
theorem Kh:tb0.spec (.user 22)=C1:=rfl
theorem JF:tb0.spec (.user 23)=BR:=rfl
theorem JZ:tb0.spec (.user 24)=CZ:=rfl
theorem E3:tb0.spec (.user 25)=Dk:=rfl
theorem LS:tb0.spec (.user 27)=CE:=rfl
theorem Kn:tb0.spec (.user 29)=B5:=rfl
theorem MQ:tb0.spec (.user 31)=A0:=rfl
theorem Jy:tb0.spec (.user 32)=Aq:=rfl
theorem MM:tb0.spec (.user 34)=zN:=rfl
theorem M9:tb0.spec (.user 35)=AK:=rfl
theorem MV:tb0.spec (.user 36)=z7:=rfl
theorem Hp:tb0.spec (.user 37)=Dz:=rfl
theorem Jf:tb0.spec (.user 38)=AX:=rfl
theorem L8:tb0.spec (.user 39)=DA:=rfl
theorem ML:tb0.spec (.user 41)=vi:=rfl
theorem Nm:tb0.spec (.user 45)=BZ:=rfl
theorem NA:tb0.spec (.user 47)=CC:=rfl
theorem LR:tb0.spec (.user 49)=Dg:=rfl
theorem ME:tb0.spec (.user 52)=Ck:=rfl
theorem Mr:tb0.spec (.user 55)=Av:=rfl
theorem Mj:tb0.spec (.user 59)=Cw:=rfl
theorem Nl:tb0.spec (.user 76)=CN:=rfl
theorem Mb:tb0.spec (.user 79)=Cm:=rfl
theorem EB:tb0.spec (.user 80)=CT:=rfl
theorem Dv:tb0.spec (.user 81)=Co:=rfl
theorem L9:tb0.spec (.user 82)=CM:=rfl
theorem LK:tb0.spec (.user 83)=Dc:=rfl
theorem MC:tb0.spec (.user 84)=C2:=rfl
theorem Kj:tb0.spec (.user 85)=CQ:=rfl
theorem Mi:tb0.spec (.user 86)=C3:=rfl
theorem MX:tb0.spec (.user 87)=B6:=rfl
theorem LL:tb0.spec (.user 88)=BQ:=rfl
theorem MA:tb0.spec (.user 89)=BE:=rfl
end
section
open PySem PySem.W PyProof.Rows PySem.Calls
inductive xO (fa:List aI) (e:aI) (oe:xQ) (vs:Array av) (h h':cO):Prop
 |mk (T) (oT) (ts) (h1:h.objs.size<=T) (h2:h'.get? T=some oT) (h3:oT.data=.fields ts) (h4:oT.cls=.type "traceback") (h5:ts[3]?=some .none) (h6:(∃o',h'.get? e=some o'/\o'.cls=oe.cls/\o'.dict=oe.dict/\o'.slots=oe.slots/\o'.data=.fields (vs.setIfInBounds 1 (.ref T)))) (h7:(∀b o,b≠e->b∉fa->h.get? b=some o->h'.get? b=some o)) (h8:∀b o,b∈fa->h.get? b=some o->∃sl,h'.get? b=some {o with slots:=sl}):xO fa e oe vs h h'
section
variable {E:av->ax->Prop}
theorem mx (o:xQ) (f:Array av->Array av):(cz f o).cls=o.cls/\(cz f o).dict=o.dict/\(cz f o).slots=o.slots:=by
 obtain ⟨c,d,dt,sl⟩:=o
 cases dt<;>exact ⟨rfl,rfl,rfl⟩
theorem pQ
  (hfr:A.frames=some (au::outer)) (hl:s.heap.FunFrames base (au::outer)) (hf:au.frame=some L) (he:s.heap.get? e=some oe) (hd:oe.data=.fields vs) (hsz:1<vs.size)
  (h:∀h',xO ((au::outer).filterMap (·.frame)) e oe vs s.heap h'->Q () {s with heap:=h'}):
  aE M A (do let a<-frameOf au;let pl<-entryPlaceOf L hadNext;let b<-EntryCells.newEntry head a .none (iL L) .none pl;setField (.ref e) 1 b) (λ Z s'=>aE M A (setFlight (.ref e) none) Q E s') E s:=by
 have hene:e∉(au::outer).filterMap (·.frame):=λ hm=>by
  refine bx (hl.mem hm) λ Z t1_=>(aL t1_ λ o ho hnf=>?_)
  rw [he] at ho;(have ho:=ac ho;subst ho);exact hnf vs hd
 refine ae (wpAny_frameOf_fun hfr hl hf λ h1 hs1=>ae (wpAny_entryPlaceOf λ pl hpl=>?_))
 refine ae (cY ?_ (hpl.sizeOk5 _ _ _ _ _))
 have he1:h1.get? e=some oe:=(hs1.2.1 e hene).trans he
 generalize hts:([head,aS L,.none,iL L,.none]++(if pl.isEmpty then b9 6 bR else pl)).toArray=ts
 have hsz3:3<ts.size:=by refine af hts.symm ?_;simp only [DG,az,aQ,fK];lia
 have he2:=ak (h:=h1) {cls:=.type "traceback",dict:=none,data:=.fields ts} he1
 have nT:h1.objs.size≠e:=xY (bz he1)
 refine gC he2 hd hsz ?_
 have hd3:=dK hd (·.setIfInBounds 1 (aS h1.objs.size))
 have he3:=co (cz (·.setIfInBounds 1 (aS h1.objs.size))) he2 (fQ hd3)
 have hT3:=(cf (h1.push {cls:=.type "traceback",dict:=none,data:=.fields ts}) (cz (·.setIfInBounds 1 (aS h1.objs.size))) (fT nT)).trans (bu h1 rfl)
 refine ae (gz he3 hd3 (x:=.ref h1.objs.size) (by simp [hsz]) ?_)
 refine af (if_pos (show (aS h1.objs.size !=bR)=true from by simp)) ?_
 refine gC hT3 rfl hsz3 (h _ ?_)
 have keep:∀b o,b≠e->h1.get? b=some o->(((h1.push {cls:=.type "traceback",dict:=none,data:=.fields ts}).update e (cz (·.setIfInBounds 1 (aS h1.objs.size)))).update h1.objs.size
   (cz (·.setIfInBounds 3 ((none:Option aI).elim bR λ f=>iL f)))).get? b=some o:=λ b o hbe hb=>by
  refine af (cf _ _ (xY (bz hb))) (af (cf _ _ (fT hbe)) ?_)
  exact ak _ hb
 have hT4:=co (cz (·.setIfInBounds 3 ((none:Option aI).elim bR λ f=>iL f))) hT3 (fQ (dK rfl _))
 refine ⟨h1.objs.size,_,_,gm hs1.1.symm,hT4,dK rfl _,(mx _ _).1,by simp [hsz3],⟨_,(cf _ _ nT).trans he3,(mx _ _).1,(mx _ _).2.1,(mx _ _).2.2,hd3⟩,λ b o hb hn e1=>?_,λ b o hb e1=>?_⟩
 ·exact keep b o hb ((hs1.2.1 b hn).trans e1)
 ·exact bw (hs1.2.2 b o e1) λ sl e2=>⟨sl,keep b _ (λ z=>hene (z▸hb)) e2⟩
end
section
variable {cx:Cx}
theorem yK {h:cO} (hl:∀au∈l,au.scope.kind≠.module/\∃L,au.frame=some L/\(∃m,h.Ns L m)/\ci H L/\cx.base.objs.size<=L):h.FunFrames cx.base l:=by
 induction l with
 |nil=>trivial
 |cons au r ih=>
  refine bx (hl au (.head _)) λ h1 t1_=>(fy t1_ λ L h2 w2_ h4 h5=>?_)
  refine bw w2_ λ m h3=>?_
  exact Ix h1 h2 h3 (dO h5) (ih λ e he=>hl e (.tail _ he))
theorem En {h:cO} {l:List i4} (hl:∀au∈l,au.scope.kind≠.module/\∃L,au.frame=some L/\(∃m,h.Ns L m)/\ci H L/\cx.base.objs.size<=L) (hb:b∈l.filterMap (·.frame)):(∃m,h.Ns b m)/\ci H b/\cx.base.objs.size<=b:=by
 refine aL (kb.mp hb) λ au he e=>(bx (hl au he) λ Z t1_=>(fy t1_ λ L h2 h3 h4 h5=>?_))
 rw [h2] at e;(have e:=ac e;subst e)
 exact ⟨h3,h4,h5⟩
end
namespace mA
def S_ (cx:Cx) (fa:List aI) (H:MH) (s:ax) (h' e T0 oe vs):=∀(I:cb cx H s.heap) (hfa:∀b∈fa,(∃m,s.heap.Ns b m)/\ci H b/\cx.base.objs.size<=b) (hb:cx.base.objs.size<=e) (hf:ci H e) (he:s.heap.get? e=some oe) (hd:oe.data=.fields vs) (hc:∃C,oe.cls=.ref C) (hk:∀b o,b≠e->b∉fa->b≠T0->s.heap.get? b=some o->h'.get? b=some o) (hT:T0=e\/(cx.base.objs.size<=T0/\ci H T0/\∃oT ts oT',s.heap.get? T0=some oT/\oT.data=.fields ts/\oT.cls=.type "traceback"/\h'.get? T0=some oT')) (he':∃o',h'.get? e=some o') (hfs:∀b o,b∈fa->s.heap.get? b=some o->∃sl,h'.get? b=some {o with slots:=sl}),cb cx H h'/\bf fe H s.heap H h'
def U_:=UV λ cx fa H=>UV λ s h' e=>UU λ T0=>UU λ oe=>S_ cx fa H s h' e T0 oe
def t_:=dr (by have:=pH;have:=tJ;infer_instance) U_
def cx:=t_.1
def fa:=t_.2.1
def H:=t_.2.2.1
def s:=t_.2.2.2.1
def h':=t_.2.2.2.2.1
def e:=t_.2.2.2.2.2.1
def s1_:=t_.2.2.2.2.2.2
def T0:=s1_.1
def oe:=s1_.2.1
def vs:=s1_.2.2
theorem P_:S_ cx fa H s h' e T0 oe vs:=by
 intro I hfa hb hf he hd hc hk hT he' hfs
 refine bw hc λ C hc_=>?_
 revert hc_;intro hc
 have nf:∀b o,s.heap.get? b=some o->tK o->b≠e/\b∉fa/\b≠T0:=λ b o eb i=>by
  have ne:b≠e:=λ z=>by
   subst z;rw [he] at eb;(have eb:=ac eb;subst eb)
   rcases i with ⟨xs,n,q,q2⟩|⟨ws,q,q2⟩
   ·rw [hd] at q;exact gf q rfl
   ·rw [hc] at q2;cases q2
  refine ⟨ne,λ hb=>?_,λ z=>?_⟩
  ·refine bx (hfa b hb) λ w1_ Z=>(bw w1_ λ m n=>?_)
   exact (ke n eb).1 i
  ·rcases hT with z2|⟨_,_,oT,ts,oT',g1,g2,g3,g4⟩
   ·exact ne (z.trans z2)
   ·subst z;rw [g1] at eb;(have eb:=ac eb;subst eb)
    rcases i with ⟨xs,n,q,q2⟩|⟨ws,q,q2⟩
    ·rw [g2] at q;exact gf q rfl
    ·rw [g3] at q2;exact absurd (show cP "traceback"=cP "range" from q2) (by decide)
 have ki:bQ s.heap h':=λ b o eb i=>let ⟨a,b',c⟩:=nf b o eb i;hk b o a b' c eb
 have bT:T0=e\/cx.base.objs.size<=T0:=hT.imp id λ z=>z.1
 have lowe:∀b,b<cx.base.objs.size->b≠e/\b∉fa/\b≠T0:=λ b hlt=>⟨λ z=>by subst z;lia,λ hm=>by have:=(hfa b hm).2.2;lia,λ z=>by
  have hlt:b<cx.base.objs.size:=hlt
  rcases bT with q|q
  ·rw [z,q] at hlt;exact eY _ (cG hlt hb)
  ·rw [z] at hlt;exact eY _ (cG hlt q)⟩
 have held:∀a,¬ci H a->a≠e/\a∉fa/\a≠T0:=λ a n=>⟨λ z=>n (z▸hf),λ hm=>n (hfa a hm).2.1,λ z=>by
  rcases hT with q|⟨_,q,_⟩
  ·exact n (by (refine af z (af q ?_));exact hf)
  ·exact n (z▸q)⟩
 have keepNs:∀a m,s.heap.Ns a m->h'.Ns a m:=λ a m n=>by
  refine iV n λ o es ep e1 e2 e3=>?_
  have na:a≠e:=λ z=>by subst z;rw [he] at e1;(have e1:=ac e1;subst e1);rw [hd] at e2;exact gf e2 rfl
  have nT:a≠T0:=λ z=>by
   rcases hT with q|⟨_,_,oT,ts,oT',g1,g2,g3,g4⟩
   ·exact na (z.trans q)
   ·subst z;rw [g1] at e1;(have e1:=ac e1;subst e1);rw [g2] at e2;exact gf e2 rfl
  by_cases hm:a∈fa
  ·exact bw (hfs a o hm e1) λ sl e4=>⟨_,es,ep,e4,e2,e3⟩
  ·exact ⟨o,es,ep,hk a o na hm nT e1,e2,e3⟩
 refine ⟨I.moved ki (λ a o ea=>?_) (λ a n=>?_),ki,λ a m n Z Z=>keepNs a m n,λ a v n Z=>?_,λ a m n Z=>⟨m,keepNs a m n⟩,λ Z p q=>absurd p q,λ a o ea=>?_,λ a o ea kp Z Z=>?_⟩
 ·exact gK (lowe a (bz ea)) λ x y z=>(hk a o x y z (I.base a o ea))
 ·refine gK (held a n) λ x y z=>(bw (I.at n) λ o ea=>?_)
  refine af ea ?_;exact hk a o x y z ea
 ·refine aL n λ o e1 e2=>?_
  clear n
  have na:a≠e:=λ z=>by subst z;rw [he] at e1;(have e1:=ac e1;subst e1);rw [hd] at e2;exact gf e2 rfl
  have nT:a≠T0:=λ z=>by
   rcases hT with q|⟨_,_,oT,ts,oT',g1,g2,g3,g4⟩
   ·exact na (z.trans q)
   ·subst z;rw [g1] at e1;(have e1:=ac e1;subst e1);rw [g2] at e2;exact gf e2 rfl
  have nm:a∉fa:=λ hm=>by
   refine bx (hfa a hm) λ w1_ Z=>(iC w1_ λ m o2 es t1_=>(cJ t1_ λ ep q1 q2 Z=>?_))
   clear w1_ t1_
   rw [e1] at q1;(have q1:=ac q1;subst q1);rw [e2] at q2;exact gf q2 rfl
  exact ⟨o,hk a o na nm nT e1,e2⟩
 ·by_cases x:a=e
  ·subst x;exact he'
  ·by_cases y:a∈fa
   ·obtain ⟨sl,e4⟩:=hfs a o y ea;exact ⟨_,e4⟩
   ·by_cases z:a=T0
    ·rcases hT with q|⟨_,_,oT,ts,oT',g1,g2,g3,g4⟩
     ·exact absurd (z.trans q) x
     ·subst z;exact ⟨_,g4⟩
    ·exact ⟨o,hk a o x y z ea⟩
 ·have na:a≠e:=λ z=>by
   subst z;rw [he] at ea;(have ea:=ac ea;subst ea)
   rcases kp with ⟨xs,n,q⟩|⟨ws,q,q2⟩
   ·rw [hd] at q;exact gf q rfl
   ·rw [hc] at q2;rcases q2 with q2|q2|q2|q2<;>cases q2
  have nT:a≠T0:=λ z=>by
   rcases hT with q|⟨_,_,oT,ts,oT',g1,g2,g3,g4⟩
   ·exact na (z.trans q)
   ·subst z;rw [g1] at ea;(have ea:=ac ea;subst ea)
    rcases kp with ⟨xs,n,q⟩|⟨ws,q,q2⟩
    ·rw [g2] at q;exact gf q rfl
    ·rw [g3] at q2
     rcases q2 with q2|q2|q2|q2<;>exact absurd q2 (by decide)
  have nm:a∉fa:=λ hm=>by
   refine bx (hfa a hm) λ w1_ Z=>(iC w1_ λ m o2 es t1_=>(cJ t1_ λ ep q1 q2 Z=>?_))
   clear w1_ t1_
   rw [ea] at q1;(have q1:=ac q1;subst q1)
   exact kp.no_dict.1 _ _ q2
  exact hk a o na nm nT ea
theorem A_:∀p,U_ p:=bC P_
end mA
section
variable {cx:Cx}
theorem mA {cx fa H s h' e T0 oe vs}:mA.S_ cx fa H s h' e T0 oe vs:=mA.A_ (cx,fa,H,s,h',e,T0,oe,vs)
end
section
variable {cx:Cx}
theorem tN {h0:cO} {H:MH} {s:ax} {why:aw} {Q:Unit->ax->Prop} {fa:List aI} {a C d T0:aI} {vs:Array av} {es:List fV} {n:Nat} {t:Tok} {sl:Array (Option av)} {od:xQ} {h1 h':cO} (I:cb cx H s.heap) (hfa:∀b∈fa,(∃m,s.heap.Ns b m)/\ci H b/\cx.base.objs.size<=b)
  (hC:cx.addr (.cls 1)=.ref C) (ha:s.heap.get? a=some {cls:=.ref C,dict:=some d,data:=.fields vs,slots:=sl}) (hb:cx.base.objs.size<=a) (hf:ci H a) (hd:s.heap.get? d=some od) (hdd:od.data=.dict es.toArray n) (hbd:cx.base.objs.size<=d) (hfd:ci H d) (h0d:h0.get? d=none) (hw:Fe "why" es=some (some (.str why t))) (h1v:1<vs.size)
  (hT:T0=a\/(cx.base.objs.size<=T0/\ci H T0/\∃oT ts,s.heap.get? T0=some oT/\oT.data=.fields ts/\oT.cls=.type "traceback"))
  (h1s:h1.objs.size=s.heap.objs.size) (h1k:∀b,b≠T0->h1.get? b=s.heap.get? b) (h1t:T0≠a->∃oT,h1.get? T0=some oT/\∃ts,oT.data=.fields ts) (h1a:h1.get? a=some {cls:=.ref C,dict:=some d,data:=.fields vs,slots:=sl})
  (hL:xO fa a {cls:=.ref C,dict:=some d,data:=.fields vs,slots:=sl} vs h1 h')
  (k:∀s',ip cx h0 H s'.heap (.ref a) why->cb cx H s'.heap->bf fe H s.heap H s'.heap->dS s s'->Q () s'):Q () {s with heap:=h'}:=by
 obtain ⟨T,oT,ts,g1,g2,g3,g4,g5,⟨o',k1,k2,k3,k4,k5⟩,g6,g7⟩:=hL
 have hda:d≠a:=λ z=>by subst z;rw [ha] at hd;(have hd:=ac hd;subst hd);exact gf hdd rfl
 have hT0a:T0≠a->∀es' n',∀o,s.heap.get? T0=some o->o.data≠.dict es' n':=λ ne es' n' o eo q=>by
  rcases hT with z|⟨_,_,o2,ts2,q1,q2,q3⟩
  ·exact ne z
  ·rw [q1] at eo;(have eo:=ac eo;subst eo);rw [q2] at q;exact gf q rfl
 have hdT:d≠T0:=λ z=>by
  by_cases ne:T0=a
  ·exact hda (z.trans ne)
  ·exact hT0a ne _ _ od (z▸hd) hdd
 have faT:T0∉fa:=λ hm=>by
  refine bx (hfa T0 hm) λ w1_ Z=>(iC w1_ λ m o2 es' t1_=>(cJ t1_ λ ep q1 q2 Z=>?_))
  by_cases ne:T0=a
  ·rw [ne,ha] at q1;(have q1:=ac q1;subst q1);exact gf q2 rfl
  ·exact hT0a ne _ _ o2 q1 q2
 have hTa:T≠a:=λ z=>by
  have:=bz ha
  rw [h1s,z] at g1;exact eY _ (cG this g1)
 have hTs:s.heap.get? T=none:=dO (by exact af h1s.symm g1)
 obtain ⟨I',S'⟩:=mA (h':=h') (T0:=T0) I hfa hb hf ha rfl ⟨C,rfl⟩ (λ b o x y z eb=>g6 b o x y ((h1k b z).trans eb)) (by
  by_cases ne:T0=a
  ·exact .inl ne
  ·refine aL (h1t ne) λ oT2 w1 t1_=>(bw t1_ λ ts2 w2=>?_)
   rcases hT with z|⟨p1,p2,o2,ts3,q1,q2,q3⟩
   ·exact .inl z
   ·exact .inr ⟨p1,p2,o2,ts3,oT2,q1,q2,q3,g6 T0 oT2 ne faT w1⟩) ⟨o',k1⟩ (λ b o hm eb=>g7 b o hm ((h1k b (λ z=>faT (z▸hm))).trans eb))
 have hd':∃od',h'.get? d=some od'/\od'.data=.dict es.toArray n:=by
  by_cases hm:d∈fa
  ·exact bw (g7 d od hm ((h1k d hdT).trans hd)) λ sl2 e2=>⟨_,e2,hdd⟩
  ·exact ⟨od,g6 d od hda hm ((h1k d hdT).trans hd),hdd⟩
 refine aL hd' λ od' e1 e2=>?_
 have ho':o'={cls:=.ref C,dict:=some d,data:=.fields (vs.setIfInBounds 1 (.ref T)),slots:=sl}:=by
  obtain ⟨c,dd,dt,s2⟩:=o'
  simp only at k2 k3 k4 k5
  exact af k2 (af k3 (af k4 (af k5 rfl)))
 rw [ho'] at k1
 refine k {s with heap:=h'} ⟨a,C,d,_,es,n,t,sl,od',rfl,hC,k1,hb,hf,e1,e2,hbd,hfd,h0d,hw,.inr ⟨T,oT,ts,by simp [h1v],?_,hTa,g2,g3,g5,g4,I.free hTs⟩⟩ I' S' ⟨rfl,rfl,rfl⟩
 rw [h1s] at g1
 exact ao (fE (fF hb (bz ha))) g1
theorem yR (hfr:A.frames=some (au::outer)) (st:iF cx A H s.heap) (x:ip cx h0 H s.heap e why) (I:cb cx H s.heap)
  (k:∀s',ip cx h0 H s'.heap e why->cb cx H s'.heap->bf fe H s.heap H s'.heap->dS s s'->Q () s'):aE (ay cx.prog cx.w) A (noteFrame e au) (λ Z s'=>aE (ay cx.prog cx.w) A (setFlight e none) Q Ex s') Ex s:=by
 refine aL st λ l hl1 hl2=>?_
 rw [hfr] at hl1;(have hl1:=ac hl1;subst hl1)
 obtain ⟨a,C,d,vs,es,n,t,sl,od,rfl,hC,ha,hb,hf,hd,hdd,hbd,hfd,h0d,hw,htb⟩:=x
 refine bx (hl2 au (.head _)) λ Z t1_=>(aL t1_ λ L hL Z=>?_)
 have hfa:∀b∈(au::outer).filterMap (·.frame),(∃m,s.heap.Ns b m)/\ci H b/\cx.base.objs.size<=b:=λ b hb=>En hl2 hb
 unfold noteFrame
 simp only [hL]
 rcases htb with h1|⟨T,oT,ts,h1,hbT,nT,hT,hdT,h3,hcT,hfT⟩
 ·have hsz:1<vs.size:=(dk.mp h1).1
  refine ae (gz ha rfl h1 ?_)
  refine af (if_neg (by decide)) ?_
  exact pQ hfr (yK hl2) hL ha rfl hsz λ h' hLeft=>(tN (T0:=a) (h1:=s.heap) I hfa hC ha hb hf hd hdd hbd hfd h0d hw hsz (.inl rfl) rfl (λ Z Z=>rfl) (λ z=>absurd rfl z) ha hLeft k)
 ·have hsz:1<vs.size:=(dk.mp h1).1
  refine ae (gz ha rfl h1 ?_)
  refine af (if_pos (show (aS T !=bR)=true from by simp)) ?_
  refine ae (gz hT hdT h3 ?_)
  refine af (if_neg (show ¬((bR==iL L)=true) from by simp [iL])) ?_
  refine ae (gC hT hdT (dk.mp h3).1 ?_)
  have aY:∀b,b≠T->(s.heap.update T (cz (·.setIfInBounds 3 bR))).get? b=s.heap.get? b:=λ b hb=>cf _ _ (fT hb)
  have hself:=co (cz (·.setIfInBounds 3 bR)) hT (fQ (dK hdT _))
  have ff:(s.heap.update T (cz (·.setIfInBounds 3 bR))).FunFrames cx.base (au::outer):=(yK hl2).of_keeps λ b o hb2 hnf=>⟨o,(aY b (λ q=>by rw [q,hT] at hb2;(have hb2:=ac hb2;subst hb2);exact hnf ts hdT)).trans hb2,rfl⟩
  have ha1:=(aY a (fT nT)).trans ha
  exact pQ (s:={s with heap:=s.heap.update T (cz (·.setIfInBounds 3 bR))}) hfr ff hL ha1 rfl hsz λ h' hLeft=>(tN (s:=s) (T0:=T) (h1:=s.heap.update T (cz (·.setIfInBounds 3 bR))) I hfa hC ha hb hf hd hdd hbd hfd h0d hw hsz (.inr ⟨hbT,hfT,oT,ts,hT,hdT,hcT⟩) (Heap.size_after_update ..) aY (λ Z=>⟨_,hself,_,dK hdT _⟩) ha1 hLeft k)
theorem BK:yZ cx:=λ A au outer h0 H s e why Q Ex hfr st x I k=>ae (yR hfr st x I k)
end
end
section
open PySem PySem.W PyProof.Rows PySem.Calls Sem
structure jx (h:cO) (C:aI) (bm:List av):Prop where
 obj:∃nm q N bs sn sub ab col dd k0 k1 k2 k3 k5,h.get? C=some (excClassObj nm q C N bs bm true sn sub ab col dd k0 k1 k2 k3 k5 "Exception.__new__")
 isE:bm.contains (.type "Exception")=true
 isB:bm.contains (.type "BaseException")=true
 noA:bm.contains (.type "AttributeError")=false
 noN:bm.contains (.type "NameError")=false
theorem jx.keeps (x:jx h C bm) (k:∀b o,h.get? b=some o->h'.get? b=some o):jx h' C bm:=by
 obtain ⟨⟨nm,q,N,bs,sn,sub,ab,col,dd,k0,k1,k2,k3,k5,e⟩,a,b,c,d⟩:=x
 exact ⟨⟨nm,q,N,bs,sn,sub,ab,col,dd,k0,k1,k2,k3,k5,k _ _ e⟩,a,b,c,d⟩
abbrev gp (C t:aI):xQ:={cls:=.ref C,data:=.fields #[.ref t,.none,.none,.none,.bool false,.none]}
section
variable {os:iA}
theorem y8 {E:av->ax->Prop} {sub:List av}
  (hC:h.get? C=some (excClassObj nm q C N bs bm hdct sn sub ab col dd k0 k1 k2 k3 k5 newId)) (e:(aS C::bm).contains base=b) (k:Q b ⟨h,g,d,t,os⟩):aE M A (uS (.ref C) base) Q E ⟨h,g,d,t,os⟩:=by
 subst e
 exact eB hC k
end
namespace om
def S_ (prog w A R h g d t os C bm rest):=∀(x:jx h C bm) (hrest:rest.length<=bG) (hq:R (.ok (.ret (.ref (h.objs.size+1)))) ⟨(h.push {cls:=.type "tuple",data:=.seq rest.toArray}).push (gp C h.objs.size),g,d,t,os⟩),eT (ay prog w) A (.call (.builtin "Exception.__new__") ⟨.ref C::rest,[]⟩) R ⟨h,g,d,t,os⟩
def U_:=UV λ prog w A=>UV λ R h g=>UV λ d t os=>UU λ C=>UU λ bm=>S_ prog w A R h g d t os C bm
def t_:=dr (by have:=qe;have:=Js;have:=pH;have:=vt;infer_instance) U_
def prog:=t_.1
def w:=t_.2.1
def A:=t_.2.2.1
def R:=t_.2.2.2.1
def h:=t_.2.2.2.2.1
def g:=t_.2.2.2.2.2.1
def s1_:=t_.2.2.2.2.2.2
def d:=s1_.1
def t:=s1_.2.1
def os:=s1_.2.2.1
def C:=s1_.2.2.2.1
def bm:=s1_.2.2.2.2.1
def rest:=s1_.2.2.2.2.2
theorem P_:S_ prog w A R h g d t os C bm rest:=by
 intro x hrest hq
 have F:=sw
 obtain ⟨⟨nm,q,N,bs,sn,sub,ab,col,dd,k0,k1,k2,k3,k5,hC⟩,isE,isB,noA,noN⟩:=x
 have hcE:(aS C::bm).contains (.type "Exception")=true:=by (exact af eH (af isE (af (iB _) rfl)))
 have hcA:(aS C::bm).contains (.type "AttributeError")=false:=by (refine af eH (af noA ?_));rfl
 have hcN:(aS C::bm).contains (.type "NameError")=false:=by (refine af eH (af noN ?_));rfl
 have hstar:=F.noStar
 refine codeAny_call_builtin_code (BB _ F.quiet) ?_
 simp only [checkBuiltinCall,F.newKind,F.newSplit,F.newRow]
 repeat (first|refine gb hC ?_|refine y8 hC hcE ?_|refine wpAny_staticBase_exc hC ?_|refine wpAny_madeBy_exc hC ?_|simp only [bne_self_eq_false,ch,if_false]|wp_step)
 have hends:=F.ends
 refine codeAny_builtinAt F.entry ?_
 refine _root_.PySem.wpAt_bind ?_
 refine _root_.PySem.wpAt_bind (_root_.PySem.wpAt_stack λ p below=>_root_.PySem.wpAt_of_wpAny ?_)
 wp_walk
 refine _root_.PySem.wpAt_of_wpAny ?_
 refine af F.owner ?_
 repeat (first|with_reducible refine wpAny_madeHere_exc F.canon hC ?_|with_reducible refine gb hC ?_|with_reducible refine y8 hC hcE ?_|with_reducible refine y8 hC hcA ?_|with_reducible refine y8 hC hcN ?_|wp_step)
 refine af (eF _ _) ?_
 exact hq
theorem A_:∀p,U_ p:=bC P_
end om
section
variable {prog:cR}
theorem om {prog w A R h g d t os C bm rest}:om.S_ prog w A R h g d t os C bm rest:=om.A_ (prog,w,A,R,h,g,d,t,os,C,bm,rest)
end
section
variable {prog:cR}
end
namespace lV
def S_ (prog w A R h g d t os C bm rest):=∀{fI:aI} {K:gk} (X:K.In h) (x:jx h C bm) (hc:specialIn K (.ref C) "__call__"=some (some (.builtin "type.__call__"))) (ht:instIn K (.ref C) (.type "type")=some true) (hi:cS K (.ref C) "__init__"=some (some (.ref fI))) (hf:pt K (.ref fI)=some (.type "function")) (hrest:rest.length<=bG) (hq:eT (ay prog w) (A.under (.builtin "type.__call__" ⟨.ref C::rest,[]⟩)) (.call (.ref fI) ⟨.ref (h.objs.size+1)::rest,[]⟩) (InitBack (h.objs.size+1) R) ⟨(h.push {cls:=.type "tuple",data:=.seq rest.toArray}).push (gp C h.objs.size),g,d,t,os⟩),eT (ay prog w) A (.call (.ref C) ⟨rest,[]⟩) R ⟨h,g,d,t,os⟩
def U_:=UV λ prog w A=>UV λ R h g=>UV λ d t os=>UU λ C=>UU λ bm=>S_ prog w A R h g d t os C bm
def t_:=dr (by have:=qe;have:=Js;have:=pH;have:=vt;infer_instance) U_
def prog:=t_.1
def w:=t_.2.1
def A:=t_.2.2.1
def R:=t_.2.2.2.1
def h:=t_.2.2.2.2.1
def g:=t_.2.2.2.2.2.1
def s1_:=t_.2.2.2.2.2.2
def d:=s1_.1
def t:=s1_.2.1
def os:=s1_.2.2.1
def C:=s1_.2.2.2.1
def bm:=s1_.2.2.2.2.1
def rest:=s1_.2.2.2.2.2
theorem P_:S_ prog w A R h g d t os C bm rest:=by
 intro fI K X x hc ht hi hf hrest hq
 have x':=x
 obtain ⟨⟨nm,q,N,bs,sn,sub,ab,col,dd,k0,k1,k2,k3,k5,hC⟩,-,-,-,-⟩:=x
 have call:=looks_specialIn (M:=ay prog w) X hc
 have typ:=looks_instIn (M:=ay prog w) X ht
 have made:lC (ay prog w) h (Bind.madeBy (.ref C)) (some "Exception.__new__"):=λ A Q E s k q=>wpAny_madeBy_exc (k _ _ hC) q
 have self:lC (ay prog w) h (uS (.ref C) (.ref C)) true:=λ A Q E s k q=>eB (k _ _ hC) (by exact af (show (aS C::bm).contains (.ref C)=true from by simp) q)
 refine codeAny_of_tree ?_
 refine nd_load hC ?_
 show aE _ _ (callAny.viaDunder (.ref C) _) _ _ _
 refine ae (call.at ?_)
 dsimp only
 refine af (tc_bind _) ?_
 refine ae (ah (ae (ah ?_)))
 refine ah (a:=Fin.again (.call (.builtin "type.__call__") ⟨.ref C::rest,[]⟩)) (aj rfl ?_)
 refine codeAny_call_builtin_at (BB _ (by decide+kernel)) entry_typeCall (HT tc_kind tc_split typ (tc_args _ _ _) ?_)
 have hm:lC (ay prog w) h (mroOf (.ref C)) (.ref C::bm):=((pB (part:=none) hC).andThen .now).andThen .now
 repeat (first|simp only [ch,if_false]|with_reducible refine iK ?_|lk)
 refine om x' hrest ?_
 have k:∀b o,h.get? b=some o->((h.push {cls:=.type "tuple",data:=.seq rest.toArray}).push (gp C h.objs.size)).get? b=some o:=λ b o e=>ak _ (ak _ e)
 have hx:((h.push {cls:=.type "tuple",data:=.seq rest.toArray}).push (gp C h.objs.size)).get? (h.objs.size+1)=some (gp C h.objs.size):=by heap_get
 have t1:lC (ay prog w) ((h.push {cls:=.type "tuple",data:=.seq rest.toArray}).push (gp C h.objs.size)) (typeOf (.ref (h.objs.size+1))) (.ref C):=(pB hx).andThen .now
 have s1:=self.keeps k
 have i1:=(nF (M:=ay prog w) X hi).keeps k
 have b1:=(bind_fn (M:=ay prog w) X (.ref (h.objs.size+1)) hf).keeps k
 repeat (first|with_reducible refine iK ?_|lk)
 refine sX hq λ r s' z=>?_
 rcases r with e|(v|_|_|_)<;>first|exact z|exact z.elim|skip
 refine bx z λ r1_ z_=>?_
 clear z
 revert z_;intro z
 subst r1_
 exact ah (ah z)
theorem A_:∀p,U_ p:=bC P_
end lV
section
variable {prog:cR}
theorem lV {prog w A R h g d t os C bm rest}:lV.S_ prog w A R h g d t os C bm rest:=lV.A_ (prog,w,A,R,h,g,d,t,os,C,bm,rest)
end
end
section
open PySem PySem.W PyProof.Rows PySem.Calls Builtin Builtin.ObjectAttr
abbrev jV:List av:=[.type "Exception",.type "BaseException",.type "object"]
theorem tI (self:av):∀rs:List aI,refuseLoop self "__setattr__" (rs.map aS++jV)=pure ()
 |[]=>PySem.F.store_Exception.passes self
 |r::rs=>by (refine af bk (af List.cons_append ?_);rw [refuseLoop_ref]);exact tI self rs
inductive tW (h:cO) (e C:aI) (vs:Array av) (m:aw->Option av):Prop
 |mk (dd) (sl) (h1:h.get? e=some {cls:=.ref C,dict:=dd,data:=.fields vs,slots:=sl}) (h2:((dd=none/\∀n,m n=none)\/∃d,dd=some d/\d≠e/\h.Ns1 d m)):tW h e C vs m
section
variable {prog:cR}
end
namespace mD
def S_ (prog:cR) (w:f8) (A:dz) (E:av->ax->Prop) (h:cO) (g:Array GenState) (dr:Drawn) (t:Nat) (os:iA) (C e:aI) (rs:List aI) (vs m name v Q):=∀{K:gk} {ns:List aw} (X:K.In h) (x:jx h C (rs.map aS++jV)) (hs:cS K (.ref C) "__setattr__"=some (some (.builtin "object.__setattr__"))) (hn:cS K (.ref C) name=some none) (I:tW h e C vs m) (hw:Within m ns) (hz:ns.length<=100) (hq:∀h' tk,tW h' e C vs (λ y=>if y=name then some v else m y)->(∀b o,b≠e->(∀o₀ d,h.get? e=some o₀->o₀.dict=some d->b≠d)->h.get? b=some o->h'.get? b=some o)->
   (∀o₀ d,h.get? e=some o₀->o₀.dict=some d->∃o,h'.get? e=some o/\o.dict=some d)->((∃o₀,h.get? e=some o₀/\o₀.dict=none)->∃o,h'.get? e=some o/\o.dict=some h.objs.size)->Q () ⟨h',g,dr,tk,os⟩),aE (ay prog w) A (Iq (.ref e) name v) Q E ⟨h,g,dr,t,os⟩
def U_:=UV λ prog w A=>UV λ E h g=>UV λ dr t os=>UV λ C e rs=>UV λ vs m name=>UU λ v=>S_ prog w A E h g dr t os C e rs vs m name v
def t_:=dr (by have:=qe;have:=Js;have:=pH;have:=vt;infer_instance) U_
def prog:=t_.1
def w:=t_.2.1
def A:=t_.2.2.1
def E:=t_.2.2.2.1
def h:=t_.2.2.2.2.1
def g:=t_.2.2.2.2.2.1
def s1_:=t_.2.2.2.2.2.2
def dr:=s1_.1
def t:=s1_.2.1
def os:=s1_.2.2.1
def C:=s1_.2.2.2.1
def e:=s1_.2.2.2.2.1
def rs:=s1_.2.2.2.2.2.1
def s2_:=s1_.2.2.2.2.2.2
def vs:=s2_.1
def m:=s2_.2.1
def name:=s2_.2.2.1
def v:=s2_.2.2.2.1
def Q:=s2_.2.2.2.2
theorem P_:S_ prog w A E h g dr t os C e rs vs m name v Q:=by
 intro K ns X x hs hn I hw hz hq
 have SF:=PySem.F.store_object
 obtain ⟨⟨nm,q,N,bs,sn,sub,ab,col,dd,k0,k1,k2,k3,k5,hC⟩,-,-,-,-⟩:=x
 obtain ⟨de,sl,he,hd⟩:=I
 have t1:lC (ay prog w) h (typeOf (.ref e)) (.ref C):=(pB he).andThen .now
 have sub1:lC (ay prog w) h (uS (.ref C) (.type "object")) true:=λ A Q E s k q=>eB (k _ _ hC) (by exact af (show (aS C::(rs.map aS++jV)).contains (.type "object")=true from by simp) q)
 have is1:lC (ay prog w) h (x4 (.ref e) (.type "object")) true:=t1.andThen sub1
 have hm:lC (ay prog w) h (mroOf (.ref C)) (.ref C::(rs.map aS++jV)):=((pB (part:=none) hC).andThen .now).andThen .now
 refine ae (wpAny_mkText (ae (ae (ae (t1.here ((nF X hs).here (bA (ae ?_))))))))
 refine af (SF.slot.bind (.ref e)) ?_
 refine ah (ae (iK ?_))
 refine pD SF.slot.plain SF.entry (@HT (ay prog w) _ _ ⟨h,g,dr,t+1,os⟩ "object.__setattr__" "object" "__setattr__" (.ref e) [.str name t,v] [] _ SF.kind SF.split is1 (SF.args (.ref e) (.str name t) v) ?_)
 show aE _ _ (jb.«object.__setattr__» ⟨[.ref e,.str name t,v],[]⟩) _ _ _
 (rewrite [osa_eq];refine af (refuse_eq _ _) ?_)
 refine ae (ae (t1.here (ae (hm.here ?_))))
 refine af (show refuseLoop (.ref e) "__setattr__" (.ref C::(rs.map aS++jV))=pure () from tI (.ref e) (C::rs)) ?_
 have L3:lC (ay prog w) h (storeTaker? none) none:=.now
 refine ah (ae (t1.here (ae ((nF X hn).here (ae (L3.here ?_))))))
 refine ae (ah (ae (ae (wpAny_loadPart he (ae ?_)))))
 refine ae (wpAny_load hC (ah ?_))
 rcases hd with ⟨rfl,hmA⟩|⟨d,rfl,hne,hns⟩
 ·have hes:e≠h.objs.size:=dN (bz he)
  have he1:=ak {cls:=.type "dict",data:=.dict #[]} he
  refine ae (wpAny_alloc' (ae (wpAny_update' he1 (ah ?_))))
  have he2:((h.push {cls:=.type "dict",data:=.dict #[]}).update e λ o=>{o with dict:=some h.objs.size}).get? e=some {cls:=.ref C,dict:=some h.objs.size,data:=.fields vs,slots:=sl}:=co _ he1 rfl
  have hgd:((h.push {cls:=.type "dict",data:=.dict #[]}).update e λ o=>{o with dict:=some h.objs.size}).get? h.objs.size=some {cls:=.type "dict",data:=.dict #[]}:=
   (cf _ _ hes).trans (Heap.get?_push_at rfl rfl)
  have hnd:((h.push {cls:=.type "dict",data:=.dict #[]}).update e λ o=>{o with dict:=some h.objs.size}).Ns h.objs.size (λ Z=>none):=⟨_,#[],_,hgd,rfl,λ e he=>absurd he (by simp),λ Z=>rfl⟩
  show aE _ _ (storeInDict h.objs.size (.str name t) name v) _ _ _
  refine ae (ah (ae (wpAny_nsSet1 (Heap.Ns1.of_empty hnd) λ h' hn' hs'=>?_)))
  refine iV (hn'.count (HU name v Within.nil)) λ oD esD epD hoD hdD hcD=>(ae (wpAny_lookBehind hoD (by refine af hdD ?_;exact pastItsLine_dict (ao hcD (by (refine af aQ (af fK (af d8 ?_)));exact mr _))) ?_))
  have he':=(hs'.2 e hes).trans he2
  refine ah (ah (ah (hq h' _ ⟨_,_,he',.inr ⟨h.objs.size,rfl,hes.symm,?_⟩⟩ (λ b o hb Z eb=>?_) (λ o₀ d' e0 e1=>by rw [he] at e0;(have e0:=ac e0;subst e0);exact bF e1) λ Z=>⟨_,he',rfl⟩)))
  ·refine uf hn' λ o' es ep e1 e2 e3 eu e4=>?_
   exact ⟨o',es,ep,e1,e2,e3,eu,λ y=>by refine af (e4 y) ?_;by_cases hy:y=name<;>simp [hy,hmA]⟩
  ·exact (hs'.2 b (dN (bz eb))).trans ((cf _ _ (fT hb)).trans (ak _ eb))
 ·refine ah ?_
  show aE _ _ (storeInDict d (.str name t) name v) _ _ _
  refine ae (ah (ae (wpAny_nsSet1 hns λ h' hn' hs'=>?_)))
  refine iV (hn'.count (HU name v hw)) λ oD esD epD hoD hdD hcD=>(ae (wpAny_lookBehind hoD (by refine af hdD ?_;exact pastItsLine_dict (ao hcD (by (refine af aQ (af d8 ?_));exact fF ‹_› (by decide)))) ?_))
  have he':=(hs'.2 e hne.symm).trans he
  refine ah (ah (ah (hq h' _ ⟨_,_,he',.inr ⟨d,rfl,hne,hn'⟩⟩ (λ b o Z hbd hb=>(hs'.2 b (hbd _ d he rfl)).trans hb) (λ o₀ d' e0 e1=>⟨_,he',by rw [he] at e0;(have e0:=ac e0;subst e0);exact e1⟩) λ z=>?_)))
  refine aL z λ o₀ e0 e1=>?_
  rw [he] at e0;(have e0:=ac e0;subst e0);exact b7 e1
theorem A_:∀p,U_ p:=bC P_
end mD
section
variable {prog:cR}
theorem mD {prog w A E h g dr t os C e rs vs m name v Q}:mD.S_ prog w A E h g dr t os C e rs vs m name v Q:=mD.A_ (prog,w,A,E,h,g,dr,t,os,C,e,rs,vs,m,name,v,Q)
end
end
section
open PySem PySem.W PyProof.Rows PySem.Calls
section
variable {prog:cR}
end
namespace gh
def S_ (prog w A E h g dr t os C e bm m a Q):=∀{vs:Array av} (x:jx h C bm) (I:tW h e C vs m) {T0:aI} (h0:vs[0]?=some (.ref T0)) (hq:∀h' T,tW h' e C (vs.setIfInBounds 0 (.ref T)) m->(∀b o,b≠e->h.get? b=some o->h'.get? b=some o)->(∀o,h.get? e=some o->∃o',h'.get? e=some o'/\o'.dict=o.dict)->Q .none ⟨h',g,dr,t,os⟩),aE (ay prog w) A (call (.builtin "Exception.__init__") [.ref e,a]) Q E ⟨h,g,dr,t,os⟩
def U_:=UV λ prog w A=>UV λ E h g=>UV λ dr t os=>UV λ C e bm=>UU λ m=>UU λ a=>S_ prog w A E h g dr t os C e bm m a
def t_:=dr (by have:=qe;have:=Js;have:=pH;have:=vt;infer_instance) U_
def prog:=t_.1
def w:=t_.2.1
def A:=t_.2.2.1
def E:=t_.2.2.2.1
def h:=t_.2.2.2.2.1
def g:=t_.2.2.2.2.2.1
def s1_:=t_.2.2.2.2.2.2
def dr:=s1_.1
def t:=s1_.2.1
def os:=s1_.2.2.1
def C:=s1_.2.2.2.1
def e:=s1_.2.2.2.2.1
def bm:=s1_.2.2.2.2.2.1
def s2_:=s1_.2.2.2.2.2.2
def m:=s2_.1
def a:=s2_.2.1
def Q:=s2_.2.2
theorem P_:S_ prog w A E h g dr t os C e bm m a Q:=by
 intro vs x I T0 h0 hq
 have F:=sw
 have hz:0<vs.size:=(dk.mp h0).1
 obtain ⟨⟨nm,q,N,bs,sn,sub,ab,col,dd,k0,k1,k2,k3,k5,hC⟩,isE,-,-,-⟩:=x
 obtain ⟨de,sl,he,hd⟩:=I
 have t1:lC (ay prog w) h (typeOf (.ref e)) (.ref C):=(pB he).andThen .now
 have sub1:lC (ay prog w) h (uS (.ref C) (.type "Exception")) true:=λ A Q E s k q=>eB (k _ _ hC) (by rw [show (aS C::bm).contains (.type "Exception")=true from by (exact af eH (af isE (af (iB _) rfl)))];exact q)
 have is1:lC (ay prog w) h (x4 (.ref e) (.type "Exception")) true:=t1.andThen sub1
 refine iK (pD F.init.plain F.initEntry ?_)
 ·have hcE:(aS C::bm).contains (.type "Exception")=true:=by (exact af eH (af isE (af (iB _) rfl)))
  have hshort:=F.noStar
  simp only [checkBuiltinCall,F.initKind,F.initSplit,F.initRow]
  repeat (first|with_reducible refine gb he ?_|with_reducible refine gb hC ?_|(with_reducible refine eB hC ?_;refine af hcE ?_)|wp_step)
  refine af h0 ?_
  refine ah (ae ?_)
  have he1:=ak {cls:=.type "tuple",data:=.seq #[a]} he
  refine gC he1 rfl hz (wpAny_letGo (ah ?_))
  have he2:=co (cz (·.setIfInBounds 0 (aS h.objs.size))) he1 rfl
  refine hq _ h.objs.size ⟨_,_,he2,?_⟩ (λ b o hb eb=>(cf _ _ (fT hb)).trans (ak _ eb)) λ o e0=>⟨_,he2,by rw [he] at e0;(have e0:=ac e0;subst e0);rfl⟩
  rcases hd with ⟨rfl,hm⟩|⟨d,rfl,hne,hns⟩
  ·exact .inl ⟨rfl,hm⟩
  ·exact .inr ⟨d,rfl,hne,hns.at λ o eo=>(cf _ _ (fT hne)).trans (ak _ eo)⟩
theorem A_:∀p,U_ p:=bC P_
end gh
section
variable {prog:cR}
theorem gh {prog w A E h g dr t os C e bm m a Q}:gh.S_ prog w A E h g dr t os C e bm m a Q:=gh.A_ (prog,w,A,E,h,g,dr,t,os,C,e,bm,m,a,Q)
end
noncomputable def initS:List S:=[.expr (.meth (.fn (aa "Exception") (.ty "Exception")) (aa "__init__") [.loc 0,.loc 1]),.setattr (.loc 0) (aa "why") (.loc 1),.setattr (.loc 0) (aa "at") (.neg (.int 1))]
abbrev eg:List aw:=[aa "self",aa "why"]
structure uK (cx:Cx) (gl:GL) (C:aI) (rs:List aI):Prop where
 addr:cx.addr (.cls 1)=.ref C
 cls:jx cx.base C (rs.map aS++jV)
 call:specialIn cx.K (.ref C) "__call__"=some (some (.builtin "type.__call__"))
 typ:instIn cx.K (.ref C) (.type "type")=some true
 ini:∃fI,cx.addr (.user 3)=.ref fI/\cS cx.K (.ref C) "__init__"=some (some (.ref fI))/\pt cx.K (.ref fI)=some (.type "function")
 sa:cS cx.K (.ref C) "__setattr__"=some (some (.builtin "object.__setattr__"))
 why:cS cx.K (.ref C) "why"=some none
 at_:cS cx.K (.ref C) "at"=some none
 ga:cS cx.K (.ref C) "__getattribute__"=some (some (.builtin "BaseException.__getattribute__"))
 gt:cS cx.K (.ref C) "__getattr__"=some none
 hd:uO cx.K C=true
 ty:cx.addr (.ty "Exception")=.type "Exception"
 fn:z0 cx gl (.user 3) eg eg [] initS
section
variable {cx:Cx}
theorem nZ (h:aE (ay cx.prog cx.w) A (eval v au) (λ w s1=>aE (ay cx.prog cx.w) A (eval y au) (λ o s2=>aE (ay cx.prog cx.w) A (Iq o n w) (λ Z s3=>Q .next s3) Ex s2) Ex s1) Ex s):
  aE (ay cx.prog cx.w) A (exec (.Assign [.Attribute y n p] v pos) au) Q Ex s:=
 rN qP rfl rfl (aq h (λ Z Z h1=>ae (bA (aq h1 (λ Z Z h2=>ae (cq (ae (bA (aq h2 (λ Z Z h3=>Bo h3) λ Z Z e=>e))))) λ Z Z e=>e))) λ Z Z e=>e)
end
section
variable {cx:Cx}
theorem sF (F:Fr h₀ L s.heap m) (h:Q (.builtin "Exception.__init__",[]) {s with toks:=s.toks+1}):
  aE (ay cx.prog cx.w) A (getMethod (.type "Exception") "__init__" pl) Q Ex s:=
 method_type (K:=[]) F (λ Z Z e=>by cases e) (by rfl) (by decide+kernel) (by kernel_rfl) (by rfl) h
theorem Ep (h:nsFind es.toArray n=some v):Fe n es=some (some v):=by
 unfold nsFind findBy at h
 rw [List.find?_toArray] at h
 have q:(λ d:fV=>Value.isStrOf n d.key)=λ d=>d.key.isStr n:=funext λ d=>(isStr_of n d.key).symm
 unfold Fe
 first|(rw [q] at h)|skip
 cases e:es.find? (λ d=>d.key.isStr n) with
 |none=>rw [e] at h;cases h
 |some d=>rw [e] at h;cases h;rfl
inductive xz (cx:Cx) (H:MH) (h h':cO) (e C:aI) (vs:Array av) (why:aw):Prop
 |mk (T) (D) (sl) (od) (es) (n) (t) (h1:h'.get? e=some {cls:=.ref C,dict:=some D,data:=.fields (vs.setIfInBounds 0 (.ref T)),slots:=sl}) (h2:cx.base.objs.size<=D) (h3:ci H D) (h4:h.get? D=none) (h5:D≠e) (h6:h'.get? D=some od) (h7:od.data=.dict (List.toArray es) n) (h8:Fe "why" es=some (some (.str why t))):xz cx H h h' e C vs why
structure BF (e:aI) (s s':ax):Prop where
 k:∀b o,b≠e->s.heap.get? b=some o->s'.heap.get? b=some o
 m:dS s s'
inductive GY (e C:aI) (vs:Array av) (s s':ax):Prop
 |mk (T sl) (h1:s'.heap.get? e=some {cls:=.ref C,dict:=none,data:=.fields (vs.setIfInBounds 0 (.ref T)),slots:=sl}) (h2:BF e s s'):GY e C vs s s'
inductive Hk (cx:Cx) (H:MH) (e C:aI) (vs:Array av) (why:aw) (s s':ax):Prop
 |mk (T D t o) (h1:tW s'.heap e C (vs.setIfInBounds 0 (.ref T)) (λ y=>if y=(aa "why") then some (.str why t) else none)) (h2:s'.heap.get? e=some o) (h3:o.dict=some D) (h4:cx.base.objs.size<=D) (h5:ci H D) (h6:s.heap.get? D=none) (h7:BF e s s'):Hk cx H e C vs why s s'
section
variable {e C T0:aI}
theorem qQ (F:Fm cx au eg H [some (.ref e),some (.str why)] s.heap) (I:cb cx H s.heap) (hb:cx.base.objs.size<=e) (hf:ci H e) (ho:s.heap.get? e=some {cls:=.ref C,data:=.fields vs,slots:=sl0}) (w:BF e s s1) (he:s1.heap.get? e=some o):
  cb cx H s1.heap/\Fm cx au eg H [some (.ref e),some (.str why)] s1.heap:=
 let ⟨a,b⟩:=mA (fa:=[]) (T0:=e) I (λ b hb=>nomatch hb) hb hf ho rfl ⟨C,rfl⟩ (λ b o x Z Z eb=>w.k b o x eb) (.inl rfl) ⟨_,he⟩ (λ b o hm=>nomatch hm)
 ⟨a,F.step b⟩
theorem Kb (G:gT cx tb gl) (he:uK cx gl C rs) (h:okS gl au.scope eg (.expr (.meth (.fn (aa "Exception") (.ty "Exception")) (aa "__init__") [.loc 0,.loc 1])) t=true) (F:Fm cx au eg H [some (.ref e),some (.str why)] s.heap)
  (I:cb cx H s.heap) (ho:s.heap.get? e=some {cls:=.ref C,data:=.fields vs,slots:=sl0}) (h0:vs[0]?=some (.ref T0)):
  aE (ay cx.prog cx.w) A (exec (emS eg (.expr (.meth (.fn (aa "Exception") (.ty "Exception")) (aa "__init__") [.loc 0,.loc 1])) t) au) (λ f s1=>f=.next/\GY e C vs s s1) Ex s:=by
 have hm:(t.l.l.p.endLine==t.l.p.line&&(okGlob gl au.scope (aa "Exception") (.ty "Exception")&&okEs gl au.scope eg [.loc 0,.loc 1] t.l.r))=true:=h
 have hp:=al hm
 have hg:=al (ar hm)
 have ha:=ar (ar hm)
 refine HS (ae (we (mZ rfl) (oG G F.glob F.blt F.kind I hg ?_))) (rZ F.kind) (nU rfl)
 refine af he.ty ?_
 refine ae (cq ?_)
 unfold methodCall
 refine af (to ha (by decide)) ?_
 obtain ⟨m1,n1',mm,hns1⟩:=F.lok
 refine ae (bA (sF (v5 I F.lok hns1) (ae (lO (vD (eq_of_beq hp)) ?_))))
 refine md G (.inr λ a z=>by cases z) ha (mH (pc (s:={s with toks:=s.toks+1}) F (eq_of_beq (al (al (ar ha)))) (ar (al (ar ha))) (u:=.ref e) rfl λ w1 hw1=>?_) (jW (nt (al ha))))
 refine mH (pc (s:={s with toks:=s.toks+1}) F (eq_of_beq (al (al (ar (ar (ar ha)))))) (ar (al (ar (ar (ar ha))))) (u:=.str why) rfl λ w2 hw2=>?_) (jW (nt (al (ar (ar ha)))))
 refine wQ ⟨G.X.keeps I.base,?_⟩
 cases dh hw1
 obtain ⟨hh,gg,dd,tk,os⟩:=s
 refine gh (C:=C) (he.cls.keeps I.base) ⟨none,sl0,ho,.inl ⟨rfl,λ Z=>rfl⟩⟩ h0 λ h' T hO hk hd=>⟨rfl,?_⟩
 obtain ⟨d2,sl2,e2,_⟩:=hO
 refine aL (hd _ ho) λ o' e3 e4=>?_
 rw [e2] at e3;(have e3:=ac e3;subst e3)
 cases (e4:d2=none)
 exact ⟨T,sl2,e2,hk,rfl,rfl,rfl⟩
theorem JD (G:gT cx tb gl) (he:uK cx gl C rs) (h:okS gl au.scope eg (.setattr (.loc 0) (aa "why") (.loc 1)) t=true) (F:Fm cx au eg H [some (.ref e),some (.str why)] s1.heap)
  (I:cb cx H s1.heap) (q:GY e C vs s s1):
  aE (ay cx.prog cx.w) A (exec (emS eg (.setattr (.loc 0) (aa "why") (.loc 1)) t) au) (λ f s2=>f=.next/\Hk cx H e C vs why s s2) Ex s1:=by
 obtain ⟨T,sl,e1,w⟩:=q
 refine nZ (pc F (eq_of_beq (al (al h))) (ar (al h)) (u:=.str why) rfl λ wv hw=>pc F (eq_of_beq (al (ar h))) (ar (ar h)) (u:=.ref e) rfl λ ov hov=>?_)
 cases dh hov
 refine bw (hJ hw) λ t r1_=>?_
 subst r1_
 obtain ⟨hh,gg,dd,tk,os⟩:=s1
 refine mD (K:=cx.K) (ns:=[]) (G.X.keeps I.base) (he.cls.keeps I.base) he.sa he.why ⟨none,sl,e1,.inl ⟨rfl,λ Z=>rfl⟩⟩ (Within.of_none λ Z=>rfl) (by decide) λ h' tk' hO hk Z hd=>⟨rfl,?_⟩
 refine aL (hd ⟨_,e1,rfl⟩) λ o g1 g2=>⟨T,hh.objs.size,t,o,hO,g1,g2,F.lok.le,I.free (dO (bW _)),?_,λ b o nb eb=>hk b o nb (λ o₀ d e0 e2=>by rw [e1] at e0;(have e0:=ac e0;subst e0);exact bF e2) (w.k b o nb eb),w.m.trans ⟨rfl,rfl,rfl⟩⟩
 cases z:s.heap.get? hh.objs.size with
 |none=>rfl
 |some o=>
  by_cases q:hh.objs.size=e
  ·exact absurd (bz e1) (by refine af q.symm ?_;exact eY _)
  ·exact absurd (bz (w.k _ _ q z)) (eY _)
theorem KN (G:gT cx tb gl) (he:uK cx gl C rs) (h:okS gl au.scope eg (.setattr (.loc 0) (aa "at") (.neg (.int 1))) t=true) (F:Fm cx au eg H [some (.ref e),some (.str why)] s1.heap)
  (I:cb cx H s1.heap) (q:Hk cx H e C vs why s s1):
  aE (ay cx.prog cx.w) A (exec (emS eg (.setattr (.loc 0) (aa "at") (.neg (.int 1))) t) au) (λ f s2=>f=.next/\xz cx H s.heap s2.heap e C vs why/\BF e s s2) Ex s1:=by
 obtain ⟨T,D,tk0,oe,hO,e1,e2,bD,fD,nD,w⟩:=q
 have hl:okE gl au.scope eg (.loc 0) t.l.l=true:=h
 have hl1:=eq_of_beq (al hl)
 have hl2:=ar hl
 refine nZ (wpAny_UnaryOp (HR (P.neg_int (pc (s:={s1 with toks:=_}) F hl1 hl2 (u:=.ref e) rfl λ ov hov=>?_))))
 cases dh hov
 obtain ⟨hh,gg,dd,tk,os⟩:=s1
 refine mD (K:=cx.K) (ns:=[aa "why"]) (G.X.keeps I.base) (he.cls.keeps I.base) he.sa he.at_ hO (λ y hy=>?_) (by decide) λ h' tk' hO' hk hd Z=>⟨rfl,?_⟩
 ·by_cases q:y=aa "why"
  ·refine af q ?_;exact .head _
  ·exact absurd (if_neg q) hy
 ·obtain ⟨dd',sl',e',hd'⟩:=hO'
  refine aL (hd _ _ e1 e2) λ o' e3 e4=>?_
  rw [e'] at e3;(have e3:=ac e3;subst e3)
  cases (e4:dd'=some D)
  rcases hd' with ⟨z,_⟩|⟨D',z,hne,oD,esD,epD,f1,f2,f3,f4,f5⟩
  ·exact b7 z
  (have z:=ac z;subst z)
  refine ⟨⟨T,D,sl',oD,esD.toList,epD,tk0,e',bD,fD,nD,hne,f1,by (exact af f2 (af jd rfl)),Ep (by (refine af jd (af (f5 _) ?_));exact (if_neg (by decide)).trans (if_pos rfl))⟩,λ b o nb eb=>hk b o nb (λ o₀ d e0 e5 q=>?_) (w.k b o nb eb),w.m.trans ⟨rfl,rfl,rfl⟩⟩
  rw [e1] at e0;(have e0:=ac e0;subst e0);rw [e2] at e5;(have e5:=ac e5;subst e5)
  rw [q,nD] at eb;exact bF eb
theorem AD (G:gT cx tb gl) (he:uK cx gl C rs) (h:okSs gl au.scope eg initS t=true) (F:Fm cx au eg H [some (.ref e),some (.str why)] s.heap)
  (I:cb cx H s.heap) (hb:cx.base.objs.size<=e) (hf:ci H e) (ho:s.heap.get? e=some {cls:=.ref C,data:=.fields vs,slots:=sl0}) (h0:vs[0]?=some (.ref T0)):
  aE (ay cx.prog cx.w) A (execs (emSs eg initS t) au) (λ f s'=>f=.next/\xz cx H s.heap s'.heap e C vs why/\BF e s s') Ex s:=by
 refine gQ (aq (Kb G he (al h) F I ho h0) (λ f s1 ⟨hf1,h1⟩=>?_) λ Z Z e=>e)
 subst hf1
 have ⟨I1,F1⟩:cb cx H s1.heap/\Fm cx au eg H [some (.ref e),some (.str why)] s1.heap:=by
  obtain ⟨T,sl,e1,w⟩:=h1
  exact qQ F I hb hf ho w e1
 refine gQ (aq (JD G he (al (ar h)) F1 I1 h1) (λ f s2 ⟨hf2,h2⟩=>?_) λ Z Z e=>e)
 subst hf2
 have ⟨I2,F2⟩:cb cx H s2.heap/\Fm cx au eg H [some (.ref e),some (.str why)] s2.heap:=by
  obtain ⟨T,D,t,oe,hO,e1,e2,bD,fD,nD,w⟩:=h2
  exact qQ F I hb hf ho w e1
 refine gQ (aq (KN G he (al (ar (ar h))) F2 I2 h2) (λ f s3 ⟨hf3,h3⟩=>?_) λ Z Z e=>e)
 subst hf3
 exact fU ⟨rfl,h3⟩
end
end
section
variable {E:av->ax->Prop}
theorem sG (hh:A.handled=none)
  (h:aE M A x (λ v s₁=>∃e d vs sl,v=.ref e/\jx s₁.heap C bm/\s₁.heap.get? e=some {cls:=.ref C,dict:=d,data:=.fields vs,slots:=sl}/\vs[1]?=some .none/\E (.ref e) s₁) E s):aE M A (raiseStmt au (some x) none) Q E s:=by
 refine ae (aq h (λ v s₁ h₁=>?_) λ Z Z x=>x)
 refine zu h₁ λ e de vs sl r1_ w2_ he t3_=>(bx t3_ λ h1 hE=>?_)
 clear h₁ t3_
 subst r1_
 obtain ⟨⟨nm,q,N,bs,sn,sub,ab,col,dd,k0,k1,k2,k3,k5,hC⟩,-,isB,-,-⟩:=w2_
 obtain ⟨hp,g,d,tk,os⟩:=s₁
 have hcB:(aS C::bm).contains (.type "BaseException")=true:=by (exact af eH (af isB (af (iB _) rfl)))
 repeat (first|with_reducible refine gb he ?_|with_reducible refine gb hC ?_|(with_reducible refine eB hC ?_;refine af hcB ?_)|wp_step)
 refine af h1 ?_
 refine ah ?_
 refine af (if_neg (by decide)) ?_
 exact ah (wpAny_raiseNew_none hh hE)
end
section
variable {cx:Cx}
theorem ut (hf:uQ cx.K f=true\/∀a,f≠.ref a) (hs:isStar y=false)
  (h:aE (ay cx.prog cx.w) A (eval y au) (λ v s₁=>cx.K.In s₁.heap/\aE (ay cx.prog cx.w) A (call f (first++[v])) R Ex s₁) Ex s):
  aE (ay cx.prog cx.w) A (callWith pos f first (pA pos (il [y] au)) []) R Ex s:=by
 have hk:∀h,cx.K.In h->∃k,(k=Gx\/k=DX\/k=Bl)/\lC (ay cx.prog cx.w) h (keeperOf f) k:=λ h X=>by
  rcases hf with hf|hf
  ·exact keeps_K hf h X
  ·refine ⟨.machine,.inr (.inl rfl),Gy ?_⟩
   cases f<;>first|rfl|exact absurd rfl (hf _)
 refine callWith_of (P:=cx.K.In) (by (refine af (ou _) (af (jW hs) ?_));rfl) hk ?_
 have h':aE (ay cx.prog cx.w) A (spliced (pA pos (il [y] au))) (λ vs s₁=>cx.K.In s₁.heap/\aE (ay cx.prog cx.w) A (call f (first++vs)) R Ex s₁) Ex s:=
  mH (aq h (λ v s1 h1=>wQ h1) λ Z Z e=>e) (jW hs)
 rw [jW hs] at h'⊢
 exact evalArgs_plain h'
end
namespace l4
def S_ (cx A au C rs c y pn cp):=∀{tb:ow} {gl:GL} {lv:Nat} {nm:List aw} {e:Mine.E} {pos:Bx} (G:gT cx tb gl) (he:uK cx gl C rs) (am:Bu A lv) (ie:wZ cx tb A lv nm au e y) (hg:okGlob gl au.scope c (.cls 1)=true) (hs:isStar y=false),Ie cx tb A lv nm au (.raise_ e) (.Raise (some (.Call (.Name c pn) [y] [] cp)) none pos)
def U_:=UV λ cx A au=>UV λ C rs c=>UU λ y=>UU λ pn=>S_ cx A au C rs c y pn
def t_:=dr (by have:=qe;have:=tJ;infer_instance) U_
def cx:=t_.1
def A:=t_.2.1
def au:=t_.2.2.1
def C:=t_.2.2.2.1
def rs:=t_.2.2.2.2.1
def c:=t_.2.2.2.2.2.1
def s1_:=t_.2.2.2.2.2.2
def y:=s1_.1
def pn:=s1_.2.1
def cp:=s1_.2.2
namespace tn
def S_ (H s X v H1 w hh gg dd tk os):=∀(tb:ow) (gl:GL) (lv:Nat) (nm:List aw) (G:gT cx tb gl) (he:uK cx gl C rs) (am:Bu A lv) (ρ:db) (hlv:0<lv) (q1:J4 (V.str w) λ w↦X w H1) (fI:aI) (hfI:cx.addr (Fn.user 3)=aS fI) (hini:cS cx.K (aS C) (aa "__init__")=some (some (aS fI))) (htyp:pt cx.K (aS fI)=some (cP "function")) (I1:cb cx H1 (iR hh gg dd tk os).heap) (S1:bf fe H s.heap H1 (iR hh gg dd tk os).heap) (M1:dS s (iR hh gg dd tk os)) (r1:VRel cx (iR hh gg dd tk os).heap (V.str w) v) (F1:Fm cx au nm H1 ρ (iR hh gg dd tk os).heap) (st1:iF cx A H1 (iR hh gg dd tk os).heap) (X1:cx.K.In (iR hh gg dd tk os).heap) (hbs:cx.base.objs.size<=(iR hh gg dd tk os).heap.objs.size),aE (ay cx.prog cx.w) A (call (aS C) ([]++[v])) (λ v s₃↦∃e d vs sl,v=aS e/\jx s₃.heap C (a8 aS rs++jV)/\s₃.heap.get? e=some (HV (aS C) d (sj vs) sl)/\vs[1]?=some bR/\cj cx (PF au) H s X (aS e) s₃) (cj cx (PF au) H s X) (iR hh gg dd tk os)
def U_:=UV λ H s X=>UV λ v H1 w=>UV λ hh gg dd=>UU λ tk=>S_ H s X v H1 w hh gg dd tk
def t_:=dr (by have:=Js;have:=pH;infer_instance) U_
def H:=t_.1
def s:=t_.2.1
def X:=t_.2.2.1
def v:=t_.2.2.2.1
def H1:=t_.2.2.2.2.1
def w:=t_.2.2.2.2.2.1
def s1_:=t_.2.2.2.2.2.2
def hh:=s1_.1
def gg:=s1_.2.1
def dd:=s1_.2.2.1
def tk:=s1_.2.2.2.1
def os:=s1_.2.2.2.2
theorem P_:S_ H s X v H1 w hh gg dd tk os:=by
 intro tb gl lv nm G he am ρ hlv q1 fI hfI hini htyp I1 S1 M1 r1 F1 st1 X1 hbs
 refine iK (lV (K:=cx.K) X1 (he.cls.keeps I1.base) he.call he.typ hini htyp (rest:=[v]) (by size_fits) ?_)
 have k:∀b o,hh.get? b=some o->((hh.push {cls:=.type "tuple",data:=.seq [v].toArray}).push (gp C hh.objs.size)).get? b=some o:=λ b o e=>ak _ (ak _ e)
 have hx:((hh.push {cls:=.type "tuple",data:=.seq [v].toArray}).push (gp C hh.objs.size)).get? (hh.objs.size+1)=some (gp C hh.objs.size):=by heap_get
 have n1:hh.get? (hh.objs.size+1)=none:=dO (Bj _)
 refine af rn (af hfI.symm ?_)
 have I2:cb cx H1 ((hh.push {cls:=.type "tuple",data:=.seq [v].toArray}).push (gp C hh.objs.size)):=I1.keeps k
 have S2:bf fe H1 hh H1 ((hh.push {cls:=.type "tuple",data:=.seq [v].toArray}).push (gp C hh.objs.size)):=bf.keeps k
 have st2:iF cx {A with depth:=A.depth+1,units:=A.units+1} H1 ((hh.push {cls:=.type "tuple",data:=.seq [v].toArray}).push (gp C hh.objs.size)):=by
  exact aL (st1.step S2) λ l h1 h2=>⟨l,h1,h2⟩
 refine jy (s:=⟨_,gg,dd,tk,os⟩) (l:=0) (us:=[.ref (hh.objs.size+1),.str w]) G he.fn ⟨am.handled,?_,?_⟩ st2 (F1.step S2).lok.le I2 (.cons lX (.one (r1.mono (bQ.of_keeps k)))) rfl ?_
 ·have:=am.depth;show A.depth+1+2*0+5<xV;lia
 ·have:=am.units;show A.units+1+20*0+410<mG;lia
 rintro env' b s3 ⟨t,rfl,hchk⟩ _ F3 st3 I3 S3 M3 k3 ab am3
 refine aq (AD (vs:=#[.ref hh.objs.size,.none,.none,.none,.bool false,.none]) (e:=hh.objs.size+1) (why:=w) G he hchk F3 I3 (cL hbs) (I1.free n1) (k3 _ _ hx) rfl) (λ f s4 h4=>?_) λ Z Z z=>z
 refine gK h4 λ r1_ hmade w2_=>?_
 clear h4
 subst r1_
 obtain ⟨k4,M4⟩:=w2_
 obtain ⟨T,D,sl,od,es,n,t,e1,bD,fD,nD,hne,e2,e3,e4⟩:=hmade
 have kk:∀b o,hh.get? b=some o->s4.heap.get? b=some o:=λ b o eb=>k4 b o (λ z=>by rw [z,n1] at eb;exact bF eb) (k3 b o (k b o eb))
 have I4:cb cx H1 s4.heap:=I1.keeps kk
 have d0:s.heap.get? D=none:=by
  cases z:s.heap.get? D with
  |none=>rfl
  |some o=>
   refine bw (S1.there D o z) λ o1 z1=>?_
   have:=k3 D o1 (k D o1 z1)
   rw [nD] at this;exact bF this
 refine ⟨rfl,?_⟩
 refine ⟨hh.objs.size+1,_,_,_,rfl,he.cls.keeps I4.base,e1,by simp,?_⟩
 refine ⟨w,H1,q1,⟨_,C,D,_,es,n,t,sl,od,rfl,he.addr,e1,cL hbs,I1.free n1,e2,e3,bD,fD,d0,e4,.inl (by simp)⟩,I4,S1.weak.trans (bf.keeps kk),M1.trans (dS.trans (s':=s3) M3 M4)⟩
theorem A_:∀p,U_ p:=bC P_
end tn
theorem P_:S_ cx A au C rs c y pn cp:=by
 intro tb gl lv nm e pos G he am ie hg hs
 intro H s ρ N R X F st I q
 refine bx (kD q) λ hlv q=>?_
 have hlv:=hV.mp hlv
 show aE _ _ (nG pos>>=λ Z=>raiseStmt au (some (eval ((wR c pn).Call [y] [] cp) au>>=λ v=>nG pos>>=λ Z=>pure v)) none) _ _ _
 refine ae (cq (sG (C:=C) (bm:=rs.map aS++jV) am.handled (ae (aq (wpAny_Call_ofName (oG G F.glob F.blt F.kind I hg ?_)) (λ v s₃ h₃=>ae (cq (ah h₃))) λ Z Z x=>x))))
 refine af he.addr ?_
 refine ut (by refine af he.addr.symm ?_;exact G.keep _) hs (aq (ie H s ρ _ X F st I q) (λ v s1 h1=>?_) λ Z Z z=>z.weak)
 obtain ⟨u,H1,q1,r1,I1,S1,M1⟩:=h1
 refine aL (Ga q1) λ w hw q1=>?_
 subst hw
 ·have F1:=F.step S1
  have st1:=st.step S1
  have X1:=G.X.keeps I1.base
  refine ⟨X1,?_⟩
  refine cJ he.ini λ fI hfI hini htyp=>?_
  have hbs:cx.base.objs.size<=s1.heap.objs.size:=F1.lok.le
  obtain ⟨hh,gg,dd,tk,os⟩:=s1
  exact tn.A_ (H,s,X,v,H1,w,hh,gg,dd,tk,os) tb gl lv nm G he am ρ hlv q1 fI hfI hini htyp I1 S1 M1 r1 F1 st1 X1 hbs
theorem A_:∀p,U_ p:=bC P_
end l4
section
variable {cx:Cx}
theorem l4 {cx A au C rs c y pn cp}:l4.S_ cx A au C rs c y pn cp:=l4.A_ (cx,A,au,C,rs,c,y,pn,cp)
end
end
section
open PySem PySem.W PyProof.Rows PySem.Calls Builtin Builtin.ObjectAttr
theorem vJ:_root_.PySem.Slot "BaseException" "__getattribute__" "BaseException.__getattribute__":=
 .of (owner:="BaseException") (n:="__getattribute__") (by (refine af (typeLookup_type _ _) (af DV ?_));kernel_rfl) (by decide+kernel) (by decide+kernel) (by decide+kernel)
  (by first|exact .inl (by decide+kernel)|exact .inr (by decide+kernel)) (by refine af (isSubtype_type _ _) ?_;kernel_rfl)
section
variable {prog:cR}
end
namespace oq
def S_ (prog w A E s C e bm name expr Q):=∀{K:gk} {ox:xQ} {od:Option xQ} {v:av} (X:K.In s.heap) (x:jx s.heap C bm) (I:InstAt s.heap e ox C od) (hga:cS K (.ref C) "__getattribute__"=some (some (.builtin "BaseException.__getattribute__"))) (hgt:cS K (.ref C) "__getattr__"=some none) (hf:findObj K C od name=some (.value v)) (hh:sQ v=true) (h:Q v {s with toks:=s.toks+1}),aE (ay prog w) A (getAttr (.ref e) name expr) Q E s
def U_:=UV λ prog w A=>UV λ E s C=>UV λ e bm name=>UU λ expr=>S_ prog w A E s C e bm name expr
def t_:=dr (by have:=qe;have:=pH;have:=vt;infer_instance) U_
def prog:=t_.1
def w:=t_.2.1
def A:=t_.2.2.1
def E:=t_.2.2.2.1
def s:=t_.2.2.2.2.1
def C:=t_.2.2.2.2.2.1
def s1_:=t_.2.2.2.2.2.2
def e:=s1_.1
def bm:=s1_.2.1
def name:=s1_.2.2.1
def expr:=s1_.2.2.2.1
def Q:=s1_.2.2.2.2
theorem P_:S_ prog w A E s C e bm name expr Q:=by
 intro K ox od v X x I hga hgt hf hh h
 obtain ⟨⟨nm,q,N,bs,sn,sub,ab,col,dd,k0,k1,k2,k3,k5,hC⟩,-,isB,-,-⟩:=x
 have L0:=I.type (M:=ay prog w)
 have L1:=nF (M:=ay prog w) X hga
 have LF:=looks_find (M:=ay prog w) X I hf
 have hb:lC (ay prog w) s.heap (hookBefore (.ref C)) none:=looks_hook X ((if_pos rfl).trans hgt)
 have sub1:lC (ay prog w) s.heap (uS (.ref C) (.type "BaseException")) true:=λ A Q E s k q=>eB (k _ _ hC) (by rw [show (aS C::bm).contains (.type "BaseException")=true from by (exact af eH (af isB (af (iB _) rfl)))];exact q)
 have is1:lC (ay prog w) s.heap (x4 (.ref e) (.type "BaseException")) true:=L0.andThen sub1
 refine ae (wpAny_mkText (bA (ae (L0 _ _ _ _ (λ Z Z e=>e) (ae (L1 _ _ _ _ (λ Z Z e=>e) ?_))))))
 dsimp only
 rw [show (onTheHeap (.ref C)&&gE "BaseException.__getattribute__"==gE "object.__getattribute__")=false from by (exact af (show (gE "BaseException.__getattribute__"==gE "object.__getattribute__")=false from by decide+kernel) (af (ua _) rfl)),if_neg (by decide)]
 refine ae (hb _ _ _ _ (λ Z Z e=>e) (ae (wpAny_attempt (bA ?_))))
 unfold callGetattribute
 refine af (show (expr&&onTheHeap (gE "BaseException.__getattribute__"))=false from ua _) (af (if_neg (by decide)) ?_)
 unfold boundAndCalled
 refine af (vJ.bind _) ?_
 refine ae (ah ?_)
 show aE _ _ (call (.builtin "BaseException.__getattribute__") [.ref e,.str name s.toks]) _ _ _
 refine iK (pD vJ.plain PySem.F.entry_bexc_ga ?_)
 refine @HT (ay prog w) _ _ {s with toks:=s.toks+1} "BaseException.__getattribute__" "BaseException" "__getattribute__" (.ref e) [.str name s.toks] [] _ (by decide+kernel) (by decide+kernel) is1 (PySem.F.args_bexc_ga _ _) ?_
 refine ae (ah (ae (ah (ae (L0 _ _ _ _ (λ Z Z e=>e) (ae (LF _ _ _ _ (λ Z Z e=>e) ?_)))))))
 refine ah ?_
 show aE _ _ (handedOut v) _ _ _
 refine af (handedOut_of hh) ?_
 exact ah h
theorem A_:∀p,U_ p:=bC P_
end oq
section
variable {prog:cR}
theorem oq {prog w A E s C e bm name expr Q}:oq.S_ prog w A E s C e bm name expr Q:=oq.A_ (prog,w,A,E,s,C,e,bm,name,expr,Q)
end
section
variable {cx:Cx}
theorem Fm.unbind (F:Fm cx au nm H ρ h) (hi:nm[i]?=some n) (hl:au.kindOf n=some .local) (hn:h.Ns au.locals m) (hn':h'.Ns au.locals (λ x=>if x=n then v else m x)) (sb:dm au.locals h h'):
  Fm cx au nm H (ρ.set i none) h':=by
 refine cu F.slots λ m0 cm a b c=>?_
 have e:=yS hn a;subst e
 have st:bf (·=au.locals) H h H h':=bf.store hn hn' sb rfl
 refine ⟨F.kind,F.glob,F.blt,F.nd,by exact af ju F.len,F.apart,F.aboveL,F.aboveC,F.cellsAll,F.free,_,cm,hn',λ n' c' e=>?_,λ j y e=>?_⟩
 ·refine (b n' c' e).sameBut sb λ q=>(aL (b n' c' e) λ o g1 g2=>?_)
  rw [q] at g1
  exact (ke a g1).2 _ g2
 ·by_cases q:i=j
  ·subst q
   rw [hi] at e;(have e:=ac e;subst e)
   have z:db.at (ρ.set i none) i=none:=by
    unfold db.at
    refine af (List.getElem?_set) ?_
    by_cases q:i<ρ.length<;>simp [q]
   exact .inl ⟨hl,λ u hu=>by rw [z] at hu;exact bF hu⟩
  ·have z:db.at (ρ.set i none) j=ρ.at j:=by unfold db.at;(exact af (mT q) rfl)
   refine af z ?_
   rcases c j y e with ⟨c1,c2⟩|⟨c1,c2,c3⟩
   ·exact .inl ⟨c1,λ u hu=>let ⟨v,e1,e2⟩:=c2 u hu;⟨v,(if_neg (C7 F.nd q hi e)).trans e1,VRel.mono st.imm _ e2⟩⟩
   ·exact .inr ⟨c1,c2,λ u hu=>let ⟨v,e1,e2⟩:=c3 u hu;⟨v,e1,VRel.mono st.imm _ e2⟩⟩
end
end
section
open PySem PySem.W PyProof.Rows PySem.Calls
section
variable {cx:Cx}
theorem ip.keeps (x:ip cx h0 H h e why) (k:∀b o,h.get? b=some o->h'.get? b=some o):ip cx h0 H h' e why:=by
 obtain ⟨a,C,d,vs,es,n,t,sl,od,h1,h2,h3,h4,h5,h6,h6b,h7,h8,h8b,h9,h10⟩:=x
 refine ⟨a,C,d,vs,es,n,t,sl,od,h1,h2,k _ _ h3,h4,h5,k _ _ h6,h6b,h7,h8,h8b,h9,h10.imp id ?_⟩
 rintro ⟨T,oT,ts,g1,g2,g3,g4,g5,g6,g7,g8⟩
 exact ⟨T,oT,ts,g1,g2,g3,k _ _ g4,g5,g6,g7,g8⟩
theorem zm (x:ip cx h0 H s.heap e why)
  (k:∀h',(∀b o,s.heap.get? b=some o->h'.get? b=some o)->Q () {s with heap:=h'}):aE M A (setFlight e none) Q Ex s:=by
 obtain ⟨a,C,d,vs,es,n,t,sl,od,rfl,h2,h3,h4,h5,h6,h6b,h7,h8,h8b,h9,h10⟩:=x
 rcases h10 with h10|⟨T,oT,ts,g1,g2,g3,g4,g5,g6,g7,g8⟩
 ·refine ae (gz h3 rfl h10 ?_)
  refine af (if_neg (by decide)) ?_
  exact ah (k s.heap λ Z Z e=>e)
 ·refine ae (gz h3 rfl g1 ?_)
  refine af (if_pos (show (aS T !=bR)=true from by simp)) ?_
  refine gC g4 g5 (dk.mp g6).1 (k _ λ b o eb=>?_)
  by_cases q:b=T
  ·subst q
   rw [g4] at eb;(have eb:=ac eb;subst eb)
   obtain ⟨hlt,hge⟩:=dk.mp g6
   have hs:ts.setIfInBounds 3 ((none:Option aI).elim bR λ f=>iL f)=ts:=by
    refine af (show ((none:Option aI).elim bR λ f=>iL f)=ts[3] from hge.symm) ?_
    refine Array.ext Array.size_setIfInBounds λ i h1 h2=>?_
    rw [Array.getElem_setIfInBounds]
    split
    ·rename_i q;subst q;rfl
    ·rfl
   refine (co _ g4 (fQ (dK g5 _))).trans ?_
   obtain ⟨c,dd,dt,sl'⟩:=oT
   cases g5
   show some (HV c dd (.fields (ts.setIfInBounds 3 _)) sl')=_
   exact af hs rfl
  ·exact (cf _ _ (fT q)).trans eb
end
namespace rr
def S_ (cx A au nm C rs c n w pn wp fp ap sp hp):=∀{tb:ow} {gl:GL} {lv:Nat} {e:Mine.E} {y:Expr} {i:Nat} {j:Nat} {yp:Bx} {pos:Bx} (G:gT cx tb gl) (he:uK cx gl C rs) (hfr:∃outer,A.frames=some (au::outer)) (ie:wZ cx tb A lv nm au e y) (hg:okGlob gl au.scope c (.cls 1)=true) (hi:nm[i]?=some n) (hl:au.scope.names.lookup n=some .local) (hj:nm[j]?=some w) (hw:stName au.scope w=true) (hd:(n==("__debug__":aw))=false) (hne:i≠j) (hcp:isComp y=false),Ie cx tb A lv nm au (.tryWhy e i j) (.Try [.Expr y yp] [.ExceptHandler (some (.Name c pn)) (some n) [.Assign [.Name w wp] (.Attribute (.Name n fp) "why" ap) sp] hp] [] [] pos)
def U_:=UV λ cx A au=>UV λ nm C rs=>UV λ c n w=>UV λ pn wp fp=>UU λ ap=>UU λ sp=>S_ cx A au nm C rs c n w pn wp fp ap sp
def t_:=dr (by have:=qe;have:=tJ;infer_instance) U_
def cx:=t_.1
def A:=t_.2.1
def au:=t_.2.2.1
def nm:=t_.2.2.2.1
def C:=t_.2.2.2.2.1
def rs:=t_.2.2.2.2.2.1
def s1_:=t_.2.2.2.2.2.2
def c:=s1_.1
def n:=s1_.2.1
def w:=s1_.2.2.1
def pn:=s1_.2.2.2.1
def wp:=s1_.2.2.2.2.1
def fp:=s1_.2.2.2.2.2.1
def s2_:=s1_.2.2.2.2.2.2
def ap:=s2_.1
def sp:=s2_.2.1
def hp:=s2_.2.2
namespace y4
def S_ (i j H s ρ N R X why H1 a d vs sl):=∀(tb:ow) (gl:GL) (G:gT cx tb gl) (he:uK cx gl C rs) (hg:okGlob gl au.scope c (Fn.cls 1)=true) (hi:nm[i]?=some n) (hl:ia n au.scope.names=some NameKind.local) (hj:nm[j]?=some w) (hw:stName au.scope w=true) (hd:(n==aa "__debug__")=false) (hne:i≠j) (F:Fm cx au nm H ρ s.heap) (s1:ax) (q1:N ((List.set ρ i none).set j (some (V.str why))) H1) (S1:bf fe H s.heap H1 s1.heap) (M1:dS s s1) (s3:ax) (I3:cb cx H1 s3.heap) (S3:bf fe H1 s1.heap H1 s3.heap) (M3:dS s1 s3) (F3:Fm cx au nm H1 ρ s3.heap) (es:List fV) (nn:Nat) (t:Tok) (od:xQ) (hod:s3.heap.get? d=some od) (hdd:od.data=Data.dict es.toArray nn) (h0d:s.heap.get? d=none) (x3':ip cx s.heap H1 s3.heap (aS a) why) (hwy:Fe (aa "why") es=some (some (Value.str why t))) (htb:vs[1]?=some bR\/∃T oT ts,vs[1]?=some (aS T)/\cx.base.objs.size<=T/\T≠a/\s3.heap.get? T=some oT/\oT.data=sj ts/\ts[3]?=some bR/\oT.cls=cP "traceback"/\ci H1 T) (ha:s3.heap.get? a=some (HV (aS C) (some d) (sj vs) sl)),aE (ay cx.prog cx.w) A (handleBy (aS a) au [ExceptHandler.ExceptHandler (some (wR c pn)) (some n) [Stmt.Assign [wR w wp] ((wR n fp).Attribute (aa "why") ap) sp] hp]) (gJ cx au nm H s N R) (cj cx (PF au) H s X) s3
def U_:=UV λ i j H=>UV λ s ρ N=>UV λ R X why=>UV λ H1 a d=>UU λ vs=>S_ i j H s ρ N R X why H1 a d vs
def t_:=dr (by have:=pH;infer_instance) U_
def i:=t_.1
def j:=t_.2.1
def H:=t_.2.2.1
def s:=t_.2.2.2.1
def ρ:=t_.2.2.2.2.1
def N:=t_.2.2.2.2.2.1
def s1_:=t_.2.2.2.2.2.2
def R:=s1_.1
def X:=s1_.2.1
def why:=s1_.2.2.1
def H1:=s1_.2.2.2.1
def a:=s1_.2.2.2.2.1
def d:=s1_.2.2.2.2.2.1
def s2_:=s1_.2.2.2.2.2.2
def vs:=s2_.1
def sl:=s2_.2
theorem P_:S_ i j H s ρ N R X why H1 a d vs sl:=by
 intro tb gl G he hg hi hl hj hw hd hne F s1 q1 S1 M1 s3 I3 S3 M3 F3 es nn t od hod hdd h0d x3' hwy htb ha
 have hkl:au.kindOf n=some .local:=hl
 refine wpAny_handleBy_cons (codeAny_handlers_test (oG G F3.glob F3.blt F3.kind I3 hg ?_)) (by intro q;cases q)
 refine af he.addr ?_
 obtain ⟨⟨nm',q',N',bs,sn,sub,ab,col,dd,k0,k1,k2,k3,k5,hCo⟩,isE,isB,noA,noN⟩:=he.cls.keeps I3.base
 obtain ⟨hh,gg,dr,tk,os⟩:=s3
 refine wpAny_excMatches_sub_self hCo ha rfl isB (codeAny_handlers_suite_as ?_)
 refine zm x3' λ h4 k4=>?_
 have I4:cb cx H1 h4:=I3.keeps k4
 have S4:bf fe H1 hh H1 h4:=bf.keeps k4
 have F4:=F3.step S4
 refine cu F4.slots λ m cm n1 n2 n3=>(jv hkl n1 (λ h5 hn5 hs5=>?_) (by refine af F4.kind ?_;rfl))
 have S5:bf (PF au) H1 h4 H1 h5:=bf.store n1 hn5 hs5 (.inl rfl)
 have F5:Fm cx au nm H1 (ρ.set i (some (.ref a))) h5:=F4.store hi hkl n1 hn5 hs5 lX
 have I5:cb cx H1 h5:=I4.store n1 hs5 F4.free F4.aboveL
 have keep5:∀b o,(∀m',¬hh.Ns b m')->hh.get? b=some o->h5.get? b=some o:=λ b o nb eb=>(hs5.2 b λ z=>by
  refine iV n1 λ o' es' ep' e1 e2 e3=>?_
  have:=k4 b o eb
  rw [z,e1] at this;(have this:=ac this;subst this)
  exact nb _ ⟨_,_,_,eb,e2,e3⟩).trans (k4 b o eb)
 have ha5:h5.get? a=some {cls:=.ref C,dict:=some d,data:=.fields vs,slots:=sl}:=keep5 _ _ (λ m' z=>by
  obtain ⟨o',es',ep',e1,e2,e3⟩:=z;rw [ha] at e1;(have e1:=ac e1;subst e1);exact gf e2 rfl) ha
 have hd5:h5.get? d=some od:=(hs5.2 d λ z=>by
  refine f7 F.slots λ m0 Z z1 Z=>(bw (gw z1) λ o0 z2=>?_)
  rw [z,z2] at h0d;exact b7 h0d).trans (k4 d od hod)
 have I5x:InstAt h5 a {cls:=.ref C,dict:=some d,data:=.fields vs,slots:=sl} C (some od):=⟨ha5,rfl,rfl,hd5⟩
 refine gQ (wpAny_Assign_Name (Attribute_any_ (xW (pz F5.kind hkl hn5 (if_pos rfl) ?_) hd) (qD rfl)) (by rfl))
 refine oq (v:=.str why t) (G.X.keeps I5.base) (he.cls.keeps I5.base) I5x he.ga he.gt (findObj_own he.hd he.why rfl ?_) rfl ?_
 ·unfold lookIn
  refine af hdd ?_
  exact hwy
 ·refine oH (u:=.str why) F5 I5 hj hw uF λ s6 F6 I6 S6 M6=>(fU (cu F6.slots λ m6 cm6 p1 p2 p3=>(wpAny_nameGoes_keeps hkl p1 (by refine af F6.kind ?_;rfl) λ h7 v7 hn7 hs7=>?_)))
  have F7:=F6.unbind hi hkl p1 hn7 hs7
  have I7:cb cx H1 h7:=I6.store p1 hs7 F6.free F6.aboveL
  have S7:bf (PF au) H1 s6.heap H1 h7:=bf.store p1 hn7 hs7 (.inl rfl)
  have e:((ρ.set i (some (.ref a))).set j (some (.str why))).set i none=(ρ.set i none).set j (some (.str why)):=by
   exact af (jg _ _ (fT hne)) (af (jM _) rfl)
  rw [e] at F7
  exact ⟨_,H1,q1,F7,I7,((((S1.trans S3).trans S4).weak.trans S5).trans S6).trans S7,M1.trans (dS.trans M3 (dS.trans (dS.trans ⟨rfl,rfl,rfl⟩ M6) ⟨rfl,rfl,rfl⟩))⟩
theorem A_:∀p,U_ p:=bC P_
end y4
theorem P_:S_ cx A au nm C rs c n w pn wp fp ap sp hp:=by
 intro tb gl lv e y i j yp pos G he hfr ie hg hi hl hj hw hd hne hcp
 intro H s ρ N R X F st I q
 refine bw hfr λ outer hfr=>?_
 have q:wpE tb lv false e ρ H (λ u H1=>u=.none/\N ρ H1) (λ why H1=>N ((ρ.set i none).set j (some (.str why))) H1):=q
 refine wpAny_Try_except (gQ (HS (aq (ie H s ρ _ _ F st I q) (λ v s1 h1=>?_) λ ev s1 h1=>?_) (rZ F.kind) (nU hcp)))
 ·obtain ⟨u1,H1,⟨rfl,q1⟩,r1,I1,S1,M1⟩:=h1
  refine af (gr r1) ?_
  exact fU (fU ⟨ρ,H1,q1,F.step S1,I1,S1.weak,M1⟩)
 ·obtain ⟨why,H1,q1,x1,I1,S1,M1⟩:=h1
  refine yR hfr (st.step S1) x1 I1 λ s3 x3 I3 S3 M3=>?_
  have F3:=(F.step S1).step S3
  have x3':=x3
  obtain ⟨a,C',d,vs,es,nn,t,sl,od,rfl,hC,ha,hb,hf,hod,hdd,hbd,hfd,h0d,hwy,htb⟩:=x3
  rw [he.addr] at hC;cases hC
  exact y4.A_ (i,j,H,s,ρ,N,R,X,why,H1,a,d,vs,sl) tb gl G he hg hi hl hj hw hd hne F s1 q1 S1 M1 s3 I3 S3 M3 F3 es nn t od hod hdd h0d x3' hwy htb ha
theorem A_:∀p,U_ p:=bC P_
end rr
section
variable {cx:Cx}
theorem rr {cx A au nm C rs c n w pn wp fp ap sp hp}:rr.S_ cx A au nm C rs c n w pn wp fp ap sp hp:=rr.A_ (cx,A,au,nm,C,rs,c,n,w,pn,wp,fp,ap,sp,hp)
end
theorem yG {α:Type} {l:List α} (h:l.isEmpty=true):l=[]:=by cases l<;>first|rfl|exact aM h
theorem CB {α:Type} {o:Option α} (h:o.isNone=true):o=none:=by cases o<;>first|rfl|exact aM h
theorem FK (X:cx.K.In cx.base) (ha:cx.addr f=.ref a) (h:fnChk1 gl cx.K a ps nm t body=true) (hb:stOf cx.K a=some (emSs nm body t)) (rd:VRels cx cx.base ds dv)
  (bd:∀fd,fdOf cx.K a=some fd->C0 fd ps->∀(vs:List av) (s:ax),(∀a o,cx.base.get? a=some o->s.heap.get? a=some o)->vs.length+ds.length=ps.length->BindsTo s fd ⟨vs,[]⟩ (ps.zip (vs++dv))):z0 cx gl f ps nm ds body:=by
 refine aL (tX h) λ fd e h=>(aL (Hj e) λ o e1 e2=>?_)
 have p:=al (ar h)
 have p2:=ar (ar (ar (ar p)))
 have p3:=ar (ar p2)
 have p4:=ar (ar (ar (ar p3)))
 have hn:=dt (al (ar p4))
 have hp:=eq_of_beq (al (ar (ar p4)))
 have nd:ps.Nodup:=hp▸List.Nodup.sublist (List.take_sublist ..) hn
 refine ⟨⟨a,o,fd,_,dv,⟨ha,X _ _ e1,e2,Hl hb e,⟨t,rfl,ar (ar h)⟩,eq_of_beq (al p),eq_of_beq (al (ar p)),yG (al (ar (ar p))),eq_of_beq (al (ar (ar (ar p)))),nt (al p2),nt (al (ar p2)),xn X (al h),λ x hx=>?_,rd,bd fd e ⟨yG (al p3),CB (al (ar p3)),yG (al (ar (ar p3))),CB (al (ar (ar (ar p3)))),eq_of_beq (al p4),nd⟩⟩⟩,hn,nm.drop ps.length,(dA ps.length nm).symm.trans (congrArg (·++_) hp)⟩
 exact (nJ.mp (bt.mp (ar (ar (ar p4))) x hx)).imp eq_of_beq eq_of_beq
theorem FR (X:cx.K.In cx.base) (ha:cx.addr f=.ref a) (h:fnChk1 gl cx.K a ps nm t body=true) (hb:stOf cx.K a=some (emSs nm body t)) (hd:noDf cx.K a=true):z0 cx gl f ps nm [] body:=
 FK X ha h hb .nil λ fd e p vs s Z hl=>BindsTo.of_eq (by
  refine aL (tX hd) λ fd' e' h2=>?_
  (have e_:=ac (e.symm.trans e');subst e_)
  refine aL (wx (ds:=[]) p hl) λ k k1 k2=>?_
  refine af k1 (af (eq_of_beq h2) ?_)
  exact k2 none rfl)
noncomputable def gl0:GL:=[((aa "_wall"),.user 0),
 ((aa "span_prefix"),.user 1),
 ((aa "prefixes_of"),.user 2),
 ((aa "words_of"),.user 5),
 ((aa "refused"),.user 6),
 ((aa "field_named"),.user 7),
 ((aa "is_worked"),.user 8),
 ((aa "field_under"),.user 9),
 ((aa "size_of"),.user 10),
 ((aa "bits_of_e"),.user 11),
 ((aa "type_of"),.user 12),
 ((aa "number_of"),.user 13),
 ((aa "turned"),.user 14),
 ((aa "host_number"),.user 15),
 ((aa "host_order"),.user 16),
 ((aa "slots_of"),.user 17),
 ((aa "put_row"),.user 19),
 ((aa "note"),.user 20),
 ((aa "need_match"),.user 21),
 ((aa "flush"),.user 22),
 ((aa "emit"),.user 23),
 ((aa "slot_of"),.user 24),
 ((aa "held"),.user 25),
 ((aa "number_in"),.user 26),
 ((aa "joined"),.user 27),
 ((aa "key_at"),.user 28),
 ((aa "elements_told"),.user 29),
 ((aa "where_of"),.user 30),
 ((aa "back_meta"),.user 31),
 ((aa "back_immediate"),.user 32),
 ((aa "match_of"),.user 33),
 ((aa "back_cmp"),.user 34),
 ((aa "back_map"),.user 35),
 ((aa "back_same"),.user 36),
 ((aa "raw_pair"),.user 37),
 ((aa "back_nat_row"),.user 38),
 ((aa "back_nat"),.user 39),
 ((aa "boxes_meet"),.user 40),
 ((aa "single_key"),.user 41),
 ((aa "is_live"),.user 43),
 ((aa "place_in"),.user 52),
 ((aa "place_of_box"),.user 53),
 ((aa "add_rule"),.user 63),
 ((aa "rules_let"),.user 64),
 ((aa "goals_of"),.user 65),
 ((aa "add_item"),.user 66),
 ((aa "new_store"),.user 76),
 ((aa "set_of"),.user 79),
 ((aa "_law_digit"),.user 80),
 ((aa "_law_octets"),.user 81),
 ((aa "_law_literals"),.user 82),
 ((aa "_law_ports"),.user 83),
 ((aa "_law_addresses"),.user 84),
 ((aa "_law_pair"),.user 85),
 ((aa "_law_nat"),.user 86),
 ((aa "_law_rest"),.user 87),
 ((aa "_law_rule_holds"),.user 88),
 ((aa "_law_hand_holds"),.user 89),
 ((aa "law"),.user 90),
 ((aa "WallFault"),.cls 0),
 ((aa "Misused"),.cls 1),
 ((aa "Refused"),.cls 2),
 ((aa "Reading"),.cls 3),
 ((aa "Element"),.cls 4),
 ((aa "PlainStore"),.cls 5),
 ((aa "SpanStore"),.cls 6),
 ((aa "BitField"),.cls 7),
 ((aa "BitTables"),.cls 8),
 ((aa "SetBody"),.cls 9),
 ((aa "len"),.bi "len"),
 ((aa "sorted"),.bi "sorted"),
 ((aa "isinstance"),.bi "isinstance"),
 ((aa "all"),.bi "all"),
 ((aa "min"),.bi "min"),
 ((aa "max"),.bi "max"),
 ((aa "range"),.ty "range"),
 ((aa "bytes"),.ty "bytes"),
 ((aa "str"),.ty "str"),
 ((aa "tuple"),.ty "tuple"),
 ((aa "list"),.ty "list"),
 ((aa "Exception"),.ty "Exception")]
noncomputable def userA:List (Nat×aI):=[(0,21),(1,28),(2,35),(3,49),(4,81),(5,93),(6,100),(7,107),(8,114),(9,121),(10,128),(11,135),(12,142),(13,149),(14,154),(15,161),(16,168),(17,175),(18,189),(19,203),(20,210),(21,217),(22,224),(23,231),(24,238),(25,245),(26,252),(27,259),(28,266),(29,273),(30,280),(31,287),(32,294),(33,301),(34,308),(35,315),(36,322),(37,329),(38,334),(39,341),(40,348),(41,355),(42,370),(43,384),(44,398),(45,405),(46,412),(47,419),(48,426),(49,433),(50,440),(51,447),(52,461),(53,468),(54,482),(55,489),(56,496),(57,503),(58,510),(59,517),(60,524),(61,531),(62,552),(63,566),(64,573),(65,580),(66,587),(67,602),(68,609),(69,616),(70,623),(71,630),(72,637),(73,644),(74,651),(75,658),(76,672),(77,686),(78,693),(79,707),(80,714),(81,719),(82,726),(83,733),(84,740),(85,747),(86,752),(87,757),(88,764),(89,769),(90,776)]
noncomputable def clsA:List (Nat×aI):=[(0,52),(1,65),(2,84),(3,192),(4,373),(5,450),(6,534),(7,555),(8,661),(9,696)]
noncomputable def biA:List String:=["len","sorted","isinstance","all","min","max","list.append","list.insert","dict.get","dict.update"]
noncomputable def addr0:Fn->av
 |.user n=>((userA.lookup n).map aS).getD .none
 |.cls n=>((clsA.lookup n).map aS).getD .none
 |.bi id=>if biA.contains id then .builtin id else .none
 |.ty id=>.type id
noncomputable def uA (n:Nat):aI:=(userA.lookup n).getD 0
noncomputable def cA (n:Nat):aI:=(clsA.lookup n).getD 0
noncomputable abbrev pw0:=HW
noncomputable def bodyOf (x:lz):List (List lz):=match x with
 |.FunctionDef _ _ b _ _ _ _ _ _ _=>[b]
 |_=>[]
noncomputable def bodiesOf (x:lz):List (List lz):=match x with
 |.FunctionDef _ _ b _ _ _ _ _ _ _=>[b]
 |.ClassDef _ _ _ b _ _ _ _ _ _ _=>b.flatMap bodyOf
 |_=>[]
noncomputable def tr0 (n:Nat):PT:=pSs ((pw0.main.body.flatMap bodiesOf).getD n [])
noncomputable def seqAt (K:gk) (v:av):Option (Array av):=match v with
 |.ref a=>(K.lookup a).bind λ o=>match o.data with
  |.seq xs _=>some xs
  |_=>none
 |_=>none
theorem D7 {K:gk} (h:seqAt K v=some xs):∃a o n,v=.ref a/\K.lookup a=some o/\o.data=.seq xs n:=by
 cases v<;>first|exact (cW h).elim|skip
 refine aL (wy h) λ o e h=>?_
 generalize z:o.data=d at h
 cases d<;>first|exact ⟨_,o,_,rfl,e,z.trans (congrArg (λ x=>Data.seq x _) (ac h))⟩|exact (cW h).elim
noncomputable def int0 (v:av):Bool:=match v with
 |.int i _=>i==0
 |_=>false
theorem Hs (h:int0 v=true):∃t,v=.int 0 t:=by
 cases v<;>first|exact ⟨_,congrArg (λ i=>lD i _) (eq_of_beq h)⟩|exact aM h
noncomputable def one0 (l:List av):Bool:=match l with
 |[]=>false
 |v::r=>int0 v&&r.isEmpty
noncomputable def dflt0 (K:gk) (a:aI):Bool:=(fdOf K a).any λ fd=>(seqAt K fd.defaults).any λ xs=>one0 xs.toList
abbrev NL:=Nat×cB×aI×List aw×List aw×List S
noncomputable def ents:List NL:=[(1,KG,28,ps1,nm1,c1),(17,Da,175,ps17,nm17,c17),(13,B1,149,ps13,nm13,c13),(14,Dj,154,ps14,nm14,c14),(15,E0,161,ps15,nm15,c15),(16,Ec,168,ps16,nm16,c16),(18,E9,189,ps18,nm18,c18),(19,Ei,203,ps19,nm19,c19),(20,Et,210,ps20,nm20,c20),(21,E8,217,ps21,nm21,c21),(22,C1,224,ps22,nm22,c22),(23,BR,231,ps23,nm23,c23),(24,CZ,238,ps24,nm24,c24),(25,Dk,245,ps25,nm25,c25),(26,D8,252,ps26,nm26,c26),(27,CE,259,ps27,nm27,c27),(28,E6,266,ps28,nm28,c28),(29,B5,273,ps29,nm29,c29),(30,ES,280,ps30,nm30,c30),(31,A0,287,ps31,nm31,c31),(32,Aq,294,ps32,nm32,c32),(33,D6,301,ps33,nm33,c33),(34,zN,308,ps34,nm34,c34),(35,AK,315,ps35,nm35,c35),(36,z7,322,ps36,nm36,c36),(37,Dz,329,ps37,nm37,c37),(38,AX,334,ps38,nm38,c38),(39,DA,341,ps39,nm39,c39),(41,vi,355,ps41,nm41,c41),(43,EE,384,ps43,nm43,c43),(44,EJ,398,ps44,nm44,c44),(45,BZ,405,ps45,nm45,c45),(47,CC,419,ps47,nm47,c47),(49,Dg,433,ps49,nm49,c49),(52,Ck,461,ps52,nm52,c52),(54,EX,482,ps54,nm54,c54),(55,Av,489,ps55,nm55,c55),(59,Cw,517,ps59,nm59,c59),(76,CN,672,ps76,nm76,c76),(77,Eu,686,ps77,nm77,c77),(79,Cm,707,ps79,nm79,c79),(80,CT,714,ps80,nm80,c80),(81,Co,719,ps81,nm81,c81),(82,CM,726,ps82,nm82,c82),(83,Dc,733,ps83,nm83,c83),(84,C2,740,ps84,nm84,c84),(85,CQ,747,ps85,nm85,c85),(86,C3,752,ps86,nm86,c86),(87,B6,757,ps87,nm87,c87),(88,BQ,764,ps88,nm88,c88),(89,BE,769,ps89,nm89,c89),(90,AP,776,ps90,nm90,c90)]
noncomputable def fnsChk (K:gk):Bool:=fnChk1 gl0 K 370 ps42 nm42 (tr0 42) c42&&(dflt0 K 370&&ents.all λ e=>fnChk1 gl0 K e.2.2.1 e.2.2.2.1 e.2.2.2.2.1 (tr0 e.1) e.2.2.2.2.2&&noDf K e.2.2.1)
noncomputable def txt0 (K:gk):Option (List lz)×Option (List lz)×List (Option (List lz)):=(stOf K 370,stOf K 49,ents.map λ e=>stOf K e.2.2.1)
noncomputable def exp0:Option (List lz)×Option (List lz)×List (Option (List lz)):=(some (emSs nm42 c42 (tr0 42)),some (emSs eg initS (tr0 3)),ents.map λ e=>some (emSs e.2.2.2.2.1 e.2.2.2.2.2 (tr0 e.1)))
noncomputable def globChk (K:gk):Bool:=gl0.all λ p=>nsIn K dj p.1==some (some (addr0 p.2))||(nsIn K dj p.1==some none&&(sV p.1==some (addr0 p.2)&&p.1 !=("__name__":aw)))
noncomputable def keepChk (K:gk):Bool:=(userA.all λ p=>uQ K (.ref p.2))&&clsA.all λ p=>uQ K (.ref p.2)
noncomputable def fldChk (K:gk):Bool:=flds.all λ q=>uO K (cA q.1)&&(cS K (.ref (cA q.1)) "__setattr__"==some (some (.builtin "object.__setattr__"))&&(plainOver K (cA q.1)&&q.2.all λ n=>plainGet K (cA q.1) n&&cS K (.ref (cA q.1)) n==some none))
noncomputable def mthChk (K:gk) (C:aI) (n:aw) (f:aI):Bool:=cS K (.ref C) "__getattribute__"==some (some (.builtin "object.__getattribute__"))&&(cS K (.ref C) "__getattr__"==some none&&(cS K (.ref C) n==some (some (.ref f))&&pt K (.ref f)==some (.type "function")))
noncomputable def iniChk (K:gk) (C f:aI):Bool:=makesIn K C&&(cS K (.ref C) "__init__"==some (some (.ref f))&&pt K (.ref f)==some (.type "function"))
noncomputable def clAt (K:gk) (a:aI):Option (xQ×ClassData):=(K.lookup a).bind λ o=>match o.data with
 |.cls cd=>some (o,cd)
 |_=>none
theorem GJ {K:gk} (h:clAt K a=some (o,cd)):K.lookup a=some o/\o.data=.cls cd:=by
 refine aL (wy h) λ o' e h=>?_
 generalize z:o'.data=d at h
 cases d<;>first|(cases h;exact ⟨e,z⟩)|exact (cW h).elim
noncomputable def excSl (sl:Array (Option av)):Array (Option av):=#[sl[0]?.join,sl[1]?.join,sl[2]?.join,sl[3]?.join,some (.builtin "Exception.__new__"),sl[5]?.join]
noncomputable def excChk (K:gk):Bool:=(clAt K 65).any λ p=>p.1.cls==.type "type"&&(p.2.mro==[.ref 65,.ref 52,.type "Exception",.type "BaseException",.type "object"]&&(!p.2.hasDel&&(p.2.hasDict&&p.1.slots==excSl p.1.slots)))
noncomputable def tabChk (K:gk):Bool:=(mths.all λ m=>mthChk K (cA m.1) m.2.1 (uA m.2.2))&&inits.all λ m=>iniChk K (cA m.1) (uA m.2)
noncomputable def ownChk (K:gk):Bool:=excChk K&&(specialIn K (.ref 65) "__call__"==some (some (.builtin "type.__call__"))&&(instIn K (.ref 65) (.type "type")==some true&&(cS K (.ref 65) "__init__"==some (some (.ref 49))&&(pt K (.ref 49)==some (.type "function")&&
 (cS K (.ref 65) "__setattr__"==some (some (.builtin "object.__setattr__"))&&(cS K (.ref 65) "why"==some none&&(cS K (.ref 65) "at"==some none&&(cS K (.ref 65) "__getattribute__"==some (some (.builtin "BaseException.__getattribute__"))&&
 (cS K (.ref 65) "__getattr__"==some none&&(uO K 65&&(fnChk1 gl0 K 49 eg eg (tr0 3) initS&&noDf K 49)))))))))))
noncomputable def chk0 (K:gk):Bool:=fnsChk K&&(globChk K&&(keepChk K&&(fldChk K&&(tabChk K&&ownChk K))))
noncomputable def fragFrom:Nat->List xQ->gk
 |_,[]=>[]
 |n,o::l=>(match o.isFreed with
  |true=>fragFrom (n+1) l
  |false=>(n,o)::fragFrom (n+1) l)
theorem pX:∀{l:List xQ} {n a:Nat} {o:xQ},(fragFrom n l).lookup a=some o->n<=a/\l[a -n]?=some o/\o.isFreed=false
 |[],_,_,_,h=>by cases h
 |x::l,n,a,o,h=>by
  have e0:fragFrom n (x::l)=(match x.isFreed with
   |true=>fragFrom (n+1) l
   |false=>(n,x)::fragFrom (n+1) l):=rfl
  rw [e0] at h
  have tl:(fragFrom (n+1) l).lookup a=some o->n<=a/\(x::l)[a -n]?=some o/\o.isFreed=false:=λ h=>by
   obtain ⟨h1,h2,h3⟩:=pX h
   refine ⟨by lia,?_,h3⟩
   rw [show a -n=(a -(n+1))+1 from (Nat.add_sub_add_right a 1 n).symm.trans (Nat.succ_sub (by assumption)),List.getElem?_cons_succ]
   exact h2
  cases hx:x.isFreed with
  |true=>rw [hx] at h;exact tl h
  |false=>
   rw [hx] at h
   have h:(((n,x)::fragFrom (n+1) l).lookup a)=some o:=h
   rw [aG] at h
   split at h
   ·rename_i e
    have e:=eq_of_beq e
    cases h;subst e
    exact ⟨bW _,by rw [Nat.sub_self];rfl,hx⟩
   ·exact tl h
noncomputable def eR (h:cO):gk:=fragFrom 0 h.objs.toList
theorem Aj (h:cO):(eR h).In h:=λ a o e=>by
 obtain ⟨-,h2,h3⟩:=pX e
 rw [Nat.sub_zero] at h2
 refine Heap.get?_some_iff.mpr ⟨?_,h3⟩
 rw [<-cV];exact h2
theorem Ee {α:Type} {Yf:ax->α} {Ya:f8->α} {H₀:Params->cO}
  (open_:∀w:f8,(fencedOpening fY p w N).map (λ s=>(s.heap,s.gens,s.drawn,s.toks))=some (H₀ w.params,gs₀,d₀,k₀))
  (size:∀w:f8,((H₀ w.params).isNs dj&&gs₀.size==0,(H₀ w.params).objs.size,(H₀ w.params).nsMap dj "__annotations__")=(true,m₀,ann))
  (run:∀(w:f8) (os:iA),∃s₁,topRun fY p w m₀ ann M ⟨H₀ w.params,gs₀,d₀,k₀,os⟩ (Iy p)=some s₁/\
   ((BC (eh p.main.body) (H₀ w.params) s₁.heap&&yb p s₁.heap&&Fj s₁&&Fk (H₀ w.params) s₁.heap),openSeen q loose (eh p.main.body) Xt g0 s₁,Yf s₁)=(true,openGood q loose,Ya w))
  (le:mj M N=true):LeftO p q loose Xt Yf Ya N g0:=λ w=>by
 obtain ⟨⟨h,gs,d,k,os⟩,e,e'⟩:=aH.mp (open_ w)
 obtain ⟨rfl,rfl,rfl,rfl⟩:h=H₀ w.params/\gs=gs₀/\d=d₀/\k=k₀:=by simpa using e'
 obtain ⟨z1,z2,z3⟩:_/\_/\_:=by simpa only [tc] using size w
 obtain ⟨s₁,r,lk⟩:=run w os
 obtain ⟨l1,l2,l3⟩:_/\_/\_:=by simpa only [tc] using lk
 have r:=topRun_mono (N -M) _ _ _ _ r
 rw [show M+(N -M)=N by have:=aP le;lia] at r
 have t:topFrom fY p w N ⟨H₀ w.params,gs,d,k,os⟩=some s₁:=by
  unfold topFrom
  rw [z1,z2,z3,r]
  show (match BC (eh p.main.body) (H₀ w.params) s₁.heap&&yb p s₁.heap&&Fj s₁&&Fk (H₀ w.params) s₁.heap with|true=>_|false=>_)=_
  rw [l1]
 unfold openEnds
 rw [e]
 show (topFrom fY p w N _).map _=_
 rw [t]
 exact congrArg some (GA l2 l3)
noncomputable def kept0:List lz:=pw0.main.body.filter λ st=>match st with
 |.FunctionDef n _ _ _ _ _ _ _ _ _=>n==aa "law"
 |_=>false
noncomputable def view0:cR:={pw0 with main:={pw0.main with body:=kept0}}
noncomputable def loose0:List aw:=pw0.main.body.filterMap λ st=>match st with
 |.FunctionDef n _ _ _ _ _ _ _ _ _=>if n==aa "law" then none else some n
 |.ClassDef n _ _ _ _ _ _ _ _ _ _=>some n
 |_=>none
noncomputable def env0:i4:={scope:=pw0.main.scope,locals:=mainNs,globals:=mainNs,cells:=[],code:=.ref 13,frame:=some 14}
noncomputable def q0:Bx:=⟨0,0,0,0⟩
noncomputable abbrev c0:Code:=.body (mI pw0) env0
noncomputable def pre0 (w:f8) (os:iA):cO:=match topGo fY pw0 w 11 (some (.ref 6)) 12 ⟨iS w.params,#[],HX,boot_toks,os⟩ (Iy pw0) with
 |some (s,_)=>s.heap
 |none=>{objs:=#[]}
noncomputable def nth0 (h:cO) (i:Nat):xQ:=h.objs.toList.getD i {cls:=.none,data:=.plain}
noncomputable def tree0 (h:cO):BT:=.node (nth0 h 0) (.node (nth0 h 1) (.node (nth0 h 3) (.node (nth0 h 7) .nil .nil) (.node (nth0 h 11) .nil .nil)) (.node (nth0 h 5) (.node (nth0 h 9) .nil .nil) (.node (nth0 h 13) .nil .nil)))
 (.node (nth0 h 2) (.node (nth0 h 4) (.node (nth0 h 8) .nil .nil) (.node (nth0 h 12) .nil .nil)) (.node (nth0 h 6) (.node (nth0 h 10) .nil .nil) (.node (nth0 h 14) .nil .nil)))
noncomputable def st0 (w:f8) (os:iA):SharedT:={tree:=tree0 (pre0 w os),n:=15,life:={},gens:=#[],drawn:={},toks:=187,os:=os}
noncomputable abbrev th0:Thread:=piecesOf (mI pw0) env0 c0 q0 [yc q0]
theorem GN (w:f8) (os:iA):topGo fY pw0 w 11 (some (.ref 6)) 12 ⟨iS w.params,#[],HX,boot_toks,os⟩ (Iy pw0)=some ((st0 w os).abs,⟨denote fY c0,c0,q0,[yc q0]⟩):=by kernel_rfl
theorem Ce (w:f8) (os:iA):segRun fY pw0 w 11 (some (.ref 6)) 1 1 (st0 w os).abs (blockOf (mI pw0) env0 c0 q0 [yc q0])=some (.next,(st0 w os).abs,c0,q0):=by kernel_rfl
theorem Jg:opening pw0=plainProg pw0.main.scope.names:=by kernel_rfl
theorem HJ (s:ax):fenceModules? pw0 s=some s:=by kernel_rfl
theorem KI (w:f8):((iS w.params).isNs dj&&(#[]:Array GenState).size==0,(iS w.params).objs.size,(iS w.params).nsMap dj "__annotations__")=(true,11,some (.ref 6)):=by kernel_rfl
noncomputable abbrev xt0:ax->Bool:=λ s=>xlAt view0 [] s&&recOk [] s
abbrev sE {α:Type} (w:f8) (os:iA) (f:Flow->Code->ax->α):Option α:=
 (segRunT fY pw0 w 11 (some (.ref 6)) 1 5400 (st0 w os) th0).bind λ r=>(topRun fY pw0 w 11 (some (.ref 6)) 2 r.2.1.abs ⟨doneF .next,c0,r.2.2.2,[yc q0]⟩).map λ s1=>f r.1 r.2.2.1 s1
theorem Ac (w:f8) (os:iA):sE w os (λ f c s1=>(f,c,BC (eh pw0.main.body) (iS w.params) s1.heap&&yb pw0 s1.heap&&Fj s1&&Fk (iS w.params) s1.heap,openSeen view0 loose0 (eh pw0.main.body) xt0 true s1))=
  some (.next,c0,true,openGood view0 loose0):=by
 unfold sE
 rw [dT,dU,dW,PySem.W.Fast.te4187177175401517315]
 kernel_rfl
theorem Ez (w:f8) (os:iA):sE w os (λ Z Z s1=>fnsChk (eR s1.heap))=some true:=by
 unfold sE
 rw [dT,dU,dW]
 kernel_rfl
theorem Eo (w:f8) (os:iA):sE w os (λ Z Z s1=>globChk (eR s1.heap)&&(keepChk (eR s1.heap)&&fldChk (eR s1.heap)))=some true:=by
 unfold sE
 rw [dT,dU,dW]
 kernel_rfl
theorem D5 (w:f8) (os:iA):sE w os (λ Z Z s1=>(tabChk (eR s1.heap)&&ownChk (eR s1.heap),txt0 (eR s1.heap)))=some (true,exp0):=by
 unfold sE
 rw [dT,dU,dW]
 kernel_rfl
theorem Ml {ρ σ A B C D:Type} {X:Option ρ} {Y:ρ->Option σ} {f:ρ->σ->A} {g:ρ->σ->B} {k:ρ->σ->C} {m:ρ->σ->D} {a:A} {b:B} {c:C} {d:D} (h1:X.bind (λ r=>(Y r).map (f r))=some a) (h2:X.bind (λ r=>(Y r).map (g r))=some b) (h3:X.bind (λ r=>(Y r).map (k r))=some c)
  (z:∀r s,f r s=a->g r s=b->k r s=c->m r s=d):X.bind (λ r=>(Y r).map (m r))=some d:=by
 cases X with
 |none=>exact bF h1
 |some r=>
  cases e:Y r with
  |none=>have h:(Y r).map (f r)=some a:=h1;rw [e] at h;exact bF h
  |some s=>
   have h1:(Y r).map (f r)=some a:=h1
   have h2:(Y r).map (g r)=some b:=h2
   have h3:(Y r).map (k r)=some c:=h3
   show (Y r).map (m r)=some d
   rw [e] at*
   exact congrArg some (z r s (ac h1) (ac h2) (ac h3))
theorem Eb (w:f8) (os:iA):sE w os (λ Z Z s1=>(chk0 (eR s1.heap),txt0 (eR s1.heap)))=some (true,exp0):=
 Ml (Ez w os) (Eo w os) (D5 w os) λ r s e1 e2 e3=>
  have e1:fnsChk (eR s.heap)=true:=e1
  have e2:(globChk (eR s.heap)&&(keepChk (eR s.heap)&&fldChk (eR s.heap)))=true:=e2
  have e4:(tabChk (eR s.heap)&&ownChk (eR s.heap))=true:=congrArg Prod.fst e3
  congr (congrArg Prod.mk (kO e1 (kO (al e2) (kO (al (ar e2)) (kO (ar (ar e2)) e4))))) (congrArg Prod.snd e3)
end
section
open PySem PySem.W
def VC (sp:cB) (lv:Nat) (ps nm:List aw) (ds:List V) (body:List S):Prop:=∀us H Q X,sp us H Q X->us.length+ds.length=ps.length/\wpSs tb0 lv body (frame0 nm (us++ds)) H (λ Z H'=>Fg Q .none H') (Fg Q) (rE X)
theorem fg (q:Q u H):Fg Q u H:=⟨H,.refl,q⟩
theorem Ls (q:Q u H):rE Q u H:=⟨H,.refl,q⟩
theorem pK (h:b=true) (q:A):br b A B:=by exact af h q
theorem tG (h:b=false) (q:A):br (eqb false b) A B:=by exact af h q
theorem Cz (h:b=true) (q:B):br (eqb false b) A B:=by exact af h q
theorem FW (h:b=true) (q:A):br (eqb true b) A B:=by exact af h q
theorem xp (h:b=false) (q:B):br (eqb true b) A B:=by exact af h q
theorem Jw (h:b=false->A) (k:b=true->B):br (eqb false b) A B:=by cases b<;>first|exact h rfl|exact k rfl
theorem rV (h:b=true->A) (k:b=false->B):br (eqb true b) A B:=by cases b<;>first|exact h rfl|exact k rfl
section
variable {H:MH}
theorem kQ (h:o=o') {S:List (aw×V)->Prop} {T:List (List Int×V)->Prop} {E:Prop} (q:at_ o' L S I T E O):at_ o L S I T E O:=by exact af h q
theorem cZ (h:H a=some (.list us)) (z:ix us x=some u) (q:Q u H):subR a (.int x) H Q:=kQ h (ji z q)
theorem BO (h:H a=some (.idict f k)) (e:f x=some u) (q:Q u H):subR a (.int x) H Q:=kQ h (ji e q)
theorem xD (h:H a=some (.sdict es)) (e:es.lookup s=some u) (q:Q u H):subR a (.str s) H Q:=kQ h (ji e q)
theorem Hw (h:H a=some (.tdict te)) (hk:us=ks.map V.int) (e:te.lookup ks=some u) (q:Q u H):subR a (.tuple us) H Q:=kQ h ⟨ks,hk,ji e q⟩
theorem cF (h:H a=some (.inst c d as)) (e:as.lookup n=some u) (q:Q u H):rL (.ref a) n H Q:=kQ h (ji e q)
theorem kf (h:H a=some (.inst c d as)) (e:fl c n=true) (z:mj as.length 100=true) (q:N (H.set a (.inst c d (alSet as n w)))):setattrV fl (.ref a) n w H N:=kQ h (p8 e (p8 z q))
theorem C8 (h:H a=some (.idict f k)) (z:k<=100000) (q:N (H.set a (.idict (λ y=>if y=x then some w else f y) (k+1)))):eI (.ref a) (.int x) w H N:=kQ h ⟨z,q⟩
theorem yq (h:H a=some .edict) (q:N (H.set a (.idict (λ y=>if y=x then some w else none) 1))):eI (.ref a) (.int x) w H N:=kQ h q
theorem Db (h:H a=some (.sdict es)) (z:es.length<=100000) (q:N (H.set a (.sdict (alSet es s w)))):eI (.ref a) (.str s) w H N:=kQ h ⟨z,q⟩
theorem yT (h:H a=some .edict) (q:N (H.set a (.sdict [(s,w)]))):eI (.ref a) (.str s) w H N:=kQ h q
theorem Hi (h:H a=some (.tdict te)) (hk:us=ks.map V.int) (z:te.length<=1000) (e:te.lookup ks=none) (q:N (H.set a (.tdict (te++[(ks,w)])))):eI (.ref a) (.tuple us) w H N:=⟨ks,hk,kQ h ⟨z,e,q⟩⟩
theorem Eg (h:H a=some .edict) (hk:us=ks.map V.int) (q:N (H.set a (.tdict [(ks,w)]))):eI (.ref a) (.tuple us) w H N:=⟨ks,hk,kQ h q⟩
theorem Gk (h:H a=some (.sdict es)) (q:QB (es.lookup s).isSome):inV (.str s) (.ref a) H QB:=kQ h q
theorem De (h:H a=some .edict) (q:QB false):inV (.str s) (.ref a) H QB:=kQ h q
theorem FL (h:H a=some (.idict f k)) (q:QB (f x).isSome):inV (.int x) (.ref a) H QB:=kQ h q
theorem Cq (h:H a=some .edict) (q:QB false):inV (.int x) (.ref a) H QB:=kQ h q
theorem qx (h:H a=some (.list us)) (h2:H b=some (.list vs)) (z:us.length+vs.length<=bG) (q:∀c,H c=none->Q (.ref c) (H.set c (.list (us++vs)))):Ju a b H Q:=kQ h (kQ h2 ⟨z,q⟩)
theorem lR (h:methOf tb0 H (.ref a) n=some g) (q:K g):G6 (methOf tb0 H (.ref a) n) K:=FU h q
theorem jD (h1:ρ.at i=some (.ref a)) (h2:methOf tb0 H (.ref a) n=some g) (q:wpEs tb0 lv es ρ H (λ us H2=>mL tb0 lv (.fn g) (.ref a::us) H2 (fh tst Q) X) X):wpE tb0 lv tst (.meth (.loc i) n es) ρ H Q X:=ji h1 (FU h2 q)
theorem B8 (h:H a=some o):methOf tb H (.ref a) n=methO tb o n:=by
 show (H a).bind _=_
 refine af h ?_;rfl
theorem mM (h:H a=some (.list us)):methOf tb0 H (.ref a) (aa "append")=some (.bi "list.append"):=(B8 h).trans rfl
theorem Gn (h:H a=some (.list us)):methOf tb0 H (.ref a) (aa "insert")=some (.bi "list.insert"):=(B8 h).trans rfl
theorem qE (h:H a=some (.inst c d as)) (e:(as.lookup n).isSome=false) (m:tb0.meth c n=some g):methOf tb0 H (.ref a) n=some g:=(B8 h).trans (by
 show (if (as.lookup n).isSome=true then none else tb0.meth c n)=_
 exact af e m)
theorem JI (h:H a=some (.tdict te)):methOf tb0 H (.ref a) (aa "get")=some (.bi "dict.get"):=(B8 h).trans rfl
theorem Ht (h:H a=some .edict):methOf tb0 H (.ref a) (aa "get")=some (.bi "dict.get"):=(B8 h).trans rfl
theorem qh (h:itemsOf H u=some us) (q:K us):xu (itemsOf H u) K:=qT h q
theorem set_set:(H.set a o).set a o2=H.set a o2:=by
 funext b;unfold MH.set;split<;>rfl
theorem ET (h:H a=none):(H.set a o).del a=H:=by
 funext b
 by_cases e:b=a
 ·subst e;(exact af (MH.del_self _ _) (af h rfl))
 ·exact af (MH.del_ne _ e) (af (MH.set_ne _ _ e) rfl)
theorem kF (h:H a=some (.list vs)) (z:vs.length<=1000000) (q:Q (.int vs.length) H) (hl:iI 1 lv=true:=by rfl):mL tb0 lv (.fn (.bi "len")) [.ref a] H Q X:=p8 hl (by
 show (match (match H a with|some (.list us)=>some us.length|_=>none) with
  |some n=>n<=1000000/\Q (.int n) H
  |none=>False)
 exact af h ⟨z,q⟩)
theorem Cn (h:H a=some (.list vs)) (z:vs.length<=100000) (q:Q .none (H.set a (.list (vs++[u])))) (hl:iI 1 lv=true:=by rfl):mL tb0 lv (.fn (.bi "list.append")) [.ref a,u] H Q X:=p8 hl ⟨_,h,z,q⟩
theorem bS (e:tb0.spec (.user k)=sp) (q:sp us H Q X) (hl:iI (tb0.lvl (.user k)) lv=true:=by rfl):mL tb0 lv (.fn (.user k)) us H Q X:=p8 hl (by exact af e q)
theorem l7 (h:H a=some (.list us)):itemsOf H (.ref a)=some us:=by
 show (match H a with|some (.list us)=>some us|_=>none)=_
 rw [h]
theorem vg (h:H a=some (.list us)):seqOf H (.ref a)=some us:=by
 show (match H a with|some (.list us)=>some us|_=>none)=_
 rw [h]
theorem lQ (h:H a=some o):backOf H H' (.ref a)=H'.set a o:=by
 show (match H a with|some o=>H'.set a o|none=>H')=_
 rw [h]
theorem BP (h:seqOf H u=some us) (q:A us):xu (seqOf H u) A:=qT h q
end
theorem qU (h:a<=b):(2:Int)^a<=2^b:=by
 have:(2:Nat)^a<=2^b:=Nat.pow_le_pow_right (by decide) h
 exact_mod_cast this
theorem gn (a:Nat):(0:Int)<2^a:=by
 have:0<(2:Nat)^a:=GB a
 exact_mod_cast this
theorem kE {x:Int} (h0:0<=x) (h:x<2^k):x.natAbs<2^k:=by
 have:((x.natAbs:Nat):Int)<((2^k:Nat):Int):=by
  refine af (Int.natAbs_of_nonneg h0) ?_;exact_mod_cast h
 exact_mod_cast this
theorem AL (x y:Nat):kt x y=((x|||y:Nat):Int):=by
 have h:∀z:Nat,ig (z:Int)=-(z:Int) -1:=λ z=>by first|rfl|(unfold ig;lia)
 have hn:∀z:Nat,decide (0<=ig (z:Int))=false:=λ z=>by refine af (h _) ?_;exact decide_eq_false (by lia)
 have hb:∀z:Nat,ig (ig (z:Int))=z:=λ z=>by refine af (h _) ?_;first|(unfold ig;lia)|lia
 unfold kt mh
 refine af (hn _) (af (hn _) ?_)
 refine af (hb _) (af (hb _) (af (hb _) ?_))
 simp
theorem AZ (hn:0<=n) (h0:0<=o) (h1:o<256):kt (n*2^(8:Int).toNat) o=n*256+o:=by
 refine bw (bL hn) λ a r1_=>?_
 subst r1_
 refine bw (bL h0) λ b r1_=>?_
 subst r1_
 have e:((a:Int)*(2:Int)^(8:Int).toNat)=((a<<<8:Nat):Int):=by
  refine af (Fl _ _) ?_;push_cast;rfl
 refine af e (af (AL _ _) (af (iP ((Nat.shiftLeft_add_eq_or_of_lt (by lia:b<2^8)) _)) (af (Fl _ _) ?_)))
 push_cast;rfl
theorem L5:VC Da 2 ps17 nm17 [] c17:=by
 intro us H Q X h
 refine Hx (λ n h=>?_) h
 exact ⟨rfl,fg h.2.2⟩
theorem wm:∀(b:List Int) (n:Int),(∀x∈b,0<=x/\x<256)->0<=n->0<=b.foldl (λ n o=>n*256+o) n
 |[],n,_,h=>h
 |x::b,n,hb,h=>wm b _ (λ y hy=>hb y (.tail _ hy)) (by have:=(hb x (.head _)).1;show 0<=n*256+x;lia)
theorem ve:∀(b:List Int) (n:Int) (k:Nat),(∀x∈b,0<=x/\x<256)->n<256^k->b.foldl (λ n o=>n*256+o) n<256^(k+b.length)
 |[],n,k,_,h=>h
 |x::b,n,k,hb,h=>by
  have:=ve b (n*256+x) (k+1) (λ y hy=>hb y (.tail _ hy)) (by have:=(hb x (.head _)).2;refine af (jR _ _) ?_;lia)
  refine af gL (af aQ ?_)
  refine af (show k+(b.length+1)=k+1+b.length by lia) ?_
  exact this
theorem uz (k:Nat):(256:Int)^k=2^(8*k):=by refine af Int.pow_mul ?_;rfl
theorem vq (h:io b):0<=numOf b/\numOf b<2^512:=by
 refine ⟨wm b 0 h.1 (jm _),?_⟩
 have:=ve b 0 0 h.1 (by decide)
 have e:=uz (0+b.length)
 rw [e] at this
 refine kn this (qU ?_)
 have:=h.2;lia
theorem Mw:VC B1 2 ps13 nm13 [] c13:=by
 intro us H Q X h
 refine Go (λ b h=>?_) h
 refine bx h λ hb q=>?_
 refine ⟨rfl,?_⟩
 refine nX (λ i ρ H'=>H'=H/\∃x,ρ=[some (.bytes b),some (.int (numOf (b.take i))),x]) ⟨rfl,none,rfl⟩ ?_ ?_
 ·rintro i u ρ _ e ⟨rfl,x,rfl⟩ N' k
  rw [aF] at e
  refine aL (aH.mp e) λ o ho r1_=>?_
  subst r1_
  have hmem:=a6 ho
  have hbt:io (b.take i):=⟨λ y hy=>hb.1 y (mU hy),by refine af bU ?_;have:=hb.2;exact ao (dH _ _) (ao ‹_› (by decide))⟩
  refine bx (vq hbt) λ n1 n2=>?_
  have:=mW (kE n1 n2)
  refine aj ⟨aT _,by lia⟩ (k _ _ ⟨rfl,some (.int o),?_⟩)
  show [_,some (V.int (kt (numOf (b.take i)*2^(8:Int).toNat) o)),_]=_
  rw [AZ n1 (hb.1 o hmem).1 (hb.1 o hmem).2,show b.take (i+1)=b.take i++[o] by (refine af dp (af ho ?_));rfl]
  unfold numOf
  refine af qd ?_;rfl
 ·rintro ρ _ ⟨rfl,x,rfl⟩ _
  refine af (ag _) (af c8 ?_)
  exact fg q
theorem bZ (h:H c=none):MH.Sub H (H.set c o):=λ a ob e=>by
 by_cases q:a=c
 ·subst q;rw [h] at e;exact bF e
 ·exact af (MH.set_ne _ _ q) e
theorem a7 (s:MH.Sub H0 H) (h:H0 c=none):MH.Sub H0 (H.set c o):=λ a ob e=>by
 by_cases q:a=c
 ·subst q;rw [h] at e;cases e
 ·refine af (MH.set_ne _ _ q) ?_;exact s _ _ e
theorem DU (s:MH.Sub H H') (q:Q u H):Fg Q u H':=⟨H,s,q⟩
theorem Ha:asideOf H (.ref a)=H.del a:=rfl
theorem wH (C:Nat->(db->MH->Prop)->Prop)
  (step:∀n (K:Bool->MH->Prop),C n λ ρ H=>(∀b H1,(b=true->0<n/\∀N',(∀ρ2 H2,(∀K,C (n -1) K->K ρ2 H2)->N' ρ2 H2)->body ρ H1 N')->(b=false->N ρ H1)->K b H1)->test ρ H K) (n:Nat) {ρ:db} {H:MH} (h:∀K,C n K->K ρ H):whileW test body N (n+1) ρ H:=
 rH (λ n ρ H=>∀K,C n K->K ρ H) (λ n ρ H P K=>P _ (step n K)) n h
theorem xl (C:Nat->(db->MH->Prop)->Prop) (h0:∀K,C 0 K->K ρ H) (step:∀i u N',us[i]?=some u->(∀ρ' H',(∀K,C (i+1) K->K ρ' H')->N' ρ' H')->C i λ ρ H=>turn u ρ H N') (fh:C us.length N):forW turn us ρ H N:=
 nX (λ i ρ H=>∀K,C i K->K ρ H) h0 (λ i v ρ H e p N' k=>p _ (step i v N' e k)) λ ρ H p=>p _ fh
section
variable {lv:Nat}
theorem bN (h:wpE tb0 lv false e ρ H (λ v H'=>v=u/\H'=H) X) (k:wpSs tb0 lv r (ρ.set i (some u)) H N R X):wpSs tb0 lv (.assign (.loc i) e::r) ρ H N R X:=
 Em lU lv _ h (by rintro _ _ ⟨rfl,rfl⟩;exact k)
theorem bB (c:Bool) (h:wpE tb0 lv true t ρ H (λ v H'=>v=.bool c/\H'=H) X) (k1:c=true->wpSs tb0 lv b ρ H (λ ρ H=>wpSs tb0 lv r ρ H N R X) R X) (k2:c=false->wpSs tb0 lv o ρ H (λ ρ H=>wpSs tb0 lv r ρ H N R X) R X):wpSs tb0 lv (.ite t b o::r) ρ H N R X:=
 bj lU lv t (by rintro _ _ ⟨rfl,rfl⟩;exact kj k1 k2) (λ Z Z z=>z) h
theorem dP (C:(V->MH->Prop)->Prop) (h:∀K,C K->wpE tb0 lv false e ρ H K X) (k:C λ u H'=>wpSs tb0 lv r (ρ.set i (some u)) H' N R X):wpSs tb0 lv (.assign (.loc i) e::r) ρ H N R X:=h _ k
theorem eC (C:db->(db->MH->Prop)->Prop) (h:∀K,C ρ K->wpS tb0 lv s ρ H K R X) (k:C ρ λ ρ' H'=>wpSs tb0 lv r ρ' H' N R X):wpSs tb0 lv (s::r) ρ H N R X:=h _ k
@[reducible] def KH (lv:Nat) (t:T) (b r:List S) (ρ:db) (N:db->MH->Prop) (R:V->MH->Prop) (X:aw->MH->Prop) (u:V) (H:MH):Prop:=xu (itemsOf H u) λ us=>forW (λ v ρ1 H2 K=>assignT t v ρ1 H2 λ ρ2 H3=>wpSs tb0 lv b ρ2 H3 K (λ r H4=>R r (backOf H H4 u)) j9) us ρ (asideOf H u) λ ρ3 H4=>(∀a,u=.ref a->H4 a=none)->wpSs tb0 lv r ρ3 (backOf H H4 u) N R X
theorem CG (C:Nat->(db->MH->Prop)->Prop) (hi:itemsOf H u=some us) (h0:∀K,C 0 K->K ρ (asideOf H u))
  (step:∀i v N',us[i]?=some v->(∀ρ' H',(∀K,C (i+1) K->K ρ' H')->N' ρ' H')->C i λ ρ1 H2=>assignT t v ρ1 H2 λ ρ2 H3=>wpSs tb0 lv b ρ2 H3 N' (λ r H4=>R r (backOf H H4 u)) j9)
  (fh:C us.length λ ρ3 H4=>(∀a,u=.ref a->H4 a=none)->wpSs tb0 lv r ρ3 (backOf H H4 u) N R X):KH lv t b r ρ N R X u H:=
 qT hi (nX (λ i ρ H=>∀K,C i K->K ρ H) h0 (λ i v ρ H e p N' k=>p _ (step i v N' e k)) λ ρ H p=>p _ fh)
theorem IY (D:(V->MH->Prop)->Prop) (h:∀K,D K->wpE tb0 lv false it ρ H K X) (k:D (KH lv t b r ρ N R X)):wpSs tb0 lv (.for_ t it b::r) ρ H N R X:=h _ k
theorem ma (u:V) (C:Nat->(db->MH->Prop)->Prop) (h:∀K:V->MH->Prop,K u H->wpE tb0 lv false it ρ H K X) (hi:itemsOf H u=some us) (h0:∀K,C 0 K->K ρ (asideOf H u))
  (step:∀i v N',us[i]?=some v->(∀ρ' H',(∀K,C (i+1) K->K ρ' H')->N' ρ' H')->C i λ ρ1 H2=>assignT t v ρ1 H2 λ ρ2 H3=>wpSs tb0 lv b ρ2 H3 N' (λ r H4=>R r (backOf H H4 u)) j9)
  (fh:C us.length λ ρ3 H4=>(∀a,u=.ref a->H4 a=none)->wpSs tb0 lv r ρ3 (backOf H H4 u) N R X):wpSs tb0 lv (.for_ t it b::r) ρ H N R X:=h _ (CG C hi h0 step fh)
end
theorem yP {m i:Nat}:((m:Int) -1 -(i:Int)).toNat=m -1 -i:=(congrArg kc (Int.sub_sub ..)).trans ((Iz m (1+i)).trans (Nat.sub_sub ..).symm)
theorem LV:VC Dj 2 ps14 nm14 [] c14:=by
 intro us H Q X h
 refine Go (λ b h=>?_) h
 refine bx h λ hb q=>?_
 clear h
 have hl:=hb.2
 refine ⟨rfl,?_⟩
 refine bN (u:=.int ((b.length:Int) -1)) (by (refine aj (ao ‹_› (by decide)) ?_;refine aj rfl ?_;exact rfl)) ?_
 refine aj (by lia) (aj (by lia) (aj (by (refine af (ag _) (af bP ?_));lia) ?_))
 refine eQ (λ u=>match u with
  |.int i=>.int (b.getD ((b.length:Int) -1 -i).toNat 0)
  |_=>.none) (λ u R h=>h) (λ u hu R h=>?_) λ c hc=>?_
 ·refine aL (bE.mp hu) λ i hi r1_=>?_
  subst r1_
  have hi:=ca.mp hi
  exact aj ⟨by lia,by lia,ao ‹_› (by decide)⟩ h
 ·refine ⟨b.reverse,?_,⟨λ x hx=>hb.1 x (DY.mp hx),by exact af jK hl⟩,DU (bZ hc) q⟩
  refine (MH.set_self _ _ _).trans (congrArg (λ l=>some (bK.list l)) ?_)
  refine List.ext_getElem (by simp) λ i h1 h2=>?_
  have hb':i<b.length:=by simpa using h2
  simp only [dy,List.getElem_map,fv,List.getElem_reverse]
  refine af yP (af (aJ) (af (an (fF (uM ..) (Nat.sub_lt (Nat.zero_lt_of_lt hb') Nat.one_pos))) ?_));rfl
theorem Nn:VC E0 3 ps15 nm15 [] c15:=by
 intro us H Q X h
 refine KB (λ b o h=>?_) h
 refine gK h λ hb ho q=>?_
 clear h
 refine ⟨rfl,?_⟩
 refine bB (decide (o="big")) ⟨rfl,rfl⟩ (λ h=>?_) λ h=>?_
 ·cases of_decide_eq_true h
  exact bS Jm ⟨hb,fg q⟩
 ·have h:=of_decide_eq_false h
  cases ho.resolve_left h
  refine bB true ⟨rfl,rfl⟩ (λ Z=>?_) (λ z=>aM z)
  refine bS M0 ⟨hb,bS Jm ⟨⟨λ x hx=>hb.1 x (DY.mp hx),by exact af jK hb.2⟩,fg ?_⟩⟩
  unfold numIn at q
  rw [if_neg h] at q
  exact q
theorem Md:VC Ec 2 ps16 nm16 [] c16:=by
 intro us H Q X h
 refine IG (λ o g h=>?_) h
 refine ⟨rfl,kj (λ e=>fg ?_) λ e=>fg ?_⟩
 ·rw [if_pos (of_decide_eq_true e)] at h;exact h
 ·rw [if_neg (of_decide_eq_false e)] at h;exact h
theorem Me:VC CT 2 ps80 nm80 [] c80:=by
 intro us H Q X h
 refine Kd (λ Z k h=>?_) h
 refine fy h λ zs r1_ h0 h1 t2_=>(bx t2_ λ h2 q=>?_)
 clear h t2_
 subst r1_
 refine ⟨rfl,?_⟩
 have hl:(zs.map V.int).length=zs.length:=ag ..
 unfold digit at q
 refine ⟨by refine af hl ?_;exact ao ‹_› (by decide),kj (λ e=>?_) λ e=>?_⟩
 ·have e:=of_decide_eq_true e
  rw [hl] at e
  rw [if_pos e] at q
  refine ji (u:=V.int (zs.getD k.toNat 0)) (wc ⟨h0,dL ‹_› (by decide)⟩ ?_) ?_
  ·have hk:k.toNat<zs.length:=by lia
   refine af (aF) (af (aJ) (af (an hk) ?_));rfl
  exact aj (of_decide_eq_true rfl) (fg q)
 ·have e:=of_decide_eq_false e
  rw [hl] at e
  rw [if_neg e] at q
  exact fg q
theorem L7:VC E8 2 ps21 nm21 [] c21:=by
 intro us H Q X h
 refine JX (λ x n a b h=>?_) h
 refine ⟨rfl,?_⟩
 exact fg h
theorem Mo:VC CE 2 ps27 nm27 [] c27:=by
 intro us H Q X h
 refine rG (λ a h=>?_) h
 refine cJ h λ vs h1 h2 q=>?_
 refine ⟨rfl,?_⟩
 refine bB (decide ((vs.length:Int)=1)) (by (refine kF (by assumption) (ao ‹_› (by decide)) ?_;refine aj rfl ?_;exact rfl)) (λ h=>?_) λ h=>?_
 ·have h:=of_decide_eq_true h
  refine bw (List.length_eq_one_iff.mp (Il.mp h)) λ u e=>?_
  subst e
  exact cZ h1 rfl (fg q)
 ·have h:=of_decide_eq_false h
  refine ⟨vs,h1,ao ‹_› (by decide),fg ?_⟩
  clear h1
  cases vs with
  |nil=>exact q
  |cons u r=>cases r with
   |nil=>exact absurd rfl h
   |cons v r=>exact q
theorem Ho (h1:a=b->Q (.tuple [.int a]) H) (h2:a≠b->Q .none H):vi [.tuple [.tuple [.int a,.int b]]] H Q X:=by
 by_cases e:a=b
 ·have:=h1 e
  unfold vi;simp only [Ij,nC,vT,vI,nN,if_pos e];exact this
 ·have:=h2 e
  unfold vi;simp only [Ij,nC,vT,vI,nN,if_neg e];exact this
theorem MJ:VC vi 2 ps41 nm41 [] c41:=by
 intro us H Q X h
 refine JM (λ a b h=>?_) h
 refine ⟨rfl,?_⟩
 refine aj rfl (kj (λ e=>fg ?_) λ e=>?_)
 ·rw [if_neg (by simpa using e)] at h;exact h
 ·rw [if_pos (by simpa using e)] at h
  exact ⟨of_decide_eq_true rfl,λ Z=>fg h⟩
theorem vG (j:Nat):((2:Int)^j)=((2^j:Nat):Int):=by push_cast;rfl
theorem xv (j:Nat):mh ((2:Int)^j) (2^j -1)=0:=by
 have h:=GB j
 have e1:((2:Int)^j).toNat=2^j:=by refine af (vG _) ?_;rfl
 have e2:((2:Int)^j -1).toNat=2^j -1:=by refine af (vG _) ?_;exact Iz (2^j) 1
 unfold mh
 (refine af (decide_eq_true (by have:=gn j;exact aT _)) (af (decide_eq_true (by have:=gn j;exact nl ‹_›)) ?_))
 dsimp only
 refine af e1 (af e2 (af (Nat.and_two_pow_sub_one_eq_mod _ _) (af (Nat.mod_self _) ?_)));rfl
theorem N4:VC KG 2 ps1 nm1 [] c1:=by
 intro us H Q X h
 refine J0 (λ low Z aA h=>?_) h
 refine fy h λ j hj r1_ h0 t2_=>(wb t2_ λ h1 h2 h3 h4 q=>?_)
 clear h t2_
 subst r1_
 refine ⟨rfl,?_⟩
 have p2:=gn j
 refine bN (u:=.int (2^j)) ⟨congrArg V.int (by lia),rfl⟩ (bB false ?_ (λ z=>aM z) λ Z=>?_)
 ·refine tG (decide_eq_false (by lia)) (tG (by refine af (xv _) ?_;rfl) (p8 (decide_eq_true p2) (tG (by refine af h1 ?_;rfl) ⟨h2,tG ?_ ⟨rfl,rfl⟩⟩)))
  refine af (Int.ediv_eq_zero_of_lt (by lia) h4) ?_;rfl
 refine bN (u:=.int aA) ⟨rfl,rfl⟩ (eC (λ ρ K=>K [some (.int low),some (.int (low+2^j -1)),some (.int aA),some (.int 1),some (.int (aA -j))] H) (λ K kk=>⟨j+1,wH (λ n K=>K [some (.int low),some (.int (low+2^j -1)),some (.int aA),some (.int (2^n)),some (.int (aA -j+n))] H) ?_ j ?_⟩) ?_)
 ·intro n K k
  refine k _ _ (λ e=>?_) (λ e=>?_)
  ·have e:=of_decide_eq_true e
   obtain ⟨m,rfl⟩:∃m,n=m+1:=by
    cases n with
    |zero=>simp at e
    |succ n=>exact ⟨n,rfl⟩
   have e1:(2:Int)^(m+1)/2^(1:Int).toNat=2^m:=(congrArg (·/(2:Int)) (jR 2 m)).trans (Int.mul_ediv_cancel _ (by decide))
   have e2:aA -(j:Int)+((m+1:Nat):Int) -1=aA -j+(m:Int):=by lia
   refine ⟨mr m,λ N' k'=>⟨by decide,k' _ _ λ K k=>?_⟩⟩
   show K [_,_,_,some (V.int ((2:Int)^(m+1)/2^(1:Int).toNat)),some (V.int (aA -(j:Int)+((m+1:Nat):Int) -1))] _
   refine af e1 (af e2 ?_);exact k
  ·have e:=of_decide_eq_false e
   have hn:n=0:=by
    cases n with
    |zero=>rfl
    |succ n=>
     exfalso;apply e
     have:=gn n
     refine af (jR _ _) ?_;lia
   subst hn
   refine af (Int.pow_zero _) (af (show aA -(j:Int)+((0:Nat):Int)=aA -j from Int.add_zero _) ?_);exact kk
 ·intro K k
  rw [DD] at k;exact k
 ·exact fg q
theorem LP:VC Dc 2 ps83 nm83 [] c83:=by
 intro us H Q X h
 refine GV (λ p m h=>?_) h
 refine gK h λ h0 h1 q=>?_
 clear h
 refine ⟨rfl,?_⟩
 have hl:0<=p/3 %65536/\p/3 %65536<65536:=⟨aR _ (by decide),aN _ (by decide)⟩
 refine bN (u:=.int (p/3 %65536)) (by (refine aj rfl ?_;exact rfl)) ?_
 unfold portsOf at q
 refine bB (decide (p %3=0)) (by (refine aj rfl ?_;exact rfl)) (λ h=>?_) λ h=>?_
 ·rw [if_pos (of_decide_eq_true h)] at q
  exact fg q
 ·rw [if_neg (of_decide_eq_false h)] at q
  show br (decide (p %3=2)) _ _
  refine kj (λ e=>?_) (λ e=>?_)
  ·rw [if_pos (of_decide_eq_true e)] at q
   exact p8 (decide_eq_true (by lia)) (fg q)
  ·rw [if_neg (of_decide_eq_false e)] at q
   exact fg q
theorem gY (h:k<=16):io (octets n k):=by
 unfold octets
 refine ⟨λ x hx=>?_,by simp;exact eU ‹_› (by decide)⟩
 refine aL (bE.mp hx) λ i Z r1_=>?_
 subst r1_
 exact ⟨aR _ (by decide),aN _ (by decide)⟩
theorem Mf:VC Co 2 ps81 nm81 [] c81:=by
 intro us H Q X h
 refine GV (λ n k h=>?_) h
 refine oB h λ h0 h1 h2 q=>?_
 clear h
 refine bw (bL h1) λ m r1_=>?_
 subst r1_
 refine ⟨rfl,?_⟩
 intro c hc
 refine eC (λ ρ K=>∀a b H',H' c=some (.list ((bH m).map λ (i:Nat)=>.int (n/256^i %256)))->MH.Sub H H'->K [some (.int a),some (.int m),some (.ref c),b] H') (λ K kk=>?_) ?_
 ·refine aj (of_decide_eq_true rfl) (aj (by lia) (xl (λ i K=>∀a b H',a=n/256^i->H' c=some (.list ((bH i).map λ (i:Nat)=>.int (n/256^i %256)))->MH.Sub H H'->K [some (.int a),some (.int m),some (.ref c),b] H') (λ K k=>k n none _ ?_ (MH.set_self _ _ _) (bZ hc)) ?_ ?_))
  ·exact af (Int.pow_zero _) (af (Int.ediv_one _) rfl)
  ·intro i u N' e k a b H1 ha h1 s1
   have hi:i<m:=by have:=(aO.mp e).1;simpa using this
   have hn:(0:Int)<=256^i:=by refine af (uz _) ?_;exact fB (gn _)
   show wpE _ _ _ _ _ _ _ _
   refine jD (by rfl) (mM h1) (Cn h1 ?_ ?_)
   ·refine af (ag _) (af bP ?_);lia
   refine ⟨rfl,k _ _ λ K k=>k _ u _ ?_ ?_ (a7 s1 hc)⟩
   ·exact af ha (af (xa hn) (af (iP (jR _ _)) rfl))
   ·refine af ml (af bh (af ha ?_));exact MH.set_self _ _ _
  ·intro a b H1 ha h1 s1 _
   rw [ag,bP] at h1
   exact kk _ _ _ h1 s1
 intro a b H1 hc1 s1
 refine aj (of_decide_eq_true rfl) (aj (by lia) (aj (by (refine af (ag _) (af bP ?_));lia) ?_))
 refine eQ (λ u=>match u with
  |.int i=>.int (n/256^((m:Int) -1 -i).toNat %256)
  |_=>.none) (λ u R h=>h) (λ u hu R h=>?_) λ d hd=>?_
 ·refine aL (bE.mp hu) λ i hi r1_=>?_
  subst r1_
  have hi:=ca.mp hi
  exact cZ hc1 (wc ⟨by lia,by lia⟩ (by (refine af (aF) (af (List.getElem?_range (by lia)) ?_));rfl)) h
 ·refine ⟨octets n m,?_,gY h2,DU (a7 s1 (s1.none hd)) q⟩
  ·refine (MH.set_self _ _ _).trans (congrArg (λ l=>some (bK.list l)) ?_)
   refine af (dy _) (af cD ?_)
   unfold octets
   refine af cD ?_
   refine gu λ i hi=>?_
   have hi:=ca.mp hi
   show V.int (n/256^((m:Int) -1 -(i:Int)).toNat %256)=V.int _
   refine af yP ?_;rfl
structure N7 (r:aI) (z:RS):Prop where
 n1:z.slots≠r
 n2:z.slots≠z.pend
 n3:z.slots≠z.stmts
 n4:z.slots≠z.dropped
 n5:z.known≠r
 n6:z.known≠z.pend
 n7:z.known≠z.stmts
 n8:z.known≠z.dropped
 n9:r≠z.pend
 n10:r≠z.stmts
 n11:r≠z.dropped
section
variable {z:RS}
theorem dZ.at_r (h:dZ B H r z):H r=some (.inst (.cls 3) z.d z.attrs):=h.obj
theorem dZ.ne (h:dZ B H r z):N7 r z:=by
 refine cu h.lists λ S P h1 h2 Z=>?_
 have h3:=h.dropped
 have h0:=h.at_r
 have hs:∃o,H z.slots=some o/\(∀l,o≠.list l)/\∀c d as,o≠.inst c d as:=by
  rcases h.slots with ⟨e,_⟩|⟨f,k,e,_⟩<;>exact ⟨_,e,λ Z q=>(nomatch q),λ Z Z Z q=>(nomatch q)⟩
 have hk:∃o,H z.known=some o/\(∀l,o≠.list l)/\∀c d as,o≠.inst c d as:=by
  rcases h.known with e|⟨_,_,e⟩<;>exact ⟨_,e,λ Z q=>(nomatch q),λ Z Z Z q=>(nomatch q)⟩
 refine cJ hs λ o1 e1 l1 i1=>?_
 clear hs
 refine cJ hk λ o2 e2 l2 i2=>?_
 clear hk
 refine ⟨λ q=>?_,λ q=>?_,λ q=>?_,λ q=>?_,λ q=>?_,λ q=>?_,λ q=>?_,λ q=>?_,λ q=>?_,λ q=>?_,λ q=>?_⟩
 ·rw [q,h0] at e1;(have e1:=ac e1;subst e1);exact i1 _ _ _ rfl
 ·rw [q,h1] at e1;(have e1:=ac e1;subst e1);exact l1 _ rfl
 ·rw [q,h2] at e1;(have e1:=ac e1;subst e1);exact l1 _ rfl
 ·rw [q,h3] at e1;(have e1:=ac e1;subst e1);exact l1 _ rfl
 ·rw [q,h0] at e2;(have e2:=ac e2;subst e2);exact i2 _ _ _ rfl
 ·rw [q,h1] at e2;(have e2:=ac e2;subst e2);exact l2 _ rfl
 ·rw [q,h2] at e2;(have e2:=ac e2;subst e2);exact l2 _ rfl
 ·rw [q,h3] at e2;(have e2:=ac e2;subst e2);exact l2 _ rfl
 ·rw [q,h1] at h0;exact oJ h0 rfl
 ·rw [q,h2] at h0;exact oJ h0 rfl
 ·rw [q,h3] at h0;exact oJ h0 rfl
theorem Dm:alSet z.attrs (aa "pending") (.ref c)={z with pend:=c}.attrs:=rfl
theorem zK (h:dZ B H r z) (e:z.sl g=some t) (q:Q t.v H):subR z.slots (.int g) H Q:=by
 rcases h.slots with ⟨_,e2⟩|⟨f,k,e1,_,e2⟩
 ·rw [e2] at e;exact bF e
 ·exact BO e1 (by (refine af (e2 _) (af e ?_));rfl) q
theorem BG (h:dZ B H r z) (q:QB (z.sl g).isSome):inV (.int g) (.ref z.slots) H QB:=by
 rcases h.slots with ⟨e1,e2⟩|⟨f,k,e1,_,e2⟩
 ·rw [e2] at q;exact Cq e1 q
 ·exact FL e1 (by (refine af (e2 _) (af Bp ?_));exact q)
theorem dZ.slotsUpd (h:dZ B H r z) (hs:d7 (H.set z.slots o) z.slots sl n):dZ B (H.set z.slots o) r {z with sl:=sl,n:=n}:=by
 obtain ⟨n1,n2,n3,n4,n5,n6,n7,n8,n9,n10,n11⟩:=h.ne
 refine cu h.lists λ S P h1 h2 h3=>⟨a7 h.keep h.news,h.newr,h.news,h.newk,h.newp,h.newt,?_,hs,?_,⟨S,P,?_,?_,h3⟩,h.ord,h.top,?_,h.nsk,h.npt,h.ndp,h.ndt⟩
 ·exact af (MH.set_ne _ _ n1.symm) h.obj
 ·unfold dx;exact af (MH.set_ne _ _ h.nsk.symm) h.known
 ·exact af (MH.set_ne _ _ n2.symm) h1
 ·exact af (MH.set_ne _ _ n3.symm) h2
 ·exact af (MH.set_ne _ _ n4.symm) h.dropped
theorem oY (h:dZ B H r z) (hu:u=x.v) (hn:z.n<=100000) (k:∀H',dZ B H' r {z with sl:=z.sl.put g x,n:=z.n+1}->QN H'):eI (.ref z.slots) (.int g) u H QN:=by
 subst hu
 rcases h.slots with ⟨e1,e2⟩|⟨f,m,e1,hm,e2⟩
 ·refine yq e1 (k _ (h.slotsUpd (.inr ⟨_,_,MH.set_self _ _ _,mr _,λ i=>?_⟩)))
  unfold c7.put
  split
  ·rfl
  ·refine af (e2 _) ?_;rfl
 ·refine C8 e1 (ao ‹_› ‹_›) (k _ (h.slotsUpd (.inr ⟨_,_,MH.set_self _ _ _,cw ‹_›,λ i=>?_⟩)))
  unfold c7.put
  split
  ·rfl
  ·exact e2 i
end
theorem MT:VC CZ 2 ps24 nm24 [] c24:=by
 intro us H Q X h
 refine B7 (λ r g h=>?_) h
 refine f7 h λ B z h_ q=>?_
 clear h
 revert h_;intro h
 have hr:=h.at_r
 refine ⟨rfl,bB (!(z.sl g).isSome) ?_ (λ e=>?_) λ e=>?_⟩
 ·refine cF (by assumption) rfl ?_
  show inV _ _ _ _
  exact BG h ⟨rfl,rfl⟩
 ·have e:z.sl g=none:=by simpa using e
  rw [e] at q
  exact Ls q
 ·obtain ⟨t,e⟩:∃t,z.sl g=some t:=by
   cases w:z.sl g with
   |none=>rw [w] at e;cases e
   |some t=>exact ⟨t,rfl⟩
  rw [e] at q
  refine cF (by assumption) rfl ?_
  exact zK h e (fg q)
theorem Nj:VC Dk 3 ps25 nm25 [] c25:=by
 intro us H Q X h
 refine B7 (λ r g h=>?_) h
 refine f7 h λ B z h_ q=>?_
 clear h
 revert h_;intro h
 refine ⟨rfl,?_⟩
 cases e:z.sl g with
 |none=>
  rw [e] at q
  refine bS JZ ⟨B,z,h,?_⟩
  refine af e ?_;exact Ls q
 |some t=>
  rw [e] at q
  refine bN (u:=t.v) ?_ ?_
  ·refine bS JZ ⟨B,z,h,?_⟩
   exact af e ⟨rfl,rfl⟩
  refine bB false ?_ (λ z=>aM z) λ e=>fg q.2
  exact aj (by lia) rfl
theorem M7:VC A0 2 ps31 nm31 [] c31:=by
 intro us H Q X h
 refine IX (λ r tag g name size order h=>?_) h
 refine jO h λ B z h_ hn hl q=>?_
 clear h
 revert h_;intro h
 have hr:=h.at_r
 refine ⟨rfl,?_⟩
 skip
 exact aj (show 5+name.length<=bG by unfold bG;lia) (cF (by assumption) rfl (oY (x:=⟨"field",[.str ("meta "++name)],order,size⟩) h rfl (ao ‹_› (by decide)) λ H' h'=>fg (q H' h')))
theorem Ng:VC Aq 2 ps32 nm32 [] c32:=by
 intro us H Q X h
 refine IR (λ r tag g b h=>?_) h
 refine jO h λ B z h_ hn hl q=>?_
 clear h
 revert h_;intro h
 have hb:=hl.2
 have hr:=h.at_r
 refine ⟨rfl,?_⟩
 exact aj (ao ‹_› (by decide)) (cF (by assumption) rfl (oY (x:=⟨"raw",[.bytes b],"big",b.length⟩) h rfl (ao ‹_› (by decide)) λ H' h'=>fg (q H' h')))
theorem kz {H:MH} (h:H a=some o):H.set a o=H:=by
 funext b
 by_cases q:b=a
 ·subst q;(exact af (MH.set_self _ _ _) (af h rfl))
 ·exact af (MH.set_ne _ _ q) rfl
theorem qL {ρ H N R X} (h:wpE tb0 lv true t ρ H (λ v H'=>v=.bool false/\H'=H) j9) (k:wpSs tb0 lv r ρ H N R X):wpSs tb0 lv (.while_ t b::r) ρ H N R X:=
 ⟨1,bj lU lv t (by rintro _ _ ⟨rfl,rfl⟩;exact k) (λ Z Z z=>z) h⟩
theorem D9 {S:List (Int×V)} (h:S.length<=10000):ix ((S++[p]).map stV) (((S++[p]).length:Int) -1)=some (stV p):=by
 refine wc ⟨by (refine af az (af aV ?_));lia,by (refine af az (af aV ?_));lia⟩ ?_
 refine af az (af aV (af (show (((S.length+1:Nat):Int) -1).toNat=S.length by lia) (af (aF) (af (fW (bW _)) ?_))))
 simp
theorem Ma:VC Ei 2 ps19 nm19 [] c19:=by
 intro us H Q X h
 refine KQ (λ a t st h=>?_) h
 refine fy h λ S h1 h2 h3 q=>?_
 clear h
 have hl:(S.map stV).length=S.length:=ag ..
 refine ⟨rfl,?_⟩
 refine bN (u:=.int S.length) (kF h1 (by lia) ⟨congrArg (λ n:Nat=>V.int n) hl,rfl⟩) (qL ?_ ?_)
 ·rcases yd S with rfl|⟨S',p,rfl⟩
  ·exact ⟨rfl,rfl⟩
  ·have hp:=h3 p (by simp)
   rw [yf] at*
   refine FW (decide_eq_true (by (refine af az (af aV ?_));lia)) ?_
   refine cZ h1 (D9 (by rw [az] at h2;exact fE ‹_›)) ?_
   exact xp (decide_eq_false (by lia)) ⟨rfl,rfl⟩
 ·show wpE _ _ _ _ _ _ _ _
  refine jD (by rfl) (Gn h1) ⟨S.map stV,h1,by lia,aT _,by lia,rfl,fg ?_⟩
  rw [bh] at q
  refine af (show ((S.length:Int)).toNat=S.length by lia) (af (iw (gm hl)) (af (List.drop_of_length_le (gm hl)) ?_))
  exact q
theorem Mh:VC Et 2 ps20 nm20 [] c20:=by
 intro us H Q X h
 refine Jv (λ a Z k t h=>?_) h
 refine gK h λ r1_ h1 q=>?_
 clear h
 subst r1_
 refine ⟨rfl,?_⟩
 rcases h1 with e|⟨x,y,e⟩
 ·refine bB true (by (show inV _ _ _ _;refine De (by assumption) ?_;refine aj rfl ?_;exact rfl)) (λ Z=>?_) (λ z=>aM z)
  exact yT e (fg (q _ _))
 ·refine bB (decide (x<t)) ?_ (λ Z=>?_) λ Z=>?_
  ·refine Gk e (xD e rfl ?_)
   exact Jw (λ h=>⟨congrArg V.bool h.symm,rfl⟩) λ h=>⟨congrArg V.bool h.symm,rfl⟩
  ·exact Db e (of_decide_eq_true rfl) (fg (q _ _))
  ·have:=q x y
   rw [kz e] at this
   exact fg this
theorem uo {S:List (Int×V)} (h:(S++P).Pairwise λ a b=>a.1<=b.1) (e:P[i]?=some p):∀q∈S++P.take i,q.1<=p.1:=by
 intro q hq
 have hsplit:P=P.take i++(p::P.drop (i+1)):=by
  have hi:=(aO.mp e).1
  have:=cC hi
  rw [an hi] at e;(have e:=ac e;subst e)
  exact af this.symm (af (dA _ _) rfl)
 rw [hsplit,<-eS] at h
 exact (dQ.mp h).2.2 q hq p (.head _)
theorem Mg:VC C1 3 ps22 nm22 [] c22:=by
 intro us H Q X h
 refine rG (λ r h=>?_) h
 refine cu h λ B z h_ hlen q=>?_
 clear h
 revert h_;intro h
 refine cu h.lists λ S P hp hs heff=>?_
 obtain ⟨n1,n2,n3,n4,n5,n6,n7,n8,n9,n10,n11⟩:=h.ne
 have npt:=h.npt
 have hr:=h.at_r
 refine ⟨rfl,?_⟩
 refine ma (.ref z.pend) (us:=P.map needV) (λ i K=>∀x H',dx H' z.known->H' z.stmts=some (.list ((S++(P.take i).map needSt).map stV))->(∀b,b≠z.known->b≠z.stmts->H' b=(H.del z.pend) b)->K [some (.ref r),x] H') (λ K k=>?_) (l7 hp) (λ K k=>k none _ ?_ ?_ λ b Z Z=>rfl) ?_ ?_
 ·exact cF (by assumption) rfl k
 ·unfold dx;(refine af Ha (af (MH.del_ne _ n6) ?_));exact h.known
 ·refine af Ha (af (MH.del_ne _ npt.symm) ?_);simpa using hs
 ·intro i u N' e k x H1 hk1 hs1 ho1
  rw [aF] at e
  refine aL (aH.mp e) λ p hpi r1_=>?_
  subst r1_
  have hr1:H1 r=some (.inst (.cls 3) z.d z.attrs):=by
   refine af (ho1 r n5.symm n10) (af (MH.del_ne _ n9) ?_);exact hr
  have hord:∀q∈S++(P.take i).map needSt,q.1<=p.2:=by
   have h0:=h.ord
   rw [heff] at h0
   have:=uo (i:=i) (p:=needSt p) h0 (by (refine af (aF) (af hpi ?_));rfl)
   refine af jh ?_
   exact this
  refine bB false (by (refine aj rfl ?_;exact rfl)) (λ z=>aM z) (λ Z=>?_)
  refine cF (by assumption) rfl ?_
  refine aj (of_decide_eq_true rfl) ?_
  refine aj (by assumption) ?_
  intro x y
  have hz:(S++(P.take i).map needSt).length<=10000:=by
   rw [heff] at hlen
   simp only [az,ag,bU] at hlen⊢
   lia
  refine aj rfl ?_
  refine cF ((MH.set_ne _ _ (fT (by assumption))).trans (by assumption)) rfl ?_
  refine fZ _ (aj ((MH.set_ne _ _ (fT (by assumption))).trans (by assumption)) ?_)
  refine aj (by assumption) ?_
  refine aj (by assumption) ?_
  refine aj rfl ?_
  refine k _ _ λ K k=>k _ _ (.inr ⟨_,_,(MH.set_ne _ _ n7).trans (MH.set_self _ _ _)⟩) ((MH.set_self _ _ _).trans ?_) λ b b1 b2=>?_
  ·refine af dp (af hpi (af (bh (f:=needSt)) (af (iP (eS _ _ _)) ?_)));rfl
  ·refine af (MH.set_ne _ _ b2) (af (MH.set_ne _ _ b1) ?_);exact ho1 b b1 b2
 ·intro x H0 hk0 hs0 ho0 _
  rw [ag,c8,<-heff] at hs0
  refine af (lQ hp) ?_
  have ho1:∀b,b≠z.known->b≠z.stmts->(H0.set z.pend (.list (P.map needV))) b=H b:=λ b b1 b2=>by
   by_cases b3:b=z.pend
   ·subst b3;(exact af (MH.set_self _ _ _) (af hp rfl))
   ·exact af (MH.set_ne _ _ b3) (af (ho0 b b1 b2) (af (MH.del_ne _ b3) rfl))
  have hk1:dx (H0.set z.pend (.list (P.map needV))) z.known:=by unfold dx;exact af (MH.set_ne _ _ n6) hk0
  have hs1:(H0.set z.pend (.list (P.map needV))) z.stmts=some (.list (z.eff.map stV)):=(MH.set_ne _ _ npt.symm).trans hs0
  generalize H0.set z.pend (.list (P.map needV))=H1 at*
  have hr1:H1 r=some (.inst (.cls 3) z.d z.attrs):=(ho1 r n5.symm n10).trans hr
  intro c hc
  have oc:∀{b o},H1 b=some o->b≠c:=λ e q=>by rw [q,hc] at e;exact bF e
  have cr:r≠c:=oc hr1
  have ck:z.known≠c:=hk1.elim oc λ ⟨_,_,e⟩=>oc e
  have ct:z.stmts≠c:=oc hs1
  have hd1:H1 z.dropped=some (.list []):=(ho1 _ n8.symm h.ndt).trans h.dropped
  have cd:z.dropped≠c:=oc hd1
  have hsl:d7 H1 z.slots z.sl z.n:=by
   unfold d7;exact af (ho1 _ h.nsk n3) h.slots
  have cs:z.slots≠c:=hsl.elim (λ e=>oc e.1) λ ⟨_,_,e,_⟩=>oc e
  refine kf ((MH.set_ne _ _ cr).trans hr1) rfl rfl (fg ?_)
  have keep1:MH.Sub B H1:=λ a o e=>by
   have a1:a≠z.known:=cH e h.newk b7
   have a2:a≠z.stmts:=cH e h.newt b7
   refine af (ho1 a a1 a2) ?_;exact h.keep a o e
  have Bc:B c=none:=keep1.none hc
  have two:∀{b},b≠r->b≠c->∀{o1 o2},((H1.set c o1).set r o2) b=H1 b:=λ {b} h1 h2 {o1 o2}=>(MH.set_ne _ _ h1).trans (MH.set_ne _ _ h2)
  refine af Dm ?_
  refine q c _ ⟨a7 (a7 keep1 Bc) h.newr,h.newr,h.news,h.newk,Bc,h.newt,MH.set_self _ _ _,?_,?_,⟨z.eff,[],(MH.set_ne _ _ cr.symm).trans (MH.set_self _ _ _),(two n10.symm ct).trans hs1,by simp⟩,h.ord,h.top,(two n11.symm cd).trans hd1,h.nsk,ct.symm,cd,h.ndt⟩ ((MH.set_ne _ _ cr.symm).trans (MH.set_self _ _ _))
  ·show d7 _ z.slots z.sl z.n
   unfold d7;exact af (two n1 cs) hsl
  ·show dx _ z.known
   unfold dx;exact af (two n5 ck) hk1
theorem dZ.flushed (h:dZ B H r z) (e:H z.pend=some (.list [])):H z.stmts=some (.list (z.eff.map stV)):=by
 refine cu h.lists λ S P h1 h2 h3=>?_
 rw [e] at h1
 have:P=[]:=by
  have:P.map needV=[]:=by cases P<;>first|rfl|cases h1
  simpa using this
 subst this
 refine af h3 ?_;simpa using h2
theorem dZ.push (h:dZ B H r z) (e:H z.pend=some (.list [])):dZ B (H.set z.stmts (.list ((z.eff++[(z.at_,st)]).map stV))) r {z with eff:=z.eff++[(z.at_,st)]}:=by
 obtain ⟨n1,n2,n3,n4,n5,n6,n7,n8,n9,n10,n11⟩:=h.ne
 refine ⟨a7 h.keep h.newt,h.newr,h.news,h.newk,h.newp,h.newt,?_,?_,?_,⟨z.eff++[(z.at_,st)],[],?_,MH.set_self _ _ _,by simp⟩,?_,?_,?_,h.nsk,h.npt,h.ndp,h.ndt⟩
 ·exact af (MH.set_ne _ _ n10) h.obj
 ·show d7 _ z.slots z.sl z.n
  unfold d7;exact af (MH.set_ne _ _ n3) h.slots
 ·show dx _ z.known
  unfold dx;exact af (MH.set_ne _ _ n7) h.known
 ·show MH.set _ _ _ z.pend=_
  exact af (MH.set_ne _ _ h.npt) e
 ·refine dQ.mpr ⟨h.ord,by simp,λ a ha b hb=>?_⟩
  simp at hb;subst hb
  exact h.top a ha
 ·intro p hp
  rcases cv.mp hp with hp|hp
  ·exact h.top p hp
  ·simp at hp;subst hp;exact jm _
 ·show MH.set _ _ _ z.dropped=_
  exact af (MH.set_ne _ _ h.ndt) h.dropped
theorem Ms:VC BR 4 ps23 nm23 [] c23:=by
 intro us H Q X h
 refine HF (λ r st h=>?_) h
 refine cu h λ B z h_ hlen q=>?_
 clear h
 revert h_;intro h
 refine ⟨rfl,?_⟩
 refine bS Kh ⟨B,z,h,hlen,λ c H' h' hc=>?_⟩
 have hr:=h'.at_r
 refine aj rfl ?_
 refine cF (by assumption) rfl ?_
 refine cF (by assumption) rfl ?_
 exact ⟨z.eff,h'.flushed hc,ao ‹_› (by decide),h'.top,rfl,fg (q c _ (h'.push hc))⟩
theorem Nk:VC z7 5 ps36 nm36 [] c36:=by
 intro us H Q X h
 refine HF (λ r st h=>?_) h
 refine cu h λ B z h_ hlen q=>?_
 clear h
 revert h_;intro h
 refine ⟨rfl,?_⟩
 exact bS JF ⟨B,z,h,hlen,λ c H' h'=>⟨rfl,fg (q c H' h')⟩⟩
theorem Nd:VC D8 4 ps26 nm26 [] c26:=by
 intro us H Q X h
 refine Je (λ r b o h=>?_) h
 refine jO h λ B z h_ hb ho q=>?_
 clear h
 revert h_;intro h
 have hr:=h.at_r
 refine ⟨rfl,?_⟩
 refine cF (by assumption) rfl ?_
 refine aj (by assumption) ?_
 refine aj (by assumption) ?_
 exact fg q
theorem MU:VC D6 2 ps33 nm33 [] c33:=by
 intro us H Q X h
 refine KX (λ r tag rest op n h=>?_) h
 refine bx h λ ht q=>?_
 clear h
 refine ⟨rfl,bB false ?_ (λ z=>aM z) λ Z=>fg q⟩
 skip
 exact xp (decide_eq_false (show ¬tag=aa "mask" from ht)) ⟨rfl,rfl⟩
theorem d7.sub {a sl n} (s:MH.Sub H H'):d7 H a sl n->d7 H' a sl n:=zg (And.imp_left (s _ _)) (cg λ f=>cg λ k=>And.imp_left (s _ _))
theorem dx.sub {a} (s:MH.Sub H H'):dx H a->dx H' a:=zg (s _ _) (cg λ x=>cg λ y=>s _ _)
theorem dZ.sub {r z} (s:MH.Sub H H') (h:dZ B H r z):dZ B H' r z:=
 ⟨h.keep.trans s,h.newr,h.news,h.newk,h.newp,h.newt,s _ _ h.obj,h.slots.sub s,h.known.sub s,h.lists.imp λ S=>cg λ P=>nK (s _ _) (And.imp_left (s _ _)),h.ord,h.top,s _ _ h.dropped,h.nsk,h.npt,h.ndp,h.ndt⟩
theorem kh.sub {v x} (s:MH.Sub H H'):kh H v x->kh H' v x:=cg λ a=>cg λ d=>cg λ c=>bV (s _ _)
theorem ek.sub {st b8} (s:MH.Sub H H'):ek H st b8->ek H' st b8:=cg λ d=>cg λ tb=>nK (s _ _) (nK (zg (And.imp_left (s _ _)) (s _ _)) (And.imp_left λ c p hp=>(c p hp).sub s))
theorem gy.sub {st b8} (s:MH.Sub H H'):gy H st b8->gy H' st b8:=cg λ d=>cg λ it=>nK (s _ _) (nK (s _ _) (And.imp_left λ c p hp=>(c p hp).sub s))
theorem lF.sub {v ls} (s:MH.Sub H H'):lF H v ls->lF H' v ls:=cg λ b=>cg λ d=>cg λ as=>cg λ st=>cg λ b8=>bV (nK (s _ _) (bV (And.imp_left (zg (·.sub s) (·.sub s)))))
theorem cE.sub {a T} (s:MH.Sub H H'):cE H a T->cE H' a T:=zg (And.imp_left (s _ _)) (cg λ es=>nK (s _ _) (bV (bV λ g n ls q=>(g n ls q).imp λ v=>bV (·.sub s))))
theorem nQ {α:Type} {f:α->Int} {x y:α} {r:List α}:ins f x (y::r)=if f x<f y then x::y::r else y::ins f x r:=rfl
theorem yA {α β:Type} {f:β->Int} {g:α->β} {x:α}:∀{l:List α},(ins (λ a=>f (g a)) x l).map g=ins f (g x) (l.map g)
 |[]=>rfl
 |y::r=>by
  refine af bk (af nQ (af nQ ?_))
  by_cases h:f (g x)<f (g y)
  ·refine af (if_pos h) (af (if_pos h) ?_);rfl
  ·exact af (if_neg h) (af (if_neg h) (af bk (af yA rfl)))
theorem tY {α β:Type} {f:β->Int} {g:α->β} (l:List α):(isort (λ a=>f (g a)) l).map g=isort f (l.map g):=by
 have go:∀(l acc:List α),(l.foldl (λ acc x=>ins (λ a=>f (g a)) x acc) acc).map g=(l.map g).foldl (λ acc x=>ins f x acc) (acc.map g):=by
  intro l
  induction l with
  |nil=>intro acc;rfl
  |cons x r ih=>intro acc;(refine af gL (af (ih _) (af yA ?_)));rfl
 exact go l []
theorem uw {α:Type} {f:α->Int} {x y:α}:∀{l:List α},y∈ins f x l↔y=x\/y∈l
 |[]=>by simp [ins]
 |z::r=>by
  unfold ins
  split
  ·simp
  ·rw [aZ,uw,aZ]
   constructor
   ·rintro (h|h|h)<;>simp [h]
   ·rintro (h|h|h)<;>simp [h]
theorem jn {α:Type} {f:α->Int} {y:α} (l:List α):y∈isort f l↔y∈l:=by
 have go:∀(l acc:List α),y∈l.foldl (λ acc x=>ins f x acc) acc↔y∈acc\/y∈l:=by
  intro l
  induction l with
  |nil=>intro acc;simp
  |cons x r ih=>
   intro acc
   (refine af gL ?_;rw [ih,uw,aZ])
   constructor
   ·rintro ((h|h)|h)<;>simp [h]
   ·rintro (h|h|h)<;>simp [h]
 unfold isort
 simpa using go l []
theorem yE {α:Type} {f:α->Int} {x:α}:∀{l:List α},(ins f x l).length=l.length+1
 |[]=>rfl
 |z::r=>by
  unfold ins
  split
  ·rfl
  ·exact af aQ (af yE (af aQ rfl))
theorem kB {α:Type} {f:α->Int} (l:List α):(isort f l).length=l.length:=by
 have go:∀(l acc:List α),(l.foldl (λ acc x=>ins f x acc) acc).length=acc.length+l.length:=by
  intro l
  induction l with
  |nil=>intro acc;rfl
  |cons x r ih=>intro acc;(refine af gL (af (ih _) (af yE (af aQ ?_))));exact km _ _ _
 unfold isort
 simpa using go l []
theorem Mx:VC E6 4 ps28 nm28 [] c28:=by
 intro us H Q X h
 refine Jj (λ r g Z h=>?_) h
 refine uf h λ B z ts h_ r1_ ht hl q=>?_
 clear h
 revert h_;intro h
 subst r1_
 refine ⟨rfl,?_⟩
 intro c hc
 refine ma (.tuple (ts.map λ Z=>.tuple [.int 4,.str "host"])) (us:=ts.map λ Z=>.tuple [.int 4,.str "host"])
  (λ i K=>∀j x y H',j=g+(i:Int)->H' c=some (.list ((ts.take i).map Slot.e))->MH.Sub H H'->K [some (.ref r),some (.int j),some (.tuple (ts.map λ Z=>.tuple [.int 4,.str "host"])),some (.ref c),x,y] H') (λ K k=>k) rfl (λ K k=>k g none none _ (by lia) (MH.set_self _ _ _) (bZ hc)) ?_ ?_
 ·intro i u N' e k j x y H1 hj hc1 s1
  rw [aF] at e
  refine aL (aH.mp e) λ t hti r1_=>?_
  subst r1_
  refine bx (ht i t hti) λ h1 h2=>?_
  have hz:((ts.take i).map Slot.e).length<=100000:=by (refine af (ag _) (af bU ?_));exact ao (dH _ _) (ao ‹_› (by decide))
  refine aj rfl ?_
  show wpE _ _ _ _ _ _ _ _
  refine jD (by rfl) (mM hc1) (bS E3 ⟨B,z,h.sub s1,?_⟩)
  refine af hj (af h1 ?_)
  refine ⟨h2,?_⟩
  refine fZ _ (aj (by assumption) ?_)
  refine aj (by assumption) (aj rfl (aj (of_decide_eq_true rfl) (aj (of_decide_eq_true rfl) (k _ _ λ K k=>k _ _ _ _ ?_ ?_ (a7 s1 hc)))))
  ·show g+(i:Int)+slotsOf 4=_
   unfold slotsOf;exact IA _ _ _
  ·refine af (MH.set_self _ _ _) (af dp (af hti (af bh ?_)));rfl
 ·intro j x y H1 hj hc1 s1 _
  rw [ag,c8] at hc1
  exact bS LS ⟨ts.map Slot.e,hc1,by refine af (ag _) ?_;exact ao ‹_› (by decide),DU s1 q⟩
theorem jZ:∀{es:List (aw×V)} {T:iX} {n:aw},es.map (·.1)=T.map (·.1)->(es.lookup n).isSome=(T.lookup n).isSome
 |[],[],_,_=>rfl
 |[],_::_,_,h=>by simp at h
 |_::_,[],_,h=>by simp at h
 |(a,b)::es,(c,d)::T,n,h=>by
  simp only [bk,List.cons.injEq] at h
  refine bx h λ r1_ h_=>?_
  clear h
  revert h_;intro h
  subst r1_
  refine af aG (af aG ?_)
  split
  ·rfl
  ·exact jZ h
theorem E4 {T:iX} (h:cE H a T) (q:QB (T.lookup n).isSome):inV (.str n) (.ref a) H QB:=by
 rcases h with ⟨e,rfl⟩|⟨es,e,f,l,g⟩
 ·exact De e q
 ·exact Gk e (by exact af (jZ f) q)
namespace FJ
def S_ (H Q X r name st b8 c):=∀(z:RS) (hr:H r=some (bK.inst (Fn.cls 3) z.d z.attrs)) (es:List (aw×V)) (he:H z.sets=some (bK.sdict es)) (b:aI) (d:aI) (as:List (aw×V)) (hv:ia name es=some (V.ref b)) (hb:H b=some (bK.inst (Fn.cls 9) d as)) (hst:ia (aa "store") as=some (V.ref st)) (hS:yJ H st b8) (q:Q (litsV (isort dY.first (a8 (λ x↦x.fst) b8))) H) (hc:H c=none),fh false (λ u H1↦assignT (Mine.T.loc 2) u (frame0 nm29 ([V.ref r,V.str name]++[])) H1 λ ρ1 H1↦wpSs tb0 3 [S.for_ (Mine.T.loc 3) (((((E.loc 0).attr (aa "sets")).sub (E.loc 1)).attr (aa "store")).meth (aa "elements") []) [S.expr ((E.loc 2).meth (aa "append") [E.tup [(E.loc 3).attr (aa "box"),(E.loc 3).attr (aa "data"),(E.loc 3).attr (aa "timeout"),(E.loc 3).attr (aa "comment")]])],S.ret ((E.fn (aa "tuple") (Fn.ty "tuple")).call [E.loc 2])] ρ1 H1 (λ x H'↦Fg Q V.none H') (Fg Q) (rE X)) (V.ref c) (H.set c (bK.list []))
def U_:=UV λ H Q X=>UV λ r name st=>UU λ b8=>S_ H Q X r name st b8
def t_:=dr (by infer_instance) U_
def H:=t_.1
def Q:=t_.2.1
def X:=t_.2.2.1
def r:=t_.2.2.2.1
def name:=t_.2.2.2.2.1
def st:=t_.2.2.2.2.2.1
def s1_:=t_.2.2.2.2.2.2
def b8:=s1_.1
def c:=s1_.2
theorem P_:S_ H Q X r name st b8 c:=by
 intro z hr es he b d as hv hb hst hS q hc
 have s1:=bZ (o:=.list []) hc
 obtain ⟨g,hm,hcall⟩:∃g,methOf tb0 (H.set c (.list [])) (.ref st) (aa "elements")=some g/\∀(K:V->MH->Prop) (X':aw->MH->Prop),(∀c2,(H.set c (.list [])) c2=none->K (.ref c2) ((H.set c (.list [])).set c2 (.list ((isort (λ p=>p.1.first) b8).map (·.2)))))->mL tb0 3 (.fn g) [.ref st] (H.set c (.list [])) K X':=by
  rcases hS with hS|hS
  ·have hS':=hS.sub s1
   exact f7 (id hS') λ d tb e1 Z=>⟨.user 49,qE e1 rfl rfl,λ K X' k=>bS LR ⟨b8,hS',k⟩⟩
  ·have hS':=hS.sub s1
   exact f7 (id hS') λ d tb e1 Z=>⟨.user 59,qE e1 rfl rfl,λ K X' k=>bS Mj ⟨b8,hS',k⟩⟩
 have hE:kK H (isort (λ p=>p.1.first) b8):=by
  intro p hp
  rw [jn] at hp
  rcases hS with ⟨_,_,_,_,c,_⟩|⟨_,_,_,_,c,_⟩<;>exact c p hp
 have hlen:(isort (λ p:dY×V=>p.1.first) b8).length<=3:=by
  refine af (kB _) ?_
  rcases hS with ⟨_,_,_,_,_,_,_,c⟩|⟨_,_,_,_,_,c,_⟩<;>exact c
 have hls:isort dY.first (b8.map (·.1))=(isort (λ p:dY×V=>p.1.first) b8).map (·.1):=(tY (f:=dY.first) (g:=λ p:dY×V=>p.1) b8).symm
 rw [hls] at q
 have hlv:litsV ((isort (λ p:dY×V=>p.1.first) b8).map (·.1))=.tuple ((isort (λ p:dY×V=>p.1.first) b8).map λ p=>p.1.v):=by unfold litsV;refine af cD ?_;rfl
 rw [hlv] at q
 generalize isort (λ p:dY×V=>p.1.first) b8=els' at*
 have hr1:=s1 _ _ hr
 show wpE _ _ _ _ _ _ _ _
 refine cF (by assumption) rfl ?_
 refine xD (s1 _ _ he) hv ?_
 refine cF (s1 _ _ hb) hst ?_
 refine lR hm ?_
 refine hcall _ _ λ c2 hc2=>?_
 have nc:c2≠c:=cH hc2 (MH.set_self _ _ _) bF
 have hc2':H c2=none:=by rw [MH.set_ne _ _ nc] at hc2;exact hc2
 refine qh (l7 (MH.set_self _ _ _)) (xl (λ i K=>∀x H',H' c=some (.list ((els'.take i).map λ p=>p.1.v))->MH.Sub H H'->K [some (.ref r),some (.str name),some (.ref c),x] H') (λ K k=>k none _ ?_ ?_) ?_ ?_)
 ·refine af Ha (af (MH.del_ne _ nc.symm) (af (MH.set_ne _ _ nc.symm) (af (MH.set_self _ _ _) ?_)));rfl
 ·refine af Ha ?_
  exact λ x o e=>by
   have:x≠c2:=cH e hc2' b7
   refine af (MH.del_ne _ this) (af (MH.set_ne _ _ this) ?_);exact bZ hc _ _ e
 ·intro i u N' e k x H1 e1 s1
  rw [aF] at e
  refine aL (aH.mp e) λ p hpi r1_=>?_
  subst r1_
  refine iC (hE p (a6 hpi)) λ a d' cl t1_=>(bx t1_ λ ep ha=>?_)
  clear t1_
  have na:a≠c:=cH ha hc b7
  have hz:((els'.take i).map λ p=>p.1.v).length<=100000:=by (refine af (ag _) (af bU ?_));exact ao (dH _ _) (ao ‹_› (by decide))
  refine af ep ?_
  have ha2:=s1 _ _ ha
  show wpE _ _ _ _ _ _ _ _
  refine jD (by rfl) (mM e1) (cF (by assumption) rfl (cF (by assumption) rfl (cF (by assumption) rfl (cF (by assumption) rfl (fZ _ (aj (by assumption) ?_))))))
  refine aj (by assumption) (aj rfl (k _ _ λ K k=>k _ _ ?_ (a7 s1 hc)))
  refine af (MH.set_self _ _ _) (af dp (af hpi (af bh ?_)));rfl
 ·intro x H1 e1 s1 hn
  rw [ag,c8] at e1
  refine af (lQ (MH.set_self _ _ _)) ?_
  exact ⟨_,(MH.set_ne _ _ nc.symm).trans e1,by refine af (ag _) ?_;exact ao ‹_› (by decide),DU (a7 s1 hc2') q⟩
theorem A_:∀p,U_ p:=bC P_
end FJ
theorem MK:VC B5 3 ps29 nm29 [] c29:=by
 intro us H Q X h
 refine Jh (λ r name h=>?_) h
 refine iV h λ B z T h_ hT q=>?_
 clear h
 revert h_;intro h
 have hT:=hT.sub h.keep
 have hr:=h.at_r
 refine ⟨rfl,bB (!(T.lookup name).isSome) ?_ (λ e=>?_) λ e=>?_⟩
 ·refine cF (by assumption) rfl ?_
  show inV _ _ _ _
  exact E4 hT ⟨rfl,rfl⟩
 ·have e:T.lookup name=none:=by simpa using e
  rw [e] at q
  exact fg q
 ·obtain ⟨ls,e⟩:∃ls,T.lookup name=some ls:=by
   cases w:T.lookup name with
   |none=>rw [w] at e;cases e
   |some t=>exact ⟨t,rfl⟩
  rw [e] at q
  have q:Q (litsV ls) H:=q
  rcases hT with ⟨_,rfl⟩|⟨es,he,_,_,hg⟩
  ·cases e
  refine aL (hg name ls e) λ v hv t1_=>(iC t1_ λ b d as t2_=>(jO t2_ λ st b8 r3_ hb hst t4_=>(bx t4_ λ hS r5_=>?_)))
  clear t1_ t2_ t4_
  subst r3_
  subst r5_
  intro c hc
  exact FJ.A_ (H,Q,X,r,name,st,b8,c) z hr es he b d as hv hb hst hS q hc
theorem LM:VC ES 4 ps30 nm30 [] c30:=by
 intro us H Q X h
 refine Jd (λ r name tag h=>?_) h
 refine iV h λ B z T h hT q=>?_
 refine ⟨rfl,?_⟩
 unfold whereV at q
 cases e:T.lookup name with
 |none=>
  rw [e] at q
  refine bS Kn ⟨B,z,T,h,hT,?_⟩
  rw [e]
  exact fg q
 |some ls=>
  rw [e] at q
  refine bS Kn ⟨B,z,T,h,hT,?_⟩
  rw [e]
  exact fg q
theorem LZ:VC DA 2 ps39 nm39 [] c39:=by
 intro us H Q X h
 refine IF (λ h=>?_) h
 exact ⟨rfl,λ c hc=>fg (h c hc)⟩
theorem v8 (h:rawNum x=some a):∃b,x.tag="raw"/\x.rest=[.bytes b]/\a=numOf b:=by
 unfold rawNum at h
 by_cases e:x.tag="raw"
 ·rw [if_pos e] at h
  generalize x.rest=l at h⊢
  cases l with
  |nil=>exact bF h
  |cons v r=>cases r<;>cases v<;>first|exact bF h|exact ⟨_,e,rfl,(ac h).symm⟩
 ·rw [if_neg e] at h
  exact bF h
theorem vr (h:rawNum x=none) (ok:i9 x):x.tag≠"raw":=by
 intro e
 refine aL (ok.2 e) λ b hb Z=>?_
 unfold rawNum at h
 rw [if_pos e,hb] at h
 exact b7 h
namespace FI
def S_ (H Q X r lo hi z):=∀(B:MH) (h:dZ B H r z) (hok:∀(g:Int) (t:Slot),g=lo\/g=hi->z.sl g=some t->i9 t) (hraw:∀(a b:Slot),z.sl lo=some a->a.tag=aa "raw"->z.sl hi=some b->b.tag=aa "raw") (q:match pairOf z.sl lo hi with|some p=>Q (pairV p) H|none=>X whyEmpty H),wpSs tb0 4 c37 (frame0 nm37 ([V.ref r,V.int lo,V.int hi]++[])) H (λ x H'↦Fg Q V.none H') (Fg Q) (rE X)
def U_:=UV λ H Q X=>UV λ r lo hi=>S_ H Q X r lo hi
def t_:=dr (by have:=Ic;infer_instance) U_
def H:=t_.1
def Q:=t_.2.1
def X:=t_.2.2.1
def r:=t_.2.2.2.1
def lo:=t_.2.2.2.2.1
def hi:=t_.2.2.2.2.2.1
def s1_:=t_.2.2.2.2.2.2
def z:=s1_
theorem P_:S_ H Q X r lo hi z:=by
 intro B h hok hraw q
 unfold pairOf at q
 by_cases hlo:lo<0
 ·rw [if_pos hlo] at q
  exact Cz (decide_eq_true hlo) (fg q)
 ·rw [if_neg hlo] at q
  refine tG (decide_eq_false hlo) (bS E3 ⟨B,z,h,?_⟩)
  cases e:z.sl lo with
  |none=>
   rw [e] at q
   exact Ls q
  |some t=>
   rw [e] at q
   have okt:=hok lo t (.inl rfl) e
   dsimp only at q
   refine ⟨okt.1,?_⟩
   cases er:rawNum t with
   |none=>
    rw [er] at q
    have hne:=vr er okt
    skip
    refine Cz (show (!decide (t.tag=aa "raw"))=true by refine af (decide_eq_false hne) ?_;rfl) ?_
    exact fg q
   |some a=>
    rw [er] at q
    refine cJ (v8 er) λ b ht hr r1_=>?_
    subst r1_
    refine aL (okt.2 ht) λ b' hb' hB=>?_
    rw [hr] at hb';cases hb'
    obtain ⟨tg,rs,od,sz⟩:=t
    cases hr
    skip
    refine tG (show (!decide (tg=aa "raw"))=false by refine af (decide_eq_true ht) ?_;rfl) ?_
    show wpSs _ _ _ _ _ _ _ _
    refine bS E3 ⟨B,z,h,?_⟩
    refine af e ?_
    refine ⟨okt.1,?_⟩
    refine aj (by assumption) ⟨B,z,h,?_⟩
    cases e2:z.sl hi with
    |none=>
     rw [e2] at q
     exact Ls q
    |some y=>
     rw [e2] at q
     have oky:=hok hi y (.inr rfl) e2
     have hy:=hraw _ y e ht e2
     refine aL (oky.2 hy) λ b2 hb2 hB2=>?_
     have er2:rawNum y=some (numOf b2):=by unfold rawNum;(exact af (if_pos hy) (af hb2 rfl))
     dsimp only at q
     rw [er2] at q
     refine ⟨oky.1,?_⟩
     obtain ⟨tg2,rs2,od2,sz2⟩:=y
     cases hb2
     exact aj (by assumption) (fg q)
theorem A_:∀p,U_ p:=bC P_
end FI
theorem Mv:VC Dz 4 ps37 nm37 [] c37:=by
 intro us H Q X h
 refine IW (λ r lo hi h=>?_) h
 refine jO h λ B z h hok hraw q=>?_
 refine ⟨rfl,?_⟩
 exact FI.A_ (H,Q,X,r,lo,hi,z) B h hok hraw q
namespace FE
def S_ (H Q X r tag b B z o size):=∀(op:aw) (g:Int) (nm:aw) (h:dZ B H r z) (hlen:z.eff.length<=1000) (hb:io b) (hsl:z.sl g=some (Slot.mk (aa "field") [V.str nm] o size)) (hnm:nm=aa "meta mark"\/nm=aa "meta l4proto"/\op=aa "=="/\g=0) (ho:(if o=aa "host" then z.order else o)=aa "big"\/(if o=aa "host" then z.order else o)=aa "little") (q:∀(c:aI) (H':MH),dZ B H' r (RS.mk z.d z.fields z.family z.sets z.order z.cells z.at_ z.slots z.known c z.dropped z.stmts z.sl z.n (z.eff++[(z.at_,matchV (fieldV nm) op (numIn b (if o=aa "host" then z.order else o)))]))->Q V.none H'),wpSs tb0 5 c34 (frame0 nm34 ([V.ref r,V.tuple [V.str tag,V.str op,V.int g,V.bytes b]]++[])) H (λ x H'↦Fg Q V.none H') (Fg Q) (rE X)
def U_:=UV λ H Q X=>UV λ r tag b=>UV λ B z o=>S_ H Q X r tag b B z o
def t_:=dr (by have:=Ic;infer_instance) U_
def H:=t_.1
def Q:=t_.2.1
def X:=t_.2.2.1
def r:=t_.2.2.2.1
def tag:=t_.2.2.2.2.1
def b:=t_.2.2.2.2.2.1
def s1_:=t_.2.2.2.2.2.2
def B:=s1_.1
def z:=s1_.2.1
def o:=s1_.2.2.1
def size:=s1_.2.2.2
theorem P_:S_ H Q X r tag b B z o size:=by
 intro op g nm h hlen hb hsl hnm ho q
 skip
 refine ⟨B,z,h,?_⟩
 refine af hsl ?_
 refine ⟨show aa "field"≠aa "half" by decide,aj rfl ?_⟩
 refine bN (u:=.int (numIn b (if o="host" then z.order else o))) ?_ ?_
 ·skip
  exact ⟨B,z,h,hb,ho,rfl,rfl⟩
 refine bB (decide (nm="meta l4proto"/\op="==")) ?_ (λ e=>?_) (λ e=>?_)
 ·skip
  refine rV (λ e1=>?_) λ e1=>⟨congrArg V.bool (decide_eq_false λ z=>of_decide_eq_false e1 z.2).symm,rfl⟩
  have e1:op="==":=of_decide_eq_true e1
  skip
  rcases hnm with rfl|⟨rfl,_,_⟩
  ·exact ⟨[("meta nfproto":aw),"meta l4proto","meta protocol","ether type"],rfl,congrArg V.bool (decide_eq_false λ z=>absurd z.1 (by decide)).symm,rfl⟩
  ·exact ⟨[("meta nfproto":aw),"meta l4proto","meta protocol","ether type"],rfl,congrArg V.bool (decide_eq_true ⟨rfl,e1⟩).symm,rfl⟩
 ·refine bx (of_decide_eq_true e) λ r1_ r2_=>?_
  subst r1_
  subst r2_
  have hg:g=0:=by
   rcases hnm with h|⟨_,_,h⟩
   ·exact absurd h (by decide)
   ·exact h
  subst hg
  refine cu h.lists λ S P hp hs heff=>?_
  obtain ⟨n1,n2,n3,n4,n5,n6,n7,n8,n9,n10,n11⟩:=h.ne
  have hr:=h.at_r
  have hz:(P.map needV).length<=100000:=by rw [heff] at hlen;simp only [az,ag] at hlen⊢;lia
  show wpE _ _ _ _ _ _ _ _
  refine cF (by assumption) rfl (lR (mM hp) (cF (by assumption) rfl (fZ _ (aj (by assumption) ?_))))
  refine aj (by assumption) (aj rfl (fg (q z.pend _ ?_)))
  refine ⟨a7 h.keep h.newp,h.newr,h.news,h.newk,h.newp,h.newt,(MH.set_ne _ _ n9).trans h.obj,?_,?_,⟨S,P++[(numIn b (if o="host" then z.order else o),z.at_)],(MH.set_self _ _ _).trans ?_,(MH.set_ne _ _ h.npt.symm).trans hs,?_⟩,?_,?_,(MH.set_ne _ _ h.ndp).trans h.dropped,h.nsk,h.npt,h.ndp,h.ndt⟩
  ·show d7 _ z.slots z.sl z.n
   unfold d7;exact af (MH.set_ne _ _ n2) h.slots
  ·show dx _ z.known
   unfold dx;exact af (MH.set_ne _ _ n6) h.known
  ·refine af bh ?_;rfl
  ·show z.eff++_=_
   refine af heff (af bh (af (eS _ _ _) ?_));rfl
  ·refine dQ.mpr ⟨h.ord,by simp,λ a ha b hb=>?_⟩
   cases aK.mp hb
   exact h.top a ha
  ·intro p hp
   rcases cv.mp hp with hp|hp
   ·exact h.top p hp
   ·cases aK.mp hp;exact jm _
 ·show wpE _ _ _ _ _ _ _ _
  exact aj (of_decide_eq_true rfl) ⟨B,z,h,hlen,λ c H' h'=>⟨rfl,fg (q c H' h')⟩⟩
theorem A_:∀p,U_ p:=bC P_
end FE
theorem MY:VC zN 5 ps34 nm34 [] c34:=by
 intro us H Q X h
 refine JC (λ r tag op g b h=>?_) h
 refine iC h λ B z o t1_=>(jO t1_ λ size nm h hlen hb t2_=>(oB t2_ λ hsl hnm ho q=>?_))
 refine ⟨rfl,?_⟩
 exact FE.A_ (H,Q,X,r,tag,b,B,z,o,size) op g nm h hlen hb hsl hnm ho q
namespace Fy
def S_ (H Q X r tag g name wP B z T ts l2):=∀(h:dZ B H r z) (hT:cE B z.sets T) (hts:∀(i:Nat) (t:Slot),ts[i]?=some t->z.sl (g+↑i)=some t/\t.tag≠aa "half") (hl:ts.length<=10) (hl2:l2.length<=10) (hsz:∀(p:Int×aw),p∈l2->0<=p.fst/\p.fst<=1000) (hn:z.n<=10000) (q:∀(H':MH),dZ B H' r (RS.mk z.d z.fields z.family z.sets z.order z.cells z.at_ z.slots z.known z.pend z.dropped z.stmts (mapPut (Slot.mk (aa "map") [joinV (a8 Slot.e ts),whereV T name (aa "map")] (aa "") 0) z.sl wP l2) (z.n+l2.length) z.eff)->Q V.none H'),wpSs tb0 5 c35 (frame0 nm35 ([V.ref r,V.tuple [V.str tag,V.int g,V.tuple (a8 (λ x↦V.tuple [V.int 4,V.str (aa "host")]) ts),V.str name,V.int wP,layV l2]]++[])) H (λ x H'↦Fg Q V.none H') (Fg Q) (rE X)
def U_:=UV λ H Q X=>UV λ r tag g=>UV λ name wP B=>UV λ z T ts=>S_ H Q X r tag g name wP B z T ts
def t_:=dr (by have:=Ic;infer_instance) U_
def H:=t_.1
def Q:=t_.2.1
def X:=t_.2.2.1
def r:=t_.2.2.2.1
def tag:=t_.2.2.2.2.1
def g:=t_.2.2.2.2.2.1
def s1_:=t_.2.2.2.2.2.2
def name:=s1_.1
def wP:=s1_.2.1
def B:=s1_.2.2.1
def z:=s1_.2.2.2.1
def T:=s1_.2.2.2.2.1
def ts:=s1_.2.2.2.2.2.1
def s2_:=s1_.2.2.2.2.2.2
def l2:=s2_
theorem P_:S_ H Q X r tag g name wP B z T ts l2:=by
 intro h hT hts hl hl2 hsz hn q
 refine bN (u:=.tuple [.str "map",joinV (ts.map Slot.e),whereV T name "map"]) ?_ ?_
 ·skip
  refine ⟨B,z,ts,h,rfl,hts,hl,?_⟩
  skip
  exact ⟨B,z,T,h,hT,rfl,rfl⟩
 refine bN (u:=.int wP) (by (refine aj rfl ?_;exact rfl)) ?_
 generalize V.tuple (ts.map λ Z=>.tuple [.int 4,.str "host"])=rowts at*
 refine ma (layV l2) (us:=l2.map λ p=>.tuple [.int p.1,.str p.2]) (λ i K=>∀sl d w x y H',dZ B H' r {z with sl:=sl,n:=z.n+i}->mapPut ⟨"map",[joinV (ts.map Slot.e),whereV T name "map"],"",0⟩ sl d (l2.drop i)=mapPut ⟨"map",[joinV (ts.map Slot.e),whereV T name "map"],"",0⟩ z.sl wP l2->
  K [some (.ref r),w,some (.tuple [.str "map",joinV (ts.map Slot.e),whereV T name "map"]),some (.int d),x,y] H') (λ K k=>k) rfl (λ K k=>k z.sl wP _ none none _ h rfl) ?_ ?_
 ·intro i u N' e k sl d w x y H1 h1 hm
  rw [aF] at e
  refine aL (aH.mp e) λ p hpi r1_=>?_
  subst r1_
  refine bx (hsz p (a6 hpi)) λ hp0 hp1=>?_
  have hi:=(aO.mp hpi).1
  have hdrop:l2.drop i=p::l2.drop (i+1):=by
   have:=cC hi
   rw [an hi] at hpi;(have hpi:=ac hpi;subst hpi);exact this
  rw [hdrop] at hm
  have hr:=h1.at_r
  exact aj rfl (cF (by assumption) rfl (oY (z:={z with sl:=sl,n:=z.n+i}) (x:=⟨"map",[joinV (ts.map Slot.e),whereV T name "map"],p.2,p.1⟩) h1 rfl (by show z.n+i<=100000;lia) λ H2 h2=>(bS Nx ⟨hp0,hp1,k _ _ λ K k=>k _ _ _ _ _ _ h2 hm⟩)))
 ·intro sl d w x y H4 h1 hm _
  rw [ag] at h1 hm
  rw [i5] at hm
  refine fg (q _ ?_)
  refine af hm.symm ?_
  exact h1
theorem A_:∀p,U_ p:=bC P_
end Fy
theorem Mp:VC AK 5 ps35 nm35 [] c35:=by
 intro us H Q X h
 refine J8 (λ r tag g Z name wP Z h=>?_) h
 refine iC h λ B z T t1_=>(jO t1_ λ ts l2 h_ hT r2_ t3_=>(Dr t3_ λ hts hl r4_ hl2 hsz hn q=>?_))
 clear h t1_ t3_
 revert h_;intro h
 subst r2_
 subst r4_
 refine ⟨rfl,?_⟩
 exact Fy.A_ (H,Q,X,r,tag,g,name,wP,B,z,T,ts,l2) h hT hts hl hl2 hsz hn q
theorem qK:∀(ts:List aw),(ts.map V.str).filter (λ u=>match u with
  |.str s=>decide (s≠("netmap":aw))
  |_=>false)=(ts.filter (·≠("netmap":aw))).map V.str
 |[]=>rfl
 |s::ts=>by
  have ih:=qK ts
  refine af bk (af lI (af lI ?_))
  by_cases h:s≠("netmap":aw)
  ·simp only [decide_eq_true h,if_true,bk,ih]
  ·simp only [decide_eq_false h,ch,if_false,ih]
namespace Fx
def S_ (H Q X r tag kind nf r3 r4 size r6 r7 B z ts):=∀(h:dZ B H r z) (hlen:z.eff.length<=1000) (hts:ts.length<=100) (hok:∀(g:Int) (t:Slot),g=r3\/g=r4\/g=r6\/g=r7->z.sl g=some t->i9 t) (hraw:∀(a b:Slot),z.sl r3=some a->a.tag=aa "raw"->z.sl r4=some b->b.tag=aa "raw") (hraw2:∀(a b:Slot),z.sl r6=some a->a.tag=aa "raw"->z.sl r7=some b->b.tag=aa "raw") (q:natAddr z.sl r3 r4 size (decide ((List.filter (λ x↦decide (x≠aa "netmap")) ts).length<ts.length)) λ v↦match v with|none=>X whyEmpty H|some v=>match pairOf z.sl r6 r7 with|none=>X whyEmpty H|some p=>∀(c:aI) (H':MH),dZ B H' r (RS.mk z.d z.fields z.family z.sets z.order z.cells z.at_ z.slots z.known c z.dropped z.stmts z.sl z.n (z.eff++[(z.at_,V.tuple [V.str (aa "nat"),kind,nf,v,pairV p,V.tuple (a8 V.str (List.filter (λ x↦decide (x≠aa "netmap")) ts))])]))->Q V.none H'),wpSs tb0 5 c38 (frame0 nm38 ([V.ref r,V.tuple [V.str tag,kind,nf,V.int r3,V.int r4,V.int size,V.int r6,V.int r7,V.tuple (a8 V.str ts)]]++[])) H (λ x H'↦Fg Q V.none H') (Fg Q) (rE X)
def U_:=UV λ H Q X=>UV λ r tag kind=>UV λ nf r3 r4=>UV λ size r6 r7=>UU λ B=>UU λ z=>S_ H Q X r tag kind nf r3 r4 size r6 r7 B z
def t_:=dr (by have:=Ic;infer_instance) U_
def H:=t_.1
def Q:=t_.2.1
def X:=t_.2.2.1
def r:=t_.2.2.2.1
def tag:=t_.2.2.2.2.1
def kind:=t_.2.2.2.2.2.1
def s1_:=t_.2.2.2.2.2.2
def nf:=s1_.1
def r3:=s1_.2.1
def r4:=s1_.2.2.1
def size:=s1_.2.2.2.1
def r6:=s1_.2.2.2.2.1
def r7:=s1_.2.2.2.2.2.1
def s2_:=s1_.2.2.2.2.2.2
def B:=s2_.1
def z:=s2_.2.1
def ts:=s2_.2.2
theorem P_:S_ H Q X r tag kind nf r3 r4 size r6 r7 B z ts:=by
 intro h hlen hts hok hraw hraw2 q
 generalize hfl:ts.filter (·≠("netmap":aw))=fl at q
 have hfll:fl.length<=100:=by refine af hfl.symm ?_;exact ao (List.length_filter_le _ _) hts
 have tl:(ts.map V.str).length=ts.length:=ag ..
 have tl2:(ts.map V.str).length<=1000000:=by lia
 refine dP (λ K=>∀c H',MH.Sub H H'->H' c=some (.list (fl.map .str))->K (.ref c) H') (λ K kk=>?_) ?_
 ·refine aj (by assumption) ?_
  refine iE (λ u=>u) (λ u=>match u with
   |.str s=>decide (s≠("netmap":aw))
   |_=>false) (λ u hu R hR=>?_) (λ u hu Z R hR=>hR) λ c hc=>kk c _ (bZ hc) ?_
  ·refine aL (bE.mp hu) λ s Z r1_=>?_
   subst r1_
   show R (!decide (s=aa "netmap")) _
   refine af (show (!decide (s=aa "netmap"))=decide (s≠("netmap":aw)) by by_cases e:s=aa "netmap"<;>simp [e]) ?_
   exact hR
  ·refine af (dy _) (af (qK _) (af hfl (af (IB _) ?_)))
   exact MH.set_self _ _ _
 intro c H1 s1 hc1
 have h1:dZ B H1 r z:=h.sub s1
 have fl2:(fl.map V.str).length=fl.length:=ag ..
 refine bN (u:=.none) ⟨rfl,rfl⟩ ?_
 obtain ⟨OUT,hOUT⟩:∃OUT:Option V->Prop,OUT=λ v:Option V=>match v with
   |none=>X whyEmpty H
   |some v=>match pairOf z.sl r6 r7 with
    |none=>X whyEmpty H
    |some p=>∀c H',dZ B H' r {z with pend:=c,eff:=z.eff++[(z.at_,V.tuple [.str "nat",kind,nf,v,pairV p,.tuple (fl.map .str)])]}->Q .none H':=⟨_,rfl⟩
 have q:natAddr z.sl r3 r4 size (decide (fl.length<ts.length)) OUT:=by exact af hOUT q
 refine eC (λ ρ K=>∀a v4,OUT (some a)->K [some (.ref r),some (.tuple [.str tag,kind,nf,.int r3,.int r4,.int size,.int r6,.int r7,.tuple (ts.map .str)]),some (.ref c),some a,v4] H1) (λ K kk=>?_) ?_
 ·unfold natAddr at q
  show wpSs tb0 5 [_] _ _ _ _ _
  by_cases h3:r3<0
  ·rw [if_pos h3] at q
   refine bB false ?_ (λ z=>aM z) (λ Z=>kk _ _ q)
   exact ⟨congrArg V.bool (decide_eq_false (by lia)),rfl⟩
  ·rw [if_neg h3] at q
   refine bB true ?_ (λ Z=>?_) (λ z=>aM z)
   ·exact ⟨congrArg V.bool (decide_eq_true (dJ.mp ‹_›)),rfl⟩
   have hok3:∀g t,(g=r3\/g=r4)->z.sl g=some t->i9 t:=λ g t hg=>hok g t (hg.elim .inl λ h=>.inr (.inl h))
   cases hp:pairOf z.sl r3 r4 with
   |none=>
    rw [hp] at q
    have q:X whyEmpty H:=by rw [hOUT] at q;exact q
    refine bS Hp ⟨B,z,h1,hok3,hraw,?_⟩
    refine af hp ?_
    exact ⟨H,s1,q⟩
   |some p=>
    rw [hp] at q
    refine bN (u:=pairV p) ?_ ?_
    ·refine bS Hp ⟨B,z,h1,hok3,hraw,?_⟩
     refine af hp ?_
     exact ⟨rfl,rfl⟩
    cases p with
    |none=>
     dsimp only at q
     cases et:z.sl r3 with
     |none=>rw [et] at q;exact q.elim
     |some t=>
      rw [et] at q
      refine bB true ⟨rfl,rfl⟩ (λ Z=>?_) (λ z=>aM z)
      refine bS E3 ⟨B,z,h1,?_⟩
      refine af et ?_
      exact ⟨(hok r3 t (.inl rfl) et).1,kk t.e (some .none) q⟩
    |some p=>
     refine bB false ⟨rfl,rfl⟩ (λ z=>aM z) (λ Z=>?_)
     refine bB (decide (fl.length<ts.length)) ?_ (λ e=>?_) (λ e=>?_)
     ·exact kF (by assumption) (by lia) (aj (by assumption) (aj (by simp) rfl))
     ·dsimp only at q
      rw [if_pos e] at q
      refine fy q λ j j1 j2 j3 t1_=>(wb t1_ λ j4 j5 j6 j7 q_=>?_)
      clear q t1_
      revert q_;intro q
      exact aj (ed (by decide)) (bS N5 ⟨j,j1,j2,j3,j4,by lia,by lia,j7,kk _ _ q⟩)
     ·dsimp only at q
      rw [if_neg (by simpa using e)] at q
      exact kk _ _ q
 ·intro a v4 q
  rw [hOUT] at q
  dsimp only at q
  refine bS Hp ⟨B,z,h1,λ g t hg=>hok g t (hg.elim (λ h=>.inr (.inr (.inl h))) λ h=>.inr (.inr (.inr h))),hraw2,?_⟩
  cases hp:pairOf z.sl r6 r7 with
  |none=>
   rw [hp] at q
   exact ⟨H,s1,q⟩
  |some p=>
   rw [hp] at q
   refine ⟨fl.map .str,hc1,by lia,?_⟩
   exact bS JF ⟨B,z,h1,hlen,λ c2 H' h'=>⟨rfl,fg (q c2 H' h')⟩⟩
theorem A_:∀p,U_ p:=bC P_
end Fx
theorem MW:VC AX 5 ps38 nm38 [] c38:=by
 intro us H Q X h
 refine IL (λ r tag kind nf r3 r4 size r6 r7 Z h=>?_) h
 refine uf h λ B z ts h_ hlen r1_ hts t2_=>(oB t2_ λ hok hraw hraw2 q=>?_)
 clear h t2_
 revert h_;intro h
 subst r1_
 refine ⟨rfl,?_⟩
 exact Fx.A_ (H,Q,X,r,tag,kind,nf,r3,r4,size,r6,r7,B,z,ts) h hlen hts hok hraw hraw2 q
theorem set_comm {H:MH} (h:a≠b):(H.set a x).set b y=(H.set b y).set a x:=by
 funext c;unfold MH.set
 by_cases h1:c=a
 ·subst h1;simp [h]
 ·simp [h1]
section
variable {H:MH}
theorem eW (u:V) (he:wpE tb0 lv false e ρ (H.set a (.inst c d as)) (λ v H'=>v=u/\H'=H.set a (.inst c d as)) X) (h0:ρ.at 0=some (.ref a)) (hf:fld0 c n=true) (hl:mj as.length 100=true)
  (k:wpSs tb0 lv r ρ (H.set a (.inst c d (alSet as n u))) N R X):wpSs tb0 lv (.setattr (.loc 0) n e::r) ρ (H.set a (.inst c d as)) N R X:=by
 refine bj lU lv e (Q:=λ v H'=>v=u/\H'=H.set a (.inst c d as)) ?_ (λ Z Z z=>z) he
 rintro _ _ ⟨rfl,rfl⟩
 show (match ρ.at 0 with
  |some u=>fh false _ u _
  |none=>False)
 refine af h0 ?_
 exact kf (MH.set_self _ _ _) hf hl (by exact af set_set k)
theorem ll (o:bK) (he:e=.edct/\o=.edict\/e=.lst []/\o=.list []) (h0:ρ.at 0=some (.ref a)) (hf:fld0 c n=true) (hl:mj as.length 100=true)
  (k:∀c',c'≠a->H c'=none->wpSs tb0 lv r ρ ((H.set c' o).set a (.inst c d (alSet as n (.ref c')))) N R X):wpSs tb0 lv (.setattr (.loc 0) n e::r) ρ (H.set a (.inst c d as)) N R X:=by
 have key:∀c',(H.set a (.inst c d as)) c'=none->(match ρ.at 0 with
   |some u=>fh false (λ u H2=>setattrV tb0.fld u n (.ref c') H2 (λ H3=>wpSs tb0 lv r ρ H3 N R X)) u ((H.set a (.inst c d as)).set c' o)
   |none=>False):=λ c' hc=>by
  have ne:c'≠a:=cH hc (MH.set_self _ _ _) bF
  rw [MH.set_ne _ _ ne] at hc
  refine af h0 ?_
  exact kf ((MH.set_ne _ _ ne.symm).trans (MH.set_self _ _ _)) hf hl (by (refine af (set_comm ne.symm) (af set_set ?_));exact k c' ne hc)
 rcases he with ⟨rfl,rfl⟩|⟨rfl,rfl⟩
 ·exact λ c' hc=>key c' hc
 ·exact λ c' hc=>key c' hc
end
namespace F0
def S_ (H:MH) (Q:V->MH->Prop) (X:aw->MH->Prop) (r fields:aI) (family:aw) (sets:aI) (d c1 c2 c3 c4 c5 c6):=∀(q:∀(z:RS) (H':MH),dZ (H.del r) H' r z->z.at_=0->z.order=aa "little"->z.sets=sets->(∀(i:Int),z.sl i=none)->z.n=0->z.eff=[]->H.del r z.dropped=none->Q V.none H') (hB:∀(b:aI) (o:bK),H.del r b=some o->H b=some o) (f1:H c1=none) (n2:c2≠r) (f2:H.set c1 bK.edict c2=none) (n3:c3≠r) (f3:(H.set c1 bK.edict).set c2 bK.edict c3=none) (n4:c4≠r) (f4:((H.set c1 bK.edict).set c2 bK.edict).set c3 bK.edict c4=none) (n5:c5≠r) (f5:(((H.set c1 bK.edict).set c2 bK.edict).set c3 bK.edict).set c4 (bK.list []) c5=none) (n6:c6≠r) (f6:((((H.set c1 bK.edict).set c2 bK.edict).set c3 bK.edict).set c4 (bK.list [])).set c5 (bK.list []) c6=none),wpSs tb0 2 [] (frame0 nm18 ([V.ref r,V.ref fields,V.str family,V.ref sets]++[])) (((((((H.set c1 bK.edict).set c2 bK.edict).set c3 bK.edict).set c4 (bK.list [])).set c5 (bK.list [])).set c6 (bK.list [])).set r (bK.inst (Fn.cls 3) d (alSet (alSet (alSet (alSet (alSet (alSet (alSet (alSet (alSet (alSet (alSet [] (aa "fields") (V.ref fields)) (aa "family") (V.str family)) (aa "sets") (V.ref sets)) (aa "order") (V.str (aa "little"))) (aa "cells") (V.ref c1)) (aa "at") (V.int 0)) (aa "slots") (V.ref c2)) (aa "known") (V.ref c3)) (aa "pending") (V.ref c4)) (aa "dropped") (V.ref c5)) (aa "statements") (V.ref c6)))) (λ x H'↦Fg Q V.none H') (Fg Q) (rE X)
def U_:=UV λ H Q X=>UV λ r fields family=>UV λ sets d c1=>UV λ c2 c3 c4=>UU λ c5=>S_ H Q X r fields family sets d c1 c2 c3 c4 c5
def t_:=dr (by infer_instance) U_
def H:=t_.1
def Q:=t_.2.1
def X:=t_.2.2.1
def r:=t_.2.2.2.1
def fields:=t_.2.2.2.2.1
def family:=t_.2.2.2.2.2.1
def s1_:=t_.2.2.2.2.2.2
def sets:=s1_.1
def d:=s1_.2.1
def c1:=s1_.2.2.1
def c2:=s1_.2.2.2.1
def c3:=s1_.2.2.2.2.1
def c4:=s1_.2.2.2.2.2.1
def s2_:=s1_.2.2.2.2.2.2
def c5:=s2_.1
def c6:=s2_.2
theorem P_:S_ H Q X r fields family sets d c1 c2 c3 c4 c5 c6:=by
 intro q hB f1 n2 f2 n3 f3 n4 f4 n5 f5 n6 f6
 have k1:MH.Sub (H.del r) H:=hB
 have b1:=k1.none f1
 have k2:=a7 (o:=.edict) k1 b1
 have b2:=k2.none f2
 have k3:=a7 (o:=.edict) k2 b2
 have b3:=k3.none f3
 have k4:=a7 (o:=.edict) k3 b3
 have b4:=k4.none f4
 have k5:=a7 (o:=.list []) k4 b4
 have b5:=k5.none f5
 have k6:=a7 (o:=.list []) k5 b5
 have b6:=k6.none f6
 have k7:=a7 (o:=.list []) k6 b6
 have new:∀{G:MH} {a b:aI} {o:bK},(G.set a o) b=none->b≠a/\G b=none:=λ {G a b o} f=>by
  have:b≠a:=cH f (MH.set_self _ _ _) bF
  exact ⟨this,by rw [MH.set_ne _ _ this] at f;exact f⟩
 refine bx (new f2) λ n21 f2=>(bx (new f3) λ n32 f3=>(bx (new f3) λ n31 f3=>(bx (new f4) λ n43 f4=>(bx (new f4) λ n42 f4=>(bx (new f4) λ n41 f4=>(bx (new f5) λ n54 f5=>(bx (new f5) λ n53 f5=>(bx (new f5) λ n52 f5=>(bx (new f5) λ n51 f5=>(bx (new f6) λ n65 f6=>(bx (new f6) λ n64 f6=>(bx (new f6) λ n63 f6=>(bx (new f6) λ n62 f6=>(bx (new f6) λ n61 f6=>(fg (q ⟨d,fields,family,sets,"little",c1,0,c2,c3,c4,c5,c6,λ Z=>none,0,[]⟩ _ ?_ rfl rfl rfl (λ Z=>rfl) rfl rfl b5))))))))))))))))
 refine ⟨a7 k7 (MH.del_self _ _),MH.del_self _ _,b2,b3,b4,b6,MH.set_self _ _ _,.inl ⟨?_,λ Z=>rfl⟩,.inl ?_,⟨[],[],?_,?_,rfl⟩,.nil,(λ Z h=>by cases h),?_,n32.symm,n64.symm,n54,n65.symm⟩
 ·show MH.set _ _ _ c2=_
  exact af (MH.set_ne _ _ n2) (af (MH.set_ne _ _ n62.symm) (af (MH.set_ne _ _ n52.symm) (af (MH.set_ne _ _ n42.symm) (af (MH.set_ne _ _ n32.symm) (af (MH.set_self _ _ _) rfl)))))
 ·show MH.set _ _ _ c3=_
  exact af (MH.set_ne _ _ n3) (af (MH.set_ne _ _ n63.symm) (af (MH.set_ne _ _ n53.symm) (af (MH.set_ne _ _ n43.symm) (af (MH.set_self _ _ _) rfl))))
 ·show MH.set _ _ _ c4=_
  refine af (MH.set_ne _ _ n4) (af (MH.set_ne _ _ n64.symm) (af (MH.set_ne _ _ n54.symm) (af (MH.set_self _ _ _) ?_)));rfl
 ·show MH.set _ _ _ c6=_
  refine af (MH.set_ne _ _ n6) (af (MH.set_self _ _ _) ?_);rfl
 ·show MH.set _ _ _ c5=_
  exact af (MH.set_ne _ _ n5) (af (MH.set_ne _ _ n65.symm) (af (MH.set_self _ _ _) rfl))
theorem A_:∀p,U_ p:=bC P_
end F0
theorem Nb:VC E9 2 ps18 nm18 [] c18:=by
 intro us H Q X h
 refine Km (λ r fields family sets h=>?_) h
 ·refine fy h λ d hr nf ns q=>?_
  clear h
  refine ⟨rfl,?_⟩
  refine af (iP (kz hr)) ?_
  generalize hbase:H.set r (.inst (.cls 3) d [])=H0
  have hB:∀b o,(H.del r) b=some o->H b=some o:=yt H r
  refine af hbase.symm ?_
  exact eW (.ref fields) ⟨rfl,rfl⟩ rfl rfl rfl (eW (.str family) ⟨rfl,rfl⟩ rfl rfl rfl (eW (.ref sets) ⟨rfl,rfl⟩ rfl rfl rfl (eW (.str "little") ⟨rfl,rfl⟩ rfl rfl rfl (ll .edict (.inl ⟨rfl,rfl⟩) rfl rfl rfl λ c1 n1 f1=>(eW (.int 0) ⟨rfl,rfl⟩ rfl rfl rfl (ll .edict (.inl ⟨rfl,rfl⟩) rfl rfl rfl λ c2 n2 f2=>(ll .edict (.inl ⟨rfl,rfl⟩) rfl rfl rfl λ c3 n3 f3=>(ll (.list []) (.inr ⟨rfl,rfl⟩) rfl rfl rfl λ c4 n4 f4=>(ll (.list []) (.inr ⟨rfl,rfl⟩) rfl rfl rfl λ c5 n5 f5=>(ll (.list []) (.inr ⟨rfl,rfl⟩) rfl rfl rfl λ c6 n6 f6=>(F0.A_ (H,Q,X,r,fields,family,sets,d,c1,c2,c3,c4,c5,c6) q hB f1 n2 f2 n3 f3 n4 f4 n5 f5 n6 f6)))))))))))
theorem MB:VC EP 2 ps42 nm42 [.int 0] c42:=by
 intro us H Q X h
 refine I0 (λ e box data h=>?_) h
 ·refine aL h λ d hr q=>?_
  clear h
  refine ⟨rfl,?_⟩
  have hr':=(kz hr).symm
  rw [hr']
  exact eW box ⟨rfl,rfl⟩ rfl rfl rfl (eW data ⟨rfl,rfl⟩ rfl rfl rfl (eW (.int 0) ⟨rfl,rfl⟩ rfl rfl rfl (eW (.int 0) ⟨rfl,rfl⟩ rfl rfl rfl (eW (.str "") ⟨rfl,rfl⟩ rfl rfl rfl (ll .edict (.inl ⟨rfl,rfl⟩) rfl rfl rfl λ c1 n1 f1=>(fg (q c1 f1)))))))
theorem LJ:VC EE 2 ps43 nm43 [] c43:=by
 intro us H Q X h
 refine Ke (λ Z now h=>?_) h
 refine aL h λ x w1_ q=>?_
 clear h
 refine iC w1_ λ a d c t1_=>(bx t1_ λ r2_ ha=>?_)
 clear w1_ t1_
 subst r2_
 refine ⟨rfl,?_⟩
 exact cF (by assumption) rfl (fg q)
theorem Nt:VC EJ 2 ps44 nm44 [] c44:=by
 intro us H Q X h
 refine rG (λ s h=>?_) h
 ·refine aL h λ d hr q=>?_
  clear h
  refine ⟨rfl,?_⟩
  rw [(kz hr).symm]
  exact ll .edict (.inl ⟨rfl,rfl⟩) rfl rfl rfl λ c1 n1 f1=>(fg (q c1 f1))
theorem Mu:VC EX 2 ps54 nm54 [] c54:=by
 intro us H Q X h
 refine rG (λ s h=>?_) h
 ·refine aL h λ d hr q=>?_
  clear h
  refine ⟨rfl,?_⟩
  rw [(kz hr).symm]
  exact ll (.list []) (.inr ⟨rfl,rfl⟩) rfl rfl rfl λ c1 n1 f1=>(fg (q c1 f1))
def oF (ps:w6):Prop:=(∀p∈ps,p.1.first<=p.1.last)/\ps.Pairwise λ p q=>p.1.last<q.1.first
theorem vk (hx:x.1.first<=x.1.last):∀{ps:w6},oF ps->(∀p∈ps,p.1.last<x.1.first\/x.1.last<p.1.first)->oF (ins (λ p=>p.1.first) x ps)
 |[],_,_=>⟨λ p hp=>by simp [ins] at hp;subst hp;exact hx,by simp [ins]⟩
 |y::r,⟨h1,h2⟩,hd=>by
  have hy:=h1 y (.head _)
  rw [dD] at h2
  have hD:=hd y (.head _)
  refine af nQ ?_
  by_cases h:x.1.first<y.1.first
  ·refine af (if_pos h) ?_
   have hxy:x.1.last<y.1.first:=by lia
   refine ⟨λ p hp=>?_,?_⟩
   ·rcases aZ.mp hp with rfl|hp
    ·exact hx
    ·exact h1 p hp
   ·rw [dD,dD]
    refine ⟨λ q hq=>?_,h2⟩
    rcases aZ.mp hq with rfl|hq
    ·exact hxy
    ·have:=h2.1 q hq;lia
  ·refine af (if_neg h) ?_
   refine bx (vk hx ⟨λ p hp=>h1 p (.tail _ hp),h2.2⟩ λ p hp=>hd p (.tail _ hp)) λ i1 i2=>⟨λ p hp=>?_,?_⟩
   ·rcases aZ.mp hp with rfl|hp
    ·exact hy
    ·exact i1 p hp
   ·rw [dD]
    refine ⟨λ q hq=>?_,i2⟩
    rcases uw.mp hq with rfl|hq
    ·lia
    ·exact h2.1 q hq
theorem rI {α:Type} {f:α->Int} (l:List α) (x:α):isort f (l++[x])=ins f x (isort f l):=by
 unfold isort;refine af qd ?_;rfl
theorem zp {α:Type} (l:List α) (P:List α->Prop) (h0:P []) (h1:∀l x,P l->P (l++[x])):P l:=by
 have:∀n (l:List α),l.length=n->P l:=by
  intro n
  induction n with
  |zero=>intro l h;have:l=[]:=List.length_eq_zero_iff.mp h;subst this;exact h0
  |succ n ih=>
   intro l h
   rcases yd l with rfl|⟨l',x,rfl⟩
   ·simp at h
   ·rw [yf] at h⊢
    exact h1 l' x (ih l' (by simpa using h))
 exact this _ l rfl
theorem xo (b8:w6):(∀p∈b8,p.1.first<=p.1.last)->(b8.Pairwise λ p q=>p.1.last<q.1.first\/q.1.last<p.1.first)->oF (isort (λ p=>p.1.first) b8):=by
 refine zp b8 (λ b8=>(∀p∈b8,p.1.first<=p.1.last)->(b8.Pairwise λ p q=>p.1.last<q.1.first\/q.1.last<p.1.first)->oF (isort (λ p=>p.1.first) b8)) (λ Z Z=>⟨(λ Z h=>by cases h),.nil⟩) λ l x ih h1 h2=>?_
 refine af (rI _ _) ?_
 rw [dQ] at h2
 refine vk (h1 x (by simp)) (ih (λ p hp=>h1 p (by simp [hp])) h2.1) λ p hp=>?_
 rw [jn] at hp
 exact h2.2.2 p hp x (by simp)
theorem Dw:∀{ps:w6},oF ps->x.1.first<=x.1.last->(∀p∈ps,p.1.last<x.1.first\/x.1.last<p.1.first)->
  ins (λ p=>p.1.first) x ps=ps.take (ps.countP λ p=>decide (p.1.last<x.1.first))++x::ps.drop (ps.countP λ p=>decide (p.1.last<x.1.first))
 |[],_,_,_=>rfl
 |y::r,⟨h1,h2⟩,hx,hd=>by
  have hy:=h1 y (.head _)
  rw [dD] at h2
  have hD:=hd y (.head _)
  refine af nQ ?_
  by_cases h:x.1.first<y.1.first
  ·have hc:(y::r).countP (λ p=>decide (p.1.last<x.1.first))=0:=by
    rw [Bq]
    intro p hp
    rcases aZ.mp hp with rfl|hp
    ·simp;lia
    ·have:=h2.1 p hp
     have:=h1 p (.tail _ hp)
     simp;lia
   refine af (if_pos h) (af hc ?_);rfl
  ·have hc:(y::r).countP (λ p=>decide (p.1.last<x.1.first))=r.countP (λ p=>decide (p.1.last<x.1.first))+1:=by
    rw [wS]
    simp;lia
   refine af (if_neg h) (af hc (af (Dw ⟨λ p hp=>h1 p (.tail _ hp),h2.2⟩ hx λ p hp=>hd p (.tail _ hp)) ?_))
   rfl
theorem pj:∀{ps:w6},oF ps->∀{i:Nat} {p:dY×V},ps[i]?=some p->(p.1.last<n↔i<ps.countP λ p=>decide (p.1.last<n))
 |[],_,i,p,e=>by simp at e
 |y::r,⟨h1,h2⟩,i,p,e=>by
  rw [dD] at h2
  have G:oF r:=⟨λ p hp=>h1 p (.tail _ hp),h2.2⟩
  by_cases hy:y.1.last<n
  ·refine af (wS (by simpa using hy)) ?_
   cases i with
   |zero=>simp at e;subst e;exact ⟨λ Z=>mr _,λ Z=>hy⟩
   |succ i=>
    have:=pj (n:=n) G (i:=i) (p:=p) (by simpa using e)
    rw [this];lia
  ·have hall:∀q∈r,¬q.1.last<n:=λ q hq=>by
    have:=h2.1 q hq
    have:=h1 q (.tail _ hq)
    lia
   have:(y::r).countP (λ p=>decide (p.1.last<n))=0:=by
    rw [Bq]
    intro q hq
    rcases aZ.mp hq with rfl|hq
    ·simpa using hy
    ·simpa using hall q hq
   refine af this ?_
   constructor
   ·intro h
    cases i with
    |zero=>simp at e;subst e;exact absurd h hy
    |succ i=>exact absurd h (hall p (a6 (by simpa using e)))
   ·lia
theorem rc:∀{b8:w6},k∉b8.map (λ p=>p.1.first)->(b8.map λ p=>([p.1.first],p.2)).lookup [k]=none
 |[],_=>rfl
 |p::r,h=>by
  simp only [bk,aZ,not_or] at h
  refine af bk (af aG ?_)
  have:([k]==[p.1.first])=false:=by simpa using h.1
  refine af this ?_
  exact rc h.2
theorem vx:∀{b8:w6},(b8.map λ p=>p.1.first).Nodup->p∈b8->(b8.map λ p=>([p.1.first],p.2)).lookup [p.1.first]=some p.2
 |[],_,h=>by cases h
 |q::r,nd,h=>by
  rw [bk,cc] at nd
  refine af bk (af aG ?_)
  rcases aZ.mp h with rfl|h
  ·simp
  ·have:([p.1.first]==[q.1.first])=false:=by
    have:p.1.first≠q.1.first:=λ e=>nd.1 (e▸d9 (f:=λ p:dY×V=>p.1.first) h)
    simpa using this
   refine af this ?_
   exact vx nd.2 h
theorem Mq:VC CC 3 ps47 nm47 [] c47:=by
 intro us H Q X h
 refine KJ (λ st k now h=>?_) h
 refine cJ h λ b8 w1_ hk q=>?_
 clear h
 refine cu w1_ λ d tb h1 h2 h9=>?_
 clear w1_
 refine ⟨rfl,bN (u:=.none) ?_ (fg q)⟩
 refine cF h1 rfl ?_
 rcases h2 with ⟨e,rfl⟩|e
 ·exact lR (Ht e) (.inl ⟨e,rfl,rfl⟩)
 ·refine lR (JI e) (.inr ⟨_,e,?_⟩)
  refine af (rc hk) ?_
  exact ⟨rfl,rfl⟩
theorem LN:VC BZ 4 ps45 nm45 [] c45:=by
 intro us H Q X h
 refine FG (λ st Z now h=>?_) h
 refine jO h λ b8 x hP hl w1_ t2_=>(gK t2_ λ hx hk q=>?_)
 clear h t2_
 refine iC w1_ λ a d' cl t1_=>(bx t1_ λ r2_ ha=>?_)
 clear w1_ t1_
 subst r2_
 refine jO (id hP) λ d tb h1 h2 h3 t1_=>(gK t1_ λ h4 h5 h6=>?_)
 clear t1_
 refine ⟨rfl,?_⟩
 refine bN (u:=.tuple [.int x.first]) ?_ ?_
 ·refine cF (by assumption) rfl ?_
  refine aj (by lia) ?_
  exact rfl
 refine bB false ⟨rfl,rfl⟩ (λ z=>aM z) (λ Z=>?_)
 refine bB false ?_ (λ z=>aM z) (λ Z=>?_)
 ·exact lR (qE h1 rfl rfl) (bS NA ⟨b8,hP,hk,rfl,rfl⟩)
 refine cF (by assumption) rfl ?_
 have na:a≠tb:=by
  rintro rfl
  rcases h2 with ⟨e,_⟩|e<;>(rw [ha] at e;exact oJ e rfl)
 have ns:st≠tb:=by
  rintro rfl
  rcases h2 with ⟨e,_⟩|e<;>(rw [h1] at e;exact oJ e rfl)
 have fh:∀o,o=bK.tdict ((b8++[(x,V.ref a)]).map λ p=>([p.1.first],p.2))->Q .none (H.set tb o):=by
  rintro o rfl
  refine q _ ⟨d,tb,(MH.set_ne _ _ ns).trans h1,.inr (MH.set_self _ _ _),?_,?_,?_,?_⟩ (λ b o e n1 n2=>?_) λ d2 tb2 e b nb=>?_
  ·intro p hp
   rcases cv.mp hp with hp|hp
   ·refine iC (h3 p hp) λ a2 d2 c2 t1_=>(bx t1_ λ e1 e2=>?_)
    clear t1_
    refine ⟨a2,d2,c2,e1,?_⟩
    rw [MH.set_ne];exact e2
    rintro rfl
    rcases h2 with ⟨e,_⟩|e<;>(rw [e2] at e;exact oJ e rfl)
   ·cases aK.mp hp
    exact ⟨a,d',cl,rfl,(MH.set_ne _ _ na).trans ha⟩
  ·intro p hp
   rcases cv.mp hp with hp|hp
   ·exact h4 p hp
   ·cases aK.mp hp;exact hx
  ·(refine af bh ?_;rw [ir])
   refine ⟨h5,by simp,λ y hy z hz e=>?_⟩
   cases aK.mp hz
   have e:y=x.first:=e
   subst e;exact hk hy
  ·refine af az (af aV ?_);exact cw ‹_›
  ·rw [MH.set_ne];exact e
   rintro rfl
   rcases h2 with ⟨e2,_⟩|e2
   ·rw [e2] at e;(have e:=ac e;subst e);exact n2 rfl
   ·rw [e2] at e;(have e:=ac e;subst e);exact n1 _ rfl
  ·rw [h1] at e;cases e
   exact af (MH.set_ne _ _ nb) rfl
 show eI _ _ _ _ _
 rcases h2 with ⟨e,rfl⟩|e
 ·exact Eg (ks:=[x.first]) e rfl (fg (fh _ rfl))
 ·refine Hi (ks:=[x.first]) e rfl (by refine af (ag _) ?_;exact ao ‹_› (by decide)) (rc hk) (fg (fh _ ?_))
  refine af bh ?_;rfl
theorem Mn:VC Dg 2 ps49 nm49 [] c49:=by
 intro us H Q X h
 refine rG (λ st h=>?_) h
 refine aL h λ b8 w1_ q=>?_
 clear h
 refine jO w1_ λ d tb h1 h2 h3 t1_=>(gK t1_ λ h4 h5 h6=>?_)
 clear w1_ t1_
 refine ⟨rfl,?_⟩
 intro c hc
 have s1:=bZ (o:=.list []) hc
 have hmem:∀p∈isort (λ p:dY×V=>p.1.first) b8,p∈b8:=λ p hp=>(jn b8).mp hp
 have hkeys:(isort (λ k:Int=>k) ((b8.map λ p=>(p.1.first,p.2)).map (·.1))).map (λ k=>V.tuple [.int k])=(isort (λ p:dY×V=>p.1.first) b8).map λ p=>V.tuple [.int p.1.first]:=by
  have:((b8.map λ p=>(p.1.first,p.2)).map (·.1))=b8.map λ p=>p.1.first:=by refine af cD ?_;rfl
  refine af this ?_
  have:=tY (f:=λ k:Int=>k) (g:=λ p:dY×V=>p.1.first) b8
  refine af this.symm (af cD ?_);rfl
 have hlen:(isort (λ p:dY×V=>p.1.first) b8).length<=3:=by exact af (kB _) h6
 generalize isort (λ p:dY×V=>p.1.first) b8=es at*
 have h2':(H.set c (.list [])) tb=some .edict/\(b8.map λ p=>(p.1.first,p.2))=[]\/(H.set c (.list [])) tb=some (.tdict ((b8.map λ p=>(p.1.first,p.2)).map λ p=>([p.1],p.2))):=by
  rcases h2 with ⟨e,rfl⟩|e
  ·exact .inl ⟨s1 _ _ e,rfl⟩
  ·refine .inr ?_
   refine af (s1 _ _ e) (af cD ?_);rfl
 show wpE _ _ _ _ _ _ _ _
 refine cF (s1 _ _ h1) rfl (.inr ⟨b8.map λ p=>(p.1.first,p.2),h2',by exact af cD h5,by exact af (ag _) h6,λ c2 hc2=>?_⟩)
 refine af hkeys ?_
 have nc:c2≠c:=cH hc2 (MH.set_self _ _ _) bF
 have hc2':H c2=none:=by rw [MH.set_ne _ _ nc] at hc2;exact hc2
 refine qh (l7 (MH.set_self _ _ _)) (xl (λ i K=>∀x H',H'=H.set c (.list ((es.take i).map (·.2)))->K [some (.ref st),some (.ref c),x] H') (λ K k=>k none _ (ET hc2)) ?_ ?_)
 ·rintro i u N' e k x _ rfl
  rw [aF] at e
  refine aL (aH.mp e) λ p hpi r1_=>?_
  subst r1_
  have hp:=hmem p (a6 hpi)
  have s2:=bZ (o:=.list ((es.take i).map (·.2))) hc
  have htb:H tb=some (.tdict (b8.map λ p=>([p.1.first],p.2))):=by
   rcases h2 with ⟨_,rfl⟩|e
   ·cases hp
   ·exact e
  show wpE _ _ _ _ _ _ _ _
  refine jD (by rfl) (mM (MH.set_self _ _ _)) (cF (s2 _ _ h1) rfl (Hw (ks:=[p.1.first]) (s2 _ _ htb) rfl (vx h5 hp) (Cn (MH.set_self _ _ _) (by (refine af (ag _) (af bU ?_));exact ao (dH _ _) (ao ‹_› (by decide))) ⟨rfl,k _ _ λ K k=>k _ _ ?_⟩)))
  refine af set_set (af dp (af hpi (af bh ?_)));rfl
 ·rintro x _ rfl _
  refine af (ag _) (af c8 ?_)
  refine af (lQ (MH.set_self _ _ _)) ?_
  exact DU (bZ ((MH.set_ne _ _ nc).trans hc2')) (q c hc)
theorem MP:VC Cw 2 ps59 nm59 [] c59:=by
 intro us H Q X h
 refine rG (λ st h=>?_) h
 refine aL h λ b8 w1_ q=>?_
 clear h
 refine jO w1_ λ d it h1 h2 h3 t1_=>(bx t1_ λ h4 h9=>?_)
 clear w1_ t1_
 refine ⟨rfl,?_⟩
 exact cF h1 rfl ⟨_,h2,by (refine af (ag _) (af (kB _) ?_));exact ao ‹_› (by decide),λ c hc=>fg (q c hc)⟩
theorem qN (h:kh H v x) (k:K x.box H):rL v (aa "box") H K:=by
 refine iC h λ a d c t1_=>(bx t1_ λ r2_ e=>?_)
 clear h t1_
 subst r2_
 exact cF e rfl k
theorem Cu {b8:w6} {i:Nat} (e:b8[i]?=some p) (h:i<=10000):ix (b8.map (·.2)) i=some p.2:=wc ⟨aT _,by lia⟩ (by (refine af (cK _) (af (aF) (af e ?_)));rfl)
theorem NO (h:a<b):a<=(a+b)/2/\(a+b)/2<b:=⟨(Nat.le_div_iff_mul_le (by decide)).mpr (by lia),(Nat.div_lt_iff_lt_mul (by decide)).mpr (by lia)⟩
theorem Nh:VC Ck 2 ps52 nm52 [] c52:=by
 intro us H Q X h
 refine B7 (λ it n h=>?_) h
 refine fy h λ b8 h1 h2 h3 t1_=>(gK t1_ λ h4 h5 q=>?_)
 clear h t1_
 have G:oF b8:=⟨h4,h5⟩
 have hcnt:b8.countP (λ p=>decide (p.1.last<n))<=b8.length:=yg
 have hiff:=@pj n b8 G
 have hz:(b8.map (·.2)).length=b8.length:=ag ..
 generalize b8.countP (λ p=>decide (p.1.last<n))=Bv at*
 refine ⟨rfl,?_⟩
 refine bN (u:=.int 0) ⟨rfl,rfl⟩ (bN (u:=.int b8.length) ?_ ?_)
 ·exact kF h1 (by lia) ⟨congrArg (λ n:Nat=>V.int n) hz,rfl⟩
 refine eC (λ ρ K=>∀x y,K [some (.ref it),some (.int n),some (.int Bv),x,y] H) (λ K kk=>⟨4,wH (λ m K=>∀(lo hi:Nat) (y:Option V),lo<=Bv->Bv<=hi->hi<=b8.length->hi -lo<=m->K [some (.ref it),some (.int n),some (.int lo),some (.int hi),y] H) ?_ 3 λ K k=>k 0 b8.length none (cU _) hcnt (bW _) (by assumption)⟩) ?_
 ·intro m K lo hi y a1 a2 a3 a4 k
  refine k _ _ (λ e=>?_) (λ e=>?_)
  ·have e:lo<hi:=qg.mp (of_decide_eq_true e)
   obtain ⟨m1,m2⟩:lo<=(lo+hi)/2/\(lo+hi)/2<hi:=NO e
   refine ⟨cG (DZ e) a4,λ N' k'=>?_⟩
   refine bN (u:=.int (((lo+hi)/2:Nat):Int)) ⟨rfl,rfl⟩ ?_
   have hi':(lo+hi)/2<b8.length:=cG m2 a3
   obtain ⟨p,hp⟩:∃p,b8[(lo+hi)/2]?=some p:=⟨_,an hi'⟩
   have hE:=h2 p (a6 hp)
   have hiff':=hiff hp
   refine bB (decide (p.1.last<n)) ?_ (λ e2=>?_) (λ e2=>?_)
   ·exact cZ h1 (Cu hp (by lia)) (qN hE (aj rfl rfl))
   ·have:=hiff'.mp (of_decide_eq_true e2)
    exact k' _ _ λ K k=>k ((lo+hi)/2+1) hi _ this a2 a3 (Nat.sub_le_sub_right (ao (Nat.sub_le_sub_left m1 hi) a4) 1)
   ·have:¬(lo+hi)/2<Bv:=λ z=>of_decide_eq_false e2 (hiff'.mpr z)
    exact k' _ _ λ K k=>k lo ((lo+hi)/2) _ a1 (dw.mp this) (fE hi') (Nat.le_sub_one_of_lt (cG (Nat.sub_lt_sub_right m1 m2) a4))
  ·have e:hi<=lo:=Int.ofNat_le.mp (dJ.mp (of_decide_eq_false e))
   cases jJ a1 (ao a2 e)
   exact kk _ _
 ·exact λ x y=>fg q
namespace Ge
def S_ (Q X st v now x it ps):=∀(us:List V) (H:MH) (h:Av us H Q X) (b8:w6) (d:aI) (h1:H st=some (bK.inst (Fn.cls 6) d [(aa "items",V.ref it)])) (h3:kK H b8) (hE:kh H v x) (q_x:∀(d it:aI),H st=some (bK.inst (Fn.cls 6) d [(aa "items",V.ref it)])->Q V.none (H.set it (bK.list (a8 (λ x↦x.snd) (isort (λ p↦p.fst.first) (b8++[(x,v)])))))) (h2:H it=some (bK.list (a8 (λ x↦x.snd) ps))) (q:Q V.none (H.set it (bK.list (a8 (λ x↦x.snd) (wT (sk (λ p↦decide (p.fst.last<(x,v).fst.first)) ps) ps++(x,v)::D0 (sk (λ p↦decide (p.fst.last<(x,v).fst.first)) ps) ps))))) (G:oF ps) (hD':∀(p:dY×V),p∈ps->p.fst.last<x.first\/x.last<p.fst.first) (hE':kK H ps) (hlen:ps.length<=2) (hcnt:sk (λ p↦decide (p.fst.last<x.first)) ps<=ps.length) (hiff:∀{i:Nat} {p:dY×V},ps[i]?=some p->(p.fst.last<x.first↔i<sk (λ p↦decide (p.fst.last<x.first)) ps)) (hz:(a8 (λ x↦x.snd) ps).length=ps.length),wpSs tb0 3 c55 (frame0 nm55 ([V.ref st,v,V.int now]++[])) H (λ x H'↦Fg Q V.none H') (Fg Q) (rE X)
def U_:=UV λ Q X st=>UV λ v now x=>UU λ it=>S_ Q X st v now x it
def t_:=dr (by have:=LW;infer_instance) U_
def Q:=t_.1
def X:=t_.2.1
def st:=t_.2.2.1
def v:=t_.2.2.2.1
def now:=t_.2.2.2.2.1
def x:=t_.2.2.2.2.2.1
def s1_:=t_.2.2.2.2.2.2
def it:=s1_.1
def ps:=s1_.2
theorem P_:S_ Q X st v now x it ps:=by
 intro us H h b8 d h1 h3 hE q_x h2 q G hD' hE' hlen hcnt hiff hz
 refine yU lU 3 (λ ρ H'=>H'=H/\ρ=[some (.ref st),some v,some (.int now),some (.int x.first),some (.int x.last),none,none]) ?_ ?_
 ·show wpE _ _ _ _ _ _ _ _
  exact qN hE (aj (of_decide_eq_true rfl) (aj rfl rfl))
 rintro _ _ ⟨rfl,rfl⟩
 refine bN (u:=.int (ps.countP λ p=>decide (p.1.last<x.first))) ?_ ?_
 ·exact cF h1 rfl (bS ME ⟨ps,h2,hE',cL ‹_›,G.1,G.2,rfl,rfl⟩)
 generalize ps.countP (λ p=>decide (p.1.last<x.first))=Bv at*
 refine bN (u:=.int Bv) ⟨rfl,rfl⟩ (qL ?_ ?_)
 ·refine cF (by assumption) rfl (kF (by assumption) (by lia) (rV (λ e=>?_) λ e=>⟨rfl,rfl⟩))
  have e:=of_decide_eq_true e
  have hi':Bv<ps.length:=by lia
  obtain ⟨p,hp⟩:∃p,ps[Bv]?=some p:=⟨_,an hi'⟩
  have hpE:=hE' p (a6 hp)
  refine cF (by assumption) rfl ?_
  refine cZ h2 (Cu hp (by lia)) ?_
  refine qN hpE ?_
  skip
  have hno:¬p.1.last<x.first:=λ z=>by have:=(hiff hp).mp z;exact eY _ ‹_›
  have:=(hD' p (a6 hp)).resolve_left hno
  exact xp (decide_eq_false (by lia)) ⟨rfl,rfl⟩
 refine bB false ⟨congrArg V.bool (decide_eq_false (by lia)),rfl⟩ (λ z=>aM z) (λ Z=>?_)
 refine cF h1 rfl (lR (Gn h2) ⟨ps.map (·.2),h2,by lia,aT _,by lia,rfl,fg ?_⟩)
 refine af (cK _) ?_
 rw [bh,bk,jh,oL] at q
 exact q
theorem A_:∀p,U_ p:=bC P_
end Ge
theorem ND:VC Av 3 ps55 nm55 [] c55:=by
 intro us H Q X h
 refine FG (λ st v now h=>?_) h
 refine jO h λ b8 x w1_ hl hE t2_=>(gK t2_ λ hx hD q=>?_)
 clear h t2_
 refine jO w1_ λ d it h1 h2 h3 t1_=>(gK t1_ λ h4 h5 h6=>?_)
 clear w1_ t1_
 have q:=q d it h1
 have G:=xo b8 h5 h6
 have hD':∀p∈isort (λ p:dY×V=>p.1.first) b8,p.1.last<x.first\/x.last<p.1.first:=λ p hp=>hD p ((jn b8).mp hp)
 have hins:=Dw (x:=(x,v)) G hx hD'
 rw [rI,hins] at q
 have hE':kK H (isort (λ p:dY×V=>p.1.first) b8):=λ p hp=>h3 p ((jn b8).mp hp)
 have hlen:(isort (λ p:dY×V=>p.1.first) b8).length<=2:=by exact af (kB _) hl
 generalize isort (λ p:dY×V=>p.1.first) b8=ps at*
 have hcnt:ps.countP (λ p=>decide (p.1.last<x.first))<=ps.length:=yg
 have hiff:=@pj x.first ps G
 have hz:(ps.map (·.2)).length=ps.length:=ag ..
 refine ⟨rfl,?_⟩
 rename_i q_x
 exact Ge.A_ (Q,X,st,v,now,x,it,ps) us H h b8 d h1 h3 hE q_x h2 q G hD' hE' hlen hcnt hiff hz
theorem L4:VC CN 3 ps76 nm76 [] c76:=by
 intro us H Q X h
 refine KZ (λ sp h=>?_) h
 refine aL h λ aW r1_ q=>?_
 clear h
 subst r1_
 refine ⟨rfl,?_⟩
 refine bB (!decide ((aa "interval")∈aW)) ?_ (λ e=>?_) (λ e=>?_)
 ·exact ⟨aW,rfl,rfl,rfl⟩
 ·have e:decide ((aa "interval")∈aW)=false:=by simpa using e
  rw [e] at q
  refine λ a d ha=>⟨d,MH.set_self _ _ _,λ c hc=>⟨rfl,fg ?_⟩⟩
  have nc:c≠a:=cH hc (MH.set_self _ _ _) bF
  have hc':H c=none:=by rw [MH.set_ne _ _ nc] at hc;exact hc
  exact q a c _ ⟨⟨d,MH.set_self _ _ _⟩,(MH.set_ne _ _ nc).trans (MH.set_self _ _ _),ha,hc',nc.symm⟩ (a7 (a7 (bZ ha) hc') ha)
 ·have e:decide ((aa "interval")∈aW)=true:=by simpa using e
  rw [e] at q
  refine bB true (by (refine aj (of_decide_eq_true rfl) ?_;refine aj rfl ?_;exact rfl)) (λ Z=>?_) (λ z=>aM z)
  refine λ a d ha=>⟨d,MH.set_self _ _ _,λ c hc=>⟨rfl,fg ?_⟩⟩
  have nc:c≠a:=cH hc (MH.set_self _ _ _) bF
  have hc':H c=none:=by rw [MH.set_ne _ _ nc] at hc;exact hc
  exact q a c _ ⟨⟨d,MH.set_self _ _ _⟩,(MH.set_ne _ _ nc).trans (MH.set_self _ _ _),ha,hc',nc.symm⟩ (a7 (a7 (bZ ha) hc') ha)
namespace FD
def S_ (H Q X b name d aW):=∀(hb:H b=some (bK.inst (Fn.cls 9) d [])) (q:∀(st x:aI) (H':MH) (as:List (aw×V)),G4 (decide (aa "interval"∈aW)) H H' st x->(H.del b).Sub H'->H' b=some (bK.inst (Fn.cls 9) d as)->ia (aa "store") as=some (V.ref st)->as.length<=20->Q V.none H'),wpSs tb0 4 c77 (frame0 nm77 ([V.ref b,V.str name,setSpec aW,V.tuple [V.int 32]]++[])) H (λ x H'↦Fg Q V.none H') (Fg Q) (rE X)
def U_:=UV λ H Q X=>UV λ b name d=>S_ H Q X b name d
def t_:=dr (by infer_instance) U_
def H:=t_.1
def Q:=t_.2.1
def X:=t_.2.2.1
def b:=t_.2.2.2.1
def name:=t_.2.2.2.2.1
def d:=t_.2.2.2.2.2.1
def s1_:=t_.2.2.2.2.2.2
def aW:=s1_
theorem P_:S_ H Q X b name d aW:=by
 intro hb q
 have hdel:∀o,MH.Sub (H.del b) (H.set b o):=λ o a ob e=>by
  have:a≠b:=cH e (MH.del_self _ _) b7
  refine af (MH.set_ne _ _ this) ?_;rw [MH.del_ne _ this] at e;exact e
 refine af ((kz hb).symm) ?_
 refine eW (.str name) ⟨rfl,rfl⟩ rfl rfl rfl (eW (setSpec aW) ⟨rfl,rfl⟩ rfl rfl rfl (eW (.tuple [.int 32]) ⟨rfl,rfl⟩ rfl rfl rfl (eW (.int 0) ⟨rfl,rfl⟩ rfl rfl rfl (eW (.bool false) ⟨rfl,rfl⟩ rfl rfl rfl (eW (.bool false) ⟨rfl,rfl⟩ rfl rfl rfl ?_)))))
 generalize hH1:H.set b _=H1
 refine bS Nl ⟨aW,rfl,λ st x H' hst hsub=>?_⟩
 refine wb hst λ w1_ e2 e3 e4 e5=>?_
 clear hst
 refine bw w1_ λ d2 e1=>?_
 clear w1_
 have hb1:H' b=some (.inst (.cls 9) d _):=hsub b _ (by (exact af hH1.symm (af (MH.set_self _ _ _) rfl)))
 have hstb:st≠b:=λ z=>by rw [z,<-hH1,MH.set_self] at e3;exact b7 e3
 have hxb:x≠b:=λ z=>by rw [z,<-hH1,MH.set_self] at e4;exact b7 e4
 refine kf hb1 rfl rfl (fg (q st x _ _ ⟨⟨d2,(MH.set_ne _ _ hstb).trans e1⟩,(MH.set_ne _ _ hxb).trans e2,?_,?_,e5⟩ ?_ (MH.set_self _ _ _) rfl (aP rfl)))
 ·rw [<-hH1,MH.set_ne _ _ hstb] at e3;exact e3
 ·rw [<-hH1,MH.set_ne _ _ hxb] at e4;exact e4
 ·refine a7 (MH.Sub.trans ?_ hsub) (MH.del_self _ _)
  refine af hH1.symm ?_;exact hdel _
theorem A_:∀p,U_ p:=bC P_
end FD
theorem NE:VC Eu 4 ps77 nm77 [] c77:=by
 intro us H Q X h
 refine Jt (λ b name Z h=>?_) h
 refine cu h λ d aW r1_ hb q=>?_
 clear h
 subst r1_
 refine ⟨rfl,?_⟩
 exact FD.A_ (H,Q,X,b,name,d,aW) hb q
theorem la (h:m≠n):∀{as:List (aw×V)},(alSet as n u).lookup m=as.lookup m
 |[]=>by unfold alSet;(exact af aG (af (show (m==n)=false from beq_eq_false_iff_ne.mpr h) rfl))
 |(k,w)::r=>by
  unfold alSet
  by_cases q:n=k
  ·subst q
   exact af (if_pos rfl) (af aG (af aG (af (show (m==n)=false from beq_eq_false_iff_ne.mpr h) rfl)))
  ·exact af (if_neg q) (af aG (af aG (af (la h) rfl)))
theorem tE:∀{as:List (aw×V)},(alSet as n u).length<=as.length+1
 |[]=>by simp [alSet]
 |(k,w)::r=>by
  unfold alSet
  split
  ·simp
  ·have:=@tE n u r
   simp only [aQ];exact cw ‹_›
noncomputable def wideOf (ls:List dY):Bool:=ls.any λ x=>decide (x.first≠x.last)
noncomputable def flagsOf (b:Bool):List aw:=if b then ["constant","interval"] else ["constant"]
theorem Dq (b:Bool):decide (("interval":aw)∈flagsOf b)=b:=by cases b<;>decide
theorem kK.set (ha:H a=some .edict) (h:kK H b8):kK (H.set a o) b8:=λ p hp=>by
 refine iC (h p hp) λ b d c t1_=>(bx t1_ λ e1 e2=>?_)
 clear t1_
 exact ⟨b,d,c,e1,by rw [MH.set_ne _ _ (λ z=>by rw [z,ha] at e2;exact oJ e2 rfl)];exact e2⟩
theorem gy.set (ha:H a=some .edict):gy H st b8->gy (H.set a o) st b8:=λ ⟨d,it,h1,h2,h3,r⟩=>
 ⟨d,it,by rw [MH.set_ne _ _ (λ z=>by rw [z,ha] at h1;exact oJ h1 rfl)];exact h1,by rw [MH.set_ne _ _ (λ z=>by rw [z,ha] at h2;exact oJ h2 rfl)];exact h2,h3.set ha,r⟩
theorem ek.set (ha:H a=some .edict) (h:ek H st b8) (ht:∀d tb,H st=some (.inst (.cls 5) d [("table",.ref tb)])->tb≠a):ek (H.set a o) st b8:=by
 refine jO h λ d tb h1 h2 h3 r=>?_
 clear h
 have:=ht d tb h1
 refine ⟨d,tb,by rw [MH.set_ne _ _ (λ z=>by rw [z,ha] at h1;exact oJ h1 rfl)];exact h1,by exact af (MH.set_ne _ _ this) h2,h3.set ha,r⟩
namespace Fw
def S_ (H:MH) (Q:V->MH->Prop) (name:aw) (ls:List dY) (b:aI) (st x d d2 as H1):=∀(X:aw->MH->Prop) (q:∀(v:V) (H':MH),(∀(H'':MH),(∀(x:aI) (o:bK),H x=none->H' x=some o->H'' x=some o)->lF H'' v (isort dY.first ls))->H.Sub H'->Q v H') (hl:ls.length<=3) (hsp:∀(x:dY),x∈ls->x.first<=x.last) (hpw:List.Pairwise (λ x y↦x.last<y.first\/y.last<x.first) ls) (y:Option V) (iv:Bool) (hiv:wideOf ls=iv) (hb:H b=none) (e3:H st=none) (e4:H x=none) (e1:H1 st=some (if iv=true then bK.inst (Fn.cls 6) d2 [(aa "items",V.ref x)] else bK.inst (Fn.cls 5) d2 [(aa "table",V.ref x)])) (e2:H1 x=some (if iv=true then bK.list [] else bK.edict)) (e5:st≠x) (nb1:st≠b) (nb2:x≠b) (hsub:H.Sub H1) (h1:H1 b=some (bK.inst (Fn.cls 9) d as)) (h2:ia (aa "store") as=some (V.ref st)) (h3:as.length<=20),wpSs tb0 5 (c79.drop 5) [some (V.str name),some (V.tuple [V.int 32]),some (V.tuple (a8 dY.v ls)),some (V.bool true),some (V.tuple (a8 V.str (flagsOf iv))),y,some (V.tuple []),some (V.ref b),none] H1 (λ x H'↦Fg Q V.none H') (Fg Q) (rE X)
def U_:=UV λ H Q name=>UV λ ls b st=>UV λ x d d2=>UU λ as=>S_ H Q name ls b st x d d2 as
def t_:=dr (by infer_instance) U_
def H:=t_.1
def Q:=t_.2.1
def name:=t_.2.2.1
def ls:=t_.2.2.2.1
def b:=t_.2.2.2.2.1
def st:=t_.2.2.2.2.2.1
def s1_:=t_.2.2.2.2.2.2
def x:=s1_.1
def d:=s1_.2.1
def d2:=s1_.2.2.1
def as:=s1_.2.2.2.1
def H1:=s1_.2.2.2.2
namespace Gc
def S_ (w8 H2 i N' b8 y2 z2 H3 lt H5):=∀(hsp:∀(x:dY),x∈ls->x.first<=x.last) (iv:Bool) (hiv:wideOf ls=iv) (e4:H x=none) (e1:H1 st=some (if iv=true then bK.inst (Fn.cls 6) d2 [(aa "items",V.ref x)] else bK.inst (Fn.cls 5) d2 [(aa "table",V.ref x)])) (e2:H1 x=some (if iv=true then bK.list [] else bK.edict)) (e5:st≠x) (nb2:x≠b) (b2:ia (aa "store") w8=some (V.ref st)) (k:∀(ρ':db) (H':MH),(∀(K:db->MH->Prop),(∀(b8:w6) (y z:Option V) (H':MH),a8 (λ x↦x.fst) b8=wT (i+1) ls->H.Sub H'->H' b=some (bK.inst (Fn.cls 9) d w8)->(if iv=true then gy H' st b8 else ek H' st b8)->H' st=some (if iv=true then bK.inst (Fn.cls 6) d2 [(aa "items",V.ref x)] else bK.inst (Fn.cls 5) d2 [(aa "table",V.ref x)])->(∀(p:dY×V),p∈b8->∃e de ce,p.snd=V.ref e/\H e=none/\H' e=some (bK.inst (Fn.cls 4) de (elemAttrs p.fst ce)))->K [some (V.str name),some (V.tuple [V.int 32]),some (V.tuple (a8 dY.v ls)),some (V.bool true),some (V.tuple (a8 V.str (flagsOf iv))),y,some (V.tuple []),some (V.ref b),z] H')->K ρ' H')->N' ρ' H') (sub3:H.Sub H3) (c1:H3 b=some (bK.inst (Fn.cls 9) d w8)) (c2:if iv=true then gy H3 st b8 else ek H3 st b8) (c3:H3 st=some (if iv=true then bK.inst (Fn.cls 6) d2 [(aa "items",V.ref x)] else bK.inst (Fn.cls 5) d2 [(aa "table",V.ref x)])) (cN:∀(p:dY×V),p∈b8->∃e de ce,p.snd=V.ref e/\H e=none/\H3 e=some (bK.inst (Fn.cls 4) de (elemAttrs p.fst ce))) (hlen:kU b8<=2) (hltm:lt∈ls) (hdis:∀(p:dY×V),p∈b8->p.fst.last<lt.first\/lt.last<p.fst.first) (hnext:∀(v:V),a8 (λ x↦x.fst) (b8++[(lt,v)])=wT (i+1) ls) (e:aI) (de:aI) (he:H3 e=none) (ce:aI) (he5:H5 e=some (bK.inst (Fn.cls 4) de (elemAttrs lt ce))) (sub5:H3.Sub H5),(λ ρ1 H1↦wpSs tb0 5 [S.expr (((E.loc 7).attr (aa "store")).meth (aa "put") [E.loc 8,E.int 0])] ρ1 H1 N' (λ r H4↦Fg Q r (backOf H2 H4 (V.tuple (a8 dY.v ls)))) j9) (([some (V.str name),some (V.tuple [V.int 32]),some (V.tuple (a8 dY.v ls)),some (V.bool true),some (V.tuple (a8 V.str (flagsOf iv))),y2,some (V.tuple []),some (V.ref b),z2].set 5 (some lt.v)).set 8 (some (V.ref e))) H5
def U_:=UV λ w8 H2 i=>UV λ N' b8 y2=>UV λ z2 H3 lt=>S_ w8 H2 i N' b8 y2 z2 H3 lt
def t_:=dr (by have:=LW;infer_instance) U_
def w8:=t_.1
def H2:=t_.2.1
def i:=t_.2.2.1
def N':=t_.2.2.2.1
def b8:=t_.2.2.2.2.1
def y2:=t_.2.2.2.2.2.1
def s1_:=t_.2.2.2.2.2.2
def z2:=s1_.1
def H3:=s1_.2.1
def lt:=s1_.2.2.1
def H5:=s1_.2.2.2
theorem P_:S_ w8 H2 i N' b8 y2 z2 H3 lt H5:=by
 intro hsp iv hiv e4 e1 e2 e5 nb2 b2 k sub3 c1 c2 c3 cN hlen hltm hdis hnext e de he ce he5 sub5
 have hE5:kh H5 (.ref e) lt:=⟨e,de,ce,rfl,he5⟩
 have c1':=sub5 _ _ c1
 have c3':=sub5 _ _ c3
 show wpE _ _ _ _ _ _ _ _
 refine cF c1' b2 ?_
 cases iv with
 |true=>
  have c2':gy H5 st b8:=gy.sub sub5 c2
  refine lR (qE c3' rfl rfl) (bS Mr ⟨b8,lt,c2',hlen,hE5,hsp lt hltm,hdis,λ d3 it hst=>⟨rfl,k _ _ λ K k=>?_⟩⟩)
  cases c3'.symm.trans hst
  refine jO c2' λ d4 it4 g1 g2 g3 t1_=>(gK t1_ λ g4 g5 g6=>?_)
  clear c2' t1_
  cases c3'.symm.trans g1
  have nx:∀{a c' d' as'},H5 a=some (.inst c' d' as')->a≠x:=λ e z=>by rw [z,g2] at e;cases e
  refine k (b8++[(lt,.ref e)]) _ _ _ (hnext _) (a7 (sub3.trans sub5) e4) ((MH.set_ne _ _ nb2.symm).trans c1') ?_ ((MH.set_ne _ _ e5).trans c3') ?_
  ·refine ⟨d2,x,(MH.set_ne _ _ e5).trans c3',MH.set_self _ _ _,?_,by (refine af az (af aV ?_));exact cw ‹_›,?_,?_⟩
   ·intro p hp
    rcases cv.mp hp with hp|hp
    ·refine iC (g3 p hp) λ a2 d3 c3 t1_=>(bx t1_ λ f1 f2=>?_)
     clear t1_
     exact ⟨a2,d3,c3,f1,(MH.set_ne _ _ (nx f2)).trans f2⟩
    ·cases aK.mp hp
     exact ⟨e,de,ce,rfl,(MH.set_ne _ _ (nx he5)).trans he5⟩
   ·intro p hp
    rcases cv.mp hp with hp|hp
    ·exact g5 p hp
    ·cases aK.mp hp;exact hsp lt hltm
   ·rw [dQ]
    refine ⟨g6,by simp,λ p hp q hq=>?_⟩
    cases aK.mp hq
    exact hdis p hp
  ·intro p hp
   rcases cv.mp hp with hp|hp
   ·refine iV (cN p hp) λ e' de' ce' f1 f2 f3=>?_
    have f3:=sub5 _ _ f3
    exact ⟨e',de',ce',f1,f2,(MH.set_ne _ _ (nx f3)).trans f3⟩
   ·cases aK.mp hp
    exact ⟨e,de,ce,rfl,sub3.none he,(MH.set_ne _ _ (nx he5)).trans he5⟩
 |false=>
  have c2':ek H5 st b8:=ek.sub sub5 c2
  have hone:lt.first=lt.last:=by
   have:=DI.mp hiv lt hltm
   simpa using this
  refine jO (id c2') λ d4 it4 g1 g2 Z t1_=>(bx t1_ λ g4 Z=>?_)
  clear t1_
  cases c3'.symm.trans g1
  have hnk:lt.first∉b8.map (λ p=>p.1.first):=by
   intro hm
   refine aL (bE.mp hm) λ p hp e=>?_
   have h8:=hdis p hp
   have h9:=g4 p hp
   lia
  have nx:∀{y c' d' as'},H5 y=some (.inst c' d' as')->y≠x:=λ ey z=>by
   rcases g2 with ⟨g2,_⟩|g2<;>rw [z,g2] at ey<;>cases ey
  refine lR (qE c3' rfl rfl) (bS Nm ⟨b8,lt,c2',hlen,hE5,hone,hnk,λ H6 hP6 Z hoth=>⟨rfl,k _ _ λ K k=>?_⟩⟩)
  have hoth:∀{a},a≠x->H6 a=H5 a:=λ {a} n=>hoth d2 x c3' a n
  refine k (b8++[(lt,V.ref e)]) _ _ _ (hnext _) (λ a o ea=>?_) ((hoth nb2.symm).trans c1') (show ek H6 st (b8++[(lt,V.ref e)]) from hP6) ((hoth e5).trans c3') ?_
  ·rw [hoth λ z=>by rw [z,e4] at ea;cases ea]
   exact (sub3.trans sub5) a o ea
  ·intro p hp
   rcases cv.mp hp with hp|hp
   ·refine iV (cN p hp) λ e' de' ce' f1 f2 f3=>?_
    have f3:=sub5 _ _ f3
    exact ⟨e',de',ce',f1,f2,(hoth (nx f3)).trans f3⟩
   ·cases aK.mp hp
    exact ⟨e,de,ce,rfl,sub3.none he,(hoth (nx he5)).trans he5⟩
theorem A_:∀p,U_ p:=bC P_
end Gc
theorem P_:S_ H Q name ls b st x d d2 as H1:=by
 intro X q hl hsp hpw y iv hiv hb e3 e4 e1 e2 e5 nb1 nb2 hsub h1 h2 h3
 have l1:=@tE (aa "is_anonymous") (.bool true) as
 refine kf h1 rfl (zh (ao ‹_› (by decide))) (kf (MH.set_self _ _ _) rfl (zh (by lia)) ?_)
 refine af set_set ?_
 have b2:(alSet (alSet as (aa "is_anonymous") (.bool true)) (aa "is_bound") (.bool true)).lookup (aa "store")=some (.ref st):=by (refine af (la (by decide)) (af (la (by decide)) ?_));exact h2
 generalize alSet (alSet as (aa "is_anonymous") (.bool true)) (aa "is_bound") (.bool true)=w8 at*
 have b3:∀{a},a≠b->(H1.set b (.inst (.cls 9) d w8)) a=H1 a:=λ n=>MH.set_ne _ _ n
 have b1:(H1.set b (.inst (.cls 9) d w8)) b=some (.inst (.cls 9) d w8):=MH.set_self _ _ _
 generalize H1.set b (.inst (.cls 9) d w8)=H2 at*
 have sub2:MH.Sub H H2:=λ a o e=>by
  have:a≠b:=cH e hb b7
  refine af (b3 this) ?_;exact hsub a o e
 refine ma (.tuple (ls.map dY.v)) (us:=ls.map dY.v) (λ i K=>∀(b8:w6) y z H',b8.map (·.1)=ls.take i->MH.Sub H H'->H' b=some (.inst (.cls 9) d w8)->(if iv then gy H' st b8 else ek H' st b8)->H' st=some (if iv then .inst (.cls 6) d2 [("items",.ref x)] else .inst (.cls 5) d2 [("table",.ref x)])->
  (∀p∈b8,∃e de ce,p.2=.ref e/\H e=none/\H' e=some (.inst (.cls 4) de (elemAttrs p.1 ce)))->K [some (.str name),some (.tuple [.int 32]),some (.tuple (ls.map dY.v)),some (.bool true),some (.tuple ((flagsOf iv).map .str)),y,some (.tuple []),some (.ref b),z] H') (λ K k=>k) rfl ?_ ?_ ?_
 ·refine λ K k=>k [] y none _ rfl sub2 b1 ?_ ((b3 nb1).trans e1) (λ Z z=>(cI z).elim)
  cases iv with
  |true=>exact ⟨d2,x,(b3 nb1).trans e1,(b3 nb2).trans e2,(λ Z h=>by cases h),by simp,(λ Z h=>by cases h),.nil⟩
  |false=>exact ⟨d2,x,(b3 nb1).trans e1,.inl ⟨(b3 nb2).trans e2,rfl⟩,(λ Z h=>by cases h),(λ Z h=>by cases h),iu,by simp⟩
 ·intro i u N' e k b8 y2 z2 H3 hels sub3 c1 c2 c3 cN
  rw [aF] at e
  refine aL (aH.mp e) λ lt hli r1_=>?_
  subst r1_
  have hlen:b8.length<=2:=by
   have h5:=congrArg kU hels
   rw [ag,bU] at h5
   have h6:=(aO.mp hli).1
   lia
  have hltm:=a6 hli
  have hdis:∀p∈b8,p.1.last<lt.first\/lt.last<p.1.first:=by
   intro p hp
   have hp1:p.1∈ls.take i:=by refine af hels.symm ?_;exact d9 (f:=(·.1)) hp
   have hsplit:ls=ls.take i++(lt::ls.drop (i+1)):=by
    have hi:=(aO.mp hli).1
    have h7:=cC hi
    rw [an hi] at hli;cases hli
    exact af h7.symm (af (dA _ _) rfl)
   rw [hsplit] at hpw
   exact (dQ.mp hpw).2.2 p.1 hp1 lt (.head _)
  have hnext:∀v:V,(b8++[(lt,v)]).map (·.1)=ls.take (i+1):=λ v=>by
   refine af dp (af hli (af bh (af hels ?_)));rfl
  intro e de he
  refine ⟨de,MH.set_self _ _ _,λ ce hc=>⟨rfl,?_⟩⟩
  have nc:ce≠e:=cH hc (MH.set_self _ _ _) bF
  have sub4:=a7 (o:=.inst (.cls 4) de [("box",lt.box),("data",lt.dataV),("until",.int 0),("timeout",.int 0),("comment",.str ""),("cells",.ref ce)]) (a7 (o:=.edict) (bZ (o:=.inst (.cls 4) de []) he) ((MH.set_ne _ _ nc).symm.trans hc)) he
  refine kf (MH.set_self _ _ _) rfl rfl ?_
  refine af (show alSet [("box",lt.box),("data",lt.dataV),("until",.int 0),("timeout",.int 0),("comment",.str ""),("cells",.ref ce)] (aa "comment") (.str lt.note)=elemAttrs lt ce from rfl) ?_
  have he5:=MH.set_self (((H3.set e (.inst (.cls 4) de [])).set ce .edict).set e (.inst (.cls 4) de [("box",lt.box),("data",lt.dataV),("until",.int 0),("timeout",.int 0),("comment",.str ""),("cells",.ref ce)])) e (.inst (.cls 4) de (elemAttrs lt ce))
  have sub5:=a7 (o:=.inst (.cls 4) de (elemAttrs lt ce)) sub4 he
  generalize (((H3.set e (.inst (.cls 4) de [])).set ce .edict).set e (.inst (.cls 4) de [("box",lt.box),("data",lt.dataV),("until",.int 0),("timeout",.int 0),("comment",.str ""),("cells",.ref ce)])).set e (.inst (.cls 4) de (elemAttrs lt ce))=H5 at*
  exact Gc.A_ (w8,H2,i,N',b8,y2,z2,H3,lt,H5) hsp iv hiv e4 e1 e2 e5 nb2 b2 k sub3 c1 c2 c3 cN hlen hltm hdis hnext e de he ce he5 sub5
 ·intro b8 y2 z2 H3 hels sub3 c1 c2 c3 cN _
  rw [ag,c8] at hels
  refine fg (q _ _ (λ H'' hH=>⟨b,d,w8,st,b8,rfl,hH _ _ hb c1,b2,?_,by (exact af hels rfl)⟩) sub3)
  have elsOk:kK H'' b8:=λ p hp=>by
   exact iV (cN p hp) λ e de ce f1 f2 f3=>⟨e,de,ce,f1,hH _ _ f2 f3⟩
  cases iv with
  |true=>
   obtain ⟨d4,it4,g1,g2,g3,g4⟩:gy H3 st b8:=c2
   cases c3.symm.trans g1
   exact .inr ⟨d2,x,hH _ _ e3 c3,hH _ _ e4 g2,elsOk,g4⟩
  |false=>
   obtain ⟨d4,it4,g1,g2,g3,g4⟩:ek H3 st b8:=c2
   cases c3.symm.trans g1
   exact .inl ⟨d2,x,hH _ _ e3 c3,g2.imp (λ z=>⟨hH _ _ e4 z.1,z.2⟩) (λ z=>hH _ _ e4 z),elsOk,g4⟩
theorem A_:∀p,U_ p:=bC P_
end Fw
@[elab_as_elim] theorem Ej {P:List dY->Prop} (h:∀x∈ls,x.data≠[]) (n:P []) (c:∀f l d0 dr nt r,P (⟨f,l,d0::dr,nt⟩::r)):P ls:=by
 cases ls with
 |nil=>exact n
 |cons x r=>
  have:=h x (.head _)
  cases x with
  |mk f l dt nt=>cases dt with
   |nil=>exact absurd rfl this
   |cons a b=>exact c ..
theorem Ny:VC Cm 5 ps79 nm79 [] c79:=by
 intro us H Q X h
 refine JS (λ name vs h=>?_) h
 refine cJ h λ ls r1_ w2_ q=>?_
 clear h
 subst r1_
 refine oB w2_ λ hl hsp hpw hdat=>?_
 clear w2_
 have hz:(ls.map dY.v).length=ls.length:=ag ..
 refine ⟨rfl,?_⟩
 refine bN (u:=.tuple ((flagsOf false).map .str)) ⟨rfl,rfl⟩ (ma (.tuple (ls.map dY.v)) (us:=ls.map dY.v) (λ i K=>∀y,K [some (.str name),some (.tuple [.int 32]),some (.tuple (ls.map dY.v)),some (.bool true),some (.tuple ((flagsOf (wideOf (ls.take i))).map .str)),y,none,none,none] H) (λ K k=>k) rfl (λ K k=>k none) ?_ ?_)
 ·intro i u N' e k y
  rw [aF] at e
  refine aL (aH.mp e) λ x hxi r1_=>?_
  subst r1_
  have hw:wideOf (ls.take (i+1))=(wideOf (ls.take i)||decide (x.first≠x.last)):=by
   unfold wideOf
   refine af dp (af hxi (af List.any_append ?_));simp
  refine bB (decide (x.first≠x.last)) ?_ (λ e=>?_) (λ e=>?_)
  ·exact bS ML (Ho (λ h=>⟨congrArg V.bool (decide_eq_false (λ z=>z h)).symm,rfl⟩) λ h=>⟨congrArg V.bool (decide_eq_true h).symm,rfl⟩)
  ·rw [e,iB] at hw
   refine k _ _ λ K k=>?_
   have k:=k (some x.v)
   rw [hw] at k;exact k
  ·rw [e,HN] at hw
   refine k _ _ λ K k=>?_
   have k:=k (some x.v)
   rw [hw] at k;exact k
 intro y _
 refine af (ag _) (af c8 ?_)
 refine af (show backOf H H (.tuple (ls.map dY.v))=H from rfl) ?_
 generalize hiv:wideOf ls=iv
 refine bN (u:=.none) ⟨rfl,rfl⟩ (eC (λ ρ K=>K [some (.str name),some (.tuple [.int 32]),some (.tuple (ls.map dY.v)),some (.bool true),some (.tuple ((flagsOf iv).map .str)),y,some (.tuple []),none,none] H) (λ K k=>?_) ?_)
 ·show wpSs tb0 5 [_] _ _ _ _ _
  refine bB true ⟨rfl,rfl⟩ (λ Z=>?_) (λ z=>aM z)
  refine bN (u:=.tuple []) ⟨rfl,rfl⟩ (bB false ?_ (λ z=>aM z) (λ Z=>k))
  revert hl hz
  refine Ej hdat (λ Z Z=>⟨by decide,rfl,rfl⟩) λ f l d0 dr nt r hl hz=>?_
  refine aj (by lia) (FW (decide_eq_true (by (refine af (ag _) (af aQ ?_));lia)) ?_)
  exact ⟨rfl,rfl,rfl⟩
 refine dP (λ K=>∀b st x d d2 (as:List (aw×V)) H1,H b=none->H st=none->H x=none->H1 st=some (if iv then .inst (.cls 6) d2 [("items",.ref x)] else .inst (.cls 5) d2 [("table",.ref x)])->H1 x=some (if iv then .list [] else .edict)->st≠x->st≠b->x≠b->MH.Sub H H1->H1 b=some (.inst (.cls 9) d as)->as.lookup ("store":aw)=some (.ref st)->as.length<=20->K (.ref b) H1) (λ K k=>?_) ?_
 ·intro b d hb
  refine ⟨d,flagsOf iv,rfl,MH.set_self _ _ _,λ st x H1 as hN hsub h1 h2 h3=>⟨rfl,?_⟩⟩
  rw [Dq] at hN
  refine wb hN λ w1_ e2 e3 e4 e5=>?_
  clear hN
  refine bw w1_ λ d2 e1=>?_
  clear w1_
  have nb1:st≠b:=cH e3 (MH.set_self _ _ _) bF
  have nb2:x≠b:=cH e4 (MH.set_self _ _ _) bF
  refine k b st x d d2 as H1 hb ((MH.set_ne _ _ nb1).symm.trans e3) ((MH.set_ne _ _ nb2).symm.trans e4) e1 e2 e5 nb1 nb2 (λ a o e=>?_) h1 h2 h3
  refine hsub a o ?_
  have:a≠b:=cH e hb b7
  refine af (MH.del_ne _ this) (af (MH.set_ne _ _ this) ?_);exact e
 intro b st x d d2 as H1 hb e3 e4 e1 e2 e5 nb1 nb2 hsub h1 h2 h3
 dsimp only [aC,aD]
 exact Fw.A_ (H,Q,name,ls,b,st,x,d,d2,as,H1) X q hl hsp hpw y iv hiv hb e3 e4 e1 e2 e5 nb1 nb2 hsub h1 h2 h3
theorem GO (s:MH.Sub H H') (h:H' c=some o):MH.Sub (H.set c o) H':=λ a ob e=>by
 by_cases q:a=c
 ·subst q;rw [MH.set_self] at e;(have e:=ac e;subst e);exact h
 ·rw [MH.set_ne _ _ q] at e;exact s _ _ e
theorem MS:VC CM 2 ps82 nm82 [] c82:=by
 intro us H Q X h
 refine IK (λ low aA m q aX h=>?_) h
 refine Dr h λ l0 l1 hbits m0 m1 q0 t1_=>(bx t1_ λ q1 k=>?_)
 clear h t1_
 refine ⟨rfl,?_⟩
 have hb:0<=aA/\aA<=1000000/\(2:Int).natAbs<2^64:=by rcases hbits with rfl|rfl<;>decide
 intro c hc
 generalize hL:(λ k:Nat=>(⟨10*(((k:Int)+q) %3)+q/3 %5,10*(((k:Int)+q) %3)+q/3 %5+m/4/5^k %5,(low+257*k) %2^aA.toNat::(if aX then [(q+11*k) %65536] else []),if q/15 %2=0 then "" else ("c":aw)++dg k⟩:dY))=L
 have hlits:lits low aA m q aX=(bH (m %4).toNat).map L:=by refine af hL.symm ?_;rfl
 rw [hlits] at k
 refine ma (.range (m %4)) (us:=(bH (m %4).toNat).map λ (i:Nat)=>.int i) (λ i K=>∀x y z H',MH.Sub H H'->H' c=some (.list ((bH i).map λ k=>(L k).v))->K [some (.int low),some (.int aA),some (.int m),some (.int q),some (.bool aX),some (.ref c),x,y,z] H') (λ K k=>aj (by lia) (aj (by lia) k)) rfl (λ K k=>k none none none _ (bZ hc) (MH.set_self _ _ _)) ?_ ?_
 ·intro i u N' e kk x y z H1 sub1 h1
  rw [aF] at e
  refine aL (aH.mp e) λ j hj r1_=>?_
  subst r1_
  obtain ⟨hj1,hj2⟩:=aO.mp hj
  rw [fv] at hj2
  subst hj2
  rw [bP] at hj1
  have hi3:i<4:=by lia
  have hdg:=(by decide+kernel:∀i:Nat,i<4->(dg (i:Int)).length<=2/\divOk ((5:Int)^i)=true) i hi3
  refine bN (u:=.int (10*(((i:Int)+q) %3)+q/3 %5)) ⟨ed (by decide),rfl,rfl⟩ (bN (u:=.tuple [.int ((low+257*i) %2^aA.toNat)]) ?_ ?_)
  ·exact aj (ed (by decide)) (aj hb (pK (decide_eq_true (gn _)) ⟨rfl,rfl⟩))
  refine eC (λ ρ K=>K [some (.int low),some (.int aA),some (.int m),some (.int q),some (.bool aX),some (.ref c),some (.int i),some (.int (10*(((i:Int)+q) %3)+q/3 %5)),some (L i).dataV] H1) (λ K k=>?_) ?_
  ·show wpSs tb0 2 [_] _ _ _ _ _
   refine bB aX ⟨rfl,rfl⟩ (λ e=>?_) (λ e=>?_)
   ·subst e hL
    exact aj (ed (by decide)) (aj (of_decide_eq_true rfl) k)
   ·subst e hL
    exact k
  show wpE _ _ _ _ _ _ _ _
  refine jD (by rfl) (mM h1) (aj ⟨by lia,by lia,by decide⟩ (pK hdg.2 ?_))
  refine ⟨by lia,by lia,show 1+(dg (i:Int)).length<=bG from ao (oM hdg.1 1) (by decide),λ c2 hc2=>?_⟩
  have n2:c2≠c:=cH hc2 h1 bF
  refine cZ (MH.set_self _ _ _) (u:=.str (L i).note) ?_ ?_
  ·refine af hL.symm ?_
   rcases (show q/15 %2=0\/q/15 %2=1 by lia) with e|e
   ·rw [e];rfl
   ·rw [e];rfl
  refine Cn ((MH.set_ne _ _ n2.symm).trans h1) (by (refine af (ag _) (af bP ?_));lia) ⟨rfl,kk _ _ λ K k=>k _ _ _ _ (a7 (a7 sub1 (sub1.none hc2)) hc) ((MH.set_self _ _ _).trans ?_)⟩
  refine af ml (af bh (af hL.symm ?_));rfl
 ·intro x y z H4 sub1 h1 _
  refine DU (GO sub1 ?_) (k c hc)
  refine h1.trans ?_
  refine af (ag _) (af bP (af cD ?_));rfl
theorem ug (h:mV ls):(ls.map dY.first).Nodup:=by
 refine oB h λ Z h1 h2 Z=>?_
 rw [ub,DP]
 refine pF ?_ h2
 intro a b ha hb hab
 have:=h1 a ha
 have:=h1 b hb
 lia
theorem rz (ha:a<2^128) (hb:b<2^200) (a0:0<=a) (b0:0<=b):Fb a b:=by
 have h1:=mW (kE a0 ha)
 have h2:=mW (kE b0 hb)
 unfold Fb
 intro h
 simp only [bI,decide_eq_true_eq] at h
 have h3:=h.2
 unfold Builtin.Int.intTooBig at h3
 have h4:=of_decide_eq_true h3
 have h5:PySem.bitsLine≥1000:=by decide
 lia
theorem rQ {P:aw->Prop} (h:∀j:Nat,j<10->P (dg (j:Int))) (h0:0<=i) (h1:i<=9):P (dg i):=by
 refine bw (bL h0) λ j r1_=>?_
 subst r1_
 exact h j (by lia)
theorem Dn (h0:0<=i) (h1:i<10):(dg i).length<=2:=rQ (P:=λ s=>s.length<=2) (by decide+kernel) h0 (bJ h1)
namespace Gb
def S_ (H Q X a9 low m a b ls):=∀(aA:Int) (names:List aw) (ha:H a=some (bK.list (a8 dY.v ls))) (hb:H b=some (bK.list (a8 V.str names))) (hnames:names=[aa "mark"]\/names=[aa "mark",aa "iif"]) (hls:mV ls) (hbits:aA=32\/aA=128) (l0:0<=low) (l1:low<2^aA.toNat) (q:Q (addrV a9 low aA m ls names) H),wpSs tb0 2 c84 (frame0 nm84 ([V.int a9,V.int low,V.int aA,V.int m,V.ref a,V.ref b]++[])) H (λ x H'↦Fg Q V.none H') (Fg Q) (rE X)
def U_:=UV λ H Q X=>UV λ a9 low m=>UU λ a=>UU λ b=>S_ H Q X a9 low m a b
def t_:=dr (by have:=LW;infer_instance) U_
def H:=t_.1
def Q:=t_.2.1
def X:=t_.2.2.1
def a9:=t_.2.2.2.1
def low:=t_.2.2.2.2.1
def m:=t_.2.2.2.2.2.1
def s1_:=t_.2.2.2.2.2.2
def a:=s1_.1
def b:=s1_.2.1
def ls:=s1_.2.2
theorem P_:S_ H Q X a9 low m a b ls:=by
 intro aA names ha hb hnames hls hbits l0 l1 q
 have hbb:0<=aA/\aA<=128:=by rcases hbits with rfl|rfl<;>decide
 have p2:=gn aA.toNat
 unfold addrV at q
 refine bB (decide (a9=0)) ⟨rfl,rfl⟩ (λ e=>?_) (λ e=>?_)
 ·rw [if_pos (of_decide_eq_true e)] at q
  exact fg q
 rw [if_neg (of_decide_eq_false e)] at q
 refine bB (decide (a9=1)) ⟨rfl,rfl⟩ (λ e=>?_) (λ e=>?_)
 ·rw [if_pos (of_decide_eq_true e)] at q
  exact fg q
 rw [if_neg (of_decide_eq_false e)] at q
 refine bB (decide (a9=2)) ⟨rfl,rfl⟩ (λ e=>?_) (λ e=>?_)
 ·rw [if_pos (of_decide_eq_true e)] at q
  exact aj ⟨hbb.1,by lia,by decide⟩ (pK (decide_eq_true (Int.sub_pos_of_lt ‹_›)) (fg q))
 rw [if_neg (of_decide_eq_false e)] at q
 refine bB (decide (a9=3)) ⟨rfl,rfl⟩ (λ e=>?_) (λ e=>?_)
 ·rw [if_pos (of_decide_eq_true e)] at q
  have hm0:0<=m %(aA+1):=aR _ (by lia)
  have hm1:m %(aA+1)<aA+1:=aN _ (by lia)
  have pw:=gn (aA -m %(aA+1)).toNat
  have pb:(2:Int)^(aA -m %(aA+1)).toNat<=2^128:=qU (by lia)
  have hm:decide (0<aA+1)=true:=decide_eq_true (dL ‹_› ‹_›)
  refine bN (u:=.int (2^(aA -m %(aA+1)).toNat)) ?_ ?_
  ·exact pK hm (aj ⟨by lia,by lia,by decide⟩ ⟨rfl,rfl⟩)
  have dv:(0:Int)<2^(aA -m %(aA+1)).toNat/\cX low (2^(aA -m %(aA+1)).toNat)=false:=⟨pw,HL (k:=129) (kE (aT _) (dL pb (by decide))) (by decide)⟩
  have fh:Fb (low/2^(aA -m %(aA+1)).toNat) (2^(aA -m %(aA+1)).toNat):=by
   refine rz ?_ ?_ (GC l0 (aT _)) (aT _)
   ·exact dL (Int.ediv_le_self _ l0) (kn l1 (qU (by lia:aA.toNat<=128)))
   ·exact dL pb (by decide)
  refine kj (λ Z=>?_) λ Z=>aj dv ?_
  ·exact aj fh (pK hm (fg q))
  ·exact aj fh (pK hm (fg q))
 rw [if_neg (of_decide_eq_false e)] at q
 refine eC (λ ρ K=>K [some (.int a9),some (.int low),some (.int aA),some (.int m),some (.ref a),some (.ref b),none,some (fieldV ("meta "++names.headD ""))] H) (λ K k=>?_) ?_
 ·rcases hnames with rfl|rfl
  ·exact cZ hb rfl (aj (of_decide_eq_true rfl) k)
  ·exact cZ hb rfl (aj (of_decide_eq_true rfl) k)
 refine eC (λ ρ K=>K [some (.int a9),some (.int low),some (.int aA),some (.int m),some (.ref a),some (.ref b),none,some (keyOf names)] H) (λ K k=>?_) ?_
 ·rcases hnames with rfl|rfl
  ·exact kF hb (by decide) k
  ·exact kF hb (by decide) (cZ hb rfl (aj (of_decide_eq_true rfl) k))
 refine bB (decide (a9=4)) ⟨rfl,rfl⟩ (λ e=>?_) (λ e=>?_)
 ·rw [if_pos (of_decide_eq_true e)] at q
  refine .inl ⟨ls,ha,ug hls,hls.1,λ c hc=>?_⟩
  exact ⟨_,MH.set_self _ _ _,by (refine af (ag _) (af (kB _) ?_));have:=hls.1;exact ao ‹_› (by decide),DU (bZ hc) q⟩
 ·rw [if_neg (of_decide_eq_false e)] at q
  exact ⟨aR _ (by decide),bJ (aN _ (by decide)),show 1+(dg (m %10)).length<=bG from ao (oM (Dn (aR _ (by decide)) (aN _ (by decide))) 1) (by decide),fg q⟩
theorem A_:∀p,U_ p:=bC P_
end Gb
theorem LX:VC C2 2 ps84 nm84 [] c84:=by
 intro us H Q X h
 refine Ko (λ a9 low aA m a b h=>?_) h
 refine jO h λ ls names ha hb hnames t1_=>(Dr t1_ λ hls f0 f1 hbits l0 l1 t2_=>(gK t2_ λ m0 m1 q=>?_))
 refine ⟨rfl,?_⟩
 exact Gb.A_ (H,Q,X,a9,low,m,a,b,ls) aA names ha hb hnames hls hbits l0 l1 q
namespace Gq
def S_ (H Q X gU aY lo hi dq):=∀(twice:Bool) (l0:0<=lo) (h0:0<=hi) (n0:0<=dq) (n1:dq<=16) (q:∀(p b:aI) (vs:List V) (H':MH),H' p=some (bK.list vs)->GroupsAt H' vs (pairGs gU aY lo hi dq twice)->H' b=some (bK.list (pairRegs gU aY lo hi twice))->H.Sub H'->H p=none->H b=none->Q (V.tuple [V.ref p,V.ref b]) H'),(λ ρ1 H1↦wpSs tb0 3 [S.ite (E.bop true [E.cmp lE (E.loc 5) (E.loc 6),(E.loc 4).not]) [S.ret (E.tup [E.lst [E.lst [E.tup [E.str (aa "immediate"),E.loc 0,(E.fn (aa "_law_octets") (Fn.user 81)).call [E.loc 5,E.loc 3]]]],E.lst [E.loc 0,E.loc 0]])] [],S.assign (T.loc 7) (E.lst [E.lst [E.tup [E.str (aa "immediate"),E.loc 0,(E.fn (aa "_law_octets") (Fn.user 81)).call [E.loc 5,E.loc 3]]],E.lst [E.tup [E.str (aa "immediate"),E.loc 1,(E.fn (aa "_law_octets") (Fn.user 81)).call [E.loc 6,E.loc 3]]]]),S.ret (E.tup [E.loc 7,E.lst [E.loc 0,E.loc 1]])] ρ1 H1 (λ x H'↦Fg Q V.none H') (Fg Q) (rE X)) (setAll (frame0 nm85 ([V.int gU,V.int aY,V.tuple [V.int lo,V.int hi],V.int dq,V.bool twice]++[])) [5,6] [V.int lo,V.int hi]) H
def U_:=UV λ H Q X=>UV λ gU aY lo=>UU λ hi=>S_ H Q X gU aY lo hi
def t_:=dr (by infer_instance) U_
def H:=t_.1
def Q:=t_.2.1
def X:=t_.2.2.1
def gU:=t_.2.2.2.1
def aY:=t_.2.2.2.2.1
def lo:=t_.2.2.2.2.2.1
def s1_:=t_.2.2.2.2.2.2
def hi:=s1_.1
def dq:=s1_.2
theorem P_:S_ H Q X gU aY lo hi dq:=by
 intro twice l0 h0 n0 n1 q
 have new:∀{G:MH} {a b:aI} {o:bK},(G.set a o) b=none->b≠a/\G b=none:=λ {G a b o} f=>by
  have:b≠a:=cH f (MH.set_self _ _ _) bF
  exact ⟨this,by rw [MH.set_ne _ _ this] at f;exact f⟩
 unfold pairGs pairRegs at q
 refine bB (decide (lo=hi/\twice=false)) ?_ (λ e=>?_) (λ e=>?_)
 ·refine rV (λ e=>?_) λ e=>⟨congrArg V.bool (decide_eq_false λ z=>of_decide_eq_false e z.1).symm,rfl⟩
  cases twice
  ·exact ⟨congrArg V.bool (decide_eq_true ⟨of_decide_eq_true e,rfl⟩).symm,rfl⟩
  ·exact ⟨congrArg V.bool (decide_eq_false λ z=>nomatch z.2).symm,rfl⟩
 ·have e:=of_decide_eq_true e
  rw [if_pos e,if_pos e] at q
  refine bS Dv ⟨l0,n0,n1,λ c hc d hd b hb=>?_⟩
  exact bx (new hd) λ nd hd'=>(bx (new hb) λ bd hb=>(bx (new hb) λ bc hb'=>(fg (q d b [.ref c] _ ((MH.set_ne _ _ bd.symm).trans (MH.set_self _ _ _)) ⟨⟨c,rfl,(MH.set_ne _ _ bc.symm).trans ((MH.set_ne _ _ nd.symm).trans (MH.set_self _ _ _))⟩,trivial⟩ (MH.set_self _ _ _) (a7 (a7 (bZ hc) hd') hb') hd' hb'))))
 ·have e:=of_decide_eq_false e
  rw [if_neg e,if_neg e] at q
  refine bS Dv ⟨l0,n0,n1,λ c hc=>?_⟩
  refine bS Dv ⟨h0,n0,n1,λ c2 hc2 d hd b hb=>?_⟩
  refine bx (new hc2) λ n2 hc2'=>(bx (new hd) λ dc2 hd=>(bx (new hd) λ dc hd'=>(bx (new hb) λ bd hb=>(bx (new hb) λ bc2 hb=>(bx (new hb) λ bc hb'=>?_)))))
  exact fg (q d b [.ref c,.ref c2] _ ((MH.set_ne _ _ bd.symm).trans (MH.set_self _ _ _)) ⟨⟨c,rfl,(MH.set_ne _ _ bc.symm).trans ((MH.set_ne _ _ dc.symm).trans ((MH.set_ne _ _ n2.symm).trans (MH.set_self _ _ _)))⟩,⟨c2,rfl,(MH.set_ne _ _ bc2.symm).trans ((MH.set_ne _ _ dc2.symm).trans (MH.set_self _ _ _))⟩,trivial⟩ (MH.set_self _ _ _)
   (a7 (a7 (a7 (bZ hc) hc2') hd') hb') hd' hb')
theorem A_:∀p,U_ p:=bC P_
end Gq
theorem Nf:VC CQ 3 ps85 nm85 [] c85:=by
 intro us H Q X h
 refine J7 (λ gU aY lo hi dq twice h=>?_) h
 refine wb h λ l0 h0 n0 n1 q=>?_
 refine ⟨rfl,rfl,?_⟩
 exact Gq.A_ (H,Q,X,gU,aY,lo,hi,dq) twice l0 h0 n0 n1 q
theorem BU {l:List Int} (h:l.length=4):∃a b c d,l=[a,b,c,d]:=CK (List.exists_cons_of_length_eq_add_one h) λ a t e=>by
 subst e
 exact iC (mv (t8 h)) λ b c d e=>⟨a,b,c,d,congrArg _ e⟩
theorem Di (h0:0<=i) (h1:i<=9):(dg i).length=1:=rQ (P:=λ s=>s.length=1) (by decide+kernel) h0 h1
theorem rg (zs:List Int) (k:Int):0<=digit zs k/\digit zs k<2^64:=by
 unfold digit
 split
 ·exact ⟨aR _ (by decide),aN _ (by decide)⟩
 ·exact ⟨by decide,by decide⟩
theorem Cv (l:List Int) (x:Int):numOf (l++[x])=numOf l*256+x:=by
 unfold numOf;refine af qd ?_;rfl
theorem wu (n:Int) (k:Nat):octets n ((k+1:Nat):Int)=octets (n/256) k++[n %256]:=by
 unfold octets
 refine af (cK _) (af (cK _) (af ml (af bh ?_)))
 congr 1
 ·refine gu λ i hi=>?_
  have hi:=ca.mp hi
  have:k+1 -1 -i=(k -1 -i)+1:=by (exact af (Nat.add_sub_cancel _ _) (af (Nat.sub_right_comm _ _ _) (af (Nat.sub_add_cancel (DZ hi)) rfl)))
  exact af this (af (jR _ _) (af (Int.mul_comm (256^(k -1 -i)) 256) (af (xa (by decide)) rfl)))
 ·simp
theorem m7:∀(k:Nat) (n:Int),numOf (octets n k)=n %256^k
 |0,n=>by
  have:octets n ((0:Nat):Int)=[]:=rfl
  refine af this ?_;simp [numOf]
 |k+1,n=>by
  refine af (wu _ _) (af (Cv _ _) (af (m7 k (n/256)) (af (jR _ _) (af (Int.mul_comm ((256:Int)^k) 256) ?_))))
  have h1:=zi n 256
  have hp:(0:Int)<256^k:=by refine af (uz _) ?_;exact gn _
  have h2:=aR (n/256) (iJ hp)
  have h3:=aN (n/256) hp
  have h4:=zi (n/256) (256^k)
  have h5:=aR n (show (256:Int)≠0 by decide)
  have h6:=aN n (show (0:Int)<256 by decide)
  have e:n=(256*256^k)*(n/256/256^k)+(n/256 %256^k*256+n %256):=by
   have:(256*256^k)*(n/256/256^k)=256*(256^k*(n/256/256^k)):=Int.mul_assoc _ _ _
   refine af this ?_;lia
  have hlt:n/256 %256^k*256+n %256<256*256^k:=by lia
  conv=>rhs;rw [e]
  rw [Int.mul_add_emod_self_left,iH (by lia) hlt]
theorem xh {k:Nat}:(octets n k).length=k:=by unfold octets;simp
theorem rW (hlv:2<lv) (hρ:framesOf ρ [(aa "j")] fr=[none,some (.tuple (base.map .int)),some (.flist (zs.map .int)),some (.int k)])
  (hk:0<=k/\k<=5) (hm:dq<=base.length) (hm2:dq<=7) (hz:zs.length<=1000) (q:Q ((nums base zs k dq).map .int) H):
  compTurns (λ v H2 R=>wpE tb0 lv false (.bin .Add (.sub (.loc 1) (.loc 0)) (.call (.fn (aa "_law_digit") (.user 80)) [(.loc 2),(.bin .Add (.bin .Mult (.int 7) (.loc 3)) (.loc 0))])) ((framesOf ρ [(aa "j")] fr).set 0 (some v)) H2 R j9)
   (λ v H2 R=>wpC tb0 lv none ((framesOf ρ [(aa "j")] fr).set 0 (some v)) H2 R) ((bH dq).map λ (i:Nat)=>V.int i) [] H Q:=by
 refine af hρ ?_
 refine eQ (λ u=>match u with
   |.int i=>.int (base.getD i.toNat 0+digit zs (7*k+i))
   |_=>.none) (λ u R h=>h) (λ u hu R h=>?_) ?_
 ·refine aL (bE.mp hu) λ i hi r1_=>?_
  subst r1_
  have hi:=ca.mp hi
  refine ji (u:=V.int (base.getD (i:Int).toNat 0)) (wc ⟨aT _,by lia⟩ ?_) ?_
  ·have hk:(i:Int).toNat<base.length:=ao ‹_› ‹_›
   refine af (aF) (af (aJ) (af (an hk) ?_));rfl
  refine aj (ed (by decide)) (bS EB ?_ (hV.mpr hlv))
  exact ⟨zs,rfl,by lia,by lia,hz,h⟩
 ·refine af (dy _) (af cD ?_)
  have:(nums base zs k dq).map V.int=(bH dq).map ((λ u=>match u with
   |.int i=>.int (base.getD i.toNat 0+digit zs (7*k+i))
   |_=>.none)∘λ (i:Nat)=>V.int i):=by
   unfold nums
   refine af cD ?_
   refine gu λ i Z=>?_
   rfl
  exact af this.symm q
theorem rF {base zs:List Int} (hb:∀x∈base,0<=x/\x<2^127) (j:Nat) (k:Int):0<=base.getD j 0+digit zs k/\base.getD j 0+digit zs k<2^128:=by
 refine bx (rg zs k) λ d0 d1=>?_
 have:0<=base.getD j 0/\base.getD j 0<2^127:=by
  refine af (aJ) ?_
  cases e:base[j]? with
  |none=>exact ⟨by decide,by decide⟩
  |some x=>exact hb x (a6 e)
 lia
theorem Bg:(aa "meta "++aa "mark":aw)=aa "meta mark":=by decide
theorem E5:(aa "meta "++aa "l4proto":aw)=aa "meta l4proto":=by decide
theorem iT.one {T order t c row c1} (h:iq T order t c row c1):iT T order t c [row] c1:=.cons h (.nil _ _)
theorem iT.two {T order t c row c1 row2 c2} (h:iq T order t c row c1) (h2:iq T order (t+1) c1 row2 c2):iT T order t c [row,row2] c2:=.cons h (.cons h2 (.nil _ _))
theorem yC {sl:c7} (h:∀i,i<0->sl i=none) (hg:0<=g):∀i,i<0->sl.put g x i=none:=λ i hi=>by
 unfold c7.put
 refine af (if_neg (by lia)) ?_;exact h i hi
theorem zv {T order kind name} (h:kind=("expect":aw)\/kind=("flow":aw)) (hd:datV 12 (.tuple [.str kind,.str name])=true):PartOk T order [.tuple [.str kind,.str name]] [(0,.tuple [.str kind,.str name])]:=
 ⟨aP rfl,aP rfl,(λ p hp=>by simp at hp;subst hp;exact hd),λ t c hc=>⟨_,.one (.same kind name h),hc,by simp⟩⟩
theorem D4 {T order} (h0:0<=n) (h1:n<256):PartOk T order [.tuple [.str "meta",.int 0,.str "l4proto",.int 1,.str "big"],.tuple [.str "cmp",.str "==",.int 0,.bytes [n]]]
  [(1,matchV (fieldV "meta l4proto") "==" n)]:=by
 refine ⟨aP rfl,aP rfl,(λ p hp=>by cases aK.mp hp;kernel_rfl),λ t c hc=>⟨_,.two (.met 0 "l4proto" 1 "big" (by decide)) (.cmp "==" 0 [n] "meta l4proto" "big" 1 ⟨by simp;lia,by simp⟩ ?_ (.inr ⟨rfl,rfl,rfl⟩) (.inl (by (exact af (if_neg (by decide)) rfl)))),yC hc (by decide),?_⟩⟩
 ·dsimp only [c7.put]
  exact af (if_pos rfl) (af E5 rfl)
 ·show _++[(t+1,matchV (fieldV "meta l4proto") "==" (numIn [n] (if ("big":aw)="host" then order else "big")))]=_
  refine af (if_neg (by decide)) ?_
  simp [numIn,numOf]
theorem AY {T order} (hg:0<=g) (ho:order=("big":aw)\/order=("little":aw)) (hb:io b) (hn:numIn b order=n) (hop:aU (.str op)=true):
  PartOk T order [.tuple [.str "meta",.int g,.str "mark",.int 4,.str "host"],.tuple [.str "cmp",.str op,.int g,.bytes b]] [(1,matchV (fieldV "meta mark") op n)]:=by
 refine ⟨aP rfl,aP rfl,(λ p hp=>by cases aK.mp hp;exact (congrArg (λ b=>datV 11 (.str "match")&&(datV 11 (fieldV "meta mark")&&(b&&(datV 11 (.tuple [.str "num",.int n])&&true)))) hop).trans (by kernel_rfl)),λ t c hc=>⟨_,.two (.met g "mark" 4 "host" (by decide)) (.cmp op g b "meta mark" "host" 4 hb ?_ (.inl rfl) (by exact af (if_pos rfl) ho)),yC hc hg,?_⟩⟩
 ·dsimp only [c7.put]
  exact af (if_pos rfl) (af Bg rfl)
 ·show _++[(t+1,matchV (fieldV "meta mark") op (numIn b (if ("host":aw)="host" then order else "host")))]=_
  refine af (if_pos rfl) (af hn ?_);simp
namespace FT
def S_ (H Q X k base zs):=∀(order:aw) (hl:5<=base.length) (hb:∀(x:Int),x∈base->0<=x/\x<2^127) (hz:zs.length<=1000) (k0:0<=k) (k1:k<=5) (ho:order=aa "big"\/order=aa "little") (q:∀(a b:aI) (rows:List V) (jQ:List (Int×V)) (H':MH),H' a=some (bK.list rows)->H' b=some (bK.list (a8 stV jQ))->H.Sub H'->H a=none->H b=none->(∀(T:iX),PartOk T order rows jQ)->Q (V.tuple [V.ref a,V.ref b]) H'),wpSs tb0 3 c87 (frame0 nm87 ([V.tuple (a8 V.int base),V.flist (a8 V.int zs),V.int k,V.str order]++[])) H (λ x H'↦Fg Q V.none H') (Fg Q) (rE X)
def U_:=UV λ H Q X=>UU λ k=>UU λ base=>S_ H Q X k base
def t_:=dr (by infer_instance) U_
def H:=t_.1
def Q:=t_.2.1
def X:=t_.2.2.1
def k:=t_.2.2.2.1
def base:=t_.2.2.2.2.1
def zs:=t_.2.2.2.2.2
namespace Gj
def S_ (c n m p r H1):=∀(order:aw) (ho:order=aa "big"\/order=aa "little") (q:∀(a b:aI) (rows:List V) (jQ:List (Int×V)) (H':MH),H' a=some (bK.list rows)->H' b=some (bK.list (a8 stV jQ))->H.Sub H'->H a=none->H b=none->(∀(T:iX),PartOk T order rows jQ)->Q (V.tuple [V.ref a,V.ref b]) H') (hm:m=base.getD 2 0+digit zs (7*k+↑2)) (hp:p=base.getD 3 0+digit zs (7*k+↑3)) (hr:r=base.getD 4 0+digit zs (7*k+↑4)) (s1:H.Sub H1),wpSs tb0 3 [S.ite (E.cmp lE (E.bin dB (E.loc 4) (E.int 8)) (E.int 6)) [S.assign (T.loc 9) (E.tup [(E.lst [E.str (aa "expect"),E.str (aa "flow")]).sub (E.bin dB (E.loc 6) (E.int 2)),E.bin kZ (E.str (aa "o")) ((E.fn (aa "str") (Fn.ty "str")).call [E.bin dB (E.loc 8) (E.int 10)])]),S.ret (E.tup [E.lst [E.loc 9],E.lst [E.tup [E.int 0,E.loc 9]]])] [],S.ite (E.cmp lE (E.bin dB (E.loc 6) (E.int 2)) (E.int 0)) [S.assign (T.loc 10) ((E.lst [E.int 6,E.int 17,E.int 1,E.int 58]).sub (E.bin dB (E.loc 8) (E.int 4))),S.assign (T.loc 11) (E.lst [E.tup [E.str (aa "meta"),E.int 0,E.str (aa "l4proto"),E.int 1,E.str (aa "big")],E.tup [E.str (aa "cmp"),E.str (aa "=="),E.int 0,(E.fn (aa "bytes") (Fn.ty "bytes")).call [E.lst [E.loc 10]]]]),S.ret (E.tup [E.loc 11,E.lst [E.tup [E.int 1,E.tup [E.str (aa "match"),E.tup [E.str (aa "field"),E.str (aa "meta l4proto")],E.str (aa "=="),E.tup [E.str (aa "num"),E.loc 10]]]]])] [],S.assign (T.loc 12) ((E.fn (aa "_law_octets") (Fn.user 81)).call [E.bin dB (E.loc 5) (E.bin nO (E.int 2) (E.int 32)),E.int 4]),S.ite (E.cmp lE (E.loc 3) (E.str (aa "little"))) [S.assign (T.loc 12) ((E.fn (aa "bytes") (Fn.ty "bytes")).call [E.lst [(E.loc 12).sub (E.int 3),(E.loc 12).sub (E.int 2),(E.loc 12).sub (E.int 1),(E.loc 12).sub (E.int 0)]])] [],S.assign (T.loc 13) ((E.lst [E.str (aa "=="),E.str (aa "!=")]).sub (E.bin dB (E.loc 8) (E.int 2))),S.assign (T.loc 11) (E.lst [E.tup [E.str (aa "meta"),E.bin dB (E.loc 7) (E.int 16),E.str (aa "mark"),E.int 4,E.str (aa "host")],E.tup [E.str (aa "cmp"),E.loc 13,E.bin dB (E.loc 7) (E.int 16),E.loc 12]]),S.ret (E.tup [E.loc 11,E.lst [E.tup [E.int 1,E.tup [E.str (aa "match"),E.tup [E.str (aa "field"),E.str (aa "meta mark")],E.loc 13,E.tup [E.str (aa "num"),E.bin dB (E.loc 5) (E.bin nO (E.int 2) (E.int 32))]]]]])] [some (V.tuple (a8 V.int base)),some (V.flist (a8 V.int zs)),some (V.int k),some (V.str order),some (V.int c),some (V.int n),some (V.int m),some (V.int p),some (V.int r),none,none,none,none,none] H1 (λ x H'↦Fg Q V.none H') (Fg Q) (rE X)
def U_:=UV λ c n m=>UU λ p=>UU λ r=>S_ c n m p r
def t_:=dr (by infer_instance) U_
def c:=t_.1
def n:=t_.2.1
def m:=t_.2.2.1
def p:=t_.2.2.2.1
def r:=t_.2.2.2.2.1
def H1:=t_.2.2.2.2.2
theorem P_:S_ c n m p r H1:=by
 intro order ho q hm hp hr s1
 have new:∀{G:MH} {a b:aI} {o:bK},(G.set a o) b=none->b≠a/\G b=none:=λ {G a b o} f=>by
  have:b≠a:=cH f (MH.set_self _ _ _) bF
  exact ⟨this,by rw [MH.set_ne _ _ this] at f;exact f⟩
 refine bB (decide (c %8=6)) ⟨rfl,rfl⟩ (λ e=>?_) (λ e=>?_)
 ·
  have dl:=Di (i:=r %10) (by lia) (by lia)
  refine dP (λ K=>∀(kind:aw) H',MH.Sub H H'->(kind="expect"\/kind="flow")->K (.tuple [.str kind,.str (("o":aw)++dg (r %10))]) H') (λ K kk=>?_) ?_
  ·intro d hd
   rcases (show m %2=0\/m %2=1 by lia) with e|e
   ·refine cZ (MH.set_self _ _ _) (by refine af e ?_;rfl) ?_
    exact ⟨aR _ (by decide),bJ (aN _ (by decide)),show 1+(dg (r %10)).length<=bG by refine af dl ?_;decide,kk _ _ (a7 s1 (s1.none hd)) (.inl rfl)⟩
   ·refine cZ (MH.set_self _ _ _) (by refine af e ?_;rfl) ?_
    exact ⟨aR _ (by decide),bJ (aN _ (by decide)),show 1+(dg (r %10)).length<=bG by refine af dl ?_;decide,kk _ _ (a7 s1 (s1.none hd)) (.inr rfl)⟩
  intro kind H2 s2 hk a ha b hb'
  refine bx (new hb') λ nb hb2=>(fg (q a b [_] [(0,_)] _ ((MH.set_ne _ _ nb.symm).trans (MH.set_self _ _ _)) (MH.set_self _ _ _) (a7 (a7 s2 (s2.none ha)) (s2.none hb2)) (s2.none ha) (s2.none hb2) λ T=>zv hk ?_))
  have hd:aU (.str (("o":aw)++dg (r %10)))=true:=rQ (P:=λ s=>aU (.str (("o":aw)++s))=true) (by decide+kernel) (aR _ (by decide)) (bJ (aN _ (by decide)))
  rcases hk with rfl|rfl<;>exact (congrArg (λ b=>datV 11 (.str _)&&(b&&true)) hd).trans (by decide+kernel)
 refine bB (decide (m %2=0)) ⟨rfl,rfl⟩ (λ e2=>?_) (λ e2=>?_)
 ·
  refine dP (λ K=>∀(x:Int) H',MH.Sub H H'->0<=x->x<256->K (.int x) H') (λ K kk=>?_) ?_
  ·intro d hd
   have s2:=λ {o:bK}=>a7 (o:=o) s1 (s1.none hd)
   rcases (show r %4=0\/r %4=1\/r %4=2\/r %4=3 by lia) with e|e|e|e
   ·exact cZ (MH.set_self _ _ _) (by refine af e ?_;rfl) (kk 6 _ s2 (by decide) (by decide))
   ·exact cZ (MH.set_self _ _ _) (by refine af e ?_;rfl) (kk 17 _ s2 (by decide) (by decide))
   ·exact cZ (MH.set_self _ _ _) (by refine af e ?_;rfl) (kk 1 _ s2 (by decide) (by decide))
   ·exact cZ (MH.set_self _ _ _) (by refine af e ?_;rfl) (kk 58 _ s2 (by decide) (by decide))
  intro x H2 s2 x0 x1 d hd
  refine ⟨[x],MH.set_self _ _ _,⟨by simp;lia,by simp⟩,λ a ha b hb'=>?_⟩
  exact bx (new ha) λ na ha2=>(bx (new hb') λ nb hb3=>(bx (new hb3) λ nbd hb2=>(fg (q a b [_,_] [(1,_)] _ ((MH.set_ne _ _ nb.symm).trans (MH.set_self _ _ _)) (MH.set_self _ _ _) (a7 (a7 (a7 s2 (s2.none hd)) (s2.none ha2)) (s2.none hb2)) (s2.none ha2) (s2.none hb2) λ T=>D4 x0 x1))))
 ·
  have n32:0<=n %2^32/\n %2^32<2^32:=⟨aR _ (by decide),aN _ (by decide)⟩
  refine bN (u:=.bytes (octets (n %2^32) 4)) ?_ ?_
  ·exact aj (by decide) (bS Dv ⟨n32.1,by decide,by decide,rfl,rfl⟩)
  have hoct:=BU (xh (k:=4) (n:=n %2^32))
  have hOB:io (octets (n %2^32) 4):=gY (by decide)
  have hnum:numOf (octets (n %2^32) 4)=n %2^32:=by
   have:=m7 4 (n %2^32)
   rw [show ((4:Nat):Int)=4 by rfl] at this
   refine af this ?_
   exact iH n32.1 n32.2
  generalize octets (n %2^32) 4=oc at*
  refine iC hoct λ o1 o2 o3 t1_=>(bw t1_ λ o4 r2_=>?_)
  clear hoct t1_
  subst r2_
  refine eC (λ ρ K=>∀b H',MH.Sub H H'->io b->numIn b order=n %2^32->K [some (.tuple (base.map .int)),some (.flist (zs.map .int)),some (.int k),some (.str order),some (.int c),some (.int n),some (.int m),some (.int p),some (.int r),none,none,none,some (.bytes b),none] H') (λ K kk=>?_) ?_
  ·show wpSs tb0 3 [_] _ _ _ _ _
   refine bB (decide (order="little")) ⟨rfl,rfl⟩ (λ e=>?_) (λ e=>?_)
   ·cases of_decide_eq_true e
    have hB2:io [o4,o3,o2,o1]:=⟨λ x hx=>hOB.1 x (by simp at hx⊢;rcases hx with h|h|h|h<;>simp [h]),by simp⟩
    refine aj (of_decide_eq_true rfl) (aj (of_decide_eq_true rfl) (aj (of_decide_eq_true rfl) (aj (of_decide_eq_true rfl) λ d hd=>?_)))
    refine ⟨[o4,o3,o2,o1],MH.set_self _ _ _,hB2,kk [o4,o3,o2,o1] _ (a7 s1 (s1.none hd)) hB2 ?_⟩
    unfold numIn
    refine af (if_neg (by decide)) ?_
    exact hnum
   ·cases ho.resolve_right (of_decide_eq_false e)
    refine kk _ _ s1 hOB ?_
    unfold numIn
    exact af (if_pos rfl) hnum
  intro b H2 s2 hB hnB
  refine dP (λ K=>∀(op:aw) H',MH.Sub H H'->aU (.str op)=true->K (.str op) H') (λ K kk=>?_) ?_
  ·intro d hd
   have s3:=λ {o:bK}=>a7 (o:=o) s2 (s2.none hd)
   rcases (show r %2=0\/r %2=1 by lia) with e|e
   ·exact cZ (MH.set_self _ _ _) (by refine af e ?_;rfl) (kk "==" _ s3 (by decide+kernel))
   ·exact cZ (MH.set_self _ _ _) (by refine af e ?_;rfl) (kk "!=" _ s3 (by decide+kernel))
  intro op H3 s3 hop a ha
  exact aj (by decide) λ b2 hb'=>(bx (new hb') λ nb hb2=>(fg (q a b2 [_,_] [(1,_)] _ ((MH.set_ne _ _ nb.symm).trans (MH.set_self _ _ _)) (MH.set_self _ _ _) (a7 (a7 s3 (s3.none ha)) (s3.none hb2)) (s3.none ha) (s3.none hb2) λ T=>AY (aR _ (by decide)) ho hB hnB hop)))
theorem A_:∀p,U_ p:=bC P_
end Gj
theorem P_:S_ H Q X k base zs:=by
 intro order hl hb hz k0 k1 ho q
 have bd:=λ j kk=>rF (zs:=zs) hb j kk
 obtain ⟨c,hc⟩:∃c,c=base.getD 0 0+digit zs (7*k+(0:Nat)):=⟨_,rfl⟩
 obtain ⟨n,hn⟩:∃c,c=base.getD 1 0+digit zs (7*k+(1:Nat)):=⟨_,rfl⟩
 obtain ⟨m,hm⟩:∃c,c=base.getD 2 0+digit zs (7*k+(2:Nat)):=⟨_,rfl⟩
 obtain ⟨p,hp⟩:∃c,c=base.getD 3 0+digit zs (7*k+(3:Nat)):=⟨_,rfl⟩
 obtain ⟨r,hr⟩:∃c,c=base.getD 4 0+digit zs (7*k+(4:Nat)):=⟨_,rfl⟩
 have hnums:(nums base zs k 5).map V.int=[.int c,.int n,.int m,.int p,.int r]:=by (refine af hc (af hn (af hm (af hp (af hr ?_)))));rfl
 have bm:=(bd 2 (7*k+(2:Nat))).1;rw [<-hm] at bm
 have br:=(bd 4 (7*k+(4:Nat))).1;rw [<-hr] at br
 refine eC (λ ρ K=>∀H',MH.Sub H H'->K [some (.tuple (base.map .int)),some (.flist (zs.map .int)),some (.int k),some (.str order),some (.int c),some (.int n),some (.int m),some (.int p),some (.int r),none,none,none,none,none] H') (λ K kk=>?_) ?_
 ·refine ⟨by decide,by decide,by decide,?_⟩
  refine rW (lv:=3) (dq:=5) (fr:=[0,1,2]) (by decide) rfl ⟨k0,k1⟩ hl (by decide) hz ?_
  intro d hd
  refine af hnums ?_
  exact BP (vg (MH.set_self _ _ _)) ⟨rfl,kk _ (bZ hd)⟩
 intro H1 s1
 exact Gj.A_ (c,n,m,p,r,H1) order ho q hm hp hr s1
theorem A_:∀p,U_ p:=bC P_
end FT
theorem NB:VC B6 3 ps87 nm87 [] c87:=by
 intro us H Q X h
 refine IS (λ Z Z k order h=>?_) h
 refine jO h λ base zs r1_ hl hb t2_=>(GW t2_ λ r3_ hz k0 k1 ho q=>?_)
 clear h t2_
 subst r1_
 subst r3_
 refine ⟨rfl,?_⟩
 exact FT.A_ (H,Q,X,k,base,zs) order hl hb hz k0 k1 ho q
structure oN where
 rows:List V
 fs:List (Int×Slot)
 own:List Int
def oN.Ok (T:iX) (order:aw) (g:oN):Prop:=g.rows.length<=3/\(∀i∈g.own,0<=i)/\(∀p∈g.fs,p.1∈g.own)/\
 ∀t c,∃c',iT T order t c g.rows c'/\c'.eff=c.eff/\(∀p∈g.fs,c'.sl p.1=some p.2)/\(∀i,i∉g.own->c'.sl i=c.sl i)
def oN.Apart (g h:oN):Prop:=∀i,i∈g.own->i∉h.own
theorem oN.Apart.symm {g h:oN} (x:g.Apart h):h.Apart g:=λ i hi hj=>x i hj hi
def wi (L:List oN) (sl:c7):Prop:=∀g∈L,∀p∈g.fs,sl p.1=some p.2
theorem vZ {T order}:∀(L:List oN),(∀g∈L,g.Ok T order)->L.Pairwise oN.Apart->∀t c,∃c',iT T order t c (L.map oN.rows).flatten c'/\c'.eff=c.eff/\wi L c'.sl/\∀i,(∀g∈L,i∉g.own)->c'.sl i=c.sl i
 |[],_,_,t,c=>⟨c,.nil _ _,rfl,λ Z h=>absurd h (by simp),λ Z Z=>rfl⟩
 |g::L,hok,hp,t,c=>by
  refine oB (hok g (dE ..)) λ Z Z g3 g4=>(fy (g4 t c) λ c1 s1 e1 f1 o1=>?_)
  have hp':=dD.mp hp
  refine fy (vZ L (λ h hh=>hok h (dR _ hh)) hp'.2 (t+g.rows.length) c1) λ c2 s2 e2 f2 o2=>⟨c2,?_,e2.trans e1,λ h hh p hpp=>?_,λ i hi=>?_⟩
  ·refine af bk (af DQ ?_);exact s1.app s2
  ·rcases aZ.mp hh with rfl|hh
   ·refine af (o2 p.1 (λ k hk=>hp'.1 k hk p.1 (g3 p hpp))) ?_
    exact f1 p hpp
   ·exact f2 h hh p hpp
  ·exact af (o2 i (λ k hk=>hi k (dR _ hk))) (af (o1 i (hi g (dE ..))) rfl)
noncomputable def rawS (n k:Int):Slot:=⟨"raw",[.bytes (octets n k)],"big",(octets n k).length⟩
def eE (n k:Int):Prop:=0<=n/\0<=k/\k<=16/\n<256^k.toNat
theorem lj (h:eE n k):rawNum (rawS n k)=some n:=by
 refine oB h λ h0 h1 h2 h3=>?_
 unfold rawNum rawS
 refine af (if_pos rfl) ?_
 dsimp only
 refine bw (bL h1) λ j r1_=>?_
 subst r1_
 rw [cK] at h3
 exact af (m7 j n) (af (iH h0 h3) rfl)
theorem gv (h:eE n k):i9 (rawS n k):=⟨by show (aa "raw")≠_;decide,λ Z=>⟨_,rfl,gY h.2.2.1⟩⟩
theorem qF {r o z}:i9 ⟨"map",r,o,z⟩:=⟨by show (aa "map")≠_;decide,λ h=>absurd (show aa "map"=aa "raw" from h) (by decide)⟩
inductive jY (sl:c7) (size:Int) (net:Bool):Int->Int->V->Prop
 |none:jY sl size net (-1) (-1) .none
 |map (a:Int) (r:List V) (o:aw) (z:Int):0<=a->sl a=some ⟨"map",r,o,z⟩->jY sl size net a a (.tuple (.str "map"::r))
 |span (a b x y k:Int):0<=a->0<=b->sl a=some (rawS x k)->sl b=some (rawS y k)->eE x k->eE y k->net=false->jY sl size net a b (.tuple [.str "span",.int x,.int y])
 |net (a b x y:Int) (j:Nat):0<=a->0<=b->sl a=some (rawS x size)->sl b=some (rawS y size)->eE x size->eE y size->net=true->j<=128->y=x+2^j -1->x %2^j=0->jY sl size net a b (.tuple [.str "net",.int x,.int (8*size -j)])
inductive qI (sl:c7):Int->Int->Option (Int×Int)->Prop
 |none:qI sl (-1) (-1) none
 |map (a:Int) (r:List V) (o:aw) (z:Int):0<=a->sl a=some ⟨"map",r,o,z⟩->qI sl a a none
 |raw (a b x y k:Int):0<=a->0<=b->sl a=some (rawS x k)->sl b=some (rawS y k)->eE x k->eE y k->qI sl a b (some (x,y))
theorem wD {r o z} (h:0<=a) (e:sl a=some ⟨"map",r,o,z⟩):pairOf sl a a=some none:=by
 unfold pairOf
 refine af (if_neg (by lia)) (af e ?_)
 have:rawNum ⟨"map",r,o,z⟩=none:=by unfold rawNum;exact if_neg (by show aa "map"≠aa "raw";decide)
 simp only [this]
theorem rt (h:0<=a) (ea:sl a=some (rawS x k)) (eb:sl b=some (rawS y k)) (ox:eE x k) (oy:eE y k):pairOf sl a b=some (some (x,y)):=by
 unfold pairOf
 refine af (if_neg (by lia)) (af ea (af eb ?_))
 simp only [lj ox,lj oy]
theorem Be {r6 r7 p} (neg:∀i,i<0->sl i=none) (h:qI sl r6 r7 p):(∀g t,(g=r6\/g=r7)->sl g=some t->i9 t)/\(∀a b,sl r6=some a->a.tag="raw"->sl r7=some b->b.tag="raw")/\pairOf sl r6 r7=some p:=by
 cases h with
 |none=>exact ⟨λ g t hg e=>(by rw [neg g (by lia)] at e;cases e),λ a b e=>(by rw [neg _ (jm _)] at e;cases e),if_pos (by decide)⟩
 |map a r o z h e=>exact ⟨λ g t hg e2=>by rw [show g=r6 by lia,e] at e2;cases e2;exact qF,λ a b e1 h1 e2=>by rw [e] at e1 e2;cases e1;cases e2;exact h1,wD h e⟩
 |raw a b x y k h0 h1 ea eb ox oy=>exact ⟨λ g t hg e2=>by
   rcases hg with rfl|rfl
   ·rw [ea] at e2;cases e2;exact gv ox
   ·rw [eb] at e2;cases e2;exact gv oy,λ a b e1 h1 e2=>by rw [ea] at e1;rw [eb] at e2;cases e1;cases e2;rfl,rt h0 ea eb ox oy⟩
theorem MO {k:Int} (h:0<=k):(256:Int)^k.toNat=2^(8*k).toNat:=by
 refine af (uz _) ?_;congr 1;lia
theorem zZ {size net r3 r4 va} (neg:∀i,i<0->sl i=none) (h:jY sl size net r3 r4 va):(∀g t,(g=r3\/g=r4)->sl g=some t->i9 t)/\(∀a b,sl r3=some a->a.tag="raw"->sl r4=some b->b.tag="raw")/\natAddr sl r3 r4 size net (λ v=>v=some va):=by
 cases h with
 |none=>exact ⟨λ g t hg e=>(by rw [neg g (by lia)] at e;cases e),λ a b e=>(by rw [neg _ (jm _)] at e;cases e),by unfold natAddr;(exact af (if_pos (by decide)) rfl)⟩
 |map a r o z h e=>
  refine ⟨λ g t hg e2=>by rw [show g=r3 by lia,e] at e2;cases e2;exact qF,λ a b e1 h1 e2=>by rw [e] at e1 e2;cases e1;cases e2;exact h1,?_⟩
  unfold natAddr
  refine af (if_neg (by lia)) (af (wD h e) (af e ?_));rfl
 |span a b x y k h0 h1 ea eb ox oy hn=>
  refine ⟨λ g t hg e2=>by
   rcases hg with rfl|rfl
   ·rw [ea] at e2;cases e2;exact gv ox
   ·rw [eb] at e2;cases e2;exact gv oy,λ a b e1 h1 e2=>by rw [ea] at e1;rw [eb] at e2;cases e1;cases e2;rfl,?_⟩
  unfold natAddr
  refine af (if_neg (by lia)) (af (rt h0 ea eb ox oy) (af hn ?_));rfl
 |net a b x y j h0 h1 ea eb ox oy hn hj hy hx=>
  refine ⟨λ g t hg e2=>by
   rcases hg with rfl|rfl
   ·rw [ea] at e2;cases e2;exact gv ox
   ·rw [eb] at e2;cases e2;exact gv oy,λ a b e1 h1 e2=>by rw [ea] at e1;rw [eb] at e2;cases e1;cases e2;rfl,?_⟩
  unfold natAddr
  refine af (if_neg (by lia)) (af (rt h0 ea eb ox oy) (af hn ?_))
  show if true=true then _ else _
  refine af (if_pos rfl) ?_
  refine ⟨j,hj,hy,ox.1,hx,ox.2.1,ox.2.2.1,?_,rfl⟩
  have:=oy.2.2.2
  rw [MO oy.2.1] at this
  exact this
noncomputable def natRow (kind nf:V) (r3 r4 size r6 r7:Int) (told:List aw):V:=.tuple [.str "nat",kind,nf,.int r3,.int r4,.int size,.int r6,.int r7,.tuple (told.map .str)]
noncomputable def natSt (kind nf va:V) (p:Option (Int×Int)) (aW:List aw):V:=.tuple [.str "nat",kind,nf,va,pairV p,.tuple (aW.map .str)]
def qY (aW told:List aw) (net:Bool):Prop:=told.filter (·≠("netmap":aw))=aW/\told.length<=3/\net=decide (aW.length<told.length)
theorem rP {T order t c kind nf r3 r4 size r6 r7 aW told net va p} (neg:∀i,i<0->c.sl i=none) (ht:qY aW told net) (ha:jY c.sl size net r3 r4 va) (hp:qI c.sl r6 r7 p):
  iq T order t c (natRow kind nf r3 r4 size r6 r7 told) {c with eff:=c.eff++[(t,natSt kind nf va p aW)]}:=by
 refine gK ht λ t1 t2 t3=>?_
 refine gK (zZ neg ha) λ a1 a2 a3=>(gK (Be neg hp) λ b1 b2 b3=>?_)
 have:=iq.nat (T:=T) (order:=order) (t:=t) (c:=c) kind nf r3 r4 size r6 r7 told va p (ao ‹_› (by decide)) (λ g t hg e=>?_) a2 b2 ?_ b3
 ·rw [t1] at this;exact this
 ·rcases hg with h|h|h|h
  ·exact a1 g t (.inl h) e
  ·exact a1 g t (.inr h) e
  ·exact b1 g t (.inl h) e
  ·exact b1 g t (.inr h) e
 ·refine af t1 (af t3.symm ?_);exact a3
theorem vp {L:List (List V)} (h:∀g∈L,g.length<=3):L.flatten.length<=3*L.length:=by
 induction L with
 |nil=>simp
 |cons g L ih=>
  have h1:=h g (dE ..)
  have h2:=ih (λ x hx=>h x (dR _ hx))
  refine af DQ (af az (af aQ ?_));lia
noncomputable def turned (gs:List (List V)) (n:Nat):List V:=(gs.drop n++gs.take n).flatten
theorem vW {T order} (n:Nat) (hok:∀g∈L,g.Ok T order) (hp:L.Pairwise oN.Apart) (t c) (neg:∀i,i<0->c.sl i=none):
  ∃c',iT T order t c (turned (L.map oN.rows) n) c'/\c'.eff=c.eff/\wi L c'.sl/\∀i,i<0->c'.sl i=none:=by
 have perm:(L.drop n++L.take n).Perm L:=(yh).trans (by rw [dA])
 have hok':∀g∈L.drop n++L.take n,g.Ok T order:=λ g hg=>hok g (perm.mem_iff.mp hg)
 have hp':(L.drop n++L.take n).Pairwise oN.Apart:=hp.perm perm.symm oN.Apart.symm
 refine fy (vZ _ hok' hp' t c) λ c' s e f o=>⟨c',?_,e,λ g hg=>f g (perm.mem_iff.mpr hg),λ i hi=>?_⟩
 ·unfold turned
  refine af oL.symm (af jh.symm (af bh.symm ?_));exact s
 ·refine af (o i (λ g hg hm=>by have:=(hok' g hg).2.1 i hm;lia)) ?_;exact neg i hi
structure vy (T:iX) (order:aw) (gs:List (List V)) (r3 r4 r6 r7 size:Int) (net:Bool) (va va2:V) (p:Option (Int×Int)):Prop where
 some_:∃L:List oN,gs=L.map oN.rows/\(∀g∈L,g.Ok T order)/\L.Pairwise oN.Apart/\L.length<=4/\∀sl:c7,wi L sl->jY sl size net r3 r4 va/\jY sl size net r3 r3 va2/\qI sl r6 r7 p
theorem m9 {T order} {L:List oN} (hok:∀g∈L,g.Ok T order) (hl:L.length<=4):(turned (L.map oN.rows) n).length<=12:=by
 have perm:(L.drop n++L.take n).Perm L:=(yh).trans (by rw [dA])
 unfold turned
 refine af oL.symm (af jh.symm (af bh.symm ?_))
 have:=vp (L:=(L.drop n++L.take n).map oN.rows) (λ g hg=>by obtain ⟨x,hx,rfl⟩:=bE.mp hg;exact (hok x (perm.mem_iff.mp hx)).1)
 rw [ag,perm.length_eq] at this
 lia
theorem Cb {T order gs r3 r4 r6 r7 size net va va2 p aW told kind nf} (b:vy T order gs r3 r4 r6 r7 size net va va2 p) (ht:qY aW told net) (hd:datV 12 (natSt kind nf va p aW)=true):
  PartOk T order (turned gs n++[natRow kind nf r3 r4 size r6 r7 told]) [((turned gs n).length,natSt kind nf va p aW)]:=by
 refine fy b.some_ λ L r1_ hok hp t2_=>(bx t2_ λ hl hf=>?_)
 subst r1_
 have:=m9 (n:=n) hok hl
 refine ⟨by (refine af az (af aV ?_));exact fF ‹_› (by decide),aP rfl,(λ q hq=>by rw [aK] at hq;subst hq;exact hd),λ t c neg=>?_⟩
 exact fy (vW n hok hp t c neg) λ c1 s1 e1 f1 n1=>(gK (hf _ f1) λ h1 h2 h3=>⟨_,s1.app (.one (rP n1 ht h1 h3)),n1,by simp [e1]⟩)
theorem z4 {T order gs r3 r4 r6 r7 size net va va2 p aW told kind nf kind2} (b:vy T order gs r3 r4 r6 r7 size net va va2 p) (ht:qY aW told net) (hd:datV 12 (natSt kind nf va p aW)=true) (hd2:datV 12 (natSt kind2 nf va2 none aW)=true):
  PartOk T order (turned gs n++[natRow kind nf r3 r4 size r6 r7 told]++[natRow kind2 nf r3 r3 size (-1) (-1) told]) [((turned gs n).length,natSt kind nf va p aW),((turned gs n).length+1,natSt kind2 nf va2 none aW)]:=by
 refine fy b.some_ λ L r1_ hok hp t2_=>(bx t2_ λ hl hf=>?_)
 subst r1_
 have:=m9 (n:=n) hok hl
 refine ⟨by simp only [az,aV];lia,aP rfl,(λ q hq=>by
  rcases aZ.mp hq with rfl|hq
  ·exact hd
  ·rw [aK] at hq;subst hq;exact hd2),λ t c neg=>?_⟩
 refine fy (vW n hok hp t c neg) λ c1 s1 e1 f1 n1=>(gK (hf _ f1) λ h1 h2 h3=>⟨_,(s1.app (.one (rP n1 ht h1 h3))).app (.one (rP (c:={c1 with eff:=_}) n1 ht h2 .none)),n1,?_⟩)
 simp [e1,IA]
noncomputable def immG (gU n dq:Int):oN:=⟨[immV gU n dq],[(gU,rawS n dq)],[gU]⟩
theorem uy {T order} (h0:0<=gU) (hr:eE n dq):(immG gU n dq).Ok T order:=by
 refine ⟨aP rfl,(λ i hi=>by exact af (show i=gU by simpa [immG] using hi) h0),(λ p hp=>by refine af (show p=(gU,rawS n dq) by simpa [immG] using hp) ?_;simp [immG]),λ t c=>⟨_,.one (.imm gU _ (gY hr.2.2.1)),rfl,λ p hp=>?_,λ i hi=>?_⟩⟩
 ·refine af (show p=(gU,rawS n dq) by simpa [immG] using hp) ?_
  dsimp only [c7.put]
  refine af (if_pos rfl) ?_;rfl
 ·dsimp only [c7.put]
  exact af (if_neg (by simpa [immG] using hi)) rfl
noncomputable def pairL (gU aY lo hi dq:Int) (twice:Bool):List oN:=if lo=hi/\twice=false then [immG gU lo dq] else [immG gU lo dq,immG aY hi dq]
noncomputable def pairR (gU aY lo hi:Int) (twice:Bool):Int:=if lo=hi/\twice=false then gU else aY
theorem tH:pairGs gU aY lo hi dq twice=(pairL gU aY lo hi dq twice).map oN.rows:=by
 unfold pairGs pairL
 split<;>rfl
theorem pZ:pairRegs gU aY lo hi twice=[.int gU,.int (pairR gU aY lo hi twice)]:=by
 unfold pairRegs pairR
 split<;>rfl
theorem vA {T order} (h0:0<=gU) (h1:0<=aY) (hl:eE lo dq) (hh:eE hi dq):∀g∈pairL gU aY lo hi dq twice,g.Ok T order:=by
 unfold pairL
 intro g hg
 split at hg
 ·rw [aK] at hg;subst hg;exact uy h0 hl
 ·rcases aZ.mp hg with rfl|hg
  ·exact uy h0 hl
  ·rw [aK] at hg;subst hg;exact uy h1 hh
theorem tm (hg:g∈pairL gU aY lo hi dq twice):∀i∈g.own,i=gU\/i=aY:=by
 unfold pairL at hg
 split at hg
 ·rw [aK] at hg;subst hg;intro i hi;exact .inl (by simpa [immG] using hi)
 ·rcases aZ.mp hg with rfl|hg
  ·intro i hi;exact .inl (by simpa [immG] using hi)
  ·rw [aK] at hg;subst hg;intro i hi;exact .inr (by simpa [immG] using hi)
theorem pM (h:gU≠aY):(pairL gU aY lo hi dq twice).Pairwise oN.Apart:=by
 unfold pairL
 split
 ·exact lJ _ _
 ·refine dD.mpr ⟨λ g hg=>?_,lJ _ _⟩
  rw [aK] at hg;subst hg
  intro i hi hj
  rw [show i=gU by simpa [immG] using hi] at hj
  exact h (by simpa [immG] using hj)
theorem tT:(pairL gU aY lo hi dq twice).length<=2:=by
 unfold pairL
 split<;>simp
theorem pT (h:wi (pairL gU aY lo hi dq twice) sl):sl gU=some (rawS lo dq)/\sl (pairR gU aY lo hi twice)=some (rawS hi dq):=by
 unfold pairL at h
 unfold pairR
 split at h
 ·rename_i e
  refine af (if_pos e) ?_
  have:=h (immG gU lo dq) (by simp) (gU,rawS lo dq) (by simp [immG])
  exact ⟨this,by exact af e.1.symm this⟩
 ·rename_i e
  refine af (if_neg e) ?_
  exact ⟨h (immG gU lo dq) (by simp) (gU,rawS lo dq) (by simp [immG]),h (immG aY hi dq) (by simp) (aY,rawS hi dq) (by simp [immG])⟩
theorem wF (h0:0<=gU) (h1:0<=aY):0<=pairR gU aY lo hi twice:=by
 unfold pairR;split<;>assumption
noncomputable def metaV (g:Int) (nm:aw):V:=.tuple [.str "meta",.int g,.str nm,.int 4,.str "host"]
noncomputable def layOf (size:Int) (aX:Bool):List (Int×aw):=if aX then [(size,"big"),(2,"big")] else [(size,"big")]
noncomputable def mapSlot (T:iX) (names:List aw) (name:aw) (z:Int):Slot:=⟨"map",[keyOf names,whereV T name "map"],"big",z⟩
noncomputable def mapRows (at_:Int) (names:List aw) (name:aw) (a size:Int) (aX:Bool):List V:=((bH names.length).map λ (j:Nat)=>metaV (at_+j) (names.getD j ""))++[.tuple [.str "map",.int at_,.tuple (b9 names.length (.tuple [.int 4,.str "host"])),.str name,.int a,layV (layOf size aX)]]
noncomputable def mapG (T:iX) (at_:Int) (names:List aw) (name:aw) (a size:Int) (aX:Bool):oN:=⟨mapRows at_ names name a size aX,(a,mapSlot T names name size)::(if aX then [(a+size/4,mapSlot T names name 2)] else []),[at_,at_+1,a,a+size/4]⟩
noncomputable def fS (nm:aw):Slot:=⟨"field",[.str ("meta "++nm)],"host",4⟩
theorem oA {T:iX} (he:e=⟨"map",[keyOf names,whereV T name "map"],"",0⟩) (hs:size=4\/size=16):
  (∀p∈(a,mapSlot T names name size)::(if aX then [(a+size/4,mapSlot T names name 2)] else []),mapPut e sl a (layOf size aX) p.1=some p.2)/\∀i,i≠a->i≠a+size/4->mapPut e sl a (layOf size aX) i=sl i:=by
 subst he
 have hz:slotsOf size=size/4:=by rcases hs with rfl|rfl<;>decide
 have h1:1<=size/4:=by rcases hs with rfl|rfl<;>decide
 cases aX
 ·constructor
  ·intro p hp
   have hp:p=(a,mapSlot T names name size):=by simpa using hp
   subst hp
   show c7.put sl a _ a=_
   unfold c7.put;refine af (if_pos rfl) ?_;rfl
  ·intro i hi hj
   show c7.put sl a _ i=_
   unfold c7.put;(exact af (if_neg hi) rfl)
 ·constructor
  ·intro p hp
   have hp:p=(a,mapSlot T names name size)\/p=(a+size/4,mapSlot T names name 2):=by simpa using hp
   show c7.put (c7.put sl a _) (a+slotsOf size) _ p.1=_
   refine af hz ?_
   rcases hp with rfl|rfl
   ·unfold c7.put;(refine af (if_neg (by show ¬a=_;lia)) (af (if_pos rfl) ?_));rfl
   ·unfold c7.put;refine af (if_pos rfl) ?_;rfl
  ·intro i hi hj
   show c7.put (c7.put sl a _) (a+slotsOf size) _ i=_
   refine af hz ?_
   unfold c7.put;(exact af (if_neg hj) (af (if_neg hi) rfl))
theorem BY (hs:size=4\/size=16):(layOf size aX).length<=2/\∀p∈layOf size aX,0<=p.1/\p.1<=1000:=by
 rcases hs with rfl|rfl<;>cases aX<;>refine ⟨aP rfl,λ p hp=>?_⟩<;>simp [layOf] at hp
 ·subst hp;decide
 ·rcases hp with rfl|rfl<;>decide
 ·subst hp;decide
 ·rcases hp with rfl|rfl<;>decide
theorem Ek {T order} {at_ a size:Int} (hn:names=[("mark":aw)]\/names=[("mark":aw),("iif":aw)]) (h0:0<=at_) (a0:0<=a) (hs:size=4\/size=16):(mapG T at_ names name a size aX).Ok T order:=by
 have h1:0<=size/4:=by rcases hs with rfl|rfl<;>decide
 have hlay:=BY (aX:=aX) hs
 have nh:∀x:aw,(fS x).tag≠"half":=λ x=>by show aa "field"≠_;decide
 refine ⟨?_,?_,?_,λ t c=>?_⟩
 ·rcases hn with rfl|rfl<;>exact aP rfl
 ·intro i hi;simp [mapG] at hi;lia
 ·intro p hp
  cases aX<;>simp [mapG] at hp⊢
  ·refine af hp ?_;simp
  ·rcases hp with rfl|rfl<;>simp
 ·rcases hn with rfl|rfl
  ·have hts:∀(i:Nat) (t:Slot),[fS "mark"][i]?=some t->(c.sl.put (at_+(0:Nat)) (fS "mark")) (at_+i)=some t/\t.tag≠"half":=λ i t hi=>by
    match i,hi with
    |0,hi=>cases hi;exact ⟨by unfold c7.put;(exact af (if_pos rfl) rfl),nh _⟩
    |n+1,hi=>simp at hi
   have s2:=iq.mp (T:=T) (order:=order) (t:=t+1) (c:=⟨c.sl.put (at_+(0:Nat)) (fS "mark"),c.n+1,c.eff⟩) at_ [fS "mark"] name a (layOf size aX) hts (by simp) hlay.1 hlay.2
   have s1:=iq.met (T:=T) (order:=order) (t:=t) (c:=c) (at_+(0:Nat)) "mark" 4 "host" (by decide)
   refine bx (oA (T:=T) (names:=[("mark":aw)]) (name:=name) (a:=a) (aX:=aX) (sl:=c.sl.put (at_+(0:Nat)) (fS "mark")) rfl hs) λ f1 f2=>⟨_,.two s1 s2,rfl,f1,λ i hi=>?_⟩
   have hi:i≠at_/\i≠at_+1/\i≠a/\i≠a+size/4:=by simpa [mapG] using hi
   refine (f2 i hi.2.2.1 hi.2.2.2).trans ?_
   unfold c7.put
   exact af (if_neg (by lia)) rfl
  ·have hts:∀(i:Nat) (t:Slot),[fS "mark",fS "iif"][i]?=some t->((c.sl.put (at_+(0:Nat)) (fS "mark")).put (at_+(1:Nat)) (fS "iif")) (at_+i)=some t/\t.tag≠"half":=λ i t hi=>by
    match i,hi with
    |0,hi=>cases hi;exact ⟨by unfold c7.put;(exact af (if_neg (by lia)) (af (if_pos rfl) rfl)),nh _⟩
    |1,hi=>cases hi;exact ⟨by unfold c7.put;(exact af (if_pos rfl) rfl),nh _⟩
    |n+2,hi=>simp at hi
   have s3:=iq.mp (T:=T) (order:=order) (t:=t+1+1) (c:=⟨(c.sl.put (at_+(0:Nat)) (fS "mark")).put (at_+(1:Nat)) (fS "iif"),c.n+1+1,c.eff⟩) at_ [fS "mark",fS "iif"] name a (layOf size aX) hts (by simp) hlay.1 hlay.2
   have s1:=iq.met (T:=T) (order:=order) (t:=t) (c:=c) (at_+(0:Nat)) "mark" 4 "host" (by decide)
   have s2:=iq.met (T:=T) (order:=order) (t:=t+1) (c:=⟨c.sl.put (at_+(0:Nat)) (fS "mark"),c.n+1,c.eff⟩) (at_+(1:Nat)) "iif" 4 "host" (by decide)
   refine bx (oA (T:=T) (names:=[("mark":aw),("iif":aw)]) (name:=name) (a:=a) (aX:=aX) (sl:=(c.sl.put (at_+(0:Nat)) (fS "mark")).put (at_+(1:Nat)) (fS "iif")) rfl hs) λ f1 f2=>⟨_,.cons s1 (.two s2 s3),rfl,f1,λ i hi=>?_⟩
   have hi:i≠at_/\i≠at_+1/\i≠a/\i≠a+size/4:=by simpa [mapG] using hi
   refine (f2 i hi.2.2.1 hi.2.2.2).trans ?_
   unfold c7.put
   exact af (if_neg (by lia)) (af (if_neg (by lia)) rfl)
theorem kL:∀{l:List S} {ρ:db} {H:MH},wpSs tb0 lv l ρ H (λ ρ H=>wpSs tb0 lv r ρ H N R X) R X->wpSs tb0 lv (l++r) ρ H N R X
 |[],_,_,h=>h
 |s::_,_,_,h=>rT lU lv s (λ Z Z=>kL) (λ Z Z z=>z) (λ Z Z z=>z) h
theorem GR (P:db->db->MH->Prop) (h:wpS tb0 lv s ρ H (P ρ) R X) (k:∀ρ' H',P ρ ρ' H'->wpSs tb0 lv r ρ' H' N R X):wpSs tb0 lv (s::r) ρ H N R X:=
 yU lU lv (P ρ) h k
theorem GroupsAt.sub (s:MH.Sub H H'):∀{vs gs},GroupsAt H vs gs->GroupsAt H' vs gs
 |[],[],_=>trivial
 |[],_::_,h=>h.elim
 |_::_,[],h=>h.elim
 |v::vs,g::gs,h=>⟨let ⟨a,e,f⟩:=h.1;⟨a,e,s _ _ f⟩,GroupsAt.sub s h.2⟩
theorem GroupsAt.app:∀{vs gs vs' gs'},GroupsAt H vs gs->GroupsAt H vs' gs'->GroupsAt H (vs++vs') (gs++gs')
 |[],[],_,_,_,h=>h
 |[],_::_,_,_,h,_=>h.elim
 |_::_,[],_,_,h,_=>h.elim
 |v::vs,g::gs,_,_,h,h'=>⟨h.1,GroupsAt.app h.2 h'⟩
theorem GroupsAt.len:∀{vs gs},GroupsAt H vs gs->vs.length=gs.length
 |[],[],_=>rfl
 |[],_::_,h=>h.elim
 |_::_,[],h=>h.elim
 |v::vs,g::gs,h=>by (exact af aQ (af aQ (af (GroupsAt.len h.2) rfl)))
theorem GroupsAt.drop:∀{vs gs} (n:Nat),GroupsAt H vs gs->GroupsAt H (vs.drop n) (gs.drop n)
 |_,_,0,h=>h
 |[],[],_+1,h=>trivial
 |[],_::_,_+1,h=>h.elim
 |_::_,[],_+1,h=>h.elim
 |v::vs,g::gs,n+1,h=>GroupsAt.drop n h.2
theorem GroupsAt.take:∀{vs gs} (n:Nat),GroupsAt H vs gs->GroupsAt H (vs.take n) (gs.take n)
 |_,_,0,h=>by (refine af GD (af GD ?_));trivial
 |[],[],_+1,h=>trivial
 |[],_::_,_+1,h=>h.elim
 |_::_,[],_+1,h=>h.elim
 |v::vs,g::gs,n+1,h=>⟨h.1,GroupsAt.take n h.2⟩
theorem GroupsAt.get:∀{vs gs} {i:Nat} {v:V},GroupsAt H vs gs->vs[i]?=some v->∃a g,v=.ref a/\gs[i]?=some g/\H a=some (.list g)
 |[],[],_,_,_,h=>by simp at h
 |[],_::_,_,_,h,_=>h.elim
 |_::_,[],_,_,h,_=>h.elim
 |v::vs,g::gs,0,_,h,e=>by
  cases e
  exact aL h.1 λ a e f=>⟨a,g,e,rfl,f⟩
 |v::vs,g::gs,n+1,_,h,e=>GroupsAt.get (vs:=vs) (gs:=gs) (i:=n) h.2 e
theorem tO:∀{es:List (aw×V)},es.lookup n=none->alSet es n u=es++[(n,u)]
 |[],_=>rfl
 |(m,w)::r,h=>by
  rw [aG] at h
  unfold alSet
  split at h
  ·exact b7 h
  ·rename_i q
   refine af (if_neg (by simpa using q)) (af (tO h) ?_);rfl
theorem lF.set_dict {es o v ls} (ha:H a=some (.sdict es)):lF H v ls->lF (H.set a o) v ls:=by
 rintro ⟨b,d,as,st,b8,rfl,hb,hl,hs,rfl⟩
 have ne:∀c o',H c=some o'->(∀es,o'≠.sdict es)->(H.set a o) c=some o':=λ c o' e hn=>by
  rw [MH.set_ne _ _ (λ z=>by rw [z,ha] at e;(have e:=ac e;subst e);exact hn _ rfl)];exact e
 have el:∀b8,kK H b8->kK (H.set a o) b8:=λ b8 h p hp=>by
  refine iC (h p hp) λ b d c t1_=>(bx t1_ λ e1 e2=>?_)
  clear t1_
  exact ⟨b,d,c,e1,ne _ _ e2 (by simp)⟩
 refine ⟨b,d,as,st,b8,rfl,ne _ _ hb (by simp),hl,?_,rfl⟩
 rcases hs with ⟨d,tb,h1,h2,h3,r⟩|⟨d,it,h1,h2,h3,r⟩
 ·exact .inl ⟨d,tb,ne _ _ h1 (by simp),h2.imp (λ e=>⟨ne _ _ e.1 (by simp),e.2⟩) (λ e=>ne _ _ e (by simp)),el _ h3,r⟩
 ·exact .inr ⟨d,it,ne _ _ h1 (by simp),ne _ _ h2 (by simp),el _ h3,r⟩
noncomputable def dictWith (m:Option bK) (n:aw) (v:V):bK:=match m with
 |some (.sdict es)=>.sdict (es++[(n,v)])
 |_=>.sdict [(n,v)]
theorem vV {T:iX} (h:cE H a T) (s:MH.Sub H H2) (hn:T.lookup n=none) (hl:T.length<=9) (hv:∀H'':MH,(∀x o,H x=none->H2 x=some o->H'' x=some o)->lF H'' v ls):
  cE (H2.set a (dictWith (H a) n v)) a (T++[(n,ls)]):=by
 have hva:∀o,H a≠none->lF (H2.set a o) v ls:=λ o ha=>hv _ λ x ox hx ex=>by
  have:x≠a:=λ z=>ha (by exact af z.symm hx)
  exact af (MH.set_ne _ _ this) ex
 rcases h with ⟨e,rfl⟩|⟨es,e,f,l,g⟩
 ·have ha:H a≠none:=by refine af e ?_;simp
  refine af e ?_
  refine .inr ⟨[(n,v)],MH.set_self _ _ _,rfl,aP rfl,λ m ms hm=>?_⟩
  rw [dy,aG] at hm
  refine af aG ?_
  split at hm
  ·(have hm:=ac hm;subst hm);exact ⟨v,rfl,hva _ ha⟩
  ·simp at hm
 ·have ha:H a≠none:=by refine af e ?_;simp
  refine af e ?_
  have f':=congrArg kU f
  rw [ag,ag] at f'
  refine .inr ⟨_,MH.set_self _ _ _,by (refine af bh (af bh (af f ?_)));rfl,by (refine af az (af aV ?_));exact cw ‹_›,λ m ms hm=>?_⟩
  rw [fx] at hm⊢
  cases hT:T.lookup m with
  |some x=>
   rw [hT] at hm
   have hT:=hT.trans hm
   exact aL (g m ms hT) λ w hw hs=>⟨w,by refine af hw ?_;rfl,(hs.sub s).set_dict (s _ _ e)⟩
  |none=>
   rw [hT,sx,aG] at hm
   have:es.lookup m=none:=by
    have:=jZ (n:=m) f
    rw [hT] at this
    cases h:es.lookup m with
    |none=>rfl
    |some x=>rw [h] at this;cases this
   refine af this (af sx (af aG ?_))
   split at hm
   ·(have hm:=ac hm;subst hm);exact ⟨v,rfl,hva _ ha⟩
   ·simp at hm
theorem Eh {H:MH} (h:D≠a):(H.set a o).del D=(H.del D).set a o:=by
 funext x
 by_cases q:x=D
 ·subst q;(exact af (MH.del_self _ _) (af (MH.set_ne _ _ h) (af (MH.del_self _ _) rfl)))
 ·refine af (MH.del_ne _ q) ?_
  by_cases q2:x=a
  ·subst q2;(exact af (MH.set_self _ _ _) (af (MH.set_self _ _ _) rfl))
  ·exact af (MH.set_ne _ _ q2) (af (MH.set_ne _ _ q2) (af (MH.del_ne _ q) rfl))
theorem del_both (s:MH.Sub H H'):MH.Sub (H.del a) (H'.del a):=λ b o e=>by
 unfold MH.del at e⊢
 split at e
 ·exact bF e
 ·rename_i h;refine af (if_neg h) ?_;exact s _ _ e
theorem uE {T:iX} (hD:H D≠none) (ne:D≠a) (h:cE (H.del D) a T) (s:MH.Sub H H2) (hn:T.lookup n=none) (hl:T.length<=9) (hv:∀H'':MH,(∀x o,H x=none->H2 x=some o->H'' x=some o)->lF H'' v ls):
  cE ((H2.set a (dictWith (H a) n v)).del D) a (T++[(n,ls)]):=by
 refine af (Eh ne) ?_
 have:=vV h (del_both s) hn hl (ls:=ls) (v:=v) (n:=n) λ H'' hH=>hv H'' λ x o hx ex=>by
  have:x≠D:=λ z=>hD (by exact af z.symm hx)
  exact hH x o (by exact af (MH.del_ne _ this) hx) (by exact af (MH.del_ne _ this) ex)
 rw [MH.del_ne _ ne.symm] at this
 exact this
theorem B9 {T:iX} (h:cE H a T) (s:MH.Sub H H2) (hn:T.lookup n=none) (k:QN (H2.set a (dictWith (H a) n v))):eI (.ref a) (.str n) v H2 QN:=by
 rcases h with ⟨e,rfl⟩|⟨es,e,f,l,g⟩
 ·rw [e] at k
  exact yT (s _ _ e) k
 ·rw [e] at k
  have f':=congrArg kU f
  rw [ag,ag] at f'
  have hes:es.lookup n=none:=by
   have:=jZ (n:=n) f
   rw [hn] at this
   cases h:es.lookup n with
   |none=>rfl
   |some x=>rw [h] at this;cases this
  exact Db (s _ _ e) (by lia) (by exact af (tO hes) k)
noncomputable def wideB (aA m:Int):Int:=2^(aA -m %(aA+1)).toNat
noncomputable def endsOf (a9 low aA m:Int):Int×Int:=if a9=1 then (low,low) else if a9=2 then (low,low+m %(2^aA.toNat -low)) else (low/wideB aA m*wideB aA m,low/wideB aA m*wideB aA m+wideB aA m -1)
noncomputable def addr2 (a9 low aA m:Int) (v:V):V:=if a9=2 then .tuple [.str "span",.int low,.int low] else if a9=3 then .tuple [.str "net",.int (low/wideB aA m*wideB aA m),.int aA] else v
theorem vm (hb:aA=32\/aA=128) (l0:0<=low) (l1:low<2^aA.toNat):0<=low/wideB aA m*wideB aA m/\low/wideB aA m*wideB aA m<=low/\low/wideB aA m*wideB aA m+wideB aA m<=2^aA.toNat/\0<wideB aA m:=by
 have h0:0<=m %(aA+1):=aR _ (by lia)
 have h1:m %(aA+1)<aA+1:=aN _ (by lia)
 have hw:(0:Int)<wideB aA m:=gn _
 have hq:0<=low/wideB aA m:=GC l0 (fB hw)
 refine ⟨Int.mul_nonneg hq (fB hw),Int.ediv_mul_le _ (iJ hw),?_,hw⟩
 have e:(2:Int)^aA.toNat=2^(m %(aA+1)).toNat*wideB aA m:=by
  unfold wideB
  refine af (iP (Int.pow_add _ _ _)) ?_;exact congrArg ((2:Int)^·) (E2 h0 h1)
 rw [e] at l1⊢
 have:low/wideB aA m<2^(m %(aA+1)).toNat:=Int.ediv_lt_of_lt_mul hw l1
 have h2:(low/wideB aA m+1)*wideB aA m<=2^(m %(aA+1)).toNat*wideB aA m:=Int.mul_le_mul_of_nonneg_right (by lia) (fB hw)
 rw [Int.add_mul,Int.one_mul] at h2
 exact h2
theorem un (hb:aA=32\/aA=128) (l0:0<=low) (l1:low<2^aA.toNat) (m0:0<=m):eE (endsOf a9 low aA m).1 (aA/8)/\eE (endsOf a9 low aA m).2 (aA/8):=by
 have hp:(256:Int)^(aA/8).toNat=2^aA.toNat:=by rcases hb with rfl|rfl<;>decide
 have h8:0<=aA/8/\aA/8<=16:=by rcases hb with rfl|rfl<;>decide
 unfold eE
 refine af hp ?_
 refine oB (vm (m:=m) hb l0 l1) λ n0 n1 n2 n3=>?_
 unfold endsOf
 split
 ·exact ⟨⟨l0,h8.1,h8.2,l1⟩,⟨l0,h8.1,h8.2,l1⟩⟩
 ·split
  ·have a:=aR m (show 2^aA.toNat -low≠0 by lia)
   have b:=aN m (show 0<2^aA.toNat -low by lia)
   refine ⟨⟨l0,h8.1,h8.2,l1⟩,⟨?_,h8.1,h8.2,?_⟩⟩
   ·show 0<=low+_
    exact HY ‹_› ‹_›
   ·show low+_<_
    lia
  ·dsimp only
   exact ⟨⟨n0,h8.1,h8.2,dL ‹_› ‹_›⟩,⟨by lia,h8.1,h8.2,by lia⟩⟩
theorem BV (hf:a9=1\/a9=2\/a9=3) (hb:aA=32\/aA=128) (l0:0<=low) (l1:low<2^aA.toNat) (m0:0<=m) (a0:0<=a) (b0:0<=b)
  (ea:sl a=some (rawS (endsOf a9 low aA m).1 (aA/8))) (eb:sl b=some (rawS (endsOf a9 low aA m).2 (aA/8))):
  jY sl (aA/8) (decide (a9=3)) a b (addrV a9 low aA m ls names)/\jY sl (aA/8) (decide (a9=3)) a a (addr2 a9 low aA m (addrV a9 low aA m ls names)):=by
 refine bx (un (a9:=a9) hb l0 l1 m0) λ o1 o2=>(oB (vm (m:=m) hb l0 l1) λ n0 n1 n2 n3=>?_)
 rcases hf with rfl|rfl|rfl
 ·exact ⟨.span a b low low _ a0 b0 ea eb o1 o2 rfl,.span a a low low _ a0 a0 ea ea o1 o1 rfl⟩
 ·exact ⟨.span a b low _ _ a0 b0 ea eb o1 o2 rfl,.span a a low low _ a0 a0 ea ea o1 o1 rfl⟩
 ·have h0:0<=m %(aA+1):=aR _ (by lia)
  have h1:m %(aA+1)<aA+1:=aN _ (by lia)
  have h8:=Es hb
  constructor
  ·have:=jY.net (sl:=sl) (size:=aA/8) (net:=decide ((3:Int)=3)) a b _ _ (aA -m %(aA+1)).toNat a0 b0 ea eb o1 o2 rfl (GS hb h0) rfl (Int.mul_emod_left _ _)
   have e:8*(aA/8) -((aA -m %(aA+1)).toNat:Int)=m %(aA+1):=HE h8 h1
   rw [e] at this
   exact this
  ·have:=jY.net (sl:=sl) (size:=aA/8) (net:=decide ((3:Int)=3)) a a _ _ 0 a0 a0 ea ea o1 o1 rfl (cU _) (by lia) (by lia)
   have e:8*(aA/8) -((0:Nat):Int)=aA:=by lia
   rw [e] at this
   exact this
noncomputable def Bring1 (T:iX) (order:aw) (gs:List (List V)) (b aY r3 r4 r6 r7 size:Int) (net:Bool) (va va2:V):Prop:=
 ∃L:List oN,gs=L.map oN.rows/\(∀g∈L,g.Ok T order)/\L.Pairwise oN.Apart/\L.length<=2/\(∀g∈L,∀i∈g.own,i≠b/\i≠aY)/\∀sl:c7,wi L sl->jY sl size net r3 r4 va/\jY sl size net r3 r3 va2/\qI sl r6 r7 none
theorem xI {T order b aY low aA m ls names}:Bring1 T order [] b aY (-1) (-1) (-1) (-1) 0 (decide ((0:Int)=3)) (addrV 0 low aA m ls names) (addr2 0 low aA m (addrV 0 low aA m ls names)):=
 ⟨[],rfl,(λ Z z=>(cI z).elim),.nil,by simp,(λ Z z=>(cI z).elim),λ sl Z=>⟨.none,.none,.none⟩⟩
theorem xm {T order} {ls names} (hf:a9=1\/a9=2\/a9=3) (hb:aA=32\/aA=128) (l0:0<=low) (l1:low<2^aA.toNat) (m0:0<=m) (a0:0<=a) (hab:a≠b/\a≠aY/\a+aA/8/4≠b/\a+aA/8/4≠aY):
  Bring1 T order (pairGs a (a+aA/8/4) (endsOf a9 low aA m).1 (endsOf a9 low aA m).2 (aA/8) twice) b aY a (pairR a (a+aA/8/4) (endsOf a9 low aA m).1 (endsOf a9 low aA m).2 twice) (-1) (-1) (aA/8) (decide (a9=3)) (addrV a9 low aA m ls names) (addr2 a9 low aA m (addrV a9 low aA m ls names)):=by
 refine bx (un (a9:=a9) hb l0 l1 m0) λ o1 o2=>?_
 have h1:1<=aA/8/4:=by rcases hb with rfl|rfl<;>decide
 refine ⟨pairL a (a+aA/8/4) (endsOf a9 low aA m).1 (endsOf a9 low aA m).2 (aA/8) twice,tH,vA a0 (by lia) o1 o2,pM (by lia),tT,λ g hg i hi=>?_,λ sl hF=>?_⟩
 ·rcases tm hg i hi with rfl|rfl
  ·exact ⟨hab.1,hab.2.1⟩
  ·exact ⟨hab.2.2.1,hab.2.2.2⟩
 ·exact bx (pT hF) λ f1 f2=>(bx (BV (ls:=ls) (names:=names) hf hb l0 l1 m0 a0 (wF a0 (by lia)) f1 f2) λ k1 k2=>⟨k1,k2,.none⟩)
theorem Ay {T order} {b aY a9 low aA m a at_:Int} (hf:a9=4/\T.lookup name=some (isort dY.first ls)\/a9=5/\name=("n":aw)++dg (m %10)/\T.lookup name=none) (hn:names=[("mark":aw)]\/names=[("mark":aw),("iif":aw)]) (hb:aA=32\/aA=128) (h0:0<=at_) (a0:0<=a)
  (hab:∀i,i=at_\/i=at_+1\/i=a\/i=a+aA/8/4->i≠b/\i≠aY):
  Bring1 T order [mapRows at_ names name a (aA/8) aX] b aY a a (if aX then a+aA/8/4 else -1) (if aX then a+aA/8/4 else -1) (aA/8) (decide (a9=3)) (addrV a9 low aA m ls names) (addr2 a9 low aA m (addrV a9 low aA m ls names)):=by
 have hs:aA/8=4\/aA/8=16:=by rcases hb with rfl|rfl<;>decide
 have h1:1<=aA/8/4:=by rcases hb with rfl|rfl<;>decide
 refine ⟨[mapG T at_ names name a (aA/8) aX],rfl,λ g hg=>?_,lJ _ _,by simp,λ g hg i hi=>?_,λ sl hF=>?_⟩
 ·rw [aK] at hg;subst hg;exact Ek hn h0 a0 hs
 ·rw [aK] at hg;subst hg
  exact hab i (by simpa [mapG] using hi)
 ·have hF:=hF _ (wU _)
  have f1:=hF (a,mapSlot T names name (aA/8)) (dE ..)
  have hva:addrV a9 low aA m ls names=.tuple (.str "map"::[keyOf names,whereV T name "map"])/\addr2 a9 low aA m (addrV a9 low aA m ls names)=.tuple (.str "map"::[keyOf names,whereV T name "map"]):=by
   rcases hf with ⟨rfl,e⟩|⟨rfl,rfl,e⟩
   ·unfold whereV;rw [e];exact ⟨rfl,rfl⟩
   ·unfold whereV;rw [e];exact ⟨rfl,rfl⟩
  refine af hva.2 (af hva.1 ?_)
  refine ⟨.map a _ _ _ a0 f1,.map a _ _ _ a0 f1,?_⟩
  cases aX with
  |false=>exact .none
  |true=>
   have f2:=hF (a+aA/8/4,mapSlot T names name 2) (dR _ (wU _))
   exact .map _ _ _ _ (show 0<=a+aA/8/4 by lia) f2
theorem wA {T order gs b aY r3 r4 r6 r7 size net va va2 x y} (h:Bring1 T order gs b aY r3 r4 r6 r7 size net va va2) (b0:0<=b) (o0:0<=aY) (hbo:b≠aY) (hx:eE x 2) (hy:eE y 2):
  vy T order (gs++pairGs b aY x y 2 twice) r3 r4 b (pairR b aY x y twice) size net va va2 (some (x,y)):=by
 refine fy h λ L r1_ h1 h2 t2_=>(gK t2_ λ h3 h4 h5=>?_)
 clear h t2_
 subst r1_
 refine ⟨L++pairL b aY x y 2 twice,by (exact af tH (af bh rfl)),λ g hg=>?_,?_,by have:=tT (gU:=b) (aY:=aY) (lo:=x) (hi:=y) (dq:=2) (twice:=twice);refine af az ?_;lia,λ sl hF=>?_⟩
 ·rcases cv.mp hg with hg|hg
  ·exact h1 g hg
  ·exact vA b0 o0 hx hy g hg
 ·refine dQ.mpr ⟨h2,pM hbo,λ g hg g' hg' i hi hi'=>?_⟩
  have:=h4 g hg i hi
  rcases tm hg' i hi' with e|e
  ·exact this.1 e
  ·exact this.2 e
 ·exact gK (h5 sl (λ g hg=>hF g (zf _ hg))) λ k1 k2 Z=>(bx (pT (λ g hg=>hF g (List.mem_append_right _ hg))) λ f1 f2=>⟨k1,k2,.raw b _ x y 2 b0 (wF b0 o0) f1 f2 hx hy⟩)
theorem sJ {T order gs b aY r3 r4 r6 r7 size net va va2} (h:Bring1 T order gs b aY r3 r4 r6 r7 size net va va2):vy T order gs r3 r4 r6 r7 size net va va2 none:=by
 refine fy h λ L r1_ h1 h2 t2_=>(gK t2_ λ h3 h4 h5=>?_)
 clear h t2_
 subst r1_
 exact ⟨L,rfl,h1,h2,ao ‹_› (by decide),h5⟩
@[reducible] noncomputable def fr86 (k:Int) (base zs:List Int) (sets:aI) (c low m p q r s a9 aA:Int) (kind:aw) (nf:Int) (aW:List aw) (aX:Bool) (pp:Option (Int×Int)) (nA lA:aI) (jC:V) (size a b aY:Int) (twice:Bool) (x26 x27 x28 wK wg mw wL vL xw DT x36 x37 x38:Option V):db:=
 some (.int k)::some (.tuple (base.map .int))::some (.flist (zs.map .int))::some (.ref sets)::some (.int c)::some (.int low)::some (.int m)::some (.int p)::some (.int q)::some (.int r)::some (.int s)::some (.int a9)::some (.int aA)::some (.str kind)::some (.int nf)::some (.tuple (aW.map .str))::some (.bool aX)::some (pairV pp)::some (.ref nA)::some (.ref lA)::some jC::some (.int size)::some (.int a)::some (.int b)::some (.int aY)::some (.bool twice)::x26::x27::x28::wK::wg::mw::wL::vL::xw::DT::x36::x37::x38::[]
theorem bY {H:MH} (h:(H.set c o) b=none):b≠c/\H b=none:=by
 have:b≠c:=cH h (MH.set_self _ _ _) bF
 exact ⟨this,by rw [MH.set_ne _ _ this] at h;exact h⟩
theorem jl:MH.Sub (H.del a) H:=λ b o e=>by
 unfold MH.del at e
 split at e
 ·exact bF e
 ·exact e
theorem Sub.del_both (s:MH.Sub H H'):MH.Sub (H.del a) (H'.del a):=λ b o e=>by
 unfold MH.del at e⊢
 split at e
 ·cases e
 ·rename_i h;refine af (if_neg h) ?_;exact s _ _ e
theorem CV {H:MH} (h:H b=none):(H.del a) b=none:=by
 unfold MH.del;split
 ·rfl
 ·exact h
theorem mX {H H':MH} (s:MH.Sub (H.del a) H') (ne:b≠a) (h:H b=some o):H' b=some o:=s b o (by exact af (MH.del_ne _ ne) h)
section
variable {k c low m p q r s a9 aA nf size a b aY:Int}
def mN (T' T2:iX):Prop:=(∀n ls,T'.lookup n=some ls->T2.lookup n=some ls)/\∀i:Int,0<=i->i<=9->T2.lookup (("n":aw)++dg i)=none
theorem G7 {a b aY at_ w i:Int} (h1:a+5<=b) (h2:a+5<=aY) (ht:at_<=a+1) (hw:w<=4) (hi:i=at_\/i=at_+1\/i=a\/i=a+w):i≠b/\i≠aY:=by
 have:i<=a+4:=by rcases hi with h|h|h|h<;>(subst h;lia)
 exact ⟨by lia,by lia⟩
end
namespace vb
def S_ (k c low m p q r s nf:Int) (base zs:List Int) (sets:aI) (nA lA kind aW twice pp ls T H N R X):=∀{a9:Int} {aA:Int} {size:Int} {a:Int} {b:Int} {aY:Int} {names:List aw} {aX:Bool} {jC:V} (hk:0<=k/\k<=5) (hT:cE H sets T) (hTl:T.length<=k) (hTn:T.lookup (("s":aw)++dg k)=none) (hnA:H nA=some (.list (names.map .str))) (hlA:H lA=some (.list (ls.map dY.v))) (hn:names=[("mark":aw)]\/names=[("mark":aw),("iif":aw)]) (hls:mV ls) (hf:0<=a9/\a9<=5) (hb:aA=32\/aA=128) (l0:0<=low) (l1:low<2^aA.toNat) (m0:0<=m) (hp:aX=true->3<a9) (ha:jC=addrV a9 low aA m ls names) (hs:size=if a9=0 then 0 else aA/8) (a0:0<=a) (hab:a=0/\b=8/\aY=9\/a<=4/\12<=b/\b<=13/\14<=aY/\aY<=15) (kk:∀(H':MH) (G P M:aI) (vs:List V) (gs:List (List V)) (T':iX) (r3 r4 r6 r7:Int) (wK wg mw wL vL:Option V),
   H' G=some (.list vs)->GroupsAt H' vs gs->H' P=some (.list [.int r3,.int r4])->H' M=some (.list [.int r6,.int r7])->cE H' sets T'->MH.Sub (H.del sets) H'->(T'=T\/∃ls,T'=T++[(("s":aw)++dg k,ls)])->(∀D,H D≠none->D≠sets->cE (H.del D) sets T->cE (H'.del D) sets T')->
   (∀T2 order,mN T' T2->Bring1 T2 order gs b aY r3 r4 r6 r7 size (decide (a9=3)) jC (addr2 a9 low aA m jC))->N (fr86 k base zs sets c low m p q r s a9 aA kind nf aW aX pp nA lA jC size a b aY twice (some (.ref G)) (some (.ref P)) (some (.ref M)) wK wg mw wL vL none none none none none) H'),wpSs tb0 6 d86b (fr86 k base zs sets c low m p q r s a9 aA kind nf aW aX pp nA lA jC size a b aY twice none none none none none none none none none none none none none) H N R X
def U_:=UV λ k c low=>UV λ m p q=>UV λ r s nf=>UV λ base zs sets=>UV λ nA lA kind=>UV λ aW twice pp=>UV λ ls T H=>UU λ N=>UU λ R=>S_ k c low m p q r s nf base zs sets nA lA kind aW twice pp ls T H N R
def t_:=dr (by infer_instance) U_
def k:=t_.1
def c:=t_.2.1
def low:=t_.2.2.1
def m:=t_.2.2.2.1
def p:=t_.2.2.2.2.1
def q:=t_.2.2.2.2.2.1
def s1_:=t_.2.2.2.2.2.2
def r:=s1_.1
def s:=s1_.2.1
def nf:=s1_.2.2.1
def base:=s1_.2.2.2.1
def zs:=s1_.2.2.2.2.1
def sets:=s1_.2.2.2.2.2.1
def s2_:=s1_.2.2.2.2.2.2
def nA:=s2_.1
def lA:=s2_.2.1
def kind:=s2_.2.2.1
def aW:=s2_.2.2.2.1
def twice:=s2_.2.2.2.2.1
def pp:=s2_.2.2.2.2.2.1
def s3_:=s2_.2.2.2.2.2.2
def ls:=s3_.1
def T:=s3_.2.1
def H:=s3_.2.2.1
def N:=s3_.2.2.2.1
def R:=s3_.2.2.2.2.1
def X:=s3_.2.2.2.2.2
theorem P_:S_ k c low m p q r s nf base zs sets nA lA kind aW twice pp ls T H N R X:=by
 intro a9 aA size a b aY names aX jC hk hT hTl hTn hnA hlA hn hls hf hb l0 l1 m0 hp ha hs a0 hab kk
 refine eC (λ ρ K=>∀G P M H',MH.Sub H H'->H G=none->H P=none->H M=none->H' G=some (.list [])->H' P=some (.list [.int (-1),.int (-1)])->H' M=some (.list [.int (-1),.int (-1)])->K (((ρ.set 26 (some (.ref G))).set 27 (some (.ref P))).set 28 (some (.ref M))) H') (λ K k'=>?_) ?_
 ·intro G hG P hP M hM
  refine bx (bY hP) λ n1 hP'=>(bx (bY hM) λ n2 hM'=>(bx (bY hM') λ n3 hM''=>⟨rfl,k' G P M _ (a7 (a7 (bZ hG) hP') hM'') hG hP' hM'' ?_ ?_ (MH.set_self _ _ _)⟩))
  ·exact af (MH.set_ne _ _ n3.symm) (af (MH.set_ne _ _ n1.symm) (af (MH.set_self _ _ _) rfl))
  ·exact af (MH.set_ne _ _ n2.symm) (af (MH.set_self _ _ _) rfl)
 intro G P M H1 s1 hG hP hM eG eP eM
 dsimp only [fr86,aC,aD]
 have hT1:=hT.sub s1
 have enA:=s1 _ _ hnA
 have elA:=s1 _ _ hlA
 have hsz:sets≠nA/\sets≠lA/\sets≠G/\sets≠P/\sets≠M:=by
  rcases hT with ⟨e,_⟩|⟨es,e,_⟩
  ·exact ⟨cH e hnA (λ q=>oJ q rfl),cH e hlA (λ q=>oJ q rfl),cH e hG b7,cH e hP b7,cH e hM b7⟩
  ·exact ⟨cH e hnA (nk rfl),cH e hlA (nk rfl),cH e hG b7,cH e hP b7,cH e hM b7⟩
 have hsets:H sets≠none:=by
  rcases hT with ⟨e,_⟩|⟨es,e,_⟩<;>refine af e ?_<;>simp
 have hlt:a+5<=b/\a+5<=aY:=by rcases hab with ⟨rfl,rfl,rfl⟩|h<;>first|decide|lia
 have hB:1<=aA/8/4/\aA/8/4<=4:=by rcases hb with rfl|rfl<;>decide
 refine bB (decide (3<a9)) ⟨rfl,rfl⟩ (λ e=>?_) (λ e=>?_)
 ·
  have e3:=of_decide_eq_true e
  have hsz2:size=aA/8:=by (exact af hs (af (if_neg (by lia)) rfl))
  have dl:=Di (i:=k) ((Br ‹_›)) (by lia)
  have sl1:(aa "s").length=1:=by decide
  refine dP (λ K=>∀name:aw,(a9=4->name=("s":aw)++dg k)->(a9=5->name=("n":aw)++dg (m %10))->K (.str name) H1) (λ K k'=>?_) ?_
  ·by_cases e4:a9=4
   ·subst e4
    exact ⟨(Br ‹_›),by lia,show (aa "s").length+(dg k).length<=bG by (refine af sl1 (af dl ?_));decide,k' _ (λ Z=>rfl) λ h=>absurd h (by decide)⟩
   ·have e5:a9=5:=by lia
    subst e5
    subst ha
    skip
    exact k' _ (λ h=>absurd h (by decide)) λ Z=>rfl
  intro name n4 n5
  dsimp only [fr86,aC,aD]
  refine eC (λ ρ K=>∀T' H',cE H' sets T'->MH.Sub (H1.del sets) H'->(T'=T\/∃ls,T'=T++[(("s":aw)++dg k,ls)])->(a9=4->T'.lookup name=some (isort dY.first ls))->(∀D,H1 D≠none->D≠sets->cE (H1.del D) sets T->cE (H'.del D) sets T')->K ρ H') (λ K k'=>?_) ?_
  ·show wpSs tb0 6 [_] _ _ _ _ _
   refine bB (decide (a9=4)) ⟨rfl,rfl⟩ (λ e=>?_) (λ e=>?_)
   ·have e4:=of_decide_eq_true e
    have hname:=n4 e4
    refine fZ _ (aj (by assumption) ?_)
    refine aj (by refine af (ag _) ?_;have:=hls.1;exact ao ‹_› (by decide)) ?_
    refine bS Mb ⟨ls,rfl,hls,λ v H2 hv s2=>?_⟩
    subst hname
    refine B9 hT1 s2 hTn (k' _ _ (vV hT1 s2 hTn (by lia) hv) (λ x ox ex=>?_) (.inr ⟨_,rfl⟩) (λ Z=>?_) λ D hD nD hS=>uE hD nD hS s2 hTn (by lia) hv)
    ·have:x≠sets:=λ z=>by rw [z] at ex;simp [MH.del] at ex
     rw [MH.del_ne _ this] at ex
     refine af (MH.set_ne _ _ this) ?_;exact s2 _ _ ex
    ·exact af fx (af hTn (af sx (af aG (af (beq_self_eq_true _) rfl))))
   ·exact k' T _ hT1 jl (.inl rfl) (λ h=>absurd h (of_decide_eq_false e)) λ Z Z Z h=>h
  intro T' H2 hT2 s2 hT' hT4 hK
  have hK':∀D,H D≠none->D≠sets->cE (H.del D) sets T->cE (H2.del D) sets T':=λ D hD nD hS=>by
   exact bw (sy.mp hD) λ o ho=>(hK D (by refine af (s1 _ _ ho) ?_;simp) nD (hS.sub (del_both s1)))
  have fG:=mX s2 hsz.2.2.1.symm eG
  have fP:=mX s2 hsz.2.2.2.1.symm eP
  have fM:=mX s2 hsz.2.2.2.2.symm eM
  have fnA:=mX s2 hsz.1.symm enA
  have s12:MH.Sub (H.del sets) H2:=(Sub.del_both s1).trans s2
  have hat:0<=s/4 %2/\s/4 %2<=1:=⟨aR _ (by decide),bJ (aN _ (by decide))⟩
  refine bN (u:=.int (a+s/4 %2)) ?_ ?_
  ·exact ⟨rfl,rfl⟩
  simp only [fr86,aC,aD]
  generalize hat2:a+s/4 %2=at_
  have hnl:1<=names.length/\names.length<=2:=by rcases hn with rfl|rfl<;>decide
  refine dP (λ K=>∀A,H2 A=none->K (.ref A) (H2.set A (.list ((bH names.length).map λ (j:Nat)=>metaV (at_+j) (names.getD j ""))))) (λ K k'=>?_) ?_
  ·have hnl2:names.length<=1000000:=ao hnl.2 (by decide)
   refine kF fnA (by exact af (ag _) hnl2) ?_
   refine af (ag _) ?_
   refine aj (aT _) (aj (by lia) (aj (by (refine af (ag _) (af bP ?_));exact hnl2) ?_))
   refine eQ (λ u=>match u with
    |.int i=>metaV (at_+i) (names.getD i.toNat "")
    |_=>.none) (λ u R h=>h) (λ u hu R h=>?_) ?_
   ·refine aL (bE.mp hu) λ i hi r1_=>?_
    subst r1_
    have hi:=ca.mp hi
    refine cZ fnA (wc (u:=.str (names.getD (i:Int).toNat "")) ⟨aT i,kn (qg.mpr (cG hi hnl.2)) (by decide)⟩ ?_) ?_
    ·have hk:(i:Int).toNat<names.length:=hi
     refine af (aF) (af (aJ) (af (an hk) ?_));rfl
    ·exact h
   ·intro A hA
    refine af (dy _) (af cD ?_)
    exact k' A hA
  intro A hA
  dsimp only [fr86,aC,aD]
  have ne:∀{x:aI} {o:bK},H2 x=some o->x≠A:=λ {x o} h z=>by rw [z,hA] at h;exact bF h
  refine bN (u:=layV (layOf size aX)) ?_ ?_
  ·refine kj (b:=aX) (λ e=>?_) λ e=>?_
   ·rw [e];exact ⟨rfl,rfl⟩
   ·rw [e];exact ⟨rfl,rfl⟩
  simp only [fr86,aC,aD]
  refine dP (λ K=>∀G2 A2 H',MH.Sub H2 H'->H' G2=some (.list [.ref A2])->H' A2=some (.list (mapRows at_ names name a size aX))->K (.ref G2) H') (λ K k'=>?_) ?_
  ·have gnA:(H2.set A (.list ((bH names.length).map λ (j:Nat)=>metaV (at_+j) (names.getD j "")))) nA=some (.list (names.map .str)):=by exact af (MH.set_ne _ _ (ne fnA)) fnA
   refine kF gnA (by refine af (ag _) ?_;exact ao hnl.2 (by decide)) ?_
   refine af (ag _) ?_
   refine aj ⟨by lia,by lia⟩ ?_
   intro B hB
   refine bx (bY hB) λ nB hB'=>(qx ((MH.set_ne _ _ nB.symm).trans (MH.set_self _ _ _)) (MH.set_self _ _ _) (by simp [bG];lia) λ D hD E hE=>(bx (bY hD) λ nD hD'=>(bx (bY hD') λ nD2 hD''=>(bx (bY hE) λ nE hE'=>(bx (bY hE') λ nE2 hE''=>(bx (bY hE'') λ nE3 hE'''=>(k' E D _ (a7 (a7 (a7 (bZ hA) hB') hD'') hE''') (MH.set_self _ _ _) ?_)))))))
   refine af (MH.set_ne _ _ nE.symm) (af (MH.set_self _ _ _) ?_)
   rfl
  intro G2 A2 H3 s3 g1 g2
  dsimp only [fr86,aC,aD]
  refine dP (λ K=>∀P2,H3 P2=none->K (.ref P2) (H3.set P2 (.list [.int a,.int a]))) (λ K k'=>k') ?_
  intro P2 hP2
  dsimp only [fr86,aC,aD]
  have s4:MH.Sub H3 (H3.set P2 (.list [.int a,.int a])):=bZ hP2
  have hfin:∀T2 order,mN T' T2->Bring1 T2 order [mapRows at_ names name a size aX] b aY a a (if aX then a+aA/8/4 else -1) (if aX then a+aA/8/4 else -1) size (decide (a9=3)) jC (addr2 a9 low aA m jC):=λ T2 order hg=>by
   subst ha
   refine af hsz2 ?_
   refine Ay ?_ hn hb (by lia) a0 λ i hi=>G7 hlt.1 hlt.2 (by lia) hB.2 hi
   rcases (show a9=4\/a9=5 by lia) with e|e
   ·exact .inl ⟨e,hg.1 _ _ (hT4 e)⟩
   ·exact .inr ⟨e,n5 e,by refine af (n5 e) ?_;exact hg.2 _ (aR _ (by decide)) (bJ (aN _ (by decide)))⟩
  show wpSs tb0 6 [_] _ _ _ _ _
  refine bB aX ⟨rfl,rfl⟩ (λ e=>?_) (λ e=>?_)
  ·refine dP (λ K=>∀M2,(H3.set P2 (.list [.int a,.int a])) M2=none->K (.ref M2) ((H3.set P2 (.list [.int a,.int a])).set M2 (.list [.int (a+aA/8/4),.int (a+aA/8/4)]))) (λ K k'=>by exact af hsz2 k') ?_
   intro M2 hM2
   dsimp only [fr86,aC,aD]
   refine bx (bY hM2) λ nM Z=>?_
   have s5:=s4.trans (bZ (o:=.list [.int (a+aA/8/4),.int (a+aA/8/4)]) hM2)
   subst e
   exact kk _ G2 P2 M2 [.ref A2] [mapRows at_ names name a size true] T' a a _ _ _ _ _ _ _ (s5 _ _ g1) ⟨⟨A2,rfl,s5 _ _ g2⟩,trivial⟩ (by (exact af (MH.set_ne _ _ nM.symm) (af (MH.set_self _ _ _) rfl))) (MH.set_self _ _ _) ((hT2.sub s3).sub s5) (s12.trans (s3.trans s5)) hT' (λ D a b c=>(hK' D a b c).sub (del_both (s3.trans s5))) hfin
  ·subst e
   exact kk _ G2 P2 M [.ref A2] [mapRows at_ names name a size false] T' a a _ _ _ _ _ _ _ (s4 _ _ g1) ⟨⟨A2,rfl,s4 _ _ g2⟩,trivial⟩ (MH.set_self _ _ _) (s4 _ _ (s3 _ _ fM)) ((hT2.sub s3).sub s4) (s12.trans (s3.trans s4)) hT' (λ D a b c=>(hK' D a b c).sub (del_both (s3.trans s4))) hfin
 ·have e3:=of_decide_eq_false e
  show wpSs tb0 6 [_] _ _ _ _ _
  refine bB (decide (0<a9)) ⟨rfl,rfl⟩ (λ e=>?_) (λ e=>?_)
  ·have e0:=of_decide_eq_true e
   have hf':a9=1\/a9=2\/a9=3:=by lia
   have hsz2:size=aA/8:=by (exact af hs (af (if_neg (iJ ‹_›)) rfl))
   subst hsz2
   have hadr:∃x y tg,jC=.tuple [tg,.int x,.int y]/\(a9≠3->(x,y)=endsOf a9 low aA m)/\(a9=3->x=low/wideB aA m*wideB aA m/\y=m %(aA+1)):=by
    subst ha
    rcases hf' with rfl|rfl|rfl
    ·exact ⟨low,low,_,rfl,λ Z=>rfl,λ h=>absurd h (by decide)⟩
    ·exact ⟨low,_,_,rfl,λ Z=>rfl,λ h=>absurd h (by decide)⟩
    ·exact ⟨_,_,_,rfl,λ h=>absurd rfl h,λ Z=>⟨rfl,rfl⟩⟩
   refine iV hadr λ x y tg hadr_ he1 he2=>?_
   clear hadr
   revert hadr_;intro hadr
   have g1:lK [tg,V.int x,V.int y] (kc 1) V.none=.int x:=rfl
   have g2:lK [tg,V.int x,V.int y] (kc 2) V.none=.int y:=rfl
   refine bN (u:=.tuple [.int x,.int y]) ?_ ?_
   ·refine af hadr ?_
    exact ⟨rfl,rfl⟩
   simp only [fr86,aC,aD]
   refine GR (λ ρ ρ' H'=>ρ'=ρ.set 33 (some (.tuple [.int (endsOf a9 low aA m).1,.int (endsOf a9 low aA m).2]))/\H'=H1) ?_ ?_
   ·show wpSs tb0 6 [_] _ _ _ _ _
    refine bB (decide (a9=3)) ⟨rfl,rfl⟩ (λ e=>?_) (λ e=>?_)
    ·have e:=of_decide_eq_true e
     refine bx (he2 e) λ hx hy=>?_
     have b1:0<aA+1:=by rcases hb with rfl|rfl<;>decide
     have h0:0<=m %(aA+1):=aR _ (iJ b1)
     have h1:m %(aA+1)<aA+1:=aN _ b1
     refine af hadr ?_
     exact aj (by lia) ⟨by (refine af hx (af hy (af e ?_)));rfl,rfl⟩
    ·have e:=of_decide_eq_false e
     have:=he1 e
     exact ⟨by refine af this.symm ?_;rfl,rfl⟩
   rintro _ H1 ⟨rfl,rfl⟩
   simp only [fr86,aC,aD]
   refine bx (un (a9:=a9) hb l0 l1 m0) λ w1_ w2_=>?_
   obtain ⟨o1,_⟩:=w1_
   obtain ⟨o2,_⟩:=w2_
   refine bS Kj ⟨o1,o2,(Br ‹_›),by lia,λ p2 b2 vs H' h1 h2 h3 h4 h5 h6=>?_⟩
   rw [pZ] at h3
   refine ⟨rfl,kk H' p2 b2 M vs _ T a _ (-1) (-1) _ _ _ _ _ h1 h2 h3 (h4 _ _ eM) (hT1.sub h4) (jl.trans (s1.trans h4)) (.inl rfl) (λ D Z Z c=>c.sub (del_both (s1.trans h4))) λ T2 order Z=>?_⟩
   subst ha
   exact xm hf' hb l0 l1 m0 a0 (by lia)
  ·have e0:=of_decide_eq_false e
   have e0:a9=0:=by lia
   subst e0
   subst ha
   rw [if_pos rfl] at hs
   subst hs
   exact kk _ G P M [] [] T (-1) (-1) (-1) (-1) _ _ _ _ _ eG trivial eP eM hT1 (jl.trans s1) (.inl rfl) (λ D Z Z c=>c.sub (del_both s1)) λ T2 order Z=>xI
theorem A_:∀p,U_ p:=bC P_
end vb
section
variable {k c low m p q r s a9 aA nf size a b aY:Int}
theorem vb {k c low m p q r s nf base zs sets nA lA kind aW twice pp ls T H N R X}:vb.S_ k c low m p q r s nf base zs sets nA lA kind aW twice pp ls T H N R X:=vb.A_ (k,c,low,m,p,q,r,s,nf,base,zs,sets,nA,lA,kind,aW,twice,pp,ls,T,H,N,R,X)
end
namespace oC
def S_ (low aA m q aX):=∀(m0:0<=m) (q0:0<=q),mV (lits low aA m q aX)/\∀x∈lits low aA m q aX,aU (.str x.note)=true
def U_:=UV λ low aA m=>UU λ q=>S_ low aA m q
def t_:=dr (by infer_instance) U_
def low:=t_.1
def aA:=t_.2.1
def m:=t_.2.2.1
def q:=t_.2.2.2.1
def aX:=t_.2.2.2.2
theorem P_:S_ low aA m q aX:=by
 intro m0 q0
 unfold lits
 refine ⟨⟨?_,?_,?_,?_⟩,?_⟩
 ·refine af (ag _) (af bP ?_);lia
 ·intro x hx
  refine aL (bE.mp hx) λ k hk r1_=>?_
  subst r1_
  dsimp only
  have:=aR (m/4/5^k) (show (5:Int)≠0 by decide)
  lia
 ·rw [DP]
  refine pF ?_ (ub.mp List.nodup_range)
  intro i j hi hj hij
  exact Kc _ (JW q hij (cG (ca.mp hi) (Cd m)) (cG (ca.mp hj) (Cd m))) (aN _ (by decide)) (aN _ (by decide))
 ·intro x hx
  refine aL (bE.mp hx) λ k hk r1_=>?_
  subst r1_
  simp
 ·intro x hx
  refine aL (bE.mp hx) λ k hk r1_=>?_
  subst r1_
  have hk:=ca.mp hk
  dsimp only
  split
  ·decide+kernel
  ·exact rQ (P:=λ s=>aU (.str (("c":aw)++s))=true) (by decide+kernel) (aT _) (by lia)
theorem A_:∀p,U_ p:=bC P_
end oC
theorem oC {low aA m q aX}:oC.S_ low aA m q aX:=oC.A_ (low,aA,m,q,aX)
noncomputable def kinds:List aw:=["snat","dnat","masquerade","redirect"]
noncomputable def flagss:List (List aw):=[[],["random"],["persistent"],["random","persistent"]]
structure NS (H H':MH) (low m s c a9 aA size a b aY:Int) (kind:aw) (aW names:List aw) (aX:Bool) (pp:Option (Int×Int)) (nA lA:aI) (ls:List dY) (jC:V):Prop where
 sub:MH.Sub H H'
 hnA:H' nA=some (.list (names.map .str))
 hlA:H' lA=some (.list (ls.map dY.v))
 hn:names=[("mark":aw)]\/names=[("mark":aw),("iif":aw)]
 hls:mV ls
 hno:∀x∈ls,aU (.str x.note)=true
 hf:0<=a9/\a9<=5
 hb:aA=32\/aA=128
 l0:0<=low
 l1:low<2^aA.toNat
 m0:0<=m
 s0:0<=s
 c0:0<=c
 hp:aX=true->3<a9
 hpp:aX=true->pp=none
 hpo:∀x y,pp=some (x,y)->eE x 2/\eE y 2
 ha:jC=addrV a9 low aA m ls names
 hs:size=if a9=0 then 0 else aA/8
 a0:0<=a
 hab:a=0/\b=8/\aY=9\/a<=4/\12<=b/\b<=13/\14<=aY/\aY<=15
 hk:kind∈kinds
 hfl:aW∈flagss
theorem B0 (h0:0<=p) (q0:0<=q) (h:portsOf p q=some (x,y)):eE x 2/\eE y 2:=by
 have e:(256:Int)^(2:Int).toNat=65536:=by decide
 unfold portsOf at h
 split at h
 ·exact bF h
 ·have h:=ac h
  simp only [tc] at h
  refine bx h λ r1_ r2_=>?_
  clear h
  subst r1_
  subst r2_
  unfold eE
  refine af e ?_
  refine ⟨⟨by lia,by decide,by decide,by lia⟩,?_,by decide,by decide,?_⟩
  ·split
   ·have:=aR q (show 65536 -p/3 %65536≠0 by lia)
    lia
   ·lia
  ·split
   ·have:=aN q (show 0<65536 -p/3 %65536 by lia)
    lia
   ·lia
namespace vO
def S_ (k base zs sets H N):=∀{R:V->MH->Prop} {X:aw->MH->Prop} (hl:base.length=7) (hb:∀x∈base,0<=x/\x<2^127) (hz:zs.length<=1000) (hk:0<=k/\k<=5) (h6:(base.getD 0 0+digit zs (7*k)) %8<6) (kk:∀(c low m p q r s a9 aA nf size a b aY:Int) (nA lA:aI) (kind:aw) (aW names:List aw) (aX twice:Bool) (pp:Option (Int×Int)) (jC:V) (ls:List dY) (H':MH),NS H H' low m s c a9 aA size a b aY kind aW names aX pp nA lA ls jC->N (fr86 k base zs sets c low m p q r s a9 aA kind nf aW aX pp nA lA jC size a b aY twice none none none none none none none none none none none none none) H'),wpSs tb0 6 d86a [some (.int k),some (.tuple (base.map .int)),some (.flist (zs.map .int)),some (.ref sets),none,none,none,none,none,none,none,none,none,none,none,none,none,none,none,none,none,none,none,none,none,none,none,none,none,none,none,none,none,none,none,none,none,none,none] H N R X
def U_:=UV λ k base zs=>UU λ sets=>UU λ H=>S_ k base zs sets H
def t_:=dr (by infer_instance) U_
def k:=t_.1
def base:=t_.2.1
def zs:=t_.2.2.1
def sets:=t_.2.2.2.1
def H:=t_.2.2.2.2.1
def N:=t_.2.2.2.2.2
theorem P_:S_ k base zs sets H N:=by
 intro R X hl hb hz hk h6 kk
 have bd:=λ j kk=>rF (zs:=zs) hb j kk
 obtain ⟨c,hc⟩:∃c,c=base.getD 0 0+digit zs (7*k+(0:Nat)):=⟨_,rfl⟩
 obtain ⟨lw,hlw⟩:∃c,c=base.getD 1 0+digit zs (7*k+(1:Nat)):=⟨_,rfl⟩
 obtain ⟨m,hm⟩:∃c,c=base.getD 2 0+digit zs (7*k+(2:Nat)):=⟨_,rfl⟩
 obtain ⟨p,hp⟩:∃c,c=base.getD 3 0+digit zs (7*k+(3:Nat)):=⟨_,rfl⟩
 obtain ⟨q,hq⟩:∃c,c=base.getD 4 0+digit zs (7*k+(4:Nat)):=⟨_,rfl⟩
 obtain ⟨r,hr⟩:∃c,c=base.getD 5 0+digit zs (7*k+(5:Nat)):=⟨_,rfl⟩
 obtain ⟨s,hs⟩:∃c,c=base.getD 6 0+digit zs (7*k+(6:Nat)):=⟨_,rfl⟩
 have hnums:(nums base zs k 7).map V.int=[.int c,.int lw,.int m,.int p,.int q,.int r,.int s]:=by (refine af hc (af hlw (af hm (af hp (af hq (af hr (af hs ?_)))))));rfl
 have bc:=(bd 0 (7*k+(0:Nat))).1;rw [<-hc] at bc
 have bm:=bd 2 (7*k+(2:Nat));rw [<-hm] at bm
 have bp:=(bd 3 (7*k+(3:Nat))).1;rw [<-hp] at bp
 have bq:=bd 4 (7*k+(4:Nat));rw [<-hq] at bq
 have br:=(bd 5 (7*k+(5:Nat))).1;rw [<-hr] at br
 have bs:=(bd 6 (7*k+(6:Nat))).1;rw [<-hs] at bs
 have h6':c %8<6:=by refine af hc ?_;simpa using h6
 clear hc hlw hm hp hq hr hs
 refine eC (λ ρ K=>∀H',MH.Sub H H'->K (((((((ρ.set 4 (some (.int c))).set 5 (some (.int lw))).set 6 (some (.int m))).set 7 (some (.int p))).set 8 (some (.int q))).set 9 (some (.int r))).set 10 (some (.int s))) H') (λ K k=>?_) ?_
 ·refine ⟨by decide,by decide,by decide,?_⟩
  refine rW (lv:=6) (dq:=7) (fr:=[1,2,0]) (by decide) rfl hk (by lia) (by decide) hz ?_
  intro d hd
  refine af hnums ?_
  exact BP (vg (MH.set_self _ _ _)) ⟨rfl,k _ (bZ hd)⟩
 intro H1 s1
 dsimp only [fr86,aC,aD]
 refine bN (u:=.int (c %8)) ⟨rfl,rfl⟩ (dP (λ K=>∀(aA:Int) H',MH.Sub H H'->(aA=32\/aA=128)->K (.int aA) H') (λ K k=>?_) ?_)
 ·intro d hd
  have sd:=λ {o:bK}=>a7 (o:=o) s1 (s1.none hd)
  rcases (show c/128 %2=0\/c/128 %2=1 by lia) with e|e
  ·exact cZ (MH.set_self _ _ _) (by refine af e ?_;rfl) (k 32 _ sd (.inl rfl))
  ·exact cZ (MH.set_self _ _ _) (by refine af e ?_;rfl) (k 128 _ sd (.inr rfl))
 intro aA H2 s2 hbits
 have hbb:0<=aA/\aA<=128:=by rcases hbits with rfl|rfl<;>decide
 have hp2:=gn aA.toNat
 refine bN (u:=.int (lw %2^aA.toNat)) ?_ ?_
 ·exact aj ⟨by lia,by lia,by decide⟩ (pK (decide_eq_true hp2) ⟨rfl,rfl⟩)
 have hl0:=aR lw (show (2:Int)^aA.toNat≠0 by lia)
 have hl1:=aN lw hp2
 have hl2:(2:Int)^aA.toNat<=2^128:=qU (by lia)
 generalize lw %2^aA.toNat=low at*
 refine dP (λ K=>∀(kind:aw) H',MH.Sub H H'->kind∈kinds->K (.str kind) H') (λ K k=>?_) ?_
 ·intro d hd
  have sd:=λ {o:bK}=>a7 (o:=o) s2 (s2.none hd)
  rcases (show c/8 %2=0\/c/8 %2=1 by lia) with e|e
  ·exact cZ (MH.set_self _ _ _) (by refine af e ?_;rfl) (k "snat" _ sd (by decide))
  ·exact cZ (MH.set_self _ _ _) (by refine af e ?_;rfl) (k "dnat" _ sd (by decide))
 intro kind H3 s3 hkind
 refine dP (λ K=>∀(nf:Int) H',MH.Sub H H'->K (.int nf) H') (λ K k=>?_) ?_
 ·intro d hd
  have sd:=λ {o:bK}=>a7 (o:=o) s3 (s3.none hd)
  have:aA/128=0\/aA/128=1:=by rcases hbits with rfl|rfl<;>decide
  rcases this with e|e
  ·exact cZ (MH.set_self _ _ _) (by refine af e ?_;rfl) (k 2 _ sd)
  ·exact cZ (MH.set_self _ _ _) (by refine af e ?_;rfl) (k 10 _ sd)
 intro nf H4 s4
 dsimp only [fr86,aC,aD]
 refine eC (λ ρ K=>∀(kind2:aw) (nf2:Int) H',MH.Sub H H'->kind2∈kinds->K ((ρ.set 13 (some (.str kind2))).set 14 (some (.int nf2))) H') (λ K k=>?_) ?_
 ·show wpSs tb0 6 [_] _ _ _ _ _
  refine bB (decide (c %8=0)&&decide (1<c/8 %4)) ?_ (λ e=>?_) (λ e=>?_)
  ·refine rV (b:=decide (c %8=0)) (λ e=>?_) λ e=>?_
   ·exact rV (b:=decide (1<c/8 %4)) (λ e2=>⟨congrArg V.bool (by (refine af e (af e2 ?_));rfl),rfl⟩) λ e2=>⟨congrArg V.bool (by (refine af e (af e2 ?_));rfl),rfl⟩
   ·exact ⟨congrArg V.bool (by refine af e ?_;rfl),rfl⟩
  ·intro d hd
   have sd:=λ {o:bK}=>a7 (o:=o) s4 (s4.none hd)
   rcases (show c/8 %2=0\/c/8 %2=1 by lia) with e|e
   ·exact cZ (MH.set_self _ _ _) (by refine af e ?_;rfl) ⟨rfl,k "masquerade" 0 _ sd (by decide)⟩
   ·exact cZ (MH.set_self _ _ _) (by refine af e ?_;rfl) ⟨rfl,k "redirect" 0 _ sd (by decide)⟩
  ·exact k kind nf _ s4 hkind
 clear hkind
 intro kind nf H5 s5 hkind
 dsimp only [fr86,aC,aD]
 refine dP (λ K=>∀(aW:List aw) H',MH.Sub H H'->aW∈flagss->K (.tuple (aW.map .str)) H') (λ K k=>?_) ?_
 ·intro d hd
  have sd:=λ {o:bK}=>a7 (o:=o) s5 (s5.none hd)
  rcases (show c/32 %4=0\/c/32 %4=1\/c/32 %4=2\/c/32 %4=3 by lia) with e|e|e|e
  ·exact cZ (MH.set_self _ _ _) (by refine af e ?_;rfl) (k [] _ sd (by decide))
  ·exact cZ (MH.set_self _ _ _) (by refine af e ?_;rfl) (k ["random"] _ sd (by decide))
  ·exact cZ (MH.set_self _ _ _) (by refine af e ?_;rfl) (k ["persistent"] _ sd (by decide))
  ·exact cZ (MH.set_self _ _ _) (by refine af e ?_;rfl) (k ["random","persistent"] _ sd (by decide))
 intro aW H6 s6 hflags
 refine dP (λ K=>∀aX:Bool,(aX=true->3<c %8)->K (.bool aX) H6) (λ K k=>?_) ?_
 ·refine rV (b:=decide (3<c %8)) (λ e=>?_) λ e=>?_
  ·exact k (decide (s/24 %2=1)) λ Z=>of_decide_eq_true e
  ·exact k (decide (3<c %8)) λ h=>of_decide_eq_true h
 intro aX hported
 refine dP (λ K=>∀pp:Option (Int×Int),(aX=true->pp=none)->(∀x y,pp=some (x,y)->eE x 2/\eE y 2)->K (pairV pp) H6) (λ K k=>?_) ?_
 ·refine kj (b:=aX) (λ e=>?_) λ e=>?_
  ·exact k none (λ Z=>rfl) nofun
  exact bS LK ⟨bp,bq.1,k (portsOf p q) (λ h=>absurd (e.symm.trans h) (by decide)) λ x y h=>B0 bp bq.1 h⟩
 intro pp hpp hpo
 refine dP (λ K=>∀nA (names:List aw) H',MH.Sub H H'->H' nA=some (.list (names.map .str))->(names=[("mark":aw)]\/names=[("mark":aw),("iif":aw)])->K (.ref nA) H') (λ K k=>?_) ?_
 ·have one:∀d,H6 d=none->K (.ref d) (H6.set d (.list [.str "mark"])):=λ d hd=>k d ["mark"] _ (a7 s6 (s6.none hd)) (MH.set_self _ _ _) (.inl rfl)
  refine rV (λ e=>?_) λ e=>one
  refine kj (b:=decide (q %2=1)) (λ e2=>?_) λ e2=>one
  exact (λ d hd=>k d ["mark","iif"] _ (a7 s6 (s6.none hd)) (MH.set_self _ _ _) (.inr rfl))
 intro nA names H7 s7 hnA hnames
 refine dP (λ K=>∀lA H',MH.Sub H7 H'->H' lA=some (.list ((lits low aA m q aX).map dY.v))->K (.ref lA) H') (λ K k=>?_) ?_
 ·exact bS L9 ⟨hl0,by lia,hbits,bm.1,by lia,bq.1,by lia,λ d hd=>k d _ (bZ hd) (MH.set_self _ _ _)⟩
 intro lA H8 s8 hlA
 refine bx (oC (low:=low) (aA:=aA) (aX:=aX) bm.1 bq.1) λ hls hno=>?_
 generalize lits low aA m q aX=ls at*
 refine dP (λ K=>K (addrV (c %8) low aA m ls names) H8) (λ K k=>?_) ?_
 ·exact bS MC ⟨ls,names,hlA,s8 _ _ hnA,hnames,hls,aR _ (by decide),by lia,hbits,hl0,hl1,bm.1,by lia,k⟩
 refine bN (u:=.int (if c %8=0 then 0 else aA/8)) ?_ ?_
 ·refine kj (b:=decide (c %8=0)) (λ e=>?_) λ e=>?_
  ·exact af (if_pos (of_decide_eq_true e)) ⟨rfl,rfl⟩
  ·exact af (if_neg (of_decide_eq_false e)) ⟨rfl,rfl⟩
 refine eC (λ ρ K=>∀a b aY:Int,0<=a->(a=0/\b=8/\aY=9\/a<=4/\12<=b/\b<=13/\14<=aY/\aY<=15)->K (((ρ.set 22 (some (.int a))).set 23 (some (.int b))).set 24 (some (.int aY))) H8) (λ K k=>?_) ?_
 ·refine kj (b:=decide (r %2=0)) (λ e=>?_) λ e=>?_
  ·exact ⟨rfl,k 0 8 9 (by decide) (.inl ⟨rfl,rfl,rfl⟩)⟩
  ·exact ⟨rfl,k (r/2 %5) (12+r/10 %2) (14+r/20 %2) (aR _ (by decide)) (.inr (by lia))⟩
 intro a b aY a0 hab
 refine dP (λ K=>∀twice:Bool,K (.bool twice) H8) (λ K k=>k _) ?_
 intro twice
 dsimp only [fr86,aC,aD]
 exact kk c low m p q r s (c %8) aA nf _ a b aY nA lA kind aW names aX twice pp _ ls H8 ⟨s7.trans s8,s8 _ _ hnA,hlA,hnames,hls,hno,by lia,hbits,hl0,hl1,bm.1,bs,bc,hported,hpp,hpo,rfl,rfl,a0,hab,hkind,hflags⟩
theorem A_:∀p,U_ p:=bC P_
end vO
theorem vO {k base zs sets H N}:vO.S_ k base zs sets H N:=vO.A_ (k,base,zs,sets,H,N)
theorem Hh:((bH 10).all λ i=>(bH 10).all λ k=>decide ((("n":aw)++dg (i:Int))≠(("s":aw)++dg (k:Int))))=true:=by decide+kernel
theorem Hv:((bH 10).all λ i=>(bH 10).all λ k=>decide (i=k)||decide ((("s":aw)++dg (i:Int))≠(("s":aw)++dg (k:Int))))=true:=by decide+kernel
theorem KV (i0:0<=i) (i1:i<=9) (k0:0<=k) (k1:k<=9):(("n":aw)++dg i)≠(("s":aw)++dg k):=by
 refine bw (bL i0) λ i r1_=>?_
 subst r1_
 refine bw (bL k0) λ k r1_=>?_
 subst r1_
 have:=bt.mp (bt.mp Hh i (ca.mpr (by lia))) k (ca.mpr (by lia))
 exact of_decide_eq_true this
theorem KT (i0:0<=i) (i1:i<=9) (k0:0<=k) (k1:k<=9) (h:i≠k):(("s":aw)++dg i)≠(("s":aw)++dg k):=by
 refine bw (bL i0) λ i r1_=>?_
 subst r1_
 refine bw (bL k0) λ k r1_=>?_
 subst r1_
 have:=bt.mp (bt.mp Hv i (ca.mpr (by lia))) k (ca.mpr (by lia))
 rcases nJ.mp this with e|e
 ·exact absurd (congrArg Int.ofNat (of_decide_eq_true e)) h
 ·exact of_decide_eq_true e
theorem m8 {T:iX} (h:∀n ls,(n,ls)∈T->∃i:Int,0<=i/\i<=9/\n=("s":aw)++dg i):mN T T:=
 ⟨λ Z Z e=>e,λ i i0 i1=>wV.mpr λ p hp=>by
  refine cJ (h p.1 p.2 hp) λ j j0 j1 e=>?_
  rw [e]
  exact bne_iff_ne.mpr (KV i0 i1 j0 j1)⟩
theorem xg {T:iX} (hk:0<=k/\k<=5) (h:∀n ls,(n,ls)∈T->∃i:Int,0<=i/\i<k/\n=("s":aw)++dg i):T.lookup (("s":aw)++dg k)=none:=
 wV.mpr λ p hp=>by
  refine cJ (h p.1 p.2 hp) λ j j0 j1 e=>?_
  rw [e]
  exact bne_iff_ne.mpr (KT ((Br ‹_›)) (by lia) j0 (by lia) (iJ ‹_›))
theorem jB (h:∀u∈us,datV n u=true):datV (n+1) (.tuple us)=true:=bt.mpr h
theorem cQ:datV n (.int i)=true:=by cases n<;>rfl
theorem pa:datV n .none=true:=by cases n<;>rfl
theorem eJ (h:aU (.str s)=true):datV n (.str s)=true:=by cases n<;>exact h
theorem kA (h1:datV n u=true) (h2:datV n v=true):datV (n+1) (.tuple [u,v])=true:=jB λ w hw=>by
 rcases aZ.mp hw with rfl|hw
 ·exact h1
 ·rw [aK] at hw;subst hw;exact h2
theorem fN (h1:datV n u=true) (h2:datV n v=true) (h3:datV n w=true):datV (n+1) (.tuple [u,v,w])=true:=jB λ x hx=>by
 rcases aZ.mp hx with rfl|hx
 ·exact h1
 ·rcases aZ.mp hx with rfl|hx
  ·exact h2
  ·rw [aK] at hx;subst hx;exact h3
theorem Ch {x:dY} (h:aU (.str x.note)=true):datV (n+3) x.v=true:=jB λ u hu=>by
 simp only [aZ,cI,or_false] at hu
 rcases hu with rfl|rfl|rfl|rfl
 ·refine jB (n:=n+1) λ u hu=>?_
  rw [aK] at hu;subst hu
  exact kA cQ cQ
 ·refine jB (n:=n+1) λ u hu=>(aL (bE.mp hu) λ i Z r1_=>?_)
  subst r1_
  exact cQ
 ·exact cQ
 ·exact eJ h
theorem Aa (h:∀x∈ls,aU (.str x.note)=true):datV (n+4) (litsV ls)=true:=jB (n:=n+3) λ u hu=>by
 refine aL (bE.mp hu) λ x hx r1_=>?_
 subst r1_
 exact Ch (h x hx)
theorem CL (hn:names=[("mark":aw)]\/names=[("mark":aw),("iif":aw)]) (h:∀x∈ls,aU (.str x.note)=true) (m0:0<=m):datV 11 (addrV a9 low aA m ls names)=true:=by
 have hs:aU (.str ("span":aw))=true:=by decide+kernel
 have hnet:aU (.str ("net":aw))=true:=by decide+kernel
 have hmap:aU (.str ("map":aw))=true:=by decide+kernel
 have href:aU (.str ("ref":aw))=true:=by decide+kernel
 have hkey:datV 10 (keyOf names)=true:=by rcases hn with rfl|rfl<;>decide+kernel
 unfold addrV
 split
 ·exact pa
 split
 ·exact fN (eJ hs) cQ cQ
 split
 ·exact fN (eJ hs) cQ cQ
 split
 ·exact fN (eJ hnet) cQ cQ
 split
 ·exact fN (eJ hmap) hkey (kA (eJ hmap) (Aa (n:=5) λ x hx=>h x ((jn _).mp hx)))
 ·refine fN (eJ hmap) hkey (kA (eJ href) (eJ ?_))
  exact rQ (P:=λ s=>aU (.str (("n":aw)++s))=true) (by decide+kernel) (aR _ (by decide)) (bJ (aN _ (by decide)))
theorem AE (h:datV 11 v=true):datV 11 (addr2 a9 low aA m v)=true:=by
 have hs:aU (.str ("span":aw))=true:=by decide+kernel
 have hnet:aU (.str ("net":aw))=true:=by decide+kernel
 unfold addr2
 split
 ·exact fN (eJ hs) cQ cQ
 split
 ·exact fN (eJ hnet) cQ cQ
 ·exact h
theorem AW (h:kind∈kinds):aU (.str kind)=true:=by
 have:kinds.all (λ k=>aU (.str k))=true:=by decide+kernel
 exact bt.mp this kind h
theorem Ah (h:aW∈flagss):datV 11 (.tuple (aW.map .str))=true:=by
 have:flagss.all (λ k=>datV 11 (.tuple (k.map .str)))=true:=by decide+kernel
 exact bt.mp this aW h
theorem ul (hk:kind∈kinds) (hf:aW∈flagss) (h:datV 11 va=true):datV 12 (natSt (.str kind) (.int nf) va p aW)=true:=jB (n:=11) λ u hu=>by
 have hs:aU (.str ("nat":aw))=true:=by decide+kernel
 simp only [aZ,cI,or_false] at hu
 rcases hu with rfl|rfl|rfl|rfl|rfl|rfl
 ·exact eJ hs
 ·exact eJ (AW hk)
 ·exact cQ
 ·exact h
 ·cases p with
  |none=>exact pa
  |some p=>exact kA cQ cQ
 ·exact Ah hf
noncomputable def toldOf (a9 s:Int) (aW:List aw):List aw:=if a9=3 then aW.take (s/8 %3).toNat++[("netmap":aw)]++aW.drop (s/8 %3).toNat else aW
theorem yQ (h:aW∈flagss):qY aW (toldOf a9 s aW) (decide (a9=3)):=by
 have nm:∀x∈aW,x≠("netmap":aw):=by
  have:flagss.all (λ f=>f.all λ x=>decide (x≠("netmap":aw)))=true:=by decide
  exact λ x hx=>of_decide_eq_true (bt.mp (bt.mp this aW h) x hx)
 have hl:aW.length<=2:=by
  have:flagss.all (λ f=>decide (f.length<=2))=true:=by decide
  exact of_decide_eq_true (bt.mp this aW h)
 have ff:aW.filter (·≠("netmap":aw))=aW:=List.filter_eq_self.mpr λ x hx=>decide_eq_true (nm x hx)
 unfold toldOf qY
 split
 ·rename_i e
  refine ⟨?_,?_,?_⟩
  ·refine af (oU _ _) (af (oU _ _) ?_)
   have:([("netmap":aw)].filter (·≠("netmap":aw)))=[]:=by decide
   refine af this (af (d5 _) (af (iP (oU _ _)) (af (dA _ _) ?_)));exact ff
  ·simp only [az,bU,eq,aQ,fK];(refine af (km _ _ _) (af ((Nat.add_comm (min _ _)) _) (af (Nat.min_comm _ _) (af (yi _ _) ?_))));exact cw hl
  ·(refine af (decide_eq_true e) ?_;rw [decide_eq_true])
   simp only [az,bU,eq,aQ,fK];exact EL _ _
 ·rename_i e
  exact ⟨ff,cL ‹_›,by (exact af (decide_eq_false e) (af (decide_eq_false (eY _)) rfl))⟩
theorem FO (h0:0<=n) (h1:n<=1000):cutV us (.int n) .none=some (us.drop n.toNat):=congrArg (λ b=>cond b (some (us.drop n.toNat)) none) (decide_eq_true ⟨h0,dL h1 (by decide)⟩)
theorem Fz (h0:0<=n) (h1:n<=1000):cutV us .none (.int n)=some (us.take n.toNat):=congrArg (λ b=>cond b (some (us.take n.toNat)) none) (decide_eq_true ⟨h0,dL h1 (by decide)⟩)
theorem G3 (h1:ρ.at i=some (.ref a)) (h2:ρ.at j=some (.int n)) (n0:0<=n) (n1:n<=1000) (e:H a=some (.list us)) (hl:us.length<=1000)
  (k:∀c,H c=none->Q (.ref c) (H.set c (.list (us.drop n.toNat)))):wpE tb0 lv false (.slc (.loc i) (some (.loc j)) none) ρ H Q X:=by
 exact ji h1 (ji h2 (kQ e (qT (FO n0 n1) ⟨by simp only [bG];exact ao ‹_› (by decide),k⟩)))
theorem Hz (h1:ρ.at i=some (.ref a)) (h2:ρ.at j=some (.int n)) (n0:0<=n) (n1:n<=1000) (e:H a=some (.list us)) (hl:us.length<=1000)
  (k:∀c,H c=none->Q (.ref c) (H.set c (.list (us.take n.toNat)))):wpE tb0 lv false (.slc (.loc i) none (some (.loc j))) ρ H Q X:=by
 exact ji h1 (ji h2 (kQ e (qT (Fz n0 n1) ⟨by simp only [bG];exact ao ‹_› (by decide),k⟩)))
theorem GK (h1:ρ.at i=some (.tuple us)) (h2:wpE tb0 lv false lo ρ H (λ v H'=>v=.int n/\H'=H) X) (n0:0<=n) (n1:n<=1000) (hl:us.length<=1000)
  (k:Q (.tuple (us.drop n.toNat)) H):wpE tb0 lv false (.slc (.loc i) (some lo) none) ρ H Q X:=by
 refine ji h1 (bj lU lv lo ?_ (λ Z Z z=>z) h2)
 rintro _ _ ⟨rfl,rfl⟩
 exact qT (FO n0 n1) ⟨by simp only [bG];exact ao ‹_› (by decide),k⟩
theorem Hg (h1:ρ.at i=some (.tuple us)) (h2:wpE tb0 lv false lo ρ H (λ v H'=>v=.int n/\H'=H) X) (n0:0<=n) (n1:n<=1000) (hl:us.length<=1000)
  (k:Q (.tuple (us.take n.toNat)) H):wpE tb0 lv false (.slc (.loc i) none (some lo)) ρ H Q X:=by
 refine ji h1 (bj lU lv lo ?_ (λ Z Z z=>z) h2)
 rintro _ _ ⟨rfl,rfl⟩
 exact qT (Fz n0 n1) ⟨by simp only [bG];lia,k⟩
section
variable {k c low m p q r s a9 aA nf size a b aY:Int}
theorem KL {OK:iX->Prop}
  (hG:H1 G=some (.list vs)) (hvs:GroupsAt H1 vs gs) (hP:H1 P=some (.list [.int r3,.int r4])) (hM:H1 M=some (.list [.int r6,.int r7])) (hlen:gs.length<=2)
  (hB:∀T2 order,OK T2->Bring1 T2 order gs b aY r3 r4 r6 r7 size net va va2) (hpo:∀x y,pp=some (x,y)->eE x 2/\eE y 2) (a0:0<=a) (hab:a=0/\b=8/\aY=9\/a<=4/\12<=b/\b<=13/\14<=aY/\aY<=15)
  (kk:∀(H':MH) (G M:aI) (vs:List V) (gs:List (List V)) (r6 r7:Int) (xw:Option V),H' G=some (.list vs)->GroupsAt H' vs gs->H' P=some (.list [.int r3,.int r4])->H' M=some (.list [.int r6,.int r7])->MH.Sub H1 H'->
   (∀T2 order,OK T2->vy T2 order gs r3 r4 r6 r7 size net va va2 pp)->N (fr86 k base zs sets c low m p q r s a9 aA kind nf aW aX pp nA lA jC size a b aY twice (some (.ref G)) (some (.ref P)) (some (.ref M)) wK wg mw wL vL xw none none none none) H'):
  wpSs tb0 6 d86c (fr86 k base zs sets c low m p q r s a9 aA kind nf aW aX pp nA lA jC size a b aY twice (some (.ref G)) (some (.ref P)) (some (.ref M)) wK wg mw wL vL none none none none none) H1 N R X:=by
 cases pp with
 |none=>
  exact bB false ⟨rfl,rfl⟩ (λ z=>aM z) λ Z=>(kk H1 G M vs gs r6 r7 none hG hvs hP hM (.refl) λ T2 order h=>sJ (hB T2 order h))
 |some xy=>
  obtain ⟨x,y⟩:=xy
  refine bx (hpo x y rfl) λ ox oy=>(bB true ⟨rfl,rfl⟩ (λ Z=>?_) (λ z=>aM z))
  refine eC (λ ρ K=>∀p2 b2 vs2 H',MH.Sub H1 H'->H' p2=some (.list vs2)->GroupsAt H' vs2 (pairGs b aY x y 2 twice)->H' b2=some (.list (pairRegs b aY x y twice))->K ((ρ.set 34 (some (.ref p2))).set 28 (some (.ref b2))) H') (λ K k=>?_) ?_
  ·exact bS Kj ⟨ox.1,oy.1,by decide,by decide,λ p2 b2 vs2 H' h1 h2 h3 h4 h5 h6=>⟨rfl,k p2 b2 vs2 H' h4 h1 h2 h3⟩⟩
  intro p2 b2 vs2 H2 s2 h1 h2 h3
  dsimp only [fr86,aC,aD]
  have hG2:=s2 _ _ hG
  have hl1:=hvs.len
  have hl2:=h2.len
  have hl3:(pairGs b aY x y 2 twice).length<=2:=by unfold pairGs;split<;>simp
  refine qx hG2 h1 (by simp only [bG];lia) λ W hW=>?_
  have s3:=bZ (o:=.list (vs++vs2)) hW
  rw [pZ] at h3
  exact kk _ W b2 (vs++vs2) (gs++pairGs b aY x y 2 twice) b _ _ (MH.set_self _ _ _) (GroupsAt.app (hvs.sub (s2.trans s3)) (h2.sub s3)) (s3 _ _ (s2 _ _ hP)) (s3 _ _ h3) (s2.trans s3) λ T2 order h=>wA (hB T2 order h) (by lia) (by lia) (by lia) ox oy
theorem I9
  (hG:H1 G=some (.list vs)) (hvs:GroupsAt H1 vs gs) (hlen:gs.length<=4) (hrow:∀g∈gs,g.length<=3) (s0:0<=s)
  (kk:∀(H':MH) (W:aI) (n:Nat) (mw DT:Option V),H' W=some (.list (turned gs n))->H1 W=none->MH.Sub H1 H'->N (fr86 k base zs sets c low m p q r s a9 aA kind nf aW aX pp nA lA jC size a b aY twice (some (.ref G)) (some (.ref P)) (some (.ref M)) wK wg mw wL vL xw DT (some (.ref W)) none none) H'):
  wpSs tb0 6 d86d (fr86 k base zs sets c low m p q r s a9 aA kind nf aW aX pp nA lA jC size a b aY twice (some (.ref G)) (some (.ref P)) (some (.ref M)) wK wg mw wL vL xw none none none none) H1 N R X:=by
 have hl:=hvs.len
 refine dP (λ K=>∀n:Nat,n<=1000->K (.int (n:Int)) H1) (λ K k=>?_) ?_
 ·have h1:0<max (1:Int) (vs.length:Int):=by lia
  refine kF hG (by lia) (pK (decide_eq_true h1) ?_)
  have h2:=aR s (show max (1:Int) (vs.length:Int)≠0 by lia)
  have h3:=aN s h1
  have:=k (s %max (1:Int) (vs.length:Int)).toNat (K0 h3 (hl▸hlen))
  rw [jL h2] at this
  exact this
 intro n hn
 dsimp only [fr86,aC,aD]
 refine dP (λ K=>∀W,H1 W=none->K (.ref W) (H1.set W (.list []))) (λ K k=>k) ?_
 intro W hW
 dsimp only [fr86,aC,aD]
 have sW:=bZ (o:=.list []) hW
 have hG2:=sW _ _ hG
 refine IY (λ K=>∀Y H',(H1.set W (.list [])) Y=none->H' Y=some (.list (vs.drop n++vs.take n))->MH.Sub (H1.set W (.list [])) (H'.del Y)->K (.ref Y) H') (λ K k=>?_) ?_
 ·show wpE tb0 6 false (.slc _ _ _) _ _ (λ u H1=>wpE tb0 6 false (.slc _ _ _) _ H1 (λ v H2=>binV .Add u v H2 _) _) _
  refine G3 (n:=(n:Int)) (us:=vs) rfl rfl (aT _) (by lia) hG2 (by lia) λ A hA=>?_
  have hG3:=(bZ (o:=.list (vs.drop (n:Int).toNat)) hA) _ _ hG2
  refine Hz (n:=(n:Int)) (us:=vs) rfl rfl (aT _) (by lia) hG3 (by lia) λ B hB=>?_
  rw [cK] at*
  refine bx (bY hB) λ nB hB'=>(qx ((MH.set_ne _ _ nB.symm).trans (MH.set_self _ _ _)) (MH.set_self _ _ _) (by simp only [bG,eq,bU];exact Hu n (hl▸hlen)) λ Y hY=>(bx (bY hY) λ nY hY'=>(bx (bY hY') λ nY2 hY''=>(k Y _ hY'' (MH.set_self _ _ _) λ z o e=>?_))))
  have n1:z≠Y:=cH e hY'' b7
  have n2:z≠B:=cH e hB' b7
  have n3:z≠A:=cH e hA b7
  refine af (MH.del_ne _ n1) (af (MH.set_ne _ _ n1) (af (MH.set_ne _ _ n2) (af (MH.set_ne _ _ n3) ?_)));exact e
 intro Y H2 hY0 hY s2
 have hrot:GroupsAt (H2.del Y) (vs.drop n++vs.take n) (gs.drop n++gs.take n):=GroupsAt.app ((hvs.sub (sW.trans s2)).drop n) ((hvs.sub (sW.trans s2)).take n)
 have hlr:(gs.drop n++gs.take n).length<=4:=by (refine af az (af eq (af bU (af (Nat.min_comm _ _) (af (yi _ _) ?_)))));exact hlen
 have hrr:∀g∈gs.drop n++gs.take n,g.length<=3:=λ g hg=>by
  rcases cv.mp hg with h|h
  ·exact hrow g (List.mem_of_mem_drop h)
  ·exact hrow g (mU h)
 have hfl:∀i,(((gs.drop n++gs.take n).take i).flatten).length<=12:=λ i=>by
  have:=vp (L:=(gs.drop n++gs.take n).take i) λ g hg=>hrr g (mU hg)
  rw [bU] at this
  lia
 have hY1:H1 Y=none:=(bY hY0).2
 refine CG (λ i K=>∀Wi mw H',H' Wi=some (.list ((gs.drop n++gs.take n).take i).flatten)->MH.Sub (H2.del Y) H'->H1 Wi=none->K (fr86 k base zs sets c low m p q r s a9 aA kind nf aW aX pp nA lA jC size a b aY twice (some (.ref G)) (some (.ref P)) (some (.ref M)) wK wg mw wL vL xw (some (.int (n:Int))) (some (.ref Wi)) none none) H') (l7 hY) ?_ ?_ ?_
 ·exact λ K k=>k W mw _ (s2 _ _ (MH.set_self _ _ _)) .refl hW
 ·intro i v N' e k' Wi mw H3 h3 s3 hWi
  refine cu (hrot.get e) λ ga g r1_ hg hga=>?_
  subst r1_
  have hga3:=s3 _ _ hga
  have hgl:=hrr g (a6 hg)
  have:=hfl i
  refine qx h3 hga3 (by simp only [bG];lia) (λ Z hZ=>k' _ _ λ K k=>k Z _ _ ?_ (s3.trans (bZ hZ)) ((sW.trans (s2.trans s3)).none hZ))
  refine af (MH.set_self _ _ _) (af dp (af hg (af List.flatten_append ?_)))
  simp
 ·intro Wi mw H4 h4 s4 hWi hYn
  have hYn:=hYn Y rfl
  have ne:Wi≠Y:=cH h4 hYn b7
  have hlen2:(vs.drop n++vs.take n).length=(gs.drop n++gs.take n).length:=by simp only [az,eq,bU,hl]
  rw [hlen2,c8] at h4
  refine af (lQ hY) ?_
  exact kk _ Wi n _ _ (by exact af (MH.set_ne _ _ ne) h4) hWi (a7 (sW.trans (s2.trans s4)) hY1)
end
theorem No (q:Q (.tuple [.str s]) H):wpE tb0 lv false (.tup [.str s]) ρ H Q X:=q
theorem map_take {α β:Type} {f:α->β} (l:List α) (n:Nat):(l.map f).take n=(l.take n).map f:=(jh ..).symm
section
variable {k c low m p q r s a9 aA nf size a b aY:Int}
end
namespace Cc
def S_ (k c low m p q r s a9 aA nf size a b aY base zs sets nA lA kind aW aX twice pp jC N Q X H1 G P M W rows r3 r4 r6 r7 wK wg mw wL vL xw DT):=∀(names:List aw) (ls:List dY) (hW:H1 W=some (bK.list rows)) (hWl:rows.length<=100) (hP:H1 P=some (bK.list [V.int r3,V.int r4])) (hM:H1 M=some (bK.list [V.int r6,V.int r7])) (nWP:W≠P) (hfl:aW∈flagss) (ha:jC=addrV a9 low aA m ls names) (hq1:∀(D:aI) (H':MH),H1 D=none->H' W=some (bK.list (rows++[natRow (V.str kind) (V.int nf) r3 r4 size r6 r7 (toldOf a9 s aW)]))->H' D=some (bK.list (a8 stV [(↑rows.length,natSt (V.str kind) (V.int nf) jC pp aW)]))->(∀(x:aI),x≠W->x≠D->H1 x≠none->H' x=H1 x)->Fg Q (V.tuple [V.ref W,V.ref D]) H') (hq2:∀(D:aI) (H':MH),H1 D=none->H' W=some (bK.list (rows++[natRow (V.str kind) (V.int nf) r3 r4 size r6 r7 (toldOf a9 s aW)]++[natRow (V.str (aa "dnat")) (V.int nf) r3 r3 size (-1) (-1) (toldOf a9 s aW)]))->H' D=some (bK.list (a8 stV [(↑rows.length,natSt (V.str kind) (V.int nf) jC pp aW),(↑rows.length+1,natSt (V.str (aa "dnat")) (V.int nf) (addr2 a9 low aA m jC) none aW)]))->(∀(x:aI),x≠W->x≠D->H1 x≠none->H' x=H1 x)->Fg Q (V.tuple [V.ref W,V.ref D]) H'),wpSs tb0 6 d86e (fr86 k base zs sets c low m p q r s a9 aA kind nf aW aX pp nA lA jC size a b aY twice (some (.ref G)) (some (.ref P)) (some (.ref M)) wK wg mw wL vL xw DT (some (.ref W)) none none) H1 N (Fg Q) X
def U_:=UV λ k c low=>UV λ m p q=>UV λ r s a9=>UV λ aA nf size=>UV λ a b aY=>UV λ base zs sets=>UV λ nA lA kind=>UV λ aW aX twice=>UV λ pp jC N=>UV λ Q X H1=>UV λ G P M=>UV λ W rows r3=>UV λ r4 r6 r7=>UV λ wK wg mw=>UV λ wL vL xw=>S_ k c low m p q r s a9 aA nf size a b aY base zs sets nA lA kind aW aX twice pp jC N Q X H1 G P M W rows r3 r4 r6 r7 wK wg mw wL vL xw
def t_:=dr (by infer_instance) U_
def k:=t_.1
def c:=t_.2.1
def low:=t_.2.2.1
def m:=t_.2.2.2.1
def p:=t_.2.2.2.2.1
def q:=t_.2.2.2.2.2.1
def s1_:=t_.2.2.2.2.2.2
def r:=s1_.1
def s:=s1_.2.1
def a9:=s1_.2.2.1
def aA:=s1_.2.2.2.1
def nf:=s1_.2.2.2.2.1
def size:=s1_.2.2.2.2.2.1
def s2_:=s1_.2.2.2.2.2.2
def a:=s2_.1
def b:=s2_.2.1
def aY:=s2_.2.2.1
def base:=s2_.2.2.2.1
def zs:=s2_.2.2.2.2.1
def sets:=s2_.2.2.2.2.2.1
def s3_:=s2_.2.2.2.2.2.2
def nA:=s3_.1
def lA:=s3_.2.1
def kind:=s3_.2.2.1
def aW:=s3_.2.2.2.1
def aX:=s3_.2.2.2.2.1
def twice:=s3_.2.2.2.2.2.1
def s4_:=s3_.2.2.2.2.2.2
def pp:=s4_.1
def jC:=s4_.2.1
def N:=s4_.2.2.1
def Q:=s4_.2.2.2.1
def X:=s4_.2.2.2.2.1
def H1:=s4_.2.2.2.2.2.1
def s5_:=s4_.2.2.2.2.2.2
def G:=s5_.1
def P:=s5_.2.1
def M:=s5_.2.2.1
def W:=s5_.2.2.2.1
def rows:=s5_.2.2.2.2.1
def r3:=s5_.2.2.2.2.2.1
def s6_:=s5_.2.2.2.2.2.2
def r4:=s6_.1
def r6:=s6_.2.1
def r7:=s6_.2.2.1
def wK:=s6_.2.2.2.1
def wg:=s6_.2.2.2.2.1
def mw:=s6_.2.2.2.2.2.1
def s7_:=s6_.2.2.2.2.2.2
def wL:=s7_.1
def vL:=s7_.2.1
def xw:=s7_.2.2.1
def DT:=s7_.2.2.2
theorem P_:S_ k c low m p q r s a9 aA nf size a b aY base zs sets nA lA kind aW aX twice pp jC N Q X H1 G P M W rows r3 r4 r6 r7 wK wg mw wL vL xw DT:=by
 intro names ls hW hWl hP hM nWP hfl ha hq1 hq2
 have hfl2:aW.length<=2:=by
  have:flagss.all (λ f=>decide (f.length<=2))=true:=by decide
  exact of_decide_eq_true (bt.mp this aW hfl)
 refine bN (u:=.tuple (aW.map .str)) ⟨rfl,rfl⟩ ?_
 simp only [fr86,aC,aD]
 refine eC (λ ρ K=>K (ρ.set 37 (some (.tuple ((toldOf a9 s aW).map .str)))) H1) (λ K k=>?_) ?_
 ·show wpSs tb0 6 [_] _ _ _ _ _
  refine bB (decide (a9=3)) ⟨rfl,rfl⟩ (λ e=>?_) (λ e=>?_)
  ·have hj:0<=s/8 %3/\s/8 %3<=2:=⟨aR _ (by decide),bJ (aN _ (by decide))⟩
   refine dP (λ K=>K (.tuple ((toldOf a9 s aW).map .str)) H1) (λ K k=>?_) k
   ·show wpE tb0 6 false (.bin .Add _ _) _ _ (λ u H1=>wpE tb0 6 false (.slc _ _ _) _ H1 (λ v H2=>binV .Add u v H2 _) _) _
    show wpE tb0 6 false (.slc _ _ _) _ _ (λ u H1=>wpE tb0 6 false (.tup _) _ H1 (λ v H2=>binV .Add u v H2 _) _) _
    refine Hg (n:=s/8 %3) (us:=aW.map .str) rfl ?_ (aR _ (by decide)) (by lia) (by refine af (ag _) ?_;exact ao ‹_› (by decide)) ?_
    ·exact ⟨rfl,rfl⟩
    refine No (aj (by simp only [bU,ag,aQ,fK,bG];exact Hn _ (ao hfl2 (by decide))) ?_)
    show wpE tb0 6 false (.slc _ _ _) _ _ (λ v H2=>binV .Add _ v H2 _) _
    refine GK (n:=s/8 %3) (us:=aW.map .str) rfl ?_ (aR _ (by decide)) (by lia) (by refine af (ag _) ?_;exact ao ‹_› (by decide)) ?_
    ·exact ⟨rfl,rfl⟩
    refine aj (by simp only [az,eq,bU,ag,aQ,fK,bG];exact Kk _ (ao hfl2 (by decide))) ?_
    have ht:(toldOf a9 s aW).map V.str=(aW.map V.str).take (s/8 %3).toNat++[V.str "netmap"]++(aW.map V.str).drop (s/8 %3).toNat:=by
     unfold toldOf
     refine af (if_pos (of_decide_eq_true e)) (af bh (af bh (af jh (af oL ?_))));rfl
    rw [ht] at k
    exact k
  ·have ht:toldOf a9 s aW=aW:=if_neg (of_decide_eq_false e)
   rw [ht] at k
   exact k
 dsimp only [fr86,aC,aD]
 generalize toldOf a9 s aW=told at*
 have vt:∀{x:aI} {o:bK},H1 x=some o->∀{D},H1 D=none->x≠D:=λ h D hD z=>by rw [z,hD] at h;exact bF h
 have p0:lK [V.int r3,V.int r4] (kc 0) V.none=.int r3:=rfl
 have p1:lK [V.int r3,V.int r4] (kc 1) V.none=.int r4:=rfl
 have m0:lK [V.int r6,V.int r7] (kc 0) V.none=.int r6:=rfl
 have m1:lK [V.int r6,V.int r7] (kc 1) V.none=.int r7:=rfl
 refine eC (λ ρ K=>K ρ (H1.set W (.list (rows++[natRow (.str kind) (.int nf) r3 r4 size r6 r7 told])))) (λ K k=>?_) ?_
 ·show wpE _ _ _ _ _ _ _ _
  refine jD rfl (mM (by assumption)) (cZ (by assumption) rfl (cZ (by assumption) rfl (cZ (by assumption) rfl (cZ (by assumption) rfl (fZ _ (aj (by assumption) ?_))))))
  exact aj (ao ‹_› (by decide)) (aj rfl k)
 have hlen:((rows++[natRow (.str kind) (.int nf) r3 r4 size r6 r7 told]).length:Int) -1=rows.length:=by (refine af az (af aV ?_));lia
 have hlen2:(rows++[natRow (.str kind) (.int nf) r3 r4 size r6 r7 told]).length<=101:=by (refine af az (af aV ?_));exact cw ‹_›
 refine dP (λ K=>∀D H',H1 D=none->H' W=some (.list (rows++[natRow (.str kind) (.int nf) r3 r4 size r6 r7 told]))->H' D=some (.list ([((rows.length:Int),natSt (.str kind) (.int nf) jC pp aW)].map stV))->(∀x,x≠W->x≠D->H' x=H1 x)->K (.ref D) H') (λ K k=>?_) ?_
 ·refine kF (MH.set_self _ _ _) (ao ‹_› (by decide)) ?_
  refine λ D hD=>k D _ (bY hD).2 ?_ (by refine af hlen.symm ?_;exact MH.set_self _ _ _) λ x h1 h2=>(MH.set_ne _ _ h2).trans (MH.set_ne _ _ h1)
  exact af (MH.set_ne _ _ (vt hW (bY hD).2)) (af (MH.set_self _ _ _) rfl)
 intro D H2 hD gW gD gO
 dsimp only [fr86,aC,aD]
 have nWD:W≠D:=vt hW hD
 refine bB (decide (c/256 %2=1)) ⟨rfl,rfl⟩ (λ e=>?_) (λ e=>?_)
 ·refine eC (λ ρ K=>K (ρ.set 20 (some (if a9=2 then .tuple [.str "span",.int low,.int low] else jC))) H2) (λ K k=>?_) ?_
  ·show wpSs tb0 6 [_] _ _ _ _ _
   refine bB (decide (a9=2)) ⟨rfl,rfl⟩ (λ e=>?_) (λ e=>?_)
   ·rw [if_pos (of_decide_eq_true e)] at k;exact k
   ·rw [if_neg (of_decide_eq_false e)] at k;exact k
  dsimp only [fr86,aC,aD]
  refine eC (λ ρ K=>K (ρ.set 20 (some (addr2 a9 low aA m jC))) H2) (λ K k=>?_) ?_
  ·show wpSs tb0 6 [_] _ _ _ _ _
   refine bB (decide (a9=3)) ⟨rfl,rfl⟩ (λ e=>?_) (λ e=>?_)
   ·have e:=of_decide_eq_true e
    have hadr:(if a9=2 then V.tuple [.str "span",.int low,.int low] else jC)=.tuple [.str "net",.int (low/wideB aA m*wideB aA m),.int (m %(aA+1))]:=by
     refine af (if_neg (by lia)) (af ha (af e ?_));rfl
    have g1:lK [V.str (aa "net"),V.int (low/wideB aA m*wideB aA m),.int (m %(aA+1))] (kc 1) V.none=.int (low/wideB aA m*wideB aA m):=rfl
    refine af hadr ?_
    have ht:addr2 a9 low aA m jC=.tuple [.str "net",.int (low/wideB aA m*wideB aA m),.int aA]:=(if_neg (by lia)).trans (if_pos e)
    rw [ht] at k
    exact k
   ·have ht:addr2 a9 low aA m jC=(if a9=2 then .tuple [.str "span",.int low,.int low] else jC):=by
     unfold addr2
     exact af (if_neg (of_decide_eq_false e)) rfl
    rw [ht] at k
    exact k
  dsimp only [fr86,aC,aD]
  have gP:H2 P=some (.list [.int r3,.int r4]):=(gO P nWP.symm (vt hP hD)).trans hP
  refine eC (λ ρ K=>∀H3,H3 W=some (.list (rows++[natRow (.str kind) (.int nf) r3 r4 size r6 r7 told]++[natRow (.str "dnat") (.int nf) r3 r3 size (-1) (-1) told]))->(∀x,x≠W->H3 x=H2 x)->K ρ H3) (λ K k=>?_) ?_
  ·show wpE _ _ _ _ _ _ _ _
   refine jD rfl (mM (by assumption)) (cZ (by assumption) rfl (cZ (by assumption) rfl (fZ _ (aj (by assumption) ?_))))
   exact aj (ao ‹_› (by decide)) (aj rfl (k _ (MH.set_self _ _ _) λ x h=>MH.set_ne _ _ h))
  intro H3 iW iO
  have hlen3:((rows++[natRow (.str kind) (.int nf) r3 r4 size r6 r7 told]++[natRow (.str "dnat") (.int nf) r3 r3 size (-1) (-1) told]).length:Int) -1=(rows.length:Int)+1:=by rw [az,az,aV,aV];lia
  have hlen4:(rows++[natRow (.str kind) (.int nf) r3 r4 size r6 r7 told]++[natRow (.str "dnat") (.int nf) r3 r3 size (-1) (-1) told]).length<=102:=by rw [az,az,aV,aV];lia
  have iD:H3 D=some (.list ([((rows.length:Int),natSt (.str kind) (.int nf) jC pp aW)].map stV)):=(iO D nWD.symm).trans gD
  generalize (rows++[natRow (.str kind) (.int nf) r3 r4 size r6 r7 told]++[natRow (.str "dnat") (.int nf) r3 r3 size (-1) (-1) told])=rows2 at*
  show wpE _ _ _ _ _ _ _ _
  refine jD rfl (mM (by assumption)) (kF (by assumption) (ao ‹_› (by decide)) (fZ _ (aj (by assumption) ?_)))
  refine aj (of_decide_eq_true rfl) (aj rfl (hq2 D _ hD ?_ (by (refine af (MH.set_self _ _ _) (af hlen3.symm ?_));rfl) λ x h1 h2 h3=>?_))
  ·exact af (MH.set_ne _ _ nWD) iW
  ·refine af (MH.set_ne _ _ h2) (af (iO x h1) ?_);exact gO x h1 h2
 ·exact hq1 D _ hD gW gD λ x h1 h2 h3=>gO x h1 h2
theorem A_:∀p,U_ p:=bC P_
end Cc
section
variable {k c low m p q r s a9 aA nf size a b aY:Int}
theorem JT
  (hW:H1 W=some (.list rows)) (hWl:rows.length<=100) (hP:H1 P=some (.list [.int r3,.int r4])) (hM:H1 M=some (.list [.int r6,.int r7])) (nWP:W≠P) (nWM:W≠M) (hfl:aW∈flagss) (s0:0<=s) (c0:0<=c)
  (ha:jC=addrV a9 low aA m ls names)
  (hq1:∀D H',H1 D=none->H' W=some (.list (rows++[natRow (.str kind) (.int nf) r3 r4 size r6 r7 (toldOf a9 s aW)]))->H' D=some (.list ([((rows.length:Int),natSt (.str kind) (.int nf) jC pp aW)].map stV))->(∀x,x≠W->x≠D->H1 x≠none->H' x=H1 x)->Fg Q (.tuple [.ref W,.ref D]) H')
  (hq2:∀D H',H1 D=none->H' W=some (.list (rows++[natRow (.str kind) (.int nf) r3 r4 size r6 r7 (toldOf a9 s aW)]++[natRow (.str "dnat") (.int nf) r3 r3 size (-1) (-1) (toldOf a9 s aW)]))->H' D=some (.list ([((rows.length:Int),natSt (.str kind) (.int nf) jC pp aW),((rows.length:Int)+1,natSt (.str "dnat") (.int nf) (addr2 a9 low aA m jC) none aW)].map stV))->(∀x,x≠W->x≠D->H1 x≠none->H' x=H1 x)->Fg Q (.tuple [.ref W,.ref D]) H'):
  wpSs tb0 6 d86e (fr86 k base zs sets c low m p q r s a9 aA kind nf aW aX pp nA lA jC size a b aY twice (some (.ref G)) (some (.ref P)) (some (.ref M)) wK wg mw wL vL xw DT (some (.ref W)) none none) H1 N (Fg Q) X:=by
 exact Cc.A_ (k,c,low,m,p,q,r,s,a9,aA,nf,size,a,b,aY,base,zs,sets,nA,lA,kind,aW,aX,twice,pp,jC,N,Q,X,H1,G,P,M,W,rows,r3,r4,r6,r7,wK,wg,mw,wL,vL,xw,DT) names ls hW hWl hP hM nWP hfl ha hq1 hq2
end
theorem Mk:VC C3 6 ps86 nm86 [] c86:=by
 intro us H Q X h
 refine IH (λ k bs l sets h=>?_) h
 ·skip
  refine uf h λ base zs T r1_ hl hb r2_ t3_=>(Dr t3_ λ hz k0 k1 hT hTl hTn t4_=>(bx t4_ λ h6 q=>?_))
  clear h t3_ t4_
  subst r1_
  subst r2_
  refine ⟨rfl,?_⟩
  show wpSs tb0 6 (d86a++(d86b++(d86c++(d86d++d86e)))) [some (.int k),some (.tuple (base.map .int)),some (.flist (zs.map .int)),some (.ref sets),none,none,none,none,none,none,none,none,none,none,none,none,none,none,none,none,none,none,none,none,none,none,none,none,none,none,none,none,none,none,none,none,none,none,none] H _ _ _
  have hfn:=xg ⟨k0,k1⟩ hTn
  refine kL (vO hl hb hz ⟨k0,k1⟩ h6 λ c low m p qq r s a9 aA nf size a b aY nA lA kind aW names aX twice pp jC ls H1 hA=>?_)
  refine kL (vb ⟨k0,k1⟩ (hT.sub hA.sub) hTl hfn hA.hnA hA.hlA hA.hn hA.hls hA.hf hA.hb hA.l0 hA.l1 hA.m0 hA.hp hA.ha hA.hs hA.a0 hA.hab λ H2 G P M vs gs T' r3 r4 r6 r7 wK wg mw wL vL hG hvs hP hM hT' hs2 hT'' hK hB=>?_)
  have hT'n:∀n ls,(n,ls)∈T'->∃i:Int,0<=i/\i<=9/\n=("s":aw)++dg i:=by
   intro n ls hn
   rcases hT'' with rfl|⟨l2,rfl⟩
   ·exact cJ (hTn n ls hn) λ i i0 i1 e=>⟨i,i0,by lia,e⟩
   ·rcases cv.mp hn with hn|hn
    ·exact cJ (hTn n ls hn) λ i i0 i1 e=>⟨i,i0,by lia,e⟩
    ·rw [aK] at hn;cases hn
     exact ⟨k,k0,eU ‹_› (by decide),rfl⟩
  have gself:=m8 hT'n
  have hglen:gs.length<=2:=by
   refine fy (hB T' "big" gself) λ L r1_ Z Z t2_=>(bx t2_ λ h Z=>?_)
   clear t2_
   subst r1_
   exact af (ag _) h
  refine kL (KL (OK:=mN T') hG hvs hP hM hglen hB hA.hpo hA.a0 hA.hab λ H3 G M vs gs r6 r7 xw hG hvs hP hM hs3 hB=>?_)
  obtain ⟨hglen,hgrow⟩:gs.length<=4/\∀g∈gs,g.length<=3:=by
   refine fy ((hB T' "big" gself).some_) λ L r1_ h1 Z t2_=>(bx t2_ λ h Z=>?_)
   clear t2_
   subst r1_
   refine af (ag _) ?_
   exact ⟨h,λ g hg=>by obtain ⟨x,hx,rfl⟩:=bE.mp hg;exact (h1 x hx).1⟩
  refine kL (I9 hG hvs hglen hgrow hA.s0 λ H4 W n x31' DT hW hWn hs4=>?_)
  have hP4:=hs4 _ _ hP
  have hM4:=hs4 _ _ hM
  have nWP:W≠P:=cH hWn hP bF
  have nWM:W≠M:=cH hWn hM bF
  have hwl:(turned gs n).length<=100:=by
   refine fy ((hB T' "big" gself).some_) λ L r1_ h1 Z t2_=>(bx t2_ λ h Z=>?_)
   clear t2_
   subst r1_
   have:=m9 (n:=n) h1 h
   exact ao ‹_› (by decide)
  have s04:MH.Sub (H.del sets) H4:=(Sub.del_both hA.sub).trans (hs2.trans (hs3.trans hs4))
  have hT4:cE H4 sets T':=(hT'.sub hs3).sub hs4
  have hset:sets≠W/\H sets≠none:=by
   have h3:=hT'.sub hs3
   constructor
   ·rintro rfl
    rcases h3 with ⟨e,_⟩|⟨es,e,_⟩<;>rw [hWn] at e<;>exact bF e
   ·rcases hT with ⟨e,_⟩|⟨es,e,_⟩<;>refine af e ?_<;>simp
  have nn:∀{x},H4 x=none->H x=none:=λ {x} hx=>by
   by_cases e:x=sets
   ·subst e
    rcases hT4 with ⟨e,_⟩|⟨es,e,_⟩<;>rw [hx] at e<;>exact bF e
   ·have:=s04.none hx
    rw [MH.del_ne _ e] at this;exact this
  have hW0:H W=none:=by
   have s03:MH.Sub (H.del sets) H3:=(Sub.del_both hA.sub).trans (hs2.trans hs3)
   have:=s03.none hWn
   rw [MH.del_ne _ hset.1.symm] at this;exact this
  have s45:∀{D:aI} {H':MH},H4 D=none->(∀x,x≠W->x≠D->H4 x≠none->H' x=H4 x)->MH.Sub (H.del sets) H':=λ {D H'} hD hx x o e=>by
   have e4:=s04 x o e
   have n1:x≠W:=cH e (CV hW0) b7
   have n2:x≠D:=cH e4 hD b7
   rw [hx x n1 n2 (by refine af e4 ?_;simp)];exact e4
  have t45:∀{D:aI} {H':MH},H4 D=none->(∀x,x≠W->x≠D->H4 x≠none->H' x=H4 x)->cE (H4.del W) sets T'->cE H' sets T':=λ {D H'} hD hx hS=>hS.sub λ x o e=>by
   have n1:x≠W:=cH e (MH.del_self _ _) b7
   rw [MH.del_ne _ n1] at e
   have n2:x≠D:=cH e hD b7
   rw [hx x n1 n2 (by refine af e ?_;simp)];exact e
  have hS4:cE (H4.del W) sets T':=(hT'.sub hs3).sub λ x o e=>by
   have n1:x≠W:=cH e hWn b7
   refine af (MH.del_ne _ n1) ?_;exact hs4 _ _ e
  have hK5:∀{D:aI} {H':MH},H4 D=none->(∀x,x≠W->x≠D->H4 x≠none->H' x=H4 x)->∀D,H D≠none->D≠sets->cE (H.del D) sets T->cE (H'.del D) sets T':=λ {D H'} hD hx D2 a b c=>by
   refine bw (sy.mp a) λ o ho=>((hK D2 (by refine af (hA.sub _ _ ho) ?_;simp) b (c.sub (del_both hA.sub))).sub (del_both λ x o e=>?_))
   have e3:=hs3 _ _ e
   have n1:x≠W:=cH e3 hWn b7
   have e4:=hs4 _ _ e3
   have n2:x≠D:=cH e4 hD b7
   rw [hx x n1 n2 (by refine af e4 ?_;simp)];exact e4
  have d1:datV 11 jC=true:=by refine af hA.ha ?_;exact CL hA.hn hA.hno hA.m0
  have d2:=AE (a9:=a9) (low:=low) (aA:=aA) (m:=m) d1
  refine JT hW hwl hP4 hM4 nWP nWM hA.hfl hA.s0 hA.c0 hA.ha (λ D H' hD h1 h2 h3=>?_) (λ D H' hD h1 h2 h3=>?_)
  ·exact fg (q W D _ _ T' H' h1 h2 (t45 hD h3 hS4) (s45 hD h3) hW0 (nn hD) hT'' (λ T2 g1 g2 order ho=>Cb (hB T2 order ⟨g1,g2⟩) (yQ hA.hfl) (ul hA.hk hA.hfl d1)) (hK5 hD h3))
  ·exact fg (q W D _ _ T' H' h1 h2 (t45 hD h3 hS4) (s45 hD h3) hW0 (nn hD) hT'' (λ T2 g1 g2 order ho=>z4 (hB T2 order ⟨g1,g2⟩) (yQ hA.hfl) (ul hA.hk hA.hfl d1) (ul (by decide) hA.hfl d2)) (hK5 hD h3))
noncomputable def bases90:List (List Int):=[[0,3,0,5,2],[9,2,1,0,4],[0,0,3,3,5],[4,3,3,5,0]]
theorem Nr:VC AP 8 ps90 nm90 [] c90:=by
 intro us H Q X h
 refine J2 (λ l h=>?_) h
 ·refine cJ h λ zs r1_ hz q=>?_
  subst r1_
  refine ⟨rfl,?_⟩
  refine eC (λ ρ K=>∀H',MH.Sub H H'->K ρ H') (λ K k=>?_) ?_
  ·intro d hd
   refine bS EB ⟨zs,rfl,by decide,by decide,hz,?_⟩
   have dn:=rg zs 62
   have ho:∃order:aw,(order="big"\/order="little")/\ix [V.str (aa "little"),V.str (aa "big")] (digit zs 62 %2)=some (.str order):=by
    rcases (show digit zs 62 %2=0\/digit zs 62 %2=1 by lia) with e|e<;>refine af e ?_
    ·exact ⟨"little",.inr rfl,rfl⟩
    ·exact ⟨"big",.inl rfl,rfl⟩
   refine aL ho λ order ho e=>?_
   exact cZ (MH.set_self _ _ _) e (bS LL ⟨zs,rfl,hz,ho,k _ (bZ hd)⟩)
  intro H1 s1
  refine dP (λ K=>∀A H',MH.Sub H H'->H' A=some (.list (bases90.map λ b=>.tuple (b.map .int)))->K (.ref A) H') (λ K k A hA=>k A _ (a7 s1 (s1.none hA)) (MH.set_self _ _ _)) ?_
  intro A H2 s2 hA
  refine ma (.range 4) (us:=(bH 4).map λ (i:Nat)=>.int i) (λ i K=>∀x,K [some (.flist (zs.map .int)),some (.ref A),x] H2) (λ K k=>aj (by decide) (aj (by decide) k)) rfl (λ K k=>k _) ?_ ?_
  ·intro i u N' e k x
   rw [aF] at e
   refine aL (aH.mp e) λ j hj r1_=>?_
   subst r1_
   obtain ⟨hj1,hj2⟩:=aO.mp hj
   rw [fv] at hj2
   subst hj2
   rw [bP] at hj1
   refine cJ (oP (P:=λ i=>∃b:List Int,ix (bases90.map λ b=>V.tuple (b.map .int)) i=some (.tuple (b.map .int))/\b.length=5/\∀x∈b,0<=x/\x<100) (oP (oP (oP Ey ⟨_,rfl,rfl,by decide⟩) ⟨_,rfl,rfl,by decide⟩) ⟨_,rfl,rfl,by decide⟩) ⟨_,rfl,rfl,by decide⟩ i hj1) λ b hb1 hb2 hb3=>?_
   refine aj (ed (by decide)) (cZ hA hb1 (bS MA ⟨b,zs,rfl,hb2,hb3,rfl,hz,aT _,by lia,aT _,by lia,?_⟩))
   exact k _ _ λ K k=>k _
  ·intro x _
   exact DU s2 q
def yV (n m:Nat) (v:V):Prop:=∃d,(∀H,dataOf H m v=some d)/\d.canLay0=true/\d.depth<=n
theorem ol:∀{us:List V},(∀u∈us,yV n m u)->∃ds,(∀H,mapO (dataOf H m) us=some ds)/\fL ds=true/\jj ds<=n
 |[],_=>⟨[],λ H=>rfl,by simp [fL],by simp [jj]⟩
 |u::us,h=>by
  refine cJ (h u (dE ..)) λ d h1 h2 h3=>(cJ (ol λ v hv=>h v (dR _ hv)) λ ds g1 g2 g3=>⟨d::ds,λ H=>?_,by simp [fL,h2,g2],by simp [jj];lia⟩)
  show (dataOf H m u).bind _=_
  refine af (h1 _) (af (k8 _ _) (af (g1 _) ?_));rfl
theorem yY:∀(n m:Nat) (v:V),datV n v=true->n<m->yV (n+1) m v:=by
 have atom:∀(n m:Nat) (v:V),atomV v=true->yV (n+1) (m+1) v:=λ n m v h=>by
  cases v with
  |none=>exact ⟨.none,λ Z=>rfl,by simp [aU],by simp [eN]⟩
  |bool b=>exact ⟨.bool b,λ Z=>rfl,by simp [aU],by simp [eN]⟩
  |int b=>exact ⟨.int b,λ Z=>rfl,by simp [aU],by simp [eN]⟩
  |str b=>exact ⟨.str b,λ Z=>rfl,h,by simp [eN]⟩
  |_=>exact aM h
 intro n
 induction n with
 |zero=>
  intro m v h hm
  obtain ⟨k,rfl⟩:∃k,m=k+1:=⟨m -1,by lia⟩
  exact atom 0 k v h
 |succ n ih=>
  intro m v h hm
  obtain ⟨k,rfl⟩:∃k,m=k+1:=⟨m -1,by lia⟩
  cases v with
  |tuple us=>
   refine cJ (ol (us:=us) λ u hu=>ih k u (bt.mp h u hu) (by lia)) λ ds g1 g2 g3=>⟨.tuple ds,λ H=>?_,by simp [aU,g2],by simp [eN];assumption⟩
   show (mapO (dataOf H k) us).map _=_
   refine af (g1 _) ?_;rfl
  |_=>exact atom _ k _ h
theorem J6 (h:datV 12 p.2=true):yV 14 28 (stV p):=yY 13 28 (stV p) (kA cQ h) (GE _ _)
theorem qy {S:List (Int×V)} (ha:H a=some (.list (S.map stV))) (hb:H b=some (.list (S.map stV))) (hd:∀p∈S,datV 12 p.2=true) (q:QB true):cmpV .Eq (.ref a) (.ref b) H QB:=by
 obtain ⟨ds,g1,g2,g3⟩:=ol (m:=29) (n:=14) (us:=S.map stV) λ u hu=>by
  refine aL (bE.mp hu) λ p hp r1_=>?_
  subst r1_
  exact yY 13 29 (stV p) (kA cQ (hd p hp)) (GE _ _)
 have e:∀x,H x=some (.list (S.map stV))->dataOf H 30 (.ref x)=some (.list ds):=λ x hx=>by
  show (seqOf H (.ref x)).bind _=_
  refine af (vg hx) (af (k8 _ _) (af (g1 _) ?_));rfl
 have sh:jG (.list ds)=true:=by
  unfold jG
  have:(HZ ds).canLay0=true:=by simp [aU,g2]
  refine af this (af (u0 _) ?_)
  refine decide_eq_true ?_
  simp [eN];exact ao ‹_› (by decide)
 exact yz (e a ha) (yz (e b hb) ⟨sh,sh,by exact af (Fo _ (wW sh)) q⟩)
theorem Df {S:List (Int×V)} (hw:aU (.str w)=true) (ha:H a=some (.list (S.map stV))) (hb:H b=some (.list (S.map stV))) (hd:∀p∈S,datV 12 p.2=true) (q:QB true):cmpV .Eq (.tuple [.str w,.ref a]) (.tuple [.str w,.ref b]) H QB:=by
 obtain ⟨ds,g1,g2,g3⟩:=ol (m:=28) (n:=14) (us:=S.map stV) λ u hu=>by
  refine aL (bE.mp hu) λ p hp r1_=>?_
  subst r1_
  exact J6 (hd p hp)
 have e:∀x,H x=some (.list (S.map stV))->dataOf H 30 (.tuple [.str w,.ref x])=some (.tuple [.str w,.list ds]):=λ x hx=>by
  have:dataOf H 29 (.ref x)=some (.list ds):=by
   show (seqOf H (.ref x)).bind _=_
   refine af (vg hx) (af (k8 _ _) (af (g1 _) ?_));rfl
  show (((dataOf H 29 (.ref x)).bind λ d=>some [d]).map _).map _=_
  refine af this ?_;rfl
 have sh:jG (.tuple [.str w,.list ds])=true:=by
  unfold jG
  have:(PyData.tuple [.str w,.list ds]).canLay0=true:=by simp [aU,fL,g2];simpa [aU] using hw
  refine af this (af (u0 _) ?_)
  refine decide_eq_true ?_
  simp [eN,jj];exact ao ‹_› (by decide)
 exact yz (e a ha) (yz (e b hb) ⟨sh,sh,by exact af (Fo _ (wW sh)) q⟩)
section
variable {B H:MH}
theorem dZ.setAt (h:dZ B H r z) (ht:z.at_<=t):dZ B (H.set r {z with at_:=t}.obj) r {z with at_:=t}:=by
 obtain ⟨n1,n2,n3,n4,n5,n6,n7,n8,n9,n10,n11⟩:=h.ne
 refine cu h.lists λ S P h1 h2 h3=>⟨a7 h.keep h.newr,h.newr,h.news,h.newk,h.newp,h.newt,MH.set_self _ _ _,?_,?_,⟨S,P,?_,?_,h3⟩,h.ord,λ p hp=>eU (h.top p hp) ht,?_,h.nsk,h.npt,h.ndp,h.ndt⟩
 ·show d7 _ z.slots z.sl z.n
  unfold d7;exact af (MH.set_ne _ _ n1) h.slots
 ·show dx _ z.known
  unfold dx;exact af (MH.set_ne _ _ n5) h.known
 ·show MH.set _ _ _ z.pend=_
  exact af (MH.set_ne _ _ n9.symm) h1
 ·show MH.set _ _ _ z.stmts=_
  exact af (MH.set_ne _ _ n10.symm) h2
 ·show MH.set _ _ _ z.dropped=_
  exact af (MH.set_ne _ _ n11.symm) h.dropped
theorem dZ.beside (h:dZ B H r z) (n1:a≠r) (n2:a≠z.slots) (n3:a≠z.known) (n4:a≠z.pend) (n5:a≠z.stmts) (n6:a≠z.dropped):dZ (B.set a o) (H.set a o) r z:=by
 refine cu h.lists λ S P h1 h2 h3=>⟨λ x ox e=>?_,?_,?_,?_,?_,?_,?_,?_,?_,⟨S,P,?_,?_,h3⟩,h.ord,h.top,?_,h.nsk,h.npt,h.ndp,h.ndt⟩
 ·by_cases q:x=a
  ·subst q;rw [MH.set_self] at e⊢;exact e
  ·rw [MH.set_ne _ _ q] at e⊢;exact h.keep _ _ e
 ·exact af (MH.set_ne _ _ n1.symm) h.newr
 ·exact af (MH.set_ne _ _ n2.symm) h.news
 ·exact af (MH.set_ne _ _ n3.symm) h.newk
 ·exact af (MH.set_ne _ _ n4.symm) h.newp
 ·exact af (MH.set_ne _ _ n5.symm) h.newt
 ·exact af (MH.set_ne _ _ n1.symm) h.obj
 ·unfold d7;exact af (MH.set_ne _ _ n2.symm) h.slots
 ·unfold dx;exact af (MH.set_ne _ _ n3.symm) h.known
 ·exact af (MH.set_ne _ _ n4.symm) h1
 ·exact af (MH.set_ne _ _ n5.symm) h2
 ·exact af (MH.set_ne _ _ n6.symm) h.dropped
theorem dZ.cells (h:dZ B H r z):H z.slots≠none/\H z.known≠none/\H z.pend≠none/\H z.stmts≠none/\H z.dropped≠none/\H r≠none:=by
 refine cu h.lists λ S P h1 h2 h3=>⟨?_,?_,?_,?_,?_,?_⟩
 ·rcases h.slots with ⟨e,_⟩|⟨_,_,e,_⟩<;>refine af e ?_<;>simp
 ·rcases h.known with e|⟨_,_,e⟩<;>refine af e ?_<;>simp
 ·refine af h1 ?_;simp
 ·refine af h2 ?_;simp
 ·refine af h.dropped ?_;simp
 ·refine af h.obj ?_;simp
theorem dZ.add (h:dZ B H r z) (ha:H a=none):dZ (B.set a o) (H.set a o) r z:=by
 exact GW h.cells λ c1 c2 c3 c4 c5 c6=>(h.beside (λ e=>c6 (e▸ha)) (λ e=>c1 (e▸ha)) (λ e=>c2 (e▸ha)) (λ e=>c3 (e▸ha)) (λ e=>c4 (e▸ha)) (λ e=>c5 (e▸ha)))
theorem dZ.change (h:dZ B H r z) (ha:B a=some o) (hl:∀vs,o≠.list vs):dZ (B.set a o') (H.set a o') r z:=by
 refine h.beside (λ e=>?_) (λ e=>?_) (λ e=>?_) (λ e=>?_) (λ e=>?_) (λ e=>?_)
 ·rw [e,h.newr] at ha;exact bF ha
 ·rw [e,h.news] at ha;exact bF ha
 ·rw [e,h.newk] at ha;exact bF ha
 ·rw [e,h.newp] at ha;exact bF ha
 ·rw [e,h.newt] at ha;exact bF ha
 ·have:=h.keep _ _ ha
  rw [e,h.dropped] at this;(have this:=ac this;subst this);exact hl _ rfl
theorem dZ.allOut (h:dZ B H r z) (hm:∀p∈z.eff,∀q:Int×Int,p≠needSt q):H z.stmts=some (.list (z.eff.map stV)):=by
 refine cu h.lists λ S P h1 h2 h3=>?_
 have:P=[]:=by
  cases P with
  |nil=>rfl
  |cons q P=>exact absurd rfl (hm (needSt q) (by refine af h3 ?_;simp) q)
 subst this
 refine af h3 ?_;simpa using h2
end
noncomputable def numR (g j:Int):Int:=(2712847316+16843009*j+g/32) %2^32
noncomputable def fR (g:Int) (i:Nat):Int->Option Int:=λ j=>if 0<=j/\j<i/\g/2^j.toNat %2=0 then some (numR g j) else none
def iG (H:MH) (a:aI) (f:Int->Option Int) (n:Nat):Prop:=(H a=some .edict/\∀j,f j=none)\/∃h k,H a=some (.idict h k)/\k<=n/\∀j,h j=(f j).map V.int
noncomputable def slF (g:Int) (i:Nat):c7:=λ j=>(fR g i j).map λ x=>rawS x 4
theorem iG.sub {a f n} (s:MH.Sub H H'):iG H a f n->iG H' a f n
 |.inl ⟨e,h⟩=>.inl ⟨s _ _ e,h⟩
 |.inr ⟨h,k,e,r⟩=>.inr ⟨h,k,s _ _ e,r⟩
theorem lY {f n x v} (h:iG H a f n) (e:f x=some v) (q:Q (.int v) H):subV (.ref a) (.int x) H Q:=by
 rcases h with ⟨_,e2⟩|⟨g,k,e1,_,e2⟩
 ·rw [e2] at e;exact bF e
 ·exact BO e1 (by (refine af (e2 _) (af e ?_));rfl) q
theorem El {f n x} (h:iG H a f n) (q:QB (f x).isSome):cmpV .In (.int x) (.ref a) H QB:=by
 rcases h with ⟨e1,e2⟩|⟨g,k,e1,_,e2⟩
 ·rw [e2] at q;exact Cq e1 q
 ·exact FL e1 (by (refine af (e2 _) (af Bp ?_));exact q)
theorem CR {f n x v} (R:dZ B H r z) (h:iG B a f n) (hn:n<=100) (k:∀B' H',dZ B' H' r z->iG B' a (λ j=>if j=x then some v else f j) (n+1)->(∀y,y≠a->B' y=B y)->QN H'):eI (.ref a) (.int x) (.int v) H QN:=by
 rcases h with ⟨e1,e2⟩|⟨g,m,e1,hm,e2⟩
 ·refine yq (R.keep _ _ e1) (k _ _ (R.change (o':=.idict (λ y=>if y=x then some (V.int v) else none) 1) e1 nofun) (.inr ⟨_,_,MH.set_self _ _ _,mr _,λ j=>?_⟩) λ y hy=>MH.set_ne _ _ hy)
  by_cases e:j=x<;>simp [e,e2]
 ·refine C8 (R.keep _ _ e1) (by lia) (k _ _ (R.change (o':=.idict (λ y=>if y=x then some (V.int v) else g y) (m+1)) e1 nofun) (.inr ⟨_,_,MH.set_self _ _ _,cw ‹_›,λ j=>?_⟩) λ y hy=>MH.set_ne _ _ hy)
  by_cases e:j=x<;>simp [e,e2]
theorem B4 (h:g/2^i %2=0):fR g (i+1)=λ j=>if j=(i:Int) then some (numR g i) else fR g i j:=by
 funext j
 unfold fR
 by_cases e:j=(i:Int)
 ·subst e
  rw [if_pos rfl,if_pos ⟨aT _,jm _,by exact af (cK _) h⟩]
 ·refine af (if_neg e) ?_
  by_cases e2:0<=j/\j<(i:Int)/\g/2^j.toNat %2=0
  ·exact af (if_pos e2) (af (if_pos ⟨e2.1,by lia,e2.2.2⟩) rfl)
  ·exact af (if_neg e2) (af (if_neg (λ h=>e2 ⟨h.1,by lia,h.2.2⟩)) rfl)
theorem CU (h:¬g/2^i %2=0):fR g (i+1)=fR g i:=by
 funext j
 unfold fR
 by_cases e2:0<=j/\j<(i:Int)/\g/2^j.toNat %2=0
 ·exact af (if_pos e2) (af (if_pos ⟨e2.1,by lia,e2.2.2⟩) rfl)
 ·(refine af (if_neg e2) ?_;rw [if_neg (λ h2=>?_)])
  by_cases e:j=(i:Int)
  ·subst e;rw [cK] at h2;exact h h2.2.2
  ·exact e2 ⟨h2.1,by lia,h2.2.2⟩
theorem EU (h:g/2^i %2=0):(slF g i).put i (rawS (numR g i) 4)=slF g (i+1):=by
 funext j
 unfold slF c7.put
 refine af (B4 h) ?_
 dsimp only
 split<;>rfl
theorem yu:fR g 0 j=none:=by
 unfold fR;(exact af (if_neg (by lia)) rfl)
theorem yH:eE (numR g j) 4:=by
 have e:(256:Int)^(4:Int).toNat=2^32:=by decide
 unfold eE numR
 refine af e ?_
 exact ⟨aR _ (by decide),by decide,by decide,aN _ (by decide)⟩
theorem xc (h:fR g i j=some x):eE x 4:=by
 unfold fR at h
 split at h
 ·(have h:=ac h;subst h);exact yH
 ·exact bF h
theorem He:pairOf (slF g i) lo hi=if lo<0 then some none else match fR g i lo,fR g i hi with
  |some a,some b=>some (some (a,b))
  |_,_=>none:=by
 unfold pairOf
 split
 ·rfl
 ·unfold slF
  cases e:fR g i lo with
  |none=>rfl
  |some a=>
   simp only [qt,lj (xc e)]
   cases e2:fR g i hi with
   |none=>rfl
   |some b=>simp only [qt,lj (xc e2)]
noncomputable def nums5 (base zs:List Int) (t:Int):List Int:=(bH 5).map λ j=>base.getD j 0+digit zs (t+j)
theorem ww (hlv:2<lv) (hρ:framesOf ρ [(aa "j")] fr=[none,some (.tuple (base.map .int)),some (.flist (zs.map .int)),some (.int t)])
  (hk:0<=t/\t<=900) (hm:base.length=5) (hz:zs.length<=1000) (q:Q ((nums5 base zs t).map .int) H):
  compTurns (λ v H2 R=>wpE tb0 lv false (.bin .Add (.sub (.loc 1) (.loc 0)) (.call (.fn (aa "_law_digit") (.user 80)) [(.loc 2),(.bin .Add (.loc 3) (.loc 0))])) ((framesOf ρ [(aa "j")] fr).set 0 (some v)) H2 R j9)
   (λ v H2 R=>wpC tb0 lv none ((framesOf ρ [(aa "j")] fr).set 0 (some v)) H2 R) ((bH 5).map λ (i:Nat)=>V.int i) [] H Q:=by
 refine af hρ ?_
 refine eQ (λ u=>match u with
   |.int i=>.int (base.getD i.toNat 0+digit zs (t+i))
   |_=>.none) (λ u R h=>h) (λ u hu R h=>?_) ?_
 ·refine aL (bE.mp hu) λ i hi r1_=>?_
  subst r1_
  have hi:=ca.mp hi
  refine ji (u:=V.int (base.getD (i:Int).toNat 0)) (wc ⟨aT _,by lia⟩ ?_) ?_
  ·have hk:(i:Int).toNat<base.length:=by lia
   refine af (aF) (af (aJ) (af (an hk) ?_));rfl
  refine bS EB ?_ (hV.mpr hlv)
  exact ⟨zs,rfl,by lia,by lia,hz,h⟩
 ·refine af (dy _) (af cD ?_)
  have:(nums5 base zs t).map V.int=(bH 5).map ((λ u=>match u with
   |.int i=>.int (base.getD i.toNat 0+digit zs (t+i))
   |_=>.none)∘λ (i:Nat)=>V.int i):=by
   unfold nums5
   rw [cD]
   refine gu λ i Z=>?_
   rfl
  exact af this.symm q
theorem EH (c:Bool) (h:wpE tb0 lv true t ρ H (λ v H'=>v=.bool c/\MH.Sub H H') X) (k1:c=true->∀H',MH.Sub H H'->wpSs tb0 lv b ρ H' (λ ρ H=>wpSs tb0 lv r ρ H N R X) R X) (k2:c=false->∀H',MH.Sub H H'->wpSs tb0 lv o ρ H' (λ ρ H=>wpSs tb0 lv r ρ H N R X) R X):wpSs tb0 lv (.ite t b o::r) ρ H N R X:=
 bj lU lv t (by rintro _ H' ⟨rfl,s⟩;exact kj (b:=c) (λ e=>k1 e H' s) λ e=>k2 e H' s) (λ Z Z z=>z) h
noncomputable def askOf (low cy pl ph:Int):List Int:=(if 0<=low then [low,cy] else [])++(if 0<=pl then [pl,ph] else [])
noncomputable def okOf (f:Int->Option Int) (low cy pl ph:Int):Bool:=((askOf low cy pl ph).map λ j=>(f j).isSome).all id
noncomputable def vaOf (f:Int->Option Int) (low cy:Int):V:=if low<0 then .none else .tuple [.str "span",.int ((f low).getD 0),.int ((f cy).getD 0)]
noncomputable def vpOf (f:Int->Option Int) (low cy:Int):Option (Int×Int):=if low<0 then none else some ((f low).getD 0,(f cy).getD 0)
theorem Ef:okOf f low cy pl ph=((decide (low<0)||((f low).isSome&&(f cy).isSome))&&(decide (pl<0)||((f pl).isSome&&(f ph).isSome))):=by
 unfold okOf askOf
 by_cases h1:low<0<;>by_cases h2:pl<0
 ·refine af (if_neg (by lia)) (af (if_neg (by lia)) (af (decide_eq_true h1) (af (decide_eq_true h2) ?_)));rfl
 ·refine af (if_neg (by lia)) (af (if_pos (dJ.mp ‹_›)) (af (decide_eq_true h1) (af (decide_eq_false h2) ?_)));simp
 ·refine af (if_pos (dJ.mp ‹_›)) (af (if_neg (by lia)) (af (decide_eq_false h1) (af (decide_eq_true h2) ?_)));simp
 ·refine af (if_pos (dJ.mp ‹_›)) (af (if_pos (dJ.mp ‹_›)) (af (decide_eq_false h1) (af (decide_eq_false h2) ?_)));simp [Bool.and_assoc]
theorem GG:datV 11 (vaOf f low cy)=true:=by
 have hs:aU (.str ("span":aw))=true:=by decide+kernel
 unfold vaOf
 split
 ·exact pa
 ·exact fN (eJ hs) cQ cQ
theorem Dp:(t,natSt kind nf va p fl)≠needSt q:=by
 intro h
 have h:=congrArg (λ p:Int×V=>match p.2 with
  |.tuple us=>us.head?
  |_=>none) h
 injection ac h with e
 exact absurd e (by decide)
namespace Fu
def S_ (Q X t k base zs H1):=∀(H:MH) (k0:0<=k) (q:Q (V.bool true) H) (g:Int) (s1:H.Sub H1) (low:Int) (cy:Int) (pl:Int) (ph:Int),wpSs tb0 6 (c89.drop 2) [some (V.flist (a8 V.int zs)),some (V.int t),some (V.int k),some (V.tuple (a8 V.int base)),some (V.int g),some (V.int low),some (V.int cy),some (V.int pl),some (V.int ph),none,none,none,none,none,none,none,none,none] H1 (λ x H'↦Fg Q V.none H') (Fg Q) (rE X)
def U_:=UV λ Q X t=>UV λ k base zs=>S_ Q X t k base zs
def t_:=dr (by infer_instance) U_
def Q:=t_.1
def X:=t_.2.1
def t:=t_.2.2.1
def k:=t_.2.2.2.1
def base:=t_.2.2.2.2.1
def zs:=t_.2.2.2.2.2.1
def s1_:=t_.2.2.2.2.2.2
def H1:=s1_
namespace FA
def S_ (r nD z x):=∀(H:MH) (q:Q (V.bool true) H) (g:Int) (low:Int) (cy:Int) (pl:Int) (ph:Int) (B:MH) (H5:MH) (hR:dZ B H5 r z) (hN:iG B nD (fR g 5) 5) (za:z.at_=7+k) (zl:z.sl=slF g 5) (ze:z.eff=[]) (hS:H.Sub B),wpSs tb0 6 [S.assign (T.loc 12) (E.comp2 [aa "one",aa "reg"] [] (E.loc 1) 0 (E.lst [E.tup [E.loc 5,E.loc 6],E.tup [E.loc 7,E.loc 8]]) (E.cmp CmpOp.GtE ((E.loc 0).sub (E.int 0)) (E.int 0)) 1 (E.loc 0)),S.assign (T.loc 13) (E.tup [E.str (aa "a register that nothing was put into"),E.lst []]),S.ite ((E.fn (aa "all") (Fn.bi "all")).call [E.comp [aa "reg"] [10] (E.cmp CmpOp.In (E.loc 0) (E.loc 1)) 0 (E.loc 12) none]) [S.assign (T.loc 14) ((E.cmp yk (E.loc 5) (E.int 0)).ifx E.none (E.tup [E.str (aa "span"),(E.loc 10).sub (E.loc 5),(E.loc 10).sub (E.loc 6)])),S.assign (T.loc 15) ((E.cmp yk (E.loc 7) (E.int 0)).ifx E.none (E.tup [(E.loc 10).sub (E.loc 7),(E.loc 10).sub (E.loc 8)])),S.assign (T.loc 13) (E.tup [E.str (aa ""),E.lst [E.tup [E.bin kZ (E.int 7) (E.loc 2),E.tup [E.str (aa "nat"),E.str (aa "snat"),E.int 2,E.loc 14,E.loc 15,E.tup [E.str (aa "random")]]]]])] [],S.assign (T.loc 16) (E.str (aa "")),S.tryWhy ((E.fn (aa "back_nat_row") (Fn.user 38)).call [E.loc 9,E.tup [E.str (aa "nat"),E.str (aa "snat"),E.int 2,E.loc 5,E.loc 6,E.int 4,E.loc 7,E.loc 8,E.tup [E.str (aa "random")]]]) 17 16,S.ret (E.cmp lE (E.tup [E.loc 16,(E.loc 9).attr (aa "statements")]) (E.loc 13))] [some (V.flist (a8 V.int zs)),some (V.int t),some (V.int k),some (V.tuple (a8 V.int base)),some (V.int g),some (V.int low),some (V.int cy),some (V.int pl),some (V.int ph),some (V.ref r),some (V.ref nD),x,none,none,none,none,none,none] H5 (λ x H'↦Fg Q V.none H') (Fg Q) (rE X)
def U_:=UV λ r nD z=>S_ r nD z
def t_:=dr (by have:=Ic;infer_instance) U_
def r:=t_.1
def nD:=t_.2.1
def z:=t_.2.2.1
def x:=t_.2.2.2
namespace FX
def S_ (g low cy pl ph A f B3 d3 w S uJ dC H8):=∀(H:MH) (q:Q (V.bool true) H) (za:z.at_=7+k) (zl:z.sl=slF g 5) (ze:z.eff=[]) (hf:fR g 5=f) (hR8:dZ B3 H8 r z) (hd8:B3 d3=some (bK.list (a8 stV S))) (hS8:H.Sub B3) (hw1:okOf f low cy pl ph=true->w=aa ""/\S=[(7+k,natSt (V.str (aa "snat")) (V.int 2) (vaOf f low cy) (vpOf f pl ph) [aa "random"])]) (hw2:okOf f low cy pl ph=false->w=whyEmpty/\S=[]),wpSs tb0 6 [Mine.S.assign (Mine.T.loc 16) (E.str (aa "")),Mine.S.tryWhy ((E.fn (aa "back_nat_row") (Fn.user 38)).call [E.loc 9,E.tup [E.str (aa "nat"),E.str (aa "snat"),E.int 2,E.loc 5,E.loc 6,E.int 4,E.loc 7,E.loc 8,E.tup [E.str (aa "random")]]]) 17 16,Mine.S.ret (E.cmp lE (E.tup [E.loc 16,(E.loc 9).attr (aa "statements")]) (E.loc 13))] [some (V.flist (a8 V.int zs)),some (V.int t),some (V.int k),some (V.tuple (a8 V.int base)),some (V.int g),some (V.int low),some (V.int cy),some (V.int pl),some (V.int ph),some (V.ref r),some (V.ref nD),x,some (V.ref A),some (V.tuple [V.str w,V.ref d3]),uJ,dC,none,none] H8 (λ x H'↦Fg Q V.none H') (Fg Q) (rE X)
def U_:=UV λ g low cy=>UV λ pl ph A=>UV λ f B3 d3=>UV λ w S uJ=>UU λ dC=>S_ g low cy pl ph A f B3 d3 w S uJ dC
def t_:=dr (by infer_instance) U_
def g:=t_.1
def low:=t_.2.1
def cy:=t_.2.2.1
def pl:=t_.2.2.2.1
def ph:=t_.2.2.2.2.1
def A:=t_.2.2.2.2.2.1
def s1_:=t_.2.2.2.2.2.2
def f:=s1_.1
def B3:=s1_.2.1
def d3:=s1_.2.2.1
def w:=s1_.2.2.2.1
def S:=s1_.2.2.2.2.1
def uJ:=s1_.2.2.2.2.2.1
def s2_:=s1_.2.2.2.2.2.2
def dC:=s2_.1
def H8:=s2_.2
theorem P_:S_ g low cy pl ph A f B3 d3 w S uJ dC H8:=by
 intro H q za zl ze hf hR8 hd8 hS8 hw1 hw2
 refine bN (u:=.str "") ⟨rfl,rfl⟩ ?_
 dsimp only [aC,aD]
 have hw:aU (.str w)=true:=by
  cases e:okOf f low cy pl ph with
  |true=>refine af ((hw1 e).1) ?_;decide+kernel
  |false=>refine af ((hw2 e).1) ?_;decide+kernel
 have hSd:∀p∈S,datV 12 p.2=true:=λ p hp=>by
  cases e:okOf f low cy pl ph with
  |true=>rw [(hw1 e).2,aK] at hp;subst hp;exact ul (by decide) (by decide) GG
  |false=>rw [(hw2 e).2] at hp;cases hp
 have hSn:∀p∈S,∀q:Int×Int,p≠needSt q:=λ p hp q=>by
  cases e:okOf f low cy pl ph with
  |true=>rw [(hw1 e).2,aK] at hp;subst hp;exact Dp
  |false=>rw [(hw2 e).2] at hp;cases hp
 have final:∀(z':RS) (H':MH) (x17:Option V) (N:db->MH->Prop) (X:aw->MH->Prop),dZ B3 H' r z'->z'.eff=S->wpSs tb0 6 [.ret (.cmp .Eq (.tup [(.loc 16),(.attr (.loc 9) (aa "statements"))]) (.loc 13))] [some (.flist (zs.map .int)),some (.int t),some (.int k),some (.tuple (base.map .int)),some (.int g),some (.int low),some (.int cy),some (.int pl),some (.int ph),some (.ref r),some (.ref nD),x,some (.ref A),some (.tuple [.str w,.ref d3]),uJ,dC,some (.str w),x17] H' N (Fg Q) X:=by
  intro z' H' x17 N X hR' he
  refine cF hR'.at_r rfl (Df (S:=S) (QB:=λ b=>Fg Q (.bool b) H') hw (by have:=hR'.allOut (by exact af he hSn);rw [he] at this;exact this) (hR'.keep _ _ hd8) hSd (DU (hS8.trans hR'.keep) q))
 have hsl:∀g' t',z.sl g'=some t'->i9 t'/\t'.tag="raw":=λ g' t' e=>by
  rw [zl] at e
  unfold slF at e
  rw [hf] at e
  refine aL (aH.mp e) λ v hv r1_=>?_
  subst r1_
  exact ⟨gv (xc (by exact af hf hv)),rfl⟩
 have bad:okOf f low cy pl ph=false->∀(x17:Option V) (N:db->MH->Prop) (X:aw->MH->Prop),wpSs tb0 6 [.ret (.cmp .Eq (.tup [(.loc 16),(.attr (.loc 9) (aa "statements"))]) (.loc 13))] [some (.flist (zs.map .int)),some (.int t),some (.int k),some (.tuple (base.map .int)),some (.int g),some (.int low),some (.int cy),some (.int pl),some (.int ph),some (.ref r),some (.ref nD),x,some (.ref A),some (.tuple [.str w,.ref d3]),uJ,dC,some (.str whyEmpty),x17] H8 N (Fg Q) X:=λ e x17 N X=>by
  refine bx (hw2 e) λ hw3 hS3=>?_
  have:=final z H8 x17 N X hR8 (by (exact af ze (af hS3 rfl)))
  exact af hw3.symm this
 have good:okOf f low cy pl ph=true->∀va,va=vaOf f low cy->∀c H',dZ B3 H' r {z with pend:=c,eff:=z.eff++[(z.at_,natSt (.str "snat") (.int 2) va (vpOf f pl ph) [("random":aw)])]}->∀(x17:Option V) (N:db->MH->Prop) (X:aw->MH->Prop),wpSs tb0 6 [.ret (.cmp .Eq (.tup [(.loc 16),(.attr (.loc 9) (aa "statements"))]) (.loc 13))] [some (.flist (zs.map .int)),some (.int t),some (.int k),some (.tuple (base.map .int)),some (.int g),some (.int low),some (.int cy),some (.int pl),some (.int ph),some (.ref r),some (.ref nD),x,some (.ref A),some (.tuple [.str w,.ref d3]),uJ,dC,some (.str (aa "")),x17] H' N (Fg Q) X:=λ e va hva c H' hR' x17 N X=>by
  subst hva
  refine bx (hw1 e) λ hw3 hS3=>?_
  have:=final _ H' x17 N X hR' (by (refine af hS3 (af ze (af za ?_)));rfl)
  rw [hw3] at this⊢;exact this
 refine bS Jf ⟨B3,z,["random"],hR8,by refine af ze ?_;simp,rfl,by decide,λ g' t' Z e=>(hsl g' t' e).1,λ Z b Z Z e=>(hsl _ b e).2,λ Z b Z Z e=>(hsl _ b e).2,?_⟩
 have hnet:decide (([("random":aw)].filter (·≠("netmap":aw))).length<[("random":aw)].length)=false:=by decide
 have hfil:[("random":aw)].filter (·≠("netmap":aw))=[("random":aw)]:=by decide
 refine af hnet (af hfil ?_)
 have pR:∀lo hi,pairOf z.sl lo hi=if lo<0 then some none else match f lo,f hi with
  |some a,some b=>some (some (a,b))
  |_,_=>none:=λ lo hi=>by (refine af zl (af He (af hf ?_)))<;>rfl
 have ok:=@Ef f low cy pl ph
 unfold natAddr
 have ports:(decide (low<0)||((f low).isSome&&(f cy).isSome))=true->match pairOf z.sl pl ph with
  |none=>okOf f low cy pl ph=false
  |some p=>okOf f low cy pl ph=true/\p=vpOf f pl ph:=by
  intro ha
  rw [ha,u0] at ok
  refine af (pR _ _) ?_
  unfold vpOf
  by_cases h2:pl<0
  ·refine af (if_pos h2) ?_
   exact ⟨by (refine af ok (af (decide_eq_true h2) ?_));rfl,by (exact af (if_pos h2) rfl)⟩
  ·refine af (if_neg h2) ?_
   rw [decide_eq_false h2,jc] at ok
   cases e1:f pl with
   |none=>(refine af ok (af e1 ?_));rfl
   |some a=>
    cases e2:f ph with
    |none=>(refine af ok (af e1 (af e2 ?_)));rfl
    |some b=>exact ⟨by (refine af ok (af e1 (af e2 ?_)));rfl,by refine af (if_neg h2) ?_;rfl⟩
 by_cases h1:low<0
 ·refine af (if_pos h1) ?_
  have P:=ports (by refine af (decide_eq_true h1) ?_;rfl)
  have hva:V.none=vaOf f low cy:=by unfold vaOf;(exact af (if_pos h1) rfl)
  dsimp only
  cases e:pairOf z.sl pl ph with
  |none=>rw [e] at P;exact bad P none (λ Z Z=>True) j9
  |some p=>
   rw [e] at P
   refine bx P λ P1 r1_=>?_
   clear P
   subst r1_
   exact λ c H' hR'=>⟨rfl,good P1 _ hva c H' hR' none (λ Z Z=>True) j9⟩
 ·refine af (if_neg h1) (af (pR low cy) (af (if_neg h1) ?_))
  rw [decide_eq_false h1,jc] at ok ports
  cases e1:f low with
  |none=>exact bad (by (refine af ok (af e1 ?_));rfl) none (λ Z Z=>True) j9
  |some a=>
   cases e2:f cy with
   |none=>exact bad (by (refine af ok (af e1 (af e2 ?_)));rfl) none (λ Z Z=>True) j9
   |some b=>
    have P:=ports (by (refine af e1 (af e2 ?_));rfl)
    have hva:V.tuple [.str "span",.int a,.int b]=vaOf f low cy:=by unfold vaOf;(refine af (if_neg h1) (af e1 (af e2 ?_)));rfl
    show if false=true then _ else _
    refine af (if_neg (by decide)) ?_
    dsimp only
    cases e:pairOf z.sl pl ph with
    |none=>rw [e] at P;exact bad P none (λ Z Z=>True) j9
    |some p=>
     rw [e] at P
     refine bx P λ P1 r1_=>?_
     clear P
     subst r1_
     exact λ c H' hR'=>⟨rfl,good P1 _ hva c H' hR' none (λ Z Z=>True) j9⟩
theorem A_:∀p,U_ p:=bC P_
end FX
namespace Gg
def S_ (g low cy pl ph A d H7):=∀(H:MH) (q:Q (V.bool true) H) (B:MH) (H5:MH) (za:z.at_=7+k) (zl:z.sl=slF g 5) (ze:z.eff=[]) (H6:MH) (hA:H6 A=some (bK.list (a8 V.int (askOf low cy pl ph)))) (hA5:H5 A=none) (hBA:B A=none) (B2:MH) (hR7:dZ B2 H7 r z) (hd:B2 d=some (bK.list (a8 stV []))) (hN2:iG B2 nD (fR g 5) 5) (hS2:H.Sub B2) (hA7:H7 A=some (bK.list (a8 V.int (askOf low cy pl ph)))) (hBA2:B2 A=none),wpSs tb0 6 [S.ite ((E.fn (aa "all") (Fn.bi "all")).call [E.comp [aa "reg"] [10] (E.cmp CmpOp.In (E.loc 0) (E.loc 1)) 0 (E.loc 12) none]) [S.assign (Mine.T.loc 14) ((E.cmp yk (E.loc 5) (E.int 0)).ifx E.none (E.tup [E.str (aa "span"),(E.loc 10).sub (E.loc 5),(E.loc 10).sub (E.loc 6)])),S.assign (Mine.T.loc 15) ((E.cmp yk (E.loc 7) (E.int 0)).ifx E.none (E.tup [(E.loc 10).sub (E.loc 7),(E.loc 10).sub (E.loc 8)])),S.assign (Mine.T.loc 13) (E.tup [E.str (aa ""),E.lst [E.tup [E.bin kZ (E.int 7) (E.loc 2),E.tup [E.str (aa "nat"),E.str (aa "snat"),E.int 2,E.loc 14,E.loc 15,E.tup [E.str (aa "random")]]]]])] [],S.assign (Mine.T.loc 16) (E.str (aa "")),S.tryWhy ((E.fn (aa "back_nat_row") (Fn.user 38)).call [E.loc 9,E.tup [E.str (aa "nat"),E.str (aa "snat"),E.int 2,E.loc 5,E.loc 6,E.int 4,E.loc 7,E.loc 8,E.tup [E.str (aa "random")]]]) 17 16,S.ret (E.cmp lE (E.tup [E.loc 16,(E.loc 9).attr (aa "statements")]) (E.loc 13))] ([some (V.flist (a8 V.int zs)),some (V.int t),some (V.int k),some (V.tuple (a8 V.int base)),some (V.int g),some (V.int low),some (V.int cy),some (V.int pl),some (V.int ph),some (V.ref r),some (V.ref nD),x,some (V.ref A),none,none,none,none,none].set 13 (some (V.tuple [V.str whyEmpty,V.ref d]))) H7 (λ x H'↦Fg Q V.none H') (Fg Q) (rE X)
def U_:=UV λ g low cy=>UV λ pl ph A=>UU λ d=>S_ g low cy pl ph A d
def t_:=dr (by infer_instance) U_
def g:=t_.1
def low:=t_.2.1
def cy:=t_.2.2.1
def pl:=t_.2.2.2.1
def ph:=t_.2.2.2.2.1
def A:=t_.2.2.2.2.2.1
def s1_:=t_.2.2.2.2.2.2
def d:=s1_.1
def H7:=s1_.2
theorem P_:S_ g low cy pl ph A d H7:=by
 intro H q B H5 za zl ze H6 hA hA5 hBA B2 hR7 hd hN2 hS2 hA7 hBA2
 dsimp only [aC,aD]
 generalize hf:fR g 5=f at*
 refine eC (λ ρ K=>∀B3 d w S uJ dC H',dZ B3 H' r z->B3 d=some (.list (a8 stV S))->MH.Sub H B3->(okOf f low cy pl ph=true->w=("":aw)/\S=[(7+k,natSt (.str "snat") (.int 2) (vaOf f low cy) (vpOf f pl ph) [("random":aw)])])->(okOf f low cy pl ph=false->w=whyEmpty/\S=[])->K (((ρ.set 14 uJ).set 15 dC).set 13 (some (.tuple [.str w,.ref d]))) H') (λ K kk=>?_) ?_
 ·show wpSs tb0 6 [_] _ _ _ _ _
  refine EH (okOf f low cy pl ph) ?_ (λ e H8 s8=>?_) (λ e H8 s8=>?_)
  ·refine qh (l7 hA7) ⟨?_,?_⟩
   ·unfold askOf;split<;>split<;>simp
   refine eQ (λ u=>match u with
    |.int j=>.bool (f j).isSome
    |_=>.none) (λ u R h=>h) (λ u hu R h=>?_) ?_
   ·refine aL (bE.mp hu) λ j hj r1_=>?_
    subst r1_
    exact El (hN2.sub λ x o e=>by
     have n1:x≠A:=cH e hBA2 b7
     show MH.del _ _ _=_
     refine af (MH.del_ne _ n1) ?_;exact hR7.keep _ _ e) h
   ·refine af (dy _) (af cD (af Ha (af (lQ hA7) ?_)))
    intro c hc
    refine bx (bY hc) λ nc hc2=>?_
    rw [MH.del_ne _ nc] at hc2
    refine ⟨(askOf low cy pl ph).map λ j=>(f j).isSome,by (refine af (MH.set_self _ _ _) (af cD ?_));rfl,?_,?_⟩
    ·refine af (ag _) ?_;unfold askOf;split<;>split<;>simp
    ·refine ⟨rfl,λ x o e=>?_⟩
     have n2:x≠c:=cH e hc2 b7
     refine af (MH.set_ne _ _ n2) ?_
     by_cases n1:x=A
     ·subst n1;(refine af (MH.set_self _ _ _) (af hA7.symm ?_));exact e
     ·refine af (MH.set_ne _ _ n1) (af (MH.del_ne _ n1) ?_);exact e
  ·have hR8:=hR7.sub s8
   have hN8:=hN2.sub hR8.keep
   have hok:∀j∈askOf low cy pl ph,∃x,f j=some x:=λ j hj=>by
    unfold okOf at e
    rw [List.all_map] at e
    exact Option.isSome_iff_exists.mp (bt.mp e j hj)
   have o1:0<=low->(∃x,f low=some x)/\∃x,f cy=some x:=λ h=>⟨hok _ (by unfold askOf;refine af (if_pos h) ?_;simp),hok _ (by unfold askOf;refine af (if_pos h) ?_;simp)⟩
   have o2:0<=pl->(∃x,f pl=some x)/\∃x,f ph=some x:=λ h=>⟨hok _ (by unfold askOf;refine af (if_pos h) ?_;simp),hok _ (by unfold askOf;refine af (if_pos h) ?_;simp)⟩
   refine bN (u:=vaOf f low cy) ?_ ?_
   ·unfold vaOf
    refine kj (b:=decide (low<0)) (λ e=>?_) (λ e=>?_)
    ·exact af (if_pos (of_decide_eq_true e)) ⟨rfl,rfl⟩
    ·refine af (if_neg (of_decide_eq_false e)) ?_
     obtain ⟨⟨x,hx⟩,⟨y,hy⟩⟩:=o1 (by have:=of_decide_eq_false e;exact dJ.mp ‹_›)
     refine lY hN8 hx (lY hN8 hy ?_)
     refine af hx (af hy ?_);exact ⟨rfl,rfl⟩
   refine bN (u:=pairV (vpOf f pl ph)) ?_ ?_
   ·unfold vpOf
    refine kj (b:=decide (pl<0)) (λ e=>?_) (λ e=>?_)
    ·exact af (if_pos (of_decide_eq_true e)) ⟨rfl,rfl⟩
    ·refine af (if_neg (of_decide_eq_false e)) ?_
     obtain ⟨⟨x,hx⟩,⟨y,hy⟩⟩:=o2 (by have:=of_decide_eq_false e;exact dJ.mp ‹_›)
     refine lY hN8 hx (lY hN8 hy ?_)
     refine af hx (af hy ?_);exact ⟨rfl,rfl⟩
   dsimp only [aC,aD]
   intro d2 hd2
   have hBd2:=hR8.keep.none hd2
   exact kk _ d2 "" [(7+k,natSt (.str "snat") (.int 2) (vaOf f low cy) (vpOf f pl ph) [("random":aw)])] _ _ _ (hR8.add hd2) (MH.set_self _ _ _) (hS2.trans (bZ hBd2)) (λ Z=>⟨rfl,rfl⟩) (λ h=>absurd (e.symm.trans h) (by decide))
  ·exact kk B2 d whyEmpty [] none none _ (hR7.sub s8) hd hS2 (λ h=>absurd (h.symm.trans e) (by decide)) (λ Z=>⟨rfl,rfl⟩)
 intro B3 d3 w S uJ dC H8 hR8 hd8 hS8 hw1 hw2
 dsimp only [aC,aD]
 exact FX.A_ (g,low,cy,pl,ph,A,f,B3,d3,w,S,uJ,dC,H8) H q za zl ze hf hR8 hd8 hS8 hw1 hw2
theorem A_:∀p,U_ p:=bC P_
end Gg
theorem P_:S_ r nD z x:=by
 intro H q g low cy pl ph B H5 hR hN za zl ze hS
 refine dP (λ K=>∀A H',dZ B H' r z->H' A=some (.list ((askOf low cy pl ph).map .int))->H5 A=none->K (.ref A) H') (λ K kk=>?_) ?_
 ·intro A hA
  refine qh (l7 (MH.set_self _ _ _)) (aj (aP rfl) ?_)
  refine af Ha ?_
  generalize hL:bK.list [V.tuple [V.int low,V.int cy],V.tuple [V.int pl,V.int ph]]=L
  have fh:∀acc:List V,acc=(askOf low cy pl ph).map .int->∀c,backOf (H5.set A L) ((H5.set A L).del A) (.ref A) c=none->K (.ref c) ((backOf (H5.set A L) ((H5.set A L).del A) (.ref A)).set c (.list acc)):=by
   intro acc hacc c
   refine af (lQ (MH.set_self _ _ _)) ?_
   intro hc
   refine bx (bY hc) λ nc hc2=>?_
   rw [MH.del_ne _ nc,MH.set_ne _ _ nc] at hc2
   refine kk c _ (hR.sub λ x o e=>?_) (by (exact af (MH.set_self _ _ _) (af hacc rfl))) hc2
   have n1:x≠A:=cH e hA b7
   have n2:x≠c:=cH e hc2 b7
   refine af (MH.set_ne _ _ n2) (af (MH.set_ne _ _ n1) (af (MH.del_ne _ n1) (af (MH.set_ne _ _ n1) ?_)));exact e
  unfold askOf at fh
  refine kj (b:=decide (0<=low)) (λ e=>?_) λ e=>?_
  ·refine aj rfl (aj (aP rfl) ?_)
   refine kj (b:=decide (0<=pl)) (λ e2=>?_) λ e2=>?_
   ·refine aj rfl (aj (aP rfl) ?_)
    refine fh _ ?_
    refine af (if_pos (of_decide_eq_true e)) (af (if_pos (of_decide_eq_true e2)) ?_);rfl
   ·refine fh _ ?_
    refine af (if_pos (of_decide_eq_true e)) (af (if_neg (of_decide_eq_false e2)) ?_);rfl
  ·refine kj (b:=decide (0<=pl)) (λ e2=>?_) λ e2=>?_
   ·refine aj rfl (aj (aP rfl) ?_)
    refine fh _ ?_
    refine af (if_neg (of_decide_eq_false e)) (af (if_pos (of_decide_eq_true e2)) ?_);rfl
   ·refine fh _ ?_
    refine af (if_neg (of_decide_eq_false e)) (af (if_neg (of_decide_eq_false e2)) ?_);rfl
 intro A H6 hR6 hA hA5
 dsimp only [aC,aD]
 have hBA:=hR.keep.none hA5
 refine dP (λ K=>∀d B2 H',dZ B2 H' r z->B2 d=some (.list (([]:List (Int×V)).map stV))->iG B2 nD (fR g 5) 5->MH.Sub H B2->H' A=some (.list ((askOf low cy pl ph).map .int))->B2 A=none->K (.tuple [.str whyEmpty,.ref d]) H') (λ K kk=>?_) ?_
 ·intro d hd
  have nd:A≠d:=cH hA hd b7
  have hBd:=hR6.keep.none hd
  exact kk d (B.set d (.list [])) _ (hR6.add hd) (MH.set_self _ _ _) (hN.sub (bZ hBd)) (hS.trans (bZ hBd)) (by exact af (MH.set_ne _ _ nd) hA) (by exact af (MH.set_ne _ _ nd) hBA)
 intro d B2 H7 hR7 hd hN2 hS2 hA7 hBA2
 exact Gg.A_ (g,low,cy,pl,ph,A,d,H7) H q B H5 za zl ze H6 hA hA5 hBA B2 hR7 hd hN2 hS2 hA7 hBA2
theorem A_:∀p,U_ p:=bC P_
end FA
namespace F8
def S_ (g low cy pl ph r nD H4 i N' B z x H5):=∀(B_x:MH) (hB:H1.Sub B_x) (hBn:B_x nD=none) (u:V) (e:(a8 (λ (i:Nat)↦V.int (↑i:Int)) (bH (5:Nat)))[i]?=some u) (kk:∀(ρ':db) (H':MH),(∀(K:db->MH->Prop),(∀(B:MH) (z:RS) (x:Option V) (H':MH),dZ B H' r z->iG B nD (fR g (i+(1:Nat))) (i+(1:Nat))->H1.Sub B->z.at_=(7:Int)+k->z.sl=slF g (i+(1:Nat))->z.n<=i+(1:Nat)->z.eff=[]->K [some (V.flist (a8 V.int zs)),some (V.int t),some (V.int k),some (V.tuple (a8 V.int base)),some (V.int g),some (V.int low),some (V.int cy),some (V.int pl),some (V.int ph),some (V.ref r),some (V.ref nD),x,none,none,none,none,none,none] H')->K ρ' H')->N' ρ' H') (hR:dZ B H5 r z) (hN:iG B nD (fR g i) i) (hS:H1.Sub B) (za:z.at_=(7:Int)+k) (zl:z.sl=slF g i) (zn:z.n<=i) (ze:z.eff=[]),assignT (T.loc (11:Nat)) u [some (V.flist (a8 V.int zs)),some (V.int t),some (V.int k),some (V.tuple (a8 V.int base)),some (V.int g),some (V.int low),some (V.int cy),some (V.int pl),some (V.int ph),some (V.ref r),some (V.ref nD),x,none,none,none,none,none,none] H5 λ (ρ2:db) (H3:MH)↦wpSs tb0 (6:Nat) [S.ite (E.cmp lE (E.bin dB (E.bin yj (E.loc (4:Nat)) (E.bin nO (E.int (2:Int)) (E.loc (11:Nat)))) (E.int (2:Int))) (E.int (0:Int))) [S.setitem (E.loc (10:Nat)) (E.loc (11:Nat)) (E.bin dB (E.bin kZ (E.bin kZ (E.int (2712847316:Int)) (E.bin Operator.Mult (E.int (16843009:Int)) (E.loc (11:Nat)))) (E.bin yj (E.loc (4:Nat)) (E.int (32:Int)))) (E.bin nO (E.int (2:Int)) (E.int (32:Int)))),S.expr ((E.fn (aa "back_immediate") (Fn.user (32:Nat))).call [E.loc (9:Nat),E.tup [E.str (aa "immediate"),E.loc (11:Nat),(E.fn (aa "_law_octets") (Fn.user (81:Nat))).call [(E.loc (10:Nat)).sub (E.loc (11:Nat)),E.int (4:Int)]]])] []] ρ2 H3 N' (λ (r:V) (H4_1:MH)↦Fg Q r (backOf H4 H4_1 (V.range (5:Int)))) j9
def U_:=UV λ g low cy=>UV λ pl ph r=>UV λ nD H4 i=>UV λ N' B z=>UU λ x=>S_ g low cy pl ph r nD H4 i N' B z x
def t_:=dr (by have:=Ic;infer_instance) U_
def g:=t_.1
def low:=t_.2.1
def cy:=t_.2.2.1
def pl:=t_.2.2.2.1
def ph:=t_.2.2.2.2.1
def r:=t_.2.2.2.2.2.1
def s1_:=t_.2.2.2.2.2.2
def nD:=s1_.1
def H4:=s1_.2.1
def i:=s1_.2.2.1
def N':=s1_.2.2.2.1
def B:=s1_.2.2.2.2.1
def z:=s1_.2.2.2.2.2.1
def s2_:=s1_.2.2.2.2.2.2
def x:=s2_.1
def H5:=s2_.2
theorem P_:S_ g low cy pl ph r nD H4 i N' B z x H5:=by
 intro B_x hB hBn u e kk hR hN hS za zl zn ze
 rw [aF] at e
 refine aL (aH.mp e) λ j hj r1_=>?_
 subst r1_
 obtain ⟨hj1,hj2⟩:=aO.mp hj
 rw [fv] at hj2
 subst hj2
 rw [bP] at hj1
 have p2:(2:Int)^(i:Int).toNat=2^i:=by (exact af (cK _) rfl)
 have p3:=gn i
 have p4:(2:Int)^i<=2^5:=qU (fE ‹_›)
 refine bB (decide (g/2^i %2=0)) ?_ (λ e=>?_) (λ e=>?_)
 ·refine aj ⟨aT _,by lia,by decide⟩ ?_
  refine af p2 ?_
  exact kj (b:=divOk (2^i)) (λ Z=>⟨rfl,rfl⟩) λ Z=>⟨⟨by assumption,HL (k:=10) (kE (aT _) (by lia)) (by decide)⟩,rfl,rfl⟩
 ·have e:=of_decide_eq_true e
  refine aj (ed (by decide)) (aj ⟨by decide,by decide,by decide⟩ (CR (v:=numR g i) hR hN (by lia) λ B' H6 hR' hN' hB'=>?_))
  rw [<-B4 e] at hN'
  have hN6:=hN'.sub hR'.keep
  have hfi:fR g (i+1) (i:Int)=some (numR g i):=by refine af (B4 e) ?_;exact if_pos rfl
  refine lY hN6 hfi (bS Dv ⟨yH.1,by decide,by decide,?_⟩)
  refine bS Jy ⟨B',z,hR',by lia,gY (by decide),λ H7 hR7=>⟨rfl,kk _ _ λ K kk=>kk B' _ _ _ hR7 hN' ?_ za ?_ ?_ ze⟩⟩
  ·intro y o ey
   have:y≠nD:=λ q=>by
    have:=hS _ _ ey
    have h1:=hB.none hBn
    rw [q,h1] at ey;exact bF ey
   refine af (hB' y this) ?_;exact hS _ _ ey
  ·show z.sl.put i (rawS (numR g i) 4)=_
   exact af zl (af (EU e) rfl)
  ·show z.n+1<=i+1
   exact cw ‹_›
 ·have e:=of_decide_eq_false e
  refine kk _ _ λ K kk=>kk B z _ _ hR ?_ hS za ?_ (cL ‹_›) ze
  ·refine af (CU e) ?_
   exact hN.imp id λ ⟨h,k,a,b,c⟩=>⟨h,k,a,cL ‹_›,c⟩
  ·rw [show slF g (i+1)=slF g i by unfold slF;(exact af (CU e) rfl)];exact zl
theorem A_:∀p,U_ p:=bC P_
end F8
theorem P_:S_ Q X t k base zs H1:=by
 intro H k0 q g s1 low cy pl ph
 refine dP (λ K=>∀r B z H',dZ B H' r z->MH.Sub H1 B->z.at_=0->(∀i,z.sl i=none)->z.n=0->z.eff=[]->K (.ref r) H') (λ K kk=>?_) ?_
 ·intro a ha b hb2
  refine bx (bY hb2) λ nb hb3=>?_
  refine λ r d hr=>?_
  refine bx (bY hr) λ nr hr2=>(bx (bY hr2) λ nr2 hr3=>⟨d,MH.set_self _ _ _,nr2,nr,λ z H' hR ha0 ho hs hsl hn he Z=>⟨rfl,kk r _ z _ hR (λ x o e=>?_) ha0 hsl hn he⟩⟩)
  have n1:x≠r:=cH e hr3 b7
  have n2:x≠b:=cH e hb3 b7
  have n3:x≠a:=cH e ha b7
  refine af (MH.del_ne _ n1) (af (MH.set_ne _ _ n1) (af (MH.set_ne _ _ n2) (af (MH.set_ne _ _ n3) ?_)));exact e
 intro r B z H2 hR hB za zs' zn ze
 dsimp only [aC,aD]
 refine eC (λ ρ K=>∀H',dZ B H' r {z with at_:=7+k}->K ρ H') (λ K kk=>?_) ?_
 ·exact kf hR.at_r rfl rfl (kk _ (hR.setAt (t:=7+k) (by lia)))
 intro H3 hR3
 refine dP (λ K=>∀nD H',dZ (B.set nD .edict) H' r {z with at_:=7+k}->B nD=none->K (.ref nD) H') (λ K kk c hc=>kk c _ (hR3.add hc) (hR3.keep.none hc)) ?_
 intro nD H4 hR4 hBn
 dsimp only [aC,aD]
 have hS0:MH.Sub H1 (B.set nD .edict):=a7 hB (hB.none hBn)
 refine ma (.range 5) (us:=(bH 5).map λ (i:Nat)=>.int i) (λ i K=>∀B (z:RS) x H',dZ B H' r z->iG B nD (fR g i) i->MH.Sub H1 B->z.at_=7+k->z.sl=slF g i->z.n<=i->z.eff=[]->K [some (.flist (zs.map .int)),some (.int t),some (.int k),some (.tuple (base.map .int)),some (.int g),some (.int low),some (.int cy),some (.int pl),some (.int ph),some (.ref r),some (.ref nD),x,none,none,none,none,none,none] H') (λ K k=>aj (by decide) (aj (by decide) k)) rfl ?_ ?_ ?_
 ·refine λ K kk=>kk _ _ none _ hR4 (.inl ⟨MH.set_self _ _ _,λ j=>yu⟩) hS0 rfl ?_ (by show z.n<=0;exact gm ‹_›) ze
  funext j
  show z.sl j=_
  unfold slF
  refine af yu (af (zs' j) ?_);rfl
 ·intro i u N' e kk B z x H5 hR hN hS za zl zn ze
  rename_i B_x z_x hR_x za_x zn_x ze_x
  exact F8.A_ (g,low,cy,pl,ph,r,nD,H4,i,N',B,z,x,H5) B_x hB hBn u e kk hR hN hS za zl zn ze
 clear hR hR3 hR4 hS0 ze zn za zs' hB hBn
 intro B z x H5 hR hN hS za zl zn ze _
 rw [ag,bP] at*
 show wpSs tb0 6 _ _ H5 _ _ _
 have hS:MH.Sub H B:=s1.trans hS
 exact FA.A_ (r,nD,z,x) H q g low cy pl ph B H5 hR hN za zl ze hS
theorem A_:∀p,U_ p:=bC P_
end Fu
theorem Mt:VC BE 6 ps89 nm89 [] c89:=by
 intro us H Q X h
 refine IU (λ l t k bs h=>?_) h
 ·refine jO h λ base zs r1_ hl hb t2_=>(Dr t2_ λ r3_ hz t0 t1 k0 k1 q=>?_)
  clear h t2_
  subst r1_
  subst r3_
  refine ⟨rfl,?_⟩
  show wpSs tb0 6 c89 [some (.flist (zs.map .int)),some (.int t),some (.int k),some (.tuple (base.map .int)),none,none,none,none,none,none,none,none,none,none,none,none,none,none] H _ _ _
  have bd:∀(j:Nat) (kk:Int),0<=base.getD j 0+digit zs kk:=λ j kk=>by
   refine bx (rg zs kk) λ d0 d1=>?_
   have:0<=base.getD j 0:=by
    refine af (aJ) ?_
    cases e:base[j]? with
    |none=>decide
    |some x=>exact (hb x (a6 e)).1
   exact HY ‹_› ‹_›
  obtain ⟨g,hg⟩:∃c,c=base.getD 0 0+digit zs (t+(0:Nat)):=⟨_,rfl⟩
  obtain ⟨lo,hlo⟩:∃c,c=base.getD 1 0+digit zs (t+(1:Nat)):=⟨_,rfl⟩
  obtain ⟨hi,hhi⟩:∃c,c=base.getD 2 0+digit zs (t+(2:Nat)):=⟨_,rfl⟩
  obtain ⟨plo,hplo⟩:∃c,c=base.getD 3 0+digit zs (t+(3:Nat)):=⟨_,rfl⟩
  obtain ⟨phi,hphi⟩:∃c,c=base.getD 4 0+digit zs (t+(4:Nat)):=⟨_,rfl⟩
  have hnums:(nums5 base zs t).map V.int=[.int g,.int lo,.int hi,.int plo,.int phi]:=by (refine af hg (af hlo (af hhi (af hplo (af hphi ?_)))));rfl
  have bg:=bd 0 (t+(0:Nat));rw [<-hg] at bg
  clear hg hlo hhi hplo hphi
  refine eC (λ ρ K=>∀H',MH.Sub H H'->K (((((ρ.set 4 (some (.int g))).set 5 (some (.int lo))).set 6 (some (.int hi))).set 7 (some (.int plo))).set 8 (some (.int phi))) H') (λ K kk=>?_) ?_
  ·refine ⟨by decide,by decide,by decide,?_⟩
   refine ww (lv:=6) (fr:=[3,0,1]) (ρ:=[some (.flist (zs.map .int)),some (.int t),some (.int k),some (.tuple (base.map .int)),none,none,none,none,none,none,none,none,none,none,none,none,none,none]) (by decide) rfl ⟨t0,t1⟩ hl hz ?_
   intro d hd
   refine af hnums ?_
   exact BP (vg (MH.set_self _ _ _)) ⟨rfl,kk _ (bZ hd)⟩
  intro H1 s1
  dsimp only [aC,aD]
  have r1:-1<=lo %7 -1/\lo %7 -1<=5:=by lia
  have r2:0<=hi %6/\hi %6<=5:=⟨aR _ (by decide),bJ (aN _ (by decide))⟩
  have r3:-1<=plo %7 -1/\plo %7 -1<=5:=by lia
  have r4:0<=phi %6/\phi %6<=5:=⟨aR _ (by decide),bJ (aN _ (by decide))⟩
  refine eC (λ ρ K=>K ((((ρ.set 5 (some (.int (lo %7 -1)))).set 6 (some (.int (hi %6)))).set 7 (some (.int (plo %7 -1)))).set 8 (some (.int (phi %6)))) H1) (λ K kk=>⟨rfl,kk⟩) ?_
  dsimp only [aC,aD]
  generalize lo %7 -1=low at*
  generalize hi %6=cy at*
  generalize plo %7 -1=pl at*
  generalize phi %6=ph at*
  exact Fu.A_ (Q,X,t,k,base,zs,H1) H k0 q g s1 low cy pl ph
noncomputable def backsAll:List (aw×V):=backs0++([("immediate",.fn (.user 32)),("meta",.fn (.user 31)),("cmp",.fn (.user 34)),("map",.fn (.user 35))]:List (aw×V))
theorem vX {T:iX} {c c1:Cr} (hR:dZ B H r z) (ha:z.at_=t) (hsl:z.sl=c.sl) (hzn:z.n=c.n) (hze:z.eff=c.eff) (ho:z.order=order) (hT:cE B z.sets T) (hn:c.n<=10000) (he:c.eff.length<=1000) (hs:iq T order t c row c1)
  (k:∀z' H',dZ B H' r z'->z'.at_=t->z'.sl=c1.sl->z'.n=c1.n->z'.eff=c1.eff->z'.order=order->z'.sets=z.sets->Q .none H'):
  ∃tag rest f,row=.tuple (.str tag::rest)/\backsAll.lookup tag=some (.fn (.user f))/\tb0.lvl (.user f)<7/\tb0.spec (.user f) [.ref r,row] H Q X/\c1.n<=c.n+2/\c1.eff.length<=c.eff.length+1:=by
 cases hs with
 |imm g b hb=>
  refine ⟨"immediate",_,32,rfl,rfl,by decide,?_,by show c.n+1<=_;lia,by show c.eff.length<=_;exact fo _ _⟩
  refine af Jy ?_;unfold Aq
  exact ⟨B,z,hR,by lia,hb,λ H' hR'=>k _ _ hR' ha (by (exact af hsl rfl)) (by (exact af hzn rfl)) hze ho rfl⟩
 |met g name size o hl=>
  refine ⟨"meta",_,31,rfl,rfl,by decide,?_,by show c.n+1<=_;lia,by show c.eff.length<=_;exact fo _ _⟩
  refine af MQ ?_;unfold A0
  exact ⟨B,z,hR,by lia,hl,λ H' hR'=>k _ _ hR' ha (by (exact af hsl rfl)) (by (exact af hzn rfl)) hze ho rfl⟩
 |cmp op g b nm o size hb hg hnm hoo=>
  refine ⟨"cmp",_,34,rfl,rfl,by decide,?_,by show c.n<=_;exact fo _ _,by show (c.eff++_).length<=_;(refine af az (af aV ?_));exact bW _⟩
  refine af MM ?_;unfold zN
  refine ⟨B,z,o,size,nm,hR,by exact af hze he,hb,by exact af hsl hg,hnm,by exact af ho hoo,λ c' H' hR'=>k _ _ hR' ha hsl hzn ?_ ho rfl⟩
  show z.eff++_=c.eff++_
  exact af hze (af ha (af ho rfl))
 |mp g ts name wP l2 ht hl hl2 hp=>
  refine ⟨"map",_,35,rfl,rfl,by decide,?_,by show c.n+l2.length<=_;exact oM ‹_› _,by show c.eff.length<=_;exact fo _ _⟩
  refine af M9 ?_;unfold AK
  refine ⟨B,z,T,ts,l2,hR,hT,rfl,by exact af hsl ht,hl,rfl,ao ‹_› (by decide),hp,by lia,λ H' hR'=>k _ _ hR' ha ?_ ?_ hze ho rfl⟩
  ·show mapPut _ z.sl _ _=_
   exact af hsl rfl
  ·show z.n+_=c.n+_
   exact af hzn rfl
 |same kind name hk=>
  have fh:tb0.spec (.user 36) [.ref r,.tuple [.str kind,.str name]] H Q X:=by
   refine af MV ?_;unfold z7
   refine ⟨B,z,hR,by exact af hze he,λ c' H' hR'=>k _ _ hR' ha hsl hzn ?_ ho rfl⟩
   show z.eff++_=c.eff++_
   exact af hze (af ha rfl)
  rcases hk with rfl|rfl
  ·exact ⟨"expect",_,36,rfl,rfl,by decide,fh,by show c.n<=_;exact fo _ _,by show (c.eff++_).length<=_;(refine af az (af aV ?_));exact bW _⟩
  ·exact ⟨"flow",_,36,rfl,rfl,by decide,fh,by show c.n<=_;exact fo _ _,by show (c.eff++_).length<=_;(refine af az (af aV ?_));exact bW _⟩
 |nat kind nf r3 r4 size r6 r7 ts va p hl hok h1 h2 hna hp=>
  refine ⟨"nat",_,38,rfl,rfl,by decide,?_,by show c.n<=_;exact fo _ _,by show (c.eff++_).length<=_;(refine af az (af aV ?_));exact bW _⟩
  refine af Jf ?_;unfold AX
  refine ⟨B,z,ts,hR,by exact af hze he,rfl,hl,by exact af hsl hok,by exact af hsl h1,by exact af hsl h2,?_⟩
  have hna':=hna
  rw [<-hsl] at hna'
  refine oo ?_ hna'
  rintro _ rfl
  dsimp only
  rw [show pairOf z.sl r6 r7=some p by exact af hsl hp]
  refine λ c' H' hR'=>k _ _ hR' ha hsl hzn ?_ ho rfl
  show z.eff++_=c.eff++_
  exact af hze (af ha rfl)
section
variable {B H:MH}
theorem dZ.setOrder (h:dZ B H r z):dZ B (H.set r {z with order:=o}.obj) r {z with order:=o}:=by
 obtain ⟨n1,n2,n3,n4,n5,n6,n7,n8,n9,n10,n11⟩:=h.ne
 refine cu h.lists λ S P h1 h2 h3=>⟨a7 h.keep h.newr,h.newr,h.news,h.newk,h.newp,h.newt,MH.set_self _ _ _,?_,?_,⟨S,P,?_,?_,h3⟩,h.ord,h.top,?_,h.nsk,h.npt,h.ndp,h.ndt⟩
 ·show d7 _ z.slots z.sl z.n
  unfold d7;exact af (MH.set_ne _ _ n1) h.slots
 ·show dx _ z.known
  unfold dx;exact af (MH.set_ne _ _ n5) h.known
 ·show MH.set _ _ _ z.pend=_
  exact af (MH.set_ne _ _ n9.symm) h1
 ·show MH.set _ _ _ z.stmts=_
  exact af (MH.set_ne _ _ n10.symm) h2
 ·show MH.set _ _ _ z.dropped=_
  exact af (MH.set_ne _ _ n11.symm) h.dropped
theorem dZ.aside (h:dZ B H r z) (ha:B a=some (.list vs)) (hd:z.dropped≠a):dZ (B.del a) (H.del a) r z:=by
 refine cu h.lists λ S P h1 h2 h3=>?_
 have n1:r≠a:=cH h.newr ha bF
 have n2:z.slots≠a:=cH h.news ha bF
 have n3:z.known≠a:=cH h.newk ha bF
 have n4:z.pend≠a:=cH h.newp ha bF
 have n5:z.stmts≠a:=cH h.newt ha bF
 refine ⟨Sub.del_both h.keep,?_,?_,?_,?_,?_,?_,?_,?_,⟨S,P,?_,?_,h3⟩,h.ord,h.top,?_,h.nsk,h.npt,h.ndp,h.ndt⟩
 ·exact af (MH.del_ne _ n1) h.newr
 ·exact af (MH.del_ne _ n2) h.news
 ·exact af (MH.del_ne _ n3) h.newk
 ·exact af (MH.del_ne _ n4) h.newp
 ·exact af (MH.del_ne _ n5) h.newt
 ·exact af (MH.del_ne _ n1) h.obj
 ·unfold d7;exact af (MH.del_ne _ n2) h.slots
 ·unfold dx;exact af (MH.del_ne _ n3) h.known
 ·exact af (MH.del_ne _ n4) h1
 ·exact af (MH.del_ne _ n5) h2
 ·exact af (MH.del_ne _ hd) h.dropped
end
noncomputable def bases88:List (List Int):=[[227,42540766464122081094298350666160367223,56,0,0,0,16],[7,287454020,0,0,0,0,0],[298,3325256725,20,12002,99,27,1],[76,167772260,143,0,19,0,24],[133,65152,4,24241,1,3,5],[48,0,0,3074,64511,0,0]]
def y7 (c:Cr):Prop:=∀i,i<0->c.sl i=none
structure CX (order:aw) (H:MH) (A Sx D:aI) (i:Nat) (R:aI) (T:iX) (rows:List V) (jQ:List (Int×V)) (H':MH):Prop where
 sub:MH.Sub H H'
 hA:H' A=some (.list (bases88.map λ b=>.tuple (b.map .int)))
 hR:H' R=some (.list rows)
 hD:H' D=some (.list (jQ.map stV))
 hS:cE (H'.del D) Sx T
 hSR:cE (H'.del R) Sx T
 Tl:T.length<=i
 Tn:∀n ls,(n,ls)∈T->∃j:Int,0<=j/\j<i/\n=("s":aw)++dg j
 rl:rows.length<=30*i
 dl:jQ.length<=2*i
 dd:∀p∈jQ,datV 12 p.2=true
 run:∀T2,mN T T2->∀c,y7 c->∃c',iT T2 order 0 c rows c'/\y7 c'/\c'.eff=c.eff++jQ
 nRD:R≠D
 nAD:A≠D
 oD:H D=none
 oS:H Sx=none
 oR:H R=none
noncomputable def ρ88 (zs:List Int) (order:aw) (A Sx R D:aI) (x6 x7 x8 x9 qk:Option V):db:=[some (.flist (zs.map .int)),some (.str order),some (.ref A),some (.ref Sx),some (.ref R),some (.ref D),x6,x7,x8,x9,qk,none,none,none,none]
theorem Hf
  (kk:∀A Sx Rr D H',CX order H A Sx D 0 Rr [] [] [] H'->N (ρ88 zs order A Sx Rr D none none none none none) H'):
  wpSs tb0 7 d88a [some (.flist (zs.map .int)),some (.str order),none,none,none,none,none,none,none,none,none,none,none,none,none] H N R X:=by
 have tp:∀a b c d e f g:Int,V.tuple [.int a,.int b,.int c,.int d,.int e,.int f,.int g]=.tuple ([a,b,c,d,e,f,g].map .int):=λ Z Z Z Z Z Z Z=>rfl
 refine dP (λ K=>∀A H',MH.Sub H H'->H' A=some (.list ((bases88.take 2).map λ b=>.tuple (b.map .int)))->K (.ref A) H') (λ K k c hc=>k c _ (bZ hc) (MH.set_self _ _ _)) ?_
 intro A1 H1 s1 h1
 dsimp only [aC,aD]
 refine dP (λ K=>∀A H',MH.Sub H H'->H' A=some (.list ((bases88.take 4).map λ b=>.tuple (b.map .int)))->K (.ref A) H') (λ K k=>?_) ?_
 ·intro c hc
  have nc:A1≠c:=cH h1 hc b7
  refine qx ((MH.set_ne _ _ nc).trans h1) (MH.set_self _ _ _) (by decide) λ e he=>k e _ ?_ (by rw [MH.set_self];rfl)
  exact bx (bY he) λ Z he2=>(a7 (a7 s1 (s1.none hc)) (s1.none he2))
 clear s1 h1
 intro A2 H2 s1 h1
 dsimp only [aC,aD]
 refine dP (λ K=>∀A H',MH.Sub H H'->H' A=some (.list (bases88.map λ b=>.tuple (b.map .int)))->K (.ref A) H') (λ K k=>?_) ?_
 ·intro c hc
  have nc:A2≠c:=cH h1 hc b7
  refine qx ((MH.set_ne _ _ nc).trans h1) (MH.set_self _ _ _) (by decide) λ e he=>k e _ ?_ (by rw [MH.set_self];rfl)
  exact bx (bY he) λ Z he2=>(a7 (a7 s1 (s1.none hc)) (s1.none he2))
 clear s1 h1 H1
 intro A H1 s1 h1 Sx hS Rr hR D hD
 refine bx (bY hR) λ nR hR1=>(bx (bY hD) λ nD hD1=>(bx (bY hD1) λ nD2 hD2=>?_))
 have nA:∀{x:aI},H1 x=none->A≠x:=λ hx q=>by rw [<-q,h1] at hx;exact b7 hx
 exact kk A Sx Rr D _ ⟨a7 (a7 (a7 s1 (s1.none hS)) (s1.none hR1)) (s1.none hD2),by (refine af (MH.set_ne _ _ (nA hD2)) (af (MH.set_ne _ _ (nA hR1)) (af (MH.set_ne _ _ (nA hS)) ?_)));exact h1,by (exact af (MH.set_ne _ _ nD.symm) (af (MH.set_self _ _ _) rfl)),MH.set_self _ _ _,
  .inl ⟨by (exact af (MH.del_ne _ nD2.symm) (af (MH.set_ne _ _ nD2.symm) (af (MH.set_ne _ _ nR.symm) (af (MH.set_self _ _ _) rfl)))),rfl⟩,.inl ⟨by (exact af (MH.del_ne _ nR.symm) (af (MH.set_ne _ _ nD2.symm) (af (MH.set_ne _ _ nR.symm) (af (MH.set_self _ _ _) rfl)))),rfl⟩,by simp,nofun,by simp,by simp,(λ Z z=>(cI z).elim),λ T2 Z c hc=>⟨c,.nil _ _,hc,by simp⟩,nD.symm,nA hD2,s1.none hD2,s1.none hS,s1.none hR1⟩
theorem Ab:∀i:Nat,i<6->∃b:List Int,ix (bases88.map λ b=>V.tuple (b.map .int)) i=some (.tuple (b.map .int))/\b.length=7/\∀x∈b,0<=x/\x<2^127:=
 oP (oP (oP (oP (oP (oP Ey ⟨_,rfl,rfl,by decide⟩) ⟨_,rfl,rfl,by decide⟩) ⟨_,rfl,rfl,by decide⟩) ⟨_,rfl,rfl,by decide⟩) ⟨_,rfl,rfl,by decide⟩) ⟨_,rfl,rfl,by decide⟩
namespace kH
def S_ (zs:List Int) (order:aw) (H:MH) (A Sx D R:aI) (i:Nat) (T rows jQ H1 x7 x8 x9 qk):=∀{N:db->MH->Prop} {RR:V->MH->Prop} {X:aw->MH->Prop} (hz:zs.length<=1000) (ho:order="big"\/order="little") (hi:i<6) (h:CX order H A Sx D i R T rows jQ H1) (kk:∀R' T' rows' due' H' x7 x8 x9 qk,CX order H A Sx D (i+1) R' T' rows' due' H'->N (ρ88 zs order A Sx R' D (some (.int i)) x7 x8 x9 qk) H'),wpSs tb0 7 [.ite (.cmp .Lt (.bin .Mod (.bin .Add (.sub (.sub (.loc 2) (.loc 6)) (.int 0)) (.call (.fn (aa "_law_digit") (.user 80)) [(.loc 0),(.bin .Mult (.int 7) (.loc 6))])) (.int 8)) (.int 6))
   [.assign (.tup [9,10]) (.call (.fn (aa "_law_nat") (.user 86)) [(.loc 6),(.sub (.loc 2) (.loc 6)),(.loc 0),(.loc 3)])]
   [.assign (.tup [9,10]) (.call (.fn (aa "_law_rest") (.user 87)) [(.sub (.loc 2) (.loc 6)),(.loc 0),(.loc 6),(.loc 1)])],
  .for_ (.tup [7,8]) (.loc 10)
   [.expr (.meth (.loc 5) (aa "append") [(.tup [(.bin .Add (.call (.fn (aa "len") (.bi "len")) [(.loc 4)]) (.loc 7)),(.loc 8)])])],
  .assign (.loc 4) (.bin .Add (.loc 4) (.loc 9))] (ρ88 zs order A Sx R D (some (.int i)) x7 x8 x9 qk) H1 N RR X
def U_:=UV λ zs order H=>UV λ A Sx D=>UV λ R i T=>UV λ rows jQ H1=>UV λ x7 x8 x9=>S_ zs order H A Sx D R i T rows jQ H1 x7 x8 x9
def t_:=dr (by infer_instance) U_
def zs:=t_.1
def order:=t_.2.1
def H:=t_.2.2.1
def A:=t_.2.2.2.1
def Sx:=t_.2.2.2.2.1
def D:=t_.2.2.2.2.2.1
def s1_:=t_.2.2.2.2.2.2
def R:=s1_.1
def i:=s1_.2.1
def T:=s1_.2.2.1
def rows:=s1_.2.2.2.1
def jQ:=s1_.2.2.2.2.1
def H1:=s1_.2.2.2.2.2.1
def s2_:=s1_.2.2.2.2.2.2
def x7:=s2_.1
def x8:=s2_.2.1
def x9:=s2_.2.2.1
def qk:=s2_.2.2.2
theorem P_:S_ zs order H A Sx D R i T rows jQ H1 x7 x8 x9 qk:=by
 intro N RR X hz ho hi h kk
 refine cJ (Ab _ hi) λ b hb1 hb2 hb3=>?_
 have g0:ix (b.map V.int) 0=some (.int (b.getD 0 0)):=wc ⟨by decide,by decide⟩ (by
  have hk:(0:Int).toNat<b.length:=by refine af hb2 ?_;decide
  rw [aF,aJ,an hk]
  show _=some (V.int ((b[(0:Int).toNat]?).getD 0))
  rw [an hk];rfl)
 have hiz:(0:Int)<=(i:Int)/\(i:Int)<6:=by lia
 refine eC (λ ρ K=>∀a b rows2 due2 T' H',H' a=some (.list rows2)->H' b=some (.list (a8 stV due2))->cE (H'.del D) Sx T'->MH.Sub (H1.del Sx) H'->H1 a=none->H1 b=none->(T'=T\/∃ls,T'=T++[(("s":aw)++dg i,ls)])->(∀T2,mN T' T2->PartOk T2 order rows2 due2)->K ((ρ.set 9 (some (.ref a))).set 10 (some (.ref b))) H') (λ K k=>?_) ?_
 ·show wpSs tb0 7 [_] _ _ _ _ _
  refine bB (decide ((b.getD 0 0+digit zs (7*i)) %8<6)) ?_ (λ e=>?_) (λ e=>?_)
  ·exact cZ h.hA hb1 (ji g0 (aj (ed (by decide)) (bS EB ⟨zs,rfl,aT _,by lia,hz,rfl,rfl⟩)))
  ·refine cZ h.hA hb1 (bS Mi ⟨b,zs,T,rfl,hb2,hb3,rfl,hz,hiz.1,by lia,h.hS.sub jl,by have:=h.Tl;lia,h.Tn,of_decide_eq_true e,λ a b2 rows2 due2 T' H' e1 e2 e3 e4 e5 e6 e7 e8 e9=>?_⟩)
   exact ⟨rfl,k a b2 rows2 due2 T' H' e1 e2 (e9 D (by refine af h.hD ?_;nofun) (by rcases h.hS with ⟨e,_⟩|⟨es,e,_⟩<;>exact λ z=>by rw [z,MH.del_self] at e;exact bF e) h.hS) e4 e5 e6 e7 λ T2 g=>e8 T2 g.1 g.2 order ho⟩
  ·refine cZ h.hA hb1 (bS MX ⟨b,zs,rfl,by lia,hb3,rfl,hz,hiz.1,by lia,ho,λ a b2 rows2 due2 H' e1 e2 e3 e4 e5 e6=>?_⟩)
   exact ⟨rfl,k a b2 rows2 due2 T H' e1 e2 (h.hS.sub (del_both e3)) (jl.trans e3) e4 e5 (.inl rfl) λ T2 g=>e6 T2⟩
 intro a b2 rows2 due2 T' H2 ha hb hS2 s2 na nb hT' hP
 have hSx:∃o,H1 Sx=some o/\∀vs,o≠.list vs:=by
  rcases h.hS with ⟨e,_⟩|⟨es,e,_⟩<;>exact ⟨_,jl _ _ e,nofun⟩
 refine aL hSx λ o hSx_ hol=>?_
 clear hSx
 revert hSx_;intro hSx
 have ne:∀{x:aI} {vs:List V},H1 x=some (.list vs)->x≠Sx:=λ e q=>by rw [q,hSx] at e;(have e:=ac e;subst e);exact hol _ rfl
 have hA2:=mX s2 (ne h.hA) h.hA
 have hR2:=mX s2 (ne h.hR) h.hR
 have hD2:=mX s2 (ne h.hD) h.hD
 have sH2:MH.Sub H H2:=λ x o e=>by
  have:x≠Sx:=cH e h.oS b7
  exact s2 _ _ (by refine af (MH.del_ne _ this) ?_;exact h.sub _ _ e)
 have dn1:D≠b2:=cH h.hD nb b7
 have dn2:D≠a:=cH h.hD na b7
 have rn1:R≠b2:=cH h.hR nb b7
 have an1:A≠b2:=cH h.hA nb b7
 have hoS2:∃o,H2 Sx=some o/\∀vs,o≠.list vs:=by
  rcases hS2 with ⟨e,_⟩|⟨es,e,_⟩<;>exact ⟨_,jl _ _ e,nofun⟩
 refine aL hoS2 λ o2 hSx2 hol2=>?_
 clear hoS2
 have sn:Sx≠D:=λ q=>by rw [q,hD2] at hSx2;(have hSx2:=ac hSx2;subst hSx2);exact hol2 _ rfl
 have hPl:due2.length<=2/\rows2.length<=30/\∀p∈due2,datV 12 p.2=true:=by
  have hg:mN T' T':=by
   refine m8 λ n ls hn=>?_
   rcases hT' with rfl|⟨l2,rfl⟩
   ·exact cJ (h.Tn n ls hn) λ j j0 j1 e=>⟨j,j0,by lia,e⟩
   ·rcases cv.mp hn with hn|hn
    ·exact cJ (h.Tn n ls hn) λ j j0 j1 e=>⟨j,j0,by lia,e⟩
    ·rw [aK] at hn;cases hn
     exact ⟨i,aT _,by lia,rfl⟩
  exact oB (hP T' hg) λ p1 p2 p3 Z=>⟨p2,p1,p3⟩
 have rlim:=h.rl
 have dlim:=h.dl
 generalize hsh:(λ p:Int×V=>((rows.length:Int)+p.1,p.2))=sh
 refine ma (.ref b2) (us:=due2.map stV) (λ j K=>∀x7 x8 H',H' D=some (.list ((jQ++(due2.take j).map sh).map stV))->(∀x,x≠D->H' x=(H2.del b2) x)->K (ρ88 zs order A Sx R D (some (.int i)) x7 x8 (some (.ref a)) (some (.ref b2))) H') (λ K k=>k) (l7 hb) (λ K k=>k x7 x8 _ ?_ λ x Z=>rfl) ?_ ?_
 ·refine af Ha (af (MH.del_ne _ dn1) (af hD2 ?_));simp
 ·intro j u N' e k x7 x8 H3 eD eO
  rw [aF] at e
  refine aL (aH.mp e) λ p hp r1_=>?_
  subst r1_
  have hR3:H3 R=some (.list rows):=by (refine af (eO _ h.nRD) (af (MH.del_ne _ rn1) ?_));exact hR2
  refine aj rfl ?_
  show wpE _ _ _ _ _ _ _ _
  refine jD rfl (mM eD) (kF hR3 (by lia) ⟨_,eD,by (refine af (ag _) (af az (af (ag _) (af bU ?_))));lia,?_⟩)
  refine aj rfl (k _ _ λ K k=>k _ _ _ ?_ λ x hx=>(MH.set_ne _ _ hx).trans (eO x hx))
  have:(jQ++(due2.take (j+1)).map sh).map stV=(jQ++(due2.take j).map sh).map stV++[.tuple [.int ((rows.length:Int)+p.1),p.2]]:=by
   refine af dp (af hp (af hsh.symm ?_))
   simp [stV]
  refine af this ?_
  exact MH.set_self _ _ _
 intro x7 x8 H4 eD eO _
 rw [ag,c8] at eD
 refine af (lQ hb) ?_
 generalize hH3:H4.set b2 (.list (due2.map stV))=H3
 have hO:∀x,x≠D->H3 x=H2 x:=λ x hx=>by
  refine af hH3.symm ?_
  by_cases q:x=b2
  ·subst q;(exact af (MH.set_self _ _ _) (af hb rfl))
  ·exact af (MH.set_ne _ _ q) (af (eO x hx) (af (MH.del_ne _ q) rfl))
 have hD3:H3 D=some (.list ((jQ++due2.map sh).map stV)):=by (exact af hH3.symm (af (MH.set_ne _ _ dn1) (af eD rfl)))
 have hR3:H3 R=some (.list rows):=by exact af (hO _ h.nRD) hR2
 have ha3:H3 a=some (.list rows2):=by exact af (hO _ dn2.symm) ha
 refine qx hR3 ha3 (by simp only [bG];lia) λ W hW=>?_
 have nW:∀{x:aI} {o:bK},H3 x=some o->x≠W:=λ e q=>by rw [q,hW] at e;exact bF e
 have sW:=bZ (o:=.list (rows++rows2)) hW
 have sH3:MH.Sub H H3:=λ x o e=>by
  have:x≠D:=cH e h.oD b7
  refine af (hO _ this) ?_;exact sH2 _ _ e
 have hS3:cE (H3.del D) Sx T':=hS2.sub λ x o e=>by
  have:x≠D:=cH e (MH.del_self _ _) b7
  rw [MH.del_ne _ this] at e⊢
  exact af (hO _ this) e
 refine kk W T' (rows++rows2) (jQ++due2.map sh) _ _ _ _ _ ⟨sH3.trans sW,sW _ _ (by exact af (hO _ h.nAD) hA2),MH.set_self _ _ _,sW _ _ hD3,hS3.sub (del_both sW),(hS3.sub jl).sub (λ x o e=>by
  have:x≠W:=nW e
  refine af (MH.del_ne _ this) (af (MH.set_ne _ _ this) ?_);exact e),?_,?_,?_,?_,?_,?_,(nW hD3).symm,h.nAD,h.oD,h.oS,sH3.none hW⟩
 ·rcases hT' with rfl|⟨l2,rfl⟩
  ·exact cL h.Tl
  ·refine af az (af aV ?_);exact cw h.Tl
 ·intro n ls hn
  rcases hT' with rfl|⟨l2,rfl⟩
  ·exact cJ (h.Tn n ls hn) λ j j0 j1 e=>⟨j,j0,Ia ‹_›,e⟩
  ·rcases cv.mp hn with hn|hn
   ·exact cJ (h.Tn n ls hn) λ j j0 j1 e=>⟨j,j0,Ia ‹_›,e⟩
   ·rw [aK] at hn;cases hn
    exact ⟨i,aT _,jm _,rfl⟩
 ·refine af az ?_;lia
 ·refine af az (af (ag _) ?_);lia
 ·intro p hp
  rcases cv.mp hp with hp|hp
  ·exact h.dd p hp
  ·refine aL (bE.mp hp) λ p2 hp2 r1_=>?_
   subst r1_
   refine af hsh.symm ?_;exact hPl.2.2 p2 hp2
 ·intro T2 hg c hc
  have hg0:mN T T2:=by
   rcases hT' with rfl|⟨l2,rfl⟩
   ·exact hg
   ·exact ⟨λ n ls e=>hg.1 n ls (by (refine af fx (af e ?_));rfl),hg.2⟩
  refine cJ (h.run T2 hg0 c hc) λ c1 r1 n1 e1=>(oB (hP T2 hg) λ Z Z Z pr=>(cJ (pr (0+(rows.length:Int)) c1 n1) λ c2 r2 n2 e2=>⟨c2,r1.app r2,n2,?_⟩))
  exact af e2 (af e1 (af (eS _ _ _) (af hsh.symm (af (Int.zero_add _) rfl))))
theorem A_:∀p,U_ p:=bC P_
end kH
theorem kH {zs order H A Sx D R i T rows jQ H1 x7 x8 x9 qk}:kH.S_ zs order H A Sx D R i T rows jQ H1 x7 x8 x9 qk:=kH.A_ (zs,order,H,A,Sx,D,R,i,T,rows,jQ,H1,x7,x8,x9,qk)
theorem KM (h:H a=some (.sdict es)):methOf tb0 H (.ref a) (aa "update")=some (.bi "dict.update"):=by
 unfold methOf
 dsimp only
 refine af h ?_;rfl
namespace Fq
def S_ (H Q X order zs A Sx D R T rows x6 x7 x8 x9 qk H2):=∀(q:Q (V.bool true) H) (jQ:List (Int×V)) (hst:CX order H A Sx D 6 R T rows jQ H2) (hgood:mN T T) (oS:bK) (hSx:H2 Sx=some oS),wpSs tb0 7 (c88.drop 7) [some (V.flist (a8 V.int zs)),some (V.str order),some (V.ref A),some (V.ref Sx),some (V.ref R),some (V.ref D),x6,x7,x8,x9,qk,none,none,none,none] H2 (λ x H'↦Fg Q V.none H') (Fg Q) (rE X)
def U_:=UV λ H Q X=>UV λ order zs A=>UV λ Sx D R=>UV λ T rows x6=>UV λ x7 x8 x9=>UU λ qk=>S_ H Q X order zs A Sx D R T rows x6 x7 x8 x9 qk
def t_:=dr (by infer_instance) U_
def H:=t_.1
def Q:=t_.2.1
def X:=t_.2.2.1
def order:=t_.2.2.2.1
def zs:=t_.2.2.2.2.1
def A:=t_.2.2.2.2.2.1
def s1_:=t_.2.2.2.2.2.2
def Sx:=s1_.1
def D:=s1_.2.1
def R:=s1_.2.2.1
def T:=s1_.2.2.2.1
def rows:=s1_.2.2.2.2.1
def x6:=s1_.2.2.2.2.2.1
def s2_:=s1_.2.2.2.2.2.2
def x7:=s2_.1
def x8:=s2_.2.1
def x9:=s2_.2.2.1
def qk:=s2_.2.2.2.1
def H2:=s2_.2.2.2.2
theorem P_:S_ H Q X order zs A Sx D R T rows x6 x7 x8 x9 qk H2:=by
 intro q jQ hst hgood oS hSx
 refine dP (λ K=>∀r B z H',dZ B H' r z->MH.Sub H2 B->z.at_=0->z.sets=Sx->(∀i,z.sl i=none)->z.n=0->z.eff=[]->z.dropped≠R->K (.ref r) H') (λ K k=>?_) ?_
 ·intro a ha
  refine λ r d hr=>?_
  refine bx (bY hr) λ nr hr2=>?_
  refine ⟨d,MH.set_self _ _ _,nr,cH hr2 hSx bF,λ z H' hR ha0 ho hs hsl hn he hdr=>⟨rfl,k r _ z _ hR (λ x o e=>?_) ha0 hs hsl hn he λ q=>?_⟩⟩
  ·have n1:x≠r:=cH e hr2 b7
   have n2:x≠a:=cH e ha b7
   refine af (MH.del_ne _ n1) (af (MH.set_ne _ _ n1) (af (MH.set_ne _ _ n2) ?_));exact e
  ·have hR2:=hst.hR
   have n1:R≠r:=cH hR2 hr2 b7
   have n2:R≠a:=cH hR2 ha b7
   rw [q,MH.del_ne _ n1,MH.set_ne _ _ n1,MH.set_ne _ _ n2,hR2] at hdr
   exact b7 hdr
 intro r B z H3 hR hB za zs' zl zn ze zd
 dsimp only [aC,aD]
 refine eC (λ ρ K=>∀H',dZ B H' r {z with order:=order}->K ρ H') (λ K k=>kf hR.at_r rfl rfl (k _ (hR.setOrder (o:=order)))) ?_
 intro H4 hR4
 clear hR
 refine dP (λ K=>∀nB H',dZ (B.set nB (.sdict backs0)) H' r {z with order:=order}->B nB=none->K (.ref nB) H') (λ K k=>bS L8 λ c hc=>k c _ (hR4.add hc) (hR4.keep.none hc)) ?_
 intro nB H5 hR5 hBn
 dsimp only [aC,aD]
 refine eC (λ ρ K=>∀H',dZ (B.set nB (.sdict backsAll)) H' r {z with order:=order}->K ρ H') (λ K k=>?_) ?_
 ·have h5:=hR5.keep nB _ (MH.set_self _ _ _)
  show wpE _ _ _ _ _ _ _ _
  refine jD rfl (KM h5) ?_
  intro c hc
  have nc:nB≠c:=cH h5 hc b7
  refine ⟨backs0,[("immediate",.fn (.user 32)),("meta",.fn (.user 31)),("cmp",.fn (.user 34)),("map",.fn (.user 35))],nc,by exact af (MH.set_ne _ _ nc) h5,by refine af (MH.set_self _ _ _) ?_;rfl,by decide,by decide,?_⟩
  have h6:=(hR5.sub (bZ (o:=.sdict ((a8 (λ p=>(p.1,V.fn p.2.2)) [(aa "immediate",aa "back_immediate",Fn.user 32),(aa "meta",aa "back_meta",Fn.user 31),(aa "cmp",aa "back_cmp",Fn.user 34),(aa "map",aa "back_map",Fn.user 35)]))) hc)).change (o':=.sdict backsAll) (MH.set_self _ _ _) nofun
  have e:(B.set nB (.sdict backs0)).set nB (.sdict backsAll)=B.set nB (.sdict backsAll):=by
   funext x
   by_cases q:x=nB
   ·subst q;(exact af (MH.set_self _ _ _) (af (MH.set_self _ _ _) rfl))
   ·exact af (MH.set_ne _ _ q) (af (MH.set_ne _ _ q) (af (MH.set_ne _ _ q) rfl))
  rw [e] at h6
  exact ⟨rfl,k _ h6⟩
 intro H6 hR6
 clear hR4 hR5
 have hB2:MH.Sub H2 (B.set nB (.sdict backsAll)):=a7 hB (hB.none hBn)
 generalize hBB:B.set nB (.sdict backsAll)=B2 at*
 have hnB:B2 nB=some (.sdict backsAll):=by (exact af hBB.symm (af (MH.set_self _ _ _) rfl))
 have hRR:=hB2 _ _ hst.hR
 have hDD:=hB2 _ _ hst.hD
 have nBR:nB≠R:=cH hnB hRR (λ q=>oJ q rfl)
 have hS2:cE (B2.del R) Sx T:=hst.hSR.sub (del_both hB2)
 refine cJ (hst.run T hgood ⟨z.sl,0,[]⟩ (λ i Z=>zl i)) λ cfin hrun Z hfin=>?_
 rw [dy] at hfin
 have rlim:=hst.rl
 refine ma (.ref R) (us:=rows) (λ i K=>∀(z:RS) (c:Cr) x13 uJ H',dZ (B2.del R) H' r z->z.at_=i->z.sl=c.sl->z.n=c.n->z.eff=c.eff->z.order=order->z.sets=Sx->c.n<=2*i->c.eff.length<=i->iT T order i c (rows.drop i) cfin->K [some (.flist (zs.map .int)),some (.str order),some (.ref A),some (.ref Sx),some (.ref R),some (.ref D),x6,x7,x8,x9,qk,some (.ref r),some (.ref nB),x13,uJ] H') (λ K k=>k) (l7 (hR6.keep _ _ hRR)) ?_ ?_ ?_
 ·refine λ K k=>k _ ⟨z.sl,0,[]⟩ _ _ _ (hR6.aside hRR zd) za rfl zn ze rfl zs' (cU _) (cU _) ?_
  exact af t5 hrun
 ·intro i row N' e k z c x13 uJ H7 hR7 ya yl yn ye yo ys bn be hsteps
  have hi:=(aO.mp e).1
  have hdrop:rows.drop i=row::rows.drop (i+1):=by
   refine af (cC hi) ?_
   rw [an hi] at e;(have e:=ac e;subst e);rfl
  rw [hdrop] at hsteps
  cases hsteps with
  |cons hs1 hs2=>
   rename_i c1
   have dims:c1.n<=c.n+2/\c1.eff.length<=c.eff.length+1:=by
    obtain ⟨_,_,_,_,_,_,_,h1,h2⟩:=vX (Q:=λ Z Z=>True) (X:=j9) hR7 ya yl yn ye yo (by exact af ys hS2) (by lia) (by lia) hs1 (λ Z Z Z Z Z Z Z Z Z=>trivial)
    exact ⟨h1,h2⟩
   obtain ⟨tag,rest,f,rfl,hl,hlv,hsp,_,_⟩:=vX (Q:=λ u H8=>u=.none/\∀uJ,wpSs tb0 7 [.augattr (.loc 11) (aa "at") .Add (.int 1)] [some (.flist (zs.map .int)),some (.str order),some (.ref A),some (.ref Sx),some (.ref R),some (.ref D),x6,x7,x8,x9,qk,some (.ref r),some (.ref nB),some row,uJ] H8 N' (λ r H9=>Fg Q r (backOf H6 H9 (.ref R))) j9) (X:=j9) hR7 ya yl yn ye yo (by exact af ys hS2) (by lia) (by lia) hs1 (λ z' H8 hR8 wa wl wn we wo ws=>⟨rfl,λ uJ=>by
    refine cF hR8.at_r rfl ?_
    refine kf hR8.at_r rfl rfl ?_
    exact k _ _ λ K k=>k _ c1 _ _ _ (hR8.setAt (t:=z'.at_+1) (by lia)) (by show z'.at_+1=((i+1:Nat):Int);lia) wl wn we wo (ws.trans ys) (by lia) (by lia) hs2⟩)
   have h7:H7 nB=some (.sdict backsAll):=hR7.keep _ _ (by exact af (MH.del_ne _ nBR) hnB)
   refine bN (u:=.fn (.user f)) ?_ ?_
   ·exact xD h7 hl ⟨rfl,rfl⟩
   dsimp only [aC,aD]
   refine p8 (hV.mpr hlv) ?_
   refine (lU.m _ _ _ _ _ _ _ (λ u H8 hq=>⟨hq.1,hq.2 _⟩) (λ Z Z z=>z) hsp)
 ·intro z c x13 uJ H7 hR7 ya yl yn ye yo ys bn be hsteps hRn
  have hRn:=hRn R rfl
  refine af (lQ (hR6.keep _ _ hRR)) ?_
  have hR8:=hR7.sub (bZ (o:=.list rows) hRn)
  rw [i5] at hsteps
  cases hsteps
  refine eC (λ ρ K=>∀c2 H',dZ (B2.del R) H' r {z with pend:=c2}->H' c2=some (.list [])->K ρ H') (λ K k=>?_) ?_
  ·exact bS Kh ⟨_,z,hR8,by refine af ye ?_;lia,λ c2 H' hR9 hc2=>⟨rfl,k c2 H' hR9 hc2⟩⟩
  intro c2 H9 hR9 hc2
  have hst9:=hR9.flushed hc2
  have heff:z.eff=jQ:=ye.trans hfin
  have hst9:H9 z.stmts=some (.list (jQ.map stV)):=by exact af heff.symm hst9
  have hD9:H9 D=some (.list (jQ.map stV)):=hR9.keep _ _ (by exact af (MH.del_ne _ hst.nRD.symm) hDD)
  refine cF hR9.at_r rfl (qy (QB:=λ b=>br (eqb true b) (wpB tb0 7 true _ _ H9 (Fg Q) (rE X)) (Fg Q (.bool b) H9)) hst9 hD9 hst.dd (cF hR9.at_r rfl ?_))
  intro e he
  have n1:c2≠e:=cH hc2 he b7
  refine qy (S:=[]) (QB:=λ b=>br (eqb true b) (wpB tb0 7 true _ _ (H9.set e (.list [])) (Fg Q) (rE X)) (Fg Q (.bool b) (H9.set e (.list [])))) (by exact af (MH.set_ne _ _ n1) hc2) (MH.set_self _ _ _) (λ Z z=>(cI z).elim) ?_
  have hR10:=hR9.sub (bZ (o:=.list []) he)
  refine cF hR10.at_r rfl ?_
  intro e2 he2
  have hd10:=hR10.dropped
  have n2:z.dropped≠e2:=λ q=>by
   have:(H9.set e (.list [])) z.dropped=some (.list []):=hd10
   rw [q,he2] at this;cases this
  refine qy (S:=[]) (QB:=λ b=>Fg Q (.bool b) ((H9.set e (.list [])).set e2 (.list []))) (by exact af (MH.set_ne _ _ n2) hd10) (MH.set_self _ _ _) (λ Z z=>(cI z).elim) ?_
  have s10:MH.Sub H (B2.del R):=λ x o ex=>by
   have n:x≠R:=cH ex hst.oR b7
   refine af (MH.del_ne _ n) ?_;exact hB2 _ _ (hst.sub _ _ ex)
  exact DU (s10.trans (hR10.keep.trans (bZ he2))) q
theorem A_:∀p,U_ p:=bC P_
end Fq
theorem Nq:VC BQ 7 ps88 nm88 [] c88:=by
 intro us H Q X h
 refine Jl (λ l order h=>?_) h
 ·refine fy h λ zs r1_ hz ho q=>?_
  subst r1_
  refine ⟨rfl,?_⟩
  show wpSs tb0 7 (d88a++d88b) [some (.flist (zs.map .int)),some (.str order),none,none,none,none,none,none,none,none,none,none,none,none,none] H _ _ _
  refine kL (Hf λ A Sx R D H1 h0=>?_)
  refine ma (.range 6) (us:=(bH 6).map λ (i:Nat)=>.int i) (λ i K=>∀R T rows jQ x6 x7 x8 x9 qk H',CX order H A Sx D i R T rows jQ H'->K (ρ88 zs order A Sx R D x6 x7 x8 x9 qk) H') (λ K k=>aj (by decide) (aj (by decide) k)) rfl (λ K k=>k R [] [] [] _ _ _ _ _ _ h0) ?_ ?_
  ·intro i u N' e k R T rows jQ x6 x7 x8 x9 qk H2 hst
   rw [aF] at e
   refine aL (aH.mp e) λ j hj r1_=>?_
   subst r1_
   obtain ⟨hj1,hj2⟩:=aO.mp hj
   rw [fv] at hj2
   subst hj2
   rw [bP] at hj1
   exact kH hz ho hj1 hst λ R' T' rows' due' H' x7 x8 x9 qk hst'=>k _ _ λ K k=>k R' T' rows' due' _ _ _ _ _ _ hst'
  clear h0 R
  intro R T rows jQ x6 x7 x8 x9 qk H2 hst _
  rw [ag,bP] at hst
  show wpSs tb0 7 _ _ H2 _ _ _
  simp only [ρ88]
  have hgood:mN T T:=m8 λ n ls hn=>by
   exact cJ (hst.Tn n ls hn) λ j j0 j1 e=>⟨j,j0,by lia,e⟩
  have hSx2:∃o,H2 Sx=some o:=by
   rcases hst.hS with ⟨e,_⟩|⟨es,e,_⟩<;>exact ⟨_,jl _ _ e⟩
  refine bw hSx2 λ oS hSx=>?_
  exact Fq.A_ (H,Q,X,order,zs,A,Sx,D,R,T,rows,x6,x7,x8,x9,qk,H2) q jQ hst hgood oS hSx
end
section
open PySem PySem.W PyProof.Rows PySem.Calls
section
variable {cx:Cx}
theorem gS (r:VRels cx h [u] vs):∃v,vs=[v]/\VRel cx h u v:=by
 refine cu r.cons_inv λ v vs' r1_ r1 r2=>?_
 subst r1_
 exact af r2.nil_inv ⟨v,rfl,r1⟩
theorem li (r:VRels cx h [u1,u2] vs):∃v1 v2,vs=[v1,v2]/\VRel cx h u1 v1/\VRel cx h u2 v2:=by
 refine cu r.cons_inv λ v vs' r1_ r1 r2=>?_
 subst r1_
 refine aL (gS r2) λ v2 r1_ r3=>?_
 subst r1_
 exact ⟨v,v2,rfl,r1,r3⟩
theorem AU (r:VRels cx h [u1,u2,u3] vs):∃v1 v2 v3,vs=[v1,v2,v3]/\VRel cx h u1 v1/\VRel cx h u2 v2/\VRel cx h u3 v3:=by
 refine cu r.cons_inv λ v vs' r1_ r1 r2=>?_
 subst r1_
 refine cu (li r2) λ v2 v3 r1_ r3 r4=>?_
 subst r1_
 exact ⟨v,v2,v3,rfl,r1,r3,r4⟩
theorem G8 (ha:cx.addr (.bi "len")=.builtin "len"):CallOk cx tb0 (.bi "len"):=by
 intro A H s us vs Q X am st lk I r q
 refine af ha ?_
 replace q:CF us H Q X:=q
 revert r
 refine NC (λ u q=>?_) q
 ·intro r
  refine aL (gS r) λ v r1_ rv=>?_
  subst r1_
  split at q
  ·rename_i n hn
   refine bx q λ hle q_=>?_
   clear q
   revert q_;intro q
   unfold lenOf at hn
   set_option tactic.hygienic true in split at hn
   ·rename_i us
    (have hn:=ac hn;subst hn)
    refine cu (fA rv) λ a aB r1_ ht rs=>?_
    subst r1_
    have hl:aB.size=us.length:=by refine af rs.len.symm ?_;simp
    exact PyProof.Rows.len_tuple ht (by lia) (by refine af hl ?_;exact bO.tok I du q)
   ·rename_i us
    cases hn
    refine cu rv λ a aB r1_ w2_ rs=>?_
    clear rv
    subst r1_
    refine aL w2_ λ ob ho hr=>?_
    clear w2_
    have hl:aB.size=us.length:=by refine af rs.len.symm ?_;simp
    exact so ⟨ob,I.base _ _ ho,hr⟩ (by lia) (by refine af hl ?_;exact bO.tok I du q)
   ·rename_i b
    cases hn
    refine aL rv λ t r1_ hb=>?_
    clear rv
    subst r1_
    have hl:(w9 b).size=b.length:=by refine af (xF _) ?_;simp
    exact PySem.W.len_bytes (by lia) (by refine af hl ?_;exact bO.tok I du q)
   ·rename_i a
    have:=dh rv;subst this
    set_option tactic.hygienic true in split at hn
    ·rename_i us e
     (have hn:=ac hn;subst hn)
     refine f7 (I.own _ _ e) λ aB nn ho rs=>?_
     have hl:aB.size=us.length:=by refine af rs.len.symm ?_;simp
     exact so ⟨_,ho,rfl,nn,rfl⟩ (by lia) (by rw [hl];exact bO.tok I du q)
    ·exact bF hn
   ·exact bF hn
  ·exact q.elim
theorem CI (ha:cx.addr (.ty "range")=.type "range"):CallOk cx tb0 (.ty "range"):=by
 intro A H s us vs Q X am st lk I r q
 rw [ha]
 replace q:ui us H Q X:=q
 revert r
 refine Hx (λ n q=>?_) q
 ·intro r
  refine aL (gS r) λ v r1_ rv=>?_
  subst r1_
  refine bw (cn rv) λ t r1_=>?_
  subst r1_
  refine gK q λ h0 h1 q_=>?_
  clear q
  revert q_;intro q
  refine call_range_1 (bO.priv I (λ b o e=>ak _ e) ?_ q)
  exact ⟨_,_,_,_,rfl,IsRange.new ..,h0,h1⟩
theorem G9 (ha:cx.addr (.ty "str")=.type "str"):CallOk cx tb0 (.ty "str"):=by
 intro A H s us vs Q X am st lk I r q
 rw [ha]
 replace q:Ct us H Q X:=q
 revert r
 refine Hx (λ k q=>?_) q
 ·intro r
  refine aL (gS r) λ v r1_ rv=>?_
  subst r1_
  refine bw (cn rv) λ t r1_=>?_
  subst r1_
  refine gK q λ h0 h1 q_=>?_
  clear q
  revert q_;intro q
  refine bw (bL h0) λ j r1_=>?_
  subst r1_
  have e:(toString (j:Int):String)=toString j:=rfl
  refine PySem.P.str_of_int ?_ ?_
  ·have:(j:Int).natAbs=j:=rfl
   refine af this ?_
   have:j<2^4:=by lia
   have:=sq (n:=j) (k:=4)
   by_cases hj:j=0
   ·subst hj;decide
   ·have:=(sq hj).mpr ‹j<2^4›
    exact ao ‹_› (by decide)
  ·exact bO.tok I uF q
theorem CY (ha:cx.addr (.ty "tuple")=.type "tuple"):CallOk cx tb0 (.ty "tuple"):=by
 intro A H s us vs Q X am st lk I r q
 refine af ha ?_
 replace q:uH us H Q X:=q
 revert r
 refine rG (λ a q=>?_) q
 ·intro r
  refine aL (gS r) λ v r1_ rv=>?_
  subst r1_
  have:=dh rv;subst this
  refine cJ q λ us e hl q_=>?_
  clear q
  revert q_;intro q
  refine f7 (I.own _ _ e) λ aB nn ho rs=>?_
  have hz:aB.size=us.length:=by refine af rs.len.symm ?_;simp
  refine call_tuple_list ⟨_,ho,rfl,nn,rfl⟩ (λ h' hk=>?_) (by refine af hz ?_;simp only [bG];exact ao ‹_› (by decide))
  have hk2:∀b o,s.heap.get? b=some o->(h'.push {cls:=.type "tuple",data:=.seq aB}).get? b=some o:=λ b o e=>ak _ (hk b o e)
  exact bO.priv I hk2 (jF (rD (bu _ rfl)) (rs.mono (bQ.of_keeps hk2) _)) q
theorem EA (ha:cx.addr (.ty "list")=.type "list"):CallOk cx tb0 (.ty "list"):=by
 intro A H s us vs Q X am st lk I r q
 refine af ha ?_
 replace q:xB us H Q X:=q
 revert r
 refine rG (λ a q=>?_) q
 ·intro r
  refine aL (gS r) λ v r1_ rv=>?_
  subst r1_
  have:=dh rv;subst this
  refine cJ q λ us e hl q_=>?_
  clear q
  revert q_;intro q
  refine f7 (I.own _ _ e) λ aB nn ho rs=>(bw lk λ L lk_=>?_)
  clear lk
  revert lk_;intro lk
  have hz:aB.size=us.length:=by refine af rs.len.symm ?_;simp
  refine call_list_seq a (.inl rfl) ho rfl rfl (λ h' c' hk hn=>?_) (by refine af hz ?_;simp only [bG];exact ao ‹_› (by decide))
  exact bO.new (mo:=.list us) I lk.le hk (dO (bW _)) (ik rfl) ⟨aB,c',hn,rs.mono (bQ.of_keeps hk) _⟩ q
theorem zG (ha:cx.addr (.bi "isinstance")=.builtin "isinstance") (hs:cx.addr (.ty "str")=.type "str"):CallOk cx tb0 (.bi "isinstance"):=by
 intro A H s us vs Q X am st lk I r q
 refine af ha ?_
 replace q:qA us H Q X:=q
 revert r
 refine MI (λ Z Z q=>?_) q
 ·intro r
  refine cu (li r) λ v1 v2 r1_ r1 r2=>?_
  subst r1_
  refine bw (cn r1) λ t r1_=>?_
  subst r1_
  refine bx q λ r1_ q_=>?_
  clear q
  revert q_;intro q
  subst r1_
  refine af (yv r2) (af hs ?_)
  exact PySem.IsiPair.int_str (bO.tok I qj q)
theorem HH (ha:cx.addr (.bi "max")=.builtin "max"):CallOk cx tb0 (.bi "max"):=by
 intro A H s us vs Q X am st lk I r q
 refine af ha ?_
 replace q:CW us H Q X:=q
 revert r
 refine GV (λ a b q=>?_) q
 ·intro r
  refine cu (li r) λ v1 v2 r1_ r1 r2=>?_
  subst r1_
  refine bw (cn r1) λ t r1_=>?_
  subst r1_
  refine bw (cn r2) λ t2 r1_=>?_
  subst r1_
  refine max_two_ints am.handled λ h' tk hk=>?_
  by_cases e:b>a
  ·refine af (if_pos e) ?_
   have:max a b=b:=by lia
   rw [this] at q
   exact bO.priv I hk du q
  ·refine af (if_neg e) ?_
   have:max a b=a:=by lia
   rw [this] at q
   exact bO.priv I hk du q
theorem vN:∀{ns:List Int} {vs:List av},VRels cx h (ns.map .int) vs->IntsAre vs ns
 |[],vs,r=>by exact af r.nil_inv .nil
 |n::ns,vs,r=>by
  rw [bk] at r
  refine cu r.cons_inv λ v vs' r1_ r1 r2=>?_
  subst r1_
  refine bw (cn r1) λ t r1_=>?_
  subst r1_
  exact .cons n t (vN r2)
theorem BH (ha:cx.addr (.ty "bytes")=.type "bytes"):CallOk cx tb0 (.ty "bytes"):=by
 intro A H s us vs Q X am st lk I r q
 refine af ha ?_
 replace q:uh us H Q X:=q
 revert r
 refine rG (λ a q=>?_) q
 ·intro r
  refine aL (gS r) λ v r1_ rv=>?_
  subst r1_
  have:=dh rv;subst this
  refine cJ q λ l e hb q_=>?_
  clear q
  revert q_;intro q
  refine f7 (I.own _ _ e) λ aB nn ho rs=>?_
  have hz:aB.toList.length=l.length:=by (exact af rs.len (af (ag _) rfl))
  refine call_bytes_ints (vs:=aB.toList) ⟨_,ho,rfl,nn,rfl⟩ (vN rs) hb.1 (by refine af hz ?_;have:=hb.2;simp only [bG];exact ao ‹_› (by decide)) am.handled λ h' t k hk=>?_
  refine bO.priv I hk ?_ q
  exact ⟨t,rfl,hb.1⟩
theorem tj:∀{ns:List Bool} {vs:List av},VRels cx h (ns.map .bool) vs->LSm.BoolsAre vs ns
 |[],vs,r=>by exact af r.nil_inv .nil
 |n::ns,vs,r=>by
  rw [bk] at r
  refine cu r.cons_inv λ v vs' r1_ r1 r2=>?_
  subst r1_
  rw [mu r1]
  exact .cons n (tj r2)
theorem GX (ha:cx.addr (.bi "all")=.builtin "all"):CallOk cx tb0 (.bi "all"):=by
 intro A H s us vs Q X am st lk I r q
 rw [ha]
 replace q:CP us H Q X:=q
 revert r
 refine rG (λ a q=>?_) q
 ·intro r
  refine aL (gS r) λ v r1_ rv=>?_
  subst r1_
  have:=dh rv;subst this
  refine cJ q λ bs e hb q_=>?_
  clear q
  revert q_;intro q
  refine f7 (I.own _ _ e) λ aB nn ho rs=>(bw lk λ L lk_=>?_)
  clear lk
  revert lk_;intro lk
  exact bw lk.ns λ m n=>(LSm.all_bools (vs:=aB.toList) (v5 I lk n) lm am.handled ⟨_,ho,rfl,nn,rfl⟩ (tj rs) λ h' tk F' N'=>(xA lk I n F' N' (λ p hp=>hp) qj q))
theorem nV (aB:Array av) (nn:Nat):¬tK ({cls:=.type "list",data:=.seq aB nn}:xQ):=by
 rintro (⟨_,_,_,z⟩|⟨_,z,_⟩)
 ·exact absurd (show cP "list"=cP "tuple" from z) (by decide)
 ·exact gf z rfl
theorem xk (p:mQ cx fe H s (Q .none) s'):bO cx H s Q .none s':=by
 obtain ⟨H',q,I,S,M⟩:=p
 exact ⟨.none,H',q,my,I,S,M⟩
theorem AB (ha:cx.addr (.bi "list.append")=.builtin "list.append"):CallOk cx tb0 (.bi "list.append"):=by
 intro A H s us vs Q X am st lk I r q
 rw [ha]
 replace q:rS us H Q X:=q
 revert r
 refine HF (λ a u q=>?_) q
 ·intro r
  refine cu (li r) λ v1 v2 r1_ r1 r2=>?_
  subst r1_
  have:=dh r1;subst this
  refine cJ q λ us e hl q_=>?_
  clear q
  revert q_;intro q
  refine f7 (I.own _ _ e) λ aB nn ho rs=>?_
  have hz:aB.size=us.length:=by refine af rs.len.symm ?_;simp
  refine By ⟨nn,ho⟩ (λ h' hl' hs=>?_) (by refine af hz ?_;simp only [bG];exact ao ‹_› (by decide))
  refine bw hl' λ n5 hp5=>?_
  clear hl'
  have ki:=bQ.but ho (nV aB nn) hs
  exact xk (gR (Q:=Q .none) (mo':=.list (us++[u])) I e (ik rfl) (ik rfl) ho (nV aB nn) (λ Z z=>by exact gf z rfl) hp5 hs ⟨_,_,hp5,by
   refine af Bz ?_;exact (rs.mono ki _).app (.one (r2.mono ki _))⟩ q)
theorem uG (aB:Array av) (i:Nat) (x:av):((aB.extract 0 i).push x++aB.extract i).toList=aB.toList.take i++x::aB.toList.drop i:=by
 have:wT (aB.size -i) (D0 i aB.toList)=D0 i aB.toList:=iw (by simp)
 simp [this]
theorem AV (ha:cx.addr (.bi "list.insert")=.builtin "list.insert"):CallOk cx tb0 (.bi "list.insert"):=by
 intro A H s us vs Q X am st lk I r q
 refine af ha ?_
 replace q:rR us H Q X:=q
 revert r
 refine KQ (λ a i u q=>?_) q
 ·intro r
  refine kg (AU r) λ v1 v2 v3 r1_ r1 r2 r3=>?_
  subst r1_
  have:=dh r1;subst this
  refine bw (cn r2) λ t r1_=>?_
  subst r1_
  refine fy q λ us e hl i0 t1_=>(bx t1_ λ i1 q_=>?_)
  clear q t1_
  revert q_;intro q
  refine f7 (I.own _ _ e) λ aB nn ho rs=>?_
  have hz:aB.size=us.length:=by refine af rs.len.symm ?_;simp
  have hfit:¬(!oV i)=true:=by
   unfold oV
   simp
   lia
  refine xS sY ⟨_,ho,rfl⟩ PySem.F.entry_list_insert (PySem.F.args_list_insert_3 _ _ _) (AutoListH.list_insert_list_int_val_1 a aB nn i t v3 hfit (by refine af hz ?_;simp only [bG];exact ao ‹_› (by decide))) ⟨ho,?_⟩
  have hs:=dM s.heap a (fc λ xs=>have k:=if i<0 then (i+((xs.size:Nat):Int)).toNat else min i.toNat xs.size;(xs.extract 0 k).push v3++xs.extract k)
  have hp5:=co (fc λ xs=>have k:=if i<0 then (i+((xs.size:Nat):Int)).toNat else min i.toNat xs.size;(xs.extract 0 k).push v3++xs.extract k) ho rfl
  have ki:=bQ.but ho (nV aB nn) hs
  refine xk (gR (Q:=Q .none) (mo':=.list (us.take i.toNat++u::us.drop i.toNat)) I e (ik rfl) (ik rfl) ho (nV aB nn) (λ Z z=>by exact gf z rfl) hp5 hs ⟨_,_,hp5,?_⟩ q)
  have hk:(if i<0 then (i+((aB.size:Nat):Int)).toNat else min i.toNat aB.size)=i.toNat:=by
   refine af (if_neg (by lia)) ?_;lia
  show VRels _ _ _ ((aB.extract 0 (if i<0 then (i+((aB.size:Nat):Int)).toNat else min i.toNat aB.size)).push v3++aB.extract (if i<0 then (i+((aB.size:Nat):Int)).toNat else min i.toNat aB.size)).toList
  refine af hk (af (uG _ _ _) ?_)
  exact ((rs.take _).mono ki _).app (.cons (r3.mono ki _) ((rs.drop _).mono ki _))
theorem G1 (hsys:fq<cx.base.objs.size) (ha:cx.addr (.bi "dict.get")=.builtin "dict.get"):CallOk cx tb0 (.bi "dict.get"):=by
 intro A H s us vs Q X am st lk I r q
 refine af ha ?_
 replace q:CD us H Q X:=q
 revert r
 refine Mm (λ a k q=>?_) q
 ·intro r
  refine cu (li r) λ v1 v2 r1_ r1 r2=>?_
  subst r1_
  have:=dh r1;subst this
  have r2':VRel cx s.heap (.tuple ([k].map V.int)) v2:=r2
  refine aL (mz r2') λ ka r1_ hk=>?_
  subst r1_
  have hroom:(qa (f9 cx.prog cx.w)).room A.in1:=lx (by have:=am.units;lia)
  rcases q with ⟨e,q⟩|⟨es,e,q⟩
  ·refine bw (I.own _ _ e) λ n e'=>?_
   have hm:s.heap.DictOfH (qa (f9 cx.prog cx.w)) a []:=⟨_,#[],n,e',⟨rfl,rfl,rfl⟩,rfl,rfl,λ Z hx=>by simp at hx,iu⟩
   refine DR iy hm.typeIs uT (uc _ _) (meetsH_dict_get _ a ka (lW hsys I e)) ⟨hroom,[k],[],hk,hm,?_⟩
   exact bO.tok I my q
  ·refine aL (I.own _ _ e) λ xs hm tr=>(DR iy hm.typeIs uT (uc _ _) (meetsH_dict_get _ a ka (lW hsys I e)) ⟨hroom,[k],xs,hk,hm,?_⟩)
   cases hl:es.lookup [k] with
   |none=>
    rw [hl] at q
    refine af (oW tr hl) ?_
    exact bO.tok I my q
   |some u=>
    rw [hl] at q
    refine aL (rO tr hl) λ p hp rv=>?_
    refine af hp ?_
    exact bO.tok I rv q
theorem o8:∀{es:List (aw×V)} {kvs:List (aw×av)},KRel cx h es kvs->kvs.map (·.1)=es.map (·.1)
 |[],kvs,r=>by subst r;rfl
 |(n,u)::es,kvs,r=>by
  refine cu r λ v kvs' r1_ h1 h2=>?_
  clear r
  subst r1_
  exact af bk (af bk (af (o8 h2) rfl))
theorem vH (r2:KRel cx h fs more):∀{es:List (aw×V)} {kvs:List (aw×av)},KRel cx h es kvs->KRel cx h (es++fs) (kvs++more)
 |[],kvs,r=>by subst r;exact r2
 |(n,u)::es,kvs,r=>by
  refine cu r λ v kvs' r1_ h1 h2=>?_
  clear r
  subst r1_
  show KRel cx h ((n,u)::(es++fs)) ((n,v)::(kvs'++more))
  exact ⟨v,_,rfl,h1,vH r2 h2⟩
theorem zr (hsys:fq<cx.base.objs.size) (ha:cx.addr (.bi "dict.update")=.builtin "dict.update"):CallOk cx tb0 (.bi "dict.update"):=by
 intro A H s us vs Q X am st lk I r q
 refine af ha ?_
 replace q:qv us H Q X:=q
 revert r
 refine MN (λ a b q=>?_) q
 ·intro r
  refine cu (li r) λ v1 v2 r1_ r1 r2=>?_
  subst r1_
  have:=dh r1;subst this
  have:=dh r2;subst this
  refine jO q λ es fs nab ea eb t1_=>(gK t1_ λ hnd hl q_=>?_)
  clear q t1_
  revert q_;intro q
  refine aL (I.own _ _ ea) λ kvs hda ra=>(aL (I.own _ _ eb) λ more hdb rb=>?_)
  have hk:((kvs++more).map (·.1))=((es++fs).map (·.1)):=by (exact af bh (af bh (af (o8 ra) (af (o8 rb) rfl))))
  have l1:=oh ra
  have l2:=oh rb
  refine DR s9 hda.typeIs PySem.F.entry_dict_update (PySem.F.args_dict_update_2 _ _) (meets_dict_update (strKind cx.prog cx.w) a b nab (lW hsys I eb)) ⟨kvs,more,hda,hdb,by simp only [bG];lia,λ h' hd' ho' hs=>?_⟩
  rw [merged_append_of_fresh _ _ (by exact af hk hnd)] at hd'
  refine cJ (gc hda.mapOf) λ ob ho hi hc=>(aL (gc hd'.mapOf) λ ob' ho2 Z=>?_)
  have ki:=bQ.but ho hi hs
  exact xk (gR (Q:=Q .none) (mo':=.sdict (es++fs)) (t:=s.toks) I ea (ik rfl) (ik rfl) ho hi hc ho2 hs ⟨_,hd',vH (rb.mono ki) (ra.mono ki)⟩ q)
end
section
variable {E:av->ax->Prop}
theorem vd (hx:ja s.heap x xs) (hy:ja s.heap y ys) (hp:xs.toList.head?=some p) (hq:ys.toList.head?=some q) (hu:A.units<mG)
  (ne:∀(Q:Bool->ax->Prop) (E:av->ax->Prop),Q false s->aE (ay prog w) A.in1 (eqBool p q) Q E s) (lt:∀(Q:av->ax->Prop) (E:av->ax->Prop),Q (.bool r) s->aE (ay prog w) A.in1 (u6 .Lt p q) Q E s) (h:Q (.bool r) s):
  aE (ay prog w) A (u6 .Lt (.ref x) (.ref y)) Q E s:=by
 have tx:s.TypeIs (.ref x) "tuple":=hx.typeIs
 have ty:s.TypeIs (.ref y) "tuple":=hy.typeIs
 refine wpAny_richCompare_same_room tx ty u9 (gM u9 tx PySem.F.entry_tuple_lt ?_ (PySem.F.args_tuple_lt_2 _ _)) hu
 obtain ⟨xr,hxr⟩:∃xr,xs.toList=p::xr:=by
  cases e:xs.toList with
  |nil=>rw [e] at hp;cases hp
  |cons a l=>rw [e] at hp;cases hp;exact ⟨l,rfl⟩
 obtain ⟨yr,hyr⟩:∃yr,ys.toList=q::yr:=by
  cases e:ys.toList with
  |nil=>rw [e] at hq;cases hq
  |cons a l=>rw [e] at hq;cases hq;exact ⟨l,rfl⟩
 show aE _ _ (x4 (.ref y) (.type "tuple")>>=_) _ _ s
 refine ae (wpAny_isInstance ty PySem.F.sub_tuple_tuple ?_)
 simp only [Bool.not_true,ch,if_false]
 refine ae (Bi hx (ae (Bi hy ?_)))
 refine af hxr (af hyr (af cM ?_));rw [su]
 refine ae (ae (ae (ne _ _ ?_)))
 simp only [Bool.not_false,if_true]
 refine ae (jH (ae (lt _ _ ?_)))
 refine ae (ah (ah (ah (ah ⟨_,rfl,(λ z=>by cases z),h⟩))))
end
noncomputable def kRun {α:Type} (c:Nat->Nat->Bool):KasT α->α
 |.ret a=>a
 |.ask i j k=>kRun c (k (c i j))
noncomputable def kAsks {α:Type} (n:Nat):KasT α->Bool
 |.ret _=>true
 |.ask i j k=>decide (i<n)&&(decide (j<n)&&(decide (i≠j)&&(kAsks n (k true)&&kAsks n (k false))))
theorem rX {α:Type} {Q:α->ax->Prop} (hc:∀i j,i<n->j<n->i≠j->∀C:Bool->ax->Prop,C (c i j) s->cmp i j C s):∀(t:KasT α),kAsks n t=true->Q (kRun c t) s->t.kasWp cmp Q s
 |.ret _,_,h=>h
 |.ask i j k,ha,h=>by
  replace ha:(_&&_)=true:=ha
  simp only [bI,decide_eq_true_eq] at ha
  refine wb ha λ h1 h2 h3 h4 h5=>?_
  refine hc i j h1 h2 h3 _ ?_
  have h:Q (kRun c (k (c i j))) s:=h
  cases e:c i j with
  |true=>rw [e] at h;exact rX hc (k true) h4 h
  |false=>rw [e] at h;exact rX hc (k false) h5 h
theorem lq {α:Type} (hc:∀i j,i<n->j<n->i≠j->c i j=c' i j):∀(t:KasT α),kAsks n t=true->kRun c t=kRun c' t
 |.ret _,_=>rfl
 |.ask i j k,ha=>by
  replace ha:(_&&_)=true:=ha
  simp only [bI,decide_eq_true_eq] at ha
  refine wb ha λ h1 h2 h3 h4 h5=>?_
  show kRun c (k (c i j))=kRun c' (k (c' i j))
  refine af (hc i j h1 h2 h3) ?_
  cases c' i j with
  |true=>exact lq hc (k true) h4
  |false=>exact lq hc (k false) h5
theorem Gm:kAsks 2 (fH 2)=true:=by decide+kernel
theorem Ft:kAsks 3 (fH 3)=true:=by decide+kernel
noncomputable def cT (x01 x02 x12:Bool):Nat->Nat->Bool
 |0,1=>x01
 |1,0=>!x01
 |0,2=>x02
 |2,0=>!x02
 |1,2=>x12
 |2,1=>!x12
 |_,_=>false
noncomputable def pm2 (p:Bool):List Nat:=cond p [0,1] [1,0]
noncomputable def pm3 (p q r:Bool):List Nat:=cond p (cond q (cond r [0,1,2] [0,2,1]) [2,0,1]) (cond r (cond q [1,0,2] [1,2,0]) [2,1,0])
theorem J1:∀x:Bool,(kRun (cT x x x) (fH 2)).toList=pm2 x:=by decide+kernel
theorem KF:∀p q r:Bool,(q=true\/(p&&r)=false)->(q=false\/(p||r)=true)->(kRun (cT p q r) (fH 3)).toList=pm3 p q r:=by decide+kernel
noncomputable def fAt {α:Type} (L:List α) (f:α->Int) (i:Nat):Int:=(L.map f).getD i 0
theorem o9 {α:Type} {f:α->Int} {x y:α} {r:List α} (h:decide (f x<f y)=b):ins f x (y::r)=cond b (x::y::r) (y::ins f x r):=by
 subst h
 show ite _ _ _=_
 by_cases e:f x<f y
 ·refine af (if_pos e) (af (decide_eq_true e) ?_);rfl
 ·refine af (if_neg e) (af (decide_eq_false e) ?_);rfl
theorem jT {x y:Int} (h:x≠y):decide (y<x)=!decide (x<y):=by
 by_cases e:x<y
 ·refine af (decide_eq_true e) (af (decide_eq_false (dJ.mpr (fB e))) ?_);rfl
 ·refine af (decide_eq_false e) (af (decide_eq_true (Int.lt_iff_le_and_ne.mpr ⟨dJ.mp e,h.symm⟩)) ?_);rfl
theorem IZ {c d:Nat->Nat->Bool} (a:c 0 1=d 0 1) (b:c 1 0=d 1 0) (i j:Nat) (hi:i<2):j<2->i≠j->c i j=d i j:=
 oP (P:=λ i=>∀j,j<2->i≠j->c i j=d i j) (oP Ey (oP (oP Ey λ z=>absurd rfl z) λ Z=>a)) (oP (oP Ey λ Z=>b) λ z=>absurd rfl z) i hi j
theorem JE {c d:Nat->Nat->Bool} (a:c 0 1=d 0 1) (b:c 0 2=d 0 2) (e:c 1 2=d 1 2) (f:c 1 0=d 1 0) (g:c 2 0=d 2 0) (h:c 2 1=d 2 1) (i j:Nat) (hi:i<3):j<3->i≠j->c i j=d i j:=
 oP (P:=λ i=>∀j,j<3->i≠j->c i j=d i j) (oP (oP Ey (oP (oP (oP Ey λ z=>absurd rfl z) λ Z=>a) λ Z=>b)) (oP (oP (oP Ey λ Z=>f) λ z=>absurd rfl z) λ Z=>e)) (oP (oP (oP Ey λ Z=>g) λ Z=>h) λ z=>absurd rfl z) i hi j
theorem Er {α:Type} {L:List α} {f:α->Int} (g:α->V) (h2:2<=L.length) (h3:L.length<=3) (nd:(L.map f).Nodup):
  kAsks L.length (fH L.length)=true/\(∀i∈(kRun (λ i j=>decide (fAt L f i<fAt L f j)) (fH L.length)).toList,i<L.length)/\
  (isort f L).map g=(kRun (λ i j=>decide (fAt L f i<fAt L f j)) (fH L.length)).toList.map λ i=>(L.map g).getD i .none:=by
 refine (Nat.lt_or_eq_of_le h3).elim (λ h=>?_) λ h=>?_
 ·refine CK (uk (jJ (k9 h) h2)) λ a b e=>?_
  subst e
  clear h h2 h3
  have n1:f a≠f b:=λ e=>(cc.mp nd).1 (e▸.head _)
  have hc:kRun (λ i j=>decide (fAt [a,b] f i<fAt [a,b] f j)) (fH 2)=kRun (cT (decide (f a<f b)) (decide (f a<f b)) (decide (f a<f b))) (fH 2):=by
   refine lq (IZ ?_ ?_) _ Gm
   ·rfl
   ·exact jT n1
  refine ⟨Gm,?_⟩
  show (∀i∈(kRun _ (fH 2)).toList,i<2)/\a8 g (ins f b [a])=(kRun _ (fH 2)).toList.map _
  refine af hc (af (J1 _) (af (o9 (jT n1)) ?_))
  generalize decide (f a<f b)=p
  exact ⟨by revert p;decide,by cases p<;>rfl⟩
 ·refine iC (mv h) λ a b c e=>?_
  subst e
  clear h h2 h3
  have n1:f a≠f b:=λ e=>(cc.mp nd).1 (e▸.head _)
  have n2:f a≠f c:=λ e=>(cc.mp nd).1 (e▸.tail _ (.head _))
  have n3:f b≠f c:=λ e=>(cc.mp (cc.mp nd).2).1 (e▸.head _)
  have hc:kRun (λ i j=>decide (fAt [a,b,c] f i<fAt [a,b,c] f j)) (fH 3)=kRun (cT (decide (f a<f b)) (decide (f a<f c)) (decide (f b<f c))) (fH 3):=by
   refine lq (JE ?_ ?_ ?_ ?_ ?_ ?_) _ Ft
   ·rfl
   ·rfl
   ·rfl
   ·exact jT n1
   ·exact jT n2
   ·exact jT n3
  have c1:decide (f a<f c)=true\/(decide (f a<f b)&&decide (f b<f c))=false:=by
   by_cases e1:f a<f b
   ·by_cases e2:f b<f c
    ·exact .inl (decide_eq_true (Int.lt_trans e1 e2))
    ·exact .inr (by (exact af (decide_eq_false e2) (af (ua _) rfl)))
   ·exact .inr (by refine af (decide_eq_false e1) ?_;rfl)
  have c2:decide (f a<f c)=false\/(decide (f a<f b)||decide (f b<f c))=true:=by
   by_cases e1:f a<f b
   ·exact .inr (by refine af (decide_eq_true e1) ?_;rfl)
   ·by_cases e2:f b<f c
    ·exact .inr (by (exact af (decide_eq_true e2) (af (iB _) rfl)))
    ·exact .inl (decide_eq_false (dJ.mpr (eU (dJ.mp e2) (dJ.mp e1))))
  have i1:∀p q r:Bool,decide (f b<f a)=!p->decide (f c<f a)=!q->decide (f c<f b)=!r->(q=true\/(p&&r)=false)->(q=false\/(p||r)=true)->a8 g (ins f c (ins f b [a]))=(pm3 p q r).map λ i=>(a8 g [a,b,c]).getD i .none:=λ p q r hp hq hr k1 k2=>by
   refine af (o9 hp) ?_
   cases p with
   |true=>
    show a8 g (ins f c [a,b])=_
    refine af (o9 hq) ?_
    cases q with
    |true=>
     show a8 g (a::ins f c [b])=_
     refine af (o9 hr) ?_
     cases r<;>rfl
    |false=>rfl
   |false=>
    show a8 g (ins f c [b,a])=_
    refine af (o9 hr) ?_
    cases r with
    |true=>
     show a8 g (b::ins f c [a])=_
     refine af (o9 hq) ?_
     cases q<;>rfl
    |false=>rfl
  refine ⟨Ft,?_⟩
  show (∀i∈(kRun _ (fH 3)).toList,i<3)/\a8 g (ins f c (ins f b [a]))=(kRun _ (fH 3)).toList.map _
  refine af hc (af (KF _ _ _ c1 c2) ?_)
  refine ⟨?_,i1 _ _ _ (jT n1) (jT n2) (jT n3) c1 c2⟩
  generalize decide (f a<f b)=p
  generalize decide (f a<f c)=q
  generalize decide (f b<f c)=r
  revert p q r
  decide
section
variable {prog:cR}
end
namespace jw
def S_ (prog:cR) (w:f8) (A:dz) (s:ax) (D:aI) (vs:List av) (Q):=∀{E:av->ax->Prop} {n0:Nat} (ho:s.heap.get? D=some (ij "list" vs.toArray n0)) (hl:vs.length<2) (h:∀h' c,(∀b o,b≠D->s.heap.get? b=some o->h'.get? b=some o)->h'.get? D=some (ij "list" vs.toArray c)->Q .none {s with heap:=h'}),aE (ay prog w) A (call (.builtin "list.sort") [.ref D]) Q E s
def U_:=UV λ prog w A=>UV λ s D vs=>S_ prog w A s D vs
def t_:=dr (by have:=qe;have:=pH;have:=vt;infer_instance) U_
def prog:=t_.1
def w:=t_.2.1
def A:=t_.2.2.1
def s:=t_.2.2.2.1
def D:=t_.2.2.2.2.1
def vs:=t_.2.2.2.2.2.1
def s1_:=t_.2.2.2.2.2.2
def Q:=s1_
theorem P_:S_ prog w A s D vs Q:=by
 intro E n0 ho hl h
 refine gM slot_list_sort ⟨_,ho,rfl⟩ entry_list_sort ?_ (args_list_sort _)
 refine af (list_sort_plain _) ?_
 have ha:D<s.heap.objs.size:=bz ho
 have s1:=dM s.heap D (fc λ Z=>(#[]:Array av))
 obtain ⟨e1,ho1⟩:∃e1,(s.heap.update D (fc λ Z=>(#[]:Array av))).get? D=some (ij "list" #[] e1):=⟨_,get?_update_seq ho λ Z=>#[]⟩
 have hz:vs.toArray.size=vs.length:=by simp
 refine ae (listItems_at ho rfl ?_)
 refine ae (listUpdate_at ho rfl ?_ (by (refine af hz (af d8 ?_));lia) (cU _))
 refine ae (seqEpoch_at ho1 rfl ?_)
 refine ae (wpAny_newTuple ?_ (by show vs.length<=_;refine af d8 ?_;lia))
 refine ae (wpAny_newList ?_ (cU _))
 refine bA ?_
 have ho2:(((s.heap.update D (fc λ Z=>(#[]:Array av))).push (ij "tuple" vs.toArray 0)).push (ij "list" #[] 0)).get? D=some (ij "list" #[] e1):=ak _ (ak _ ho1)
 have keep2:∀b o,b≠D->s.heap.get? b=some o->(((s.heap.update D (fc λ Z=>(#[]:Array av))).push (ij "tuple" vs.toArray 0)).push (ij "list" #[] 0)).get? b=some o:=λ b o nb e=>
  ak _ (ak _ ((s1.2 b nb).trans e))
 show aE (ay prog w) A.in1 _ _ E {s with heap:=((s.heap.update D (fc λ Z=>(#[]:Array av))).push (ij "tuple" vs.toArray 0)).push (ij "list" #[] 0)}
 generalize ((s.heap.update D (fc λ Z=>(#[]:Array av))).push (ij "tuple" vs.toArray 0)).push (ij "list" #[] 0)=h2 at*
 dsimp only
 have hn2:vs.toArray.size<2:=by exact af hz hl
 refine af (if_pos hn2) (af (if_pos hn2) ?_)
 refine ae (ah ?_)
 refine ae (ah (a:=((),zj general' (vs.toArray.zip vs.toArray) #[] 7 none)) ?_)
 refine ae (seqEpoch_at ho2 rfl ?_)
 have hout:(arrOf (zj general' (vs.toArray.zip vs.toArray) #[] 7 none)).map (·.2)=vs.toArray:=by
  show (vs.toArray.zip vs.toArray).map (·.2)=vs.toArray
  apply DH.mp
  simp [List.map_snd_zip]
 have hf:failedOf (zj general' (vs.toArray.zip vs.toArray) #[] 7 none)=none:=rfl
 dsimp only
 refine af hout ?_
 have s2:=dM h2 D (fc λ Z=>vs.toArray)
 obtain ⟨c2,hc2⟩:∃c2,(h2.update D (fc λ Z=>vs.toArray)).get? D=some (ij "list" vs.toArray c2):=⟨_,get?_update_seq ho2 λ Z=>vs.toArray⟩
 refine ae (listUpdate_at ho2 rfl ?_ (cU _) (by (refine af hz (af d8 ?_));lia))
 simp only [bne_self_eq_false,ch,if_false]
 exact ah ⟨_,rfl,h _ c2 (λ b o nb e=>(s2.2 b nb).trans (keep2 b o nb e)) hc2⟩
theorem A_:∀p,U_ p:=bC P_
end jw
section
variable {prog:cR}
theorem jw {prog w A s D vs Q}:jw.S_ prog w A s D vs Q:=jw.A_ (prog,w,A,s,D,vs,Q)
end
theorem vw {α:Type} {f:α->Int}:∀{l:List α},¬2<=l.length->isort f l=l
 |[],_=>rfl
 |[a],_=>rfl
 |a::b::l,h=>absurd (by simp) h
section
variable {E:av->ax->Prop}
theorem BX {α:Type} {L0:List α} {f:α->Int} {g:α->V} {κ:td} {tk c0:Nat} (lk:ux cx H s.heap L) (I:cb cx H s.heap) (n:s.heap.Ns L m)
  (F:Fr cx.base L h1 m) (N:DE cx.base L h1 ((D,ij "list" vs.toArray c0)::allNews cx.base s.heap L)) (hlt:∀q∈allNews cx.base s.heap L,q.1<D) (hbD:cx.base.objs.size<=D)
  (rs:VRels cx s.heap (L0.map g) vs) (h3:L0.length<=3) (nd:(L0.map f).Nodup)
  (hk:2<=L0.length->∀(s':ax) (Q:td->ax->Prop) (E:av->ax->Prop),bQ s.heap s'.heap->Q κ s'->aE (ay cx.prog cx.w) A.in1 (Fp vs.toArray) Q E s')
  (hc:∀(s':ax),bQ s.heap s'.heap->∀i j,i<L0.length->j<L0.length->i≠j->∀C:Bool->ax->Prop,C (decide (fAt L0 f i<fAt L0 f j)) s'->xb cx.prog cx.w A.in1 κ vs i j C s')
  (q:∀c,H c=none->Q (.ref c) (H.set c (.list ((isort f L0).map g)))):
  aE (ay cx.prog cx.w) A (call (.builtin "list.sort") [.ref D]) (λ Z s'=>bO cx H s Q (.ref D) s') E {s with heap:=h1,toks:=tk}:=by
 have hl:vs.length=L0.length:=by (exact af rs.len (af (ag _) rfl))
 have nD:=N _ (dE ..)
 have neq:∀p∈allNews cx.base s.heap L,p.1≠D:=λ p hp=>dN (hlt p hp)
 have hD0:s.heap.get? D=none:=by
  cases e:s.heap.get? D with
  |none=>rfl
  |some o=>
   by_cases hb:(cx.base.get? D)=none
   ·have:(D,o)∈allNews cx.base s.heap L:=fO.mpr ⟨e,nD.2.1,hb⟩
    exact absurd rfl (neq _ this)
   ·exact absurd nD.2.2 hb
 have fh:∀(h':cO) (tk' c:Nat) (us:List V) (ws:List av),(∀b o,b≠L->s.heap.get? b=some o->h'.get? b=some o)->qB s.heap h' L->h'.get? D=some (ij "list" ws.toArray c)->VRels cx s.heap us ws->us=(isort f L0).map g->bO cx H s Q (.ref D) {s with heap:=h',toks:=tk'}:=by
  intro h' tk' c us ws _ k hD rw_ hus
  have st:=k.step (P:=fe) (H:=H) lk.ns
  have I':=k.inv I lk
  subst hus
  exact ⟨.ref D,H.set D _,q _ (I.free hD0).1,lX,I'.take (λ Z Z Z e=>by cases e) (I.free hD0) hbD ⟨ws.toArray,c,hD,VRels.mono st.imm _ rw_⟩,st.take (λ Z Z Z e=>by cases e) hD0,rfl,rfl,rfl⟩
 have kl:∀{h':cO} {o:xQ},Fr cx.base L h' m->DE cx.base L h' ((D,o)::allNews cx.base s.heap L)->qB s.heap h' L:=λ F' N'=>oj I n F' N' λ p hp=>.tail _ hp
 by_cases h2:2<=L0.length
 ·refine gK (Er (f:=f) g h2 h3 nd) λ a1 a2 a3=>?_
  have hlen:vs.length=L0.length:=hl
  refine kat_lsort (s:={s with heap:=h1,toks:=tk}) (its:=vs.toArray) (vs:=vs) F N (UpdF.head neq) (by simp) (by lia) (by lia) λ e1 h' F' N'=>?_
  have ki:bQ s.heap h':=(kl F' N').step (P:=fe) (H:=H) lk.ns|>.imm
  refine hk h2 _ _ _ ki ?_
  refine af hl ?_
  refine rX (hc _ ki) _ a1 (KasFin.intro F' N' (UpdF.head neq) λ h'' c F'' N''=>?_)
  have k'':=kl F'' N''
  refine fh h'' tk c ((isort f L0).map g) _ (λ b o nb e=>k''.all b o nb e) k'' (N'' _ (dE ..)).1 ?_ rfl
  refine af a3 ?_
  have:∀ix:List Nat,(∀i∈ix,i<L0.length)->VRels cx s.heap (ix.map λ i=>(L0.map g).getD i .none) (ix.map λ i=>vs.getD i bR):=by
   intro ix
   induction ix with
   |nil=>intro _;exact .nil
   |cons i ix ih=>
    intro hi
    have h0:=hi i (dE ..)
    refine .cons ?_ (ih λ j hj=>hi j (dR _ hj))
    have e:(L0.map g)[i]?=some ((L0.map g).getD i .none):=by
     have:i<(L0.map g).length:=by exact af (ag _) h0
     refine af (aJ) (af (an this) ?_);rfl
    refine aL (rs.get e) λ v hv rv=>?_
    have e2:vs.getD i bR=v:=by (refine af (aJ) (af hv ?_));rfl
    show VRel cx s.heap ((L0.map g).getD i .none) (vs.getD i bR)
    exact af e2 rv
  exact this _ a2
 ·refine jw (s:={s with heap:=h1,toks:=tk}) nD.1 (by lia) λ h' c hk' hD'=>?_
  have F':Fr cx.base L h' m:=⟨let ⟨o,es,ep,e,r⟩:=F.ns;⟨o,es,ep,hk' _ _ (λ z=>nD.2.1 z.symm) e,r⟩,λ b o e=>hk' _ _ (λ z=>by rw [z,nD.2.2] at e;exact bF e) (F.keep b o e),F.above⟩
  have N':DE cx.base L h' ((D,ij "list" vs.toArray c)::allNews cx.base s.heap L):=λ p hp=>by
   rcases aZ.mp hp with rfl|hp
   ·exact ⟨hD',nD.2⟩
   ·have:=N p (dR _ hp)
    exact ⟨hk' _ _ (neq p hp) this.1,this.2⟩
  have k':=kl F' N'
  refine fh h' tk c (L0.map g) vs (λ b o nb e=>k'.all b o nb e) k' hD' rs ?_
  exact af (vw h2) rfl
end
inductive mJ (h:cO) (d:aI) (es:Array fV) (ep:Nat):Prop
 |mk (o) (h1:h.get? d=some o) (h2:o.ExactDict) (h3:o.data=.dict es ep):mJ h d es ep
theorem mJ.keep {d es ep} (x:mJ h d es ep) (k:∀o,h.get? d=some o->h'.get? d=some o):mJ h' d es ep:=let ⟨o,a,r,t⟩:=x;⟨o,k o a,r,t⟩
theorem mJ.typeIs {s:ax} {d es ep} (x:mJ s.heap d es ep):s.TypeIs (.ref d) "dict":=let ⟨o,a,b,_⟩:=x;⟨o,a,b.1⟩
section
variable {E:av->ax->Prop}
theorem Do (hd:(d==fq)=false) (hm:mJ s.heap d es ep)
  (q:Q (.ref s.heap.objs.size) {s with heap:=s.heap.push {cls:=.type "dict_keyiterator",data:=.fields #[.ref d,.int 0 0,.int es.size 0,.int ep 0]}}):aE (ay prog w) A (xX (.ref d)) Q E s:=by
 have hT:=hm.typeIs
 obtain ⟨o,ho,hc,hdat⟩:=hm
 refine wpAny_pyIter_slot hT uU (gM uU hT PySem.F.entry_dict_iter ?_ (PySem.F.args_dict_iter_1 _))
 unfold jb.«dict.__iter__» Builtin.Dict.dictSlotNone Builtin.Dict.showsAll
 refine ae (ae (DW hT ?_))
 refine ah (ae (ah (a:=d) ?_))
 rw [if_neg (by rw [hd];exact oQ)]
 refine ae (ah ?_)
 refine ae (IC ho hdat (ae (wpAny_dictEpoch ho hdat ?_)))
 refine ae (cY (ah ⟨_,rfl,"dict_keyiterator",_,⟨_,bu _ rfl,rfl⟩,gF.lookup,?_⟩))
 simpa [iL] using q
end
namespace kJ
def S_ (prog w A E s it d i ep es Q):=∀(hh:A.handled=none) (hit:s.heap.IsKeyIter it d i es.size ep) (hm:mJ s.heap d es ep) (q:match es[i]? with
   |some e=>∀h',h'.IsKeyIter it d (i+1) es.size ep->dm it s.heap h'->Q (some e.key) {s with heap:=h'}
   |none=>∀h',Heap.ExtBut it s.heap h'->Q none {s with heap:=h'}),aE (ay prog w) A (uR (.ref it)) Q E s
def U_:=UV λ prog w A=>UV λ E s it=>UV λ d i ep=>UU λ es=>S_ prog w A E s it d i ep es
def t_:=dr (by have:=qe;have:=pH;have:=vt;infer_instance) U_
def prog:=t_.1
def w:=t_.2.1
def A:=t_.2.2.1
def E:=t_.2.2.2.1
def s:=t_.2.2.2.2.1
def it:=t_.2.2.2.2.2.1
def s1_:=t_.2.2.2.2.2.2
def d:=s1_.1
def i:=s1_.2.1
def ep:=s1_.2.2.1
def es:=s1_.2.2.2.1
def Q:=s1_.2.2.2.2
theorem P_:S_ prog w A E s it d i ep es Q:=by
 intro hh hit hm q
 have hT:=hit.typeIs
 refine cJ hit λ oi hoi hci hdi=>?_
 obtain ⟨od,hod,hcd,hdd⟩:=hm
 have nI:(aS d==bR)≠true:=oQ
 unfold uR
 refine ae (wpAny_attempt (mF (name:=aa "__next__") hT gF
  (gM gF hT PySem.F.entry_dict_keyiterator_next ?_ (PySem.F.args_dict_keyiterator_next_1 _))))
 refine ae (ah ?_)
 refine ae (ae (ae ?_))
 refine jS hT (ah ?_)
 refine ae (wpAny_fieldsOf hoi hdi ?_)
 have hown:D1 "dict_keyiterator"=false:=by decide
 rw [hown]
 show aE _ _ (if (aS d==bR)=true then _ else _) _ _ s
 refine af (if_neg nI) ?_
 refine ae (ah (a:=d) (ae (IC hod hdd ?_)))
 rw [if_neg (by simp)]
 refine ae (ah (a:=d) (ae (wpAny_dictEpoch hod hdd ?_)))
 rw [if_neg (by simp)]
 refine ah ?_
 dsimp only
 refine af (if_neg (by lia)) (af (cK _) ?_)
 cases he:es[i]? with
 |some e=>
  rw [he] at q
  dsimp only at q⊢
  have hit':(s.heap.update it (cz (·.setIfInBounds 1 (iL ((i:Int)+1))))).IsKeyIter it d (i+1) es.size ep:=
   ⟨_,co _ hoi (fQ (dK hdi _)),(Obj.cls_mapFields ..).trans hci,by refine af (dK hdi _) ?_;simp [iL]⟩
  refine ae (ae (jS hT (ah ?_)))
  refine ae (D3 hT ?_)
  show aE _ _ (setField (.ref it) 1 (iL ((i:Int)+1))>>=_) _ _ s
  refine ae (gC hoi hdi (by simp) ?_)
  refine ae (bA ?_)
  refine ae (D3 (s:={s with heap:=s.heap.update it (cz (·.setIfInBounds 1 (iL ((i:Int)+1))))}) hit'.typeIs ?_)
  show aE _ _ (pure e.key) _ _ _
  exact ah (ah ⟨_,rfl,ah (q _ hit' (dM ..))⟩)
 |none=>
  rw [he] at q
  dsimp only at q⊢
  refine ae (ae (jS hT (ah ?_)))
  show aE _ _ (setField (.ref it) 0 .none>>=_) _ _ s
  refine ae (gC hoi hdi (by simp) ?_)
  refine ae ?_
  delta newExc newTuple
  refine ae (cY ?_ (by size_fits))
  refine ae (m:=firstArgMember _ _) (lO (a:=bR) (by first|rfl|(simp only [firstArgMember];rfl)) ?_)
  refine cY ?_ (by size_fits)
  delta raiseNew
  refine ae (wpAny_handled ?_)
  refine af (show A.in1.handled=none from hh) ?_
  refine ae (ah (wpAny_throw ?_))
  refine ae (wpAny_isInstance (T:="StopIteration") (b:=true) ⟨_,bu _ rfl,rfl⟩ isSubtype_stop ?_)
  exact ah (q _ (((dM ..).extBut.push _).push _))
theorem A_:∀p,U_ p:=bC P_
end kJ
section
variable {prog:cR}
theorem kJ {prog w A E s it d i ep es Q}:kJ.S_ prog w A E s it d i ep es Q:=kJ.A_ (prog,w,A,E,s,it,d,i,ep,es,Q)
theorem Ba (hh:A.handled=none) (I d:aI) (hne:d≠I) (es:Array fV) (ep:Nat):
  Walks prog w A I [I,d] [I] es.size (λ i v=>∃e,es[i]?=some e/\v=e.key) (λ i h=>h.IsKeyIter I d i es.size ep/\mJ h d es ep) where
 sub:=λ b hb=>by simp at hb;simp [hb]
 frame:=λ Z Z Z st hk=>⟨st.1.at λ o e=>hk I (by simp) o e,st.2.keep λ o e=>hk d (by simp) o e⟩
 item:=λ i s Q E hi st hQ=>by
  refine kJ hh st.1 st.2 ?_
  refine af (ud hi) ?_
  exact λ h' hit' hs'=>hQ _ h' s.toks ⟨_,ud hi,rfl⟩ ⟨hit',st.2.keep λ o e=>(hs'.2 d hne).trans e⟩ λ b o hb e=>hs'.extBut b o (λ h=>hb (by simp [h])) e
 done:=λ s Q E st hQ=>by
  refine kJ hh st.1 st.2 ?_
  refine af (wX (bW _)) ?_
  exact λ h' he'=>hQ h' s.toks λ b o hb e=>he' b o (λ h=>hb (by simp [h])) e
 self:=λ Z Z Z Z st hQ=>wpAny_pyIter_keyiter st.1 hQ
theorem ER (lo:(d==fq)=false):KdlSrc prog w "dict" d d es.size (λ i v=>∃e,es[i]?=some e/\v=e.key) (λ h=>mJ h d es ep) where
 type:=λ Z hm=>hm.typeIs
 there:=λ Z hm=>let ⟨_,e,_,_⟩:=hm;⟨bz e,bz e⟩
 keep:=λ Z Z hm hk=>hm.keep λ o e=>hk d (.inl rfl) o e
 notList:=by decide
 notTuple:=by decide
 hint:=λ Z Z Z Z hm hq=>kdl_hint_dict hm.typeIs hq
 iter:=λ Z Z hh hm=>⟨_,_,(λ Z Z hq=>Do lo hm hq),Ba hh _ d (dN (let ⟨_,e,_,_⟩:=hm;bz e)) es ep,⟨⟨_,bu _ rfl,rfl,rfl⟩,hm.keep λ o e=>ak _ e⟩⟩
end
section
variable {cx:Cx} {s:ax} {E:av->ax->Prop}
theorem qO (h:Q (.bool (decide (a<b))) s):aE (ay prog w) A (u6 .Lt (.int a t) (.int b u)) Q E s:=
 PyProof.Rows.lt_int h
theorem th (hn:a≠b) (h:Q false s):aE (ay prog w) A (eqBool (.int a t) (.int b u)) Q E s:=
 wpAny_eqBool_int (by exact af (show (a==b)=false from beq_eq_false_iff_ne.mpr hn) h)
inductive mR (cx:Cx) (h:cO) (x:dY) (b:aI):Prop
 |mk (bs:Array av) (p:aI) (ps:Array av) (t u:Tok) (h1:ja h b bs) (h2:bs.toList=[.ref p]) (h3:ja h p ps) (h4:ps.toList=[.int x.first t,.int x.last u]):mR cx h x b
theorem xH (r:VRel cx s.heap x.box v):∃b,v=.ref b/\mR cx s.heap x b:=by
 unfold dY.box at r
 refine cu (fA r) λ b bs r1_ hb rb=>?_
 subst r1_
 refine aL (gS rb) λ pv hpv rp=>(cu (fA rp) λ p ps r1_ hp rps=>?_)
 subst r1_
 refine cu (li rps) λ v1 v2 hv r1 r2=>(bw (cn r1) λ t r1_=>?_)
 subst r1_
 refine bw (cn r2) λ u r1_=>?_
 subst r1_
 exact ⟨b,rfl,bs,p,ps,t,u,hb,hpv,hp,hv⟩
theorem wq {x:dY} (hp:ja s.heap p ps) (e:ps.toList=[.int x.first t,.int x.last u]):lr (f9 cx.prog cx.w) s.heap [x.first,x.last] p:=by
 obtain ⟨a,ha,k⟩:=mz (cx:=cx) (s:=s) (k:=[x.first,x.last]) (jF hp (by refine af e ?_;exact .cons du (.one du)))
 cases ha;exact k
theorem HG (hx:mR cx s.heap x b) (hy:mR cx s.heap y c) (hn:x.first≠y.first) (hu:A.units+10<mG) (h:Q (.bool (decide (x.first<y.first))) s):
  aE (ay cx.prog cx.w) A (u6 .Lt (.ref b) (.ref c)) Q E s:=by
 obtain ⟨bs,p,ps,t,u,h1,h2,h3,h4⟩:=hx
 obtain ⟨cs,q,qs,t',u',g1,g2,g3,g4⟩:=hy
 have e1:A.in1.units<=A.units+2:=by show A.units+_<=_;lia
 refine vd (p:=.ref p) (q:=.ref q) (r:=decide (x.first<y.first)) h1 g1 (by refine af h2 ?_;rfl) (by refine af g2 ?_;rfl) (by lia) (λ Q' E' hq=>?_) (λ Q' E' hq=>?_) h
 ·refine wpAny_eqBool_tuple (by lia) (wq h3 h4) (wq g3 g4) ?_
  exact af (decide_eq_false (λ z=>hn (by injection z))) hq
 ·refine vd (p:=.int x.first t) (q:=.int y.first t') (r:=decide (x.first<y.first)) h3 g3 (by refine af h4 ?_;rfl) (by refine af g4 ?_;rfl) (by lia) (λ Q' E' hq=>th hn hq) (λ Q' E' hq=>qO hq) hq
end
section
variable {cx:Cx}
theorem mR.keep (k:bQ h h'):mR cx h x b->mR cx h' x b:=λ ⟨bs,p,ps,t,u,h1,h2,h3,h4⟩=>⟨bs,p,ps,t,u,IsTup.keepI k h1,h2,IsTup.keepI k h3,h4⟩
theorem mY:∀{ls:List dY} {vs:List av},VRels cx h (ls.map dY.v) vs->∃fs:List aI,fs.length=ls.length/\∀(i:Nat) (x:dY),ls[i]?=some x->∃(b a:aI) (xs:Array av) (rest:List av),fs[i]?=some b/\vs[i]?=some (aS a)/\ja h a xs/\xs.toList=aS b::rest/\VRel cx h x.box (.ref b)
 |[],vs,r=>⟨[],rfl,λ i x e=>by simp at e⟩
 |l::ls,vs,r=>by
  rw [bk] at r
  refine cu r.cons_inv λ v vs' r1_ r1 r2=>?_
  subst r1_
  refine aL (mY r2) λ fs h1 h2=>(cu (fA r1) λ a xs r1_ ht rx=>?_)
  subst r1_
  refine cu rx.cons_inv λ bv rest hx rb Z=>(f7 (fA (us:=[.tuple [.int l.first,.int l.last]]) rb) λ b bs r1_ Z=>?_)
  subst r1_
  refine ⟨b::fs,by (exact af aQ (af aQ (af h1 rfl))),λ i x e=>?_⟩
  cases i with
  |zero=>
   simp at e;subst e
   exact ⟨b,a,xs,rest,rfl,rfl,ht,hx,rb⟩
  |succ i=>
   refine iC (h2 i x (by simpa using e)) λ b' a' xs' t1_=>(cJ t1_ λ rest' g1 g2 g3=>?_)
   exact ⟨b',a',xs',rest',by simpa using g1,by simpa using g2,g3⟩
theorem ur {f:Nat->av}:∀{vs:List av} (k:Nat),(∀(i:Nat) (v:av),vs[i]?=some v->∃(a:aI) (xs:Array av) (rest:List av),v=aS a/\ja h a xs/\xs.toList=f (k+i)::rest)->KatTups h vs ((bH vs.length).map λ i=>f (k+i))
 |[],k,_=>KatTups.nil
 |v::vs,k,hh=>by
  refine iV (hh 0 v rfl) λ a xs rest r1_ w2_ hx=>?_
  subst r1_
  refine cJ w2_ λ o ho hc t1_=>(bw t1_ λ n hd=>?_)
  refine af aQ (af List.range_succ_eq_map (af bk (af cD ?_)))
  refine KatTups.cons ho hc hd (by (refine af (iP (cV)) (af hx ?_));rfl) ?_
  have:=ur (h:=h) (f:=f) (vs:=vs) (k+1) λ i w e=>by
   exact iV (hh (i+1) w (by simpa using e)) λ a xs rest e1 e2 e3=>⟨a,xs,rest,e1,e2,by refine af e3 ?_;congr 2;lia⟩
  have e:((λ i=>f (k+i))∘nz)=λ i=>f (k+1+i):=by
   funext i;show f (k+(i+1))=_;congr 1;lia
  exact af e this
end
section
variable {E:av->ax->Prop}
theorem tC (hx:mR cx h x b):∃as,Reads h (.ref b) (.tuple [.tuple [.int x.first,.int x.last]]) as:=by
 obtain ⟨bs,p,ps,t,u,⟨o,h1,h1c,n,h1d⟩,h2,⟨o2,h3,h3c,n2,h3d⟩,h4⟩:=hx
 have e1:bs=[aS p].toArray:=by (exact af h2.symm rfl)
 have e2:ps=[lD x.first t,.int x.last u].toArray:=by (exact af h4.symm rfl)
 subst e1 e2
 exact ⟨_,.tuple h1 h1c h1d (.cons (.tuple h3 h3c h3d (.cons (.int _ _) (.cons (.int _ _) .nil))) .nil)⟩
theorem EM (hx:mR cx s.heap x b) (hy:mR cx s.heap y c) (hn:x.first≠y.first) (hu:A.units+10<mG) (h:Q false s):
  aE (ay cx.prog cx.w) A (eqBool (.ref b) (.ref c)) Q E s:=by
 refine bw (tC hx) λ as ra=>(bw (tC hy) λ bs rb=>(PySem.SeqAt.eqBoolOverData _ _ _ _ _ _ _ _ _ _ _ _ ra rb (by simp [aU,fL]) (by simp [aU,fL]) ?_ ?_))
 ·have:min (eN (.tuple [.tuple [.int x.first,.int x.last]])) (eN (.tuple [.tuple [.int y.first,.int y.last]]))<=5:=by
   simp [eN,jj]
  lia
 ·have:zb (.tuple [.tuple [.int x.first,.int x.last]]) (.tuple [.tuple [.int y.first,.int y.last]])=false:=by
   simp [zb,PyData.eqvAll,hn]
  exact af this h
theorem AQ {ls:List dY} {Q:td->ax->Prop} (r:VRels cx s0 (ls.map dY.v) vs) (k:bQ s0 s.heap) (h2:2<=ls.length) (q:Q (ID (cP "tuple" !=cP "tuple")) s):aE (ay cx.prog cx.w) A (Fp vs.toArray) Q E s:=by
 have r:=VRels.mono k _ r
 refine aL (mY r) λ fs h1 h=>?_
 have hl:vs.length=ls.length:=by (exact af r.len (af (ag _) rfl))
 have hb:∀i,i<ls.length->∃x,ls[i]?=some x:=λ i hi=>⟨_,an hi⟩
 refine kat_kind (fs:=(bH vs.length).map λ i=>aS (fs.getD (0+i) 0)) (ur (f:=λ i=>aS (fs.getD i 0)) 0 λ i v e=>?_) (by (refine af (ag _) (af bP ?_));lia) (λ v hv=>?_) (by decide) q
 ·have hi:i<ls.length:=by refine af hl.symm ?_;exact (aO.mp e).1
  refine bw (hb i hi) λ x hx=>(zu (h i x hx) λ b a xs rest g1 g2 g3 t1_=>(bx t1_ λ g4 Z=>?_))
  rw [e] at g2;(have g2:=ac g2;subst g2)
  refine ⟨a,xs,rest,rfl,g3,?_⟩
  refine af g4 ?_
  have:fs.getD (0+i) 0=b:=by (refine af (ym _) (af (aJ) (af g1 ?_)));rfl
  exact af this rfl
 ·refine aL (bE.mp hv) λ i hi r1_=>?_
  subst r1_
  have hi:=ca.mp hi
  refine bw (hb i (by lia)) λ x hx=>(zu (h i x hx) λ b a xs rest g1 g2 g3 t1_=>(bx t1_ λ g4 g5=>?_))
  have:fs.getD (0+i) 0=b:=by (refine af (ym _) (af (aJ) (af g1 ?_)));rfl
  refine af this ?_
  refine aL (xH g5) λ b' e w1_=>?_
  obtain ⟨bs,p,ps,t,u,⟨o,ho,hc,_⟩,_⟩:=w1_
  cases e
  refine af hc.symm ?_
  exact (pB ho).andThen .now
end
namespace lZ
def S_ (cx s A ls vs i j C):=∀{s0:cO} (r:VRels cx s0 (ls.map dY.v) vs) (k:bQ s0 s.heap) (nd:(ls.map dY.first).Nodup) (hu:A.units+20<mG) (hi:i<ls.length) (hj:j<ls.length) (hij:i≠j) (q:C (decide (fAt ls dY.first i<fAt ls dY.first j)) s),xb cx.prog cx.w A (ID (cP "tuple" !=cP "tuple")) vs i j C s
def U_:=UV λ cx s A=>UV λ ls vs i=>UU λ j=>S_ cx s A ls vs i j
def t_:=dr (by have:=qe;have:=pH;have:=tJ;infer_instance) U_
def cx:=t_.1
def s:=t_.2.1
def A:=t_.2.2.1
def ls:=t_.2.2.2.1
def vs:=t_.2.2.2.2.1
def i:=t_.2.2.2.2.2.1
def s1_:=t_.2.2.2.2.2.2
def j:=s1_.1
def C:=s1_.2
theorem P_:S_ cx s A ls vs i j C:=by
 intro s0 r k nd hu hi hj hij q
 have r:=VRels.mono k _ r
 refine aL (mY r) λ fs h1 h=>(zu (h i _ (an hi)) λ b a xs rest g1 g2 g3 t1_=>?_)
 refine bx t1_ λ g4 g5=>?_
 refine zu (h j _ (an hj)) λ c d ys rest2 k1 k2 k3 t1_=>?_
 refine bx t1_ λ k4 k5=>?_
 have fi:fAt ls dY.first i=(ls[i]).first:=by unfold fAt;(refine af (aJ) (af (aF) (af (an hi) ?_)));rfl
 have fj:fAt ls dY.first j=(ls[j]).first:=by unfold fAt;(refine af (aJ) (af (aF) (af (an hj) ?_)));rfl
 rw [fi,fj] at q
 have hn:(ls[i]).first≠(ls[j]).first:=by
  have P:=uV.mp nd
  rcases DS hij with h|h
  ·have:=P i j (by exact af (ag _) hi) (by exact af (ag _) hj) h
   simpa using this
  ·have:=P j i (by exact af (ag _) hj) (by exact af (ag _) hi) h
   exact λ e=>this (by simpa using e.symm)
 refine aL (xH g5) λ b' e1 hb=>?_
 cases e1
 refine aL (xH k5) λ c' e2 hc=>?_
 cases e2
 unfold xb
 have ei:vs.getD i bR=.ref a:=by (refine af (aJ) (af g2 ?_));rfl
 have ej:vs.getD j bR=.ref d:=by (refine af (aJ) (af k2 ?_));rfl
 refine af ei (af ej ?_)
 refine cJ g3 λ o ho hoc t1_=>(bw t1_ λ n hod=>?_)
 refine cJ k3 λ o2 ho2 hoc2 t1_=>(bw t1_ λ n2 hod2=>?_)
 refine kat_lt ho hod ho2 hod2 ?_
 refine af g4 (af k4 (af cM ?_))
 refine kat_cons (EM hb hc hn (by lia) (kat_no ?_))
 exact kat_one _ _ (HG hb hc hn (by lia) q)
theorem A_:∀p,U_ p:=bC P_
end lZ
section
variable {cx:Cx}
theorem lZ {cx s A ls vs i j C}:lZ.S_ cx s A ls vs i j C:=lZ.A_ (cx,s,A,ls,vs,i,j,C)
end
section
variable {cx:Cx}
noncomputable def key1 (k:Int):V:=.tuple [.int k]
theorem qi {ks:List Int} (r:VRels cx h (ks.map key1) vs) {i:Nat} (e:ks[i]?=some k):∃(a:aI) (xs:Array av) (t:Tok),vs[i]?=some (aS a)/\ja h a xs/\xs.toList=[lD k t]:=by
 obtain ⟨v,hv,rv⟩:=r.get (i:=i) (u:=key1 k) (by (refine af (aF) (af e ?_));rfl)
 refine cu (fA rv) λ a xs r1_ ht rx=>?_
 subst r1_
 refine aL (gS rx) λ w hw rw_=>(bw (cn rw_) λ t r1_=>?_)
 subst r1_
 exact ⟨a,xs,t,hv,ht,hw⟩
end
namespace ku
def S_ (cx:Cx) (s:ax) (ks:List Int) (vs):=∀{A:dz} {E:av->ax->Prop} {Q:td->ax->Prop} {s0:cO} (r:VRels cx s0 (ks.map key1) vs) (k:bQ s0 s.heap) (h2:2<=ks.length) (q:Q (ID (cP "int" !=cP "tuple")) s),aE (ay cx.prog cx.w) A (Fp vs.toArray) Q E s
def U_:=UV λ cx s ks=>S_ cx s ks
def t_:=dr (by have:=pH;have:=tJ;infer_instance) U_
def cx:=t_.1
def s:=t_.2.1
def ks:=t_.2.2.1
def vs:=t_.2.2.2
theorem P_:S_ cx s ks vs:=by
 intro A E Q s0 r k h2 q
 have r:=VRels.mono k _ r
 have hl:vs.length=ks.length:=by (exact af r.len (af (ag _) rfl))
 obtain ⟨tk,htk⟩:∃tk:Nat->Tok,∀i (hi:i<ks.length),∃(a:aI) (xs:Array av),vs[i]?=some (aS a)/\ja s.heap a xs/\xs.toList=[lD (ks.getD i 0) (tk i)]:=by
  refine ⟨λ i=>if hi:i<ks.length then (qi r (an hi)).choose_spec.choose_spec.choose else 0,λ i hi=>?_⟩
  have:=(qi r (an hi)).choose_spec.choose_spec.choose_spec
  refine ⟨_,_,this.1,this.2.1,?_⟩
  dsimp only
  refine af (dif_pos hi) ?_
  have e:ks.getD i 0=ks[i]:=by (refine af (aJ) (af (an hi) ?_));rfl
  exact af e this.2.2
 refine kat_kind (fs:=(bH vs.length).map λ i=>lD (ks.getD (0+i) 0) (tk (0+i))) (ur (f:=λ i=>lD (ks.getD i 0) (tk i)) 0 λ i v e=>?_) (by (refine af (ag _) (af bP ?_));lia) (λ v hv=>?_) (by decide) q
 ·have hi:i<ks.length:=by refine af hl.symm ?_;exact (aO.mp e).1
  refine cu (htk i hi) λ a xs g2 g3 g4=>?_
  rw [e] at g2;(have g2:=ac g2;subst g2)
  exact ⟨a,xs,[],rfl,g3,by (exact af g4 (af (ym _) rfl))⟩
 ·refine aL (bE.mp hv) λ i hi r1_=>?_
  subst r1_
  exact .now
theorem A_:∀p,U_ p:=bC P_
end ku
section
variable {E:av->ax->Prop}
theorem ku {cx s ks vs}:ku.S_ cx s ks vs:=ku.A_ (cx,s,ks,vs)
theorem Ca (r:VRels cx s0 (ks.map key1) vs) (k:bQ s0 s.heap) (nd:(ks.map λ k=>k).Nodup) (hi:i<ks.length) (hj:j<ks.length) (hij:i≠j) (q:C (decide (fAt ks (λ k=>k) i<fAt ks (λ k=>k) j)) s):
  xb cx.prog cx.w A (ID (cP "int" !=cP "tuple")) vs i j C s:=by
 have r:=VRels.mono k _ r
 refine iV (qi r (an hi)) λ a xs t g2 g3 g4=>?_
 refine iV (qi r (an hj)) λ d ys u k2 k3 k4=>?_
 have fi:fAt ks (λ k=>k) i=ks[i]:=by unfold fAt;(refine af (aJ) (af (aF) (af (an hi) ?_)));rfl
 have fj:fAt ks (λ k=>k) j=ks[j]:=by unfold fAt;(refine af (aJ) (af (aF) (af (an hj) ?_)));rfl
 rw [fi,fj] at q
 have hn:ks[i]≠ks[j]:=by
  have P:=uV.mp nd
  rcases DS hij with h|h
  ·have:=P i j (by exact af (ag _) hi) (by exact af (ag _) hj) h
   simpa using this
  ·have:=P j i (by exact af (ag _) hj) (by exact af (ag _) hi) h
   exact λ e=>this (by simpa using e.symm)
 unfold xb
 have ei:vs.getD i bR=.ref a:=by (refine af (aJ) (af g2 ?_));rfl
 have ej:vs.getD j bR=.ref d:=by (refine af (aJ) (af k2 ?_));rfl
 refine af ei (af ej ?_)
 refine cJ g3 λ o ho hoc t1_=>(bw t1_ λ n hod=>?_)
 refine cJ k3 λ o2 ho2 hoc2 t1_=>(bw t1_ λ n2 hod2=>?_)
 refine kat_lt ho hod ho2 hod2 ?_
 refine af g4 (af k4 (af cM ?_))
 exact kat_cons (th hn (kat_no (oneLt_int q)))
theorem qC {α:Type} {L0:List α} {f:α->Int} {g:α->V} {κ:td} (lk:ux cx H s.heap L) (I:cb cx H s.heap) (n:s.heap.Ns L m) (hu:A.units+100<mG)
  (F:Fr cx.base L h1 m) (N:DE cx.base L h1 ((D,listOf vs.toArray 0)::allNews cx.base s.heap L)) (hlt:∀q∈allNews cx.base s.heap L,q.1<D) (hbD:cx.base.objs.size<=D)
  (rs:VRels cx s.heap (L0.map g) vs) (h3:L0.length<=3) (nd:(L0.map f).Nodup)
  (hk:2<=L0.length->∀(B:dz) (s':ax) (Q:td->ax->Prop) (E:av->ax->Prop),bQ s.heap s'.heap->Q κ s'->aE (ay cx.prog cx.w) B (Fp vs.toArray) Q E s')
  (hc:∀(B:dz) (s':ax),B.units+20<mG->bQ s.heap s'.heap->∀i j,i<L0.length->j<L0.length->i≠j->∀C:Bool->ax->Prop,C (decide (fAt L0 f i<fAt L0 f j)) s'->xb cx.prog cx.w B κ vs i j C s')
  (q:∀c,H c=none->Q (.ref c) (H.set c (.list ((isort f L0).map g)))):
  aE (ay cx.prog cx.w) A (call (.builtin "list.sort") [.ref D]) (λ Z s'=>bO cx H s Q (.ref D) s') E {s with heap:=h1,toks:=tk}:=by
 have e1:A.in1.units<=A.units+2:=by show A.units+_<=_;lia
 exact BX (c0:=0) lk I n F N hlt hbD rs h3 nd (λ h2 s' Q E k z=>hk h2 _ s' Q E k z) (λ s' k=>hc _ s' (by lia) k) q
end
section
variable {cx:Cx}
theorem DC (hk:lr (f9 cx.prog cx.w) h [k] a):VRel cx h (key1 k) (.ref a):=by
 refine kg hk λ o aB n ho hc hd hi=>?_
 clear hk
 have:∃t,aB.toList=[lD k t]:=by
  generalize aB.toList=l at hi
  cases hi with
  |cons h1 h2=>
   cases h2
   refine bw (Value.isInt_shape h1) λ t r1_=>?_
   subst r1_
   exact ⟨t,rfl⟩
 refine bw this λ t e=>?_
 clear this
 exact jF ⟨o,ho,hc,n,hd⟩ (by refine af e ?_;exact .one du)
theorem tt:∀{es:List (Int×V)} {xs:List (List Int×aI×av)},TRel cx h (es.map λ p=>([p.1],p.2)) xs->VRels cx h ((es.map (·.1)).map key1) (xs.map λ x=>aS x.2.1)
 |[],xs,r=>by
  have r:TRel cx h [] xs:=r
  subst r;exact .nil
 |(k,u)::es,xs,r=>by
  have r:TRel cx h (([k],u)::es.map λ p=>([p.1],p.2)) xs:=r
  refine kg r λ a v xs' r1_ hk hv hr=>?_
  clear r
  subst r1_
  exact .cons (DC hk) (tt hr)
theorem Ad (hsys:fq<cx.base.objs.size) (ha:cx.addr (.bi "sorted")=.builtin "sorted"):CallOk cx tb0 (.bi "sorted"):=by
 intro A H s us vs Q X am st lk I r q
 refine af ha ?_
 replace q:qS us H Q X:=q
 revert r
 refine rG (λ a q=>?_) q
 ·intro r
  refine aL (gS r) λ v r1_ rv=>?_
  subst r1_
  have:=dh rv;subst this
  refine bw lk λ L lk_=>?_
  clear lk
  revert lk_;intro lk
  refine bw lk.ns λ m n=>?_
  have F:=v5 I lk n
  have N:DE cx.base L s.heap (allNews cx.base s.heap L):=lm
  have hu:=am.units
  have e1:A.in1.units<=A.units+2:=by show A.units+_<=_;lia
  rcases q with ⟨ls,e,nd,h3,q⟩|⟨es,e,nd,h3,q⟩
  ·refine f7 (I.own _ _ e) λ aB nn ho rs=>?_
   have hz:aB.toList.length=ls.length:=by (exact af rs.len (af (ag _) rfl))
   refine Calls.call_function_entry kind_sorted plain_sorted entry_sorted (args_sorted1 _) ?_
   unfold jb.«sorted»
   refine ae (m:=checkCount "sorted" 1 1 _) (ah ?_)
   refine ae (collect_list (vs:=aB.toList) ⟨_,ho,rfl,nn,rfl⟩ ?_ (by (refine af hz (af d8 ?_));exact ao ‹_› (by decide)))
   have hk:∀b o,s.heap.get? b=some o->((s.heap.push (ij "list" #[] 0)).update s.heap.objs.size (fc (·++aB.toList.toArray))).get? b=some o:=λ b o q=>by
    have hlt:b<s.heap.objs.size:=bz q
    refine af (Heap.get?_update_ne _ _ _ _ (dN hlt)) ?_
    exact ak _ q
   generalize (s.heap.push (ij "list" #[] 0)).update s.heap.objs.size (fc (·++aB.toList.toArray))=h' at*
   refine ae (wpAny_newList ?_ (by rw [hz,d8];exact ao ‹_› (by decide)))
   have hLh:L<h'.objs.size:=(n.keeps hk).lt
   have key:=λ (E:av->ax->Prop)=>qC (s:=s) (A:=A.in1) (E:=E) (D:=h'.objs.size) (L0:=ls) (f:=dY.first) (g:=dY.v) (tk:=s.toks) lk I n (by lia) ((F.keeps hk).push _) (News.push (F.keeps hk) (λ p hp=>⟨hk _ _ (N p hp).1,(N p hp).2⟩) _ rfl)
    (λ q hq=>bz (hk _ _ (N q hq).1)) (ao lk.above (fE hLh)) rs h3 nd (λ h2 B s' Q E k z=>AQ rs k h2 z) (λ B s' hb k i j hi hj hij C z=>lZ rs k nd hb hi hj hij z) q
   refine ae (bA (aq (key _) (λ Z s' x=>?_) λ Z Z e=>e))
   exact ah ⟨_,rfl,x⟩
  ·obtain ⟨xs,hm,tr⟩:∃xs,s.heap.DictOfH (qa (f9 cx.prog cx.w)) a xs/\TRel cx s.heap (es.map λ p=>([p.1],p.2)) xs:=by
    rcases e with ⟨e,rfl⟩|e
    ·exact bw (I.own _ _ e) λ n e'=>⟨[],⟨_,#[],n,e',⟨rfl,rfl,rfl⟩,rfl,rfl,λ Z hx=>by simp at hx,iu⟩,by rfl⟩
    ·exact I.own _ _ e
   have hlo:(a==fq)=false:=by
    rcases e with ⟨e,_⟩|e<;>exact lW hsys I e
   refine uf hm λ o ents ep ho hx hd hents t1_=>(bx t1_ λ Z Z=>?_)
   clear hm t1_
   have hle:ents.size=es.length:=by
    have e1:=congrArg kU hents
    have e2:=rM tr
    simp at e1 e2
    lia
   refine kdu_sorted (ER (es:=ents) (ep:=ep) hlo) am.handled F N ⟨o,ho,hx,hd⟩ (by (refine af hle (af d8 ?_));exact ao ‹_› (by decide)) λ D h' tk vs F' N' hlt hlen hP=>?_
   have hvs:vs=xs.map λ x=>aS x.2.1:=by
    refine DN λ j=>?_
    have e3:ents[j]?=(xs[j]?).map (entryOfKey (qa (f9 cx.prog cx.w))):=by rw [<-cV,hents,aF]
    cases hj:vs[j]? with
    |none=>
     have:vs.length<=j:=List.getElem?_eq_none_iff.mp hj
     have:ents[j]?=none:=wX (by lia)
     rw [this] at e3
     rw [aF]
     cases hx:xs[j]? with
     |none=>rfl
     |some x=>rw [hx] at e3;cases e3
    |some v=>
     refine aL (hP j v hj) λ en h1 r1_=>?_
     subst r1_
     rw [h1] at e3
     rw [aF]
     cases hx:xs[j]? with
     |none=>rw [hx] at e3;cases e3
     |some x=>rw [hx] at e3;cases e3;rfl
   have rs:VRels cx s.heap ((es.map (·.1)).map key1) vs:=by refine af hvs ?_;exact tt tr
   have haD:a<D:=hlt (a,o) (fO.mpr ⟨ho,λ z=>?_,?_⟩)
   ·have nd':((es.map (·.1)).map λ k=>k).Nodup:=by exact af (IB _) nd
    have hb:cx.base.objs.size<=D:=ao (I.old a (by rcases e with ⟨e,_⟩|e<;>exact ft e)) (fE haD)
    exact qC (s:=s) (A:=A.in1) (D:=D) (L0:=es.map λ p:Int×V=>p.1) (f:=λ k:Int=>k) (g:=key1) (tk:=tk) lk I n (by lia) F' N' hlt hb rs (by exact af (ag _) h3) nd'
     (λ h2 B s' Q E k z=>ku rs k h2 z) (λ B s' hb k i j hi hj hij C z=>Ca rs k nd' hi hj hij z) q
   ·subst z
    rcases e with ⟨e,_⟩|e<;>exact ft e lk.free
   ·cases z:cx.base.get? a with
    |none=>rfl
    |some o2=>
     have:=I.old a (by rcases e with ⟨e,_⟩|e<;>exact ft e)
     exact absurd (bz z) (dw.mpr this)
end
theorem Jc (h:one0 l=true):∃v,l=[v]/\int0 v=true:=by
 cases l with
 |nil=>exact aM h
 |cons v r=>exact ⟨v,congrArg (v::·) (yG (ar h)),al h⟩
theorem HB (X:cx.K.In cx.base) (ha:cx.addr f=.ref a) (h:fnChk1 gl cx.K a [x,y,z,u] nm t body=true) (hb:stOf cx.K a=some (emSs nm body t)) (hd:dflt0 cx.K a=true):z0 cx gl f [x,y,z,u] nm [.int 0] body:=by
 refine aL (tX hd) λ fd e h1=>(aL (tX h1) λ xs e1 h2=>(aL (Jc h2) λ v e2 h3=>(bw (Hs h3) λ tk r1_=>?_)))
 subst r1_
 refine iV (D7 e1) λ T o n e3 e4 e5=>(FK X ha h hb (.one (du (t:=tk))) λ fd' e' p vs s k hl=>?_)
 (have e_:=ac (e.symm.trans e');subst e_)
 exact aL (wx (ds:=[.int 0 tk]) p hl) λ k' k1 k2=>(BindsTo.of_defaults e3 (k _ _ (X _ _ e4)) e5 k1 (k2 (some xs) e2))
structure qH (w:f8) (base:cO) (K:gk):Prop where
 X:K.In base
 chk:chk0 K=true
 txt:txt0 K=exp0
 sys:fq<base.objs.size
 mg:∃mg mb,base.Ns dj mg/\base.Ns lB mb/\∀x:aw,x≠"__name__"->mb x=sV x
 nolimit:base.NoLimit
noncomputable abbrev cx0 (p:cR) (w:f8) (base:cO) (K:gk):Cx:=⟨p,w,base,K,addr0,fld0⟩
section
variable {p:cR}
theorem EO:∀q∈flds,addr0 (.cls q.1)=.ref (cA q.1):=ai rfl<|ai rfl<|ai rfl<|ai rfl<|ai rfl<|λ Z h=>by cases h
theorem yO:∀q∈mths,addr0 (.cls q.1)=.ref (cA q.1)/\addr0 (.user q.2.2)=.ref (uA q.2.2):=ai ⟨rfl,rfl⟩<|ai ⟨rfl,rfl⟩<|ai ⟨rfl,rfl⟩<|ai ⟨rfl,rfl⟩<|ai ⟨rfl,rfl⟩<|λ Z h=>by cases h
theorem wN:∀q∈inits,addr0 (.cls q.1)=.ref (cA q.1)/\addr0 (.user q.2)=.ref (uA q.2):=ai ⟨rfl,rfl⟩<|ai ⟨rfl,rfl⟩<|ai ⟨rfl,rfl⟩<|ai ⟨rfl,rfl⟩<|ai ⟨rfl,rfl⟩<|λ Z h=>by cases h
theorem y6 (h:(o.map aS).getD .none=.ref a):o=some a:=by
 cases o with
 |none=>cases h
 |some b=>cases h;rfl
theorem v0 (o:Option aI):sQ ((o.map aS).getD .none)=true:=by cases o<;>rfl
end
namespace rm
def S_ (K n):=∀(h:fldChk K=true) {c:Fn} (hn:fld0 c n=true),∃C,addr0 c=.ref C/\plainGet K C n=true/\uO K C=true/\cS K (.ref C) n=some none/\cS K (.ref C) "__setattr__"=some (some (.builtin "object.__setattr__"))/\plainOver K C=true
def U_:=UU λ K=>S_ K
def t_:=dr (by infer_instance) U_
def K:=t_.1
def n:=t_.2
theorem P_:S_ K n:=by
 intro h c hn
 cases c with
 |cls k=>
  have hm:n∈fldOf k:=by unfold fld0 at hn;simpa using hn
  unfold fldOf at hm
  cases e:flds.lookup k with
  |none=>rw [e] at hm;cases hm
  |some l=>
   rw [e] at hm
   have hl:=Mine.lookup_mem e
   have:=bt.mp h _ hl
   simp only [bI,beq_iff_eq,bt] at this
   refine oB this λ g1 g2 g3 g4=>?_
   exact ⟨cA k,EO _ hl,(g4 n hm).1,g1,(g4 n hm).2,g2,g3⟩
 |_=>cases hn
theorem A_:∀p,U_ p:=bC P_
end rm
section
variable {K:gk}
theorem rm {K n}:rm.S_ K n:=rm.A_ (K,n)
theorem GT (h:mthChk K C n f=true):cS K (.ref C) "__getattribute__"=some (some (.builtin "object.__getattribute__"))/\cS K (.ref C) "__getattr__"=some none/\cS K (.ref C) n=some (some (.ref f))/\pt K (.ref f)=some (.type "function"):=by
 unfold mthChk at h
 simpa only [bI,beq_iff_eq] using h
theorem Hm (h:iniChk K C f=true):makesIn K C=true/\cS K (.ref C) "__init__"=some (some (.ref f))/\pt K (.ref f)=some (.type "function"):=by
 unfold iniChk at h
 simpa only [bI,beq_iff_eq] using h
end
namespace jX
def S_ (p w base K):=∀(T:qH w base K),gT (cx0 p w base K) tb0 gl0
def U_:=UV λ p w base=>S_ p w base
def t_:=dr (by have:=vt;infer_instance) U_
def p:=t_.1
def w:=t_.2.1
def base:=t_.2.2.1
def K:=t_.2.2.2
theorem P_:S_ p w base K:=by
 intro T
 have h:=T.chk
 unfold chk0 at h
 simp only [bI] at h
 refine GW h λ Z hg hk hf ht Z=>?_
 unfold tabChk at ht
 simp only [bI] at ht
 refine bx ht λ hmt hit=>?_
 unfold keepChk at hk
 simp only [bI,bt] at hk
 refine {X:=T.X,sys:=T.sys,hand:=λ f=>?_,fld:=λ c n hn=>rm hf hn,mg:=T.mg,nolimit:=T.nolimit,glob:=λ x f hx=>?_,keep:=λ f=>?_,tfld:=λ Z Z=>rfl,meth:=λ c n f hm=>?_,bi:=λ id hid=>?_,init:=λ c f hi=>?_}
 ·show sQ (addr0 f)=true
  cases f with
  |user n=>exact v0 _
  |cls n=>exact v0 _
  |ty n=>rfl
  |bi id=>
   show sQ (if biA.contains id then gE id else bR)=true
   split
   ·rename_i e
    have e:id∈biA:=by simpa using e
    unfold biA at e
    simp only [aZ,cI,or_false] at e
    rcases e with rfl|rfl|rfl|rfl|rfl|rfl|rfl|rfl|rfl|rfl<;>decide+kernel
   ·rfl
 ·have:=bt.mp hg _ (Mine.lookup_mem hx)
  simpa only [jt,bI,beq_iff_eq,bne_iff_ne,ne_eq] using this
 ·show uQ K (addr0 f)=true\/_
  cases f with
  |user n=>
   cases e:userA.lookup n with
   |none=>exact .inr λ a z=>by have z:=y6 z;rw [e] at z;cases z
   |some a=>refine .inl ?_;show uQ K (((userA.lookup n).map aS).getD .none)=true;refine af e ?_;exact hk.1 _ (Mine.lookup_mem e)
  |cls n=>
   cases e:clsA.lookup n with
   |none=>exact .inr λ a z=>by have z:=y6 z;rw [e] at z;cases z
   |some a=>refine .inl ?_;show uQ K (((clsA.lookup n).map aS).getD .none)=true;refine af e ?_;exact hk.2 _ (Mine.lookup_mem e)
  |ty n=>exact .inr λ a z=>by cases z
  |bi id=>
   refine .inr λ a z=>?_
   have z:(if biA.contains id then gE id else .none)=.ref a:=z
   split at z<;>cases z
 ·cases c with
  |cls k=>
   refine aL (aH.1 hm) λ m e z=>?_
   have hb:=List.find?_some e
   have hmem:=List.mem_of_find?_eq_some e
   rw [bI] at hb
   have e1:=eq_of_beq hb.1
   have e2:=eq_of_beq hb.2
   subst e1 e2 z
   exact ⟨_,_,(yO _ hmem).1,(yO _ hmem).2,GT (bt.1 hmt _ hmem)⟩
  |_=>cases hm
 ·simp only [aZ,cI,or_false] at hid
  rcases hid with rfl|rfl|rfl|rfl<;>rfl
 ·cases c with
  |cls k=>
   refine aL (aH.1 hi) λ m e z=>?_
   subst z
   have hmem:=Mine.lookup_mem e
   exact ⟨_,_,(wN _ hmem).1,(wN _ hmem).2,Hm (bt.1 hit _ hmem)⟩
  |_=>cases hi
theorem A_:∀p,U_ p:=bC P_
end jX
section
variable {p:cR}
theorem jX {p w base K}:jX.S_ p w base K:=jX.A_ (p,w,base,K)
end
namespace pi
def S_ (p w base K):=∀(T:qH w base K),uK (cx0 p w base K) gl0 65 [52]
def U_:=UV λ p w base=>S_ p w base
def t_:=dr (by have:=vt;infer_instance) U_
def p:=t_.1
def w:=t_.2.1
def base:=t_.2.2.1
def K:=t_.2.2.2
theorem P_:S_ p w base K:=by
 intro T
 have h:=ar (ar (ar (ar (ar T.chk))))
 have h1:=ar h
 have h2:=ar (ar (ar h1))
 have h3:=ar (ar (ar h2))
 have h4:=ar (ar (ar h3))
 refine ⟨rfl,⟨?_,by decide,by decide,by decide,by decide⟩,eq_of_beq (al h1),eq_of_beq (al (ar h1)),⟨49,rfl,eq_of_beq (al (ar (ar h1))),eq_of_beq (al h2)⟩,eq_of_beq (al (ar h2)),eq_of_beq (al (ar (ar h2))),eq_of_beq (al h3),eq_of_beq (al (ar h3)),eq_of_beq (al (ar (ar h3))),al h4,rfl,FR T.X rfl (al (ar h4)) (congrArg (·.2.1) T.txt) (ar (ar h4))⟩
 refine aL (tX (al h)) λ w1_ e q=>?_
 obtain ⟨o,cd⟩:=w1_
 refine bx (GJ e) λ e1 e2=>?_
 have q1:=eq_of_beq (al q)
 have q2:=eq_of_beq (al (ar q))
 have q3:=nt (al (ar (ar q)))
 have q4:=al (ar (ar (ar q)))
 have q5:=eq_of_beq (ar (ar (ar (ar q))))
 obtain ⟨c,dd,dt,sl⟩:=o
 obtain ⟨nm,bs,mro,ns,qn,hdd,sn,sub,ab,col,del⟩:=cd
 cases q1;cases q2;cases q3;cases q4;cases e2
 have z:K.lookup 65=some ⟨_,_,_,excSl sl⟩:=e1.trans (congrArg (λ s=>some (HV _ _ _ s)) q5)
 exact ⟨nm,qn,ns,bs,sn,sub,ab,col,dd,_,_,_,_,_,T.X _ _ z⟩
theorem A_:∀p,U_ p:=bC P_
end pi
section
variable {p:cR}
theorem pi {p w base K}:pi.S_ p w base K:=pi.A_ (p,w,base,K)
end
theorem tf {c g:Fn} (h:init0 c=some g):∃k,g=.user k:=by
 cases c with
 |cls k=>obtain ⟨m,-,z⟩:=aH.1 h;exact ⟨m,z.symm⟩
 |_=>cases h
theorem NI:∀e∈ents,VC e.2.1 (lvl0 (.user e.1)) e.2.2.2.1 e.2.2.2.2.1 [] e.2.2.2.2.2/\addr0 (.user e.1)=.ref e.2.2.1:=
 ai ⟨N4,rfl⟩<|ai ⟨L5,rfl⟩<|ai ⟨Mw,rfl⟩<|ai ⟨LV,rfl⟩<|ai ⟨Nn,rfl⟩<|ai ⟨Md,rfl⟩<|ai ⟨Nb,rfl⟩<|ai ⟨Ma,rfl⟩<|ai ⟨Mh,rfl⟩<|ai ⟨L7,rfl⟩<|ai ⟨Mg,rfl⟩<|ai ⟨Ms,rfl⟩<|ai ⟨MT,rfl⟩<|ai ⟨Nj,rfl⟩<|ai ⟨Nd,rfl⟩<|ai ⟨Mo,rfl⟩<|ai ⟨Mx,rfl⟩<|ai ⟨MK,rfl⟩<|ai ⟨LM,rfl⟩<|ai ⟨M7,rfl⟩<|ai ⟨Ng,rfl⟩<|ai ⟨MU,rfl⟩<|ai ⟨MY,rfl⟩<|ai ⟨Mp,rfl⟩<|ai ⟨Nk,rfl⟩<|ai ⟨Mv,rfl⟩<|ai ⟨MW,rfl⟩<|ai ⟨LZ,rfl⟩<|ai ⟨MJ,rfl⟩<|ai ⟨LJ,rfl⟩<|ai ⟨Nt,rfl⟩<|ai ⟨LN,rfl⟩<|ai ⟨Mq,rfl⟩<|ai ⟨Mn,rfl⟩<|ai ⟨Nh,rfl⟩<|ai ⟨Mu,rfl⟩<|ai ⟨ND,rfl⟩<|ai ⟨MP,rfl⟩<|ai ⟨L4,rfl⟩<|ai ⟨NE,rfl⟩<|ai ⟨Ny,rfl⟩<|ai ⟨Me,rfl⟩<|ai ⟨Mf,rfl⟩<|ai ⟨MS,rfl⟩<|ai ⟨LP,rfl⟩<|ai ⟨LX,rfl⟩<|ai ⟨Nf,rfl⟩<|ai ⟨Mk,rfl⟩<|ai ⟨NB,rfl⟩<|ai ⟨Nq,rfl⟩<|ai ⟨Mt,rfl⟩<|ai ⟨Nr,rfl⟩<|λ Z h=>by cases h
section
variable {p:cR} {w:f8} {base:cO} {K:gk}
theorem vE (T:qH w base K) {k:Nat} {sp:cB} (h:users0.lookup k=some sp):∃ps nm ds body,z0 (cx0 p w base K) gl0 (.user k) ps nm ds body/\VC sp (lvl0 (.user k)) ps nm ds body:=by
 have hc:=al T.chk
 have h:=lookup_mem (l:=(42,EP)::ents.map λ e=>(e.1,e.2.1)) h
 rcases aZ.1 h with e|h
 ·cases e;exact ⟨_,_,_,_,HB T.X rfl (al hc) (congrArg (·.1) T.txt) (al (ar hc)),MB⟩
 ·refine aL (bE.1 h) λ e he z=>?_
  cases z
  have q:=bt.1 (ar (ar hc)) e he
  have z:ents.map (λ e=>stOf K e.2.2.1)=ents.map λ e=>some (emSs e.2.2.2.2.1 e.2.2.2.2.2 (tr0 e.1)):=congrArg (·.2.2) T.txt
  exact ⟨_,_,_,_,FR T.X (NI e he).2 (al q) (List.map_inj_left.1 z e he) (ar q),(NI e he).1⟩
theorem CA (T:qH w base K) {A:dz} {lv:Nat} {au:i4} (am:Bu A lv) (hfr:∃outer,A.frames=some (au::outer)):Lq (cx0 p w base K) tb0 gl0 A lv au:=
 ⟨λ ie hg hs=>l4 (jX T) (pi T) am ie hg hs,λ ie hg hi hl hj hw hd hne hcp=>rr (jX T) (pi T) hfr ie hg hi hl hj hw hd hne hcp⟩
theorem oz (T:qH w base K):∀(n:Nat) (f:Fn),lvl0 f<n->CallOk (cx0 p w base K) tb0 f/\((∃k,f=.user k)->CodeOk (cx0 p w base K) tb0 f)
 |0,_,h=>absurd h (GF _)
 |n+1,f,h=>by
  have no:spec0 f=gx->CallOk (cx0 p w base K) tb0 f/\((∃k,f=.user k)->CodeOk (cx0 p w base K) tb0 f):=λ e=>
   ⟨λ A H s us vs Q X Z Z Z Z Z q=>by have q:spec0 f us H Q X:=q;rw [e] at q;exact q.elim,λ Z A H s us vs Q X Z Z Z Z Z q=>by have q:spec0 f us H Q X:=q;rw [e] at q;exact q.elim⟩
  cases f with
  |user k=>
   cases e:users0.lookup k with
   |none=>exact no (by show (users0.lookup k).getD gx=gx;refine af e ?_;rfl)
   |some sp=>
    refine iC (vE (p:=p) T e) λ ps nm ds t1_=>(aL t1_ λ body hf vc=>?_)
    have hs:tb0.spec (.user k)=sp:=by show (users0.lookup k).getD gx=sp;refine af e ?_;rfl
    have c:CodeOk (cx0 p w base K) tb0 (.user k):=EZ (jX T) BK (λ A au am hfr=>CA T am hfr) hf (λ g hg=>(oz T n g (cG hg (k9 h))).1)
     (λ c g hi hg=>(oz T n g (cG hg (k9 h))).2 (by
      exact tf hi)) (λ us H Q X q=>vc us H Q X (by rw [hs] at q;exact q))
    exact ⟨c.call,λ Z=>c⟩
  |cls k=>exact no rfl
  |bi id=>
   refine ⟨?_,λ ⟨k,z⟩=>by cases z⟩
   cases e:bis0.lookup id with
   |none=>exact (no (by show (bis0.lookup id).getD gx=gx;refine af e ?_;rfl)).1
   |some sp=>
    have hall:∀x∈bis0,CallOk (cx0 p w base K) tb0 (.bi x.1):=ai (G8 rfl)<|ai (Ad T.sys rfl)<|ai (zG rfl rfl)<|ai (GX rfl)<|ai (HH rfl)<|ai (AB rfl)<|ai (AV rfl)<|ai (G1 T.sys rfl)<|ai (zr T.sys rfl)<|λ Z h=>by cases h
    exact hall _ (lookup_mem e)
  |ty id=>
   refine ⟨?_,λ ⟨k,z⟩=>by cases z⟩
   cases e:tys0.lookup id with
   |none=>exact (no (by show (tys0.lookup id).getD gx=gx;refine af e ?_;rfl)).1
   |some sp=>
    have hall:∀x∈tys0,CallOk (cx0 p w base K) tb0 (.ty x.1):=ai (CI rfl)<|ai (BH rfl)<|ai (G9 rfl)<|ai (CY rfl)<|ai (EA rfl)<|λ Z h=>by cases h
    exact hall _ (lookup_mem e)
end
theorem EY (w:f8) (os:iA):∃s₁,topRun fY pw0 w 11 (some (.ref 6)) (12+(1+(5400+2))) ⟨iS w.params,#[],HX,boot_toks,os⟩ (Iy pw0)=some s₁/\
  ((BC (eh pw0.main.body) (iS w.params) s₁.heap&&yb pw0 s₁.heap&&Fj s₁&&Fk (iS w.params) s₁.heap),openSeen view0 loose0 (eh pw0.main.body) xt0 true s₁,(chk0 (eR s₁.heap),txt0 (eR s₁.heap)))=(true,openGood view0 loose0,(true,exp0)):=by
 obtain ⟨⟨f,sT,c,pos⟩,h1,h2⟩:=gN.mp (Ac w os)
 obtain ⟨s₁,h3,h4⟩:=aH.mp h2
 have h5:=Eb w os
 unfold sE at h5
 rw [h1,k8,h3,qt] at h5
 have h8:(chk0 (eR s₁.heap),txt0 (eR s₁.heap))=(true,exp0):=ac h5
 obtain ⟨ef,g4⟩:=wY h4
 obtain ⟨ec,g5⟩:=wY g4
 obtain ⟨h6,h7⟩:=wY g5
 have ef:f=.next:=ef
 have ec:c=c0:=ec
 subst ef ec
 have seg:=segRun_of h1
 have fh:topRun fY pw0 w 11 (some (.ref 6)) (5400+2) (st0 w os).abs (restOf (mI pw0++[]) env0 c0 q0 [yc q0])=some s₁:=piece_app seg (piece_nil h3)
 rw [d5] at fh
 exact ⟨s₁,go_top (GN w os) (piece_block (Ce w os) fh),by rw [h8];exact GA h6 (GA h7 rfl)⟩
theorem Kv:LeftO pw0 view0 loose0 xt0 (λ s=>(chk0 (eR s.heap),txt0 (eR s.heap))) (λ Z=>(true,exp0)) 10104:=
 Ee (boot_open Jg (by decide) HJ) KI EY (by decide)
noncomputable abbrev row0:OpenRow:=eV.row
noncomputable def dk0:DefRec×List (aw×Expr):=match defOf view0 (aa "law") with
 |some x=>x
 |none=>(⟨aa "",{posonlyargs:=[],args:=[],vararg:=none,kwonlyargs:=[],kw_defaults:=[],kwarg:=none,defaults:=[]},[],pw0.main.scope,q0⟩,[])
theorem Ku:defOf view0 (aa "law")=some dk0:=by kernel_rfl
theorem HM:pw0.theDef (aa "law")=some (dk0.1.params,dk0.1.body,dk0.1.scope):=by kernel_rfl
theorem JR:kwWritten? dk0.1.params.kwonlyargs dk0.1.params.kw_defaults=some dk0.2:=by kernel_rfl
theorem MD:dk0.1.params.args.map (·.arg)=[aa "script"]:=by kernel_rfl
theorem JO:dk0.1.name=aa "law":=by kernel_rfl
section
variable {w:f8} {K:gk}
theorem BD {cx:Cx} {h:cO} {vs:List av} {ns:List Int} (hI:IntsAre vs ns):VRels cx h (ns.map .int) vs:=by
 induction hI with
 |nil=>exact .nil
 |cons n t _ ih=>exact .cons du ih
theorem Dd {s:ax} {l:aI} {vs:List av} {ns:List Int} (T:qH w s.heap K) (hl:s.heap.IsList l vs.toArray) (hI:IntsAre vs ns) (hn:ns.length<=1000) {Q E:av->ax->Prop}
  (k:∀s':ax,(∀b o,s.heap.get? b=some o->s'.heap.get? b=some o)->s'.os=s.os->s'.gens=s.gens->Q (.bool true) s'):aE (ay pw0 w) callerA (call (.ref 776) [.ref l]) Q E s:=by
 have G:=jX (p:=pw0) T
 have hlaw:users0.lookup 90=some AP:=rfl
 obtain ⟨ps,nm,ds,body,hf,vc⟩:=vE (p:=pw0) T hlaw
 have I:cb (cx0 pw0 w s.heap K) (λ Z=>none) s.heap:=⟨λ Z Z e=>e,λ a n=>absurd ⟨rfl,λ Z Z Z e=>by cases e⟩ n,λ Z Z e=>(nomatch e),λ Z Z Z Z e=>(nomatch e)⟩
 have q:AP [.flist (ns.map .int)] (λ Z=>none) (λ u Z=>u=.bool true) (λ Z Z=>False):=⟨ns,rfl,hn,rfl⟩
 obtain ⟨hlen,wp⟩:=vc _ _ _ _ q
 have r:VRels (cx0 pw0 w s.heap K) s.heap [.flist (ns.map .int)] [.ref l]:=.one (by exact ⟨l,vs.toArray,rfl,hl,BD hI⟩)
 have st:iF (cx0 pw0 w s.heap K) callerA (λ Z=>none) s.heap:=⟨[],rfl,λ e h=>by cases h⟩
 refine iK (jy (cx:=cx0 pw0 w s.heap K) (l:=8) G hf ⟨rfl,by decide,by decide⟩ st (bW _) I r hlen λ au b s1 ⟨t,hb,hchk⟩ hfr F1 st1 I1 S1 M1 k1 ab am1=>?_)
 subst hb
 refine aq (xK ⟨G,λ g hg=>(oz T 8 g hg).1,λ c g hi hg=>(oz T 8 g hg).2 (by
   exact tf hi),am1⟩ (CA T am1 hfr) body hchk _ s1 _ _ _ _ F1 st1 I1 wp) (λ fl s2 h2=>?_) λ e s2 h2=>?_
 ·cases fl with
  |next=>
   obtain ⟨ρ',H',⟨H2,sub,q'⟩,_⟩:=h2
   cases q'
  |ret v=>
   obtain ⟨u,H',⟨H2,sub,q'⟩,rv,I',S',M'⟩:=h2
   subst q'
   rw [mu rv]
   have M:=M1.trans M'
   exact k s2 I'.base M.2.1 M.1
  |brk=>exact h2.elim
  |cont=>exact h2.elim
 ·obtain ⟨why,H',⟨H2,sub,q'⟩,_⟩:=h2
  exact q'.elim
end
theorem K7:eV.Holds:=by
 refine holds_law Nw λ sd=>?_
 refine holds_open (r:=row0) (q:=view0) (loose:=loose0) (Xt:=xt0) (XP:=XL view0 []) (Yf:=λ s=>(chk0 (eR s.heap),txt0 (eR s.heap))) (Ya:=λ Z=>(true,exp0)) (YP:=λ Z h=>∃K:gk,K.In h/\(chk0 K,txt0 K)=(true,exp0)) (N:=10104) (d:=dk0.1) (kwd:=dk0.2)
  Kv (λ w s e=>⟨_,Aj _,e⟩) (λ w h h' ⟨K,x,c⟩ k=>⟨K,x.keeps k,c⟩) (λ s e=>xl_of s (zk.mp e).1) XL.keeps Ku HM JR
  (λ s e=>recFacts_of (zk.mp e).2) (by rfl) sd (by kernel_rfl) ⟨rfl,rfl,rfl,rfl,rfl,by decide+kernel⟩ ?hw ?hc
 case hw=>exact ⟨[.list []],by decide+kernel,by decide+kernel⟩
 case hc=>
  intro w s₀ s₁ mg mb G Y fa o pm cd doc dV kV ho hd hcd hD hmg hg args vals as hpre hlay hrd hwl hlo
  obtain ⟨K,X,hK⟩:=Y
  have T:qH w s₁.heap K:=⟨X,congrArg (·.1) hK,congrArg (·.2) hK,G.low,⟨mg,mb,G.T.g,G.T.b,G.T.builtins⟩,G.T.nolimit⟩
  have hfa:fa=776:=by
   have hgl:=al (ar T.chk)
   have:=bt.mp hgl (aa "law",.user 90) (by decide)
   rw [JO] at hmg
   simp only [jt,bI,beq_iff_eq,bne_iff_ne,ne_eq] at this
   rcases this with e|⟨e,_⟩
   ·have z:=mg_of X G.T.g e
    rw [hmg] at z
    cases z;rfl
   ·have z:=mg_none_of X G.T.g e
    rw [hmg] at z;cases z
  subst hfa
  set_option tactic.hygienic true in wrow_args hpre hlay hrd hwl hlo
  rename_i ns hsh hl0 hlb hr1 hl2 as1 w8 l vs0 as3 hL ra w1 r0 hI hr hcond htr
  refine aq (Dd T hL hI (by lia) (Q:=λ v s'=>GoodWG row0.claim (classAt s₀.heap) (ExcName.means s₀.heap) [ofPy (HZ (a8 PyData.int ns))] s₁ (Except.ok (Flow.ret v)) s') (E:=λ Z Z=>False) λ s' hk hos hgn=>?_) (λ Z Z z=>z) λ Z Z z=>z.elim
  refine GoodW.toG ⟨.inl ⟨_,_,[],rfl,λ Z=>rfl,ReadsW.bool true,?_,λ Z=>⟨iu,λ Z hm=>(nomatch hm)⟩⟩,hk,hos,hgn.trans hg⟩
  first|rfl|wrow_post
end
end Mine
theorem PySem.Challenge.cw_pf0355_01_holds : PySem.Challenge.rw_pf0355_01.Holds :=
 Mine.K7
end
