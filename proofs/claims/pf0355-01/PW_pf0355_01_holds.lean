import PyProof.Rows.All
import Wide.All
import OpenK.AllK
import Wide.FinOn
import PySem.Challenge.RW_pf0355_01
set_option Elab.async false
set_option linter.all false
set_option maxRecDepth 100000
set_option maxHeartbeats 8000000
set_option genSizeOf false
set_option genInjectivity false
set_option bootstrap.genMatcherCode false
set_option tactic.hygienic false
noncomputable section
namespace Mine
open And renaming intro->aj,imp_right->bV,imp->nK,left->Br
open Array renaming getElem?_toList->cU,getElem?_eq_some_iff->dj,toArray_toList->jd,length_toList->jr,getElem?_eq_getElem->ue,getElem?_eq_none->wX,toList_push->Bz,toList_inj->DH
open Bool renaming and_eq_true->bG,noConfusion->bS,false_eq_true->ch,or_true->iA,false_or->jc,or_eq_true->jt,or_eq_true_iff->nJ,false_ne_true->oQ,and_false->ub,true_and->u6,or_eq_false_iff->zc,and_eq_true_iff->zk,or_false->HO
open Classical renaming byContradiction->eq
open Eq renaming symm->iP
open Exists renaming imp->cg,intro->fY
open ForInStep renaming yield->bX
open Int renaming emod_lt_of_pos->aM,emod_nonneg->aQ,natCast_nonneg->aS,le_of_lt_add_one->bI,eq_ofNat_of_zero_le->bJ,toNat_natCast->cJ,not_lt->dI,lt_of_le_of_lt->dK,le_trans->eT,le_of_lt->fA,emod_eq_of_lt->iH,ne_of_gt->iJ,le_refl->jm,toNat_of_nonneg->jM,pow_succ->jS,toNat->ke,lt_of_lt_of_le->kt,sub_nonneg_of_le->nq,ofNat_lt->qg,fdiv_eq_ediv_of_nonneg->uO,ediv_ediv_of_nonneg->xa,toNat_le->xP,mul_ediv_add_emod->zi,sub_add_cancel->DD,ediv_nonneg->GD,add_nonneg->HZ,le_add_one->Ib,ofNat_inj->Im,toNat_sub->IB,add_assoc->IC
open Lean.Omega.Int renaming ofNat_min->Il
open List renaming length_map->ag,getElem?_eq_getElem->an,length_append->az,set_cons_zero->aC,set_cons_succ->aD,getElem?_map->aF,lookup_cons->aG,getD_eq_getElem?_getD->aJ,mem_singleton->aK,getElem?_eq_some_iff->aN,length_cons->aP,length_singleton->aU,mem_cons->aY,mem_of_getElem?->aZ,map->a7,map_append->bf,map_cons->bj,all_eq_true->bl,mem_map->bC,range->bF,length_range->bO,length_take->bU,replicate->b9,mem_range->ca,nodup_cons->cc,mem_append->cv,drop_eq_getElem_cons->cC,map_map->cD,zip_cons_cons->cL,take_length->c7,take_add_one->dm,nil_append->dx,take_append_drop->dz,pairwise_cons->dC,mem_cons_self->dD,pairwise_append->dP,mem_cons_of_mem->dQ,append_nil->dZ,mem_map_of_mem->d8,length_drop->ek,contains_cons->eF,getElem?_append_left->eK,append_assoc->eR,getElem_range->ft,lookup_append->fv,length_nil->fJ,getElem?_append_right->fV,not_mem_nil->f9,map_congr_left->gu,foldl_cons->gK,lookup->hV,nodup_append->iq,nodup_nil->ir,take_of_length_le->iu,drop_length->i5,set_comm->jg,map_take->jh,find?_cons->js,length_set->jv,length_reverse->jL,set_set->jN,mem_filterMap->kc,length->kW,any_cons->kY,filter_cons_of_neg->lI,filter_cons->lJ,pairwise_singleton->lK,getD->lL,getElem?_set_self->lO,range_succ->mn,getElem?_set_ne->mU,mem_of_mem_take->mV,filterMap_cons->nH,map_drop->oL,filter_append->oU,foldl_append->qd,countP->sk,forIn_cons->su,drop_zero->t8,nodup_iff_pairwise_ne->uc,pairwise_iff_getElem->uW,filterMap_cons_some->u0,countP_cons_of_pos->wS,take->wT,mem_singleton_self->wU,lookup_eq_none_iff->wV,eq_nil_or_concat->yd,concat_eq_append->yf,countP_le_length->yg,perm_append_comm->yh,mem_append_left->zf,replicate_succ->Bh,countP_eq_zero->Bq,size_toArray->DG,any_eq_false->DI,ext_getElem?->DN,reverse_cons->DO,pairwise_map->DP,flatten_cons->DQ,mem_reverse->DZ,drop->D1,zip_append->Fj,take_zero->GE,map_id'->ID
open List.Pairwise renaming imp_of_mem->pF
open Nat renaming le_trans->ao,le_of_ble_eq_true->aO,le_refl->bW,succ_le_succ->cw,lt_of_lt_of_le->cG,le_succ_of_le->cK,zero_le->cS,not_lt->du,min_le_right->dG,lt_succ_self->dH,ne_of_lt->dM,lt_irrefl->eX,le_add_right->fk,le_of_lt->fB,lt_of_le_of_lt->fE,le_of_eq->gm,sub_lt_sub_left->gB,blt_eq->hU,blt->iI,lt_succ_of_lt->iM,le_antisymm->jK,add_right_comm->kn,beq->kX,le_of_lt_succ->la,ble->ml,succ_pos->mu,add_le_add->nj,add_le_add_right->nl,succ->nF,add_le_add_left->oM,log2_lt->sq,noConfusion->tc,sub_le->uN,ne_of_gt->xY,sub_add_min_cancel->yi,zero_add->ym,sub_eq_zero_of_le->y9,ble_eq_true_of_le->zh,le_succ->Bj,lt_or_gt_of_ne->DS,sub_pos_of_lt->D0,shiftLeft_eq->Fo,two_pow_pos->GC,le_add_left->GF,not_lt_zero->GG
open Nat.succ renaming inj->ua
open Ne renaming symm->fQ
open Option renaming map_eq_some_iff->aH,bind_eq_some_iff->gM,bind_some->k9,map_some->qt,none_or->sx,ne_none_iff_exists'->sy,isSome_map->Bp,getD_some->BA,map->Iy
open Option.some renaming inj->ac,injEq->ju
open Or renaming imp->zg
open Prod renaming ext->GB
open Prod.mk renaming injEq->td,inj->wY
open PyProof.Rows renaming seqObj->ig,IsTup->ja,slot_tuple_getitem->lx,subscriptTail->mr,iadd_int->sg,isub_int->si,len_list->so,tail_any->sR,subscriptTail_ops->sU,SortKind->tf,slicePart_none->xT,tupleItemsOf_->Bi,cnt->Bv,News->DE,keyKind'->Fq,getMethod_list_of->Iv,tuples'->IF
open PyProof.Rows.SortSt renaming mk'->zj
open PySem renaming wpAny_bind->ae,wpAny_pure->ah,wpAny_mono->aq,Value->av,Str->aw,Shared->ax,model->ay,wpAny->aE,Addr->aI,wpAny_holding->bz,sizeLine->bE,wpAny_standAt->cq,Heap->cM,Program->cQ,wpAny_newObj_type->cX,mainGlobals->di,Around->dy,sizeLine_eq->d7,importedModules->eg,wpAny_isSubtype_exc->eA,codeAny->eS,sysModules->fo,wpAny_execs_nil->fT,DictEntry->fU,swappedStores->fW,treeTable->fX,World->f7,intKind->f8,wpAny_loadPart_at->gb,wpAny_field->gz,Scope->gA,wpAny_setField->gC,wpAny_call_entry->gL,wpAny_execs_cons->gN,starEach->ik,letOwnedTupleGo->iy,OsState->iz,wpAny_call->iK,rawInt->iL,Env->i4,Builtin->jb,NameKind->je,foldedSetIterable->jf,wpAny_storeName_local->jw,wpAny_rule->jI,compareOp->jJ,wpAny_typeNameOfWhole_keyiter->jT,notedBy->kU,IsTupleKey->lu,tupleKind_room_in1->ly,letTemporaryGo->lz,Stmt->lB,builtinsNs->lC,isTrue->lN,wpAny_of_eq->lP,wpAny_assign_Name->lQ,wpAny_callSpecial?_slot->mG,cLine->mH,wpAny_items_cons->mI,intKind_is->nw,strKind_is->nz,PyData->pk,subscripted->pq,wpAny_loadName_local->pz,backTo->pA,codeAny_call_builtin->pD,tupleKind->qa,relabel->qb,comprehension->qo,swapsWithSole->qp,assignEach->sf,getItem->sP,slot_dict_getitem->sS,bootBuiltins->sV,codeAny_mono->sX,getMethod_builtin->sZ,standAt->ta,pyNext->uS,isSubtype->uT,wpAny_in_of->uX,Sem->uY,richCompare->u9,wpAny_items_nil->wR,byteArr->w9,Obj->xQ,Operator->xR,call_meets->xS,recursionLimit->xV,wpAny_Name->xW,pyIter->xX,FuncData->xZ,isInstance->x4,wpAny_getItem_list_slice->Bk,Comprehension->Bm,wpAny_comprehension_free->Bn,wpAny_release->Bo,Pos->Bx,wpAny_list_append_plain->By,seqSlot_of->DF,stored->DJ,operate->DK,newList->DL,call_meetsIn->DR,builtinLookup_eq_fast->DV,wpAny_notOrdered_dict->DW,wpAny_isOneOf_keyiter->D4,IntMulOk->Fc,binaryOp->Fd,lookup_relabel_local->Fh,compPost->Fi,list_getitem_lookup->Gu,wpAny_setItem_pairs->Gv,wpAny_loadName_cell->Gw,wpAny_loadName_free->Gx,wpAny_isTrue_BoolOp->GA,wpAny_setItem_heap->HP,Result->HQ,wpAny_Constant_str->HR,wpAny_Constant_int->HS,wpAny_Expr->HT,wpAny_sequenceKey->Ip,slot_dict_setitem->Iq,setAttr->Ir,wpAny_truthy_bool->Iu,wpAny_pyIter_list->Iw,holding->Ix,wpAny_dictEntries->IE
open PySem.Builtin renaming divisionGoesByPylong->cW,bitNot->ia,bitOr->ku,bitAnd->mj
open PySem.Builtin.Dict_items renaming ownsTuple->D3
open PySem.Builtin.Int renaming intBits->lM
open PySem.Builtin.List renaming listFitsIndex->oV
open PySem.Builtin.Range renaming rangeSize->qc,small->sr
open PySem.Builtin.Slice renaming sliceAdjust->bk,slicePlaces->ed,slicePartIndex->eY
open PySem.Builtin.Tuple renaming tupleExact->ew
open PySem.Challenge renaming rw_pf0355_01->eU,pw_pf0355_01->HX
open PySem.CmpOp renaming Eq->lF,Lt->yk
open PySem.Code renaming quiet_builtin->BB
open PySem.Data renaming fields->sj
open PySem.DictEntry renaming refKey->xU
open PySem.Env renaming kindOf->DM
open PySem.Expr renaming Name->DY
open PySem.F renaming slot_dict_keyiterator_next->gF,slot_dict_get->iw,plainAttrs_dict->kT,slot_tuple_mul->mq,excBase_Exception->sw,slot_list_insert->sY,slot_dict_update->s9,args_dict_get_2->ud,entry_dict_get->uU,slot_dict_iter->uV,type_dict_get->uZ,slot_tuple_lt->vb,args_tuple_mul_2->Fe,entry_tuple_mul->Gs,slot_int_rmul->Io
open PySem.Heap renaming get?_push_of_some->ak,get?_push_size->bt,lt_size->bx,get?_update_other->cf,get?_update_self->co,SameBut->dk,size_push->eE
open PySem.Heap.FunFrames renaming cons->Iz
open PySem.Heap.IsList renaming typeIs->uQ
open PySem.Heap.IsSliceOf renaming new->iQ
open PySem.Heap.SameBut renaming update->dL
open PySem.IntMulOk renaming of_left->d9
open PySem.Keeper renaming boundFrame->Bl,machine->DX,frame->Gy
open PySem.NameKind renaming free->eJ,cell->sv
open PySem.Obj renaming mapFields->cz,data_mapFields->dJ,mapSeq->eZ,isFreed_of_fields->fO,data_mapDictKeys->nv,data_mapDict->r9,isFreed_of_dict->Bw,mk->HW
open PySem.Operator renaming Mod->dA,Add->k8,Pow->nO,FloorDiv->yj
open PySem.PyData renaming canLay0->aT,depth->eL,canLayAll0->fK,depthAll->jj,eqv->zb,list->Ia
open PySem.SeqAt renaming shaped->jH,canLay_of_shaped->wW,eqv_refl->Fp
open PySem.Shared renaming mk->iR
open PySem.Str renaming ofString->aa
open PySem.Value renaming ref->aR,none->bQ,type->cO,builtin->gE,int->lE
open PySem.Value.ref renaming inj->se
open PySem.W renaming findIn->cR,fragOf->eQ,kas_sort->fF,Frag->gk,boot_heap->iS,instObj->kS,emptyDict->kZ,Looks->lD,behindTheImports->mJ,dictOf->nu,looks_findIn->nG,typeIn->pt,handedIn->sQ,hasDictIn->uP,keepIn->uR,kas_ask->xb,namesBound->yb,topFrame->yc,staticsOk->BC,readsOut->Fb,getL->Ff,gensDone->Fk,laidKept->Fl,check_slot->HU,boot_drawn->HY,topStub->IA
open PySem.W.Fast renaming te10110043849684766642->dS,te14364793385576792824->dT,te14082659384304107361->dU
open PySem.W.Looks renaming ld->pB,of_pure->Gz
open PySem.Within renaming cons->HV
section
open PySem PySem.W PyProof.Rows PySem.Calls
theorem Ft {α:Type} (ne:Nonempty α) (P:α->Prop):∃a,P a->∀x,P x:=
 (Classical.em (∃x,¬P x)).elim (λ ⟨a,ha⟩=>⟨a,λ z=>(ha z).elim⟩)
  λ n=>ne.elim λ a=>⟨a,λ Z x=>eq λ z=>n ⟨x,z⟩⟩
noncomputable def dr {α:Type} (ne:Nonempty α) (P:α->Prop):α:=Classical.choose (Ft ne P)
theorem bB {α:Type} {ne:Nonempty α} {P:α->Prop}:P (dr ne P)->∀x,P x:=Classical.choose_spec (Ft ne P)
@[reducible] def UU {α β:Type} (f:α->β->Prop) (p:α×β):Prop:=f p.1 p.2
@[reducible] def UV {α β γ δ:Type} (f:α->β->γ->δ->Prop) (p:α×β×γ×δ):Prop:=f p.1 p.2.1 p.2.2.1 p.2.2.2
theorem qf:Nonempty dy:=⟨{}⟩
theorem J2:Nonempty Drawn:=⟨{}⟩
theorem p5:Nonempty ax:=⟨{}⟩
theorem vU:Nonempty f7:=⟨⟨λ Z Z=>0,{strHash:=λ Z=>0,shareClass:=λ Z=>0,mergeTok:=id,idOf:=λ Z=>0,idOfShared:=λ Z Z=>0,followText:=λ Z=>false,idOfImm:=λ Z=>0}⟩⟩
theorem bu {T0:Type} {A:T0->Prop} {X:Prop} (h:∃a,A a) (k:∀a,A a->X):X:=h.elim λ a z=>k a z
theorem BO {T0 T1:Type} {A:T0->T1->Prop} {X:Prop} (h:∃a b,A a b) (k:∀a b,A a b->X):X:=h.elim λ a y1=>y1.elim λ b z=>k a b z
theorem iF {T0 T1 T2:Type} {A:T0->T1->T2->Prop} {X:Prop} (h:∃a b c,A a b c) (k:∀a b c,A a b c->X):X:=h.elim λ a y1=>y1.elim λ b y2=>y2.elim λ c z=>k a b c z
theorem bw {X:Prop} (h:A/\B) (k:A->B->X):X:=k h.1 h.2
theorem gJ {X:Prop} (h:A/\B/\C) (k:A->B->C->X):X:=k h.1 h.2.1 h.2.2
theorem nX {X:Prop} (h:A/\B/\C/\D) (k:A->B->C->D->X):X:=k h.1 h.2.1 h.2.2.1 h.2.2.2
theorem wG {X:Prop} (h:A/\B/\C/\D/\E) (k:A->B->C->D->E->X):X:=k h.1 h.2.1 h.2.2.1 h.2.2.2.1 h.2.2.2.2
theorem HL {X:Prop} (h:A/\B/\C/\D/\E/\F) (k:A->B->C->D->E->F->X):X:=k h.1 h.2.1 h.2.2.1 h.2.2.2.1 h.2.2.2.2.1 h.2.2.2.2.2
theorem C5 {X:Prop} (h:A/\B/\C/\D/\E/\F/\G) (k:A->B->C->D->E->F->G->X):X:=k h.1 h.2.1 h.2.2.1 h.2.2.2.1 h.2.2.2.2.1 h.2.2.2.2.2.1 h.2.2.2.2.2.2
theorem aL {T0:Type} {A B:T0->Prop} {X:Prop} (h:∃a,A a/\B a) (k:∀a,A a->B a->X):X:=h.elim λ a z=>k a z.1 z.2
theorem cI {T0:Type} {A B C:T0->Prop} {X:Prop} (h:∃a,A a/\B a/\C a) (k:∀a,A a->B a->C a->X):X:=h.elim λ a z=>k a z.1 z.2.1 z.2.2
theorem fy {T0:Type} {A B C D:T0->Prop} {X:Prop} (h:∃a,A a/\B a/\C a/\D a) (k:∀a,A a->B a->C a->D a->X):X:=h.elim λ a z=>k a z.1 z.2.1 z.2.2.1 z.2.2.2
theorem fZ {T0 T1:Type} {A B:T0->T1->Prop} {X:Prop} (h:∃a b,A a b/\B a b) (k:∀a b,A a b->B a b->X):X:=h.elim λ a y1=>y1.elim λ b z=>k a b z.1 z.2
theorem cu {T0 T1:Type} {A B C:T0->T1->Prop} {X:Prop} (h:∃a b,A a b/\B a b/\C a b) (k:∀a b,A a b->B a b->C a b->X):X:=h.elim λ a y1=>y1.elim λ b z=>k a b z.1 z.2.1 z.2.2
theorem jR {T0 T1:Type} {A B C D:T0->T1->Prop} {X:Prop} (h:∃a b,A a b/\B a b/\C a b/\D a b) (k:∀a b,A a b->B a b->C a b->D a b->X):X:=h.elim λ a y1=>y1.elim λ b z=>k a b z.1 z.2.1 z.2.2.1 z.2.2.2
theorem iZ {T0 T1 T2:Type} {A B C:T0->T1->T2->Prop} {X:Prop} (h:∃a b c,A a b c/\B a b c/\C a b c) (k:∀a b c,A a b c->B a b c->C a b c->X):X:=h.elim λ a y1=>y1.elim λ b y2=>y2.elim λ c z=>k a b c z.1 z.2.1 z.2.2
theorem kf {T0 T1 T2:Type} {A B C D:T0->T1->T2->Prop} {X:Prop} (h:∃a b c,A a b c/\B a b c/\C a b c/\D a b c) (k:∀a b c,A a b c->B a b c->C a b c->D a b c->X):X:=h.elim λ a y1=>y1.elim λ b y2=>y2.elim λ c z=>k a b c z.1 z.2.1 z.2.2.1 z.2.2.2
theorem uf {T0 T1 T2:Type} {A B C D E:T0->T1->T2->Prop} {X:Prop} (h:∃a b c,A a b c/\B a b c/\C a b c/\D a b c/\E a b c) (k:∀a b c,A a b c->B a b c->C a b c->D a b c->E a b c->X):X:=h.elim λ a y1=>y1.elim λ b y2=>y2.elim λ c z=>k a b c z.1 z.2.1 z.2.2.1 z.2.2.2.1 z.2.2.2.2
theorem AJ {T0 T1 T2 T3:Type} {A B C D:T0->T1->T2->T3->Prop} {X:Prop} (h:∃a b c d,A a b c d/\B a b c d/\C a b c d/\D a b c d) (k:∀a b c d,A a b c d->B a b c d->C a b c d->D a b c d->X):X:=h.elim λ a y1=>y1.elim λ b y2=>y2.elim λ c y3=>y3.elim λ d z=>k a b c d z.1 z.2.1 z.2.2.1 z.2.2.2
@[elab_as_elim] theorem af {α:Sort u} {a b:α} {P:α->Prop} (h:a=b) (q:P b):P a:=h▸q
theorem kz (h:a=true) (k:b=true):(a&&b)=true:=h.symm▸k
theorem Je (j:Nat) (h:a<=4):min j a+(0+1)+(a -j)<=2^24:=ao (nj (nl (dG _ _) _) (uN _ _)) (ao (nj (nl h _) h) (by decide))
theorem HG (j:Nat) (h:a<=4):min j a+(0+1)<=2^24:=ao (nl (ao (dG _ _) h) _) (by decide)
theorem Hj (n:Nat) (h:a<=4):a -n+min n a<=2^24:=ao (nj (uN _ _) (dG _ _)) (ao (nj h h) (by decide))
theorem E5 (j a:Nat):a<min j a+(0+1)+(a -j):=(Nat.le_total j a).elim (λ h=>by rw [Nat.min_eq_left h,kn,Nat.add_sub_of_le h];exact dH a) λ h=>by rw [Nat.min_eq_right h,y9 h];exact dH a
theorem KI {l:Nat} (h:x<max 1 (l:Int)) (k:l<=4):x.toNat<=1000:=xP.mpr (eT (fA h) (Int.max_le.mpr ⟨by decide,Int.ofNat_le.mpr (ao k (by decide))⟩))
theorem IG (n:Nat) (h:0<=k):min k (n:Int)=((min k.toNat n:Nat):Int):=by
 obtain ⟨j,rfl⟩:=bJ h
 rw [cJ];exact (Il j n).symm
theorem EY {P:Nat->Prop} (j:Nat) (h:j<0):P j:=(GG j h).elim
theorem oO {P:Nat->Prop} (f:∀j,j<n->P j) (h:P n) (j:Nat) (k:j<n+1):P j:=(Nat.lt_or_eq_of_le (la k)).elim (f j) λ e=>e▸h
theorem IL {i j:Nat} (q:Int) (h:i≠j) (hi:i<3) (hj:j<3):((i:Int)+q) %3≠((j:Int)+q) %3:=λ e=>h (Im.mp
 ((iH (aS _) (qg.mpr hi)).symm.trans (((Int.emod_add_cancel_right q).mp e).trans (iH (aS _) (qg.mpr hj)))))
theorem II {A B c d:Int} (h:A<B) (k:d<5):10*A+c+d<10*B+c:=by
 refine kt (Int.add_lt_add_left (Int.lt_trans k (show (5:Int)<10 by decide)) _) ?_
 rw [Int.add_right_comm]
 exact Int.add_le_add_right (eT (Int.le_of_eq (Int.mul_add 10 A 1).symm) (Int.mul_le_mul_of_nonneg_left h (by decide))) _
theorem KG (c:Int) (h:A≠B) (d1:d<5) (e1:e<5):10*A+c+d<10*B+c\/10*B+c+e<10*A+c:=(Int.lt_or_gt_of_ne h).elim (λ x=>.inl (II x d1)) λ x=>.inr (II x e1)
theorem BU (m:Int):(m %4).toNat<=3:=xP.mpr (bI (aM m (by decide)))
theorem Eo {b r:Int} (h:0<=r) (k:r<b+1):b.toNat=r.toNat+(b -r).toNat:=by
 rw [<-Int.toNat_add h (nq (bI k)),Int.add_comm,DD]
theorem EN {b:Int} (h:b=32\/b=128):8*(b/8)=b:=h.elim (λ e=>e▸rfl) λ e=>e▸rfl
theorem Hn {b r:Int} (h:b=32\/b=128) (k:0<=r):(b -r).toNat<=128:=xP.mpr (eT (Int.sub_le_self b k) (h.elim (λ e=>e▸by decide) λ e=>e▸by decide))
theorem Hb (h:8*(b/8)=b) (k:r<b+1):8*(b/8) -((b -r).toNat:Int)=r:=by
 rw [h,jM (nq (bI k)),Int.sub_sub_self]
theorem bH {α:Type} {a:α} {X:Prop} (h:none=some a):X:=nomatch h
theorem b7 {α:Type} {a:α} {X:Prop} (h:some a=none):X:=nomatch h
theorem gi {a b:Data} {X:Prop} (h:a=b) (k:kX a.ctorIdx b.ctorIdx=false):X:=by rw [h,Nat.beq_refl] at k;exact absurd k bS
theorem cH {α β:Type} {f:α->β} {x b:α} {A B:β} (e:f x=A) (h:f b=B) (n:A=B->False):x≠b:=λ z=>n (e.symm.trans ((congrArg f z).trans h))
inductive Fn where
 |user (n:Nat)
 |cls (n:Nat)
 |bi (id:String)
 |ty (id:String)
 deriving DecidableEq,Inhabited
inductive V where
 |none
 |bool (b:Bool)
 |int (i:Int)
 |str (s:aw)
 |bytes (b:List Int)
 |fn (f:Fn)
 |ref (a:aI)
 |tuple (vs:List V)
 |flist (vs:List V)
 |range (n:Int)
 deriving Inhabited
inductive bK where
 |list (vs:List V)
 |sdict (es:List (aw×V))
 |idict (f:Int->Option V) (n:Nat)
 |tdict (es:List (List Int×V))
 |edict
 |inst (c:Fn) (d:aI) (as:List (aw×V))
theorem ij {o:bK} (h:kX o.ctorIdx 5=false) (c d as):o≠.inst c d as:=λ e=>by rw [e] at h;exact bS h
theorem nS {a b:bK} {X:Prop} (h:some a=some b) (k:kX a.ctorIdx b.ctorIdx=false):X:=by rw [ac h,Nat.beq_refl] at k;exact absurd k bS
theorem nk {a b:bK} (k:kX a.ctorIdx b.ctorIdx=false) (h:some a=some b):False:=nS h k
abbrev MH:=aI->Option bK
noncomputable def MH.set (H:MH) (a:aI) (o:bK):MH:=λ b=>if b=a then some o else H b
theorem MH.set_self (H:MH) (a:aI) (o:bK):H.set a o a=some o:=by simp [MH.set]
theorem MH.set_ne (H:MH) (o:bK) (h:b≠a):H.set a o b=H b:=by simp [MH.set,h]
noncomputable def MH.del (H:MH) (a:aI):MH:=λ b=>if b=a then none else H b
theorem MH.del_self (H:MH) (a:aI):H.del a a=none:=by simp [MH.del]
theorem MH.del_ne (H:MH) (h:b≠a):H.del a b=H b:=by simp [MH.del,h]
theorem Oa:Nonempty bK:=⟨.edict⟩
def ci (H:MH) (a:aI):Prop:=H a=none/\∀b c as,H b≠some (.inst c a as)
structure Cx where
 prog:cQ
 w:f7
 base:cM
 K:gk
 addr:Fn->av
 fld:Fn->aw->Bool
theorem ti:Nonempty Cx:=vU.elim λ w=>⟨⟨default,w,default,default,default,default⟩⟩
mutual
noncomputable def VRel (cx:Cx) (h:cM):V->av->Prop
 |.none,v=>v=.none
 |.bool b,v=>v=.bool b
 |.int i,v=>∃t,v=.int i t
 |.str s,v=>∃t,v=.str s t
 |.bytes b,v=>∃t,v=.bytes (w9 b) t/\∀x∈b,0<=x/\x<256
 |.fn f,v=>v=cx.addr f
 |.ref a,v=>v=.ref a
 |.tuple us,v=>∃a aB,v=.ref a/\ja h a aB/\VRels cx h us aB.toList
 |.flist us,v=>∃a aB,v=.ref a/\cx.base.IsList a aB/\VRels cx h us aB.toList
 |.range n,v=>∃a t u w,v=.ref a/\IsRange h a 0 n 1 t u w/\-1000000<=n/\n<=1000000
noncomputable def VRels (cx:Cx) (h:cM):List V->List av->Prop
 |[],vs=>vs=[]
 |u::us,vs=>∃v vs',vs=v::vs'/\VRel cx h u v/\VRels cx h us vs'
end
def tF (o:xQ):Prop:=(∃xs n,o.data=.seq xs n/\o.cls=.type "tuple")\/(∃vs,o.data=.fields vs/\o.cls=.type "range")
def Kp (o:xQ):Prop:=(∃xs n,o.data=.seq xs n)\/∃vs,o.data=.fields vs/\(o.cls=.type "list_iterator"\/o.cls=.type "tuple_iterator"\/o.cls=.type "range_iterator"\/o.cls=.type "bytes_iterator")
theorem Kp.no_dict (k:Kp o):(∀es n,o.data≠.dict es n)/\∀v,o.data≠.cell v:=by
 rcases k with ⟨_,_,e⟩|⟨_,e,_⟩<;>exact ⟨λ Z Z q=>(by rw [e] at q;exact gi q rfl),λ Z q=>(by rw [e] at q;exact gi q rfl)⟩
structure bb (P:aI->Prop) (H:MH) (h:cM) (H':MH) (h':cM):Prop where
 imm:∀a o,h.get? a=some o->tF o->h'.get? a=some o
 ns:∀a m,h.Ns a m->ci H a->¬P a->h'.Ns a m
 cell:∀a v,h.IsCell a v->¬P a->h'.IsCell a v
 nsP:∀a m,h.Ns a m->ci H a->∃m',h'.Ns a m'
 fresh:∀a,ci H a->¬ci H' a->h.get? a=none
 there:∀a o,h.get? a=some o->∃o',h'.get? a=some o'
 kp:∀a o,h.get? a=some o->Kp o->ci H a->¬P a->h'.get? a=some o
abbrev fc:aI->Prop:=λ Z=>False
theorem gy {h:cM} (n:h.Ns a m):∃o,h.get? a=some o:=let ⟨o,_,_,e,_⟩:=n;⟨o,e⟩
theorem bb.refl:bb P H h H h:=⟨λ Z Z e Z=>e,λ Z Z e Z Z=>e,λ Z Z e Z=>e,λ Z m e Z=>⟨m,e⟩,λ Z p q=>absurd p q,λ Z o e=>⟨o,e⟩,λ Z Z e Z Z Z=>e⟩
theorem bb.free (x:bb P H h H' h') (e:h.get? a=some o) (n:ci H a):ci H' a:=
 eq λ q=>by have:=x.fresh a n q;rw [e] at this;exact b7 this
theorem bb.trans (x:bb P H h H' h') (y:bb P H' h' H'' h''):bb P H h H'' h'':=
 ⟨λ a o e i=>y.imm a o (x.imm a o e i) i,λ a m e f p=>y.ns a m (x.ns a m e f p) (x.free (gy e).choose_spec f) p,λ a v e p=>y.cell a v (x.cell a v e p) p,
  λ a m e f=>let ⟨m',e'⟩:=x.nsP a m e f;y.nsP a m' e' (x.free (gy e).choose_spec f),
  λ a n k=>by
   by_cases q:ci H' a
   ·have:=y.fresh a q k
    cases z:h.get? a with
    |none=>rfl
    |some o=>obtain ⟨o',e'⟩:=x.there a o z;rw [this] at e';exact bH e'
   ·exact x.fresh a n q,λ a o e=>let ⟨o',e'⟩:=x.there a o e;y.there a o' e',λ a o e k f p=>y.kp a o (x.kp a o e k f p) k (x.free e f) p⟩
theorem bb.weak (x:bb fc H h H' h'):bb P H h H' h':=
 ⟨x.imm,λ a m e f Z=>x.ns a m e f λ q=>q,λ a v e Z=>x.cell a v e λ q=>q,x.nsP,x.fresh,x.there,λ a o e k f Z=>x.kp a o e k f λ q=>q⟩
def bP (h h':cM):Prop:=∀a o,h.get? a=some o->tF o->h'.get? a=some o
theorem bP.of_keeps (k:∀b o,h.get? b=some o->h'.get? b=some o):bP h h':=λ a o e Z=>k a o e
theorem IsTup.keepI (k:bP h h'):ja h a aB->ja h' a aB:=λ ⟨o,e,c,n,d⟩=>⟨o,k a o e (.inl ⟨_,_,d,c⟩),c,n,d⟩
theorem IsRange.keepI (k:bP h h') (r:IsRange h a x y z t u w):IsRange h' a x y z t u w:=
 k a _ r (.inr ⟨_,rfl,rfl⟩)
mutual
theorem VRel.mono (x:bP h h'):∀(u:V) {v:av},VRel cx h u v->VRel cx h' u v
 |.none,_,r=>by exact r
 |.bool _,_,r=>by exact r
 |.int _,_,r=>by exact r
 |.str _,_,r=>by exact r
 |.bytes _,_,r=>by exact r
 |.fn _,_,r=>by exact r
 |.ref _,_,r=>by exact r
 |.tuple us,_,r=>by
  obtain ⟨a,aB,e,h1,h3⟩:=r
  exact ⟨a,aB,e,IsTup.keepI x h1,VRels.mono x us h3⟩
 |.flist us,_,r=>by
  obtain ⟨a,aB,e,h2,h3⟩:=r
  exact ⟨a,aB,e,h2,VRels.mono x us h3⟩
 |.range k,_,r=>by
  obtain ⟨a,t,u,w,e,h1,h2⟩:=r
  exact ⟨a,t,u,w,e,IsRange.keepI x h1,h2⟩
theorem VRels.mono (x:bP h h'):∀(us:List V) {vs:List av},VRels cx h us vs->VRels cx h' us vs
 |[],_,r=>by exact r
 |u::us,_,r=>by
  obtain ⟨v,vs',e,h1,h2⟩:=r
  exact ⟨v,vs',e,VRel.mono x u h1,VRels.mono x us h2⟩
end
section
variable {cx:Cx}
theorem VRels.len:∀{us:List V} {vs:List av},VRels cx h us vs->vs.length=us.length
 |[],_,r=>by rw [r];rfl
 |u::us,_,r=>by
  obtain ⟨v,vs',e,_,h2⟩:=r
  rw [e,aP,aP,VRels.len h2]
theorem VRels.get:∀{us:List V} {vs:List av},VRels cx h us vs->∀{i:Nat} {u:V},us[i]?=some u->∃v,vs[i]?=some v/\VRel cx h u v
 |[],_,_,_,_,e=>by simp at e
 |u::us,_,r,i,u',e=>by
  obtain ⟨v,vs',rfl,h1,h2⟩:=r
  cases i with
  |zero=>simp at e;subst e;exact ⟨v,by simp,h1⟩
  |succ i=>simp at e;obtain ⟨v',e',r'⟩:=VRels.get h2 e;exact ⟨v',by simpa using e',r'⟩
theorem VRels.app:∀{us us':List V} {vs vs':List av},VRels cx h us vs->VRels cx h us' vs'->VRels cx h (us++us') (vs++vs')
 |[],_,_,_,r,r'=>by subst r;exact r'
 |u::us,_,_,_,r,r'=>by
  obtain ⟨v,vs',rfl,h1,h2⟩:=r
  show VRels cx h (u::(us++_)) (v::(vs'++_))
  exact ⟨v,_,rfl,h1,VRels.app h2 r'⟩
theorem VRels.nil:VRels cx h [] []:=by rfl
theorem VRels.cons (a:VRel cx h u v) (b:VRels cx h us vs):VRels cx h (u::us) (v::vs):=by
 exact ⟨v,vs,rfl,a,b⟩
theorem VRels.one (a:VRel cx h u v):VRels cx h [u] [v]:=.cons a .nil
theorem VRels.cons_inv (r:VRels cx h (u::us) vs):∃v vs',vs=v::vs'/\VRel cx h u v/\VRels cx h us vs':=by exact r
theorem VRels.nil_inv (r:VRels cx h [] vs):vs=[]:=by exact r
theorem VRels.drop:∀(n:Nat) {us:List V} {vs:List av},VRels cx h us vs->VRels cx h (us.drop n) (vs.drop n)
 |0,_,_,r=>r
 |n+1,[],_,r=>by subst r;simp [VRels]
 |n+1,u::us,_,r=>by
  obtain ⟨v,vs',rfl,_,h2⟩:=r
  exact VRels.drop n h2
theorem VRels.take:∀(n:Nat) {us:List V} {vs:List av},VRels cx h us vs->VRels cx h (us.take n) (vs.take n)
 |0,_,_,_=>by simp [VRels]
 |n+1,[],_,r=>by subst r;simp [VRels]
 |n+1,u::us,_,r=>by
  obtain ⟨v,vs',rfl,h1,h2⟩:=r
  exact .cons h1 (VRels.take n h2)
end
noncomputable def ARel (cx:Cx) (h:cM):List (aw×V)->List fU->Prop
 |[],es=>es=[]
 |(n,u)::as,es=>∃e es' t,es=e::es'/\e.key=.str n t/\VRel cx h u e.val/\ARel cx h as es'
theorem ARel.mono (x:bP h h'):∀{as:List (aw×V)} {es:List fU},ARel cx h as es->ARel cx h' as es
 |[],_,r=>by exact r
 |(n,u)::as,_,r=>by
  obtain ⟨e,es',t,h1,h2,h3,h4⟩:=r
  exact ⟨e,es',t,h1,h2,h3.mono x _,h4.mono x⟩
noncomputable def KRel (cx:Cx) (h:cM):List (aw×V)->List (aw×av)->Prop
 |[],kvs=>kvs=[]
 |(n,u)::es,kvs=>∃v kvs',kvs=(n,v)::kvs'/\VRel cx h u v/\KRel cx h es kvs'
theorem KRel.mono (x:bP h h'):∀{es:List (aw×V)} {kvs:List (aw×av)},KRel cx h es kvs->KRel cx h' es kvs
 |[],_,r=>by exact r
 |(n,u)::es,_,r=>by
  obtain ⟨v,kvs',h1,h3,h4⟩:=r
  exact ⟨v,kvs',h1,h3.mono x _,h4.mono x⟩
noncomputable def TRel (cx:Cx) (h:cM):List (List Int×V)->List (List Int×aI×av)->Prop
 |[],xs=>xs=[]
 |(k,u)::es,xs=>∃a v xs',xs=(k,a,v)::xs'/\lu (f8 cx.prog cx.w) h k a/\VRel cx h u v/\TRel cx h es xs'
theorem gp {cx:Cx} (x:bP h h') (r:lu (f8 cx.prog cx.w) h k a):lu (f8 cx.prog cx.w) h' k a:=by
 obtain ⟨o,aB,n',e,hc,hd,hi⟩:=r
 exact ⟨o,aB,n',x a o e (.inl ⟨_,_,hd,hc⟩),hc,hd,hi⟩
theorem TRel.mono (x:bP h h'):∀{as:List (List Int×V)} {es:List (List Int×aI×av)},TRel cx h as es->TRel cx h' as es
 |[],_,r=>by exact r
 |(n,u)::as,_,r=>by
  obtain ⟨a,v,xs',h1,h3,h4,h5⟩:=r
  exact ⟨a,v,xs',h1,gp x h3,h4.mono x _,h5.mono x⟩
noncomputable def OR (cx:Cx) (h:cM):Option V->Option av->Prop
 |some u,some v=>VRel cx h u v
 |none,none=>True
 |_,_=>False
theorem OR.mono (k:bP h h'):∀{x:Option V} {y:Option av},OR cx h x y->OR cx h' x y
 |some _,some _,r=>VRel.mono k _ r
 |none,none,_=>trivial
 |some _,none,r=>r
 |none,some _,r=>r
theorem OR.some (r:OR cx h (some u) y):∃v,y=some v/\VRel cx h u v:=by
 cases y with
 |none=>exact r.elim
 |some v=>exact ⟨v,rfl,r⟩
theorem OR.none (r:OR cx h none y):y=none:=by
 cases y with
 |none=>rfl
 |some v=>exact r.elim
theorem OR.isSome (r:OR cx h x y):y.isSome=x.isSome:=by
 cases x<;>cases y<;>first|rfl|exact r.elim
noncomputable def ORel (cx:Cx) (h:cM) (a:aI):bK->Prop
 |.list us=>∃aB n,h.get? a=some {cls:=.type "list",data:=.seq aB n}/\VRels cx h us aB.toList
 |.sdict es=>∃kvs,h.DictOf (strKind cx.prog cx.w) a kvs/\KRel cx h es kvs
 |.idict f n=>∃g,h.MapOf (f8 cx.prog cx.w) a g/\h.DictLe a n/\∀k,OR cx h (f k) (g k)
 |.tdict es=>∃xs,h.DictOfH (qa (f8 cx.prog cx.w)) a xs/\TRel cx h es xs
 |.edict=>∃n,h.get? a=some (nu [] n)
 |.inst c d as=>∃C es n,cx.addr c=.ref C/\h.get? a=some (kS C d)/\h.get? d=some (nu es n)/\ARel cx h as es/\∀p∈as,cx.fld c p.1=true
structure cb (cx:Cx) (H:MH) (h:cM):Prop where
 base:∀a o,cx.base.get? a=some o->h.get? a=some o
 old:∀a,¬ci H a->cx.base.objs.size<=a
 own:∀a o,H a=some o->ORel cx h a o
 sep:∀a c d as,H a=some (.inst c d as)->H d=none/\∀b c' as',H b=some (.inst c' d as')->b=a
theorem fq (e:H a=some o):¬ci H a:=λ f=>by rw [f.1] at e;exact bH e
theorem jC {a c d as} (e:H a=some (.inst c d as)):¬ci H d:=λ f=>f.2 _ _ _ e
namespace ORel.at
def S_ (cx h a):=∀{o:bK} (r:ORel cx h a o),∃ob,h.get? a=some ob
def U_:=UU λ cx=>UU λ h=>S_ cx h
def t_:=dr (by have:=ti;infer_instance) U_
def cx:=t_.1
def h:=t_.2.1
def a:=t_.2.2
theorem P_:S_ cx h a:=by
 intro o r
 cases o with
 |list us=>obtain ⟨_,_,e,_⟩:=r;exact ⟨_,e⟩
 |sdict es=>obtain ⟨_,⟨o,_,_,e,_⟩,_⟩:=r;exact ⟨_,e⟩
 |idict f n=>obtain ⟨_,⟨o,_,_,e,_⟩,_⟩:=r;exact ⟨_,e⟩
 |tdict es=>obtain ⟨_,⟨o,_,_,e,_⟩,_⟩:=r;exact ⟨_,e⟩
 |edict=>obtain ⟨_,e⟩:=r;exact ⟨_,e⟩
 |inst c d as=>obtain ⟨_,_,_,_,e,_⟩:=r;exact ⟨_,e⟩
theorem A_:∀p,U_ p:=bB P_
end ORel.at
theorem ORel.at {cx h a}:ORel.at.S_ cx h a:=ORel.at.A_ (cx,h,a)
theorem cb.at (I:cb cx H h) (e:¬ci H a):∃o,h.get? a=some o:=by
 cases q:H a with
 |some o=>exact (I.own a o q).at
 |none=>
  have:∃b c as,H b=some (.inst c a as):=eq λ n=>e ⟨q,λ b c as x=>n ⟨b,c,as,x⟩⟩
  obtain ⟨b,c,as,x⟩:=this
  obtain ⟨_,_,_,_,_,e,_⟩:=I.own b _ x
  exact ⟨_,e⟩
theorem cb.free (I:cb cx H h) (e:h.get? a=none):ci H a:=
 eq λ q=>by obtain ⟨o,e'⟩:=I.at q;rw [e] at e';exact bH e'
theorem dN {h:cM} {a:aI} (e:h.objs.size<=a):h.get? a=none:=by
 cases q:h.get? a with
 |none=>rfl
 |some o=>exact absurd (bx q) (du.mpr e)
theorem ORel.mono (x:bP h h') (ha:h'.get? a=h.get? a):∀{o:bK},(∀c d as,o=.inst c d as->h'.get? d=h.get? d)->ORel cx h a o->ORel cx h' a o
 |.list us,_,r=>by obtain ⟨aB,n,e,q⟩:=r;exact ⟨aB,n,ha.trans e,q.mono x _⟩
 |.sdict es,_,r=>by
  obtain ⟨kvs,⟨o,es',ep,e,q⟩,k⟩:=r
  exact ⟨kvs,⟨o,es',ep,ha.trans e,q⟩,k.mono x⟩
 |.idict f n,_,r=>by
  obtain ⟨g,⟨o,es,ep,e,q⟩,z,k⟩:=r
  exact ⟨g,⟨o,es,ep,ha.trans e,q⟩,λ o' es' ep' e'=>z o' es' ep' (ha▸e'),λ y=>(k y).mono x⟩
 |.tdict es,_,r=>by
  obtain ⟨xs,⟨o,es',ep,e,q1,q2,q3,q4,q5⟩,k⟩:=r
  exact ⟨xs,⟨o,es',ep,ha.trans e,q1,q2,q3,λ y hy=>gp x (q4 y hy),q5⟩,k.mono x⟩
 |.inst c d as,hd,r=>by
  obtain ⟨C,es,n,h1,h2,h5,h6,h7⟩:=r
  exact ⟨C,es,n,h1,ha.trans h2,(hd _ _ _ rfl).trans h5,h6.mono x,h7⟩
 |.edict,_,r=>by obtain ⟨o,e⟩:=r;exact ⟨o,ha.trans e⟩
theorem cb.moved (I:cb cx H h) (x:bP h h') (hb:∀a o,cx.base.get? a=some o->h'.get? a=some o) (hH:∀a,¬ci H a->h'.get? a=h.get? a):cb cx H h':=
 ⟨hb,I.old,λ a o e=>(I.own a o e).mono x (hH a (fq e)) λ c d as q=>hH d (by subst q;exact jC e),I.sep⟩
theorem cb.keeps (I:cb cx H h) (k:∀b o,h.get? b=some o->h'.get? b=some o):cb cx H h':=by
 refine I.moved (.of_keeps k) (λ a o e=>k _ _ (I.base a o e)) λ a n=>?_
 obtain ⟨ob,e⟩:=I.at n
 rw [e];exact k _ _ e
theorem bb.keeps (k:∀b o,h.get? b=some o->h'.get? b=some o):bb P H h H h':=
 ⟨bP.of_keeps k,λ Z Z e Z Z=>e.keeps k,λ Z Z e Z=>e.keeps k,λ Z m e Z=>⟨m,e.keeps k⟩,λ Z p q=>absurd p q,λ a o e=>⟨o,k a o e⟩,λ a o e Z Z Z=>k a o e⟩
theorem bb.push (o:xQ):bb P H h H (h.push o):=.keeps (λ Z Z e=>ak _ e)
theorem cb.push (I:cb cx H h) (o:xQ):cb cx H (h.push o):=I.keeps λ Z Z e=>ak _ e
theorem l7 (hn:∀c d as,mo≠.inst c d as) (h:ci H a) (hac:a≠c):ci (H.set c mo) a:=
 ⟨by rw [MH.set_ne _ _ hac];exact h.1,λ b cl as e=>by
  by_cases q:b=c
  ·subst q;rw [MH.set_self] at e;(have e:=ac e;subst e);exact hn _ _ _ rfl
  ·rw [MH.set_ne _ _ q] at e;exact h.2 _ _ _ e⟩
theorem cb.take (I:cb cx H h) (hn:∀c d as,mo≠.inst c d as) (hf:ci H a) (hb:cx.base.objs.size<=a) (r:ORel cx h a mo):cb cx (H.set a mo) h:=by
 refine ⟨I.base,λ b k=>?_,λ b o e=>?_,λ b c d as e=>?_⟩
 ·by_cases q:b=a
  ·rw [q];exact hb
  ·exact I.old b λ f=>k (l7 hn f q)
 ·by_cases q:b=a
  ·subst q;rw [MH.set_self] at e;(have e:=ac e;subst e);exact r
  ·rw [MH.set_ne _ _ q] at e;exact I.own b o e
 ·by_cases q:b=a
  ·subst q;rw [MH.set_self] at e;(have e:=ac e;subst e);exact absurd rfl (hn _ _ _)
  ·rw [MH.set_ne _ _ q] at e
   obtain ⟨h1,h2⟩:=I.sep b c d as e
   have hd:d≠a:=λ z=>hf.2 b c as (z▸e)
   refine ⟨by rw [MH.set_ne _ _ hd];exact h1,λ b' c' as' e'=>?_⟩
   by_cases q':b'=a
   ·subst q';rw [MH.set_self] at e';(have e':=ac e';subst e');exact absurd rfl (hn _ _ _)
   ·rw [MH.set_ne _ _ q'] at e';exact h2 _ _ _ e'
theorem bb.take (x:bb P H h H' h') (hn:∀c d as,mo≠.inst c d as) (ha:h.get? a=none):bb P H h (H'.set a mo) h':=
 ⟨x.imm,x.ns,x.cell,x.nsP,λ b f k=>by
  by_cases q:b=a
  ·exact q▸ha
  ·exact x.fresh b f λ f'=>k (l7 hn f' q),x.there,x.kp⟩
theorem tn (h:ci H a) (hac:a≠x) (had:a≠d):ci (H.set x (.inst c d as)) a:=
 ⟨by rw [MH.set_ne _ _ hac];exact h.1,λ b cl as e=>by
  by_cases q:b=x
  ·subst q;rw [MH.set_self] at e;cases e;exact had rfl
  ·rw [MH.set_ne _ _ q] at e;exact h.2 _ _ _ e⟩
theorem cb.takeI (I:cb cx H h) (hf:ci H a) (hd:ci H d) (hne:d≠a) (hb:cx.base.objs.size<=a) (hbd:cx.base.objs.size<=d) (r:ORel cx h a (.inst c d as)):cb cx (H.set a (.inst c d as)) h:=by
 refine ⟨I.base,λ b k=>?_,λ b o e=>?_,λ b c' d' as' e=>?_⟩
 ·by_cases q:b=a
  ·rw [q];exact hb
  by_cases q2:b=d
  ·rw [q2];exact hbd
  ·exact I.old b λ f=>k (tn f q q2)
 ·by_cases q:b=a
  ·subst q;rw [MH.set_self] at e;(have e:=ac e;subst e);exact r
  ·rw [MH.set_ne _ _ q] at e;exact I.own b o e
 ·by_cases q:b=a
  ·subst q;rw [MH.set_self] at e;cases e
   refine ⟨by rw [MH.set_ne _ _ hne];exact hd.1,λ b' c' as' e'=>?_⟩
   by_cases q':b'=b
   ·exact q'
   ·rw [MH.set_ne _ _ q'] at e';exact absurd e' (hd.2 _ _ _)
  ·rw [MH.set_ne _ _ q] at e
   obtain ⟨h1,h2⟩:=I.sep b c' d' as' e
   have hd':d'≠a:=λ z=>hf.2 b c' as' (z▸e)
   refine ⟨by rw [MH.set_ne _ _ hd'];exact h1,λ b' c' as' e'=>?_⟩
   by_cases q':b'=a
   ·subst q';rw [MH.set_self] at e';cases e';exact absurd e (hd.2 _ _ _)
   ·rw [MH.set_ne _ _ q'] at e';exact h2 _ _ _ e'
theorem bb.takeI (x:bb P H h H' h') (ha:h.get? a=none) (hd:h.get? d=none):bb P H h (H'.set a (.inst c d as)) h':=
 ⟨x.imm,x.ns,x.cell,x.nsP,λ b f k=>by
  by_cases q:b=a
  ·exact q▸ha
  by_cases q2:b=d
  ·exact q2▸hd
  ·exact x.fresh b f λ f'=>k (tn f' q q2),x.there,x.kp⟩
noncomputable def SameKind:bK->bK->Prop
 |.inst c d _,.inst c' d' _=>c=c'/\d=d'
 |.inst ..,_=>False
 |_,.inst ..=>False
 |_,_=>True
theorem tM (ha:H a=some mo) (hk:SameKind mo mo') (b:aI):ci (H.set a mo') b↔ci H b:=by
 constructor
 ·rintro ⟨h1,h2⟩
  refine ⟨?_,λ b' c as e=>?_⟩
  ·by_cases q:b=a
   ·subst q;rw [MH.set_self] at h1;exact b7 h1
   ·rw [MH.set_ne _ _ q] at h1;exact h1
  ·by_cases q:b'=a
   ·subst q
    rw [ha] at e;(have e:=ac e;subst e)
    cases mo'<;>first|exact hk.elim|skip
    exact h2 b' _ _ (by rw [MH.set_self,hk.2])
   ·exact h2 b' c as (by rw [MH.set_ne _ _ q];exact e)
 ·rintro ⟨h1,h2⟩
  refine ⟨?_,λ b' c as e=>?_⟩
  ·rw [MH.set_ne];exact h1
   rintro rfl;rw [ha] at h1;exact b7 h1
  ·by_cases q:b'=a
   ·subst q
    rw [MH.set_self] at e;(have e:=ac e;subst e)
    cases mo<;>first|exact hk.elim|skip
    exact h2 b' _ _ (by rw [ha,hk.2])
   ·rw [MH.set_ne _ _ q] at e;exact h2 _ _ _ e
theorem cb.upd (I:cb cx H h) (ha:H a=some mo) (hk:SameKind mo mo') (x:bP h h') (hb:∀a o,cx.base.get? a=some o->h'.get? a=some o)
  (hs:∀b,¬ci H b->b≠a->(∀c as,mo≠.inst c b as)->h'.get? b=h.get? b) (r:ORel cx h' a mo'):cb cx (H.set a mo') h':=by
 refine ⟨hb,λ b k=>I.old b λ f=>k ((tM ha hk b).mpr f),λ b o e=>?_,λ b c d as e=>?_⟩
 ·by_cases q:b=a
  ·subst q;rw [MH.set_self] at e;(have e:=ac e;subst e);exact r
  ·rw [MH.set_ne _ _ q] at e
   refine (I.own b o e).mono x (hs b (fq e) q λ c as z=>?_) λ c d as z=>?_
   ·subst z;rw [(I.sep a _ _ _ ha).1] at e;exact bH e
   ·subst z
    refine hs d (jC e) (λ z=>?_) λ c' as' z=>?_
    ·rw [<-z,(I.sep b _ _ _ e).1] at ha;exact bH ha
    ·subst z;exact q ((I.sep a _ _ _ ha).2 _ _ _ e)
 ·by_cases q:b=a
  ·subst q;rw [MH.set_self] at e;(have e:=ac e;subst e)
   cases mo<;>first|exact hk.elim|skip
   obtain ⟨rfl,rfl⟩:=hk
   obtain ⟨h1,h2⟩:=I.sep _ _ _ _ ha
   refine ⟨?_,λ b' c' as' e'=>?_⟩
   ·rw [MH.set_ne];exact h1
    rintro rfl;rw [ha] at h1;exact b7 h1
   ·by_cases q':b'=b
    ·exact q'
    ·rw [MH.set_ne _ _ q'] at e';exact h2 _ _ _ e'
  ·rw [MH.set_ne _ _ q] at e
   obtain ⟨h1,h2⟩:=I.sep _ _ _ _ e
   have hd':d≠a:=cH h1 ha bH
   refine ⟨by rw [MH.set_ne _ _ hd'];exact h1,λ b' c' as' e'=>?_⟩
   by_cases q':b'=a
   ·subst q';rw [MH.set_self] at e';(have e':=ac e';subst e')
    cases mo<;>first|exact hk.elim|skip
    exact h2 _ _ _ (by rw [ha,hk.2])
   ·rw [MH.set_ne _ _ q'] at e';exact h2 _ _ _ e'
theorem bb.same (x:bb P H h H' h') (ha:H' a=some mo) (hk:SameKind mo mo'):bb P H h (H'.set a mo') h':=
 ⟨x.imm,x.ns,x.cell,x.nsP,λ b f k=>x.fresh b f λ f'=>k ((tM ha hk b).mpr f'),x.there,x.kp⟩
theorem bP.but (ho:h.get? a=some o) (hi:¬tF o) (hs:dk a h h'):bP h h':=λ b ob e i=>by
 by_cases q:b=a
 ·subst q;rw [ho] at e;(have e:=ac e;subst e);exact absurd i hi
 ·rw [hs.2 b q];exact e
theorem bb.but (ho:h.get? a=some o) (hi:¬tF o) (hc:∀v,o.data≠.cell v) (hf:¬ci H a) (ho':h'.get? a=some o') (hs:dk a h h'):bb P H h H h':=
 ⟨bP.but ho hi hs,λ b m e f Z=>e.sameBut hs λ q=>hf (q▸f),λ b v e Z=>e.sameBut hs λ q=>by
  subst q;obtain ⟨o',e1,e2⟩:=e;rw [ho] at e1;(have e1:=ac e1;subst e1);exact hc _ e2,λ b m e f=>⟨m,e.sameBut hs λ q=>hf (q▸f)⟩,λ Z p q=>absurd p q,λ b ob e=>by
   by_cases q:b=a
   ·exact ⟨o',q▸ho'⟩
   ·exact ⟨ob,(hs.2 b q).trans e⟩,λ b ob e Z f Z=>(hs.2 b λ q=>hf (q▸f)).trans e⟩
theorem bb.chg (x:bb P H0 h0 H h) (n:h0.get? I=none) (k:∀b o,b≠I->h.get? b=some o->h'.get? b=some o):bb P H0 h0 H h':=by
 have ne:∀{b o},h0.get? b=some o->b≠I:=λ e q=>by subst q;rw [n] at e;exact bH e
 have ns:∀{b m0 m},h0.Ns b m0->h.Ns b m->h'.Ns b m:=λ e0 ⟨o,es,ep,e,r⟩=>⟨o,es,ep,k _ _ (ne (gy e0).choose_spec) e,r⟩
 exact ⟨λ a o e i=>k _ _ (ne e) (x.imm a o e i),λ a m e f p=>ns e (x.ns a m e f p),λ a v e p=>let ⟨o,e1,e2⟩:=x.cell a v e p;⟨o,k _ _ (ne e.choose_spec.1) e1,e2⟩,
  λ a m e f=>let ⟨m',e'⟩:=x.nsP a m e f;⟨m',ns e e'⟩,x.fresh,λ a o e=>let ⟨o',e'⟩:=x.there a o e;⟨o',k _ _ (ne e) e'⟩,λ a o e q f p=>k _ _ (ne e) (x.kp a o e q f p)⟩
def MH.Sub (H' H:MH):Prop:=∀a o,H' a=some o->H a=some o
theorem MH.Sub.none (s:MH.Sub H' H) (f:H a=none):H' a=none:=by
 cases q:H' a with
 |none=>rfl
 |some o=>
  have:=s _ _ q
  rw [f] at this
  exact bH this
theorem MH.Sub.free (s:MH.Sub H' H) (f:ci H a):ci H' a:=⟨s.none f.1,λ b c as e=>f.2 _ _ _ (s _ _ e)⟩
theorem MH.Sub.refl:MH.Sub H H:=λ Z Z e=>e
theorem MH.Sub.trans (x:MH.Sub H'' H') (y:MH.Sub H' H):MH.Sub H'' H:=λ Z Z e=>y _ _ (x _ _ e)
theorem cb.forget (I:cb cx H h) (s:MH.Sub H' H):cb cx H' h:=
 ⟨I.base,λ a k=>I.old a λ f=>k (s.free f),λ a o e=>I.own a o (s _ _ e),λ a c d as e=>
  ⟨s.none (I.sep _ _ _ _ (s _ _ e)).1,λ b c' as' e'=>(I.sep _ _ _ _ (s _ _ e)).2 _ _ _ (s _ _ e')⟩⟩
theorem bb.forget (x:bb P H h H' h') (s:MH.Sub H'' H'):bb P H h H'' h':=
 ⟨x.imm,x.ns,x.cell,x.nsP,λ a f k=>x.fresh a f λ f'=>k (s.free f'),x.there,x.kp⟩
theorem y7 (H:MH) (a:aI):MH.Sub (H.del a) H:=λ b o e=>by
 by_cases h:b=a
 ·subst h;rw [MH.del_self] at e;exact bH e
 ·rwa [MH.del_ne _ h] at e
end
section
open PySem PySem.W PyProof.Rows
noncomputable abbrev l0:OpenLaw:=eU
noncomputable abbrev p0_:cQ:=l0.row.prog
theorem N1:(sreFenced p0_.main&&((moduleNames p0_.main.body).isEmpty||lookedIntoSs (moduleNames p0_.main.body) p0_.main.body))=true:=by kernel_rfl
theorem N2:namesResolve p0_=true:=by kernel_rfl
theorem N3:p0_.boundNames.all (λ n=>!worldNames.contains n)=true:=by kernel_rfl
theorem N8:(!(eg p0_.main.body).all cThrough.contains)=false:=by kernel_rfl
theorem N7:Fb p0_ p0_.main.body "vars"=false:=by kernel_rfl
theorem NR:Fb p0_ p0_.main.body "dir"=false:=by kernel_rfl
theorem NZ:Fb p0_ p0_.main.body "locals"=false:=by kernel_rfl
theorem N0:noRoadLSs {strict:=false,foot:=none,bare:=[]} p0_.main.body=true:=by kernel_rfl
theorem NU:(namesMeet p0_ p0_.main.body λ Z n=>attrL n)=true:=by kernel_rfl
theorem NE {α:Type} {f:α->Bool} {a b c:α} (x:f a=false) (y:f b=false) (z:f c=false):[a,b,c].filter f=[]:=by
 rw [lI (by rw [x];decide),lI (by rw [y];decide),lI (by rw [z];decide)];rfl
theorem Nq:noRoadLSs {strict:=!(eg p0_.main.body).all cThrough.contains,foot:=none,bare:=(["vars","dir","locals"]:List aw).filter (Fb p0_ p0_.main.body)} p0_.main.body=true:=by
 rw [N8,NE N7 NR NZ];exact N0
theorem Nk:looksOpen p0_=true:=kz (kz (kz (kz N1 N2) N3) Nq) NU
theorem Nb:OpenRow.partSaid l0.row=true:=
 kz (kz (kz (kz (kz (kz (kz (kz (kz (kz (kz (kz (kz Nk (by kernel_rfl)) (by kernel_rfl)) (by kernel_rfl)) (by kernel_rfl)) (by kernel_rfl)) (by kernel_rfl)) (by kernel_rfl)) (by kernel_rfl)) (by kernel_rfl)) (by kernel_rfl)) (by kernel_rfl)) (by kernel_rfl)) (by kernel_rfl)
theorem LX:noRoadLSs {strict:=true,foot:=some l0.bound',writes:=l0.writes,may:=l0.may} l0.footing=true:=by kernel_rfl
theorem Mw:l0.bound'.all (λ n=>!builtinNamed n||l0.about==[n]||!l0.reads n)=true:=by kernel_rfl
theorem Nv:namesMeet l0.prog l0.above (λ Z n=>!l0.own.contains n)=true:=by kernel_rfl
theorem Md:defStands l0.about l0.above=true:=by kernel_rfl
theorem MP:eU.wellSaid=true:=
 kz (kz (kz (kz (kz (kz (kz (kz (kz (kz (kz (kz (kz (kz (kz (kz (kz (kz (kz (kz Nb (by kernel_rfl)) (by kernel_rfl)) (by kernel_rfl)) (by kernel_rfl)) (by kernel_rfl)) (by kernel_rfl)) (by kernel_rfl)) LX) Md) (by kernel_rfl)) (by kernel_rfl)) Mw) (by kernel_rfl)) (by kernel_rfl)) (by kernel_rfl)) (by kernel_rfl)) (by kernel_rfl)) (by kernel_rfl)) Nv) (by kernel_rfl)
end
section
open PySem PySem.W PyProof.Rows PySem.Calls
inductive E where
 |none
 |bool (b:Bool)
 |int (i:Int)
 |str (s:aw)
 |loc (i:Nat)
 |fn (x:aw) (f:Fn)
 |neg (a:E)
 |bin (op:xR) (a b:E)
 |cmp (op:CmpOp) (a b:E)
 |not (a:E)
 |bop (isAnd:Bool) (es:List E)
 |ifx (t b o:E)
 |tup (es:List E)
 |lst (es:List E)
 |edct
 |dfn (ps:List (aw×aw×Fn))
 |sub (a i:E)
 |slc (a:E) (lo hi:Option E)
 |attr (a:E) (n:aw)
 |call (f:E) (args:List E)
 |meth (o:E) (n:aw) (args:List E)
 |comp (own:List aw) (frees:List Nat) (fH:E) (t:Nat) (it:E) (cond:Option E)
 |comp2 (own:List aw) (frees:List Nat) (fH:E) (t:Nat) (it:E) (cond:E) (t2:Nat) (it2:E)
 |stuck
 deriving Inhabited
inductive T where
 |loc (i:Nat)
 |tup (is:List Nat)
 deriving Inhabited
inductive S where
 |assign (t:T) (e:E)
 |setattr (o:E) (n:aw) (e:E)
 |setitem (o i e:E)
 |aug (i:Nat) (op:xR) (e:E)
 |augattr (o:E) (n:aw) (op:xR) (e:E)
 |ite (t:E) (b o:List S)
 |while_ (t:E) (b:List S)
 |for_ (t:T) (it:E) (b:List S)
 |ret (e:E)
 |expr (e:E)
 |raise_ (e:E)
 |tryWhy (e:E) (i j:Nat)
 |pass
 |stuck
 deriving Inhabited
abbrev da:=List (Option V)
abbrev cB:=List V->MH->(V->MH->Prop)->(aw->MH->Prop)->Prop
noncomputable def da.at (ρ:da) (i:Nat):Option V:=(ρ[i]?).join
noncomputable def itemsOf (H:MH):V->Option (List V)
 |.tuple us=>some us
 |.flist us=>some us
 |.bytes b=>some (b.map V.int)
 |.ref a=>match H a with
  |some (.list us)=>some us
  |_=>none
 |.range n=>some ((bF n.toNat).map λ i=>V.int (i:Nat))
 |_=>none
noncomputable def seqOf (H:MH):V->Option (List V)
 |.tuple us=>some us
 |.ref a=>match H a with
  |some (.list us)=>some us
  |_=>none
 |_=>none
noncomputable def asideOf (H:MH):V->MH
 |.ref a=>H.del a
 |_=>H
noncomputable def backOf (H0 H:MH):V->MH
 |.ref a=>match H0 a with
  |some o=>H.set a o
  |none=>H
 |_=>H
noncomputable def mapO (f:V->Option pk):List V->Option (List pk)
 |[]=>some []
 |u::us=>(f u).bind λ d=>(mapO f us).map (d::·)
noncomputable def dataOf (H:MH):Nat->V->Option pk
 |0,_=>none
 |n+1,u=>match u with
  |.none=>some .none
  |.bool b=>some (.bool b)
  |.int i=>some (.int i)
  |.str s=>some (.str s)
  |.tuple us=>(mapO (dataOf H n) us).map .tuple
  |.flist us=>(mapO (dataOf H n) us).map .list
  |.ref a=>(seqOf H (.ref a)).bind λ us=>(mapO (dataOf H n) us).map .list
  |_=>none
noncomputable def truthV (H:MH):V->Option Bool
 |.none=>some false
 |.bool b=>some b
 |.int i=>some (decide (i≠0))
 |_=>none
theorem cV {α:Type} {x:α} (h:none=some x):False:=by exact bH h
@[reducible] noncomputable def eqb (c b:Bool):Bool:=match c with
 |true=>b
 |false=>!b
@[reducible] def br (b:Bool) (A B:Prop):Prop:=match b with
 |true=>A
 |false=>B
theorem kg (h:b=true->A) (k:b=false->B):br b A B:=by cases b<;>first|exact h rfl|exact k rfl
theorem IP (h:br b A B):(b=true->A)/\(b=false->B):=by cases b<;>first|exact ⟨λ Z=>h,nofun⟩|exact ⟨nofun,λ Z=>h⟩
theorem wD (h:A->A') (k:B->B'):br b A B->br b A' B':=by cases b<;>assumption
@[reducible] def Dh (b:Bool) (A:Prop):Prop:=match b with
 |true=>A
 |false=>False
theorem pW (h:b=true) (q:A):Dh b A:=by exact af h q
theorem kJ (h:Dh b A):b=true/\A:=by cases b<;>first|exact ⟨rfl,h⟩|exact h.elim
theorem rZ (k:A->B):Dh b A->Dh b B:=by cases b<;>first|exact id|exact k
noncomputable def divOk (y:Int):Bool:=decide (0<y)&&iI y.natAbs 1024
noncomputable def nth:List V->Nat->Option V
 |[],_=>none
 |u::r,n=>match n with
  |0=>some u
  |n+1=>nth r n
noncomputable def ix (us:List V) (k:Int):Option V:=match k with
 |.ofNat n=>cond (iI n 4611686018427387904) (nth us n) none
 |.negSucc _=>none
theorem xf:∀(us:List V) (n:Nat),nth us n=us[n]?
 |[],_=>rfl
 |_::_,0=>rfl
 |_::r,n+1=>xf r n
theorem Jz (h:ix us k=some u):0<=k/\k<us.length/\k<2^62/\us[k.toNat]?=some u:=by
 cases k with
 |ofNat n=>
  have h:cond (iI n 4611686018427387904) (nth us n) none=some u:=h
  cases e:iI n 4611686018427387904 with
  |false=>rw [e] at h;cases h
  |true=>
   rw [e] at h
   have h:nth us n=some u:=h
   rw [xf] at h
   have:=hU.mp e
   have:=(aN.mp h).1
   exact ⟨aS _,by lia,by lia,h⟩
 |negSucc n=>cases h
theorem wu (h:0<=k/\k<2^62) (e:us[k.toNat]?=some u):ix us k=some u:=by
 refine bu (bJ h.1) λ n r1_=>?_
 subst r1_
 show cond (iI n 4611686018427387904) (nth us n) none=some u
 refine af (hU.mpr (by lia)) (af (xf _ _) ?_);exact e
@[reducible] def w8 (o:Option V) (K:V->Prop):Prop:=match o with
 |some u=>K u
 |none=>False
theorem p8 {K:V->Prop} (h:w8 o K):∃u,o=some u/\K u:=by
 cases o with
 |none=>exact h.elim
 |some u=>exact ⟨u,rfl,h⟩
theorem ji {K:V->Prop} (e:o=some u) (h:K u):w8 o K:=by exact af e h
theorem yN {K K':V->Prop} (k:∀u,K u->K' u):w8 o K->w8 o K':=by cases o<;>first|exact id|exact k _
noncomputable def alSet:List (aw×V)->aw->V->List (aw×V)
 |[],n,u=>[(n,u)]
 |(m,w)::r,n,u=>if n=m then (m,u)::r else (m,w)::alSet r n u
@[reducible] def oP (u:V) (I:Int->Prop) (S:aw->Prop) (T:List V->Prop) (R:aI->Prop):Prop:=match u with
 |.int x=>I x
 |.str x=>S x
 |.tuple us=>T us
 |.ref a=>R a
 |_=>False
@[reducible] def d5 {α:Type} (_:α):Prop:=False
theorem gh {S S':aw->Prop} {T T':List V->Prop} (i:∀x,I x->I' x) (s:∀x,S x->S' x) (t:∀x,T x->T' x) (r:∀x,R x->R' x):oP u I S T R->oP u I' S' T' R':=by
 cases u<;>first|exact i _|exact s _|exact t _|exact r _|exact id
theorem rj {S:aw->Prop} {T:List V->Prop} {G:Prop} (h:oP u I S T R) (i:∀x,u=.int x->I x->G) (s:∀x,u=.str x->S x->G) (t:∀x,u=.tuple x->T x->G) (r:∀x,u=.ref x->R x->G):G:=by
 cases u<;>first|exact i _ rfl h|exact s _ rfl h|exact t _ rfl h|exact r _ rfl h|exact h.elim
theorem qK (h:oP u I d5 d5 d5):∃x,u=.int x/\I x:=by cases u<;>first|exact ⟨_,rfl,h⟩|exact h.elim
theorem JG (h:oP u d5 I d5 d5):∃x,u=.str x/\I x:=by cases u<;>first|exact ⟨_,rfl,h⟩|exact h.elim
theorem JM (h:oP u d5 d5 I d5):∃x,u=.tuple x/\I x:=by cases u<;>first|exact ⟨_,rfl,h⟩|exact h.elim
theorem wK (h:oP u d5 d5 d5 I):∃x,u=.ref x/\I x:=by cases u<;>first|exact ⟨_,rfl,h⟩|exact h.elim
@[reducible] def at_ (o:Option bK) (L:List V->Prop) (S:List (aw×V)->Prop) (I:(Int->Option V)->Nat->Prop) (T:List (List Int×V)->Prop) (E:Prop) (O:Fn->aI->List (aw×V)->Prop):Prop:=match o with
 |none=>False
 |some o=>match o with
  |.list us=>L us
  |.sdict es=>S es
  |.idict f n=>I f n
  |.tdict es=>T es
  |.edict=>E
  |.inst c d as=>O c d as
@[reducible] def Bs {α β:Type} (_:α) (_:β):Prop:=False
@[reducible] def Bu {α β γ:Type} (_:α) (_:β) (_:γ):Prop:=False
section
variable {S S':List (aw×V)->Prop} {T T':List (List Int×V)->Prop} {E E' G:Prop}
theorem o7 (l:∀x,L x->L' x) (s:∀x,S x->S' x) (i:∀x y,I x y->I' x y) (t:∀x,T x->T' x) (e:E->E') (q:∀x y z,O x y z->O' x y z):at_ o L S I T E O->at_ o L' S' I' T' E' O':=by
 cases o with
 |none=>exact id
 |some o=>cases o<;>first|exact l _|exact s _|exact i _ _|exact t _|exact e|exact q _ _ _
theorem sA (h:at_ o L S I T E O) (l:∀x,o=some (.list x)->L x->G) (s:∀x,o=some (.sdict x)->S x->G) (i:∀x y,o=some (.idict x y)->I x y->G) (t:∀x,o=some (.tdict x)->T x->G) (e:o=some .edict->E->G) (q:∀x y z,o=some (.inst x y z)->O x y z->G):G:=by
 cases o with
 |none=>exact h.elim
 |some o=>cases o<;>first|exact l _ rfl h|exact s _ rfl h|exact i _ _ rfl h|exact t _ rfl h|exact e rfl h|exact q _ _ _ rfl h
theorem Ho (h:at_ o L d5 Bs d5 False Bu):∃us,o=some (.list us)/\L us:=sA h (λ x e z=>⟨x,e,z⟩) (λ Z Z z=>z.elim) (λ Z Z Z z=>z.elim) (λ Z Z z=>z.elim) (λ Z z=>z.elim) λ Z Z Z Z z=>z.elim
theorem Jq (h:at_ o d5 d5 Bs d5 False O):∃c d as,o=some (.inst c d as)/\O c d as:=sA h (λ Z Z z=>z.elim) (λ Z Z z=>z.elim) (λ Z Z Z z=>z.elim) (λ Z Z z=>z.elim) (λ Z z=>z.elim) λ c d as e z=>⟨c,d,as,e,z⟩
end
@[reducible] def xi (o:Option (List V)) (K:List V->Prop):Prop:=match o with
 |some u=>K u
 |none=>False
theorem rW {K:List V->Prop} (h:xi o K):∃u,o=some u/\K u:=by
 cases o with
 |none=>exact h.elim
 |some u=>exact ⟨u,rfl,h⟩
theorem tI {K K':List V->Prop} (k:∀u,K u->K' u):xi o K->xi o K':=by cases o<;>first|exact id|exact k _
@[reducible] def ii (u v:V) (K:Int->Int->Prop):Prop:=oP u (λ x=>oP v (λ y=>K x y) d5 d5 d5) d5 d5 d5
theorem G7 {K:Int->Int->Prop} (h:ii u v K):∃x y,u=.int x/\v=.int y/\K x y:=
 let ⟨x,e,h⟩:=qK h;let ⟨y,e',h⟩:=qK h;⟨x,y,e,e',h⟩
theorem xN {K K':Int->Int->Prop} (k:∀x y,K x y->K' x y):ii u v K->ii u v K':=gh (λ Z=>gh (λ Z=>k _ _) (λ Z=>id) (λ Z=>id) λ Z=>id) (λ Z=>id) (λ Z=>id) λ Z=>id
def Kc (a b:aI) (H:MH) (Q:V->MH->Prop):Prop:=at_ (H a) (λ us=>at_ (H b) (λ vs=>us.length+vs.length<=bE/\∀c,H c=none->Q (.ref c) (H.set c (.list (us++vs)))) d5 Bs d5 False Bu) d5 Bs d5 False Bu
@[reducible] noncomputable def addV (u v:V) (H:MH) (Q:V->MH->Prop):Prop:=
 oP u (λ x=>oP v (λ y=>Q (.int (x+y)) H) d5 d5 d5) (λ x=>oP v d5 (λ y=>x.length+y.length<=bE/\Q (.str (x++y)) H) d5 d5)
  (λ us=>oP v d5 d5 (λ vs=>us.length+vs.length<=bE/\Q (.tuple (us++vs)) H) d5) λ a=>oP v d5 d5 d5 λ b=>Kc a b H Q
@[reducible] def E6 (us:List V) (K:V->Prop):Prop:=match us with
 |[]=>False
 |u::r=>match r with
  |[]=>K u
  |_::_=>False
theorem Dx {K:V->Prop} (h:E6 us K):∃u,us=[u]/\K u:=by
 cases us with
 |nil=>exact h.elim
 |cons u r=>cases r with
  |nil=>exact ⟨u,rfl,h⟩
  |cons _ _=>exact h.elim
theorem GP {K K':V->Prop} (k:∀u,K u->K' u) (h:E6 us K):E6 us K':=by
 obtain ⟨u,rfl,h⟩:=Dx h;exact k _ h
@[reducible] noncomputable def mulV (u v:V) (H:MH) (Q:V->MH->Prop):Prop:=
 oP v (λ y=>oP u (λ x=>Fc x y/\Q (.int (x*y)) H) d5 (λ us=>E6 us λ u=>(0<y/\y<=1000)/\Q (.tuple (b9 y.toNat u)) H) d5) d5 d5 d5
@[reducible] noncomputable def binV (op:xR) (u v:V) (H:MH) (Q:V->MH->Prop):Prop:=
 match op with
 |.Add=>addV u v H Q
 |.Sub=>ii u v λ x y=>Q (.int (x -y)) H
 |.Mult=>mulV u v H Q
 |.FloorDiv=>ii u v λ x y=>br (divOk y) (Q (.int (x/y)) H) ((0<y/\cW x y=false)/\Q (.int (x/y)) H)
 |.Mod=>ii u v λ x y=>Dh (decide (0<y)) (Q (.int (x %y)) H)
 |.Pow=>ii u v λ x y=>(0<=y/\y<=1000000/\x.natAbs<2^64)/\Q (.int (x^y.toNat)) H
 |.LShift=>ii u v λ x y=>(0<=y/\(lM x:Int)+y<=2^27)/\Q (.int (x*2^y.toNat)) H
 |.RShift=>ii u v λ x y=>0<=y/\Q (.int (x/2^y.toNat)) H
 |.BitOr=>ii u v λ x y=>Q (.int (ku x y)) H
 |.BitAnd=>ii u v λ x y=>Q (.int (mj x y)) H
 |_=>False
noncomputable def eqO (u v:V):Option Bool:=match u with
 |.int x=>match v with
  |.int y=>some (decide (x=y))
  |_=>none
 |.str x=>match v with
  |.str y=>some (decide (x=y))
  |_=>none
 |_=>none
theorem FO (h:eqO u v=some b):(∃x y,u=.int x/\v=.int y/\decide (x=y)=b)\/∃x y,u=.str x/\v=.str y/\decide (x=y)=b:=by
 cases u with
 |int x=>cases v with
  |int y=>exact .inl ⟨x,y,rfl,rfl,ac h⟩
  |_=>exact (cV h).elim
 |str x=>cases v with
  |str y=>exact .inr ⟨x,y,rfl,rfl,ac h⟩
  |_=>exact (cV h).elim
 |_=>exact (cV h).elim
@[reducible] def Ga (o:Option Bool) (K:Bool->Prop) (N:Prop):Prop:=match o with
 |some u=>K u
 |none=>N
theorem y8 {K:Bool->Prop} (h:Ga o K N):(∃u,o=some u/\K u)\/N:=by
 cases o with
 |none=>exact .inr h
 |some u=>exact .inl ⟨u,rfl,h⟩
theorem C1 {K:Bool->Prop} (h:Ga o K False):∃u,o=some u/\K u:=(y8 h).resolve_right id
theorem yD {K K':Bool->Prop} (k:∀u,K u->K' u) (n:N->N'):Ga o K N->Ga o K' N':=by cases o<;>first|exact n|exact k _
@[reducible] def Ih (o:Option pk) (K:pk->Prop):Prop:=match o with
 |some u=>K u
 |none=>False
theorem yV {K:pk->Prop} (h:Ih o K):∃u,o=some u/\K u:=by
 cases o with
 |none=>exact h.elim
 |some u=>exact ⟨u,rfl,h⟩
theorem yE {K:pk->Prop} (e:o=some u) (h:K u):Ih o K:=by exact af e h
theorem Gi {K K':pk->Prop} (k:∀u,K u->K' u):Ih o K->Ih o K':=by cases o<;>first|exact id|exact k _
@[reducible] def NT (u v:V) (H:MH) (Q:Bool->Prop):Prop:=Ih (dataOf H 30 u) λ d=>Ih (dataOf H 30 v) λ d'=>jH d=true/\jH d'=true/\Q (zb d d')
@[reducible] def Ig (u v:V) (H:MH) (Q:Bool->Prop):Prop:=Ga (eqO u v) Q (NT u v H Q)
noncomputable def inV (u v:V) (H:MH) (Q:Bool->Prop):Prop:=
 oP u (λ x=>oP v d5 d5 d5 λ a=>at_ (H a) d5 d5 (λ f Z=>Q (f x).isSome) d5 (Q false) Bu)
  (λ x=>oP v d5 d5 (λ us=>∃ss:List aw,us=ss.map V.str/\Q (decide (x∈ss))) λ a=>at_ (H a) d5 (λ es=>Q (es.lookup x).isSome) Bs d5 (Q false) Bu) d5 d5
noncomputable def isO (u:V):Option Bool:=match u with
 |.none=>some true
 |.bool _=>some false
 |.int _=>some false
 |.str _=>some false
 |.tuple _=>some false
 |.ref _=>some false
 |_=>none
@[reducible] def J3 (u v:V) (Q:Bool->Prop):Prop:=match v with
 |.none=>Ga (isO u) Q False
 |_=>False
@[reducible] noncomputable def cmpV (op:CmpOp) (u v:V) (H:MH) (Q:Bool->Prop):Prop:=
 match op with
 |.Eq=>Ig u v H Q
 |.NotEq=>Ig u v H λ b=>Q (!b)
 |.Lt=>ii u v λ x y=>Q (decide (x<y))
 |.LtE=>ii u v λ x y=>Q (decide (x<=y))
 |.Gt=>ii u v λ x y=>Q (decide (y<x))
 |.GtE=>ii u v λ x y=>Q (decide (y<=x))
 |.In=>inV u v H Q
 |.NotIn=>inV u v H λ b=>Q (!b)
 |.Is=>J3 u v Q
 |.IsNot=>J3 u v λ b=>Q (!b)
noncomputable def subR (a:aI) (i:V) (H:MH) (Q:V->MH->Prop):Prop:=
 oP i (λ k=>at_ (H a) (λ us=>w8 (ix us k) λ u=>Q u H) d5 (λ f Z=>w8 (f k) λ u=>Q u H) d5 False Bu) (λ x=>at_ (H a) d5 (λ es=>w8 (es.lookup x) λ u=>Q u H) Bs d5 False Bu)
  (λ ks=>at_ (H a) d5 d5 Bs (λ es=>∃k:List Int,ks=k.map V.int/\w8 (es.lookup k) λ u=>Q u H) False Bu) d5
@[reducible] noncomputable def subV (u i:V) (H:MH) (Q:V->MH->Prop):Prop:=
 match u with
 |.tuple us=>oP i (λ k=>w8 (ix us k) λ u=>Q u H) d5 d5 d5
 |.flist us=>oP i (λ k=>w8 (ix us k) λ u=>Q u H) d5 d5 d5
 |.bytes b=>oP i (λ k=>(0<=k/\k<b.length/\b.length<=1000000)/\Q (.int (b.getD k.toNat 0)) H) d5 d5 d5
 |.ref a=>subR a i H Q
 |_=>False
noncomputable def cutV (us:List V) (lo hi:V):Option (List V):=match lo with
 |.int k=>match hi with
  |.none=>cond (decide (0<=k/\k<2^62)) (some (us.drop k.toNat)) none
  |_=>none
 |.none=>match hi with
  |.int k=>cond (decide (0<=k/\k<2^62)) (some (us.take k.toNat)) none
  |_=>none
 |_=>none
theorem uF {α:Type} {x y:α} (h:cond b (some x) none=some y):b=true/\x=y:=by
 cases b with
 |true=>exact ⟨rfl,ac h⟩
 |false=>exact (cV h).elim
theorem B6 {lo hi:V} (h:cutV us lo hi=some vs):(∃k,lo=.int k/\hi=.none/\0<=k/\us.drop k.toNat=vs)\/∃k,lo=.none/\hi=.int k/\0<=k/\us.take k.toNat=vs:=by
 cases lo with
 |int k=>cases hi with
  |none=>exact .inl ⟨k,rfl,rfl,(of_decide_eq_true (uF h).1).1,(uF h).2⟩
  |_=>exact (cV h).elim
 |none=>cases hi with
  |int k=>exact .inr ⟨k,rfl,rfl,(of_decide_eq_true (uF h).1).1,(uF h).2⟩
  |_=>exact (cV h).elim
 |_=>exact (cV h).elim
noncomputable def slcV (u lo hi:V) (H:MH) (Q:V->MH->Prop):Prop:=
 oP u d5 d5 (λ us=>xi (cutV us lo hi) λ vs=>us.length<=bE/\Q (.tuple vs) H) λ a=>at_ (H a) (λ us=>xi (cutV us lo hi) λ vs=>us.length<=bE/\∀c,H c=none->Q (.ref c) (H.set c (.list vs))) d5 Bs d5 False Bu
def rc (u:V) (n:aw) (H:MH) (Q:V->MH->Prop):Prop:=oP u d5 d5 d5 λ a=>at_ (H a) d5 d5 Bs d5 False λ Z Z as=>w8 (as.lookup n) λ w=>Q w H
noncomputable def setattrV (fld:Fn->aw->Bool) (u:V) (n:aw) (w:V) (H:MH) (N:MH->Prop):Prop:=
 oP u d5 d5 d5 λ a=>at_ (H a) d5 d5 Bs d5 False λ c d as=>Dh (fld c n) (Dh (ml as.length 100) (N (H.set a (.inst c d (alSet as n w)))))
def eH (u i w:V) (H:MH) (N:MH->Prop):Prop:=oP u d5 d5 d5 λ a=>
 oP i (λ k=>at_ (H a) d5 d5 (λ f n=>n<=100000/\N (H.set a (.idict (λ x=>if x=k then some w else f x) (n+1)))) d5 (N (H.set a (.idict (λ x=>if x=k then some w else none) 1))) Bu)
  (λ k=>at_ (H a) d5 (λ es=>es.length<=100000/\N (H.set a (.sdict (alSet es k w)))) Bs d5 (N (H.set a (.sdict [(k,w)]))) Bu)
  (λ ks=>∃k:List Int,ks=k.map V.int/\at_ (H a) d5 d5 Bs (λ es=>es.length<=1000/\es.lookup k=none/\N (H.set a (.tdict (es++[(k,w)])))) (N (H.set a (.tdict [(k,w)]))) Bu) d5
@[reducible] def Ln (u:V) (K:Int->Prop):Prop:=match u with
 |.int x=>K x
 |_=>False
@[reducible] def A9 (u:V) (K:Bool->Prop):Prop:=match u with
 |.bool x=>K x
 |_=>False
@[reducible] def J7 (u:V) (K:Fn->Prop):Prop:=match u with
 |.fn x=>K x
 |_=>False
@[reducible] def Ls (u:V) (K:List V->Prop):Prop:=match u with
 |.tuple x=>K x
 |_=>False
@[reducible] def JH (u:V) (K:aw->Prop):Prop:=match u with
 |.str x=>K x
 |_=>False
@[reducible] def Ht (o:Option Fn) (K:Fn->Prop):Prop:=match o with
 |some x=>K x
 |none=>False
theorem Gm {K:Int->Prop} (h:Ln u K):∃x,u=.int x/\K x:=by cases u<;>first|exact ⟨_,rfl,h⟩|exact h.elim
theorem KZ {K:Bool->Prop} (h:A9 u K):∃x,u=.bool x/\K x:=by cases u<;>first|exact ⟨_,rfl,h⟩|exact h.elim
theorem Gd {K:Fn->Prop} (h:J7 u K):∃x,u=.fn x/\K x:=by cases u<;>first|exact ⟨_,rfl,h⟩|exact h.elim
theorem FA {K:List V->Prop} (h:Ls u K):∃x,u=.tuple x/\K x:=by cases u<;>first|exact ⟨_,rfl,h⟩|exact h.elim
theorem Gp {K:aw->Prop} (h:JH u K):∃x,u=.str x/\K x:=by cases u<;>first|exact ⟨_,rfl,h⟩|exact h.elim
theorem CA {K:Fn->Prop} (h:Ht u K):∃x,u=some x/\K x:=by cases u<;>first|exact ⟨_,rfl,h⟩|exact h.elim
theorem Km {K K':Int->Prop} (k:∀x,K x->K' x) (h:Ln u K):Ln u K':=by obtain ⟨x,rfl,h⟩:=Gm h;exact k _ h
theorem r8 {K K':Bool->Prop} (k:∀x,K x->K' x) (h:A9 u K):A9 u K':=by obtain ⟨x,rfl,h⟩:=KZ h;exact k _ h
theorem Ka {K K':Fn->Prop} (k:∀x,K x->K' x) (h:J7 u K):J7 u K':=by obtain ⟨x,rfl,h⟩:=Gd h;exact k _ h
theorem IX {K K':List V->Prop} (k:∀x,K x->K' x) (h:Ls u K):Ls u K':=by obtain ⟨x,rfl,h⟩:=FA h;exact k _ h
theorem Kj {K K':aw->Prop} (k:∀x,K x->K' x) (h:JH u K):JH u K':=by obtain ⟨x,rfl,h⟩:=Gp h;exact k _ h
theorem FI {K K':Fn->Prop} (k:∀x,K x->K' x) (h:Ht u K):Ht u K':=by obtain ⟨x,rfl,h⟩:=CA h;exact k _ h
theorem Gn {K:Fn->Prop} (e:o=some f) (h:K f):Ht o K:=by exact af e h
theorem rE {K:List V->Prop} (e:o=some us) (h:K us):xi o K:=by exact af e h
structure on where
 fld:Fn->aw->Bool
 meth:Fn->aw->Option Fn
 init:Fn->Option Fn
 lvl:Fn->Nat
 spec:Fn->cB
noncomputable def kindM (o:bK):List (aw×Fn):=match o with
 |.list _=>[(aa "append",.bi "list.append"),(aa "insert",.bi "list.insert")]
 |.sdict _=>[(aa "update",.bi "dict.update")]
 |.tdict _=>[(aa "get",.bi "dict.get")]
 |.edict=>[(aa "get",.bi "dict.get")]
 |_=>[]
theorem Mn:Nonempty on:=⟨⟨λ Z Z=>false,λ Z Z=>none,λ Z=>none,λ Z=>0,λ Z=>default⟩⟩
noncomputable def methO (tb:on) (o:bK) (n:aw):Option Fn:=match o with
 |.inst c _ as=>if (as.lookup n).isSome then none else tb.meth c n
 |o=>(kindM o).lookup n
noncomputable def methOf (tb:on) (H:MH):V->aw->Option Fn
 |.ref a,n=>(H a).bind λ o=>methO tb o n
 |_,_=>none
def mL (tb:on) (lv:Nat) (f:V) (us:List V) (H:MH) (Q:V->MH->Prop) (X:aw->MH->Prop):Prop:=J7 f λ g=>match g with
 |.cls n=>Ht (tb.init (.cls n)) λ i=>Dh (iI (tb.lvl i) lv)<|∀a d,H a=none->tb.spec i (.ref a::us) (H.set a (.inst (.cls n) d [])) (λ u H1=>u=.none/\Q (.ref a) H1) X
 |_=>Dh (iI (tb.lvl g) lv) (tb.spec g us H Q X)
noncomputable def framesOf (ρ:da) (own:List aw) (frees:List Nat):da:=(own.map λ Z=>none)++frees.map λ i=>ρ.at i
noncomputable def compTurns (el:V->MH->(V->MH->Prop)->Prop) (cond:V->MH->(Bool->MH->Prop)->Prop):List V->List V->MH->(List V->MH->Prop)->Prop
 |[],acc,H,Q=>Q acc H
 |u::us,acc,H,Q=>cond u H λ b H1=>br b (el u H1 λ v H2=>compTurns el cond us (acc++[v]) H2 Q) (compTurns el cond us acc H1 Q)
noncomputable def compTurns2 (el:V->V->MH->(V->MH->Prop)->Prop) (cond:V->MH->(Bool->MH->Prop)->Prop) (fh:V->MH->(List V->Prop)->Prop):List V->List V->MH->(List V->MH->Prop)->Prop
 |[],acc,H,Q=>Q acc H
 |u::us,acc,H,Q=>cond u H λ b H1=>br b (fh u H1 λ ws=>compTurns (el u) (λ Z H2 R=>R true H2) ws acc H1 λ acc' H2=>compTurns2 el cond fh us acc' H2 Q) (compTurns2 el cond fh us acc H1 Q)
@[reducible] def fe (tst:Bool) (Q:V->MH->Prop):V->MH->Prop:=match tst with
 |false=>Q
 |true=>λ u H=>Ga (truthV H u) (λ b=>Q (.bool b) H) False
def jU:aw->MH->Prop:=λ Z Z=>False
mutual
@[reducible] noncomputable def wpE (tb:on) (lv:Nat) (tst:Bool):E->da->MH->(V->MH->Prop)->(aw->MH->Prop)->Prop
 |.none,_,H,Q,_=>fe tst Q .none H
 |.bool b,_,H,Q,_=>fe tst Q (.bool b) H
 |.int i,_,H,Q,_=>fe tst Q (.int i) H
 |.str s,_,H,Q,_=>fe tst Q (.str s) H
 |.loc i,ρ,H,Q,_=>w8 (ρ.at i) λ u=>fe tst Q u H
 |.fn _ f,_,H,Q,_=>fe tst Q (.fn f) H
 |.neg a,ρ,H,Q,X=>wpE tb lv false a ρ H (λ u H1=>Ln u λ i=>fe tst Q (.int (-i)) H1) X
 |.bin op a b,ρ,H,Q,X=>wpE tb lv false a ρ H (λ u H1=>wpE tb lv false b ρ H1 (λ v H2=>binV op u v H2 (fe tst Q)) X) X
 |.cmp op a b,ρ,H,Q,X=>wpE tb lv false a ρ H (λ u H1=>wpE tb lv false b ρ H1 (λ v H2=>cmpV op u v H2 λ r=>Q (.bool r) H2) X) X
 |.not a,ρ,H,Q,X=>Dh tst (wpE tb lv true a ρ H (λ u H1=>A9 u λ b=>Q (.bool (!b)) H1) X)
 |.bop c es,ρ,H,Q,X=>match tst with
  |false=>wpB tb lv c es ρ H Q X
  |true=>wpTs tb lv c es ρ H Q X
 |.ifx t b o,ρ,H,Q,X=>wpE tb lv true t ρ H (λ u H1=>A9 u λ r=>br r (wpE tb lv tst b ρ H1 Q X) (wpE tb lv tst o ρ H1 Q X)) X
 |.tup es,ρ,H,Q,X=>wpEs tb lv es ρ H (λ us H1=>fe tst Q (.tuple us) H1) X
 |.lst es,ρ,H,Q,X=>wpEs tb lv es ρ H (λ us H1=>∀c,H1 c=none->fe tst Q (.ref c) (H1.set c (.list us))) X
 |.edct,ρ,H,Q,X=>∀c,H c=none->fe tst Q (.ref c) (H.set c .edict)
 |.dfn ps,ρ,H,Q,X=>∀c,H c=none->fe tst Q (.ref c) (H.set c (.sdict (ps.map λ p=>(p.1,V.fn p.2.2))))
 |.sub a i,ρ,H,Q,X=>wpE tb lv false a ρ H (λ u H1=>wpE tb lv false i ρ H1 (λ v H2=>subV u v H2 (fe tst Q)) X) X
 |.slc a lo hi,ρ,H,Q,X=>wpE tb lv false a ρ H (λ u H1=>wpO tb lv lo ρ H1 (λ l H2=>wpO tb lv hi ρ H2 (λ h H3=>slcV u l h H3 (fe tst Q)) X) X) X
 |.attr a n,ρ,H,Q,X=>wpE tb lv false a ρ H (λ u H1=>rc u n H1 (fe tst Q)) X
 |.call f as,ρ,H,Q,X=>wpE tb lv false f ρ H (λ g H1=>J7 g λ k=>wpEs tb lv as ρ H1 (λ us H2=>mL tb lv (.fn k) us H2 (fe tst Q) X) X) X
 |.meth o n as,ρ,H,Q,X=>wpE tb lv false o ρ H (λ u H1=>Ht (methOf tb H1 u n) λ g=>wpEs tb lv as ρ H1 (λ us H2=>mL tb lv (.fn g) (u::us) H2 (fe tst Q) X) X) X
 |.comp own fr el t it cond,ρ,H,Q,X=>wpE tb lv false it ρ H (λ u H1=>xi (itemsOf H1 u) λ us=>us.length<=1000000/\compTurns (λ v H2 R=>wpE tb lv false el ((framesOf ρ own fr).set t (some v)) H2 R jU)
    (λ v H2 R=>wpC tb lv cond ((framesOf ρ own fr).set t (some v)) H2 R) us [] (asideOf H1 u) λ vs H2=>∀c,backOf H1 H2 u c=none->fe tst Q (.ref c) ((backOf H1 H2 u).set c (.list vs))) X
 |.comp2 own fr el t it cond t2 it2,ρ,H,Q,X=>wpE tb lv false it ρ H (λ u H1=>xi (itemsOf H1 u) λ us=>us.length<=1000/\compTurns2 (λ v v2 H2 R=>wpE tb lv false el (((framesOf ρ own fr).set t (some v)).set t2 (some v2)) H2 R jU)
    (λ v H2 R=>wpE tb lv true cond ((framesOf ρ own fr).set t (some v)) H2 (λ u H3=>A9 u λ b=>R b H3) jU)
    (λ v H2 R=>wpE tb lv false it2 ((framesOf ρ own fr).set t (some v)) H2 (λ u H3=>H3=H2/\Ls u λ ws=>ws.length<=1000/\R ws) jU) us [] (asideOf H1 u) λ vs H2=>∀c,backOf H1 H2 u c=none->fe tst Q (.ref c) ((backOf H1 H2 u).set c (.list vs))) X
 |.stuck,_,_,_,_=>False
@[reducible] noncomputable def wpEs (tb:on) (lv:Nat):List E->da->MH->(List V->MH->Prop)->(aw->MH->Prop)->Prop
 |[],_,H,Q,_=>Q [] H
 |e::es,ρ,H,Q,X=>wpE tb lv false e ρ H (λ u H1=>wpEs tb lv es ρ H1 (λ us H2=>Q (u::us) H2) X) X
@[reducible] noncomputable def wpO (tb:on) (lv:Nat):Option E->da->MH->(V->MH->Prop)->(aw->MH->Prop)->Prop
 |none,_,H,Q,_=>Q .none H
 |some e,ρ,H,Q,X=>wpE tb lv false e ρ H Q X
@[reducible] noncomputable def wpC (tb:on) (lv:Nat):Option E->da->MH->(Bool->MH->Prop)->Prop
 |none,_,H,R=>R true H
 |some c,ρ,H,R=>wpE tb lv true c ρ H (λ u H3=>A9 u λ b=>R b H3) jU
@[reducible] noncomputable def wpB (tb:on) (lv:Nat):Bool->List E->da->MH->(V->MH->Prop)->(aw->MH->Prop)->Prop
 |_,[],_,_,_,_=>False
 |c,e::es,ρ,H,Q,X=>match es with
  |[]=>wpE tb lv false e ρ H Q X
  |_::_=>wpE tb lv false e ρ H (λ u H1=>Ga (truthV H1 u) (λ b=>br (eqb c b) (wpB tb lv c es ρ H1 Q X) (Q u H1)) False) X
@[reducible] noncomputable def wpTs (tb:on) (lv:Nat):Bool->List E->da->MH->(V->MH->Prop)->(aw->MH->Prop)->Prop
 |c,[],_,H,Q,_=>Q (.bool c) H
 |c,e::es,ρ,H,Q,X=>wpE tb lv true e ρ H (λ u H1=>A9 u λ b=>br (eqb c b) (wpTs tb lv c es ρ H1 Q X) (Q (.bool (!c)) H1)) X
end
@[reducible] def Cm (op:xR) (x y:Int) (K:Int->Prop):Prop:=match op with
 |.Add=>K (x+y)
 |.Sub=>K (x -y)
 |_=>False
theorem CU {K:Int->Prop} (h:Cm op x y K):(op=.Add/\K (x+y))\/(op=.Sub/\K (x -y)):=by
 cases op<;>first|exact .inl ⟨rfl,h⟩|exact .inr ⟨rfl,h⟩|exact h.elim
noncomputable def setAll (ρ:da):List Nat->List V->da
 |i::is,u::us=>setAll (ρ.set i (some u)) is us
 |_,_=>ρ
@[reducible] noncomputable def assignT (t:T) (u:V) (ρ:da) (H:MH) (N:da->MH->Prop):Prop:=
 match t with
 |.loc i=>N (ρ.set i (some u)) H
 |.tup is=>xi (seqOf H u) λ us=>us.length=is.length/\N (setAll ρ is us) H
noncomputable def forW (turn:V->da->MH->(da->MH->Prop)->Prop):List V->da->MH->(da->MH->Prop)->Prop
 |[],ρ,H,N=>N ρ H
 |u::us,ρ,H,N=>turn u ρ H λ ρ1 H1=>forW turn us ρ1 H1 N
noncomputable def whileW (test:da->MH->(Bool->MH->Prop)->Prop) (body:da->MH->(da->MH->Prop)->Prop) (N:da->MH->Prop):Nat->da->MH->Prop
 |0,_,_=>False
 |n+1,ρ,H=>test ρ H λ b H1=>br b (body ρ H1 λ ρ2 H2=>whileW test body N n ρ2 H2) (N ρ H1)
mutual
@[reducible] noncomputable def wpS (tb:on) (lv:Nat):S->da->MH->(da->MH->Prop)->(V->MH->Prop)->(aw->MH->Prop)->Prop
 |.assign t e,ρ,H,N,_,X=>wpE tb lv false e ρ H (λ u H1=>assignT t u ρ H1 N) X
 |.setattr o n e,ρ,H,N,_,X=>wpE tb lv false e ρ H (λ w H1=>wpE tb lv false o ρ H1 (λ u H2=>setattrV tb.fld u n w H2 (N ρ)) X) X
 |.setitem o i e,ρ,H,N,_,X=>wpE tb lv false e ρ H (λ w H1=>wpE tb lv false o ρ H1 (λ u H2=>wpE tb lv false i ρ H2 (λ k H3=>eH u k w H3 (N ρ)) X) X) X
 |.aug i op e,ρ,H,N,_,X=>w8 (ρ.at i) λ u=>wpE tb lv false e ρ H (λ v H1=>ii u v λ x y=>Cm op x y λ z=>N (ρ.set i (some (.int z))) H1) X
 |.augattr o n op e,ρ,H,N,_,X=>wpE tb lv false o ρ H (λ u H1=>rc u n H1 λ old H2=>wpE tb lv false e ρ H2 (λ v H3=>ii old v λ x y=>Cm op x y λ z=>setattrV tb.fld u n (.int z) H3 (N ρ)) X) X
 |.ite t b o,ρ,H,N,R,X=>wpE tb lv true t ρ H (λ u H1=>A9 u λ r=>br r (wpSs tb lv b ρ H1 N R X) (wpSs tb lv o ρ H1 N R X)) X
 |.while_ t b,ρ,H,N,R,_=>∃n,whileW (λ ρ H K=>wpE tb lv true t ρ H (λ u H1=>A9 u λ r=>K r H1) jU) (λ ρ H K=>wpSs tb lv b ρ H K R jU) N n ρ H
 |.for_ t it b,ρ,H,N,R,X=>wpE tb lv false it ρ H (λ u H1=>xi (itemsOf H1 u) λ us=>forW (λ v ρ1 H2 K=>assignT t v ρ1 H2 λ ρ2 H3=>wpSs tb lv b ρ2 H3 K (λ r H4=>R r (backOf H1 H4 u)) jU) us ρ (asideOf H1 u) λ ρ3 H4=>(∀a,u=.ref a->H4 a=none)->N ρ3 (backOf H1 H4 u)) X
 |.ret e,ρ,H,_,R,X=>wpE tb lv false e ρ H R X
 |.expr e,ρ,H,N,_,X=>wpE tb lv false e ρ H (λ u H1=>u=.none/\N ρ H1) X
 |.raise_ e,ρ,H,_,_,X=>Dh (iI 0 lv) (wpE tb lv false e ρ H (λ u H1=>JH u λ w=>X w H1) X)
 |.tryWhy e i j,ρ,H,N,_,_=>wpE tb lv false e ρ H (λ u H1=>u=.none/\N ρ H1) (λ why H1=>N ((ρ.set i none).set j (some (.str why))) H1)
 |.pass,ρ,H,N,_,_=>N ρ H
 |.stuck,_,_,_,_,_=>False
@[reducible] noncomputable def wpSs (tb:on) (lv:Nat):List S->da->MH->(da->MH->Prop)->(V->MH->Prop)->(aw->MH->Prop)->Prop
 |[],ρ,H,N,_,_=>N ρ H
 |s::r,ρ,H,N,R,X=>wpS tb lv s ρ H (λ ρ1 H1=>wpSs tb lv r ρ1 H1 N R X) R X
end
def dR (s s':ax):Prop:=s'.gens=s.gens/\s'.os=s.os/\s'.drawn=s.drawn
theorem dR.refl:dR s s:=⟨rfl,rfl,rfl⟩
theorem dR.trans (x:dR s s') (y:dR s' s''):dR s s'':=⟨y.1.trans x.1,y.2.1.trans x.2.1,y.2.2.trans x.2.2⟩
inductive bN (cx:Cx) (H:MH) (s:ax) (Q:V->MH->Prop) (v:av) (s':ax):Prop
 |mk (u) (H') (h1:Q u H') (h2:VRel cx s'.heap u v) (h3:cb cx H' s'.heap) (h4:bb fc H s.heap H' s'.heap) (h5:dR s s'):bN cx H s Q v s'
inductive iV (cx:Cx) (H:MH) (s:ax) (Q:Bool->MH->Prop) (b:Bool) (s':ax):Prop
 |mk (H') (h1:Q b H') (h2:cb cx H' s'.heap) (h3:bb fc H s.heap H' s'.heap) (h4:dR s s'):iV cx H s Q b s'
inductive wx (cx:Cx) (H:MH) (s:ax) (Q:List V->MH->Prop) (vs:List av) (s':ax):Prop
 |mk (us) (H') (h1:Q us H') (h2:VRels cx s'.heap us vs) (h3:cb cx H' s'.heap) (h4:bb fc H s.heap H' s'.heap) (h5:dR s s'):wx cx H s Q vs s'
inductive mT (cx:Cx) (P:aI->Prop) (H:MH) (s:ax) (Q:MH->Prop) (s':ax):Prop
 |mk (H') (h1:Q H') (h2:cb cx H' s'.heap) (h3:bb P H s.heap H' s'.heap) (h4:dR s s'):mT cx P H s Q s'
section
variable {cx:Cx}
theorem bb.keepI (x:bb P H h H' h'):bP h h':=x.imm
theorem bN.here (I:cb cx H s.heap) (r:VRel cx s.heap u v) (q:Q u H):bN cx H s Q v s:=⟨u,H,q,r,I,bb.refl,dR.refl⟩
theorem bN.tok (I:cb cx H s.heap) (r:VRel cx s.heap u v) (q:Q u H):bN cx H s Q v {s with toks:=t}:=⟨u,H,q,r,I,bb.refl,rfl,rfl,rfl⟩
theorem bN.after (st:bb fc H s.heap H1 s1.heap) (sm:dR s s1) (p:bN cx H1 s1 Q v s'):bN cx H s Q v s':=by
 obtain ⟨u,H',q,r,I,x,y⟩:=p
 exact ⟨u,H',q,r,I,st.trans x,sm.trans y⟩
theorem iV.after (st:bb fc H s.heap H1 s1.heap) (sm:dR s s1) (p:iV cx H1 s1 Q v s'):iV cx H s Q v s':=by
 obtain ⟨H',q,I,x,y⟩:=p
 exact ⟨H',q,I,st.trans x,sm.trans y⟩
theorem wx.after (st:bb fc H s.heap H1 s1.heap) (sm:dR s s1) (p:wx cx H1 s1 Q v s'):wx cx H s Q v s':=by
 obtain ⟨u,H',q,r,I,x,y⟩:=p
 exact ⟨u,H',q,r,I,st.trans x,sm.trans y⟩
theorem mT.after (st:bb P H s.heap H1 s1.heap) (sm:dR s s1) (p:mT cx P H1 s1 Q s'):mT cx P H s Q s':=by
 obtain ⟨H',q,I,x,y⟩:=p
 exact ⟨H',q,I,st.trans x,sm.trans y⟩
theorem bN.mono (k:∀u H',Q u H'->Q' u H') (p:bN cx H s Q v s'):bN cx H s Q' v s':=by
 obtain ⟨u,H',q,a,b,c,d⟩:=p;exact ⟨u,H',k _ _ q,a,b,c,d⟩
theorem bN.new {Q:V->MH->Prop} {h':cM} {mo:bK} {a:aI} {t:Nat} (I:cb cx H s.heap) (hb:cx.base.objs.size<=a) (k:∀b o,s.heap.get? b=some o->h'.get? b=some o)
  (ha:s.heap.get? a=none) (hn:∀c d as,mo≠.inst c d as) (r:ORel cx h' a mo) (q:∀c,H c=none->Q (.ref c) (H.set c mo)):
  bN cx H s Q (.ref a) {s with heap:=h',toks:=t}:=
 ⟨.ref a,H.set a mo,q _ (I.free ha).1,by rfl,(I.keeps k).take hn (I.free ha) hb r,(bb.keeps k).take hn ha,rfl,rfl,rfl⟩
theorem bN.priv (I:cb cx H s.heap) (k:∀b o,s.heap.get? b=some o->h'.get? b=some o) (r:VRel cx h' u v) (q:Q u H):bN cx H s Q v {s with heap:=h',toks:=t}:=
 ⟨u,H,q,r,I.keeps k,bb.keeps k,rfl,rfl,rfl⟩
end
structure uK (cx:Cx) (H:MH) (h:cM) (L:aI):Prop where
 above:cx.base.objs.size<=L
 free:ci H L
 ns:∃m,h.Ns L m
noncomputable def allNews (h₀ h:cM) (L:aI):List (aI×xQ):=(bF h.objs.size).filterMap λ a=>if a=L\/(h₀.get? a).isSome then none else (h.get? a).map λ o=>(a,o)
theorem fN:p∈allNews h₀ h L↔h.get? p.1=some p.2/\p.1≠L/\h₀.get? p.1=none:=by
 unfold allNews
 rw [kc]
 constructor
 ·rintro ⟨a,ha,e⟩
  split at e
  ·exact bH e
  ·rename_i n
   refine aL (aH.mp e) λ o e1 r1_=>?_
   subst r1_
   refine ⟨e1,λ q=>n (.inl q),?_⟩
   cases q:h₀.get? a with
   |none=>rfl
   |some x=>exact absurd (.inr (by refine af q ?_;rfl)) n
 ·rintro ⟨e,n,e0⟩
  refine ⟨p.1,ca.mpr (bx e),?_⟩
  rw [if_neg (by rintro (q|q);exact n q;rw [e0] at q;cases q),e]
  rfl
theorem lb:DE h₀ L h (allNews h₀ h L):=λ p hp=>fN.mp hp
theorem wc (I:cb cx H h) (k:uK cx H h L) (n:h.Ns L m):Fr cx.base L h m:=⟨n,I.base,k.above⟩
theorem pM:∀{l:List (aI×xQ)},(l.map (·.1)).Nodup->(d,o)∈l->Upd d o o' l (l.map λ p=>if p.1=d then (d,o') else p)
 |p::r,hn,hm=>by
  rw [bj,cc] at hn
  rcases aY.mp hm with e|hm
  ·subst e
   have:(r.map λ p=>if p.1=d then (d,o') else p)=r:=by
    conv=>rhs;rw [<-List.map_id r]
    refine gu λ p hp=>?_
    rw [if_neg];rfl
    intro q;exact hn.1 (q▸d8 (f:=(·.1)) hp)
   rw [bj,this,if_pos rfl]
   exact .head λ p hp q=>hn.1 (q▸d8 (f:=(·.1)) hp)
  ·have hne:p.1≠d:=λ q=>hn.1 (by rw [q];exact d8 (f:=(·.1)) hm)
   rw [bj,if_neg hne]
   exact .tail hne (pM hn.2 hm)
namespace gd
noncomputable def S_ (h₀ h L):=((allNews h₀ h L).map (·.1)).Nodup
def U_:=UU λ h₀=>UU λ h=>S_ h₀ h
def t_:=dr (by infer_instance) U_
def h₀:=t_.1
def h:=t_.2.1
def L:=t_.2.2
theorem P_:S_ h₀ h L:=by
 delta S_
 unfold allNews
 generalize h.objs.size=n
 induction n with
 |zero=>simp
 |succ n ih=>
  refine af mn (af List.filterMap_append (af bf ?_));rw [iq]
  refine ⟨ih,?_,?_⟩
  ·simp only [nH,List.filterMap_nil]
   split<;>simp
  ·intro a ha b hb e
   subst e
   refine aL (bC.mp ha) λ p hp r1_=>?_
   subst r1_
   refine aL (bC.mp hb) λ q hq e=>(aL (kc.mp hp) λ i hi ei=>(aL (kc.mp hq) λ j hj ej=>?_))
   have h1:p.1=i:=by
    split at ei
    ·exact bH ei
    ·obtain ⟨o,_,rfl⟩:=aH.mp ei;rfl
   have h2:q.1=j:=by
    split at ej
    ·exact bH ej
    ·obtain ⟨o,_,rfl⟩:=aH.mp ej;rfl
   have h3:j=n:=by simpa using hj
   have h4:=ca.mp hi
   have h5:p.1=q.1:=e.symm
   rw [h1,h2,h3] at h5
   rw [h5] at h4
   exact absurd h4 (eX _)
theorem A_:∀p,U_ p:=bB P_
end gd
theorem gd {h₀ h L}:gd.S_ h₀ h L:=gd.A_ (h₀,h,L)
structure rU (h h':cM) (L:aI):Prop where
 all:∀b o,b≠L->h.get? b=some o->h'.get? b=some o
 ns:∀m,h.Ns L m->h'.Ns L m
theorem uK.le (k:uK cx H h L):cx.base.objs.size<=h.objs.size:=by
 exact bu k.ns λ m n=>(fB (fE k.above n.lt))
theorem kj {h:cM} (n:h.Ns a m) (e:h.get? a=some o):¬tF o/\∀v,o.data≠.cell v:=by
 refine iZ n λ o' es ep e' d Z=>?_
 rw [e] at e';(have e':=ac e';subst e')
 refine ⟨?_,λ v q=>by rw [d] at q;exact gi q rfl⟩
 rintro (⟨xs,n,q,_⟩|⟨vs,q,_⟩)<;>(rw [d] at q;exact gi q rfl)
theorem rU.step (k:rU h h' L) (n:∃m,h.Ns L m):bb P H h H h':=by
 refine bu n λ m0 n0=>?_
 clear n
 have ns:∀a m,h.Ns a m->h'.Ns a m:=λ a m e=>by
  by_cases q:a=L
  ·subst q;exact k.ns m e
  ·refine iF e λ o es ep t1_=>(bw t1_ λ e1 r=>?_)
   exact ⟨o,es,ep,k.all _ _ q e1,r⟩
 refine ⟨λ a o e i=>?_,λ a m e Z Z=>ns a m e,λ a v e Z=>?_,λ a m e Z=>⟨m,ns a m e⟩,λ Z p q=>absurd p q,λ a o e=>?_,λ a o e kq Z Z=>?_⟩
 ·refine k.all a o (λ q=>?_) e
  subst q;exact (kj n0 e).1 i
 ·refine aL e λ o e1 e2=>?_
  refine ⟨o,k.all _ _ (λ q=>?_) e1,e2⟩
  subst q;exact (kj n0 e1).2 _ e2
 ·by_cases q:a=L
  ·subst q;exact gy (k.ns _ n0)
  ·exact ⟨o,k.all _ _ q e⟩
 ·refine k.all a o (λ q=>?_) e
  subst q
  refine iZ n0 λ o' es ep e' d Z=>?_
  rw [e] at e';(have e':=ac e';subst e')
  exact kq.no_dict.1 _ _ d
theorem rU.inv (k:rU h h' L) (I:cb cx H h) (lk:uK cx H h L):cb cx H h':=by
 refine I.moved (k.step (P:=fc) (H:=H) lk.ns).imm (λ a o e=>k.all a o (λ q=>?_) (I.base a o e)) λ a f=>?_
 ·subst q;exact absurd (bx e) (du.mpr lk.above)
 ·refine bu (I.at f) λ o e=>?_
  refine af e ?_;exact k.all _ _ (λ q=>by subst q;exact f lk.free) e
theorem oK (I:cb cx H h) (n:h.Ns L m) (F:Fr cx.base L h' m) (N:DE cx.base L h' news') (hs:∀p∈allNews cx.base h L,p∈news'):rU h h' L:=by
 refine ⟨λ b o nb e=>?_,λ m' e=>?_⟩
 ·cases q:cx.base.get? b with
  |some o'=>
   have:=I.base b o' q
   rw [e] at this;(have this:=ac this;subst this)
   exact F.keep b _ q
  |none=>exact (N _ (hs (b,o) (fN.mpr ⟨e,nb,q⟩))).1
 ·refine kf e λ o1 es1 ep1 g1 d1 k1 f1=>?_
  refine kf n λ o2 es2 ep2 g2 d2 k2 f2=>?_
  rw [g1] at g2;(have g2:=ac g2;subst g2)
  rw [d1] at d2;cases d2
  have:m'=m:=funext λ x=>(f1 x).symm.trans (f2 x)
  exact af this F.ns
end
section
open PySem PySem.W PyProof.Rows PySem.Calls Builtin
theorem lY:typeLookup (.type "tuple") (dunderR "mul")=pure (some (.builtin "tuple.__rmul__")):=by (refine af (typeLookup_type _ _) (af DV ?_));kernel_rfl
theorem pf:fillsNumberSlot (.type "tuple") "mul"=pure false:=
 PySem.fillsNumberSlot_seq (id:="tuple.__mul__") (r:=some (.builtin "tuple.__rmul__")) mq.lookup (by decide+kernel) lY (by decide+kernel)
theorem uq:seqRepeat? (.type "tuple")=pure (some (.builtin "tuple.__mul__")):=by
 refine af (DF (T:="tuple") (name:="__mul__") (id:="tuple.__mul__") mq.lookup (by decide+kernel)) (af (DF (T:="tuple") (name:="__rmul__") (id:="tuple.__rmul__") lY (by decide+kernel)) ?_)
 rfl
theorem rL (a:Int) (t:Tok) (l:aI) (xs:Array av) (k:Nat) (dd:Option aI) (sl:Array (Option av)):
  Meets (jb.«int.__rmul__» ⟨[.int a t,.ref l],[]⟩) (λ Z R s=>s.heap.get? l=some {cls:=.type "tuple",dict:=dd,data:=.seq xs k,slots:=sl}/\R (.ok (.ret Value.notImplemented)) s):=
 .of_wp λ prog w A R s h=>by
  obtain ⟨hp,g,d,tk,os⟩:=s;obtain ⟨hl,h⟩:=h
  wp_walk;exact ⟨_,rfl,h⟩
namespace iN
def S_ (t xs k u):=∀(dd:Option aI) (sl:Array (Option av)),Meets (jb.«tuple.__mul__» ⟨[.ref t,.int 1 u],[]⟩) (λ Z R s=>s.heap.get? t=some {cls:=.type "tuple",dict:=dd,data:=.seq xs k,slots:=sl}/\R (.ok (.ret (.ref t))) s)
def U_:=UV λ t xs k=>S_ t xs k
def t_:=dr (by infer_instance) U_
def t:=t_.1
def xs:=t_.2.1
def k:=t_.2.2.1
def u:=t_.2.2.2
theorem P_:S_ t xs k u:=λ dd sl=>
 .of_wp λ prog w A R s h=>by
  obtain ⟨hp,g,d,tk,os⟩:=s;obtain ⟨hl,h⟩:=h
  have h1:(xs.isEmpty||(1:Int)==1)=true:=by simp
  wp_walk
  exact ⟨_,rfl,h⟩
theorem A_:∀p,U_ p:=bB P_
end iN
theorem iN (t:aI) (xs:Array av) (k:Nat) (dd:Option aI) (sl:Array (Option av)) (u:Tok):
  Meets (jb.«tuple.__mul__» ⟨[.ref t,.int 1 u],[]⟩) (λ Z R s=>s.heap.get? t=some {cls:=.type "tuple",dict:=dd,data:=.seq xs k,slots:=sl}/\R (.ok (.ret (.ref t))) s):=
 iN.A_ (t,xs,k,u) dd sl
namespace gZ
def S_ (t k dd n u):=∀(xs:Array av) (sl:Array (Option av)) (h0:0<n) (h1:n<=1000) (hn:n≠1) (hz:xs.size=1),Meets (jb.«tuple.__mul__» ⟨[.ref t,.int n u],[]⟩) (λ Z R s=>s.heap.get? t=some {cls:=.type "tuple",dict:=dd,data:=.seq xs k,slots:=sl}/\
   R (.ok (.ret (.ref s.heap.objs.size))) {s with heap:=s.heap.push {cls:=.type "tuple",data:=.seq ((b9 n.toNat xs).foldl (·++·) #[])}})
def U_:=UV λ t k dd=>UU λ n=>S_ t k dd n
def t_:=dr (by infer_instance) U_
def t:=t_.1
def k:=t_.2.1
def dd:=t_.2.2.1
def n:=t_.2.2.2.1
def u:=t_.2.2.2.2
theorem P_:S_ t k dd n u:=λ xs sl h0 h1 hn hz=>
 .of_wp λ prog w A R s h=>by
  obtain ⟨hp,g,d,tk,os⟩:=s;obtain ⟨hl,h⟩:=h
  have e1:(decide (n< -2^63)||decide (n≥2^63))=false:=by
   rw [zc];constructor<;>(apply decide_eq_false;lia)
  have ez:xs.isEmpty=false:=by
   cases q:xs.isEmpty with
   |false=>rfl
   |true=>rw [Array.isEmpty_iff] at q;subst q;simp at hz
  have e2:(xs.isEmpty||n==1)=false:=by (refine af ez (af (jc _) ?_));exact beq_eq_false_iff_ne.mpr hn
  have e3:(decide (n<=0)||xs.isEmpty)=false:=by (refine af ez (af (HO _) ?_));exact decide_eq_false (by lia)
  have e4:¬((xs.size:Int)*n>(2^63 -1)/8):=by refine af hz ?_;lia
  have e5:Tuple.tupleTooMany ((xs.size:Int)*n)=false:=by
   refine af hz ?_
   exact decide_eq_false (by refine af d7 ?_;lia)
  have e6:sizeOk (.seq ((b9 n.toNat xs).foldl (·++·) #[])):=by
   show ((b9 n.toNat xs).foldl (·++·) #[]).size<=bE
   have:∀(k:Nat) (acc:Array av),((b9 k xs).foldl (·++·) acc).size=acc.size+k:=by
    intro k
    induction k with
    |zero=>intro acc;simp
    |succ k ih=>intro acc;(refine af Bh (af gK (af (ih _) (af Array.size_append (af hz ?_)))));exact kn _ _ _
   refine af (this _ _) (af d7 ?_);simp;exact eT ‹_› (by decide)
  wp_walk
  refine af e1 ?_
  simp only [ch,if_false]
  wp_walk
  refine wpAny_ite ?_
  split
  ·rename_i q;exact absurd q e4
  ·refine af e5 ?_
   simp only [ch,if_false]
   refine ae (m:=ew _) (cX ?_ e6)
   exact ah ⟨_,rfl,h⟩
theorem A_:∀p,U_ p:=bB P_
end gZ
theorem gZ (t:aI) (xs:Array av) (k:Nat) (dd:Option aI) (sl:Array (Option av)) (n:Int) (u:Tok) (h0:0<n) (h1:n<=1000) (hn:n≠1) (hz:xs.size=1):
  Meets (jb.«tuple.__mul__» ⟨[.ref t,.int n u],[]⟩) (λ Z R s=>s.heap.get? t=some {cls:=.type "tuple",dict:=dd,data:=.seq xs k,slots:=sl}/\
   R (.ok (.ret (.ref s.heap.objs.size))) {s with heap:=s.heap.push {cls:=.type "tuple",data:=.seq ((b9 n.toNat xs).foldl (·++·) #[])}}):=
 gZ.A_ (t,k,dd,n,u) xs sl h0 h1 hn hz
section
variable {E:av->ax->Prop}
theorem Ba (ht:ja s.heap t aB) (h0:0<n) (h1:n<=1000) (hz:aB.size=1)
  (h:n=1->Q (.ref t) s) (h2:n≠1->Q (.ref s.heap.objs.size) {s with heap:=s.heap.push {cls:=.type "tuple",data:=.seq ((b9 n.toNat aB).foldl (·++·) #[])}}):
  aE (ay prog w) A (Fd .Mult (.ref t) (.int n tk)) Q E s:=by
 refine cI ht λ w1_ ho hc t2_=>(bu t2_ λ k hd=>?_)
 clear ht t2_
 obtain ⟨c,dd,dt,sl⟩:=w1_
 dsimp only at hc hd
 subst hc hd
 refine wpAny_binaryOp_repeat_ref (T:="tuple") (U:="int") (by decide) ⟨_,ho,rfl⟩ (λ s'=>typeIs_int s' n tk) pf F.fills_int_mul Io uq F.slot_int_index.lookup
  (xS Io (typeIs_int s n tk) F.entry_int_rmul (F.args_int_rmul_2 _ _) (rL n tk t aB k dd sl) ⟨ho,rfl,⟨_,ho,rfl⟩,?_⟩)
 by_cases hn:n=1
 ·subst hn
  exact xS mq ⟨_,ho,rfl⟩ Gs (Fe _ _) (iN t aB k dd sl tk) ⟨ho,h rfl⟩
 ·exact xS mq ⟨_,ho,rfl⟩ Gs (Fe _ _) (gZ t aB k dd sl n tk h0 h1 hn hz) ⟨ho,h2 hn⟩
end
section
variable {E:av->ax->Prop}
theorem sM {sl:aI} {n:Nat} {vl vu:av} {a b:Option Int} {Q:Int×Int×Nat->ax->Prop} (hs:s.heap.IsSliceOf sl vl vu .none)
  (pl:∀{Q:Option Int->ax->Prop},Q a s->aE (ay prog w) A (eY vl) Q E s) (pu:∀{Q:Option Int->ax->Prop},Q b s->aE (ay prog w) A (eY vu) Q E s)
  (h:Q ((bk a b 1 n).1,1,ed (bk a b 1 n).1 (bk a b 1 n).2 1) s):
  aE (ay prog w) A (Builtin.Slice.sliceApplied (.ref sl) (pure (n:Int))) Q E s:=by
 refine cI (id hs) λ os hos hcs hds=>?_
 refine ae (ae (gz hos hds (x:=vl) rfl (ae (gz hos hds (x:=vu) rfl (ae (gz hos hds (x:=.none) rfl (ah ?_)))))))
 refine ae (xT ?_)
 refine af (if_neg (by decide)) ?_
 exact ae (pl (ae (pu (ae (ah (ah h))))))
end
namespace dh
def S_ (prog w A E s t sl aB a b Q):=∀{vl:av} {vu:av} (ht:ja s.heap t aB) (hs:s.heap.IsSliceOf sl vl vu .none) (pl:∀{E:av->ax->Prop} {Q:Option Int->ax->Prop},Q a s->aE (ay prog w) A.in1 (eY vl) Q E s) (pu:∀{E:av->ax->Prop} {Q:Option Int->ax->Prop},Q b s->aE (ay prog w) A.in1 (eY vu) Q E s) {lo:Nat} {Bv:Nat} (hlo:(bk a b 1 aB.size).1=(lo:Int)) (hcnt:ed (bk a b 1 aB.size).1 (bk a b 1 aB.size).2 1=Bv) (hz:aB.size<=bE) (h1:lo=0->Bv=aB.size->Q (.ref t) s) (h2:Q (.ref s.heap.objs.size) {s with heap:=s.heap.push {cls:=.type "tuple",data:=.seq ((aB.toList.drop lo).take Bv).toArray}}),aE (ay prog w) A (sP (.ref t) (.ref sl)) Q E s
def U_:=UV λ prog w A=>UV λ E s t=>UV λ sl aB a=>UU λ b=>S_ prog w A E s t sl aB a b
def t_:=dr (by have:=qf;have:=p5;have:=vU;infer_instance) U_
def prog:=t_.1
def w:=t_.2.1
def A:=t_.2.2.1
def E:=t_.2.2.2.1
def s:=t_.2.2.2.2.1
def t:=t_.2.2.2.2.2.1
def s1_:=t_.2.2.2.2.2.2
def sl:=s1_.1
def aB:=s1_.2.1
def a:=s1_.2.2.1
def b:=s1_.2.2.2.1
def Q:=s1_.2.2.2.2
theorem P_:S_ prog w A E s t sl aB a b Q:=by
 intro vl vu ht hs pl pu lo Bv hlo hcnt hz h1 h2
 have hfit:sizeOk (.seq ((aB.toList.drop lo).take Bv).toArray):=by
  show ((aB.toList.drop lo).take Bv).toArray.size<=bE
  refine af DG (af bU (af ek (af jr ?_)))
  exact ao (dG ..) (ao (uN ..) hz)
 refine cI (id hs) λ os hos hcs hds=>?_
 have hTs:s.TypeIs (.ref sl) "slice":=⟨os,hos,hcs⟩
 unfold sP
 try with_reducible refine bz ?_
 first|refine ae (ah ?_)|skip
 refine ae (Ip ht.typeIs (by decide) ?_)
 refine ae (mG (name:=aa "__getitem__") ht.typeIs lx
  (gL lx ht.typeIs entry_tuple_getitem ?_ (args_tuple_getitem _ _)))
 show aE _ _ (Builtin.Tuple.tupleItemsOf (.ref t)>>=_) _ _ s
 refine ae (Bi ht ?_)
 refine ae (wpAny_typeOf hTs ?_)
 refine af (if_pos (by decide)) ?_
 refine ae (sM hs pl pu ?_)
 refine af hcnt (af hlo ?_)
 have pick:((bF Bv).filterMap λ (k:Nat)=>aB[((lo:Int)+(k:Int)*1).toNat]?).toArray=((aB.toList.drop lo).take Bv).toArray:=by
  have e:(λ (k:Nat)=>aB[((lo:Int)+(k:Int)*1).toNat]?)=(λ x=>aB[x]?)∘λ k=>lo+k:=by
   funext k
   have:((lo:Int)+(k:Int)*1).toNat=lo+k:=(Nat.add_assoc _ _ _).symm
   exact af this rfl
  exact af e (af List.filterMap_map.symm (af (pick_run aB lo Bv) rfl))
 refine cI ht λ w1_ ho hc t2_=>(bu t2_ λ k hd=>?_)
 clear ht t2_
 obtain ⟨c,dd,dt,sl'⟩:=w1_
 dsimp only at hc hd
 subst hc hd
 by_cases hw:lo=0/\Bv=aB.size
 ·refine bw hw λ r1_ r2_=>?_
  clear hw
  subst r1_
  subst r2_
  show aE _ _ (if (((0:Nat):Int)==0&&(1:Int)==1&&aB.size==aB.size)=true then _ else _) _ _ s
  refine af (if_pos (by simp)) ?_
  refine ae (m:=Builtin.Tuple.tupleIsExact _) ?_
  refine ae (wpAny_typeOf (T:="tuple") ⟨_,ho,rfl⟩ (ah ?_))
  refine af (if_pos (by decide)) ?_
  first
   |exact ae (jI (ah ⟨_,rfl,ah (h1 rfl rfl)⟩))
   |exact ae (jI (ae (ah (ah ⟨_,rfl,ah (h1 rfl rfl)⟩))))
 ·have hno:¬(((lo:Int)==0&&(1:Int)==1&&Bv==aB.size)=true):=by
   intro q
   simp only [bG,beq_iff_eq] at q
   exact hw ⟨by lia,q.2⟩
  show aE _ _ (if ((lo:Int)==0&&(1:Int)==1&&Bv==aB.size)=true then _ else _) _ _ s
  refine af (if_neg hno) (af pick ?_)
  first
   |exact ae (m:=ew _) (cX (ah ⟨_,rfl,ah h2⟩) hfit)
   |exact ae (m:=ew _) (cX (ae (ah (ah ⟨_,rfl,ah h2⟩))) hfit)
   |exact ae (ae (m:=ew _) (cX (ah (ah ⟨_,rfl,ah h2⟩)) hfit))
   |exact ae (ae (m:=ew _) (cX (ah ⟨_,rfl,ah h2⟩) hfit))
theorem A_:∀p,U_ p:=bB P_
end dh
section
variable {prog:cQ}
theorem dh {prog w A E s t sl aB a b Q}:dh.S_ prog w A E s t sl aB a b Q:=dh.A_ (prog,w,A,E,s,t,sl,aB,a,b,Q)
end
end
section
open PySem PySem.W PyProof.Rows PySem.Calls
section
variable {cx:Cx}
theorem dq:VRel cx h (.int i) (.int i t):=by exact ⟨t,rfl⟩
theorem ug:VRel cx h (.str x) (.str x t):=by exact ⟨t,rfl⟩
theorem qk:VRel cx h (.bool b) (.bool b):=by rfl
theorem mF:VRel cx h .none .none:=by rfl
theorem lS:VRel cx h (.ref a) (.ref a):=by rfl
theorem jD (ht:ja h a aB) (r:VRels cx h us aB.toList):VRel cx h (.tuple us) (.ref a):=by exact ⟨a,aB,rfl,ht,r⟩
theorem cj (r:VRel cx h (.int i) v):∃t,v=.int i t:=by exact r
theorem gQ (r:VRel cx h (.str x) v):∃t,v=.str x t:=by exact r
theorem mA (r:VRel cx h (.bool b) v):v=.bool b:=by exact r
theorem gn (r:VRel cx h .none v):v=.none:=by exact r
theorem df (r:VRel cx h (.ref a) v):v=.ref a:=by exact r
theorem fz (r:VRel cx h (.tuple us) v):∃a aB,v=.ref a/\ja h a aB/\VRels cx h us aB.toList:=by exact r
theorem FR (r:VRel cx h (.flist us) v):∃a aB,v=.ref a/\cx.base.IsList a aB/\VRels cx h us aB.toList:=by exact r
theorem yO (r:VRel cx h (.fn f) v):v=cx.addr f:=by exact r
end
theorem qU (ht:ja h a aB):ja h a aB.toList.toArray:=by exact af jd ht
theorem tv {h:cM} (e:h.get? a=some {cls:=.type "list",data:=.seq aB n}):h.IsList a aB.toList.toArray:=by exact af jd ⟨_,e,rfl,n,rfl⟩
theorem qZ {l:List av} (e:h.get? a=some {cls:=.type "tuple",data:=.seq l.toArray}):ja h a l.toArray:=⟨_,e,rfl,0,rfl⟩
theorem m9 (h:x.natAbs<2^k):lM x<=k:=by
 unfold lM
 split
 ·exact cS _
 ·rename_i hx
  have:x.natAbs≠0:=by
   intro q;apply hx;have:x=0:=by lia
   refine af this ?_;rfl
  exact (sq this).mpr h
theorem GN (h:y.natAbs<2^k) (hk:k<=8000):cW x y=false:=by
 refine PyProof.noPylong_of_log2 ?_
 by_cases h0:y.natAbs=0
 ·refine af h0 ?_;decide
 ·have:=(sq h0).mpr h;lia
theorem KE (h:iI y.natAbs 1024=true):cW x y=false:=GN (k:=10) (hU.mp h) (by decide)
theorem CQ (h:divOk y=true):0<y/\cW x y=false:=by
 unfold divOk at h
 rw [bG] at h
 exact ⟨of_decide_eq_true h.1,KE h.2⟩
section
variable {s:ax} {E:av->ax->Prop}
theorem sD {Q:V->MH->Prop} {m:aw->Option av} {h':cM} {a:aI} {vs:List av} {us:List V} {news:List (aI×xQ)} {t:Nat} (lk:uK cx H s.heap L) (I:cb cx H s.heap) (n:s.heap.Ns L m) (ha:s.heap.objs.size<=a)
  (F:Fr cx.base L h' m) (N:DE cx.base L h' news) (hm:(a,({cls:=.type "list",data:=.seq vs.toArray}:xQ))∈news) (hs:∀p∈allNews cx.base s.heap L,p∈news) (r:VRels cx s.heap us vs)
  (q:∀c,H c=none->Q (.ref c) (H.set c (.list us))):bN cx H s Q (.ref a) {s with heap:=h',toks:=t}:=by
 have k:=oK I n F N hs
 have st:=k.step (P:=fc) (H:=H) lk.ns
 have I':=k.inv I lk
 have ha':s.heap.get? a=none:=dN ha
 refine ⟨.ref a,H.set a (.list us),q _ (I.free ha').1,lS,I'.take (λ Z Z Z e=>by cases e) (I.free ha') (ao lk.le ha) ⟨vs.toArray,0,(N _ hm).1,?_⟩,st.take (λ Z Z Z e=>by cases e) ha',rfl,rfl,rfl⟩
 exact VRels.mono st.imm _ r
theorem uh (lk:uK cx H s.heap L) (I:cb cx H s.heap) (n:s.heap.Ns L m)
  (F:Fr cx.base L h' m) (N:DE cx.base L h' news) (hm:(a,({cls:=.type "tuple",data:=.seq vs.toArray}:xQ))∈news) (hs:∀p∈allNews cx.base s.heap L,p∈news) (r:VRels cx s.heap us vs)
  (q:Q (.tuple us) H):bN cx H s Q (.ref a) {s with heap:=h',toks:=t}:=by
 have k:=oK I n F N hs
 have st:=k.step (P:=fc) (H:=H) lk.ns
 exact ⟨.tuple us,H,q,jD (qZ (N _ hm).1) (VRels.mono st.imm _ r),k.inv I lk,st,rfl,rfl,rfl⟩
theorem xA (lk:uK cx H s.heap L) (I:cb cx H s.heap) (n:s.heap.Ns L m)
  (F:Fr cx.base L h' m) (N:DE cx.base L h' news) (hs:∀p∈allNews cx.base s.heap L,p∈news) (r:VRel cx s.heap u v)
  (q:Q u H):bN cx H s Q v {s with heap:=h',toks:=t}:=by
 have k:=oK I n F N hs
 have st:=k.step (P:=fc) (H:=H) lk.ns
 exact ⟨u,H,q,VRel.mono st.imm _ r,k.inv I lk,st,rfl,rfl,rfl⟩
theorem lG {K:Int->Int->Prop} {R:Prop} (ru:VRel cx h u a) (rv:VRel cx h v b) (q:ii u v K) (k:∀x y t t',K x y->a=.int x t->b=.int y t'->R):R:=by
 refine cu (G7 q) λ x y r1_ r2_ z=>?_
 subst r1_
 subst r2_
 obtain ⟨t,e⟩:=cj ru;obtain ⟨t',e'⟩:=cj rv
 exact k _ _ _ _ z e e'
theorem G1 (lk:uK cx H s.heap L) (I:cb cx H s.heap) (ru:VRel cx s.heap u a) (rv:VRel cx s.heap v b) (q:addV u v H Q):
  aE (ay cx.prog cx.w) A (Fd .Add a b) (bN cx H s Q) E s:=by
 refine bu lk.ns λ m n=>?_
 have F:=wc I lk n
 have N:DE cx.base L s.heap (allNews cx.base s.heap L):=lb
 refine rj q (λ x e q=>?_) (λ x e q=>?_) (λ us e q=>?_) (λ x e q=>?_)<;>subst e
 ·refine aL (qK q) λ y r1_ q=>?_
  subst r1_
  obtain ⟨t,rfl⟩:=cj ru;obtain ⟨t',rfl⟩:=cj rv
  exact add_int (bN.tok I dq q)
 ·refine aL (JG q) λ y r1_ q=>?_
  subst r1_
  obtain ⟨t,rfl⟩:=gQ ru;obtain ⟨t',rfl⟩:=gQ rv
  exact add_str (λ t' tk=>bN.tok I ug q.2) q.1
 ·refine aL (JM q) λ vs r1_ q=>?_
  subst r1_
  obtain ⟨x,xs,rfl,hx,rx⟩:=fz ru;obtain ⟨y,ys,rfl,hy,ry⟩:=fz rv
  have r:=rx.app ry
  exact add_tuples F N (qU hx) (qU hy) (λ e=>bN.here I (jD hy (by rw [e] at r;exact r)) q.2) (λ Z e=>bN.here I (jD hx (by rw [e,dZ] at r;exact r)) q.2) (λ Z Z h' F' N'=>uh lk I n F' N' (.head _) (λ p hp=>.tail _ hp) r q.2) (by (refine af rx.len (af ry.len ?_));exact q.1)
 ·refine aL (wK q) λ y r1_ q=>?_
  subst r1_
  cases df ru;cases df rv
  exact aL (Ho q) λ us h1 q=>(aL (Ho q) λ vs h2 q=>(fZ (I.own _ _ h1) λ xs nx g1 r1=>(fZ (I.own _ _ h2) λ ys ny g2 r2=>(add_lists F N (tv g1) (tv g2) (λ h' F' N'=>sD lk I n (bW _) F' N' (.head _) (λ p hp=>.tail _ hp) (r1.app r2) q.2) (by (refine af r1.len (af r2.len ?_));exact q.1)))))
theorem qY:∀(k:Nat) (acc:Array av),((b9 k #[w]).foldl (·++·) acc).toList=acc.toList++b9 k w
 |0,acc=>(dZ _).symm
 |k+1,acc=>by (refine af Bh (af gK (af (qY k _) (af Array.toList_append (af (eR _ _ _) ?_)))));rfl
theorem yq (r:VRel cx h u w):∀k,VRels cx h (b9 k u) (b9 k w)
 |0=>.nil
 |k+1=>.cons r (yq r k)
theorem Hw (I:cb cx H s.heap) (ru:VRel cx s.heap u a) (rv:VRel cx s.heap v b) (q:mulV u v H Q):
  aE (ay cx.prog cx.w) A (Fd .Mult a b) (bN cx H s Q) E s:=by
 refine aL (qK q) λ y r1_ q1=>?_
 subst r1_
 clear q
 refine rj q1 (λ x e q=>?_) (λ x e q=>q.elim) (λ us e q=>?_) (λ x e q=>q.elim)<;>subst e
 ·obtain ⟨t,rfl⟩:=cj ru;obtain ⟨t',rfl⟩:=cj rv
  exact mul_int (bN.tok I dq q.2) q.1
 ·refine bu (cj rv) λ t' r1_=>?_
  subst r1_
  refine aL (Dx q) λ u r1_ q=>?_
  subst r1_
  refine cu (fz ru) λ x xs r1_ hx rx=>?_
  subst r1_
  refine cu rx.cons_inv λ w0 ws e r0 r1=>?_
  cases r1.nil_inv
  cases (DH.mp e:xs=#[w0])
  refine Ba hx q.1.1 q.1.2 rfl (λ e=>?_) λ e=>?_
  ·subst e;exact bN.here I (jD hx rx) q.2
  ·refine bN.priv (t:=s.toks) I (λ Z Z e=>ak _ e) (jD (aB:=(b9 _ #[w0]).foldl (·++·) #[]) ⟨_,bt _ rfl,rfl,0,rfl⟩ ?_) q.2
   refine af (qY _ _) ?_
   exact (yq r0 _).mono (bP.of_keeps λ Z Z e=>ak _ e) _
theorem EE (lk:uK cx H s.heap L) (I:cb cx H s.heap) (ru:VRel cx s.heap u a) (rv:VRel cx s.heap v b) (q:binV op u v H Q):
  aE (ay cx.prog cx.w) A (Fd op a b) (bN cx H s Q) E s:=by
 cases op with
 |Add=>exact G1 lk I ru rv q
 |Sub=>exact lG ru rv q λ x y t t' q e1 e2=>by subst e1 e2;exact sub_int (bN.tok I dq q)
 |Mult=>exact Hw I ru rv q
 |FloorDiv=>
  refine lG ru rv q λ x y t t' q e1 e2=>?_
  subst e1 e2
  have q:(0<y/\cW x y=false)/\Q (.int (x/y)) H:=by
   cases e:divOk y with
   |true=>exact ⟨CQ e,(IP q).1 e⟩
   |false=>exact (IP q).2 e
  exact floordiv_int (iJ q.1.1) (by refine af (uO _ (fA q.1.1)) ?_;exact bN.tok I dq q.2) (.inl q.1.2)
 |Mod=>
  refine lG ru rv q λ x y t t' q e1 e2=>?_
  subst e1 e2
  have q1:0<y:=of_decide_eq_true (kJ q).1
  exact mod_int' (iJ q1) (by refine af (Int.fmod_eq_emod_of_nonneg _ (fA q1)) ?_;exact bN.tok I dq (kJ q).2)
 |Pow=>exact lG ru rv q λ x y t t' q e1 e2=>by subst e1 e2;exact pow_int_small q.1.1 q.1.2.1 q.1.2.2 (bN.tok I dq q.2)
 |LShift=>exact lG ru rv q λ x y t t' q e1 e2=>by subst e1 e2;exact lshift_int q.1.1 q.1.2 (bN.tok I dq q.2)
 |RShift=>
  refine lG ru rv q λ x y t t' q e1 e2=>?_
  subst e1 e2
  refine rshift_int q.1 ?_
  refine af (uO _ (fA (Int.pow_pos (by decide)))) ?_
  exact bN.tok I dq q.2
 |BitOr=>exact lG ru rv q λ x y t t' q e1 e2=>by subst e1 e2;exact or_int (bN.tok I dq q)
 |BitAnd=>exact lG ru rv q λ x y t t' q e1 e2=>by subst e1 e2;exact and_int (bN.tok I dq q)
 |_=>exact q.elim
theorem EW (h:seqOf H (.ref a)=some us):H a=some (.list us):=by
 have h:(match H a with
  |some (.list us)=>some us
  |_=>none)=some us:=h
 generalize H a=o at h⊢
 cases o with
 |none=>cases h
 |some o=>cases o<;>first|exact congrArg (λ l=>some (bK.list l)) (ac h)|cases h
theorem jX (k:∀u {v d},VRel cx s.heap u v->f u=some d->∃as,Reads s.heap v d as):∀{us:List V} {vs:List av} {ds:List pk},VRels cx s.heap us vs->mapO f us=some ds->∃as,ReadsAll s.heap vs ds as
 |[],_,_,r,e=>by cases r.nil_inv;cases e;exact ⟨_,.nil⟩
 |_::_,_,_,r,e=>by
  refine cu r.cons_inv λ v vs' r1_ r1 r2=>?_
  subst r1_
  refine aL (gM.mp e) λ d e1 e=>(aL (aH.mp e) λ ds e2 r1_=>?_)
  subst r1_
  exact bu (k _ r1 e1) λ as q1=>(bu (jX k r2 e2) λ bs q2=>⟨_,.cons q1 q2⟩)
theorem oC (I:cb cx H s.heap) (n:Nat):∀(u:V) {v:av} {d:pk},VRel cx s.heap u v->dataOf H n u=some d->∃as,Reads s.heap v d as:=by
 induction n with
 |zero=>exact λ Z Z Z Z e=>nomatch e
 |succ n ih=>
  intro u v d r e
  cases u with
  |none=>cases gn r;cases e;exact ⟨_,.none⟩
  |bool b=>cases mA r;cases e;exact ⟨_,.bool b⟩
  |int i=>obtain ⟨t,rfl⟩:=cj r;cases e;exact ⟨_,.int i t⟩
  |str x=>obtain ⟨t,rfl⟩:=gQ r;cases e;exact ⟨_,.str x t⟩
  |tuple us=>
   refine cu (fz r) λ a aB r1_ w2_ rs=>?_
   subst r1_
   refine cI w2_ λ o ho hc t1_=>(bu t1_ λ k hd=>?_)
   refine aL (aH.mp e) λ ds e1 r1_=>?_
   subst r1_
   exact bu (jX ih rs e1) λ as q=>⟨_,.tuple ho hc hd q⟩
  |flist us=>
   refine cu (FR r) λ a aB r1_ w2_ rs=>?_
   subst r1_
   refine cI w2_ λ o ho hc t1_=>(bu t1_ λ k hd=>?_)
   refine aL (aH.mp e) λ ds e1 r1_=>?_
   subst r1_
   exact bu (jX ih rs e1) λ as q=>⟨_,.list (I.base _ _ ho) hc hd q⟩
  |ref a=>
   cases df r
   refine aL (gM.mp e) λ us hu e=>(fZ (I.own _ _ (EW hu)) λ aB k ho rs=>(aL (aH.mp e) λ ds e1 r1_=>?_))
   subst r1_
   exact bu (jX ih rs e1) λ as q=>⟨_,.list ho rfl rfl q⟩
  |_=>cases e
theorem GH (hu:A.units+100<mH) (I:cb cx H s.heap) (ru:VRel cx s.heap u a) (rv:VRel cx s.heap v b) (q:Ig u v H Q) (k:∀r,Q r->R (.bool r) s):
  aE (ay cx.prog cx.w) A (jJ .Eq a b) R E s:=by
 rcases y8 q with ⟨r,e,q⟩|q
 ·rcases FO e with ⟨x,y,rfl,rfl,rfl⟩|⟨x,y,rfl,rfl,rfl⟩
  ·obtain ⟨t,rfl⟩:=cj ru;obtain ⟨t',rfl⟩:=cj rv
   exact eq_int (k _ q)
  ·obtain ⟨t,rfl⟩:=gQ ru;obtain ⟨t',rfl⟩:=gQ rv
   exact eq_str (k _ q)
 ·exact aL (yV q) λ d e1 q=>(aL (yV q) λ d' e2 q=>(bu (oC I _ _ ru e1) λ as q1=>(bu (oC I _ _ rv e2) λ bs q2=>(SeqAt.compareEq_shaped q1 q2 q.1 q.2.1 (by lia) (k _ q.2.2)))))
theorem Hy {Q:Bool->Prop} (hu:A.units+100<mH) (I:cb cx H s.heap) (ru:VRel cx s.heap u a) (rv:VRel cx s.heap v b) (q:Ig u v H λ r=>Q (!r)) (k:∀r,Q r->R (.bool r) s):
  aE (ay cx.prog cx.w) A (jJ .NotEq a b) R E s:=by
 rcases y8 q with ⟨r,e,q⟩|q
 ·rcases FO e with ⟨x,y,rfl,rfl,rfl⟩|⟨x,y,rfl,rfl,rfl⟩
  ·obtain ⟨t,rfl⟩:=cj ru;obtain ⟨t',rfl⟩:=cj rv
   exact ne_int (k _ q)
  ·obtain ⟨t,rfl⟩:=gQ ru;obtain ⟨t',rfl⟩:=gQ rv
   exact ne_str (k _ q)
 ·exact aL (yV q) λ d e1 q=>(aL (yV q) λ d' e2 q=>(bu (oC I _ _ ru e1) λ as q1=>(bu (oC I _ _ rv e2) λ bs q2=>(SeqAt.compareNe_shaped q1 q2 q.1 q.2.1 (by lia) (k _ q.2.2)))))
end
theorem vG {E:av->ax->Prop} (h:aE M A (jJ .In k o) (λ v s'=>∃b,v=.bool b/\Q (.bool (!b)) s') E s):aE M A (jJ .NotIn k o) Q E s:=λ Γ p hΓ=>by
 have:=h Γ p hΓ
 have e:jJ .In k o=(contains o k>>=λ b=>pure (.bool b)):=rfl
 have e2:jJ .NotIn k o=(contains o k>>=λ b=>pure (.bool (!b))):=rfl
 rw [e,Sem.wp_bind'] at this
 (refine af e2 ?_;rw [Sem.wp_bind'])
 refine Sem.wp_mono M Γ _ (λ b p' s' h'=>?_) (λ Z Z Z x=>x) p s this
 have h':∃b',Value.bool b=.bool b'/\Q (.bool (!b')) s':=h'
 refine aL h' λ b' e3 q=>?_
 cases e3
 exact q
section
variable {K:Type} [DecidableEq K] {knd:KeyKind prog w K} {E:av->ax->Prop}
theorem xL {f} (hkey:knd.is k key=true) (hm:s.heap.MapOf knd d f) (hz:s.heap.DictLe d n) (hn:n<=bE)
  (hQ:∀h',h'.MapOf knd d (λ x=>if x=k then some v else f x)->h'.DictLe d (n+1)->dk d s.heap h'->Q () {s with heap:=h',toks:=s.toks+1}):
  aE (ay prog w) A (dictSet d key v) Q E s:=by
 refine uf hm λ o es ep ho hc hd hk hf=>?_
 have hes:es.size<=n:=hz _ _ _ ho hd
 unfold dictSet
 try with_reducible refine bz ?_
 refine ae (knd.pyHash hkey ?_)
 unfold dictSetHashed
 try with_reducible refine bz ?_
 refine ae (wpAny_dictFind_of (s:={s with toks:=s.toks+1}) hkey ho hd hk ?_)
 cases hi:es.findIdx? λ e=>knd.is k e.key with
 |some i=>
  have hg:=co (Obj.mapDict (·.modify i λ e=>{e with val:=v})) ho (Bw (r9 hd _))
  refine ae (jI (ae (wpAny_updateDict (s:={s with toks:=s.toks+1}) ho hd (wpAny_point (hQ _ ⟨_,_,ep,hg,
   hc.mapDict _,r9 hd _,hk.modify _ _,λ x=>?_⟩ (λ o' es' ep' ho' hd'=>?_) (dL ..))))))
  ·exact af (findBy_modify knd.is knd.inj es k x v i hi) (af (hf _) rfl)
  ·rw [hg] at ho';(have ho':=ac ho';subst ho')
   rw [r9 hd] at hd';cases hd'
   refine af Array.size_modify ?_;exact cK ‹_›
 |none=>
  have hg:=co (Obj.mapDictKeys (·.push ⟨knd.hash k,key,v⟩)) ho (Bw (nv hd _))
  refine ae (jI (wpAny_updateDictKeys (hz:=ao hes hn) (s:={s with toks:=s.toks+1}) ho hd (hQ _ ⟨_,_,ep+1,hg,
   hc.mapDictKeys _,nv hd _,hk.push hkey _,λ x=>?_⟩ (λ o' es' ep' ho' hd'=>?_) (dL ..))))
  ·exact af (findBy_push knd.is es k x _ _ v (KeyKind.is_eq_decide hkey) hi) (af (hf _) rfl)
  ·rw [hg] at ho';(have ho':=ac ho';subst ho')
   rw [nv hd] at hd';cases hd'
   refine af (Array.size_push _) ?_;exact cw ‹_›
theorem rX {f} (hkey:knd.is k key=true) (hm:s.heap.MapOf knd d f) (hz:s.heap.DictLe d n) (hn:n<=bE)
  (hQ:∀h',h'.MapOf knd d (λ x=>if x=k then some v else f x)->h'.DictLe d (n+1)->dk d s.heap h'->Q () {s with heap:=h',toks:=s.toks+1}):
  aE (ay prog w) A (setItem (.ref d) key v) Q E s:=by
 unfold setItem
 try with_reducible refine bz ?_
 refine ae (Ip hm.typeIs (by decide) ?_)
 refine ae (mG (name:=aa "__setitem__") hm.typeIs Iq
  (gL Iq hm.typeIs entry_dict_setitem ?_ (args_dict_setitem _ _ _)))
 refine ae (DW hm.typeIs ?_)
 show aE _ _ (dictSet d key v>>=_) _ _ s
 exact ae (xL hkey hm hz hn λ h' hm' hl' hs'=>ah ⟨.none,rfl,ah (hQ h' hm' hl' hs')⟩)
end
theorem pe {K:Type} [DecidableEq K] {knd:KeyKind prog w K} {h:cM} (e:h.get? a=some (nu [] n)):h.MapOf knd a λ Z=>none:=
 ⟨_,#[],n,e,⟨rfl,rfl,rfl⟩,rfl,λ Z he=>by simp at he,λ Z=>rfl⟩
theorem Cs {h:cM} (e:h.get? a=some (nu [] n)):h.DictLe a 0:=λ o es ep e1 e2=>by rw [e] at e1;(have e1:=ac e1;subst e1);cases e2;exact bW _
section
variable {s:ax} {E:av->ax->Prop}
theorem rF:∀{ss:List aw} {vs:List av},VRels cx s.heap (ss.map V.str) vs->StrsAre vs ss
 |[],_,r=>by have:=r.nil_inv;subst this;exact .nil
 |x::ss,_,r=>by
  refine cu r.cons_inv λ v vs' r1_ r1 r2=>?_
  subst r1_
  refine bu (gQ r1) λ t r1_=>?_
  subst r1_
  exact .cons _ _ (rF r2)
theorem EX (ss:List aw) (x:aw):(ss.any (·==x))=decide (x∈ss):=by
 induction ss with
 |nil=>rfl
 |cons y r ih=>
  refine af kY (af ih ?_)
  by_cases h:x=y
  ·subst h;simp
  ·have h2:(y==x)=false:=beq_eq_false_iff_ne.mpr λ e=>h e.symm
   simp [h,h2]
theorem lT (hsys:fo<cx.base.objs.size) (I:cb cx H s.heap) (e:H a=some o):(a==fo)=false:=by
 have:=I.old a (fq e)
 rw [beq_eq_false_iff_ne]
 intro q;subst q;exact absurd hsys (du.mpr this)
theorem ui:∀{es:List (aw×V)} {kvs:List (aw×av)},KRel cx h es kvs->∀k,OR cx h (es.lookup k) (valueAt kvs k)
 |[],_,r,k=>by subst r;exact trivial
 |(n,u)::es,_,r,k=>by
  refine cu r λ v kvs' r1_ h1 h2=>?_
  clear r
  subst r1_
  refine af aG ?_
  unfold valueAt
  refine af (js) ?_
  by_cases q:k=n
  ·subst q
   simp only [beq_self_eq_true,decide_true]
   exact h1
  ·refine af (show (k==n)=false from beq_eq_false_iff_ne.mpr q) ?_
   refine af (show decide (n=k)=false from decide_eq_false λ z=>q z.symm) ?_
   exact ui h2 k
theorem ow:∀{es:List (aw×V)} {kvs:List (aw×av)},KRel cx h es kvs->kvs.length=es.length
 |[],_,r=>by subst r;rfl
 |(n,u)::es,_,r=>by
  refine cu r λ v kvs' r1_ h1 h2=>?_
  clear r
  subst r1_
  exact af aP (af aP (af (ow h2) rfl))
theorem tB:∀{kvs:List (aw×av)},(kvs.any λ kv=>decide (kv.1=n))=false->(kvs.map λ kv=>if kv.1=n then (kv.1,v) else kv)=kvs
 |[],_=>rfl
 |(m,x)::kvs,q=>by
  rw [kY,zc] at q
  exact af bj (af (tB q.2) (af (if_neg (of_decide_eq_false q.1)) rfl))
theorem yX {kvs:List (aw×av)} (h:n∉kvs.map (·.1)):(kvs.any λ kv=>decide (kv.1=n))=false:=by
 rw [DI]
 intro kv hk
 simp only [decide_eq_true_eq]
 intro q
 exact h (q▸d8 (f:=(·.1)) hk)
theorem pO (rv:VRel cx h u v):∀{es:List (aw×V)} {kvs:List (aw×av)},KRel cx h es kvs->(kvs.map (·.1)).Nodup->KRel cx h (alSet es n u) (DJ kvs n v)
 |[],_,r,_=>by subst r;exact ⟨v,[],rfl,rv,rfl⟩
 |(m,w)::es,_,r,hn=>by
  refine cu r λ x kvs' r1_ h1 h2=>?_
  clear r
  subst r1_
  rw [bj,cc] at hn
  unfold alSet DJ
  by_cases q:n=m
  ·subst q
   refine af (if_pos rfl) (af (if_pos (by simp)) (af bj (af (if_pos rfl) (af (tB (yX hn.1)) ?_))))
   exact ⟨v,kvs',rfl,rv,h2⟩
  ·have q':¬m=n:=λ z=>q z.symm
   refine af (if_neg q) ?_
   have ih:=pO (n:=n) rv h2 hn.2
   unfold DJ at ih
   have e:((m,x)::kvs').any (λ kv=>decide (kv.1=n))=kvs'.any (λ kv=>decide (kv.1=n)):=by
    exact af kY (af (decide_eq_false q') (af (jc _) rfl))
   refine af e ?_
   split
   ·rename_i z
    rw [if_pos z] at ih
    refine af bj (af (if_neg q') ?_)
    exact ⟨x,_,rfl,h1,ih⟩
   ·rename_i z
    rw [if_neg z] at ih
    exact ⟨x,_,rfl,h1,ih⟩
theorem vv {K:Type} [DecidableEq K] {knd:KeyKind prog w K} {h:cM} (e:h.get? a=some (nu [] n)):h.DictOf knd a []:=
 ⟨_,#[],n,e,⟨rfl,rfl,rfl⟩,rfl,λ Z he=>by simp at he,Pairs.nil,ir⟩
theorem B9 (hsys:fo<cx.base.objs.size) (I:cb cx H s.heap) (ru:VRel cx s.heap u a) (rv:VRel cx s.heap v b) (q:inV u v H Q) (k:∀r t,Q r->R (.bool r) {s with toks:=t}):
  aE (ay cx.prog cx.w) A (jJ .In a b) R E s:=by
 refine rj q (λ x e q=>?_) (λ x e q=>?_) (λ Z Z z=>z.elim) (λ Z Z z=>z.elim)<;>subst e
 ·refine bu (cj ru) λ t r1_=>?_
  subst r1_
  refine aL (wK q) λ y e q=>?_
  subst e;cases df rv
  refine sA q (λ Z Z z=>z.elim) (λ Z Z z=>z.elim) (λ f n e q=>?_) (λ Z Z z=>z.elim) (λ e q=>?_) (λ Z Z Z Z z=>z.elim)
  ·exact cI (I.own _ _ e) λ g hm Z o=>(uX (nw cx.prog cx.w _ t) (lT hsys I e) hm (k _ _ (by exact af ((o _).isSome) q)))
  ·exact bu (I.own _ _ e) λ n e'=>(uX (nw cx.prog cx.w _ t) (lT hsys I e) (pe e') (k _ _ q))
 ·refine bu (gQ ru) λ t r1_=>?_
  subst r1_
  refine rj q (λ Z Z z=>z.elim) (λ Z Z z=>z.elim) (λ us e q=>?_) (λ y e q=>?_)<;>subst e
  ·refine aL q λ ss r1_ q2=>?_
   clear q
   subst r1_
   refine cu (fz rv) λ x aB r1_ ht rs=>?_
   subst r1_
   exact in_tuple_strs ht (rF rs) (by refine af (EX _ _) ?_;exact k _ _ q2)
  ·cases df rv
   refine sA q (λ Z Z z=>z.elim) (λ es e q=>?_) (λ Z Z Z z=>z.elim) (λ Z Z z=>z.elim) (λ e q=>?_) (λ Z Z Z Z z=>z.elim)
   ·exact aL (I.own _ _ e) λ kvs hm kr=>(uX (nz cx.prog cx.w _ t) (lT hsys I e) hm.mapOf (k _ _ (by exact af ((ui kr _).isSome) q)))
   ·exact bu (I.own _ _ e) λ n e'=>(uX (nz cx.prog cx.w _ t) (lT hsys I e) (pe e') (k _ _ q))
theorem G8 (ru:VRel cx s.heap u a) (e:isO u=some b):(a==.none)=b:=by
 cases u with
 |none=>cases gn ru;exact ac e
 |bool _=>cases mA ru;exact ac e
 |int _=>obtain ⟨t,rfl⟩:=cj ru;exact ac e
 |str _=>obtain ⟨t,rfl⟩:=gQ ru;exact ac e
 |tuple _=>obtain ⟨x,_,rfl,_⟩:=fz ru;exact ac e
 |ref _=>cases df ru;exact ac e
 |_=>exact (cV e).elim
theorem CG {R:Prop} (ru:VRel cx s.heap u a) (rv:VRel cx s.heap v b) (q:J3 u v Q) (k:b=.none->Q (a==.none)->R):R:=by
 cases v with
 |none=>
  rcases y8 q with ⟨r,e,q⟩|q
  ·exact k (gn rv) (G8 ru e▸q)
  ·exact q.elim
 |_=>exact q.elim
theorem Ee (hsys:fo<cx.base.objs.size) (hu:A.units+100<mH) (I:cb cx H s.heap) (ru:VRel cx s.heap u a) (rv:VRel cx s.heap v b) (q:cmpV op u v H Q)
  (k:∀r t,Q r->R (.bool r) {s with toks:=t}):aE (ay cx.prog cx.w) A (jJ op a b) R E s:=by
 cases op
 ·exact GH hu I ru rv q λ r h=>k r s.toks h
 ·exact Hy hu I ru rv q λ r h=>k r s.toks h
 ·exact lG ru rv q λ x y t t' q e1 e2=>by subst e1 e2;exact lt_int (k _ s.toks q)
 ·exact lG ru rv q λ x y t t' q e1 e2=>by subst e1 e2;exact le_int (k _ s.toks q)
 ·exact lG ru rv q λ x y t t' q e1 e2=>by subst e1 e2;exact gt_int (k _ s.toks q)
 ·exact lG ru rv q λ x y t t' q e1 e2=>by subst e1 e2;exact ge_int (k _ s.toks q)
 ·exact CG (Q:=Q) ru rv q λ e h=>by subst e;exact is_none (k _ s.toks h)
 ·exact CG (Q:=λ b=>Q (!b)) ru rv q λ e h=>by subst e;exact isNot_none (k _ s.toks h)
 ·exact B9 hsys I ru rv q k
 ·exact vG (B9 hsys I ru rv q λ r t h=>⟨r,rfl,k _ t h⟩)
end
structure Good (cx:Cx):Prop where
 X:cx.K.In cx.base
 sys:fo<cx.base.objs.size
 hand:∀f,sQ (cx.addr f)=true
 fld:∀c n,cx.fld c n=true->∃C,cx.addr c=.ref C/\plainGet cx.K C n=true/\uP cx.K C=true/\cR cx.K (.ref C) n=some none/\
  cR cx.K (.ref C) "__setattr__"=some (some (.builtin "object.__setattr__"))/\plainOver cx.K C=true
theorem oG (h:∀l u s p,gj≠.Slice l u s p):pq gj false o i=DK [o,i] (sP o i):=by
 cases gj<;>first|rfl|exact absurd rfl (h _ _ _ _)
section
variable {s:ax} {E:av->ax->Prop}
theorem zZ (G:Good cx) (r:VRel cx h u v):sQ v=true:=by
 cases u with
 |none=>refine af (gn r) ?_;rfl
 |bool b=>refine af (mA r) ?_;rfl
 |int i=>obtain ⟨t,rfl⟩:=cj r;rfl
 |str x=>obtain ⟨t,rfl⟩:=gQ r;rfl
 |bytes b=>obtain ⟨t,rfl,_⟩:=r;rfl
 |fn f=>refine af (yO r) ?_;exact G.hand f
 |ref a=>refine af (df r) ?_;rfl
 |tuple us=>obtain ⟨a,_,rfl,_⟩:=fz r;rfl
 |flist us=>obtain ⟨a,_,rfl,_⟩:=r;rfl
 |range n=>obtain ⟨a,_,_,_,rfl,_⟩:=r;rfl
theorem qv:∀{as:List (aw×V)} {es:List fU} {n:aw} {u:V},ARel cx s.heap as es->as.lookup n=some u->∃v,Ff n es=some (some v)/\VRel cx s.heap u v
 |[],_,_,_,_,e=>by cases e
 |(m,w)::as,es,n,u,r,e=>by
  refine kf r λ e0 es' t r1_ hk hv hr=>?_
  clear r
  subst r1_
  unfold Ff
  refine af (js) ?_
  have hs:e0.key.isStr n=(m==n):=by refine af hk ?_;rfl
  rw [aG] at e
  by_cases q:n=m
  ·subst q
   simp only [beq_self_eq_true] at e
   (have e:=ac e;subst e)
   refine af hs (af (beq_self_eq_true _) ?_)
   exact ⟨_,rfl,hv⟩
  ·have q1:(n==m)=false:=beq_eq_false_iff_ne.mpr q
   have q2:(m==n)=false:=beq_eq_false_iff_ne.mpr λ z=>q z.symm
   rw [q1] at e
   refine af hs (af q2 ?_)
   refine aL (qv hr e) λ v g rv=>⟨v,?_,rv⟩
   have hrk:e0.refKey=false:=by unfold xU;(exact af hk rfl)
   refine af kY (af hrk (af (jc _) ?_))
   exact g
theorem o8:∀{as:List (aw×V)} {es:List fU} {n:aw},ARel cx s.heap as es->as.lookup n=none->Ff n es=some none
 |[],_,_,r,_=>by subst r;rfl
 |(m,w)::as,es,n,r,e=>by
  refine kf r λ e0 es' t r1_ hk hv hr=>?_
  subst r1_
  unfold Ff
  refine af (js) ?_
  have hs:e0.key.isStr n=(m==n):=by refine af hk ?_;rfl
  rw [aG] at e
  by_cases q:n=m
  ·subst q;simp at e
  ·have q1:(n==m)=false:=beq_eq_false_iff_ne.mpr q
   have q2:(m==n)=false:=beq_eq_false_iff_ne.mpr λ z=>q z.symm
   rw [q1] at e
   refine af hs (af q2 ?_)
   have g:=o8 hr e
   have hrk:e0.refKey=false:=by unfold xU;(exact af hk rfl)
   refine af kY (af hrk (af (jc _) ?_))
   exact g
theorem vm (rv:VRel cx h u v):∀{as:List (aw×V)} {es:List fU},ARel cx h as es->ARel cx h (alSet as n u) (putL n hsh (.str n t) v es)
 |[],_,r=>by subst r;unfold alSet putL ARel;exact ⟨_,_,t,rfl,rfl,rv,rfl⟩
 |(m,w)::as,es,r=>by
  refine kf r λ e0 es' t' r1_ hk hv hr=>?_
  clear r
  subst r1_
  have hs:e0.key.isStr n=(m==n):=by refine af hk ?_;rfl
  unfold alSet putL
  by_cases q:n=m
  ·subst q
   refine af hs (af (if_pos rfl) (af (if_pos (by simp)) ?_))
   exact ⟨_,_,t',rfl,hk,rv,hr⟩
  ·have q2:(m==n)=false:=beq_eq_false_iff_ne.mpr λ z=>q z.symm
   refine af hs (af q2 (af (if_neg q) (af (if_neg (by decide)) ?_)))
   exact ⟨_,_,t',rfl,hk,hv,vm rv hr⟩
theorem vZ:∀{as:List (aw×V)} {es:List fU},ARel cx s.heap as es->es.length=as.length
 |[],_,r=>by subst r;rfl
 |(m,w)::as,es,r=>by
  refine kf r λ e0 es' t r1_ hk hv hr=>?_
  clear r
  subst r1_
  exact af aP (af aP (af (vZ hr) rfl))
theorem vN (n:aw) (h:Int) (k v:av):∀es:List fU,(putL n h k v es).length<=es.length+1
 |[]=>bW _
 |e::r=>by
  unfold putL
  split
  ·simp
  ·refine af aP (af aP ?_);exact cw (vN n h k v r)
theorem tX:∀{as:List (aw×V)} {n:aw} {u:V} {p:aw×V},p∈alSet as n u->p.1=n\/p∈as
 |[],n,u,p,h=>by unfold alSet at h;simp at h;exact .inl (by (exact af h rfl))
 |(m,w)::as,n,u,p,h=>by
  unfold alSet at h
  split at h
  ·rename_i q
   rcases aY.mp h with e|h
   ·exact .inl (by (exact af e (af q rfl)))
   ·exact .inr (.tail _ h)
  ·rcases aY.mp h with e|h
   ·exact .inr (by refine af e ?_;exact .head _)
   ·exact (tX h).imp id λ q=>.tail _ q
theorem o5 (I:cb cx H s.heap) (e1:s.heap.get? a=some (kS C d)) (e2:s.heap.get? d=some (nu es n)):InstAt s.heap a (kS C d) C (some (nu es n)):=⟨e1,rfl,rfl,e2⟩
theorem p9:∀{as:List (aw×V)} {n:aw} {w:V},as.lookup n=some w->(n,w)∈as
 |[],_,_,h=>(cV h).elim
 |(m,x)::r,n,w,h=>by
  rw [aG] at h
  by_cases z:n=m
  ·subst z
   rw [beq_self_eq_true] at h
   cases ac h;exact .head _
  ·rw [show (n==m)=false from beq_eq_false_iff_ne.mpr z] at h
   exact .tail _ (p9 h)
theorem vf (G:Good cx) (I:cb cx H s.heap) (ru:VRel cx s.heap u o) (q:rc u n H Q):aE (ay cx.prog cx.w) A (getAttr o n b) (bN cx H s Q) E s:=by
 refine aL (wK q) λ a e q=>?_
 subst e;cases df ru
 refine iF (Jq q) λ c d as t1_=>(bw t1_ λ e q=>?_)
 refine aL (p8 q) λ w hw q=>(uf (I.own _ _ e) λ C es k hC h1 h2 hr hf=>(fy (G.fld c n (hf _ (p9 hw))) λ C' hC' g1 g2 t1_=>(gJ t1_ λ g3 g4 g5=>?_)))
 clear t1_
 cases se (hC.symm.trans hC')
 exact aL (qv hr hw) λ v hl rv=>(get_value (G.X.keeps I.base) (o5 I h1 h2) (plainGet_of g1).1 (findObj_own g2 g3 rfl (by exact af (lookIn_dict _ _ _) hl)) (zZ G rv) (bN.tok I rv q))
end
namespace gI
def S_ (cx H s A L n x Q P):=∀{E:av->ax->Prop} {u:V} {w:V} {o:av} (G:Good cx) (lk:uK cx H s.heap L) (I:cb cx H s.heap) (ru:VRel cx s.heap u o) (rw_:VRel cx s.heap w x) (q:setattrV cx.fld u n w H Q),aE (ay cx.prog cx.w) A (Ir o n x) (λ Z s'=>mT cx P H s Q s') E s
def U_:=UV λ cx H s=>UV λ A L n=>UU λ x=>UU λ Q=>S_ cx H s A L n x Q
def t_:=dr (by have:=qf;have:=p5;have:=ti;infer_instance) U_
def cx:=t_.1
def H:=t_.2.1
def s:=t_.2.2.1
def A:=t_.2.2.2.1
def L:=t_.2.2.2.2.1
def n:=t_.2.2.2.2.2.1
def s1_:=t_.2.2.2.2.2.2
def x:=s1_.1
def Q:=s1_.2.1
def P:=s1_.2.2
theorem P_:S_ cx H s A L n x Q P:=by
 intro E u w o G lk I ru rw_ q
 refine aL (wK q) λ a e q=>?_
 subst e;cases df ru
 refine iF (Jq q) λ c d as t1_=>(bw t1_ λ e q=>?_)
 clear t1_
 refine bu lk.ns λ m nL=>(uf (I.own _ _ e) λ C es k hC h1 h2 hr hf=>(fy (G.fld c n (kJ q).1) λ C' hC' g1 g2 t1_=>(gJ t1_ λ g3 g4 g5=>?_)))
 clear t1_
 cases se (hC.symm.trans hC')
 have hd0:cx.base.get? d=none:=dN (I.old d (jC e))
 have hdL:d≠L:=λ z=>jC e (z▸lk.free)
 refine set_dict (F:=wc I lk nL) (X₀:=G.X) (N:=lb) (o5 I h1 h2) rfl g4 g5 (by unfold takerIn;refine af g3 ?_;rfl) g2 ?_ rfl (pM gd (fN.mpr ⟨h2,hdL,hd0⟩)) ?_ λ h' F' N'=>?_
 ·cases hq:as.lookup n with
  |none=>refine af (o8 hr hq) ?_;rfl
  |some w'=>obtain ⟨v,hl,_⟩:=qv hr hq;refine af hl ?_;rfl
 ·refine ao (vN _ _ _ _ _) ?_
  refine af (vZ hr) ?_
  have:=aO (kJ (kJ q).2).1
  exact fE ‹_› (by decide)
 ·
  have all:∀b ob,b≠L->b≠d->s.heap.get? b=some ob->h'.get? b=some ob:=λ b ob n1 n2 eb=>by
   cases z:cx.base.get? b with
   |some o'=>
    have:=I.base b o' z
    rw [eb] at this;(have this:=ac this;subst this)
    exact F'.keep b _ z
   |none=>
    refine (N' (b,ob) ?_).1
    refine bC.mpr ⟨(b,ob),fN.mpr ⟨eb,n1,z⟩,?_⟩
    exact af (if_neg n2) rfl
  have hd':h'.get? d=some (nu (putL n (PyData.keyHash cx.w.params n) (.str n (s.toks+1)) x es) (putN n es k)):=by
   refine (N' (d,_) (bC.mpr ⟨(d,nu es k),fN.mpr ⟨h2,hdL,hd0⟩,?_⟩)).1
   exact af (if_pos rfl) rfl
  have nsL:∀m',s.heap.Ns L m'->h'.Ns L m':=λ m' e'=>by
   refine kf e' λ o1 es1 ep1 g1' d1 k1 f1=>?_
   refine kf nL λ o2 es2 ep2 g2' d2 k2 f2=>?_
   rw [g1'] at g2';(have g2':=ac g2';subst g2')
   rw [d1] at d2;cases d2
   have:m'=m:=funext λ x=>(f1 x).symm.trans (f2 x)
   exact af this F'.ns
  have hLimm:∀ob,s.heap.get? L=some ob->¬tF ob/\∀v,ob.data≠.cell v:=λ ob eo=>kj nL eo
  have hdimm:¬tF (nu es k):=by rintro (⟨_,_,z,_⟩|⟨_,z,_⟩)<;>exact gi z rfl
  have ki:bP s.heap h':=λ b ob eb im=>all b ob (λ z=>by subst z;exact (hLimm _ eb).1 im) (λ z=>by subst z;rw [h2] at eb;(have eb:=ac eb;subst eb);exact hdimm im) eb
  have ns':∀b m',s.heap.Ns b m'->ci H b->h'.Ns b m':=λ b m' eb fb=>by
   by_cases z:b=L
   ·subst z;exact nsL m' eb
   ·refine iF eb λ ob es0 ep0 t1_=>(bw t1_ λ e0 r0=>?_)
    exact ⟨ob,es0,ep0,all b ob z (λ z2=>jC e (z2▸fb)) e0,r0⟩
  have st:bb P H s.heap H h':=⟨ki,λ b m' eb fb Z=>ns' b m' eb fb,λ b v eb Z=>by
    refine aL eb λ ob e0 e1=>?_
    clear eb
    exact ⟨ob,all b ob (λ z=>by subst z;exact (hLimm _ e0).2 _ e1) (λ z=>by subst z;rw [h2] at e0;(have e0:=ac e0;subst e0);exact gi e1 rfl) e0,e1⟩,λ b m' eb fb=>⟨m',ns' b m' eb fb⟩,λ Z p z=>absurd p z,λ b ob eb=>by
    by_cases z:b=L
    ·subst z;exact gy (nsL _ nL)
    by_cases z2:b=d
    ·subst z2;exact ⟨_,hd'⟩
    ·exact ⟨ob,all b ob z z2 eb⟩,λ b ob eb kq Z Z=>by
    refine iZ nL λ o' es0 ep0 e' d' Z=>?_
    exact all b ob (λ z=>by subst z;rw [eb] at e';(have e':=ac e';subst e');exact kq.no_dict.1 _ _ d') (λ z=>by subst z;rw [h2] at eb;(have eb:=ac eb;subst eb);exact kq.no_dict.1 _ _ rfl) eb⟩
  have hdir:=I.sep _ _ _ _ e
  refine ⟨H.set a (.inst c d (alSet as n w)),(kJ (kJ q).2).2,?_,st.same e ⟨rfl,rfl⟩,rfl,rfl,rfl⟩
  refine I.upd e ⟨rfl,rfl⟩ ki (λ b ob eb=>F'.keep b ob eb) (λ b nb n1 n2=>?_) ?_
  ·refine bu (I.at nb) λ ob eb=>?_
   refine af eb ?_
   refine all b ob (λ z=>nb (z▸lk.free)) (λ z=>n2 c as (by (exact af z rfl))) eb
  ·have had:a≠d:=λ z=>by rw [<-z,e] at hdir;exact b7 hdir.1
   refine ⟨C,_,_,hC,all a _ (λ z=>fq e (z▸lk.free)) had h1,hd',vm (VRel.mono ki _ rw_) (hr.mono ki),λ p hp=>?_⟩
   rcases tX hp with z|z
   ·refine af z ?_;exact (kJ q).1
   ·exact hf p z
theorem A_:∀p,U_ p:=bB P_
end gI
section
variable {cx:Cx}
theorem gI {cx H s A L n x Q P}:gI.S_ cx H s A L n x Q P:=gI.A_ (cx,H,s,A,L,n,x,Q,P)
end
section
variable {s:ax} {E:av->ax->Prop}
theorem tH (ru:VRel cx s.heap u v) (e:truthV H u=some b) (q:Q b s):aE (ay cx.prog cx.w) A (truthy v) Q E s:=by
 cases u with
 |none=>cases ac e;refine af (gn ru) ?_;exact truthy_none q
 |bool _=>cases ac e;refine af (mA ru) ?_;exact Iu q
 |int i=>
  refine bu (cj ru) λ t r1_=>?_
  subst r1_
  have:(i !=0)=b:=by
   cases ac e
   by_cases h:i=0
   ·subst h;rfl
   ·refine af (decide_eq_true h) ?_;exact bne_iff_ne.mpr h
  exact truthy_int (by rw [this];exact q)
 |_=>exact (cV e).elim
theorem th:∀{k:List Int} {vs:List av},VRels cx s.heap (k.map V.int) vs->ItemsAre (f8 cx.prog cx.w) k vs
 |[],_,r=>by have:=r.nil_inv;subst this;exact .nil
 |x::k,_,r=>by
  refine cu r.cons_inv λ v vs' r1_ r1 r2=>?_
  subst r1_
  refine bu (cj r1) λ t r1_=>?_
  subst r1_
  exact .cons (nw cx.prog cx.w x t) (th r2)
theorem mv (r:VRel cx s.heap (.tuple (k.map V.int)) v):∃a,v=.ref a/\lu (f8 cx.prog cx.w) s.heap k a:=by
 refine cu (fz r) λ a aB r1_ w2_ rs=>?_
 subst r1_
 refine cI w2_ λ o ho hc t1_=>(bu t1_ λ n hd=>?_)
 exact ⟨a,rfl,o,aB,n,ho,hc,hd,th rs⟩
theorem rT:∀{es:List (List Int×V)} {xs:List (List Int×aI×av)} {u:V},TRel cx h es xs->es.lookup k=some u->∃p,atKey xs k=some p/\VRel cx h u p.2
 |[],_,_,_,e=>by cases e
 |(k',u')::es,xs,u,r,e=>by
  refine kf r λ a v xs' r1_ hk hv hr=>?_
  clear r
  subst r1_
  rw [aG] at e
  by_cases q:k=k'
  ·subst q
   simp only [beq_self_eq_true] at e
   (have e:=ac e;subst e)
   exact ⟨(a,v),by simp [atKey],hv⟩
  ·rw [show (k==k')=false from beq_eq_false_iff_ne.mpr q] at e
   refine aL (rT hr e) λ p h1 h2=>⟨p,?_,h2⟩
   unfold atKey at h1⊢
   rw [js,show decide (k'=k)=false from decide_eq_false λ z=>q z.symm]
   exact h1
theorem pc:∀{es:List (List Int×V)} {xs:List (List Int×aI×av)},TRel cx h es xs->es.lookup k=none->atKey xs k=none
 |[],xs,r,_=>by subst r;rfl
 |(k',u')::es,xs,r,e=>by
  refine kf r λ a v xs' r1_ hk hv hr=>?_
  clear r
  subst r1_
  rw [aG] at e
  by_cases q:k=k'
  ·subst q;simp at e
  ·rw [show (k==k')=false from beq_eq_false_iff_ne.mpr q] at e
   have h1:=pc hr e
   unfold atKey at h1⊢
   rw [js,show decide (k'=k)=false from decide_eq_false λ z=>q z.symm]
   exact h1
theorem rz (hk:lu (f8 cx.prog cx.w) h k a) (hv:VRel cx h u v):∀{es:List (List Int×V)} {xs:List (List Int×aI×av)},TRel cx h es xs->TRel cx h (es++[(k,u)]) (xs++[(k,a,v)])
 |[],xs,r=>by subst r;exact ⟨a,v,[],rfl,hk,hv,rfl⟩
 |(k',u')::es,xs,r=>by
  refine kf r λ a' v' xs' r1_ hk' hv' hr=>?_
  clear r
  subst r1_
  exact ⟨a',v',_,rfl,hk',hv',rz hk hv hr⟩
theorem qD:∀{es:List (List Int×V)} {xs:List (List Int×aI×av)},TRel cx h es xs->xs.length=es.length
 |[],xs,r=>by subst r;rfl
 |(k',u')::es,xs,r=>by
  refine kf r λ a' v' xs' r1_ hk' hv' hr=>?_
  clear r
  subst r1_
  exact af aP (af aP (af (qD hr) rfl))
theorem xI (b:List Int):w9 b=(b.map λ n=>n.toNat.toUInt8).toArray:=rfl
theorem tO (h:0<=x/\x<256):((x.toNat.toUInt8).toNat:Int)=x:=by
 have h1:x.toNat<256:=by lia
 have:(x.toNat.toUInt8).toNat=x.toNat:=by
  refine af UInt8.toNat_ofNat' ?_
  exact Nat.mod_eq_of_lt h1
 refine af this ?_;lia
theorem wb (sp:pq gj false (.ref a) (.int k t)=DK [.ref a,.int k t] (sP (.ref a) (.int k t))) (I:cb cx H s.heap) (hl:s.heap.IsList a aB) (rs:VRels cx s.heap l aB.toList) (q:w8 (ix l k) λ u=>Q u H):
  aE (ay cx.prog cx.w) A (mr value gj (.ref a) (.int k t)) (bN cx H s Q) E s:=by
 exact aL (p8 q) λ w0 hx q=>(nX (Jz hx) λ h0 h1 h2 hx=>(aL (rs.get hx) λ w hw rw_=>(sR hl.typeIs slot_list_getitem.lookup (wpAny_getItem_list hl h0 (eT ‹_› (by decide)) (by exact af (iP (cU)) hw) (bN.here I rw_ q)) sp)))
theorem Kw {k:Int} {n:Nat} (h0:0<=k) (h1:k<n):seqIndex? k n=some k.toNat:=by
 unfold seqIndex?
 refine af (if_neg (dI.mpr h0)) ?_
 exact if_pos (by simp [h0,h1])
end
namespace nZ
def S_ (cx H s A E value gj Q):=∀{u:V} {i:V} {o:av} {x:av} (hs:∀l u s p,gj≠.Slice l u s p) (hu:A.units+100<mH) (I:cb cx H s.heap) (ru:VRel cx s.heap u o) (ri:VRel cx s.heap i x) (q:subV u i H Q),aE (ay cx.prog cx.w) A (mr value gj o x) (bN cx H s Q) E s
def U_:=UV λ cx H s=>UV λ A E value=>UU λ gj=>S_ cx H s A E value gj
def t_:=dr (by have:=qf;have:=p5;have:=ti;infer_instance) U_
def cx:=t_.1
def H:=t_.2.1
def s:=t_.2.2.1
def A:=t_.2.2.2.1
def E:=t_.2.2.2.2.1
def value:=t_.2.2.2.2.2.1
def s1_:=t_.2.2.2.2.2.2
def gj:=s1_.1
def Q:=s1_.2
theorem P_:S_ cx H s A E value gj Q:=by
 intro u i o x hs hu I ru ri q
 have sp:=oG (o:=o) (i:=x) hs
 cases u with
 |tuple us=>
  refine aL (qK q) λ k r1_ q1=>?_
  subst r1_
  refine bu (cj ri) λ t r1_=>?_
  subst r1_
  refine cu (fz ru) λ a aB r1_ ht rs=>?_
  subst r1_
  refine aL (p8 q1) λ w0 hx q1=>(nX (Jz hx) λ h0 h1 h2 hx=>(aL (rs.get hx) λ w hw rw_=>?_))
  have hl:aB.size=us.length:=rs.len
  exact sR ht.typeIs lx.lookup (PyProof.Rows.getItem_tuple (j:=k.toNat) ht (by lia) (eT ‹_› (by decide)) (Kw h0 (by exact af hl h1)) (by exact af (iP (cU)) hw) (bN.here I rw_ q1)) sp
 |flist us=>
  refine aL (qK q) λ k r1_ q1=>?_
  subst r1_
  refine bu (cj ri) λ t r1_=>?_
  subst r1_
  refine cu (FR ru) λ a aB r1_ w2_ rs=>?_
  subst r1_
  refine aL w2_ λ ob ho hr=>?_
  exact wb sp I ⟨ob,I.base _ _ ho,hr⟩ rs q1
 |bytes b=>
  refine cI (qK q) λ k r1_ w2_ q1=>?_
  subst r1_
  refine gJ w2_ λ h0 h1 h2=>?_
  refine bu (cj ri) λ t r1_=>?_
  subst r1_
  refine aL ru λ t' r1_ hb=>?_
  clear ru
  subst r1_
  refine sR (typeIs_bytes s _ t') FB.slot_bytes_getitem.lookup (getItem_bytes (by refine af (ag _) ?_;exact ao ‹_› (by decide)) h0 (by exact af (ag _) h1) ?_) sp
  have hlt:k.toNat<b.length:=by lia
  have e:(((b.map λ n:Int=>n.toNat.toUInt8).getD k.toNat 0).toNat:Int)=b.getD k.toNat 0:=by
   refine af (aJ) (af (aF) (af (aJ) (af (an hlt) ?_)))
   exact tO (hb _ (List.getElem_mem hlt))
  refine af e ?_
  exact bN.tok I dq q1
 |ref a=>
  cases df ru
  refine rj q (λ k e q=>?_) (λ k e q=>?_) (λ k e q=>?_) (λ Z Z z=>z.elim)<;>subst e
  ·refine bu (cj ri) λ t r1_=>?_
   subst r1_
   refine sA q (λ us e q=>?_) (λ Z Z z=>z.elim) (λ f n e q=>?_) (λ Z Z z=>z.elim) (λ Z z=>z.elim) (λ Z Z Z Z z=>z.elim)
   ·exact fZ (I.own _ _ e) λ aB n ho rs=>(wb sp I ⟨_,ho,rfl,n,rfl⟩ rs q)
   ·exact cI (I.own _ _ e) λ g hm Z o=>(aL (p8 q) λ w hw q=>(aL (OR.some (hw▸o k)) λ v hv rv=>(sR hm.typeIs sS.lookup (wpAny_getItem_of (nw cx.prog cx.w k t) hm hv (bN.tok I rv q)) sp)))
  ·refine bu (gQ ri) λ t r1_=>?_
   subst r1_
   refine sA q (λ Z Z z=>z.elim) (λ es e q=>?_) (λ Z Z Z z=>z.elim) (λ Z Z z=>z.elim) (λ Z z=>z.elim) (λ Z Z Z Z z=>z.elim)
   exact aL (I.own _ _ e) λ kvs hm kr=>(aL (p8 q) λ w hw q=>(aL (OR.some (hw▸ui kr k)) λ v hv rv=>(sR hm.typeIs sS.lookup (wpAny_getItem_of (nz cx.prog cx.w k t) hm.mapOf hv (bN.tok I rv q)) sp)))
  ·refine sA q (λ Z Z z=>z.elim) (λ Z Z z=>z.elim) (λ Z Z Z z=>z.elim) (λ es e q=>?_) (λ Z z=>z.elim) (λ Z Z Z Z z=>z.elim)
   refine aL q λ kk r1_ q1=>?_
   clear q
   subst r1_
   refine aL (I.own _ _ e) λ xs hm tr=>(aL (mv ri) λ c r1_ hk=>?_)
   subst r1_
   exact aL (p8 q1) λ w hw q1=>(aL (rT tr hw) λ p hp rv=>(sR hm.typeIs sS.lookup (wpAny_getItem_heap (ly (by lia)) hk hm hp (bN.tok I rv q1)) sp))
 |_=>exact q.elim
theorem A_:∀p,U_ p:=bB P_
end nZ
section
variable {cx:Cx}
theorem nZ {cx H s A E value gj Q}:nZ.S_ cx H s A E value gj Q:=nZ.A_ (cx,H,s,A,E,value,gj,Q)
end
section
variable {E:av->ax->Prop}
theorem yR {a b:Nat} (h:a<=b):ed (a:Int) (b:Int) 1=b -a:=by
 show (if (a:Int)<b then ((b:Int) -a -1)/1+1 else 0).toNat=_
 refine af (Int.ediv_one _) ?_
 split<;>lia
theorem FY {n:Nat} (h:0<=k):(if k<0 then max (k+(n:Int)) 0 else min k (n:Int))=((min k.toNat n:Nat):Int):=by
 rw [if_neg (dI.mpr h)];exact IG n h
theorem Dt (k:Int) (n:Nat) (h:0<=k):(bk (some k) none 1 (n:Int)).1=((min k.toNat n:Nat):Int)/\
  ed (bk (some k) none 1 (n:Int)).1 (bk (some k) none 1 (n:Int)).2 1=n -min k.toNat n:=by
 have e:bk (some k) none 1 (n:Int)=(((min k.toNat n:Nat):Int),(n:Int)):=congrArg (·,(n:Int)) (FY h)
 rw [e]
 exact ⟨rfl,yR (dG ..)⟩
theorem Cd (k:Int) (n:Nat) (h:0<=k):(bk none (some k) 1 (n:Int)).1=((0:Nat):Int)/\
  ed (bk none (some k) 1 (n:Int)).1 (bk none (some k) 1 (n:Int)).2 1=min k.toNat n:=by
 have e:bk none (some k) 1 (n:Int)=(((0:Nat):Int),((min k.toNat n:Nat):Int)):=congrArg (((0:Nat):Int),·) (FY h)
 rw [e]
 exact ⟨rfl,yR (cS _)⟩
section
variable {u lo hi:V}
abbrev xz (s:ax) (vl vu:av):cM:=s.heap.push {cls:=.type "slice",data:=.fields #[vl,vu,.none]}
theorem kE:∀b ob,s.heap.get? b=some ob->(xz s vl vu).get? b=some ob:=λ Z Z e=>ak _ e
theorem E2 (I:cb cx H s.heap) (ht:ja s.heap a aB) (rs:VRels cx s.heap us aB.toList) (rl:VRel cx s.heap lo vl) (rh:VRel cx s.heap hi vu) (hc:cutV us lo hi=some vs) (hz:us.length<=bE) (q:Q (.tuple vs) H)
  (hs:∀o i,pq gj false o i=DK [i,o] (sP o i)) (hg:∀o r,lz value o r=pure ()):
  aE (ay cx.prog cx.w) A (mr value gj (.ref a) (.ref s.heap.objs.size)) (bN cx H s Q) E {s with heap:=xz s vl vu}:=by
 have ht':ja (xz s vl vu) a aB:=ht.keeps kE
 have hlen:aB.size=us.length:=rs.len
 refine sU (s:={s with heap:=xz s vl vu}) ht'.typeIs lx.lookup ?_ (hs _ _) (hg _)
 have same:us=vs->bN cx H s Q (.ref a) {s with heap:=xz s vl vu}:=λ e=>by
  subst e
  exact bN.priv (t:=s.toks) I kE (jD ht' (VRels.mono (bP.of_keeps kE) _ rs)) q
 have aX:∀(its:List av),VRels cx s.heap vs its->bN cx H s Q (.ref (xz s vl vu).objs.size) {s with heap:=(xz s vl vu).push {cls:=.type "tuple",data:=.seq its.toArray}}:=λ its r=>
  have kp2:∀b ob,s.heap.get? b=some ob->((xz s vl vu).push {cls:=.type "tuple",data:=.seq its.toArray}).get? b=some ob:=λ b ob e=>ak _ (kE b ob e)
  bN.priv (t:=s.toks) I kp2 (jD (aB:=its.toArray) ⟨_,bt _ rfl,rfl,0,rfl⟩ (VRels.mono (bP.of_keeps kp2) _ r)) q
 rcases B6 hc with ⟨k,e1,e2,hk,e⟩|⟨k,e1,e2,hk,e⟩<;>subst e1 e2
 ·refine bu (cj rl) λ t r1_=>?_
  subst r1_
  cases gn rh
  refine bw (Dt k aB.size hk) λ e1 e2=>(dh (a:=some k) (b:=none) ht' (iQ _ _ _ _) (λ h=>slicePart_int h) (λ h=>xT h) e1 e2 (by exact af hlen hz) (λ h1 h2=>same ?_) ?_)
  ·refine af e.symm (af (iP (kmk_drop_min _ _)) (af hlen.symm (af h1 ?_)));rfl
  ·refine aX _ ?_
   rw [iu (by (refine af ek (af jr ?_));exact bW _),<-jr,kmk_drop_min,<-e]
   exact rs.drop _
 ·refine bu (cj rh) λ t r1_=>?_
  subst r1_
  cases gn rl
  refine bw (Cd k aB.size hk) λ e1 e2=>(dh (a:=none) (b:=some k) ht' (iQ _ _ _ _) (λ h=>xT h) (λ h=>slicePart_int h) e1 e2 (by exact af hlen hz) (λ h1 h2=>same ?_) ?_)
  ·exact af e.symm (af (iP (kmk_take_min _ _)) (af hlen.symm (af h2 (af hlen (af c7 rfl)))))
  ·refine aX _ ?_
   refine af t8 (af jr.symm (af (kmk_take_min _ _) (af e.symm ?_)))
   exact rs.take _
theorem BM (lk:uK cx H s.heap L) (I:cb cx H s.heap) (ho:s.heap.get? a=some {cls:=.type "list",data:=.seq aB n}) (rs:VRels cx s.heap us aB.toList) (rl:VRel cx s.heap lo vl) (rh:VRel cx s.heap hi vu) (hc:cutV us lo hi=some vs) (hz:us.length<=bE)
  (q:∀c,H c=none->Q (.ref c) (H.set c (.list vs))) (hs:∀o i,pq gj false o i=DK [i,o] (sP o i)) (hg:∀o r,lz value o r=pure ()):
  aE (ay cx.prog cx.w) A (mr value gj (.ref a) (.ref s.heap.objs.size)) (bN cx H s Q) E {s with heap:=xz s vl vu}:=by
 have hlen:aB.size=us.length:=rs.len
 have hl:s.heap.IsList a aB:=⟨_,ho,rfl,n,rfl⟩
 have fe:∀l,VRels cx s.heap vs l.toList->bN cx H s Q (.ref (xz s vl vu).objs.size) {s with heap:=(xz s vl vu).push {cls:=.type "list",data:=.seq l}}:=λ l r=>
  have kp2:∀b ob,s.heap.get? b=some ob->((xz s vl vu).push {cls:=.type "list",data:=.seq l}).get? b=some ob:=λ b ob e=>ak _ (kE b ob e)
  bN.new (t:=s.toks) (mo:=.list vs) I (by refine af (eE _ _) ?_;exact cK lk.le) kp2 (dN (by refine af (eE _ _) ?_;exact Bj _)) (λ Z Z Z e=>by cases e) ⟨_,0,bt _ rfl,VRels.mono (bP.of_keeps kp2) _ r⟩ q
 rcases B6 hc with ⟨k,e1,e2,hk,e⟩|⟨k,e1,e2,hk,e⟩<;>subst e1 e2
 ·refine bu (cj rl) λ t r1_=>?_
  subst r1_
  cases gn rh
  refine sU (s:={s with heap:=xz s (.int k t) .none}) (uQ (hl.push _)) Gu (Bk (hl.push _) (iQ ..) (.int k t) .none .none (by simp) (fe (slicePick aB (some k) none none) ?_) (by exact af hlen hz)) (hs _ _) (hg _)
  have:=slicePick_from' aB k.toNat
  rw [jM hk] at this
  refine af this (af e.symm ?_)
  exact rs.drop _
 ·refine bu (cj rh) λ t r1_=>?_
  subst r1_
  cases gn rl
  refine sU (s:={s with heap:=xz s .none (.int k t)}) (uQ (hl.push _)) Gu (Bk (hl.push _) (iQ ..) .none (.int k t) .none (by simp) (fe (slicePick aB none (some k) none) ?_) (by exact af hlen hz)) (hs _ _) (hg _)
  have:=slicePick_upto' aB k.toNat
  rw [jM hk] at this
  refine af this (af e.symm ?_)
  exact rs.take _
theorem Ev (lk:uK cx H s.heap L) (I:cb cx H s.heap) (ru:VRel cx s.heap u o) (rl:VRel cx s.heap lo vl) (rh:VRel cx s.heap hi vu) (q:slcV u lo hi H Q)
  (hs:∀o i,pq gj false o i=DK [i,o] (sP o i)) (hg:∀o r,lz value o r=pure ()):
  aE (ay cx.prog cx.w) A (mr value gj o (.ref s.heap.objs.size)) (bN cx H s Q) E {s with heap:=xz s vl vu}:=by
 refine rj q (λ Z Z z=>z.elim) (λ Z Z z=>z.elim) (λ us e q=>?_) (λ a e q=>?_)<;>subst e
 ·refine cu (fz ru) λ a aB r1_ ht rs=>?_
  subst r1_
  exact cI (rW q) λ vs hc hz q=>(E2 I ht rs rl rh hc hz q hs hg)
 ·cases df ru
  exact aL (Ho q) λ us e q=>(fZ (I.own _ _ e) λ aB n ho rs=>(cI (rW q) λ vs hc hz q=>(BM lk I ho rs rl rh hc hz q hs hg)))
end
theorem hJ (I:cb cx H s.heap) (e:H a=some mo) (hn:∀c d as,mo≠.inst c d as) (hn':∀c d as,mo'≠.inst c d as)
  (ho:s.heap.get? a=some o) (hi:¬tF o) (hc:∀v,o.data≠.cell v) (ho':h'.get? a=some o') (hs:dk a s.heap h') (r:ORel cx h' a mo') (q:Q (H.set a mo')):mT cx P H s Q {s with heap:=h',toks:=t}:=by
 have hk:SameKind mo mo':=by
  cases mo<;>cases mo'<;>first|trivial|exact absurd rfl (hn _ _ _)|exact absurd rfl (hn' _ _ _)
 have ki:=bP.but ho hi hs
 refine ⟨_,q,I.upd e hk ki (λ b ob eb=>?_) (λ b nb n1 n2=>hs.2 b n1) r,(bb.but ho hi hc (fq e) ho' hs).same e hk,rfl,rfl,rfl⟩
 by_cases z:b=a
 ·subst z
  exact absurd (bx eb) (du.mpr (I.old _ (fq e)))
 ·refine af (hs.2 b z) ?_;exact I.base b ob eb
theorem ge {K:Type} [DecidableEq K] {knd:KeyKind prog w K} {h:cM} {f} (m:h.MapOf knd a f):∃o,h.get? a=some o/\¬tF o/\∀v,o.data≠.cell v:=by
 refine kf m λ o es ep ho hx hd Z=>?_
 refine ⟨o,ho,?_,λ v z=>by rw [hd] at z;exact gi z rfl⟩
 rintro (⟨_,_,z,_⟩|⟨_,z,_⟩)<;>(rw [hd] at z;exact gi z rfl)
theorem ln {K:Type} [DecidableEq K] {knd:HeapKind prog w K} {h:cM} {xs} (m:h.DictOfH knd a xs):∃o,h.get? a=some o/\¬tF o/\∀v,o.data≠.cell v:=by
 refine kf m λ o es ep ho hx hd Z=>?_
 refine ⟨o,ho,?_,λ v z=>by rw [hd] at z;exact gi z rfl⟩
 rintro (⟨_,_,z,_⟩|⟨_,z,_⟩)<;>(rw [hd] at z;exact gi z rfl)
theorem uv {K:Type} [DecidableEq K] {knd:KeyKind prog w K} {h:cM} {kvs:List (K×av)} (m:h.DictOf knd a kvs):(kvs.map (·.1)).Nodup:=Exists.elim m λ Z m=>m.elim λ Z m=>m.elim λ Z m=>m.2.2.2.2.2
theorem BW {K:Type} [DecidableEq K] {f:K->Option V} {g:K->Option av} {k:K} (ki:bP h h') (o:∀y,OR cx h (f y) (g y)) (r:VRel cx h w x):∀y,OR cx h' (if y=k then some w else f y) (if y=k then some x else g y):=λ y=>by
 split
 ·exact VRel.mono ki _ r
 ·exact (o y).mono ki
end
namespace iY
def S_ (cx H s A w Q P):=∀{E:av->ax->Prop} {u:V} {i:V} {o:av} {k:av} {x:av} (hu:A.units+100<mH) (I:cb cx H s.heap) (ru:VRel cx s.heap u o) (ri:VRel cx s.heap i k) (rw_:VRel cx s.heap w x) (q:eH u i w H Q),aE (ay cx.prog cx.w) A (setItem o k x) (λ Z s'=>mT cx P H s Q s') E s
def U_:=UV λ cx H s=>UV λ A w Q=>S_ cx H s A w Q
def t_:=dr (by have:=qf;have:=p5;have:=ti;infer_instance) U_
def cx:=t_.1
def H:=t_.2.1
def s:=t_.2.2.1
def A:=t_.2.2.2.1
def w:=t_.2.2.2.2.1
def Q:=t_.2.2.2.2.2.1
def s1_:=t_.2.2.2.2.2.2
def P:=s1_
theorem P_:S_ cx H s A w Q P:=by
 intro E u i o k x hu I ru ri rw_ q
 refine aL (wK q) λ a e q=>?_
 subst e;cases df ru
 refine rj q (λ kk e q=>?_) (λ kk e q=>?_) (λ ks e q=>?_) (λ Z Z z=>z.elim)<;>subst e
 ·refine bu (cj ri) λ t r1_=>?_
  subst r1_
  refine sA q (λ Z Z z=>z.elim) (λ Z Z z=>z.elim) (λ f n e q=>?_) (λ Z Z z=>z.elim) (λ e q=>?_) (λ Z Z Z Z z=>z.elim)
  ·refine cI (I.own _ _ e) λ g hm hl og=>(cI (ge hm) λ ob ho hi hc=>(rX (nw cx.prog cx.w kk t) hm hl (by refine af d7 ?_;lia) λ h' hm' hl' hs=>?_))
   exact aL (ge hm') λ ob' ho' Z=>(hJ (mo':=.idict _ (n+1)) I e (ij rfl) (ij rfl) ho hi hc ho' hs ⟨_,hm',hl',BW (bP.but ho hi hs) og rw_⟩ q.2)
  ·refine bu (I.own _ _ e) λ n e'=>?_
   have hm:=pe (knd:=f8 cx.prog cx.w) e'
   exact cI (ge hm) λ ob ho hi hc=>(rX (nw cx.prog cx.w kk t) hm (Cs e') (cS _) λ h' hm' hl' hs=>(aL (ge hm') λ ob' ho' Z=>(hJ (mo':=.idict _ 1) I e (ij rfl) (ij rfl) ho hi hc ho' hs ⟨_,hm',hl',BW (f:=λ Z=>none) (bP.but ho hi hs) (λ Z=>trivial) rw_⟩ q)))
 ·refine bu (gQ ri) λ t r1_=>?_
  subst r1_
  refine sA q (λ Z Z z=>z.elim) (λ es e q=>?_) (λ Z Z Z z=>z.elim) (λ Z Z z=>z.elim) (λ e q=>?_) (λ Z Z Z Z z=>z.elim)
  ·refine aL (I.own _ _ e) λ kvs hm kr=>(cI (ge hm.mapOf) λ ob ho hi hc=>(Gv (nz cx.prog cx.w kk t) hm (λ h' hm' hs=>?_) (by (refine af (ow kr) (af d7 ?_));lia)))
   exact aL (ge hm'.mapOf) λ ob' ho' Z=>(hJ (mo':=.sdict _) I e (ij rfl) (ij rfl) ho hi hc ho' hs ⟨_,hm',pO (VRel.mono (bP.but ho hi hs) _ rw_) (kr.mono (bP.but ho hi hs)) (uv hm)⟩ q.2)
  ·refine bu (I.own _ _ e) λ n e'=>?_
   have hm:=vv (knd:=strKind cx.prog cx.w) e'
   refine cI (ge hm.mapOf) λ ob ho hi hc=>(Gv (nz cx.prog cx.w kk t) hm (λ h' hm' hs=>?_) (cS _))
   exact aL (ge hm'.mapOf) λ ob' ho' Z=>(hJ (mo':=.sdict [(kk,w)]) I e (ij rfl) (ij rfl) ho hi hc ho' hs ⟨_,hm',⟨_,[],rfl,VRel.mono (bP.but ho hi hs) _ rw_,rfl⟩⟩ q)
 ·refine aL q λ kk e q1=>?_
  subst e
  refine aL (mv ri) λ c r1_ hk=>?_
  subst r1_
  refine sA q1 (λ Z Z z=>z.elim) (λ Z Z z=>z.elim) (λ Z Z Z z=>z.elim) (λ es e q=>?_) (λ e q=>?_) (λ Z Z Z Z z=>z.elim)
  ·refine aL (I.own _ _ e) λ xs hm tr=>(cI (ln hm) λ ob ho hi hc=>(HP (ly (by lia)) hk hm (λ h' hm' hs=>?_) (by (refine af (qD tr) (af d7 ?_));lia)))
   rw [storedH_new (pc tr q.2.1)] at hm'
   refine aL (ln hm') λ ob' ho' Z=>?_
   have ki:=bP.but ho hi hs
   exact hJ (mo':=.tdict _) I e (ij rfl) (ij rfl) ho hi hc ho' hs ⟨_,hm',rz (gp ki hk) (VRel.mono ki _ rw_) (tr.mono ki)⟩ q.2.2
  ·refine bu (I.own _ _ e) λ n e'=>?_
   have hm:s.heap.DictOfH (qa (f8 cx.prog cx.w)) a []:=⟨_,#[],n,e',⟨rfl,rfl,rfl⟩,rfl,rfl,λ Z z=>(f9 z).elim,ir⟩
   refine cI (ln hm) λ ob ho hi hc=>(HP (ly (by lia)) hk hm (λ h' hm' hs=>?_) (cS _))
   rw [storedH_new rfl] at hm'
   refine aL (ln hm') λ ob' ho' Z=>?_
   have ki:=bP.but ho hi hs
   exact hJ (mo':=.tdict _) I e (ij rfl) (ij rfl) ho hi hc ho' hs ⟨_,hm',rz (es:=[]) (xs:=[]) (gp ki hk) (VRel.mono ki _ rw_) (by rfl)⟩ q
theorem A_:∀p,U_ p:=bB P_
end iY
section
variable {cx:Cx}
variable {value gj:Expr}
theorem iY {cx H s A w Q P}:iY.S_ cx H s A w Q P:=iY.A_ (cx,H,s,A,w,Q,P)
end
abbrev GL:=List (aw×Fn)
noncomputable def relS (scope sc:gA):gA:={scope with names:=scope.names.map λ (n,k)=>if (k==.free&&sc.kind==.function&&sc.names.lookup n==some .cell) then (n,.cell) else (n,k)}
noncomputable def kindE:Expr->Nat
 |.Slice ..=>1
 |.Attribute ..=>2
 |.Name ..=>3
 |.Starred ..=>4
 |.Set ..=>5
 |.ListComp ..=>6
 |.SetComp ..=>6
 |.DictComp ..=>6
 |.Tuple ..=>7
 |_=>0
noncomputable def isSlice (x:Expr):Bool:=kX (kindE x) 1
noncomputable def isAttr (x:Expr):Bool:=kX (kindE x) 2
noncomputable def isName (x:Expr):Bool:=kX (kindE x) 3
noncomputable def isStar (x:Expr):Bool:=kX (kindE x) 4
noncomputable def noSet (x:Expr):Bool:=!kX (kindE x) 5
noncomputable def isComp (x:Expr):Bool:=kX (kindE x) 6
noncomputable def plainB:Expr->Bool
 |.Call (.Name id _) [] [] _=>false
 |_=>true
noncomputable def okName (sc:gA) (x:aw):Bool:=!(x==("__debug__":aw))&&!(x==("__classdict__":aw))&&(match sc.names.lookup x with
 |some .local=>true
 |some .cell=>true
 |some .free=>true
 |_=>false)
noncomputable def okGlob (gl:GL) (sc:gA) (x:aw) (f:Fn):Bool:=gl.lookup x==some f&&sc.names.lookup x==some .globalImplicit&&!(x==("__debug__":aw))
noncomputable def chkScope (scope sc:gA) (nm own:List aw) (fr:List Nat):Bool:=scope.kind==.function&&
   (decide ((own++fr.filterMap λ i=>nm[i]?).Nodup)&&(fr.all (λ i=>(nm[i]?).any λ y=>scope.names.lookup y==some .free&&sc.names.lookup y==some .cell)&&
   (own.all (λ y=>scope.names.lookup y==some .local)&&scope.names.all (λ y=>y.2 !=.cell&&((y.2 !=.local||scope.names.lookup y.1==some .local)&&(y.2 !=.free||sc.names.lookup y.1==some .cell))))))
theorem al (h:(a&&b)=true):a=true:=by cases a<;>first|rfl|exact h
theorem ar (h:(a&&b)=true):b=true:=by cases a<;>first|exact h|exact bS h
theorem nt (h:(!a)=true):a=false:=by cases a<;>first|rfl|exact bS h
theorem nb {a b:Nat} (h:(a !=b)=true):a≠b:=λ e=>by subst e;rw [bne_self_eq_false] at h;exact bS h
theorem dt [Decidable p] (h:decide p=true):p:=of_decide_eq_true h
inductive PT where
 |nil
 |n (p:Bx) (k:Nat) (s:gA) (x:lB) (l r:PT)
theorem NK:Nonempty PT:=⟨.nil⟩
noncomputable def PT.p:PT->Bx
 |.n p _ _ _ _ _=>p
 |.nil=>⟨0,0,0,0⟩
noncomputable def PT.k:PT->Nat
 |.n _ k _ _ _ _=>k
 |.nil=>0
noncomputable def PT.s:PT->gA
 |.n _ _ s _ _ _=>s
 |.nil=>⟨.module,[],false,false,[]⟩
noncomputable def PT.x:PT->lB
 |.n _ _ _ x _ _=>x
 |.nil=>.Pass ⟨0,0,0,0⟩
noncomputable def PT.l:PT->PT
 |.n _ _ _ _ l _=>l
 |.nil=>.nil
noncomputable def PT.r:PT->PT
 |.n _ _ _ _ _ r=>r
 |.nil=>.nil
noncomputable def nmAt (nm:List aw) (i:Nat):aw:=(nm[i]?).getD (aa "")
abbrev sJ (nm own:List aw) (fr:List Nat):List aw:=own++fr.filterMap λ i=>nm[i]?
noncomputable def emKs:List (aw×aw×Fn)->PT->List (Option Expr)
 |[],_=>[]
 |p::ps,t=>some (.Constant (.str p.1) t.l.k t.l.p)::emKs ps t.r
noncomputable def emVs:List (aw×aw×Fn)->PT->List Expr
 |[],_=>[]
 |p::ps,t=>.Name p.2.1 t.l.p::emVs ps t.r
mutual
noncomputable def emE (nm:List aw):E->PT->Expr
 |.none,t=>.Constant .none t.k t.p
 |.bool b,t=>.Constant (.bool b) t.k t.p
 |.int i,t=>.Constant (.int i) t.k t.p
 |.str z,t=>.Constant (.str z) t.k t.p
 |.loc i,t=>.Name (nmAt nm i) t.p
 |.fn z _,t=>.Name z t.p
 |.neg a,t=>.UnaryOp .USub (emE nm a t.l) t.p
 |.bin op a b,t=>.BinOp (emE nm a t.l) op (emE nm b t.r) t.p
 |.cmp op a b,t=>.Compare (emE nm a t.l) [op] [emE nm b t.r] t.p
 |.not a,t=>.UnaryOp .Not (emE nm a t.l) t.p
 |.bop c es,t=>.BoolOp (cond c .And .Or) (emEs nm es t.l) t.p
 |.ifx c b o,t=>.IfExp (emE nm c t.l) (emE nm b t.r.l) (emE nm o t.r.r) t.p
 |.tup es,t=>.Tuple (emEs nm es t.l) t.k t.p
 |.lst es,t=>.List (emEs nm es t.l) t.p
 |.edct,t=>.Dict [] [] t.p
 |.dfn ps,t=>.Dict (emKs ps t.l) (emVs ps t.r) t.p
 |.sub a i,t=>.Subscript (emE nm a t.l) (emE nm i t.r) t.p
 |.slc a lo hi,t=>.Subscript (emE nm a t.l) (.Slice (emO nm lo t.r.l) (emO nm hi t.r.r) none t.r.p) t.p
 |.attr a n,t=>.Attribute (emE nm a t.l) n t.p
 |.call f as,t=>.Call (emE nm f t.l) (emEs nm as t.r) [] t.p
 |.meth o n as,t=>.Call (.Attribute (emE nm o t.l.l) n t.l.p) (emEs nm as t.r) [] t.p
 |.comp own fr el j it c,t=>.ListComp (emE (sJ nm own fr) el t.l) [⟨.Name (nmAt own j) t.r.p,emE nm it t.r.l,(emO (sJ nm own fr) c t.r.r).toList,0⟩] t.s t.p
 |.comp2 own fr el j it c j2 it2,t=>.ListComp (emE (sJ nm own fr) el t.l) [⟨.Name (nmAt own j) t.r.p,emE nm it t.r.l,[emE (sJ nm own fr) c t.r.r.l],0⟩,⟨.Name (nmAt own j2) t.r.r.p,emE (sJ nm own fr) it2 t.r.r.r,[],0⟩] t.s t.p
 |.stuck,t=>.Constant .none t.k t.p
noncomputable def emEs (nm:List aw):List E->PT->List Expr
 |[],_=>[]
 |e::es,t=>emE nm e t.l::emEs nm es t.r
noncomputable def emO (nm:List aw):Option E->PT->Option Expr
 |none,_=>none
 |some e,t=>some (emE nm e t)
end
mutual
noncomputable def okE (gl:GL) (sc:gA) (nm:List aw):E->PT->Bool
 |.loc i,_=>nm[i]?==some (nmAt nm i)&&okName sc (nmAt nm i)
 |.fn z f,_=>okGlob gl sc z f
 |.neg a,t=>okE gl sc nm a t.l
 |.bin _ a b,t=>okE gl sc nm a t.l&&okE gl sc nm b t.r
 |.cmp _ a b,t=>noSet (emE nm b t.r)&&(okE gl sc nm a t.l&&okE gl sc nm b t.r)
 |.not a,t=>okE gl sc nm a t.l
 |.bop _ es,t=>okEs gl sc nm es t.l
 |.ifx c b o,t=>okE gl sc nm c t.l&&(okE gl sc nm b t.r.l&&okE gl sc nm o t.r.r)
 |.tup es,t=>ml es.length 1000&&okEs gl sc nm es t.l
 |.lst es,t=>ml es.length 1000&&okEs gl sc nm es t.l
 |.dfn ps,_=>ps.all (λ p=>okGlob gl sc p.2.1 p.2.2)&&(iI 0 ps.length&&(ml ps.length 15&&decide ((ps.map (·.1)).Nodup)))
 |.sub a i,t=>!isSlice (emE nm i t.r)&&(okE gl sc nm a t.l&&okE gl sc nm i t.r)
 |.slc a lo hi,t=>isName (emE nm a t.l)&&(okE gl sc nm a t.l&&(okO gl sc nm lo t.r.l&&okO gl sc nm hi t.r.r))
 |.attr a _,t=>plainB (emE nm a t.l)&&okE gl sc nm a t.l
 |.call f as,t=>!isAttr (emE nm f t.l)&&(okE gl sc nm f t.l&&okEs gl sc nm as t.r)
 |.meth o _ as,t=>plainB (emE nm o t.l.l)&&(t.l.p.endLine==t.p.line&&(ml as.length 20&&(okE gl sc nm o t.l.l&&okEs gl sc nm as t.r)))
 |.comp own fr el j it c,t=>own[j]?==some (nmAt own j)&&(noSet (emE nm it t.r.l)&&(chkScope t.s sc nm own fr&&
   (okE gl sc nm it t.r.l&&(okE gl (relS t.s sc) (sJ nm own fr) el t.l&&okO gl (relS t.s sc) (sJ nm own fr) c t.r.r))))
 |.comp2 own fr el j it c j2 it2,t=>own[j]?==some (nmAt own j)&&(own[j2]?==some (nmAt own j2)&&(j !=j2&&(noSet (emE nm it t.r.l)&&(noSet (emE (sJ nm own fr) it2 t.r.r.r)&&(chkScope t.s sc nm own fr&&
   (okE gl sc nm it t.r.l&&(okE gl (relS t.s sc) (sJ nm own fr) el t.l&&(okE gl (relS t.s sc) (sJ nm own fr) c t.r.r.l&&okE gl (relS t.s sc) (sJ nm own fr) it2 t.r.r.r))))))))
 |_,_=>true
noncomputable def okEs (gl:GL) (sc:gA) (nm:List aw):List E->PT->Bool
 |[],_=>true
 |e::es,t=>!isStar (emE nm e t.l)&&(okE gl sc nm e t.l&&okEs gl sc nm es t.r)
noncomputable def okO (gl:GL) (sc:gA) (nm:List aw):Option E->PT->Bool
 |none,_=>true
 |some e,t=>okE gl sc nm e t
end
structure Fm (cx:Cx) (au:i4) (nm:List aw) (H:MH) (ρ:da) (h:cM):Prop where
 kind:au.scope.kind=.function
 glob:au.globals=di
 blt:au.builtins=lC
 nd:nm.Nodup
 len:ρ.length=nm.length
 apart:∀n1 c1 n2 c2,au.cells.lookup n1=some c1->au.cells.lookup n2=some c2->n1≠n2->c1≠c2
 aboveL:cx.base.objs.size<=au.locals
 aboveC:∀n c,au.cells.lookup n=some c->cx.base.objs.size<=c
 cellsAll:∀x,au.kindOf x=some .cell->∃c,au.cells.lookup x=some c
 free:ci H au.locals
 slots:∃(m cm:aw->Option av),h.Ns au.locals m/\(∀n c,au.cells.lookup n=some c->h.IsCell c (cm n))/\
  ∀i x,nm[i]?=some x->(au.kindOf x=some .local/\∀u,ρ.at i=some u->∃v,m x=some v/\VRel cx h u v)\/
   ((au.kindOf x=some .cell\/au.kindOf x=some .free)/\(∃c,au.cells.lookup x=some c)/\∀u,ρ.at i=some u->∃v,cm x=some v/\VRel cx h u v)
def iC (cx:Cx) (A:dy) (H:MH) (h:cM):Prop:=∃l,A.frames=some l/\∀au∈l,au.scope.kind≠.module/\∃L,au.frame=some L/\(∃m,h.Ns L m)/\ci H L/\cx.base.objs.size<=L
structure Bt (A:dy) (lv:Nat):Prop where
 handled:A.handled=none
 depth:A.depth+2*lv+4<xV
 units:A.units+20*lv+400<mH
theorem iC.step (k:iC cx A H h) (x:bb P H h H' h'):iC cx A H' h':=by
 refine aL k λ l h1 h2=>?_
 refine ⟨l,h1,λ au he=>?_⟩
 refine bw (h2 au he) λ a t1_=>(fy t1_ λ L b w2_ d e=>?_)
 obtain ⟨m,c⟩:=w2_
 exact ⟨a,L,b,x.nsP L m c d,x.free (gy c).choose_spec d,e⟩
theorem Fm.step (k:Fm cx au nm H ρ h) (x:bb fc H h H' h'):Fm cx au nm H' ρ h':=by
 refine cu k.slots λ m cm a b c=>⟨k.kind,k.glob,k.blt,k.nd,k.len,k.apart,k.aboveL,k.aboveC,k.cellsAll,x.free (gy a).choose_spec k.free,m,cm,x.ns _ _ a k.free (λ q=>q),λ n c' e=>x.cell _ _ (b n c' e) λ q=>q,λ i y e=>?_⟩
 rcases c i y e with ⟨c1,c2⟩|⟨c1,c2,c3⟩
 ·exact .inl ⟨c1,λ u hu=>let ⟨v,e1,e2⟩:=c2 u hu;⟨v,e1,VRel.mono x.imm _ e2⟩⟩
 ·exact .inr ⟨c1,c2,λ u hu=>let ⟨v,e1,e2⟩:=c3 u hu;⟨v,e1,VRel.mono x.imm _ e2⟩⟩
theorem Fm.lok (k:Fm cx au nm H ρ h):uK cx H h au.locals:=
 cu k.slots λ m Z a Z Z=>⟨k.aboveL,k.free,m,a⟩
inductive io (cx:Cx) (h0:cM) (H:MH) (h:cM) (e:av) (why:aw):Prop
 |mk (a) (C) (d) (vs) (es) (n) (t) (sl) (od) (h1:e=.ref a) (h2:cx.addr (.cls 1)=.ref C) (h3:h.get? a=some {cls:=.ref C,dict:=some d,data:=.fields vs,slots:=sl}) (h4:cx.base.objs.size<=a) (h5:ci H a) (h6:h.get? d=some od) (h7:od.data=.dict es.toArray n) (h8:cx.base.objs.size<=d) (h9:ci H d) (h10:h0.get? d=none) (h11:Ff "why" es=some (some (.str why t))/\(vs[1]?=some .none\/∃T oT ts,vs[1]?=some (.ref T)/\cx.base.objs.size<=T/\T≠a/\h.get? T=some oT/\oT.data=.fields ts/\ts[3]?=some .none/\oT.cls=.type "traceback"/\ci H T)):io cx h0 H h e why
theorem io.from (k:∀b o,h0.get? b=some o->∃o',h1.get? b=some o') (x:io cx h1 H h e why):io cx h0 H h e why:=by
 obtain ⟨a,C,d,vs,es,n,t,sl,od,g1,g2,g3,g4,g5,g6,g6b,g7,g8,g9,g10⟩:=x
 refine ⟨a,C,d,vs,es,n,t,sl,od,g1,g2,g3,g4,g5,g6,g6b,g7,g8,?_,g10⟩
 cases z:h0.get? d with
 |none=>rfl
 |some o=>obtain ⟨o',e'⟩:=k d o z;rw [g9] at e';exact bH e'
inductive cn (cx:Cx) (P:aI->Prop) (H:MH) (s:ax) (X:aw->MH->Prop) (e:av) (s':ax):Prop
 |mk (why) (H') (h1:X why H') (h2:io cx s.heap H' s'.heap e why) (h3:cb cx H' s'.heap) (h4:bb P H s.heap H' s'.heap) (h5:dR s s'):cn cx P H s X e s'
theorem cn.after (st:bb P H s.heap H1 s1.heap) (sm:dR s s1) (p:cn cx P H1 s1 X e s'):cn cx P H s X e s':=by
 obtain ⟨why,H',q,r,I,x,y⟩:=p
 exact ⟨why,H',q,r.from st.there,I,st.trans x,sm.trans y⟩
theorem cn.no (p:cn cx P H s jU e s'):False:=let ⟨_,_,q,_,_,_,_⟩:=p;q
theorem cn.weak (p:cn cx fc H s X e s'):cn cx P H s X e s':=by
 obtain ⟨why,H',q,r,I,x,y⟩:=p
 exact ⟨why,H',q,r,I,x.weak,y⟩
structure gT (cx:Cx) (tb:on) (gl:GL):Prop extends Good cx where
 mg:∃mg mb,cx.base.Ns di mg/\cx.base.Ns lC mb/\∀x:aw,x≠"__name__"->mb x=sV x
 nolimit:cx.base.NoLimit
 glob:∀x f,gl.lookup x=some f->nsIn cx.K di x=some (some (cx.addr f))\/(nsIn cx.K di x=some none/\sV x=some (cx.addr f)/\x≠"__name__")
 keep:∀f,uR cx.K (cx.addr f)=true\/∀a,cx.addr f≠.ref a
 tfld:∀c n,tb.fld c n=cx.fld c n
 meth:∀c n f,tb.meth c n=some f->∃C g,cx.addr c=.ref C/\cx.addr f=.ref g/\cR cx.K (.ref C) "__getattribute__"=some (some (.builtin "object.__getattribute__"))/\cR cx.K (.ref C) "__getattr__"=some none/\
  cR cx.K (.ref C) n=some (some (.ref g))/\pt cx.K (.ref g)=some (.type "function")
 bi:∀id,id∈["list.append","list.insert","dict.get","dict.update"]->cx.addr (.bi id)=.builtin id
 init:∀c f,tb.init c=some f->∃C g,cx.addr c=.ref C/\cx.addr f=.ref g/\makesIn cx.K C=true/\cR cx.K (.ref C) "__init__"=some (some (.ref g))/\pt cx.K (.ref g)=some (.type "function")
structure D7 (A:dy) (l:Nat):Prop where
 handled:A.handled=none
 depth:A.depth+2*l+5<xV
 units:A.units+20*l+410<mH
theorem Bt.u100 (m:Bt A lv):A.units+100<mH:=by have:=m.units;lia
theorem Bt.call (m:Bt A lv) (h:l<lv):D7 A l:=⟨m.handled,by have:=m.depth;lia,by have:=m.units;lia⟩
noncomputable def CallOk (cx:Cx) (tb:on) (f:Fn):Prop:=
 ∀(A:dy) (H:MH) (s:ax) (us:List V) (vs:List av) (Q:V->MH->Prop) (X:aw->MH->Prop),D7 A (tb.lvl f)->iC cx A H s.heap->(∃L,uK cx H s.heap L)->cb cx H s.heap->VRels cx s.heap us vs->
  tb.spec f us H Q X->aE (ay cx.prog cx.w) A (call (cx.addr f) vs) (bN cx H s Q) (cn cx fc H s X) s
def Ko (Q E:av->ax->Prop) (r:HQ) (s':ax):Prop:=match r with
 |.ok (.ret v)=>Q v s'
 |.ok _=>False
 |.error e=>E e s'
noncomputable def CodeOk (cx:Cx) (tb:on) (f:Fn):Prop:=
 ∀(A:dy) (H:MH) (s:ax) (us:List V) (vs:List av) (Q:V->MH->Prop) (X:aw->MH->Prop),D7 A (tb.lvl f)->iC cx A H s.heap->(∃L,uK cx H s.heap L)->cb cx H s.heap->VRels cx s.heap us vs->
  tb.spec f us H Q X->eS (ay cx.prog cx.w) A (.call (cx.addr f) ⟨vs,[]⟩) (Ko (bN cx H s Q) (cn cx fc H s X)) s
theorem CodeOk.call (k:CodeOk cx tb f):CallOk cx tb f:=λ A H s us vs Q X am st lk I r q=>iK (sX (k A H s us vs Q X am st lk I r q) λ r s' z=>by
 rcases r with e|(_|_|_|_)<;>exact z)
section
variable {cx:Cx}
theorem tP (h:okName sc x=true):(x==("__debug__":aw))=false/\(x==("__classdict__":aw))=false:=⟨nt (al (al h)),nt (ar (al h))⟩
theorem pg (F:Fm cx au nm H ρ s.heap) (hn:nm[i]?=some x) (hk:okName au.scope x=true) (hu:ρ.at i=some u)
  (k:∀v,VRel cx s.heap u v->R v s):aE (ay cx.prog cx.w) A (eval (.Name x pos) au) R Ex s:=by
 refine cu F.slots λ m cm h1 h2 h3=>(bw (tP hk) λ d1 d2=>?_)
 rcases h3 i x hn with ⟨c1,c2⟩|⟨c1,⟨c,c2⟩,c3⟩
 ·exact aL (c2 u hu) λ v e1 e2=>(xW (pz F.kind c1 h1 e1 (k v e2)) d1)
 ·refine aL (c3 u hu) λ v e1 e2=>?_
  rcases c1 with c1|c1
  ·exact xW (Gw F.kind c1 c2 (e1▸h2 _ _ c2) (k v e2)) d1
  ·exact xW (Gx F.kind c1 c2 (e1▸h2 _ _ c2) (k v e2) d2) d1
theorem oz (G:gT cx tb gl) (hg:au.globals=di) (hb:au.builtins=lC) (hk:au.scope.kind=.function) (I:cb cx H s.heap) (hok:okGlob gl au.scope x f=true) (k:R (cx.addr f) s):
  aE (ay cx.prog cx.w) A (eval (.Name x pos) au) R Ex s:=by
 have h1:=eq_of_beq (al (al hok))
 have h2:=eq_of_beq (ar (al hok))
 have h3:=nt (ar hok)
 refine cu G.mg λ mg mb g1 g2 g3=>?_
 have n1:s.heap.Ns au.globals mg:=by refine af hg ?_;exact g1.keeps I.base
 have n2:s.heap.Ns au.builtins mb:=by refine af hb ?_;exact g2.keeps I.base
 rcases G.glob x f h1 with e|⟨e1,e2,e3⟩
 ·exact Name_function_global hk h2 (loadGlobal_global n1 (mg_of G.X g1 e) k) h3
 ·exact Name_function_global hk h2 (loadGlobal_builtin n1 (mg_none_of G.X g1 e1) n2 ((g3 x e3).trans e2) k) h3
theorem j9:∀{xs:List Expr} {e:Expr},isStar e=false->ik (e::xs) au=(false,eval e au)::ik xs au:=λ {xs e} h=>by
 cases e<;>first|rfl|cases h
theorem oA (pos:Bx):∀{l:List (Bool×uY av)},(pA pos l).any (·.1)=l.any (·.1)
 |[]=>rfl
 |(b,t)::l=>by
  show (b||(pA pos l).any (·.1))=(b||l.any (·.1))
  exact af (oA pos) rfl
theorem ll:∀{es:List E} {t:PT},okEs gl au.scope nm es t=true->(ik (emEs nm es t) au).any (·.1)=false/\(emEs nm es t).length=es.length
 |[],_,_=>⟨rfl,rfl⟩
 |_::_,_,h=>⟨(congrArg (λ l:List (Bool×uY av)=>l.any (·.1)) (j9 (xs:=emEs nm _ _) (nt (al h)))).trans (ll (ar (ar h))).1,congrArg nF (ll (ar (ar h))).2⟩
theorem lX (G:gT cx tb gl) (hf:uR cx.K f=true\/∀a,f≠.ref a) (hp:okEs gl au.scope nm es t=true)
  (h:aE (ay cx.prog cx.w) A (spliced (pA pos (ik (emEs nm es t) au))) (λ vs s₁=>cx.K.In s₁.heap/\aE (ay cx.prog cx.w) A (call f (first++vs)) R Ex s₁) Ex s):
  aE (ay cx.prog cx.w) A (callWith pos f first (pA pos (ik (emEs nm es t) au)) []) R Ex s:=by
 have hk:∀h,cx.K.In h->∃k,(k=Gy\/k=DX\/k=Bl)/\lD (ay cx.prog cx.w) h (keeperOf f) k:=λ h X=>by
  rcases hf with hf|hf
  ·exact keeps_K hf h X
  ·refine ⟨.machine,.inr (.inl rfl),Gz ?_⟩
   cases f<;>first|rfl|exact absurd rfl (hf _)
 refine callWith_of (P:=cx.K.In) (by (refine af (oA _) (af ((ll hp).1) ?_));rfl) hk ?_
 cases es with
 |nil=>exact λ Γ p hΓ=>evalArgs_nil3 (h Γ p hΓ) Γ p hΓ
 |cons e es=>
  have e1:ik (emEs nm (e::es) t) au=_:=j9 (nt (al hp))
  rw [e1] at h⊢
  exact evalArgs_plain h
theorem rm {n x:aw} {f:Fn} (h:((x,f)::r).lookup n=some g):(n=x/\g=f)\/r.lookup n=some g:=by
 rw [aG] at h
 cases z:n==x with
 |true=>rw [z] at h;exact .inl ⟨eq_of_beq z,(ac h).symm⟩
 |false=>rw [z] at h;exact .inr h
end
namespace kO
def S_ (cx tb s A):=∀{gl:GL} {H:MH} {Ex:av->ax->Prop} {u:V} {n:aw} {g:Fn} {o:av} {pl:uY Bool} {R:av×List av->ax->Prop} (G:gT cx tb gl) (I:cb cx H s.heap) (ru:VRel cx s.heap u o) (hm:methOf tb H u n=some g) (k:R (cx.addr g,[o]) s),aE (ay cx.prog cx.w) A (getMethod o n pl) R Ex s
def U_:=UV λ cx tb s=>S_ cx tb s
def t_:=dr (by have:=qf;have:=p5;have:=ti;have:=Mn;infer_instance) U_
def cx:=t_.1
def tb:=t_.2.1
def s:=t_.2.2.1
def A:=t_.2.2.2
theorem P_:S_ cx tb s A:=by
 intro gl H Ex u n g o pl R G I ru hm k
 cases u with
 |ref a=>
  cases df ru
  refine aL (gM.mp hm) λ mo e hm=>?_
  have own:=I.own _ _ e
  cases mo with
  |list us=>
   refine fZ own λ aB nn ho Z=>?_
   have hl:s.heap.IsList a aB:=⟨_,ho,rfl,nn,rfl⟩
   rcases rm hm with ⟨e1,e2⟩|hm
   ·subst e1 e2
    rw [G.bi _ (.head _)] at k
    exact Iv slot_list_append type_list_append hl ⟨_,ho,rfl⟩ k
   ·rcases rm hm with ⟨e1,e2⟩|hm
    ·subst e1 e2
     rw [G.bi _ (.tail _ (.head _))] at k
     exact Iv sY PySem.F.type_list_insert hl ⟨_,ho,rfl⟩ k
    ·exact (cV hm).elim
  |sdict es=>
   refine aL own λ kvs hd Z=>?_
   rcases rm hm with ⟨e1,e2⟩|hm
   ·subst e1 e2
    rw [G.bi _ (.tail _ (.tail _ (.tail _ (.head _))))] at k
    exact sZ hd.typeIs kT s9 PySem.F.type_dict_update hd.mapOf.noDict k
   ·exact (cV hm).elim
  |tdict es=>
   refine aL own λ xs hd Z=>?_
   refine iZ (id hd) λ ob Z Z ho hx Z=>?_
   rcases rm hm with ⟨e1,e2⟩|hm
   ·subst e1 e2
    rw [G.bi _ (.tail _ (.tail _ (.head _)))] at k
    exact sZ hd.typeIs kT iw uZ (λ b e=>by cases e;exact ⟨_,ho,hx.2.1⟩) k
   ·exact (cV hm).elim
  |edict=>
   refine bu own λ nn ho=>?_
   rcases rm hm with ⟨e1,e2⟩|hm
   ·subst e1 e2
    rw [G.bi _ (.tail _ (.tail _ (.head _)))] at k
    exact sZ ⟨_,ho,rfl⟩ kT iw uZ (λ b e=>by cases e;exact ⟨_,ho,rfl⟩) k
   ·exact (cV hm).elim
  |inst c d as=>
   have hm:(if (as.lookup n).isSome=true then none else tb.meth c n)=some g:=hm
   cases q:as.lookup n with
   |some w=>rw [q] at hm;exact (cV hm).elim
   |none=>
    rw [q] at hm
    refine uf own λ C es nn hC h1 h2 hr hf=>?_
    refine jR (G.meth _ _ _ hm) λ C' g' hC' hg f1 t1_=>(gJ t1_ λ f2 f3 f4=>?_)
    cases se (hC.symm.trans hC')
    rw [hg] at k
    refine method_fn (G.X.keeps I.base) (o5 I h1 h2) f1 f2 f3 f4 ?_ k
    show (lookIn n (nu es nn)).map _=_
    refine af (lookIn_dict _ _ _) (af (o8 hr q) ?_);rfl
  |_=>exact (cV hm).elim
 |_=>exact (cV hm).elim
theorem A_:∀p,U_ p:=bB P_
end kO
section
variable {cx:Cx}
theorem kO {cx tb s A}:kO.S_ cx tb s A:=kO.A_ (cx,tb,s,A)
end
structure yB (cx:Cx) (A:dy) (h0:cM) (u:V) (us:List V) (I:aI) (fp:List aI) (P:Nat->av->Prop) (St:Nat->cM->Prop):Prop where
 W:Walks cx.prog cx.w A I fp [I] us.length P St
 fpk:∀i h,St i h->∀b∈fp,∃o,h.get? b=some o/\((Kp o/\(b=I\/u=.ref b))\/tF o\/∃ob,cx.base.get? b=some ob)
 kpI:∀i h,St i h->∃o,h.get? I=some o/\Kp o/\¬tF o/\∃vs,o.data=.fields vs
 val:∀i v w h,P i v->us[i]?=some w->bP h0 h->VRel cx h w v
theorem lm (hd:o.data=.fields vs) (hc:o.cls≠.type "range"):¬tF o:=by
 rintro (⟨xs,n,q,_⟩|⟨vs',q,q2⟩)
 ·rw [hd] at q;exact gi q rfl
 ·exact hc q2
section
variable {cx:Cx}
theorem rR:qc 0 n 1=(n.toNat:Int):=by
 unfold qc
 simp
 split<;>lia
theorem vM (h1:-1000000<=n) (h2:n<=1000000):sr 0 n 1=true:=by
 unfold sr
 refine af rR ?_
 simp only [Builtin.Range.rangeFitsLong,bG,jt,decide_eq_true_eq,beq_iff_eq]
 refine ⟨⟨⟨⟨?_,?_⟩,?_⟩,?_⟩,.inr ?_⟩<;>first|lia|(simp;lia)
theorem v6 (hA:A.handled=none) (hne:a≠I) (rs:VRels cx h0 us aB.toList) (hw:u=.ref a\/∃o,cx.base.get? a=some o):
  yB cx A h0 u us I [I,a] (λ i v=>aB[i]?=some v) (λ i h=>h.IsListIter I a i/\h.IsList a aB) where
 W:=by
  have:=Walks.list (prog:=cx.prog) (w:=cx.w) hA I a hne aB
  have e:aB.size=us.length:=by have:=rs.len;simpa using this
  rw [e] at this;exact this
 fpk:=by
  intro i h st b hb
  refine bw st λ w1_ w2_=>?_
  clear st
  refine cI w1_ λ o ho hc hd=>?_
  clear w1_
  refine cI w2_ λ o2 ho2 hc2 t1_=>(bu t1_ λ n2 hd2=>?_)
  clear w2_ t1_
  rcases aY.mp hb with rfl|hb
  ·exact ⟨o,ho,.inl ⟨.inr ⟨_,hd,.inl hc⟩,.inl rfl⟩⟩
  ·have:b=a:=by simpa using hb
   subst this
   rcases hw with rfl|hb'
   ·exact ⟨o2,ho2,.inl ⟨.inl ⟨_,_,hd2⟩,.inr rfl⟩⟩
   ·exact ⟨o2,ho2,.inr (.inr hb')⟩
 kpI:=by
  intro i h st
  refine bw st λ w1_ Z=>?_
  refine cI w1_ λ o ho hc hd=>?_
  exact ⟨o,ho,.inr ⟨_,hd,.inl hc⟩,lm hd (by refine af hc ?_;decide),_,hd⟩
 val:=by
  intro i v w h hp hw' kp
  refine aL (rs.get hw') λ v' e1 e2=>?_
  rw [cU,hp] at e1;(have e1:=ac e1;subst e1)
  exact VRel.mono kp _ e2
theorem Ai (hA:A.handled=none) (hne:a≠I) (rs:VRels cx h0 us aB.toList):
  yB cx A h0 u us I [I,a] (λ i v=>aB[i]?=some v) (λ i h=>h.IsTupleIter I a i/\h.IsTuple a aB) where
 W:=by
  have:=Walks.tuple (prog:=cx.prog) (w:=cx.w) hA I a hne aB
  have e:aB.size=us.length:=by have:=rs.len;simpa using this
  rw [e] at this;exact this
 fpk:=by
  intro i h st b hb
  refine bw st λ w1_ w2_=>?_
  clear st
  refine cI w1_ λ o ho hc hd=>?_
  clear w1_
  refine cI w2_ λ o2 ho2 hc2 t1_=>(bu t1_ λ n2 hd2=>?_)
  rcases aY.mp hb with rfl|hb
  ·exact ⟨o,ho,.inl ⟨.inr ⟨_,hd,.inr (.inl hc)⟩,.inl rfl⟩⟩
  ·have:b=a:=by simpa using hb
   subst this
   exact ⟨o2,ho2,.inr (.inl (.inl ⟨_,_,hd2,hc2⟩))⟩
 kpI:=by
  intro i h st
  refine bw st λ w1_ Z=>?_
  refine cI w1_ λ o ho hc hd=>?_
  exact ⟨o,ho,.inr ⟨_,hd,.inr (.inl hc)⟩,lm hd (by refine af hc ?_;decide),_,hd⟩
 val:=by
  intro i v w h hp hw' kp
  refine aL (rs.get hw') λ v' e1 e2=>?_
  rw [cU,hp] at e1;cases e1
  exact VRel.mono kp _ e2
theorem AP (hA:A.handled=none):
  yB cx A h0 u ((bF n).map λ i=>V.int (i:Nat)) I [I] (λ i v=>∃t,v=.int (0+i*1) t) (λ i h=>IsRangeIter h I (0+(i:Nat)*1) ((n:Int) -(i:Nat)) 1) where
 W:=by
  have:=Walks.range (prog:=cx.prog) (w:=cx.w) hA I 0 1 n
  simpa using this
 fpk:=by
  intro i h st b hb
  have:b=I:=by simpa using hb
  subst this
  exact ⟨_,st,.inl ⟨.inr ⟨_,rfl,.inr (.inr (.inl rfl))⟩,.inl rfl⟩⟩
 kpI:=by
  intro i h st
  exact ⟨_,st,.inr ⟨_,rfl,.inr (.inr (.inl rfl))⟩,lm rfl (show cO "range_iterator"≠cO "range" by decide),_,rfl⟩
 val:=by
  intro i v w h hp hw' kp
  refine bu hp λ t r1_=>?_
  clear hp
  subst r1_
  rw [aF] at hw'
  refine aL (aH.mp hw') λ j hj r1_=>?_
  subst r1_
  have:j=i:=by
   have h1:=aN.mp hj
   obtain ⟨h2,h3⟩:=h1
   rw [ft] at h3
   exact h3.symm
  subst this
  have:(0:Int)+(j:Int)*1=j:=by lia
  exact af this dq
theorem Ab (hA:A.handled=none) (hb:∀x∈b,0<=x/\x<256):
  yB cx A h0 u (b.map V.int) I [I] (λ i v=>∃c u,(w9 b)[i]?=some c/\v=.int (c.toNat:Int) u) (λ i h=>KBw.IsBytesIter h I (w9 b) t i) where
 W:=by
  have:=KBw.walks (prog:=cx.prog) (w:=cx.w) hA I (w9 b) t
  rw [byteArr_size] at this
  simpa using this
 fpk:=by
  intro i h st c hc
  have:c=I:=by simpa using hc
  subst this
  refine cI st λ o ho hc hd=>?_
  exact ⟨o,ho,.inl ⟨.inr ⟨_,hd,.inr (.inr (.inr hc))⟩,.inl rfl⟩⟩
 kpI:=by
  intro i h st
  refine cI st λ o ho hc hd=>?_
  exact ⟨o,ho,.inr ⟨_,hd,.inr (.inr (.inr hc))⟩,lm hd (by refine af hc ?_;decide),_,hd⟩
 val:=by
  intro i v w h hp hw' kp
  refine fZ hp λ c tk hc r1_=>?_
  clear hp
  subst r1_
  rw [aF] at hw'
  refine aL (aH.mp hw') λ x hx r1_=>?_
  subst r1_
  rw [<-cU] at hc
  have hc:(b.map λ n:Int=>n.toNat.toUInt8)[i]?=some c:=hc
  rw [aF,hx] at hc
  have:x.toNat.toUInt8=c:=by simpa using hc
  subst this
  refine af (tO (hb x (aZ hx))) ?_
  exact dq
theorem ql (hA:A.handled=none) (I:cb cx H s.heap) (ru:VRel cx s.heap u x) (hi:itemsOf H u=some us)
  (k:∀fp P St h',yB cx A s.heap u us s.heap.objs.size fp P St->(∀b o,s.heap.get? b=some o->h'.get? b=some o)->h'.objs.size=s.heap.objs.size+1->St 0 h'->R (.ref s.heap.objs.size) {s with heap:=h'}):
  aE (ay cx.prog cx.w) A (xX x) R Ex s:=by
 cases u with
 |tuple us'=>
  simp only [itemsOf,ju] at hi;subst hi
  refine cu (fz ru) λ a aB r1_ ht rs=>?_
  subst r1_
  have hne:a≠s.heap.objs.size:=by obtain ⟨o,ho,_⟩:=ht;exact dM (bx ho)
  exact wpAny_pyIter_tuple (show s.heap.IsTuple a aB from ht) (k _ _ _ _ (Ai hA hne rs) (λ b o e=>ak _ e) (eE _ _)
   ⟨⟨_,bt _ rfl,rfl,rfl⟩,Heap.IsTuple.push (show s.heap.IsTuple a aB from ht) _⟩)
 |flist us'=>
  simp only [itemsOf,ju] at hi;subst hi
  refine cu ru λ a aB r1_ w2_ rs=>?_
  clear ru
  subst r1_
  refine aL w2_ λ ob ho hr=>?_
  have hl:s.heap.IsList a aB:=⟨ob,I.base _ _ ho,hr⟩
  have hne:a≠s.heap.objs.size:=dM (bx (I.base _ _ ho))
  exact Iw hl (k _ _ _ _ (v6 hA hne rs (.inr ⟨_,ho⟩)) (λ b o e=>ak _ e) (eE _ _) ⟨⟨_,bt _ rfl,rfl,rfl⟩,hl.push _⟩)
 |ref a=>
  have:=df ru;subst this
  unfold itemsOf at hi
  dsimp only at hi
  set_option tactic.hygienic true in split at hi
  ·rename_i us' e
   cases hi
   refine fZ (I.own _ _ e) λ aB n ho rs=>?_
   have hl:s.heap.IsList a aB:=⟨_,ho,rfl,n,rfl⟩
   have hne:a≠s.heap.objs.size:=dM (bx ho)
   exact Iw hl (k _ _ _ _ (v6 hA hne rs (.inl rfl)) (λ b o e=>ak _ e) (eE _ _) ⟨⟨_,bt _ rfl,rfl,rfl⟩,hl.push _⟩)
  ·cases hi
 |range n=>
  simp only [itemsOf,ju] at hi;subst hi
  refine AJ ru λ a t u w r1_ hr h1 h2=>?_
  clear ru
  subst r1_
  refine wpAny_pyIter_range hr (vM h1 h2) (k _ _ _ _ (AP hA) (λ b o e=>ak _ e) (eE _ _) ?_)
  refine af rR ?_
  have:=bt s.heap (o:={cls:=.type "range_iterator",data:=.fields #[iL 0,iL n.toNat,iL 1]}) rfl
  simpa using this
 |bytes b=>
  simp only [itemsOf,ju] at hi;subst hi
  refine aL ru λ t r1_ hb=>?_
  clear ru
  subst r1_
  exact KBw.pyIter_bytes (k _ _ _ _ (Ab (t:=t) hA hb) (λ b o e=>ak _ e) (eE _ _) ⟨_,bt _ rfl,rfl,rfl⟩)
 |_=>simp [itemsOf] at hi
theorem yB.keep {St:Nat->cM->Prop} (J:yB cx A h0 u us I fp P St) (st:St i h) (x:bb PP H1 h H2 h') (b1:∀a o,cx.base.get? a=some o->h.get? a=some o)
  (b2:∀a o,cx.base.get? a=some o->h'.get? a=some o) (f1:ci H1 I) (f2:∀a,u=.ref a->ci H1 a) (p1:¬PP I) (p2:∀a,u=.ref a->¬PP a):St i h':=by
 refine J.W.frame i h h' st λ b hb o e=>(aL (J.fpk i h st b hb) λ o' e' q=>?_)
 rw [e] at e';(have e':=ac e';subst e')
 rcases q with ⟨k,q⟩|q|⟨ob,q⟩
 ·exact x.kp b o e k (q.elim (λ z=>z▸f1) λ z=>f2 b z) (q.elim (λ z=>z▸p1) λ z=>p2 b z)
 ·exact x.imm b o e q
 ·have:=b1 b ob q
  rw [e] at this;(have this:=ac this;subst this)
  exact b2 b _ q
end
theorem rA {A:dy}:A.under (.builtin "type.__call__" ⟨.ref C::rest,kw⟩)={A with depth:=A.depth+1,units:=A.units+1}:=by
 obtain ⟨hd,d,fr,gs,u⟩:=A
 have e1:Code.weight (.builtin "type.__call__" ⟨.ref C::rest,kw⟩)=1:=by rfl
 have e2:Code.envs (.builtin "type.__call__" ⟨.ref C::rest,kw⟩)=[]:=by rfl
 have e3:Code.guards (.builtin "type.__call__" ⟨.ref C::rest,kw⟩)=[]:=by rfl
 have e4:Code.cUnits (.builtin "type.__call__" ⟨.ref C::rest,kw⟩)=1:=by rfl
 refine af e1 (af e2 (af e3 (af e4 ?_)))
 rfl
section
variable {cx:Cx}
theorem C4 (G:gT cx tb gl) (hi:tb.init (.cls n)=some i) (ck:CodeOk cx tb i) (am:Bt A lv) (hl:tb.lvl i<lv)
  (st:iC cx A H s.heap) (lk:∃L,uK cx H s.heap L) (I:cb cx H s.heap) (r:VRels cx s.heap us vs)
  (q:∀a d,H a=none->tb.spec i (.ref a::us) (H.set a (.inst (.cls n) d [])) (λ u H1=>u=.none/\Q (.ref a) H1) X):
  aE (ay cx.prog cx.w) A (call (cx.addr (.cls n)) vs) (bN cx H s Q) (cn cx fc H s X) s:=by
 refine jR (G.init _ _ hi) λ C g hC hg f1 t1_=>(bw t1_ λ f2 f3=>?_)
 have hX:=G.X.keeps I.base
 refine af hC ?_
 refine iK ?_
 obtain ⟨hh,gg,dd,tk,os⟩:=s
 refine make_core (makes_of hX f1) (nG hX f2) (λ self=>bind_fn hX self f3) (.inl rfl) (bu lk λ L lk_=>?_)
 revert lk_;intro lk
 have hb:cx.base.objs.size<=hh.objs.size:=lk.le
 have k:∀b o,hh.get? b=some o->((hh.push kZ).push (kS C hh.objs.size)).get? b=some o:=λ b o e=>ak _ (ak _ e)
 have hx:((hh.push kZ).push (kS C hh.objs.size)).get? (hh.objs.size+1)=some (kS C hh.objs.size):=by heap_get
 have hd:((hh.push kZ).push (kS C hh.objs.size)).get? hh.objs.size=some kZ:=ak _ (bt _ rfl)
 have n1:hh.get? (hh.objs.size+1)=none:=dN (Bj _)
 have n2:hh.get? hh.objs.size=none:=dN (bW _)
 have F1:=I.free n1
 have F2:=I.free n2
 have hr:ORel cx ((hh.push kZ).push (kS C hh.objs.size)) (hh.objs.size+1) (.inst (.cls n) hh.objs.size []):=⟨C,[],0,hC,hx,hd,rfl,λ p hp=>by cases hp⟩
 have I':cb cx (H.set (hh.objs.size+1) (.inst (.cls n) hh.objs.size [])) ((hh.push kZ).push (kS C hh.objs.size)):=
  ((I.push _).push _).takeI F1 F2 (dM (dH _)) (cK hb) hb hr
 have S':bb fc H hh (H.set (hh.objs.size+1) (.inst (.cls n) hh.objs.size [])) ((hh.push kZ).push (kS C hh.objs.size)):=(bb.keeps k).takeI n1 n2
 refine af rA (af hg.symm ?_)
 have st':iC cx {A with depth:=A.depth+1,units:=A.units+1} (H.set (hh.objs.size+1) (.inst (.cls n) hh.objs.size [])) ((hh.push kZ).push (kS C hh.objs.size)):=by
  exact aL (st.step S') λ l h1 h2=>⟨l,h1,h2⟩
 refine sX (ck _ _ ⟨_,gg,dd,tk,os⟩ _ _ _ _ ⟨am.handled,?_,?_⟩ st' ⟨L,?_⟩ I' (.cons lS (r.mono (bP.of_keeps k) us)) (q _ _ F1.1)) λ r s' z=>?_
 ·have:=am.depth;show A.depth+1+_+5<_;lia
 ·have:=am.units;show A.units+1+_+410<_;lia
 ·obtain ⟨a,b,m,c⟩:=lk
  exact ⟨a,S'.free (gy c).choose_spec b,m,S'.ns _ _ c b id⟩
 ·rcases r with e|(_|_|_|v)
  ·exact cn.after (s1:=⟨_,gg,dd,tk,os⟩) S' ⟨rfl,rfl,rfl⟩ z
  ·exact z.elim
  ·exact z.elim
  ·exact z.elim
  ·obtain ⟨u,H1,⟨rfl,q'⟩,rv,I1,S1,m1⟩:=z
   exact ⟨gn rv,.ref _,H1,q',lS,I1,S'.trans S1,m1⟩
end
theorem cb.at_free (I:cb cx H h) (f:ci H a) (hb:cx.base.objs.size<=a) (ho:h.get? a=some o) (hi:¬tF o) (k:∀b o,b≠a->h.get? b=some o->h'.get? b=some o):cb cx H h':=by
 refine I.moved (λ b ob e i=>k b ob (λ q=>?_) e) (λ b ob e=>k b ob (λ q=>?_) (I.base b ob e)) λ b nf=>?_
 ·subst q;rw [ho] at e;(have e:=ac e;subst e);exact hi i
 ·subst q;exact absurd (bx e) (du.mpr hb)
 ·refine bu (I.at nf) λ ob e=>?_
  refine af e ?_;exact k b ob (λ q=>nf (q▸f)) e
theorem bb.only (ho:h.get? a=some o) (hi:¬tF o) (hd:∀es n,o.data≠.dict es n) (ho':h'.get? a=some o') (p:P a) (k:∀b o,b≠a->h.get? b=some o->h'.get? b=some o):bb P H h H h':=by
 have ns:∀b m,h.Ns b m->h'.Ns b m:=λ b m e=>by
  refine iZ e λ ob es ep e1 d r=>?_
  exact ⟨ob,es,ep,k b ob (λ q=>by subst q;rw [ho] at e1;(have e1:=ac e1;subst e1);exact hd _ _ d) e1,d,r⟩
 refine ⟨λ b ob e i=>k b ob (λ q=>?_) e,λ b m e Z Z=>ns b m e,λ b v e np=>?_,λ b m e Z=>⟨m,ns b m e⟩,λ Z x y=>absurd x y,λ b ob e=>?_,λ b ob e Z Z np=>k b ob (λ q=>np (q▸p)) e⟩
 ·subst q;rw [ho] at e;(have e:=ac e;subst e);exact hi i
 ·refine aL e λ ob e1 e2=>?_
  exact ⟨ob,k b ob (λ q=>np (q▸p)) e1,e2⟩
 ·by_cases q:b=a
  ·exact ⟨o',q▸ho'⟩
  ·exact ⟨ob,k b ob q e⟩
theorem yt {h:cM} (x:h.Ns a m) (y:h.Ns a m'):m=m':=by
 refine kf x λ o1 es1 ep1 g1 d1 k1 f1=>?_
 refine kf y λ o2 es2 ep2 g2 d2 k2 f2=>?_
 rw [g1] at g2;(have g2:=ac g2;subst g2)
 rw [d1] at d2;cases d2
 exact funext λ x=>(f1 x).symm.trans (f2 x)
theorem bb.store (n:h.Ns L m) (n':h'.Ns L m') (sb:dk L h h') (p:P L):bb P H h H h':=by
 have k:∀b o,b≠L->h.get? b=some o->h'.get? b=some o:=λ b o q e=>(sb.2 b q).trans e
 refine iZ (id n) λ o es ep ho hd Z=>(bu (gy n') λ o' ho'=>?_)
 have hi:=kj n ho
 refine ⟨λ b ob e i=>k b ob (λ q=>?_) e,λ b m0 e Z np=>?_,λ b v e np=>?_,λ b m0 e Z=>?_,λ Z x y=>absurd x y,λ b ob e=>?_,λ b ob e Z Z np=>k b ob (λ q=>np (q▸p)) e⟩
 ·subst q;rw [ho] at e;(have e:=ac e;subst e);exact hi.1 i
 ·exact e.sameBut sb λ q=>np (q▸p)
 ·exact e.sameBut sb λ q=>np (q▸p)
 ·by_cases q:b=L
  ·exact ⟨m',q▸n'⟩
  ·exact ⟨m0,e.sameBut sb q⟩
 ·by_cases q:b=L
  ·exact ⟨o',q▸ho'⟩
  ·exact ⟨ob,k b ob q e⟩
theorem cb.store (I:cb cx H h) (n:h.Ns L m) (sb:dk L h h') (f:ci H L) (hb:cx.base.objs.size<=L):cb cx H h':=by
 exact bu (gy n) λ o ho=>(I.at_free f hb ho (kj n ho).1 λ b ob q e=>(sb.2 b q).trans e)
theorem bb.absorb (x:bb P H0 h0 H h) (y:bb P' H h H' h') (p:∀a,P' a->P a\/h0.get? a=none):bb P H0 h0 H' h':=by
 have no:∀{a o},h0.get? a=some o->¬P a->¬P' a:=λ {a o} e n q=>(p a q).elim n λ z=>by rw [e] at z;exact b7 z
 refine ⟨λ a o e i=>y.imm a o (x.imm a o e i) i,λ a m e f n=>?_,λ a v e n=>?_,λ a m e f=>?_,λ a f n=>?_,λ a o e=>let ⟨o',e'⟩:=x.there a o e;y.there a o' e',λ a o e k f n=>y.kp a o (x.kp a o e k f n) k (x.free e f) (no e n)⟩
 ·exact bu (gy e) λ o ho=>(y.ns a m (x.ns a m e f n) (x.free ho f) (no ho n))
 ·exact aL (id e) λ o ho hv=>(y.cell a v (x.cell a v e n) (no ho n))
 ·exact bu (gy e) λ o ho=>(bu (x.nsP a m e f) λ m' e'=>(y.nsP a m' e' (x.free ho f)))
 ·by_cases q:ci H a
  ·have:=y.fresh a q n
   cases z:h0.get? a with
   |none=>rfl
   |some o=>obtain ⟨o',e'⟩:=x.there a o z;rw [this] at e';exact bH e'
  ·exact x.fresh a f q
theorem Fm.stepP (k:Fm cx au nm H ρ h) (x:bb P H h H' h') (pL:¬P au.locals) (pC:∀n c,au.cells.lookup n=some c->¬P c):Fm cx au nm H' ρ h':=by
 refine cu k.slots λ m cm a b c=>⟨k.kind,k.glob,k.blt,k.nd,k.len,k.apart,k.aboveL,k.aboveC,k.cellsAll,x.free (gy a).choose_spec k.free,m,cm,x.ns _ _ a k.free pL,λ n c' e=>x.cell _ _ (b n c' e) (pC n c' e),λ i y e=>?_⟩
 rcases c i y e with ⟨c1,c2⟩|⟨c1,c2,c3⟩
 ·exact .inl ⟨c1,λ u hu=>let ⟨v,e1,e2⟩:=c2 u hu;⟨v,e1,VRel.mono x.imm _ e2⟩⟩
 ·exact .inr ⟨c1,c2,λ u hu=>let ⟨v,e1,e2⟩:=c3 u hu;⟨v,e1,VRel.mono x.imm _ e2⟩⟩
theorem Fm.only (F:Fm cx au nm H ρ h) (ho:h.get? a=some o) (k:Kp o) (x:bb (·=a) H h H h'):Fm cx au nm H ρ h':=by
 refine cu F.slots λ m cm b c Z=>(F.stepP x (λ q=>?_) λ n c' e q=>?_)
 ·refine iZ b λ o' es ep e d Z=>?_
  have q:au.locals=a:=q
  rw [q,ho] at e;(have e:=ac e;subst e)
  exact k.no_dict.1 _ _ d
 ·refine aL (c n c' e) λ o' e1 e2=>?_
  have q:c'=a:=q
  rw [q,ho] at e1;(have e1:=ac e1;subst e1)
  exact k.no_dict.2 _ e2
theorem Fm.but (F:Fm cx au nm H ρ h) (ho:h.get? a=some o) (k:Kp o) (ni:¬tF o) (hk:∀b o,b≠a->h.get? b=some o->h'.get? b=some o):Fm cx au nm H ρ h':=by
 refine cu F.slots λ m cm b c d=>?_
 have ki:bP h h':=λ b ob e i=>hk b ob (λ q=>by subst q;rw [ho] at e;(have e:=ac e;subst e);exact ni i) e
 refine ⟨F.kind,F.glob,F.blt,F.nd,F.len,F.apart,F.aboveL,F.aboveC,F.cellsAll,F.free,m,cm,?_,λ n c' e=>?_,λ i y e=>?_⟩
 ·refine iZ b λ ob es ep e1 d r=>?_
  exact ⟨ob,es,ep,hk _ ob (λ q=>by rw [q,ho] at e1;(have e1:=ac e1;subst e1);exact k.no_dict.1 _ _ d) e1,d,r⟩
 ·exact aL (c n c' e) λ ob e1 e2=>⟨ob,hk _ ob (λ q=>by rw [q,ho] at e1;(have e1:=ac e1;subst e1);exact k.no_dict.2 _ e2) e1,e2⟩
 ·rcases d i y e with ⟨c1,c2⟩|⟨c1,c2,c3⟩
  ·exact .inl ⟨c1,λ u hu=>let ⟨v,e1,e2⟩:=c2 u hu;⟨v,e1,VRel.mono ki _ e2⟩⟩
  ·exact .inr ⟨c1,c2,λ u hu=>let ⟨v,e1,e2⟩:=c3 u hu;⟨v,e1,VRel.mono ki _ e2⟩⟩
theorem iC.but (K:iC cx A H h) (ho:h.get? a=some o) (k:Kp o) (hk:∀b o,b≠a->h.get? b=some o->h'.get? b=some o):iC cx A H h':=by
 refine aL K λ l h1 h2=>?_
 refine ⟨l,h1,λ au he=>?_⟩
 refine bw (h2 au he) λ a1 t1_=>(fy t1_ λ L b w2_ f g=>?_)
 refine iF w2_ λ m ob es t1_=>(cI t1_ λ ep e1 d r=>?_)
 exact ⟨a1,L,b,⟨m,ob,es,ep,hk _ ob (λ q=>by rw [q,ho] at e1;(have e1:=ac e1;subst e1);exact k.no_dict.1 _ _ d) e1,d,r⟩,f,g⟩
theorem pP {ρ:da} (h:i<ρ.length):da.at (ρ.set i (some u)) i=some u:=by
 unfold da.at
 refine af (lO h) ?_;rfl
theorem oZ (h:i≠j):da.at (ρ.set i u) j=da.at ρ j:=by
 unfold da.at
 exact af (mU h) rfl
theorem Da {nm:List aw} (nd:nm.Nodup) {i j:Nat} (h:i≠j) (e1:nm[i]?=some x) (e2:nm[j]?=some y):y≠x:=by
 rintro rfl
 exact h ((List.getElem?_inj (aN.mp e1).1 nd).mp (e1.trans e2.symm))
theorem Fm.store (F:Fm cx au nm H ρ h) (hi:nm[i]?=some x) (hk:au.kindOf x=some .local) (n:h.Ns au.locals m)
  (n':h'.Ns au.locals (λ y=>if y=x then some v else m y)) (sb:dk au.locals h h') (r:VRel cx h' u v):Fm cx au nm H (ρ.set i (some u)) h':=by
 refine cu F.slots λ m0 cm a b c=>?_
 have e:=yt n a;subst e
 have st:bb (·=au.locals) H h H h':=bb.store n n' sb rfl
 refine ⟨F.kind,F.glob,F.blt,F.nd,by exact af jv F.len,F.apart,F.aboveL,F.aboveC,F.cellsAll,F.free,_,cm,n',λ n c' e=>st.cell _ _ (b n c' e) λ q=>?_,λ j y e=>?_⟩
 ·refine aL (b n c' e) λ o g1 g2=>?_
  have q:c'=au.locals:=q
  rw [q] at g1
  exact (kj a g1).2 _ g2
 ·by_cases q:i=j
  ·subst q
   rw [hi] at e;(have e:=ac e;subst e)
   refine .inl ⟨hk,λ u' hu=>?_⟩
   rw [pP (by refine af F.len ?_;exact (aN.mp hi).1)] at hu
   (have hu:=ac hu;subst hu)
   exact ⟨v,if_pos rfl,r⟩
  ·refine af (oZ q) ?_
   rcases c j y e with ⟨c1,c2⟩|⟨c1,c2,c3⟩
   ·exact .inl ⟨c1,λ u hu=>let ⟨v,e1,e2⟩:=c2 u hu;⟨v,(if_neg (Da F.nd q hi e)).trans e1,VRel.mono st.imm _ e2⟩⟩
   ·exact .inr ⟨c1,c2,λ u hu=>let ⟨v,e1,e2⟩:=c3 u hu;⟨v,e1,VRel.mono st.imm _ e2⟩⟩
noncomputable def turnOf (e:Expr) (depth:Nat) (target iter:Expr) (ifs:List Expr) (fH:Expr) (it acc:av) (au:i4):uY Fin:=do
 ta iter.pos
 match<-uS it with
 |none=>pure (.done .next)
 |some v=>
  iy target it v
  assign target au v
  let mut ok:=true
  for c in ifs do
   if ok then ok<-isTrue c au (eval c au)
  if ok then
   (do let _<-call (.builtin "list.append") [acc,<-eval fH au])
  again (.compLoop e depth it acc au)
section
variable {prog:cQ}
end
namespace lj
def S_ (prog:cQ) (w:f7) (A:dy) (R:HQ->ax->Prop) (gens:List Bm) (scope:gA) (pos:Bx) (depth:Nat) (fH target:Expr) (ifs:List Expr) (it acc:av) (au:i4) (I:Nat->ax->Prop):=∀(s:ax) (iter:Expr) (he:compTurn (.ListComp fH gens scope pos) depth it acc au=turnOf (.ListComp fH gens scope pos) depth target iter ifs fH it acc au) (turn:∀n s,I n s->aE (ay prog w) A (uS it) (λ r s₁=>match r with
   |none=>R (.ok .next) s₁
   |some v=>aE (ay prog w) A (assign target au v) (λ Z s₂=>
     aE (ay prog w) A (forIn ifs true λ c r=>if r=true then do let ok<-isTrue c au (eval c au);pure (bX ok) else pure (bX r)) (λ ok s₃=>
      if ok=true then aE (ay prog w) A (eval fH au) (λ x s₄=>
       aE (ay prog w) A (call (.builtin "list.append") [acc,x]) (λ Z s₅=>∃m,m<n/\I m s₅) (kU (ay prog w) A au λ e s'=>R (.error e) s') s₄) (kU (ay prog w) A au λ e s'=>R (.error e) s') s₃
      else ∃m,m<n/\I m s₃) (kU (ay prog w) A au λ e s'=>R (.error e) s') s₂) (kU (ay prog w) A au λ e s'=>R (.error e) s') s₁) (kU (ay prog w) A au λ e s'=>R (.error e) s') s) (n:Nat) (h:I n s) (ht:∀v,iy target it v=pure ()),eS (ay prog w) A (.compLoop (.ListComp fH gens scope pos) depth it acc au) R s
def U_:=UV λ prog w A=>UV λ R gens scope=>UV λ pos depth fH=>UV λ target ifs it=>UU λ acc=>UU λ au=>S_ prog w A R gens scope pos depth fH target ifs it acc au
def t_:=dr (by have:=qf;have:=p5;have:=vU;infer_instance) U_
def prog:=t_.1
def w:=t_.2.1
def A:=t_.2.2.1
def R:=t_.2.2.2.1
def gens:=t_.2.2.2.2.1
def scope:=t_.2.2.2.2.2.1
def s1_:=t_.2.2.2.2.2.2
def pos:=s1_.1
def depth:=s1_.2.1
def fH:=s1_.2.2.1
def target:=s1_.2.2.2.1
def ifs:=s1_.2.2.2.2.1
def it:=s1_.2.2.2.2.2.1
def s2_:=s1_.2.2.2.2.2.2
def acc:=s2_.1
def au:=s2_.2.1
def I:=s2_.2.2
theorem P_:S_ prog w A R gens scope pos depth fH target ifs it acc au I:=by
 intro s iter he turn n h ht
 refine codeAny_loop rfl I (λ n s hI=>?_) n h
 refine wpAny_noted ?_
 refine af he ?_
 refine ae (cq (ae (aq (turn n s hI) (λ r s₁ h₁=>?_) λ Z Z h'=>h')))
 cases r with
 |none=>exact ah h₁
 |some v=>
  refine ae (lP (ht v) ?_)
  refine ae (aq h₁ (λ Z s₂ h₂=>ae (aq h₂ (λ ok s₃ h₃=>?_) λ Z Z h'=>h')) λ Z Z h'=>h')
  cases ok with
  |false=>exact ah ⟨rfl,h₃⟩
  |true=>
   exact ae (ae (aq h₃ (λ x s₄ h₄=>ae (aq h₄ (λ Z s₅ h₅=>ah (ah ⟨rfl,h₅⟩)) λ Z Z h'=>h')) λ Z Z h'=>h'))
theorem A_:∀p,U_ p:=bB P_
end lj
section
variable {prog:cQ}
theorem lj (he:compTurn (.ListComp fH gens scope pos) depth it acc au=turnOf (.ListComp fH gens scope pos) depth target iter ifs fH it acc au) (I:Nat->ax->Prop)
  (turn:∀n s,I n s->aE (ay prog w) A (uS it) (λ r s₁=>match r with
   |none=>R (.ok .next) s₁
   |some v=>aE (ay prog w) A (assign target au v) (λ Z s₂=>
     aE (ay prog w) A (forIn ifs true λ c r=>if r=true then do let ok<-isTrue c au (eval c au);pure (bX ok) else pure (bX r)) (λ ok s₃=>
      if ok=true then aE (ay prog w) A (eval fH au) (λ x s₄=>
       aE (ay prog w) A (call (.builtin "list.append") [acc,x]) (λ Z s₅=>∃m,m<n/\I m s₅) (kU (ay prog w) A au λ e s'=>R (.error e) s') s₄) (kU (ay prog w) A au λ e s'=>R (.error e) s') s₃
      else ∃m,m<n/\I m s₃) (kU (ay prog w) A au λ e s'=>R (.error e) s') s₂) (kU (ay prog w) A au λ e s'=>R (.error e) s') s₁) (kU (ay prog w) A au λ e s'=>R (.error e) s') s)
  (n:Nat) (h:I n s) (ht:∀v,iy target it v=pure ()):
  eS (ay prog w) A (.compLoop (.ListComp fH gens scope pos) depth it acc au) R s:=
 lj.A_ (prog,w,A,R,gens,scope,pos,depth,fH,target,ifs,it,acc,au,I) s iter he turn n h ht
end
structure fx (P0:aI->Prop) (cx:Cx) (A:dy) (au:i4) (nm:List aw) (D:aI) (H0:MH) (s0:ax) (H:MH) (ρ:da) (acc:List V) (s:ax):Prop where
 fm:Fm cx au nm H ρ s.heap
 stk:iC cx A H s.heap
 inv:cb cx H s.heap
 acc:∃aB,s.heap.PlainList D aB/\VRels cx s.heap acc aB.toList
 fD:ci H D
 step:bb P0 H0 s0.heap H s.heap
 same:dR s0 s
inductive Gh (el:V->MH->(V->MH->Prop)->Prop) (cond:V->MH->(Bool->MH->Prop)->Prop) (Q:List V->MH->Prop) (P0:aI->Prop) (cx:Cx) (A:dy) (au:i4) (nm:List aw) (D:aI) (H0:MH) (s0:ax) (us acc:List V) (St:Nat->cM->Prop) (t:Nat) (ρ0:da) (I:aI) (u:V) (h0:cM) (n:Nat) (s':ax):Prop
 |mk (i acc' Hc ρc) (g1:n=us.length+1 -i) (g2:i<=us.length) (g3:acc'.length<=acc.length+i) (g4:St i s'.heap) (g5:compTurns el cond (us.drop i) acc' Hc Q) (g6:fx P0 cx A au nm D H0 s0 Hc ρc acc' s')
  (g7:∀v,ρc.set t (some v)=ρ0.set t (some v)) (g8:ci Hc I) (g9:∀a,u=.ref a->ci Hc a/\∃o,s'.heap.get? a=some o) (g10:bP h0 s'.heap):Gh el cond Q P0 cx A au nm D H0 s0 us acc St t ρ0 I u h0 n s'
section
variable {cx:Cx}
theorem fx.eval {acc:List V} (k:fx P0 cx A au nm D H0 s0 H ρ acc s) (I':cb cx H' s'.heap) (x:bb fc H s.heap H' s'.heap) (m:dR s s'):
  fx P0 cx A au nm D H0 s0 H' ρ acc s':=by
 refine aL k.acc λ aB w1_ hr=>(bu w1_ λ n hp=>?_)
 exact ⟨k.fm.step x,k.stk.step x,I',⟨aB,⟨n,x.kp _ _ hp (.inl ⟨_,_,rfl⟩) k.fD id⟩,hr.mono x.imm _⟩,x.free hp k.fD,k.step.absorb x (λ Z z=>z.elim),k.same.trans m⟩
end
namespace jn
def S_ (cx A R s0 H0 P0 px fH x ifs au nm D I h0 u us St t ρ0 s acc el cond Q):=∀{gens:List Bm} {scope:gA} {pos:Bx} {depth:Nat} {iter:Expr} {fp:List aI} {P:Nat->av->Prop} {H:MH} (he:compTurn (.ListComp fH gens scope pos) depth (.ref I) (.ref D) au=turnOf (.ListComp fH gens scope pos) depth (.Name x px) iter ifs fH (.ref I) (.ref D) au) (J:yB cx A h0 u us I fp P St) (hst:St 0 s.heap) (hx:au.kindOf x=some .local) (hnm:nm[t]?=some x) (hz:us.length+acc.length<=bE) (nD:P0 D\/s0.heap.get? D=none) (nI:s0.heap.get? I=none) (nC:P0 au.locals\/s0.heap.get? au.locals=none) (hb:cx.base.objs.size<=D) (hbI:cx.base.objs.size<=I) (hDI:D≠I) (hDC:D≠au.locals) (k0:fx P0 cx A au nm D H0 s0 H ρ0 acc s) (fI:ci H I) (fu:∀a,u=.ref a->ci H a/\a≠D/\a≠au.locals/\a≠I/\∃o,s.heap.get? a=some o) (kI:bP h0 s.heap) (htst:∀v s' H' R,Fm cx au nm H' (ρ0.set t (some v)) s'.heap->iC cx A H' s'.heap->cb cx H' s'.heap->cond v H' R->
   aE (ay cx.prog cx.w) A (forIn ifs true λ c r=>if r=true then do let ok<-isTrue c au (eval c au);pure (bX ok) else pure (bX r)) (iV cx H' s' R) (cn cx fc H' s' jU) s') (helt:∀v s' H' R,Fm cx au nm H' (ρ0.set t (some v)) s'.heap->iC cx A H' s'.heap->cb cx H' s'.heap->el v H' R->aE (ay cx.prog cx.w) A (eval fH au) (bN cx H' s' R) (cn cx fc H' s' jU) s') (q:compTurns el cond us acc H Q) (hR:∀s' H' acc' ρ',fx P0 cx A au nm D H0 s0 H' ρ' acc' s'->(∀v,ρ'.set t (some v)=ρ0.set t (some v))->acc'.length<=acc.length+us.length->Q acc' H'->R (.ok .next) s'),eS (ay cx.prog cx.w) A (.compLoop (.ListComp fH gens scope pos) depth (.ref I) (.ref D) au) R s
def U_:=UV λ cx A R=>UV λ s0 H0 P0=>UV λ px fH x=>UV λ ifs au nm=>UV λ D I h0=>UV λ u us St=>UV λ t ρ0 s=>UV λ acc el cond=>S_ cx A R s0 H0 P0 px fH x ifs au nm D I h0 u us St t ρ0 s acc el cond
def t_:=dr (by have:=qf;have:=p5;have:=ti;infer_instance) U_
def cx:=t_.1
def A:=t_.2.1
def R:=t_.2.2.1
def s0:=t_.2.2.2.1
def H0:=t_.2.2.2.2.1
def P0:=t_.2.2.2.2.2.1
def s1_:=t_.2.2.2.2.2.2
def px:=s1_.1
def fH:=s1_.2.1
def x:=s1_.2.2.1
def ifs:=s1_.2.2.2.1
def au:=s1_.2.2.2.2.1
def nm:=s1_.2.2.2.2.2.1
def s2_:=s1_.2.2.2.2.2.2
def D:=s2_.1
def I:=s2_.2.1
def h0:=s2_.2.2.1
def u:=s2_.2.2.2.1
def us:=s2_.2.2.2.2.1
def St:=s2_.2.2.2.2.2.1
def s3_:=s2_.2.2.2.2.2.2
def t:=s3_.1
def ρ0:=s3_.2.1
def s:=s3_.2.2.1
def acc:=s3_.2.2.2.1
def el:=s3_.2.2.2.2.1
def cond:=s3_.2.2.2.2.2.1
def s4_:=s3_.2.2.2.2.2.2
def Q:=s4_
theorem P_:S_ cx A R s0 H0 P0 px fH x ifs au nm D I h0 u us St t ρ0 s acc el cond Q:=by
 intro gens scope pos depth iter fp P H he J hst hx hnm hz nD nI nC hb hbI hDI hDC k0 fI fu kI htst helt q hR
 refine lj he (Gh el cond Q P0 cx A au nm D H0 s0 us acc St t ρ0 I u h0) ?_ (us.length+1) ⟨0,acc,H,ρ0,rfl,cS _,bW _,hst,q,k0,λ Z=>rfl,fI,λ a e=>⟨(fu a e).1,(fu a e).2.2.2.2⟩,kI⟩ (λ v=>by rfl)
 rintro n s' ⟨i,acc',Hc,ρc,rfl,hi,hlen,hst',q',k,hρ,fI',fu',kI'⟩
 refine fy (J.kpI _ _ hst') λ oI hoI kpI niI Z=>?_
 by_cases hlt:i<us.length
 ·refine J.W.item i _ _ _ hlt hst' λ v h1 tk1 hP st1 k1=>?_
  have k1':∀b o,b≠I->s'.heap.get? b=some o->h1.get? b=some o:=λ b o n e=>k1 b o (by simpa using n) e
  refine fy (J.kpI _ _ st1) λ oI1 hoI1 kpI1 niI1 Z=>?_
  have S1:bb (·=I) Hc s'.heap Hc h1:=bb.only hoI niI kpI.no_dict.1 hoI1 rfl k1'
  have I1:cb cx Hc h1:=k.inv.at_free fI' hbI hoI niI k1'
  have F1:Fm cx au nm Hc ρc h1:=k.fm.but hoI kpI niI k1'
  refine fZ F1.slots λ m Z hn1 Z=>?_
  obtain ⟨u1,hu1⟩:∃u1,us[i]?=some u1:=⟨_,an hlt⟩
  have hdrop:us.drop i=u1::us.drop (i+1):=by
   refine af (cC hlt) ?_
   rw [an hlt] at hu1;(have hu1:=ac hu1;subst hu1);rfl
  rw [hdrop] at q'
  refine lQ (jw hx hn1 (λ h2 hn2 hs2=>?_) (by refine af F1.kind ?_;rfl))
  have S2:bb (·=au.locals) Hc h1 Hc h2:=bb.store hn1 hn2 hs2 rfl
  have I2:cb cx Hc h2:=I1.store hn1 hs2 F1.free F1.aboveL
  have r1:VRel cx h2 u1 v:=J.val i v u1 h2 hP hu1 ((λ a o e i=>S2.imm a o (S1.imm a o (kI' a o e i) i) i))
  have F2:Fm cx au nm Hc (ρ0.set t (some u1)) h2:=by refine af (iP (hρ _)) ?_;exact F1.store hnm hx hn1 hn2 hs2 r1
  have hIL:I≠au.locals:=λ z=>by
   refine iZ hn1 λ ob es ep e d Z=>?_
   rw [<-z,hoI1] at e;(have e:=ac e;subst e)
   exact kpI1.no_dict.1 _ _ d
  have hst2:St (i+1) h2:=J.keep st1 S2 I1.base I2.base fI' (λ a e=>(fu' a e).1) hIL λ a e=>(fu a e).2.2.1
  have k2:fx P0 cx A au nm D H0 s0 Hc (ρ0.set t (some u1)) acc' {s' with heap:=h2,toks:=tk1+1}:=by
   refine aL k.acc λ aB w1_ hr=>(bu w1_ λ nn hp=>?_)
   refine ⟨F2,(k.stk.step S1).step S2,I2,⟨aB,⟨nn,S2.kp _ _ (S1.kp _ _ hp (.inl ⟨_,_,rfl⟩) k.fD hDI) (.inl ⟨_,_,rfl⟩) k.fD hDC⟩,(hr.mono S1.imm _).mono S2.imm _⟩,k.fD,?_,k.same.trans ⟨rfl,rfl,rfl⟩⟩
   exact (k.step.chg nI k1').absorb S2 λ b z=>z▸nC
  refine aq (htst u1 _ Hc _ F2 k2.stk I2 q') (λ ok s3 h3=>?_) λ e s3 h3=>h3.no.elim
  obtain ⟨H3,q3,I3,S3,M3⟩:=h3
  have k3:=k2.eval I3 S3 M3
  have hst3:St (i+1) s3.heap:=J.keep hst2 S3 I2.base I3.base fI' (λ a e=>(fu' a e).1) id λ Z Z=>id
  have fI3:ci H3 I:=S3.free (S2.kp I oI1 hoI1 kpI1 fI' hIL) fI'
  have kI3:bP h0 s3.heap:=λ a o e i=>S3.imm a o (S2.imm a o (S1.imm a o (kI' a o e i) i) i) i
  have fu2:∀a,u=.ref a->∃o,h2.get? a=some o:=λ a e=>by
   exact bu ((fu' a e).2) λ o ho=>(bu (S1.there a o ho) λ o1 ho1=>(S2.there a o1 ho1))
  have fu3:∀a,u=.ref a->ci H3 a/\∃o,s3.heap.get? a=some o:=λ a e=>⟨S3.free (fu2 a e).choose_spec (fu' a e).1,S3.there a _ (fu2 a e).choose_spec⟩
  cases ok with
  |false=>
   simp only [ch,if_false]
   exact ⟨us.length+1 -(i+1),gB (iM hlt) (dH i),i+1,acc',H3,ρ0.set t (some u1),rfl,hlt,cK ‹_›,hst3,q3,k3,λ v=>by (exact af (jN _) rfl),fI3,fu3,kI3⟩
  |true=>
   simp only [if_true]
   refine aq (helt u1 _ H3 _ k3.fm k3.stk I3 q3) (λ y s4 h4=>?_) λ e s3 h3=>h3.no.elim
   obtain ⟨w,H4,q4,r4,I4,S4,M4⟩:=h4
   have k4:=k3.eval I4 S4 M4
   have hst4:St (i+1) s4.heap:=J.keep hst3 S4 I3.base I4.base fI3 (λ a e=>(fu3 a e).1) id λ Z Z=>id
   refine aL k4.acc λ aB w1_ hr=>(bu w1_ λ nn hp=>?_)
   have hsz:aB.size=acc'.length:=by have:=hr.len;simpa using this
   refine By (hsz:=by lia) ⟨nn,hp⟩ λ h5 hl5 hs5=>(bu hl5 λ n5 hp5=>?_)
   have hkb:∀b o,b≠D->s4.heap.get? b=some o->h5.get? b=some o:=λ b o n e=>(hs5.2 b n).trans e
   have niD:¬tF ({cls:=.type "list",data:=.seq aB nn}:xQ):=by
    rintro (⟨_,_,_,z⟩|⟨_,z,_⟩)
    ·exact absurd (show cO "list"=cO "tuple" from z) (by decide)
    ·cases z
   have S5:bb (·=D) H4 s4.heap H4 h5:=bb.only hp niD (λ Z Z z=>by cases z) hp5 rfl hkb
   have I5:cb cx H4 h5:=I4.at_free k4.fD hb hp niD hkb
   have fI4:ci H4 I:=by
    exact aL (J.kpI _ _ hst3) λ o ho Z=>(S4.free ho fI3)
   have fu4:∀a,u=.ref a->ci H4 a/\∃o,s4.heap.get? a=some o:=λ a e=>⟨S4.free (fu3 a e).2.choose_spec (fu3 a e).1,S4.there a _ (fu3 a e).2.choose_spec⟩
   refine ⟨us.length+1 -(i+1),gB (iM hlt) (dH i),i+1,acc'++[w],H4,ρ0.set t (some u1),rfl,hlt,by (refine af az (af aU ?_));exact cw ‹_›,?_,q4,?_,λ v=>by (exact af (jN _) rfl),fI4,λ a e=>⟨(fu4 a e).1,S5.there a _ (fu4 a e).2.choose_spec⟩,λ a o e i=>S5.imm a o (S4.imm a o (kI3 a o e i) i) i⟩
   ·exact J.keep hst4 S5 I4.base I5.base fI4 (λ a e=>(fu4 a e).1) (fQ hDI) λ a e=>(fu a e).2.1
   ·refine ⟨k4.fm.but hp (.inl ⟨_,_,rfl⟩) niD hkb,k4.stk.step S5,I5,⟨_,⟨n5,hp5⟩,?_⟩,k4.fD,k4.step.absorb S5 (λ b z=>z▸nD),k4.same.trans ⟨rfl,rfl,rfl⟩⟩
    refine af Bz ?_
    exact VRels.app (hr.mono S5.imm _) (.one (VRel.mono S5.imm _ r4))
 ·have hin:i=us.length:=jK ‹_› (du.mp ‹_›)
  subst hin
  refine J.W.done _ _ _ hst' λ h1 tk1 k1=>?_
  have k1':∀b o,b≠I->s'.heap.get? b=some o->h1.get? b=some o:=λ b o n e=>k1 b o (by simpa using n) e
  rw [i5] at q'
  refine aL k.acc λ aB w1_ hr=>(bu w1_ λ nn hp=>?_)
  have ki:bP s'.heap h1:=λ b ob e i=>k1' b ob (λ z=>by rw [z,hoI] at e;cases e;exact niI i) e
  exact hR {s' with heap:=h1,toks:=tk1} Hc acc' ρc ⟨k.fm.but hoI kpI niI k1',k.stk.but hoI kpI k1',k.inv.at_free fI' hbI hoI niI k1',⟨aB,⟨nn,k1' _ _ hDI hp⟩,hr.mono ki _⟩,k.fD,k.step.chg nI k1',k.same.trans ⟨rfl,rfl,rfl⟩⟩ hρ hlen q'
theorem A_:∀p,U_ p:=bB P_
end jn
section
variable {cx:Cx}
theorem jn {cx A R s0 H0 P0 px fH x ifs au nm D I h0 u us St t ρ0 s acc Q} (el cond):jn.S_ cx A R s0 H0 P0 px fH x ifs au nm D I h0 u us St t ρ0 s acc el cond Q:=jn.A_ (cx,A,R,s0,H0,P0,px,fH,x,ifs,au,nm,D,I,h0,u,us,St,t,ρ0,s,acc,el,cond,Q)
end
noncomputable def clFrom (cells:List (aw×aI)):List (aw×je)->List (aw×aI)->List (aw×aI)
 |[],cs=>cs
 |(n,k)::r,cs=>if k==.free then clFrom cells r ((n,(cells.lookup n).getD 0)::cs) else clFrom cells r cs
theorem mR (h:∀y∈scope.names,y.2=.free->∃c,au.cells.lookup y.1=some c):closureFor scope au=pure (clFrom au.cells scope.names []):=by
 have go:∀(l:List (aw×je)) (cs:List (aw×aI)),(∀y∈l,y.2=.free->∃c,au.cells.lookup y.1=some c)->
   (forIn (m:=uY) l cs λ x r=>match x with
    |(name,kind)=>if (kind==eJ)=true then cellOf au name>>=λ a=>pure (bX ((name,a)::r)) else pure (bX r))=pure (clFrom au.cells l cs):=by
  intro l
  induction l with
  |nil=>intro cs _;rfl
  |cons y r ih=>
   intro cs hl
   obtain ⟨n,k⟩:=y
   rw [su]
   by_cases q:(k==eJ)=true
   ·refine bu (hl (n,k) (.head _) (by simpa using q)) λ c hc=>?_
    have e:cellOf au n=pure c:=by unfold cellOf;(exact af hc rfl)
    simp only [q,if_true,e,clFrom,hc,BA]
    exact ih _ λ y hy=>hl y (.tail _ hy)
   ·simp only [q,if_false,clFrom]
    exact ih _ λ y hy=>hl y (.tail _ hy)
 unfold closureFor
 have:=go scope.names [] h
 dsimp only at this⊢
 refine af this ?_
 rfl
theorem uz:∀{l:List (aw×je)} {cs:List (aw×aI)} {n:aw} {c:aI},(∀y∈l,y.2=.free->∃c,cells.lookup y.1=some c)->(∀n c,cs.lookup n=some c->cells.lookup n=some c)->(clFrom cells l cs).lookup n=some c->cells.lookup n=some c
 |[],cs,n,c,_,h,e=>h n c e
 |(m,k)::r,cs,n,c,hl,h,e=>by
  unfold clFrom at e
  by_cases q:(k==eJ)=true
  ·rw [if_pos q] at e
   refine bu (hl (m,k) (.head _) (by simpa using q)) λ c1 hc=>(uz (λ y hy=>hl y (.tail _ hy)) (λ n' c' e'=>?_) e)
   rw [aG] at e'
   by_cases z:n'=m
   ·subst z;simp only [beq_self_eq_true,hc,BA] at e';(have e':=ac e';subst e');exact hc
   ·rw [show (n'==m)=false from beq_eq_false_iff_ne.mpr z] at e';exact h _ _ e'
  ·rw [if_neg q] at e
   exact uz (λ y hy=>hl y (.tail _ hy)) h e
theorem uH:∀{l:List (aw×je)} {cs:List (aw×aI)} {n:aw},(n,eJ)∈l\/(∃c,cs.lookup n=some c)->∃c,(clFrom cells l cs).lookup n=some c
 |[],cs,n,h=>h.elim (λ h=>by cases h) id
 |(m,k)::r,cs,n,h=>by
  unfold clFrom
  by_cases q:(k==eJ)=true
  ·refine af (if_pos q) ?_
   refine uH ?_
   by_cases z:n=m
   ·exact .inr ⟨_,by (exact af aG (af z (af (beq_self_eq_true _) rfl)))⟩
   ·rcases h with h|⟨c,h⟩
    ·rcases aY.mp h with h|h
     ·exact absurd (congrArg Prod.fst h) z
     ·exact .inl h
    ·exact .inr ⟨c,by (refine af aG (af (show (n==m)=false from beq_eq_false_iff_ne.mpr z) ?_));exact h⟩
  ·refine af (if_neg q) ?_
   refine uH ?_
   rcases h with h|h
   ·rcases aY.mp h with h|h
    ·cases h;exact absurd rfl q
    ·exact .inl h
   ·exact .inr h
theorem lookup_mem {α β:Type} [BEq α] [LawfulBEq α]:∀{l:List (α×β)} {x:α} {y:β},l.lookup x=some y->(x,y)∈l
 |[],_,_,h=>by cases h
 |(a,b)::r,x,y,h=>by
  rw [aG] at h
  by_cases z:x=a
  ·subst z;rw [beq_self_eq_true] at h;(have h:=ac h;subst h);exact .head _
  ·rw [show (x==a)=false from beq_eq_false_iff_ne.mpr z] at h;exact .tail _ (lookup_mem h)
theorem vz {au:i4} (hk:au.scope.kind=.function):∀{names:List (aw×je)} {x:aw},names.lookup x=some .free->au.kindOf x=some .cell->
  (names.map λ (n,k)=>if (k==eJ&&au.scope.kind==.function&&au.kindOf n==some .cell) then (n,sv) else (n,k)).lookup x=some .cell
 |[],_,h,_=>by simp at h
 |(n,k)::r,x,h,hc=>by
  have ih:=@vz au hk r x
  show hV x ((if (k==eJ&&au.scope.kind==.function&&au.kindOf n==some .cell)=true then (n,sv) else (n,k))::_)=_
  by_cases z:x=n
  ·subst z
   rw [aG,beq_self_eq_true] at h
   (have h:=ac h;subst h)
   rw [if_pos (by (refine af hk (af hc ?_));rfl),aG,beq_self_eq_true]
  ·rw [aG,show (x==n)=false from beq_eq_false_iff_ne.mpr z] at h
   split<;>(refine af aG (af (show (x==n)=false from beq_eq_false_iff_ne.mpr z) ?_))<;>exact ih h hc
theorem Dq {au:i4} {names:List (aw×je)} (hn:∀y∈names,y.2≠.cell)
  (h:(names.map λ (n,k)=>if (k==eJ&&au.scope.kind==.function&&au.kindOf n==some .cell) then (n,sv) else (n,k)).lookup x=some .cell):(x,eJ)∈names:=by
 refine aL (bC.mp (lookup_mem h)) λ w1_ h1 h2=>?_
 obtain ⟨n,k⟩:=w1_
 dsimp only at h2
 split at h2
 ·rename_i q
  cases h2
  simp only [bG,beq_iff_eq] at q
  exact af q.1.1.symm h1
 ·cases h2;exact absurd rfl (hn _ h1)
theorem yA {nm:List aw}:∀{fr:List Nat} {j:Nat} {y:aw},(∀i∈fr,∃y,nm[i]?=some y)->(fr.filterMap λ i=>nm[i]?)[j]?=some y->∃i,fr[j]?=some i/\nm[i]?=some y
 |[],j,y,_,h=>by simp at h
 |i::fr,j,y,hf,h=>by
  refine bu (hf i (.head _)) λ z hz=>?_
  rw [nH,hz] at h
  cases j with
  |zero=>simp at h;subst h;exact ⟨i,rfl,hz⟩
  |succ j=>
   exact aL (yA (λ i hi=>hf i (.tail _ hi)) (by simpa using h)) λ i' a b=>⟨i',by simpa using a,b⟩
theorem yY {nm:List aw}:∀{fr:List Nat},(∀i∈fr,∃y,nm[i]?=some y)->(fr.filterMap λ i=>nm[i]?).length=fr.length
 |[],_=>rfl
 |i::fr,hf=>by
  refine bu (hf i (.head _)) λ z hz=>?_
  exact af nH (af hz (af aP (af aP (af (yY λ i hi=>hf i (.tail _ hi)) rfl))))
structure kH (scope:gA) (au:i4) (nm:List aw) (own:List aw) (fr:List Nat):Prop where
 kind:scope.kind=.function
 nd:(own++fr.filterMap λ i=>nm[i]?).Nodup
 fr:∀i∈fr,∃y,nm[i]?=some y/\scope.names.lookup y=some .free/\au.kindOf y=some .cell
 own:∀y∈own,scope.names.lookup y=some .local
 cell:∀y∈scope.names,y.2≠.cell
 loc:∀y∈scope.names,y.2=.local->scope.names.lookup y.1=some .local
 free:∀y∈scope.names,y.2=.free->au.kindOf y.1=some .cell
namespace Fm.comp
def S_ (cx au nm ρ h scope own fr C):=∀{H:MH} {m0:aw->Option av} (F:Fm cx au nm H ρ h) (S:kH scope au nm own fr) (hC:h.Ns C m0) (fC:ci H C) (hb:cx.base.objs.size<=C),Fm cx (compEnvC scope (clFrom au.cells scope.names []) C au) (own++fr.filterMap λ i=>nm[i]?) H (framesOf ρ own fr) h
def U_:=UV λ cx au nm=>UV λ ρ h scope=>UU λ own=>UU λ fr=>S_ cx au nm ρ h scope own fr
def t_:=dr (by have:=ti;infer_instance) U_
def cx:=t_.1
def au:=t_.2.1
def nm:=t_.2.2.1
def ρ:=t_.2.2.2.1
def h:=t_.2.2.2.2.1
def scope:=t_.2.2.2.2.2.1
def s1_:=t_.2.2.2.2.2.2
def own:=s1_.1
def fr:=s1_.2.1
def C:=s1_.2.2
theorem P_:S_ cx au nm ρ h scope own fr C:=by
 intro H m0 F S hC fC hb
 refine cu F.slots λ m cm a b c=>?_
 have hfr:∀i∈fr,∃y,nm[i]?=some y:=λ i hi=>let ⟨y,e,_⟩:=S.fr i hi;⟨y,e⟩
 have hcl:∀y∈scope.names,y.2=.free->∃c,au.cells.lookup y.1=some c:=λ y hy e=>F.cellsAll _ (S.free y hy e)
 have cs:∀n c,(clFrom au.cells scope.names []).lookup n=some c->au.cells.lookup n=some c:=λ n c e=>uz hcl (λ Z Z e=>by cases e) e
 have hlen:(framesOf ρ own fr).length=(own++fr.filterMap λ i=>nm[i]?).length:=by
  exact af az (af az (af (ag _) (af (ag _) (af (yY hfr) rfl))))
 refine ⟨S.kind,F.glob,F.blt,S.nd,hlen,λ n1 c1 n2 c2 e1 e2=>F.apart n1 c1 n2 c2 (cs _ _ e1) (cs _ _ e2),hb,λ n c e=>F.aboveC n c (cs _ _ e),λ x e=>uH (.inl (Dq S.cell e)),fC,m0,cm,hC,λ n c e=>b n c (cs _ _ e),λ i x e=>?_⟩
 by_cases q:i<own.length
 ·rw [eK q] at e
  refine .inl ⟨Fh (S.own x (aZ e)),λ u hu=>?_⟩
  unfold framesOf da.at at hu
  rw [eK (by exact af (ag _) q),aF,e] at hu
  cases hu
 ·rw [fV (du.mp q)] at e
  refine aL (yA hfr e) λ j e1 e2=>(cI (S.fr j (aZ e1)) λ y g1 g2 g3=>?_)
  rw [e2] at g1;(have g1:=ac g1;subst g1)
  refine bu (uH (cells:=au.cells) (l:=scope.names) (cs:=[]) (n:=x) (.inl (lookup_mem g2))) λ c0 hc0=>(.inr ⟨.inl (vz F.kind g2 g3),⟨c0,hc0⟩,λ u hu=>?_⟩)
  unfold framesOf da.at at hu
  rw [fV (by refine af (ag _) ?_;exact du.mp q),ag,aF,e1] at hu
  rcases c j x e2 with ⟨c1,_⟩|⟨_,_,c3⟩
  ·rw [c1] at g3;cases g3
  ·exact c3 u hu
theorem A_:∀p,U_ p:=bB P_
end Fm.comp
theorem Fm.comp {cx au nm ρ h scope own fr C}:Fm.comp.S_ cx au nm ρ h scope own fr C:=Fm.comp.A_ (cx,au,nm,ρ,h,scope,own,fr,C)
theorem oY (H:MH) (u:V):MH.Sub (asideOf H u) H:=by
 unfold asideOf
 split
 ·exact y7 _ _
 ·exact .refl
section
variable {cx:Cx}
theorem iB (hi:itemsOf H (.ref a)=some us):H a=some (.list us):=by
 unfold itemsOf at hi
 dsimp only at hi
 set_option tactic.hygienic true in split at hi
 ·rename_i us' e;(have hi:=ac hi;subst hi);exact e
 ·exact bH hi
theorem lh (I:cb cx H h) (hi:itemsOf H u=some us) (e:u=.ref a):ci (asideOf H u) a:=by
 subst e
 have:=iB hi
 refine ⟨MH.del_self _ _,λ b c as z=>?_⟩
 have z:(H.del a) b=_:=z
 by_cases q:b=a
 ·subst q;rw [MH.del_self] at z;exact bH z
 ·rw [MH.del_ne _ q] at z
  rw [(I.sep _ _ _ _ z).1] at this;exact bH this
theorem ut (hi:itemsOf H u=some us):backOf H H' u=H'\/∃a,u=.ref a/\H a=some (.list us)/\backOf H H' u=H'.set a (.list us):=by
 unfold backOf
 split
 ·have:=iB hi
  simp only [this]
  exact .inr ⟨_,rfl,this,rfl⟩
 ·exact .inl rfl
theorem bb.back (hi:itemsOf H u=some us) (S:bb P (asideOf H u) h H' h'):bb P H h (backOf H H' u) h':=by
 have sub:∀{b},ci H b->ci (asideOf H u) b:=λ f=>(oY H u).free f
 refine ⟨S.imm,λ a m e f p=>S.ns a m e (sub f) p,S.cell,λ a m e f=>S.nsP a m e (sub f),λ a f n=>?_,S.there,λ a o e k f p=>S.kp a o e k (sub f) p⟩
 rcases ut (H':=H') hi with e|⟨b,_,hb,e⟩
 ·rw [e] at n;exact S.fresh a (sub f) n
 ·rw [e] at n
  have hab:a≠b:=λ z=>by subst z;exact fq hb f
  exact S.fresh a (sub f) λ f'=>n (l7 (ij rfl) f' hab)
theorem cb.back (I:cb cx H h) (hi:itemsOf H u=some us) (S:bb P (asideOf H u) h H' h') (I':cb cx H' h') (hp:∀a,u=.ref a->¬P a):cb cx (backOf H H' u) h':=by
 rcases ut (H':=H') hi with e|⟨a,rfl,ha,e⟩
 ·exact af e I'
 ·refine af e ?_
  refine fZ (I.own a _ ha) λ aB n ho hr=>?_
  have f:=lh I hi rfl
  refine I'.take (ij rfl) (S.free ho f) (I.old a (fq ha)) ⟨aB,n,S.kp a _ ho (.inl ⟨_,_,rfl⟩) f (hp a rfl),hr.mono S.imm _⟩
theorem pa (hi:itemsOf H u=some us) (f:ci H' c) (hu:u≠.ref c):ci (backOf H H' u) c:=by
 rcases ut (H':=H') hi with e|⟨a,rfl,ha,e⟩
 ·exact af e f
 ·refine af e ?_;exact l7 (ij rfl) f λ z=>hu (by (exact af z rfl))
end
section
variable {cx:Cx}
end
namespace jp
def S_ (cx:Cx) (A:dy) (E:av->ax->Prop) (au:i4) (nm:List aw) (H:MH) (ρ:da) (s:ax) (scope:gA) (own:List aw) (fr:List Nat) (fH target iter:Expr) (ifs:List Expr) (rest:List Bm) (pos:Bx) (us:List V) (qe:Option (av->uY Unit)) (Q:List V->MH->Prop) (QQ):=∀{u:V} {x:av} (hA:A.handled=none) (F:Fm cx au nm H ρ s.heap) (S:kH scope au nm own fr) (st:iC cx A H s.heap) (I:cb cx H s.heap) (ru:VRel cx s.heap u x) (hi:itemsOf H u=some us) (loop:∀cenv D It fp P St s' (R:HQ->ax->Prop),cenv.scope=qb scope au->yB cx A s.heap u us It fp P St->St 0 s'.heap->s.heap.get? D=none->s.heap.get? It=none->s.heap.get? cenv.locals=none->cx.base.objs.size<=D->cx.base.objs.size<=It->D≠It->D≠cenv.locals->
   fx fc cx A cenv (own++fr.filterMap λ i=>nm[i]?) D (asideOf H u) s (asideOf H u) (framesOf ρ own fr) [] s'->ci (asideOf H u) It->(∀a,u=.ref a->ci (asideOf H u) a/\a≠D/\a≠cenv.locals/\a≠It/\∃o,s'.heap.get? a=some o)->bP s.heap s'.heap->
   (∀s'' H' acc' ρ',fx fc cx A cenv (own++fr.filterMap λ i=>nm[i]?) D (asideOf H u) s H' ρ' acc' s''->Q acc' H'->R (.ok .next) s'')->
   eS (ay cx.prog cx.w) A (.compLoop (.ListComp fH (⟨target,iter,ifs,0⟩::rest) scope pos) 0 (.ref It) (.ref D) cenv) R s') (fe:∀D C s' H' acc' m,Q acc' H'->s.heap.get? C=none->cx.base.objs.size<=C->s'.heap.Ns C m->D≠C->ci ((backOf H H' u).set D (.list acc')) C->backOf H H' u D=none->
   cb cx ((backOf H H' u).set D (.list acc')) s'.heap->bb fc H s.heap ((backOf H H' u).set D (.list acc')) s'.heap->dR s s'->Fi (ay cx.prog cx.w) A E qe QQ (.ref D) C (.ok .next) s'),aE (ay cx.prog cx.w) A (xX x) (λ it s₂=>aE (ay cx.prog cx.w) A (DL []) (λ acc s₃=>aE (ay cx.prog cx.w) A (newFunctionEnv scope au.globals (clFrom au.cells scope.names []) [] au.qual none .none (some au)) (λ cenv s₄=>
   eS (ay cx.prog cx.w) A (.compStart (.ListComp fH (⟨target,iter,ifs,0⟩::rest) scope pos) 0 it acc {cenv with scope:=qb scope au}) (Fi (ay cx.prog cx.w) A E qe QQ acc cenv.locals) s₄) E s₃) E s₂) E s
def U_:=UV λ cx A E=>UV λ au nm H=>UV λ ρ s scope=>UV λ own fr fH=>UV λ target iter ifs=>UV λ rest pos us=>UU λ qe=>UU λ Q=>S_ cx A E au nm H ρ s scope own fr fH target iter ifs rest pos us qe Q
def t_:=dr (by have:=qf;have:=p5;have:=ti;infer_instance) U_
def cx:=t_.1
def A:=t_.2.1
def E:=t_.2.2.1
def au:=t_.2.2.2.1
def nm:=t_.2.2.2.2.1
def H:=t_.2.2.2.2.2.1
def s1_:=t_.2.2.2.2.2.2
def ρ:=s1_.1
def s:=s1_.2.1
def scope:=s1_.2.2.1
def own:=s1_.2.2.2.1
def fr:=s1_.2.2.2.2.1
def fH:=s1_.2.2.2.2.2.1
def s2_:=s1_.2.2.2.2.2.2
def target:=s2_.1
def iter:=s2_.2.1
def ifs:=s2_.2.2.1
def rest:=s2_.2.2.2.1
def pos:=s2_.2.2.2.2.1
def us:=s2_.2.2.2.2.2.1
def s3_:=s2_.2.2.2.2.2.2
def qe:=s3_.1
def Q:=s3_.2.1
def QQ:=s3_.2.2
theorem P_:S_ cx A E au nm H ρ s scope own fr fH target iter ifs rest pos us qe Q QQ:=by
 intro u x hA F S st I ru hi loop fe
 refine ql hA I ru hi λ fp P St h1 J k1 z1 st1=>(cX (wpAny_newFunctionEnv S.cell (by intro y hy;simp at hy) (λ h2 hn2 hs2=>?_) S.kind))
 dsimp only at hn2 hs2⊢
 generalize hH2:h1.push {cls:=.type "list",dict:=none,data:=.seq ([]:List av).toArray}=g2 at hn2 hs2⊢
 have zC:g2.objs.size=h1.objs.size+1:=by (exact af hH2.symm (af (eE _ _) rfl))
 have hb:cx.base.objs.size<=s.heap.objs.size:=F.lok.le
 have nI:s.heap.get? s.heap.objs.size=none:=dN (bW _)
 have nD:s.heap.get? h1.objs.size=none:=dN (by lia)
 have nC:s.heap.get? g2.objs.size=none:=dN (by lia)
 have w1:(h1.objs.size:Nat)≠g2.objs.size:=by lia
 have w2:(h1.objs.size:Nat)≠s.heap.objs.size:=by lia
 have w3:cx.base.objs.size<=(h1.objs.size:Nat):=by lia
 have w4:cx.base.objs.size<=(g2.objs.size:Nat):=by lia
 have w5:∀b:Nat,b<s.heap.objs.size->b≠h1.objs.size/\b≠g2.objs.size/\b≠s.heap.objs.size:=λ b e=>by lia
 have below:∀(b:Nat) o,s.heap.get? b=some o->b<s.heap.objs.size:=λ b o e=>bx e
 have k12:∀(b:Nat) o,b≠g2.objs.size->h1.get? b=some o->h2.get? b=some o:=λ b o n e=>hs2.extBut b o n (ak _ (hH2▸ak _ e))
 have k2:∀(b:Nat) o,s.heap.get? b=some o->h2.get? b=some o:=λ b o e=>k12 b o (by have:=below b o e;lia) (k1 b o e)
 have hacc:h2.PlainList h1.objs.size #[]:=⟨_,hs2.extBut _ _ w1 (ak _ (hH2▸bt _ rfl))⟩
 have sub:=oY H u
 have I2:cb cx (asideOf H u) h2:=(I.keeps k2).forget sub
 have S2:bb fc (asideOf H u) s.heap (asideOf H u) h2:=bb.keeps k2
 have st2:St 0 h2:=J.W.frame _ _ _ st1 λ b hb o e=>k12 b o (λ z=>by
  refine aL (J.fpk 0 h1 st1 b hb) λ o' e' Z=>?_
  have e2:=bx e'
  rw [z] at e2
  exact absurd e2 (du.mpr (by lia))) e
 have F2:Fm cx au nm (asideOf H u) ρ h2:=F.step ((bb.keeps k2).forget sub)
 have fC:ci (asideOf H u) g2.objs.size:=sub.free (I.free nC)
 have FC:=F2.comp S hn2 fC w4
 have L0:fx fc cx A (compEnvC scope (clFrom au.cells scope.names []) g2.objs.size au) (own++fr.filterMap λ i=>nm[i]?) h1.objs.size (asideOf H u) s (asideOf H u) (framesOf ρ own fr) [] {s with heap:=h2,toks:=s.toks+([]:List (aw×av)).length}:=
  ⟨FC,st.step ((bb.keeps (P:=fc) k2).forget sub),I2,⟨#[],hacc,.nil⟩,sub.free (I.free nD),S2,rfl,rfl,rfl⟩
 have run:∀s',s'=({s with heap:=h2,toks:=s.toks+([]:List (aw×av)).length}:ax)->eS (ay cx.prog cx.w) A (.compLoop (.ListComp fH (⟨target,iter,ifs,0⟩::rest) scope pos) 0 (.ref s.heap.objs.size) (.ref h1.objs.size) (compEnvC scope (clFrom au.cells scope.names []) g2.objs.size au))
   (Fi (ay cx.prog cx.w) A E qe QQ (.ref h1.objs.size) g2.objs.size) s':=by
  rintro s' rfl
  refine loop _ _ _ fp P St _ _ rfl J st2 nD nI nC w3 hb w2 w1 L0 (sub.free (I.free nI)) (λ a e=>?_) (bP.of_keeps k2) λ s'' H' acc' ρ' L q=>?_
  ·subst e
   refine fZ (I.own a _ (iB hi)) λ aB n ho Z=>?_
   have:=w5 _ (below _ _ ho)
   exact ⟨lh I hi rfl,this.1,this.2.1,this.2.2,_,k2 _ _ ho⟩
  ·refine fZ L.fm.slots λ m cm hn Z=>(aL L.acc λ aB w1_ hr=>(bu w1_ λ n ho=>?_))
   have B:=cb.back I hi L.step L.inv λ Z Z=>id
   have SB:=bb.back hi L.step
   have huD:u≠.ref h1.objs.size:=λ e=>by
    subst e
    exact fZ (I.own _ _ (iB hi)) λ aB n ho Z=>((w5 _ (below _ _ ho)).1 rfl)
   have huC:u≠.ref g2.objs.size:=λ e=>by
    subst e
    exact fZ (I.own _ _ (iB hi)) λ aB n ho Z=>((w5 _ (below _ _ ho)).2.1 rfl)
   have fD:=pa hi L.fD huD
   have fC':ci H' g2.objs.size:=L.fm.free
   refine fe _ _ _ H' acc' m q nC w4 hn w1 (l7 (ij rfl) (pa hi fC' huC) w1.symm) fD.1 (B.take (ij rfl) fD w3 ⟨aB,n,ho,hr⟩) (SB.take (ij rfl) nD) L.same
 exact codeAny_compStart_list (run _ rfl) (J.W.self 0 _ _ _ st2 (run _ rfl))
theorem A_:∀p,U_ p:=bB P_
end jp
section
variable {cx:Cx}
theorem jp {cx A E au nm H ρ s scope own fr fH target iter ifs rest pos us qe Q QQ}:jp.S_ cx A E au nm H ρ s scope own fr fH target iter ifs rest pos us qe Q QQ:=jp.A_ (cx,A,E,au,nm,H,ρ,s,scope,own,fr,fH,target,iter,ifs,rest,pos,us,qe,Q,QQ)
end
section
variable {prog:cQ}
theorem xF (hg:(g'.is_async !=0)=false)
  (h0:eS (ay prog w) A (.compLoop (.ListComp fH [g,g'] scope pos) 1 it acc au) R s)
  (h:aE (ay prog w) A (xX it) (λ it' s'=>eS (ay prog w) A (.compLoop (.ListComp fH [g,g'] scope pos) 1 it' acc au) R s')
   (kU (ay prog w) A au λ x s'=>R (.error x) s') s):
  eS (ay prog w) A (.compStart (.ListComp fH [g,g'] scope pos) 1 it acc au) R s:=by
 refine codeAny_of_tree ?_
 refine wpAny_notedAt ?_
 unfold compStart
 refine af (show ((clausesOf (.ListComp fH [g,g'] scope pos))[1]?).elim false (·.is_async !=0)=false from hg) ?_
 refine ae (wpAny_askSetting (wpAny_ite ?_))
 split
 ·first
   |exact ae (ah (ah (aj rfl h0)))
   |exact ah (aj rfl h0)
 ·first
   |exact ae (jI (ae (cq (ae (aq h (λ it' s' h'=>ah (aj rfl h')) λ Z Z x=>x)))))
   |(refine ae (jI ?_);show aE _ _ (ta g'.iter.pos>>=_) _ _ s;exact ae (cq (ae (aq h (λ it' s' h'=>ah (aj rfl h')) λ Z Z x=>x))))
end
namespace jV
def S_ (prog:cQ) (w:f7) (A:dy) (R:HQ->ax->Prop) (scope:gA) (pos px p2:Bx) (fH iter dW d:Expr) (x x2:aw) (it acc:av) (au:i4) (I:Nat->ax->Prop):=∀(s:ax) (hns:∀v,jf dW au v=pure v) (turn:∀n s,I n s->aE (ay prog w) A (uS it) (λ r s₁=>match r with
   |none=>R (.ok .next) s₁
   |some v=>aE (ay prog w) A (assign (.Name x px) au v) (λ Z s₂=>
     aE (ay prog w) A (isTrue d au (eval d au)) (λ ok s₃=>
      if ok=true then aE (ay prog w) A (eval dW au) (λ y s₄=>aE (ay prog w) A (xX y) (λ it2 s₅=>
       eS (ay prog w) A (.compStart (.ListComp fH [⟨.Name x px,iter,[d],0⟩,⟨.Name x2 p2,dW,[],0⟩] scope pos) 1 it2 acc au) (λ r s₆=>match r with
        |.ok _=>∃m,m<n/\I m s₆
        |.error _=>False) s₅) (λ Z Z=>False) s₄) (λ Z Z=>False) s₃
      else ∃m,m<n/\I m s₃) (λ Z Z=>False) s₂) (λ Z Z=>False) s₁) (λ Z Z=>False) s) (n:Nat) (h:I n s),eS (ay prog w) A (.compLoop (.ListComp fH [⟨.Name x px,iter,[d],0⟩,⟨.Name x2 p2,dW,[],0⟩] scope pos) 0 it acc au) R s
def U_:=UV λ prog w A=>UV λ R scope pos=>UV λ px p2 fH=>UV λ iter dW d=>UV λ x x2 it=>UU λ acc=>UU λ au=>S_ prog w A R scope pos px p2 fH iter dW d x x2 it acc au
def t_:=dr (by have:=qf;have:=p5;have:=vU;infer_instance) U_
def prog:=t_.1
def w:=t_.2.1
def A:=t_.2.2.1
def R:=t_.2.2.2.1
def scope:=t_.2.2.2.2.1
def pos:=t_.2.2.2.2.2.1
def s1_:=t_.2.2.2.2.2.2
def px:=s1_.1
def p2:=s1_.2.1
def fH:=s1_.2.2.1
def iter:=s1_.2.2.2.1
def dW:=s1_.2.2.2.2.1
def d:=s1_.2.2.2.2.2.1
def s2_:=s1_.2.2.2.2.2.2
def x:=s2_.1
def x2:=s2_.2.1
def it:=s2_.2.2.1
def acc:=s2_.2.2.2.1
def au:=s2_.2.2.2.2.1
def I:=s2_.2.2.2.2.2
theorem P_:S_ prog w A R scope pos px p2 fH iter dW d x x2 it acc au I:=by
 intro s hns turn n h
 refine codeAny_loop rfl I (λ n s hI=>?_) n h
 refine wpAny_noted ?_
 show aE _ A (do
  ta iter.pos
  match<-uS it with
  |none=>pure (.done .next)
  |some v=>
   iy (.Name x px) it v
   assign (.Name x px) au v
   let mut ok:=true
   for c in [d] do
    if ok then ok<-isTrue c au (eval c au)
   if ok then
    let y<-eval dW au
    ta dW.pos
    let y<-jf dW au y
    let _<-runOwn (.compStart (.ListComp fH [⟨.Name x px,iter,[d],0⟩,⟨.Name x2 p2,dW,[],0⟩] scope pos) 1 (<-Ix [y] (xX y)) acc au) au
   again (.compLoop (.ListComp fH [⟨.Name x px,iter,[d],0⟩,⟨.Name x2 p2,dW,[],0⟩] scope pos) 0 it acc au)) _ _ s
 refine ae (cq (ae (aq (turn n s hI) (λ r s₁ h₁=>?_) λ Z Z h'=>h'.elim)))
 cases r with
 |none=>exact ah h₁
 |some v=>
  refine ae (lP (show iy (.Name x px) it v=pure () by rfl) ?_)
  refine ae (aq h₁ (λ Z s₂ h₂=>ae (aq (wpAny_tests_one h₂) (λ ok s₃ h₃=>?_) λ Z Z h'=>h'.elim)) λ Z Z h'=>h'.elim)
  cases ok with
  |false=>exact ah ⟨rfl,h₃⟩
  |true=>
   refine ae (aq h₃ (λ y s₄ h₄=>ae (cq (ae (lP (hns y) (ae (bz (aq h₄ (λ it2 s₅ h₅=>?_) λ Z Z h'=>h'.elim))))))) λ Z Z h'=>h'.elim)
   refine ae (wpAny_runOwn (h:=none) (sX h₅ λ r s₆ h₆=>?_))
   rcases r with e|f
   ·exact h₆.elim
   ·exact ah ⟨rfl,h₆⟩
theorem A_:∀p,U_ p:=bB P_
end jV
section
variable {prog:cQ}
theorem jV (hns:∀v,jf dW au v=pure v) (I:Nat->ax->Prop)
  (turn:∀n s,I n s->aE (ay prog w) A (uS it) (λ r s₁=>match r with
   |none=>R (.ok .next) s₁
   |some v=>aE (ay prog w) A (assign (.Name x px) au v) (λ Z s₂=>
     aE (ay prog w) A (isTrue d au (eval d au)) (λ ok s₃=>
      if ok=true then aE (ay prog w) A (eval dW au) (λ y s₄=>aE (ay prog w) A (xX y) (λ it2 s₅=>
       eS (ay prog w) A (.compStart (.ListComp fH [⟨.Name x px,iter,[d],0⟩,⟨.Name x2 p2,dW,[],0⟩] scope pos) 1 it2 acc au) (λ r s₆=>match r with
        |.ok _=>∃m,m<n/\I m s₆
        |.error _=>False) s₅) (λ Z Z=>False) s₄) (λ Z Z=>False) s₃
      else ∃m,m<n/\I m s₃) (λ Z Z=>False) s₂) (λ Z Z=>False) s₁) (λ Z Z=>False) s)
  (n:Nat) (h:I n s):
  eS (ay prog w) A (.compLoop (.ListComp fH [⟨.Name x px,iter,[d],0⟩,⟨.Name x2 p2,dW,[],0⟩] scope pos) 0 it acc au) R s:=
 jV.A_ (prog,w,A,R,scope,pos,px,p2,fH,iter,dW,d,x,x2,it,acc,au,I) s hns turn n h
end
theorem Fm.unset (F:Fm cx au nm H ρ h) (i:Nat):Fm cx au nm H (ρ.set i none) h:=by
 refine cu F.slots λ m cm a b c=>?_
 have at_:∀j u,da.at (ρ.set i none) j=some u->da.at ρ j=some u:=λ j u e=>by
  by_cases q:i=j
  ·subst q
   unfold da.at at e
   by_cases z:i<ρ.length
   ·rw [lO z] at e;cases e
   ·rw [List.getElem?_eq_none (by refine af jv ?_;exact du.mp ‹_›)] at e;cases e
  ·rwa [oZ q] at e
 refine ⟨F.kind,F.glob,F.blt,F.nd,by exact af jv F.len,F.apart,F.aboveL,F.aboveC,F.cellsAll,F.free,m,cm,a,b,λ j y e=>?_⟩
 rcases c j y e with ⟨c1,c2⟩|⟨c1,c2,c3⟩
 ·exact .inl ⟨c1,λ u hu=>c2 u (at_ _ _ hu)⟩
 ·exact .inr ⟨c1,c2,λ u hu=>c3 u (at_ _ _ hu)⟩
theorem fx.unset {P0 cx A au nm D H0 s0 H ρ acc s} (k:fx P0 cx A au nm D H0 s0 H ρ acc s) (i:Nat):fx P0 cx A au nm D H0 s0 H (ρ.set i none) acc s:=⟨k.fm.unset i,k.stk,k.inv,k.acc,k.fD,k.step,k.same⟩
inductive xd (el:V->V->MH->(V->MH->Prop)->Prop) (cond:V->MH->(Bool->MH->Prop)->Prop) (fh:V->MH->(List V->Prop)->Prop) (Q:List V->MH->Prop) (P0:aI->Prop) (cx:Cx) (A:dy) (au:i4) (nm:List aw) (D:aI) (H0:MH) (s0:ax) (us:List V) (St:Nat->cM->Prop) (t:Nat) (ρ0:da) (I:aI) (u:V) (h0:cM) (n:Nat) (s':ax):Prop
 |mk (i acc' Hc ρc) (g1:n=us.length+1 -i) (g2:i<=us.length) (g3:acc'.length<=i*1000) (g4:St i s'.heap) (g5:compTurns2 el cond fh (us.drop i) acc' Hc Q) (g6:fx P0 cx A au nm D H0 s0 Hc ρc acc' s')
  (g7:∀v,ρc.set t (some v)=ρ0.set t (some v)) (g8:ci Hc I) (g9:∀a,u=.ref a->ci Hc a/\∃o,s'.heap.get? a=some o) (g10:bP h0 s'.heap):xd el cond fh Q P0 cx A au nm D H0 s0 us St t ρ0 I u h0 n s'
section
variable {cx:Cx}
end
namespace jx
def S_ (cx A R s0 H0 P0 scope pos px p2 fH iter dW d x x2 au nm D I h0 u us St t ρ0 el cond fh Q):=∀{fp:List aI} {P:Nat->av->Prop} {t2:Nat} {H:MH} {s:ax} (hA:A.handled=none) (hns:∀v,jf dW au v=pure v) (J:yB cx A h0 u us I fp P St) (hst:St 0 s.heap) (hx:au.kindOf x=some .local) (hnm:nm[t]?=some x) (hx2:au.kindOf x2=some .local) (hnm2:nm[t2]?=some x2) (ht:t≠t2) (hρ2:ρ0.set t2 none=ρ0) (hz:us.length<=1000) (nD:P0 D\/s0.heap.get? D=none) (nI:s0.heap.get? I=none) (nC:P0 au.locals\/s0.heap.get? au.locals=none) (hb:cx.base.objs.size<=D) (hbI:cx.base.objs.size<=I) (hDI:D≠I) (hDC:D≠au.locals) (k0:fx P0 cx A au nm D H0 s0 H ρ0 [] s) (fI:ci H I) (fu:∀a,u=.ref a->ci H a/\a≠D/\a≠au.locals/\a≠I/\∃o,s.heap.get? a=some o) (kI:bP h0 s.heap) (htst:∀v s' H' R,Fm cx au nm H' (ρ0.set t (some v)) s'.heap->iC cx A H' s'.heap->cb cx H' s'.heap->cond v H' R->
   aE (ay cx.prog cx.w) A (isTrue d au (eval d au)) (iV cx H' s' R) (cn cx fc H' s' jU) s') (hin:∀v s' H' R,Fm cx au nm H' (ρ0.set t (some v)) s'.heap->iC cx A H' s'.heap->cb cx H' s'.heap->fh v H' R->
   aE (ay cx.prog cx.w) A (eval dW au) (bN cx H' s' λ u H2=>H2=H'/\∃ws,u=.tuple ws/\ws.length<=1000/\R ws) (cn cx fc H' s' jU) s') (helt:∀v v2 s' H' R,Fm cx au nm H' ((ρ0.set t (some v)).set t2 (some v2)) s'.heap->iC cx A H' s'.heap->cb cx H' s'.heap->el v v2 H' R->aE (ay cx.prog cx.w) A (eval fH au) (bN cx H' s' R) (cn cx fc H' s' jU) s') (q:compTurns2 el cond fh us [] H Q) (hR:∀s' H' acc' ρ',fx P0 cx A au nm D H0 s0 H' ρ' acc' s'->Q acc' H'->R (.ok .next) s'),eS (ay cx.prog cx.w) A (.compLoop (.ListComp fH [⟨.Name x px,iter,[d],0⟩,⟨.Name x2 p2,dW,[],0⟩] scope pos) 0 (.ref I) (.ref D) au) R s
def U_:=UV λ cx A R=>UV λ s0 H0 P0=>UV λ scope pos px=>UV λ p2 fH iter=>UV λ dW d x=>UV λ x2 au nm=>UV λ D I h0=>UV λ u us St=>UV λ t ρ0 el=>UU λ cond=>UU λ fh=>S_ cx A R s0 H0 P0 scope pos px p2 fH iter dW d x x2 au nm D I h0 u us St t ρ0 el cond fh
def t_:=dr (by have:=qf;have:=p5;have:=ti;infer_instance) U_
def cx:=t_.1
def A:=t_.2.1
def R:=t_.2.2.1
def s0:=t_.2.2.2.1
def H0:=t_.2.2.2.2.1
def P0:=t_.2.2.2.2.2.1
def s1_:=t_.2.2.2.2.2.2
def scope:=s1_.1
def pos:=s1_.2.1
def px:=s1_.2.2.1
def p2:=s1_.2.2.2.1
def fH:=s1_.2.2.2.2.1
def iter:=s1_.2.2.2.2.2.1
def s2_:=s1_.2.2.2.2.2.2
def dW:=s2_.1
def d:=s2_.2.1
def x:=s2_.2.2.1
def x2:=s2_.2.2.2.1
def au:=s2_.2.2.2.2.1
def nm:=s2_.2.2.2.2.2.1
def s3_:=s2_.2.2.2.2.2.2
def D:=s3_.1
def I:=s3_.2.1
def h0:=s3_.2.2.1
def u:=s3_.2.2.2.1
def us:=s3_.2.2.2.2.1
def St:=s3_.2.2.2.2.2.1
def s4_:=s3_.2.2.2.2.2.2
def t:=s4_.1
def ρ0:=s4_.2.1
def el:=s4_.2.2.1
def cond:=s4_.2.2.2.1
def fh:=s4_.2.2.2.2.1
def Q:=s4_.2.2.2.2.2
theorem P_:S_ cx A R s0 H0 P0 scope pos px p2 fH iter dW d x x2 au nm D I h0 u us St t ρ0 el cond fh Q:=by
 intro fp P t2 H s hA hns J hst hx hnm hx2 hnm2 ht hρ2 hz nD nI nC hb hbI hDI hDC k0 fI fu kI htst hin helt q hR
 refine jV hns (xd el cond fh Q P0 cx A au nm D H0 s0 us St t ρ0 I u h0) ?_ (us.length+1) ⟨0,[],H,ρ0,rfl,cS _,cS _,hst,q,k0,λ Z=>rfl,fI,λ a e=>⟨(fu a e).1,(fu a e).2.2.2.2⟩,kI⟩
 rintro n s' ⟨i,acc',Hc,ρc,rfl,hi,hlen,hst',q',k,hρ,fI',fu',kI'⟩
 refine fy (J.kpI _ _ hst') λ oI hoI kpI niI Z=>?_
 by_cases hlt:i<us.length
 ·refine J.W.item i _ _ _ hlt hst' λ v h1 tk1 hP st1 k1=>?_
  have k1':∀b o,b≠I->s'.heap.get? b=some o->h1.get? b=some o:=λ b o n e=>k1 b o (by simpa using n) e
  refine fy (J.kpI _ _ st1) λ oI1 hoI1 kpI1 niI1 Z=>?_
  have S1:bb (·=I) Hc s'.heap Hc h1:=bb.only hoI niI kpI.no_dict.1 hoI1 rfl k1'
  have I1:cb cx Hc h1:=k.inv.at_free fI' hbI hoI niI k1'
  have F1:Fm cx au nm Hc ρc h1:=k.fm.but hoI kpI niI k1'
  refine fZ F1.slots λ m Z hn1 Z=>?_
  obtain ⟨u1,hu1⟩:∃u1,us[i]?=some u1:=⟨_,an hlt⟩
  have hdrop:us.drop i=u1::us.drop (i+1):=by
   refine af (cC hlt) ?_
   rw [an hlt] at hu1;(have hu1:=ac hu1;subst hu1);rfl
  rw [hdrop] at q'
  refine lQ (jw hx hn1 (λ h2 hn2 hs2=>?_) (by refine af F1.kind ?_;rfl))
  have S2:bb (·=au.locals) Hc h1 Hc h2:=bb.store hn1 hn2 hs2 rfl
  have I2:cb cx Hc h2:=I1.store hn1 hs2 F1.free F1.aboveL
  have r1:VRel cx h2 u1 v:=J.val i v u1 h2 hP hu1 ((λ a o e i=>S2.imm a o (S1.imm a o (kI' a o e i) i) i))
  have F2:Fm cx au nm Hc (ρ0.set t (some u1)) h2:=by refine af (iP (hρ _)) ?_;exact F1.store hnm hx hn1 hn2 hs2 r1
  have hIL:I≠au.locals:=λ z=>by
   refine iZ hn1 λ ob es ep e d Z=>?_
   rw [<-z,hoI1] at e;(have e:=ac e;subst e)
   exact kpI1.no_dict.1 _ _ d
  have hst2:St (i+1) h2:=J.keep st1 S2 I1.base I2.base fI' (λ a e=>(fu' a e).1) hIL λ a e=>(fu a e).2.2.1
  have k2:fx P0 cx A au nm D H0 s0 Hc (ρ0.set t (some u1)) acc' {s' with heap:=h2,toks:=tk1+1}:=by
   refine aL k.acc λ aB w1_ hr=>(bu w1_ λ nn hp=>?_)
   refine ⟨F2,(k.stk.step S1).step S2,I2,⟨aB,⟨nn,S2.kp _ _ (S1.kp _ _ hp (.inl ⟨_,_,rfl⟩) k.fD hDI) (.inl ⟨_,_,rfl⟩) k.fD hDC⟩,(hr.mono S1.imm _).mono S2.imm _⟩,k.fD,?_,k.same.trans ⟨rfl,rfl,rfl⟩⟩
   exact (k.step.chg nI k1').absorb S2 λ b z=>z▸nC
  refine aq (htst u1 _ Hc _ F2 k2.stk I2 q') (λ ok s3 h3=>?_) λ e s3 h3=>h3.no.elim
  obtain ⟨H3,q3,I3,S3,M3⟩:=h3
  have k3:=k2.eval I3 S3 M3
  have hst3:St (i+1) s3.heap:=J.keep hst2 S3 I2.base I3.base fI' (λ a e=>(fu' a e).1) id λ Z Z=>id
  have fI3:ci H3 I:=S3.free (S2.kp I oI1 hoI1 kpI1 fI' hIL) fI'
  have kI3:bP h0 s3.heap:=λ a o e i=>S3.imm a o (S2.imm a o (S1.imm a o (kI' a o e i) i) i) i
  have fu2:∀a,u=.ref a->∃o,h2.get? a=some o:=λ a e=>by
   exact bu ((fu' a e).2) λ o ho=>(bu (S1.there a o ho) λ o1 ho1=>(S2.there a o1 ho1))
  have fu3:∀a,u=.ref a->ci H3 a/\∃o,s3.heap.get? a=some o:=λ a e=>⟨S3.free (fu2 a e).choose_spec (fu' a e).1,S3.there a _ (fu2 a e).choose_spec⟩
  cases ok with
  |false=>
   simp only [ch,if_false]
   exact ⟨us.length+1 -(i+1),gB (iM hlt) (dH i),i+1,acc',H3,ρ0.set t (some u1),rfl,hlt,by lia,hst3,q3,k3,λ v=>by (exact af (jN _) rfl),fI3,fu3,kI3⟩
  |true=>
   simp only [if_true]
   refine aq (hin u1 _ H3 _ k3.fm k3.stk I3 q3) (λ y s4 h4=>?_) λ e s3 h3=>h3.no.elim
   obtain ⟨w,H4,⟨rfl,ws,rfl,hwz,q4⟩,r4,I4,S4,M4⟩:=h4
   have k4:=k3.eval I4 S4 M4
   have hst4:St (i+1) s4.heap:=J.keep hst3 S4 I3.base I4.base fI3 (λ a e=>(fu3 a e).1) id λ Z Z=>id
   refine ql hA I4 r4 rfl λ fp5 P5 St5 h5 J5 kk5 z5 st5=>?_
   have S5:bb fc H4 s4.heap H4 h5:=bb.keeps kk5
   have I5:cb cx H4 h5:=I4.keeps kk5
   have nI5:s4.heap.get? s4.heap.objs.size=none:=dN (bW _)
   refine aL k4.acc λ items4 w1_ hr4=>(bu w1_ λ n4 hp4=>?_)
   have zz:cx.base.objs.size<=s4.heap.objs.size:=k4.fm.lok.le
   refine fZ k4.fm.slots λ m4 Z hn4 Z=>?_
   have hDI5:D≠s4.heap.objs.size:=dM (bx hp4)
   have run:∀s5,s5=({s4 with heap:=h5}:ax)->eS (ay cx.prog cx.w) A (.compLoop (.ListComp fH [⟨.Name x px,iter,[d],0⟩,⟨.Name x2 p2,dW,[],0⟩] scope pos) 1 (.ref s4.heap.objs.size) (.ref D) au)
    (λ r s₆=>match r with
        |.ok _=>∃m,m<us.length+1 -i/\xd el cond fh Q P0 cx A au nm D H0 s0 us St t ρ0 I u h0 m s₆
        |.error _=>False) s5:=by
    rintro s5 rfl
    refine jn (P0:=λ a=>a=D\/a=au.locals) (s0:=s4) (H0:=H4) (t:=t2) (ρ0:=ρ0.set t (some u1)) (H:=H4) (acc:=acc') (el u1) (λ Z H2 R=>R true H2) (by rfl) J5 st5 hx2 hnm2 (by simp only [bE];lia)
     (.inl (.inl rfl)) nI5 (.inl (.inr rfl)) hb zz hDI5 hDC ⟨k4.fm.step S5,k4.stk.step S5,I5,⟨items4,⟨n4,kk5 _ _ hp4⟩,hr4.mono S5.imm _⟩,k4.fD,bb.keeps kk5,rfl,rfl,rfl⟩ (I4.free nI5) (λ a e=>by cases e) S5.imm
     (λ v s' H' R F st I q=>wpAny_tests_nil ⟨H',q,I,.refl,.refl⟩) (λ v s' H' R F st I q=>helt u1 v s' H' R F st I q) q4 λ s6 H6 acc6 ρ6 L6 hρ6 hl6 q6=>?_
    have pI:¬(I=D\/I=au.locals):=λ z=>z.elim (λ z=>hDI z.symm) hIL
    have hI4:∃o,s4.heap.get? I=some o:=let ⟨o,ho,_⟩:=J.kpI _ _ hst4;⟨o,ho⟩
    have fu4:∀a,u=.ref a->∃o,s4.heap.get? a=some o:=λ a e=>S4.there a _ (fu3 a e).2.choose_spec
    have k6:fx P0 cx A au nm D H0 s0 H6 ρ6 acc6 s6:=⟨L6.fm,L6.stk,L6.inv,L6.acc,L6.fD,k4.step.absorb L6.step (λ a z=>z.elim (λ z=>z▸nD) λ z=>z▸nC),k4.same.trans L6.same⟩
    refine ⟨us.length+1 -(i+1),gB (iM hlt) (dH i),i+1,acc6,H6,ρ6.set t2 none,rfl,hlt,by lia,?_,q6,k6.unset t2,λ v=>?_,L6.step.free hI4.choose_spec fI3,λ a e=>⟨L6.step.free (fu4 a e).choose_spec (fu3 a e).1,L6.step.there a _ (fu4 a e).choose_spec⟩,
     λ a o e i=>L6.step.imm a o (S4.imm a o (kI3 a o e i) i) i⟩
    ·exact J.keep hst4 L6.step I4.base L6.inv.base fI3 (λ a e=>(fu3 a e).1) pI λ a e z=>z.elim (fu a e).2.1 (fu a e).2.2.1
    ·have e1:=hρ6 .none
     have e2:ρ6.set t2 none=ρ0.set t (some u1):=by
      have:=congrArg (λ l=>List.set l t2 none) e1
      simp only [jN] at this
      exact af this (af (jg _ _ ht) (af hρ2 rfl))
     exact af e2 (af (jN _) rfl)
   exact xF rfl (run _ rfl) (J5.W.self 0 _ _ _ st5 (run _ rfl))
 ·have hin:i=us.length:=jK ‹_› (du.mp ‹_›)
  subst hin
  refine J.W.done _ _ _ hst' λ h1 tk1 k1=>?_
  have k1':∀b o,b≠I->s'.heap.get? b=some o->h1.get? b=some o:=λ b o n e=>k1 b o (by simpa using n) e
  rw [i5] at q'
  refine aL k.acc λ aB w1_ hr=>(bu w1_ λ nn hp=>?_)
  have ki:bP s'.heap h1:=λ b ob e i=>k1' b ob (λ z=>by rw [z,hoI] at e;cases e;exact niI i) e
  exact hR {s' with heap:=h1,toks:=tk1} Hc acc' ρc ⟨k.fm.but hoI kpI niI k1',k.stk.but hoI kpI k1',k.inv.at_free fI' hbI hoI niI k1',⟨aB,⟨nn,k1' _ _ hDI hp⟩,hr.mono ki _⟩,k.fD,k.step.chg nI k1',k.same.trans ⟨rfl,rfl,rfl⟩⟩ q'
theorem A_:∀p,U_ p:=bB P_
end jx
section
variable {cx:Cx}
theorem jx {cx A R s0 H0 P0 scope pos px p2 fH iter dW d x x2 au nm D I h0 u us St t ρ0 Q} (el cond fh):jx.S_ cx A R s0 H0 P0 scope pos px p2 fH iter dW d x x2 au nm D I h0 u us St t ρ0 el cond fh Q:=jx.A_ (cx,A,R,s0,H0,P0,scope,pos,px,p2,fH,iter,dW,d,x,x2,au,nm,D,I,h0,u,us,St,t,ρ0,el,cond,fh,Q)
end
theorem jk (h:noSet iter=true) (v:av):jf iter au v=pure v:=by
 cases iter<;>first|rfl|cases h
theorem m3 {au cenv:i4} (he:cenv.scope=qb scope au) (h:scope.names.lookup x=some .local):cenv.kindOf x=some .local:=by
 unfold DM
 refine af he ?_
 exact Fh h
theorem uy {t:Nat} (h:own[t]?=some x) (l:List aw):(own++l)[t]?=some x:=by
 exact af (eK (aN.mp h).1) h
section
variable {E:av->ax->Prop}
noncomputable def CompFin (cx:Cx) (A:dy) (E:av->ax->Prop) (qe:Option (av->uY Unit)) (QQ:av->ax->Prop) (H:MH) (s:ax) (QF:V->MH->Prop):Prop:=
 ∀D C s' H' m,QF (.ref D) H'->s.heap.get? C=none->cx.base.objs.size<=C->s'.heap.Ns C m->D≠C->ci H' C->cb cx H' s'.heap->bb fc H s.heap H' s'.heap->dR s s'->
  Fi (ay cx.prog cx.w) A E qe QQ (.ref D) C (.ok .next) s'
theorem ol:CompFin cx A E none (bN cx H s QF) H s QF:=by
 intro D C s' H' m q nC hb hn hDC fC I' S' M'
 refine ⟨m,hn,λ h' sb=>⟨.ref D,H',q,lS,I'.store hn sb fC hb,?_,M'.trans ⟨rfl,rfl,rfl⟩⟩⟩
 exact S'.chg nC λ b o n e=>(sb.2 b n).trans e
theorem tU (S:bb P H h H1 h1) (n:h1.get? a=none):h.get? a=none:=by
 cases z:h.get? a with
 |none=>rfl
 |some o=>obtain ⟨o',e⟩:=S.there a o z;rw [n] at e;exact bH e
theorem AE
  (el:V->MH->(V->MH->Prop)->Prop) (cond:V->MH->(Bool->MH->Prop)->Prop)
  (hA:A.handled=none) (F:Fm cx au nm H ρ s.heap) (S:kH scope au nm own fr) (st:iC cx A H s.heap) (ht:own[t]?=some x) (hns:noSet iter=true)
  (hit:aE (ay cx.prog cx.w) A (eval iter au) (bN cx H s λ u H1=>xi (itemsOf H1 u) λ us=>us.length<=1000000/\compTurns el cond us [] (asideOf H1 u) λ vs H2=>∀c,backOf H1 H2 u c=none->QF (.ref c) ((backOf H1 H2 u).set c (.list vs))) E s)
  (htst:∀cenv,cenv.scope=qb scope au->∀v s' H' R,Fm cx cenv (own++fr.filterMap λ i=>nm[i]?) H' ((framesOf ρ own fr).set t (some v)) s'.heap->iC cx A H' s'.heap->cb cx H' s'.heap->cond v H' R->
   aE (ay cx.prog cx.w) A (forIn ifs true λ c r=>if r=true then do let ok<-isTrue c cenv (eval c cenv);pure (bX ok) else pure (bX r)) (iV cx H' s' R) (cn cx fc H' s' jU) s')
  (helt:∀cenv,cenv.scope=qb scope au->∀v s' H' R,Fm cx cenv (own++fr.filterMap λ i=>nm[i]?) H' ((framesOf ρ own fr).set t (some v)) s'.heap->iC cx A H' s'.heap->cb cx H' s'.heap->el v H' R->aE (ay cx.prog cx.w) A (eval fH cenv) (bN cx H' s' R) (cn cx fc H' s' jU) s')
  (fe:CompFin cx A E qe QQ H s QF):
  aE (ay cx.prog cx.w) A (qo (.ListComp fH [⟨.Name x px,iter,ifs,0⟩] scope pos) scope au pos' (DL []) false (eval iter au) qe) QQ E s:=by
 refine Bn rfl (jk hns) (mR λ y hy e=>F.cellsAll _ (S.free y hy e)) S.kind S.loc (aq hit (λ v s1 h1=>?_) λ Z Z e=>e)
 obtain ⟨u,H1,q,r1,I1,S1,M1⟩:=h1
 refine cI (rW q) λ us hi hz q=>?_
 ·refine jp (Q:=λ vs H2=>∀c,backOf H1 H2 u c=none->QF (.ref c) ((backOf H1 H2 u).set c (.list vs))) hA (F.step S1) S (st.step S1) I1 r1 hi ?_ ?_
  ·intro cenv D It fp P St s' R hs J hst nD nI nC hb hbI hDI hDC L fI fu kI hR
   refine jn el cond (by rfl) J hst (m3 hs (S.own x (aZ ht))) (uy ht _) (by simp only [bE,fJ];exact ao ‹_› (by decide)) (.inr nD) nI (.inr nC) hb hbI hDI hDC L fI fu kI (htst cenv hs) (helt cenv hs) q λ s6 H6 acc6 ρ6 L6 Z Z q6=>hR s6 H6 acc6 ρ6 L6 q6
  ·intro D C s' H' acc' m q nC hb hn hDC fC nD I' S' M'
   exact fe D C s' _ m (q D nD) (tU S1 nC) hb hn hDC fC I' (S1.trans S') (M1.trans M')
theorem AW
  (el:V->V->MH->(V->MH->Prop)->Prop) (cond:V->MH->(Bool->MH->Prop)->Prop) (fh:V->MH->(List V->Prop)->Prop)
  (hA:A.handled=none) (F:Fm cx au nm H ρ s.heap) (S:kH scope au nm own fr) (st:iC cx A H s.heap) (ht:own[t]?=some x) (ht2:own[t2]?=some x2) (hne:t≠t2) (hns:noSet iter=true) (hns2:noSet dW=true)
  (hit:aE (ay cx.prog cx.w) A (eval iter au) (bN cx H s λ u H1=>xi (itemsOf H1 u) λ us=>us.length<=1000/\compTurns2 el cond fh us [] (asideOf H1 u) λ vs H2=>∀c,backOf H1 H2 u c=none->QF (.ref c) ((backOf H1 H2 u).set c (.list vs))) E s)
  (htst:∀cenv,cenv.scope=qb scope au->∀v s' H' R,Fm cx cenv (own++fr.filterMap λ i=>nm[i]?) H' ((framesOf ρ own fr).set t (some v)) s'.heap->iC cx A H' s'.heap->cb cx H' s'.heap->cond v H' R->
   aE (ay cx.prog cx.w) A (isTrue d cenv (eval d cenv)) (iV cx H' s' R) (cn cx fc H' s' jU) s')
  (hin:∀cenv,cenv.scope=qb scope au->∀v s' H' R,Fm cx cenv (own++fr.filterMap λ i=>nm[i]?) H' ((framesOf ρ own fr).set t (some v)) s'.heap->iC cx A H' s'.heap->cb cx H' s'.heap->fh v H' R->
   aE (ay cx.prog cx.w) A (eval dW cenv) (bN cx H' s' λ u H2=>H2=H'/\∃ws,u=.tuple ws/\ws.length<=1000/\R ws) (cn cx fc H' s' jU) s')
  (helt:∀cenv,cenv.scope=qb scope au->∀v v2 s' H' R,Fm cx cenv (own++fr.filterMap λ i=>nm[i]?) H' (((framesOf ρ own fr).set t (some v)).set t2 (some v2)) s'.heap->iC cx A H' s'.heap->cb cx H' s'.heap->el v v2 H' R->aE (ay cx.prog cx.w) A (eval fH cenv) (bN cx H' s' R) (cn cx fc H' s' jU) s')
  (fe:CompFin cx A E qe QQ H s QF):
  aE (ay cx.prog cx.w) A (qo (.ListComp fH [⟨.Name x px,iter,[d],0⟩,⟨.Name x2 p2,dW,[],0⟩] scope pos) scope au pos' (DL []) false (eval iter au) qe) QQ E s:=by
 refine Bn rfl (jk hns) (mR λ y hy e=>F.cellsAll _ (S.free y hy e)) S.kind S.loc (aq hit (λ v s1 h1=>?_) λ Z Z e=>e)
 obtain ⟨u,H1,q,r1,I1,S1,M1⟩:=h1
 refine cI (rW q) λ us hi hz q=>?_
 ·refine jp (Q:=λ vs H2=>∀c,backOf H1 H2 u c=none->QF (.ref c) ((backOf H1 H2 u).set c (.list vs))) hA (F.step S1) S (st.step S1) I1 r1 hi ?_ ?_
  ·intro cenv D It fp P St s' R hs J hst nD nI nC hb hbI hDI hDC L fI fu kI hR
   refine jx el cond fh hA (jk hns2) J hst (m3 hs (S.own x (aZ ht))) (uy ht _) (m3 hs (S.own x2 (aZ ht2))) (uy ht2 _) hne ?_ hz (.inr nD) nI (.inr nC) hb hbI hDI hDC L fI fu kI (htst cenv hs) (hin cenv hs) (helt cenv hs) q λ s6 H6 acc6 ρ6 L6 q6=>hR s6 H6 acc6 ρ6 L6 q6
   unfold framesOf
   have hl:t2<own.length:=(aN.mp ht2).1
   rw [List.set_append_left _ _ (by exact af (ag _) hl)]
   congr 1
   refine DN λ j=>?_
   by_cases z:t2=j
   ·subst z
    rw [lO (by exact af (ag _) hl),aF,ht2];rfl
   ·exact af (mU z) rfl
  ·intro D C s' H' acc' m q nC hb hn hDC fC nD I' S' M'
   exact fe D C s' _ m (q D nD) (tU S1 nC) hb hn hDC fC I' (S1.trans S') (M1.trans M')
end
theorem xp {n:aw} (h:n∉kvs.map (·.1)):DJ kvs n v=kvs++[(n,v)]:=by
 unfold DJ
 rw [if_neg (by refine af (yX h) ?_;simp)]
theorem qG:∀{more acc:List (aw×av)},((acc++more).map (·.1)).Nodup->merged acc more=acc++more
 |[],acc,_=>by simp [merged]
 |(n,v)::more,acc,h=>by
  have h1:n∉acc.map (·.1):=by
   intro q
   rw [bf,bj,iq] at h
   exact h.2.2 n q n (.head _) rfl
  show merged (DJ acc n v) more=_
  refine af (xp h1) (af (qG (by simpa using h)) ?_)
  simp
section
variable {cx:Cx}
theorem vL (G:gT cx tb gl) (hg:au.globals=di) (hb:au.builtins=lC) (hk:au.scope.kind=.function):∀{ps:List (aw×aw×Fn)} {t u:PT} {s1:ax} {R:List (av×av)->ax->Prop},ps.all (λ p=>okGlob gl au.scope p.2.1 p.2.2)=true->cb cx H s1.heap->
  (∀vals t,Carries (strKind cx.prog cx.w) vals (ps.map λ p=>(p.1,cx.addr p.2.2))->R vals {s1 with toks:=t})->aE (ay cx.prog cx.w) A (evalPairs (pairTrees (emKs ps t) (emVs ps u) au pos)) R Ex s1
 |[],_,_,s1,R,_,I,k=>pairTrees_nil_walk (k [] s1.toks trivial)
 |p::ps,t,u,s1,R,h,I,k=>
  pairTrees_cons_walk (HR (oz G hg hb hk I (al h) (vL G hg hb hk (ar h) I λ Z Z c=>k _ _ ⟨nz cx.prog cx.w _ _,rfl,c⟩)))
theorem jo:∀{ps:List (aw×aw×Fn)} {t:PT},(emKs ps t).all (·.isSome)=true/\(emKs ps t).length=ps.length
 |[],_=>⟨rfl,rfl⟩
 |_::ps,t=>⟨(jo (ps:=ps) (t:=t.r)).1,congrArg nF (jo (ps:=ps) (t:=t.r)).2⟩
theorem wQ:∀{ps:List (aw×aw×Fn)} {t:PT},(emVs ps t).length=ps.length
 |[],_=>rfl
 |_::ps,t=>congrArg nF (wQ (ps:=ps) (t:=t.r))
theorem vC:∀{ps:List (aw×aw×Fn)},KRel cx h (ps.map λ p=>(p.1,V.fn p.2.2)) (ps.map λ p=>(p.1,cx.addr p.2.2))
 |[]=>rfl
 |p::ps=>⟨_,_,rfl,by rfl,vC⟩
theorem GI (G:gT cx tb gl) (F:Fm cx au nm H ρ s.heap) (I:cb cx H s.heap) (h:ps.all (λ p=>okGlob gl au.scope p.2.1 p.2.2)=true) (h3:0<ps.length) (h4:ps.length<=15) (h5:(ps.map (·.1)).Nodup)
  (q:∀c,H c=none->Q (.ref c) (H.set c (.sdict (ps.map λ p=>(p.1,V.fn p.2.2))))):aE (ay cx.prog cx.w) A (eval (.Dict (emKs ps t) (emVs ps u) pos) au) (bN cx H s Q) Ex s:=by
 refine wpAny_Dict_walk (knd:=strKind cx.prog cx.w) jo.1 (jo.2.trans wQ.symm) (λ e=>by have:=congrArg kW e;rw [jo.2] at this;exact absurd this (xY h3)) (ao (gm jo.2) h4) (vL G F.glob F.blt F.kind h (I.push _) λ vals t c=>⟨_,c,vv (n:=0) (bt _ rfl),λ h' hd sb=>?_⟩)
 rw [qG (by simpa [cD,Function.comp_def] using h5),dx] at hd
 exact bN.new (mo:=.sdict (ps.map λ p=>(p.1,V.fn p.2.2))) I F.lok.le (λ b o e=>(sb.2 b (dM (bx e))).trans (ak _ e)) (dN (bW _)) (ij rfl) ⟨_,hd,vC⟩ q
structure Ap (cx:Cx) (tb:on) (gl:GL) (A:dy) (lv:Nat):Prop where
 G:gT cx tb gl
 hc:∀f,tb.lvl f<lv->CallOk cx tb f
 hi:∀c f,tb.init c=some f->tb.lvl f<lv->CodeOk cx tb f
 am:Bt A lv
theorem wN (W:Ap cx tb gl A lv)
  (st:iC cx A H s.heap) (lk:∃L,uK cx H s.heap L) (I:cb cx H s.heap) (rf:VRel cx s.heap u f) (r:VRels cx s.heap us vs) (q:mL tb lv u us H Q X):
  aE (ay cx.prog cx.w) A (call f vs) (bN cx H s Q) (cn cx fc H s X) s:=by
 cases u with
 |fn g=>
  cases yO rf
  cases g with
  |cls n=>
   refine aL (CA q) λ i e q=>?_
   have l:=hU.mp (kJ q).1
   exact C4 W.G e (W.hi _ _ e l) W.am l st lk I r (kJ q).2
  |_=>
   have l:=hU.mp (kJ q).1
   exact W.hc _ l A H s us vs Q X (W.am.call l) st lk I r (kJ q).2
 |_=>exact q.elim
end
theorem pX (h:chkScope scope au.scope nm own fr=true):kH scope au nm own fr:=by
 unfold chkScope at h
 simp only [bG,beq_iff_eq,decide_eq_true_eq,bl,jt,bne_iff_ne,ne_eq] at h
 refine wG h λ h1 h2 h3 h4 h5=>?_
 refine ⟨h1,h2,λ i hi=>?_,λ y hy=>by simpa using h4 y hy,λ y hy=>(h5 y hy).1,λ y hy e=>(h5 y hy).2.1.resolve_left (λ n=>n e),λ y hy e=>(h5 y hy).2.2.resolve_left (λ n=>n e)⟩
 have:=h3 i hi
 cases q:nm[i]? with
 |none=>rw [q] at this;simp at this
 |some y=>
  rw [q] at this
  simp only [Option.any_some,bG,beq_iff_eq] at this
  exact ⟨y,rfl,this.1,this.2⟩
section
variable (cx:Cx) (tb:on) (gl:GL) (A:dy) (lv:Nat)
def w6 (nm:List aw) (au:i4) (e:Mine.E) (x:Expr):Prop:=∀(H:MH) (s:ax) (ρ:da) (Q:V->MH->Prop) (X:aw->MH->Prop),Fm cx au nm H ρ s.heap->iC cx A H s.heap->cb cx H s.heap->
 wpE tb lv false e ρ H Q X->aE (ay cx.prog cx.w) A (eval x au) (bN cx H s Q) (cn cx fc H s X) s
def GZ (nm:List aw) (au:i4) (e:Mine.E) (x:Expr):Prop:=∀(H:MH) (s:ax) (ρ:da) (Q:V->MH->Prop) (X:aw->MH->Prop),Fm cx au nm H ρ s.heap->iC cx A H s.heap->cb cx H s.heap->
 wpE tb lv true e ρ H Q X->aE (ay cx.prog cx.w) A (lN x au (eval x au)) (iV cx H s λ b H1=>Q (.bool b) H1) (cn cx fc H s X) s
def NM (nm:List aw) (au:i4) (es:List Mine.E) (xs:List Expr):Prop:=∀(pos:Bx) (H:MH) (s:ax) (ρ:da) (Q:List V->MH->Prop) (X:aw->MH->Prop),Fm cx au nm H ρ s.heap->iC cx A H s.heap->cb cx H s.heap->
 wpEs tb lv es ρ H Q X->aE (ay cx.prog cx.w) A (spliced (pA pos (ik xs au))) (wx cx H s λ us H1=>us.length=es.length/\Q us H1) (cn cx fc H s X) s
def NP (nm:List aw) (au:i4) (e:Option Mine.E) (x:Option Expr):Prop:=∀(H:MH) (s:ax) (ρ:da) (Q:V->MH->Prop) (X:aw->MH->Prop),Fm cx au nm H ρ s.heap->iC cx A H s.heap->cb cx H s.heap->
 wpO tb lv e ρ H Q X->aE (ay cx.prog cx.w) A (evalPart x au) (bN cx H s Q) (cn cx fc H s X) s
def MW (nm:List aw) (au:i4) (op:BoolOp) (c:Bool) (es:List Mine.E) (xs:List Expr):Prop:=∀(pos:Bx) (H:MH) (s:ax) (ρ:da) (Q:V->MH->Prop) (X:aw->MH->Prop),Fm cx au nm H ρ s.heap->iC cx A H s.heap->cb cx H s.heap->
 wpB tb lv c es ρ H Q X->aE (ay cx.prog cx.w) A (boolOp pos op (evalEach xs au)) (bN cx H s Q) (cn cx fc H s X) s
def M0 (nm:List aw) (au:i4) (op:BoolOp) (c:Bool) (es:List Mine.E) (xs:List Expr):Prop:=∀(H:MH) (s:ax) (ρ:da) (Q:V->MH->Prop) (X:aw->MH->Prop),Fm cx au nm H ρ s.heap->iC cx A H s.heap->cb cx H s.heap->
 wpTs tb lv c es ρ H Q X->aE (ay cx.prog cx.w) A (allTrue op xs au) (iV cx H s λ b H1=>Q (.bool b) H1) (cn cx fc H s X) s
end
section
variable {cx:Cx}
theorem GT (hv:w6 cx tb A lv nm au e x) (ht:∀ρ H Q X,wpE tb lv true e ρ H Q X->wpE tb lv false e ρ H (fe true Q) X)
  (he:∀whole,lN x au whole=(do let v<-whole;ta x.pos;Ix [v] (truthy v)):=by intro _;rfl):GZ cx tb A lv nm au e x:=λ H s ρ Q X F st I q=>by
 refine wpAny_isTrue_value (aq (hv H s ρ _ X F st I (ht _ _ _ _ q)) (λ v s1 h1=>?_) λ Z Z e=>e) (he _)
 obtain ⟨u,H1,q1,r1,I1,S1,M1⟩:=h1
 exact aL (C1 q1) λ b e q1=>(tH r1 e ⟨H1,q1,I1,S1,M1⟩)
end
theorem gG {α:Type} {m:uY α} {R1 R:α->ax->Prop} (S1:bb fc H s.heap H1 s1.heap) (M1:dR s s1) (h:aE (ay cx.prog cx.w) A m R1 (cn cx fc H1 s1 X) s1) (k:∀v s',R1 v s'->R v s'):
  aE (ay cx.prog cx.w) A m R (cn cx fc H s X) s1:=aq h k λ Z Z z=>z.after S1 M1
section
variable {cx:Cx} {tb:on} {gl:GL} {A:dy} {lv:Nat}
theorem m5 {v:Expr} {n:aw} {au:i4} {whole:uY av} (h:plainB v=true):attributeBase v n au whole=whole:=by
 cases v with
 |Call f as ks p=>
  cases f with
  |Name x q=>
   cases as with
   |nil=>
    cases ks with
    |nil=>exact bS h
    |cons _ _=>rfl
   |cons _ _=>rfl
  |_=>rfl
 |_=>rfl
theorem rH {v:Expr} {n:aw} {au:i4} {pos:Bx} (h:plainB v=true):eval (.Attribute v n pos) au=(do
  let o<-eval v au
  ta pos.atName
  let r<-Ix [o] (getAttr o n true)
  lz v o r
  pure r):=by (rewrite [arm_eval_Attribute];exact af (m5 h) rfl)
theorem xg {g:Expr} {xs:List Expr} {au:i4} {pos:Bx} (h:isAttr g=false):eval (.Call g xs [] pos) au=(do
  callWith pos (<-eval g au) [] (pA pos (ik xs au)) (backToKw pos (keywordEach [] au))):=by
 cases g<;>first|rfl|cases h
theorem Ck {sl:Expr} (h:isSlice sl=false):∀l u s p,sl≠.Slice l u s p:=λ l u s p e=>by subst e;cases h
theorem EM {v:Expr} (h:isName v=true) (o r:av):lz v o r=pure ():=by
 cases v<;>first|rfl|cases h
theorem we {α:Type} {m m':uY α} {Q:α->ax->Prop} {E:av->ax->Prop} {s:ax} (h:m=m') (q:aE (ay cx.prog cx.w) A m' Q E s):aE (ay cx.prog cx.w) A m Q E s:=h▸q
theorem tG {as:List Mine.E} {t:PT} {au:i4} {nm:List aw} {pos:Bx} (h:okEs gl au.scope nm as t=true) (hl:as.length<=20):methodCallForm ((emEs nm as t).length+([]:List Keyword).length) (pA pos (ik (emEs nm as t) au)) (backToKw pos (keywordEach [] au))=true:=by
 refine bw (ll h) λ h1 h2=>?_
 have e:(pA pos (ik (emEs nm as t) au)).all (λ x=>!x.1)=true:=by
  refine af List.all_eq_not_any_not ?_
  simp only [Bool.not_not]
  refine af (oA _) (af h1 ?_);rfl
 show (_&&true&&decide ((emEs nm as t).length+0+0<30))=true
 refine af e (af (decide_eq_true (by lia)) ?_);rfl
theorem v5 {o:Expr} {au:i4} {apos pos:Bx} (h:apos.endLine=pos.line):methodCallPos true o au apos pos=pure pos:=by unfold methodCallPos;simp [h]
theorem p7 {op:CmpOp} {r:Expr} (h:noSet r=true):behindInMarks op r=false:=by
 cases r<;>first|rfl|cases h
theorem w6.after {nm:List aw} {au:i4} {e:Mine.E} {x:Expr} (k:w6 cx tb A lv nm au e x) {H H1:MH} {s s1:ax} {ρ:da} {Q:V->MH->Prop} {X:aw->MH->Prop} (F:Fm cx au nm H ρ s.heap) (st:iC cx A H s.heap) (S1:bb fc H s.heap H1 s1.heap) (M1:dR s s1) (I1:cb cx H1 s1.heap) (q:wpE tb lv false e ρ H1 Q X):
  aE (ay cx.prog cx.w) A (eval x au) (bN cx H s Q) (cn cx fc H s X) s1:=aq (k H1 s1 ρ Q X (F.step S1) (st.step S1) I1 q) (λ Z Z z=>z.after S1 M1) λ Z Z z=>z.after S1 M1
theorem GZ.after {nm:List aw} {au:i4} {e:Mine.E} {x:Expr} (k:GZ cx tb A lv nm au e x) {H H1:MH} {s s1:ax} {ρ:da} {Q:V->MH->Prop} {X:aw->MH->Prop} (F:Fm cx au nm H ρ s.heap) (st:iC cx A H s.heap) (S1:bb fc H s.heap H1 s1.heap) (M1:dR s s1) (I1:cb cx H1 s1.heap) (q:wpE tb lv true e ρ H1 Q X):
  aE (ay cx.prog cx.w) A (lN x au (eval x au)) (iV cx H s λ b H1=>Q (.bool b) H1) (cn cx fc H s X) s1:=aq (k H1 s1 ρ Q X (F.step S1) (st.step S1) I1 q) (λ Z Z z=>z.after S1 M1) λ Z Z z=>z.after S1 M1
theorem M0.after {nm:List aw} {au:i4} {op:BoolOp} {c:Bool} {e:List Mine.E} {x:List Expr} (k:M0 cx tb A lv nm au op c e x) {H H1:MH} {s s1:ax} {ρ:da} {Q:V->MH->Prop} {X:aw->MH->Prop} (F:Fm cx au nm H ρ s.heap) (st:iC cx A H s.heap) (S1:bb fc H s.heap H1 s1.heap) (M1:dR s s1) (I1:cb cx H1 s1.heap) (q:wpTs tb lv c e ρ H1 Q X):
  aE (ay cx.prog cx.w) A (allTrue op x au) (iV cx H s λ b H1=>Q (.bool b) H1) (cn cx fc H s X) s1:=aq (k H1 s1 ρ Q X (F.step S1) (st.step S1) I1 q) (λ Z Z z=>z.after S1 M1) λ Z Z z=>z.after S1 M1
theorem iV.not {H:MH} {s s':ax} {Q:V->MH->Prop} {b:Bool} (z:iV cx H s (λ b H1=>A9 (V.bool b) λ b=>Q (.bool (!b)) H1) b s'):iV cx H s (λ b H1=>Q (.bool b) H1) (!b) s':=let ⟨H1,q1,I1,S1,M1⟩:=z;⟨H1,q1,I1,S1,M1⟩
theorem Ge {h:cM} {f:Fn}:VRel cx h (.fn f) (cx.addr f):=rfl
def NI (cx:Cx) (tb:on) (A:dy) (lv:Nat) (nm:List aw) (au:i4) (e:Option Mine.E) (x:Option Expr):Prop:=∀(H:MH) (s:ax) (ρ:da) (R:Bool->MH->Prop),Fm cx au nm H ρ s.heap->iC cx A H s.heap->cb cx H s.heap->wpC tb lv e ρ H R->
 aE (ay cx.prog cx.w) A (forIn x.toList true λ c r=>if r=true then do let ok<-lN c au (eval c au);pure (bX ok) else pure (bX r)) (iV cx H s R) (cn cx fc H s jU) s
theorem lf {nm:List aw} {au:i4} {e:Mine.E} {x:Expr} (hv:w6 cx tb A lv nm au e x) (ht:∀ρ H Q X,wpE tb lv true e ρ H Q X->wpE tb lv false e ρ H (fe true Q) X:=by exact λ Z Z Z Z q=>q)
  (he:∀whole,lN x au whole=(do let v<-whole;ta x.pos;Ix [v] (truthy v)):=by intro _;rfl):w6 cx tb A lv nm au e x/\GZ cx tb A lv nm au e x:=⟨hv,GT hv ht he⟩
theorem yP (W:Ap cx tb gl A lv) {own:List aw} {fr:List Nat} {el it:Mine.E} {j:Nat} {c:Option Mine.E} {t:PT} {nm:List aw} {au:i4} {H:MH} {s:ax} {ρ:da} {QF:V->MH->Prop} {X:aw->MH->Prop} {Ex:av->ax->Prop} {qe:Option (av->uY Unit)} {QQ:av->ax->Prop} {pos:Bx}
  (ii:w6 cx tb A lv nm au it (emE nm it t.r.l)) (ie:∀cenv:i4,cenv.scope=relS t.s au.scope->w6 cx tb A lv (sJ nm own fr) cenv el (emE (sJ nm own fr) el t.l)) (ic:∀cenv:i4,cenv.scope=relS t.s au.scope->NI cx tb A lv (sJ nm own fr) cenv c (emO (sJ nm own fr) c t.r.r))
  (h:okE gl au.scope nm (.comp own fr el j it c) t=true) (F:Fm cx au nm H ρ s.heap) (st:iC cx A H s.heap) (I:cb cx H s.heap) (q:wpE tb lv false (.comp own fr el j it c) ρ H QF X) (fe:CompFin cx A Ex qe QQ H s QF) (hE:∀e s',cn cx fc H s X e s'->Ex e s'):
  aE (ay cx.prog cx.w) A (qo (emE nm (.comp own fr el j it c) t) t.s au pos (DL []) false (eval (emE nm it t.r.l) au) qe) QQ Ex s:=
 AE (own:=own) (fr:=fr) (t:=j) (QF:=QF) _ _ W.am.handled F (pX (al (ar (ar h)))) st (eq_of_beq (al h)) (al (ar h)) (aq (ii H s ρ _ X F st I q) (λ Z Z e=>e) hE)
  (λ cenv hs Z s' H' R F' st' I' q'=>ic cenv hs H' s' _ R F' st' I' q') (λ cenv hs Z s' H' R F' st' I' q'=>ie cenv hs H' s' _ R _ F' st' I' q') fe
theorem vH (W:Ap cx tb gl A lv) {own:List aw} {fr:List Nat} {el it c it2:Mine.E} {j j2:Nat} {t:PT} {nm:List aw} {au:i4} {H:MH} {s:ax} {ρ:da} {QF:V->MH->Prop} {X:aw->MH->Prop} {Ex:av->ax->Prop} {qe:Option (av->uY Unit)} {QQ:av->ax->Prop} {pos:Bx}
  (ii:w6 cx tb A lv nm au it (emE nm it t.r.l)) (ie:∀cenv:i4,cenv.scope=relS t.s au.scope->w6 cx tb A lv (sJ nm own fr) cenv el (emE (sJ nm own fr) el t.l)) (ic:∀cenv:i4,cenv.scope=relS t.s au.scope->GZ cx tb A lv (sJ nm own fr) cenv c (emE (sJ nm own fr) c t.r.r.l)) (i2:∀cenv:i4,cenv.scope=relS t.s au.scope->w6 cx tb A lv (sJ nm own fr) cenv it2 (emE (sJ nm own fr) it2 t.r.r.r))
  (h:okE gl au.scope nm (.comp2 own fr el j it c j2 it2) t=true) (F:Fm cx au nm H ρ s.heap) (st:iC cx A H s.heap) (I:cb cx H s.heap) (q:wpE tb lv false (.comp2 own fr el j it c j2 it2) ρ H QF X) (fe:CompFin cx A Ex qe QQ H s QF) (hE:∀e s',cn cx fc H s X e s'->Ex e s'):
  aE (ay cx.prog cx.w) A (qo (emE nm (.comp2 own fr el j it c j2 it2) t) t.s au pos (DL []) false (eval (emE nm it t.r.l) au) qe) QQ Ex s:=
 AW (own:=own) (fr:=fr) (t:=j) (t2:=j2) (QF:=QF) _ _ _ W.am.handled F (pX (al (ar (ar (ar (ar (ar h))))))) st (eq_of_beq (al h)) (eq_of_beq (al (ar h))) (nb (al (ar (ar h)))) (al (ar (ar (ar h)))) (al (ar (ar (ar (ar h))))) (aq (ii H s ρ _ X F st I q) (λ Z Z e=>e) hE)
  (λ cenv hs Z s' H' R F' st' I' q'=>ic cenv hs H' s' _ _ _ F' st' I' q') (λ cenv hs Z s' H' R F' st' I' q'=>aq (i2 cenv hs H' s' _ _ _ F' st' I' q') (λ Z Z=>bN.mono (λ u Z z=>⟨z.1,FA z.2⟩)) λ Z Z e=>e) (λ cenv hs Z Z s' H' R F' st' I' q'=>ie cenv hs H' s' _ R _ F' st' I' q') fe
def N6 (cx tb gl A lv) (e:Mine.E):=∀⦃t:PT⦄⦃nm:List aw⦄⦃au:i4⦄,okE gl au.scope nm e t=true->w6 cx tb A lv nm au e (emE nm e t)/\GZ cx tb A lv nm au e (emE nm e t)
def MZ (cx tb gl A lv) (es:List Mine.E):=∀⦃t:PT⦄⦃nm:List aw⦄⦃au:i4⦄,okEs gl au.scope nm es t=true->NM cx tb A lv nm au es (emEs nm es t)
def LO (cx tb gl A lv) (e:Option Mine.E):=∀⦃t:PT⦄⦃nm:List aw⦄⦃au:i4⦄,okO gl au.scope nm e t=true->NP cx tb A lv nm au e (emO nm e t)
def LU (cx tb gl A lv) (e:Option Mine.E):=∀⦃t:PT⦄⦃nm:List aw⦄⦃au:i4⦄,okO gl au.scope nm e t=true->NI cx tb A lv nm au e (emO nm e t)
def Mo (cx tb gl A lv) (es:List Mine.E):=∀⦃c:Bool⦄⦃t:PT⦄⦃nm:List aw⦄⦃au:i4⦄,okEs gl au.scope nm es t=true->MW cx tb A lv nm au (cond c .And .Or) c es (emEs nm es t)
mutual
theorem ev (W:Ap cx tb gl A lv):∀(e:Mine.E),N6 cx tb gl A lv e
 |.none=>λ Z Z Z Z=>lf λ Z Z Z Z Z Z Z I q=>wpAny_Constant_none (bN.here I mF q)
 |.bool _=>λ Z Z Z Z=>lf λ Z Z Z Z Z Z Z I q=>wpAny_Constant_bool (bN.here I qk q)
 |.int _=>λ Z Z Z Z=>lf λ Z Z Z Z Z Z Z I q=>HS (bN.tok I dq q)
 |.str _=>λ Z Z Z Z=>lf λ Z Z Z Z Z Z Z I q=>HR (bN.tok I ug q)
 |.loc _=>λ Z Z Z h=>lf (λ Z Z Z Z Z F Z I q=>let ⟨_,e,q⟩:=p8 q;pg F (eq_of_beq (al h)) (ar h) e λ Z r=>bN.here I r q) λ Z Z Z Z q=>q
 |.fn _ f=>λ Z Z Z h=>lf λ Z Z Z Z Z F Z I q=>oz W.G F.glob F.blt F.kind I h (bN.here (u:=.fn f) I Ge q)
 |.neg a=>λ Z Z Z h=>lf λ H s ρ Q X F st I q=>wpAny_UnaryOp (aq ((ev W a h).1 H s ρ _ X F st I q) (λ v s1 h1=>by
   obtain ⟨u,H1,q1,r1,I1,S1,M1⟩:=h1
   refine aL (Gm q1) λ i r1_ q1=>?_
   subst r1_
   refine bu (cj r1) λ t r1_=>?_
   subst r1_
   exact P.neg_int (bN.after S1 M1 (bN.tok I1 dq q1))) λ Z Z e=>e)
 |.bin op a b=>λ Z Z Z h=>lf λ H s ρ Q X F st I q=>wpAny_BinOp (aq ((ev W a (al h)).1 H s ρ _ X F st I q) (λ v s1 h1=>by
   obtain ⟨u,H1,q1,r1,I1,S1,M1⟩:=h1
   refine gG S1 M1 ((ev W b (ar h)).1 H1 s1 ρ _ X (F.step S1) (st.step S1) I1 q1) λ v2 s2 h2=>?_
   obtain ⟨u2,H2,q2,r2,I2,S2,M2⟩:=h2
   exact aq (EE ((F.step S1).step S2).lok I2 (r1.mono S2.imm) r2 q2) (λ Z Z z=>(z.after S2 M2).after S1 M1) λ Z Z e=>e) λ Z Z e=>e)
 |.cmp op a b=>λ t nm au h=>by
   have key:∀(H:MH) (s:ax) (ρ:da) (Q:V->MH->Prop) (X:aw->MH->Prop) (R:av->ax->Prop),Fm cx au nm H ρ s.heap->iC cx A H s.heap->cb cx H s.heap->wpE tb lv false (.cmp op a b) ρ H Q X->
     (∀b s',iV cx H s (λ b H'=>Q (.bool b) H') b s'->R (.bool b) s')->
     aE (ay cx.prog cx.w) A (eval (emE nm a t.l) au) (λ a s₁=>aE (ay cx.prog cx.w) A (eval (emE nm b t.r) au) (λ b s₂=>aE (ay cx.prog cx.w) A (jJ op a b) R (cn cx fc H s X) s₂) (cn cx fc H s X) s₁) (cn cx fc H s X) s:=by
    intro H s ρ Q X R F st I q k
    refine aq ((ev W a (al (ar h))).1 H s ρ _ X F st I q) (λ v s1 h1=>?_) λ Z Z e=>e
    obtain ⟨u,H1,q1,r1,I1,S1,M1⟩:=h1
    refine gG S1 M1 ((ev W b (ar (ar h))).1 H1 s1 ρ _ X (F.step S1) (st.step S1) I1 q1) λ v2 s2 h2=>?_
    obtain ⟨u2,H2,q2,r2,I2,S2,M2⟩:=h2
    exact Ee W.G.sys W.am.u100 I2 (r1.mono S2.imm) r2 q2 λ r t qr=>k r {s2 with toks:=t} ⟨H2,qr,I2,S1.trans S2,M1.trans (M2.trans ⟨rfl,rfl,rfl⟩)⟩
   exact ⟨λ H s ρ Q X F st I q=>wpAny_Compare1 (key H s ρ Q X _ F st I q λ b s' ⟨H',q',I',S',M'⟩=>⟨.bool b,H',q',qk,I',S',M'⟩) (p7 (al h)),λ H s ρ Q X F st I q=>wpAny_isTrue_Compare1 (key H s ρ Q X _ F st I q λ b s' z=>Iu z) (p7 (al h))⟩
 |.not a=>λ Z Z Z h=>⟨λ Z Z Z Z Z Z Z Z q=>q.elim,λ H s ρ Q X F st I q=>wpAny_isTrue_Not (aq ((ev W a h).2 H s ρ _ X F st I q) (λ Z Z z=>z.not) λ Z Z e=>e)⟩
 |.bop true es=>λ Z Z Z h=>⟨λ H s ρ Q X F st I q=>G9 W es h _ H s ρ Q X F st I q,λ H s ρ Q X F st I q=>GA (Lm W es h H s ρ Q X F st I q)⟩
 |.bop false es=>λ Z Z Z h=>⟨λ H s ρ Q X F st I q=>G9 W es h _ H s ρ Q X F st I q,λ H s ρ Q X F st I q=>GA (Lm W es h H s ρ Q X F st I q)⟩
 |.ifx c b o=>λ Z Z Z h=>⟨λ H s ρ Q X F st I q=>wpAny_IfExp (aq ((ev W c (al h)).2 H s ρ _ X F st I q) (λ r s1 h1=>by
    obtain ⟨H1,q1,I1,S1,M1⟩:=h1
    cases r with
    |true=>exact ((ev W b (al (ar h))).1).after F st S1 M1 I1 q1
    |false=>exact ((ev W o (ar (ar h))).1).after F st S1 M1 I1 q1) λ Z Z e=>e),
   λ H s ρ Q X F st I q=>isTrue_IfExp (aq ((ev W c (al h)).2 H s ρ _ X F st I q) (λ r s1 h1=>by
    obtain ⟨H1,q1,I1,S1,M1⟩:=h1
    cases r with
    |true=>exact ((ev W b (al (ar h))).2).after F st S1 M1 I1 q1
    |false=>exact ((ev W o (ar (ar h))).2).after F st S1 M1 I1 q1) λ Z Z e=>e)⟩
 |.tup es=>λ Z Z Z h=>lf λ H s ρ Q X F st I q=>wpAny_Tuple (aq (KL W es (ar h) _ H s ρ _ X F st I q) (λ vs s1 h1=>by
   obtain ⟨us,H1,⟨l1,q1⟩,r1,I1,S1,M1⟩:=h1
   refine ⟨ao (gm (r1.len.trans l1)) (ao (aO (al h)) (by decide)),bN.after S1 M1 (bN.priv (t:=s1.toks) (u:=.tuple us) I1 (λ b o e=>ak _ e) ?_ q1)⟩
   exact jD (qZ (bt _ rfl)) (r1.mono (bP.of_keeps λ b o e=>ak _ e) us)) λ Z Z e=>e)
 |.lst es=>λ Z Z Z h=>lf λ H s ρ Q X F st I q=>wpAny_List (aq (KL W es (ar h) _ H s ρ _ X F st I q) (λ vs s1 h1=>by
   obtain ⟨us,H1,⟨l1,q1⟩,r1,I1,S1,M1⟩:=h1
   refine ⟨ao (gm (r1.len.trans l1)) (ao (aO (al h)) (by decide)),bN.after S1 M1 (bN.new (t:=s1.toks) (mo:=.list us) I1 (F.step S1).lok.le (λ b o e=>ak _ e) (dN (bW _)) (ij rfl) ?_ q1)⟩
   exact ⟨vs.toArray,0,bt _ rfl,r1.mono (bP.of_keeps λ b o e=>ak _ e) us⟩) λ Z Z e=>e)
 |.edct=>λ Z Z Z h=>lf λ H s ρ Q X F st I q=>wpAny_Dict_empty (bN.new (t:=s.toks) (mo:=.edict) I F.lok.le (λ b o e=>ak _ e) (dN (bW _)) (ij rfl) ⟨0,bt _ rfl⟩ q)
 |.dfn ps=>λ Z Z Z h=>lf λ H s ρ Q X F st I q=>GI W.G F I (al h) (aO (al (ar h))) (aO (al (ar (ar h)))) (dt (ar (ar (ar h)))) q
 |.sub a i=>λ Z Z Z h=>lf λ H s ρ Q X F st I q=>Subscript_ (aq ((ev W a (al (ar h))).1 H s ρ _ X F st I q) (λ v s1 h1=>by
   obtain ⟨u,H1,q1,r1,I1,S1,M1⟩:=h1
   refine gG S1 M1 ((ev W i (ar (ar h))).1 H1 s1 ρ _ X (F.step S1) (st.step S1) I1 q1) λ v2 s2 h2=>?_
   obtain ⟨u2,H2,q2,r2,I2,S2,M2⟩:=h2
   exact aq (nZ (Ck (nt (al h))) W.am.u100 I2 (r1.mono S2.imm) r2 q2) (λ Z Z z=>(z.after S2 M2).after S1 M1) λ Z Z e=>e) λ Z Z e=>e)
 |.slc a lo hi'=>λ Z Z Z h=>lf λ H s ρ Q X F st I q=>Subscript_ (aq ((ev W a (al (ar h))).1 H s ρ _ X F st I q) (λ v s1 h1=>by
   obtain ⟨u,H1,q1,r1,I1,S1,M1⟩:=h1
   refine wpAny_Slice (gG S1 M1 (NL W lo (al (ar (ar h))) H1 s1 ρ _ X (F.step S1) (st.step S1) I1 q1) λ v2 s2 h2=>?_)
   obtain ⟨u2,H2,q2,r2,I2,S2,M2⟩:=h2
   refine gG (S1.trans S2) (M1.trans M2) (NL W hi' (ar (ar (ar h))) H2 s2 ρ _ X ((F.step S1).step S2) ((st.step S1).step S2) I2 q2) λ v3 s3 h3=>?_
   obtain ⟨u3,H3,q3,r3,I3,S3,M3⟩:=h3
   refine we (evalPart_none _) (ah ?_)
   exact aq (Ev (((F.step S1).step S2).step S3).lok I3 ((r1.mono S2.imm).mono S3.imm) (r2.mono S3.imm) r3 q3 (λ o i=>rfl) (EM (al h))) (λ Z Z z=>((z.after S3 M3).after S2 M2).after S1 M1) λ Z Z e=>e) λ Z Z e=>e)
 |.attr a n=>λ Z Z Z h=>lf λ H s ρ Q X F st I q=>Attribute_any_ (aq ((ev W a (ar h)).1 H s ρ _ X F st I q) (λ v s1 h1=>by
   obtain ⟨u,H1,q1,r1,I1,S1,M1⟩:=h1
   exact aq (vf W.G.toGood I1 r1 q1) (λ Z Z z=>z.after S1 M1) λ Z Z e=>e) λ Z Z e=>e) (rH (al h))
 |.call f as=>λ Z Z Z h=>lf λ H s ρ Q X F st I q=>we (xg (nt (al h))) (ae (aq ((ev W f (al (ar h))).1 H s ρ _ X F st I q) (λ v s1 h1=>by
   obtain ⟨u,H1,q1,r1,I1,S1,M1⟩:=h1
   refine aL (Gd q1) λ k r1_ q1=>?_
   subst r1_
   refine lX W.G (by refine af (yO r1) ?_;exact W.G.keep k) (ar (ar h)) (gG S1 M1 (KL W as (ar (ar h)) _ H1 s1 ρ _ X (F.step S1) (st.step S1) I1 q1) λ vs s2 h2=>?_)
   obtain ⟨us,H2,⟨_,q2⟩,r2,I2,S2,M2⟩:=h2
   exact ⟨W.G.X.keeps I2.base,aq (wN W ((st.step S1).step S2) ⟨_,((F.step S1).step S2).lok⟩ I2 (r1.mono S2.imm) r2 q2) (λ Z Z z=>(z.after S2 M2).after S1 M1) λ Z Z z=>(z.after S2 M2).after S1 M1⟩) λ Z Z e=>e))
 |.meth o n as=>λ Z Z Z h=>lf λ H s ρ Q X F st I q=>ae (we (m5 (al h)) (aq ((ev W o (al (ar (ar (ar h))))).1 H s ρ _ X F st I q) (λ v s1 h1=>by
   obtain ⟨u,H1,q1,r1,I1,S1,M1⟩:=h1
   refine aL (CA q1) λ g hg q1=>(ae (cq ?_))
   unfold methodCall
   refine af (tG (ar (ar (ar (ar h)))) (aO (al (ar (ar h))))) ?_
   refine ae (bz (kO W.G I1 r1 hg (ae (lP (v5 (eq_of_beq (al (ar h)))) ?_))))
   refine lX W.G (W.G.keep g) (ar (ar (ar (ar h)))) (gG S1 M1 (KL W as (ar (ar (ar (ar h)))) _ H1 s1 ρ _ X (F.step S1) (st.step S1) I1 q1) λ vs s2 h2=>?_)
   obtain ⟨us,H2,⟨_,q2⟩,r2,I2,S2,M2⟩:=h2
   exact ⟨W.G.X.keeps I2.base,aq (wN W ((st.step S1).step S2) ⟨_,((F.step S1).step S2).lok⟩ I2 (u:=.fn g) Ge (.cons (r1.mono S2.imm) r2) q2) (λ Z Z z=>(z.after S2 M2).after S1 M1) λ Z Z z=>(z.after S2 M2).after S1 M1⟩) λ Z Z e=>e))
 |.comp own fr el j it c=>λ Z Z Z h=>lf λ H s ρ Q X F st I q=>yP W ((ev W it (al (ar (ar (ar h))))).1) (λ cenv hs=>(ev W el (by refine af hs ?_;exact al (ar (ar (ar (ar h)))))).1) (λ cenv hs=>NJ W c (by refine af hs ?_;exact ar (ar (ar (ar (ar h)))))) h F st I q ol λ Z Z e=>e
 |.comp2 own fr el j it c j2 it2=>λ Z Z Z h=>lf λ H s ρ Q X F st I q=>vH W ((ev W it (al (ar (ar (ar (ar (ar (ar h)))))))).1) (λ cenv hs=>(ev W el (by refine af hs ?_;exact al (ar (ar (ar (ar (ar (ar (ar h))))))))).1)
   (λ cenv hs=>(ev W c (by refine af hs ?_;exact al (ar (ar (ar (ar (ar (ar (ar (ar h)))))))))).2) (λ cenv hs=>(ev W it2 (by refine af hs ?_;exact ar (ar (ar (ar (ar (ar (ar (ar (ar h)))))))))).1) h F st I q ol λ Z Z e=>e
 |.stuck=>λ Z Z Z Z=>⟨λ Z Z Z Z Z Z Z Z q=>q.elim,λ Z Z Z Z Z Z Z Z q=>q.elim⟩
theorem KL (W:Ap cx tb gl A lv):∀(es:List Mine.E),MZ cx tb gl A lv es
 |[]=>λ Z Z Z Z=>λ Z H s ρ Q X F st I q=>wR ⟨[],H,⟨rfl,q⟩,.nil,I,.refl,.refl⟩
 |e::es=>λ Z Z Z h=>λ pos H s ρ Q X F st I q=>mI (aq ((ev W e (al (ar h))).1 H s ρ _ X F st I q) (λ v s1 h1=>by
   obtain ⟨u,H1,q1,r1,I1,S1,M1⟩:=h1
   refine gG S1 M1 (KL W es (ar (ar h)) pos H1 s1 ρ _ X (F.step S1) (st.step S1) I1 q1) λ vs s2 h2=>?_
   obtain ⟨us,H2,⟨l2,q2⟩,r2,I2,S2,M2⟩:=h2
   exact ⟨u::us,H2,⟨congrArg nF l2,q2⟩,.cons (r1.mono S2.imm) r2,I2,S1.trans S2,M1.trans M2⟩) λ Z Z e=>e) (j9 (nt (al h)))
theorem NL (W:Ap cx tb gl A lv):∀(e:Option Mine.E),LO cx tb gl A lv e
 |none=>λ Z Z Z Z=>λ Z Z Z Z Z Z Z I q=>we (evalPart_none _) (ah (bN.here I mF q))
 |some e=>λ Z Z Z h=>λ H s ρ Q X F st I q=>we (evalPart_some _ _) ((ev W e h).1 H s ρ Q X F st I q)
theorem NJ (W:Ap cx tb gl A lv):∀(e:Option Mine.E),LU cx tb gl A lv e
 |none=>λ Z Z Z Z=>λ H Z Z Z Z Z I q=>wpAny_tests_nil ⟨H,q,I,.refl,.refl⟩
 |some e=>λ Z Z Z h=>λ H s ρ R F st I q=>wpAny_tests_one ((ev W e h).2 H s ρ _ _ F st I q)
theorem G9 (W:Ap cx tb gl A lv):∀(es:List Mine.E),Mo cx tb gl A lv es
 |[]=>λ c Z Z Z Z=>λ Z Z Z Z Z Z Z Z Z q=>q.elim
 |[e]=>λ c Z Z Z h=>λ Z H s ρ Q X F st I q=>(ev W e (al (ar h))).1 H s ρ Q X F st I q
 |e::e2::es=>λ c Z Z Z h=>λ pos H s ρ Q X F st I q=>ae (aq ((ev W e (al (ar h))).1 H s ρ _ X F st I q) (λ v s1 h1=>by
   obtain ⟨u,H1,q1,r1,I1,S1,M1⟩:=h1
   refine aL (C1 q1) λ b e q1=>(ae (cq (ae (bz (tH r1 e ?_)))))
   cases c<;>cases b<;>first
    |exact aq (G9 W (e2::es) (ar (ar h)) pos H1 s1 ρ Q X (F.step S1) (st.step S1) I1 q1) (λ Z Z z=>z.after S1 M1) λ Z Z z=>z.after S1 M1
    |exact ah (bN.after S1 M1 (bN.here I1 r1 q1))) λ Z Z e=>e)
theorem Lm (W:Ap cx tb gl A lv):∀(es:List Mine.E) {c:Bool} {t:PT} {nm:List aw} {au:i4},okEs gl au.scope nm es t=true->M0 cx tb A lv nm au (cond c .And .Or) c es (emEs nm es t)
 |[],true,_,_,_,_=>λ H Z Z Z Z Z Z I q=>wpAny_allTrue_And_nil ⟨H,q,I,.refl,.refl⟩
 |[],false,_,_,_,_=>λ H Z Z Z Z Z Z I q=>wpAny_allTrue_Or_nil ⟨H,q,I,.refl,.refl⟩
 |e::es,true,_,_,_,h=>λ H s ρ Q X F st I q=>wpAny_allTrue_And_cons (aq ((ev W e (al (ar h))).2 H s ρ _ X F st I q) (λ b s1 h1=>by
   obtain ⟨H1,q1,I1,S1,M1⟩:=h1
   cases b with
   |true=>exact (Lm W es (c:=true) (ar (ar h))).after F st S1 M1 I1 q1
   |false=>exact ⟨H1,q1,I1,S1,M1⟩) λ Z Z e=>e)
 |e::es,false,_,_,_,h=>λ H s ρ Q X F st I q=>wpAny_allTrue_Or_cons (aq ((ev W e (al (ar h))).2 H s ρ _ X F st I q) (λ b s1 h1=>by
   obtain ⟨H1,q1,I1,S1,M1⟩:=h1
   cases b with
   |false=>exact (Lm W es (c:=false) (ar (ar h))).after F st S1 M1 I1 q1
   |true=>exact ⟨H1,q1,I1,S1,M1⟩) λ Z Z e=>e)
end
end
def PF (au:i4):aI->Prop:=λ a=>a=au.locals\/∃n,au.cells.lookup n=some a
theorem bb.mono (x:bb P H h H' h') (k:∀a,P a->P' a):bb P' H h H' h':=
 ⟨x.imm,λ a m e f n=>x.ns a m e f λ z=>n (k _ z),λ a v e n=>x.cell a v e λ z=>n (k _ z),x.nsP,x.fresh,x.there,λ a o e q f n=>x.kp a o e q f λ z=>n (k _ z)⟩
theorem bb.storeC (n:h.IsCell c v) (n':h'.IsCell c v') (sb:dk c h h') (p:P c):bb P H h H h':=by
 refine aL (id n) λ o ho hd=>(aL n' λ o' ho' Z=>?_)
 have ne:∀b m,h.Ns b m->b≠c:=λ b m e q=>by
  refine iZ e λ ob es ep e1 d Z=>?_
  rw [q,ho] at e1;(have e1:=ac e1;subst e1);rw [hd] at d;exact gi d rfl
 have k:∀b o,b≠c->h.get? b=some o->h'.get? b=some o:=λ b o q e=>(sb.2 b q).trans e
 refine ⟨λ b ob e i=>k b ob (λ q=>?_) e,λ b m e Z Z=>e.sameBut sb (ne b m e),λ b v e np=>?_,λ b m e Z=>⟨m,e.sameBut sb (ne b m e)⟩,λ Z x y=>absurd x y,λ b ob e=>?_,λ b ob e Z Z np=>k b ob (λ q=>np (q▸p)) e⟩
 ·rw [q,ho] at e;(have e:=ac e;subst e)
  rcases i with ⟨xs,n,z,_⟩|⟨vs,z,_⟩<;>(rw [hd] at z;exact gi z rfl)
 ·exact e.sameBut sb λ q=>np (q▸p)
 ·by_cases q:b=c
  ·exact ⟨o',q▸ho'⟩
  ·exact ⟨ob,k b ob q e⟩
namespace cb.storeC
def S_ (cx h v):=∀{H:MH} {h':cM} (I:cb cx H h) {c:aI} (n:h.IsCell c v) (sb:dk c h h') (hb:cx.base.objs.size<=c),cb cx H h'
def U_:=UU λ cx=>UU λ h=>S_ cx h
def t_:=dr (by have:=ti;infer_instance) U_
def cx:=t_.1
def h:=t_.2.1
def v:=t_.2.2
theorem P_:S_ cx h v:=by
 intro H h' I c n sb hb
 refine aL n λ o ho hd=>?_
 have ni:¬tF o:=by rintro (⟨xs,n,z,_⟩|⟨vs,z,_⟩)<;>(rw [hd] at z;exact gi z rfl)
 refine I.moved (λ b ob e i=>(sb.2 b λ q=>?_).trans e) (λ b ob e=>(sb.2 b λ q=>?_).trans (I.base b ob e)) λ b nf=>sb.2 b λ q=>?_
 ·rw [q,ho] at e;(have e:=ac e;subst e);exact ni i
 ·rw [q] at e;exact absurd (bx e) (du.mpr hb)
 ·subst q
  have:(∃mo,H b=some mo)\/∃a cl as,H a=some (.inst cl b as):=by
   cases z:H b with
   |some mo=>exact .inl ⟨mo,rfl⟩
   |none=>exact .inr (eq λ y=>nf ⟨z,λ a cl as e=>y ⟨a,cl,as,e⟩⟩)
  rcases this with ⟨mo,e⟩|⟨a,cl,as,e⟩
  ·have r:=I.own _ _ e
   cases mo with
   |list us=>obtain ⟨_,_,g,_⟩:=r;rw [ho] at g;cases g;cases hd
   |sdict es=>obtain ⟨_,⟨o',_,_,g,_,d,_⟩,_⟩:=r;rw [ho] at g;cases g;rw [hd] at d;cases d
   |idict f n=>obtain ⟨_,⟨o',_,_,g,_,d,_⟩,_⟩:=r;rw [ho] at g;cases g;rw [hd] at d;cases d
   |tdict es=>obtain ⟨_,⟨o',_,_,g,_,d,_⟩,_⟩:=r;rw [ho] at g;cases g;rw [hd] at d;cases d
   |edict=>obtain ⟨_,g⟩:=r;rw [ho] at g;cases g;cases hd
   |inst c d as=>obtain ⟨_,_,_,_,g,_⟩:=r;rw [ho] at g;cases g;cases hd
  ·refine kf (I.own _ _ e) λ Z Z Z Z Z g Z=>?_
   rw [ho] at g;cases g;cases hd
theorem A_:∀p,U_ p:=bB P_
end cb.storeC
theorem cb.storeC {cx h v}:cb.storeC.S_ cx h v:=cb.storeC.A_ (cx,h,v)
noncomputable def stName (sc:gA) (x:aw):Bool:=sc.names.lookup x==some .local||sc.names.lookup x==some .cell
section
variable {cx:Cx}
theorem ou (F:Fm cx au nm H ρ s.heap) (I:cb cx H s.heap) (hn:nm[i]?=some x) (hk:stName au.scope x=true) (r:VRel cx s.heap u v)
  (k:∀s',Fm cx au nm H (ρ.set i (some u)) s'.heap->cb cx H s'.heap->bb (PF au) H s.heap H s'.heap->dR s s'->R () s'):aE (ay cx.prog cx.w) A (storeName au x v) R Ex s:=by
 unfold stName at hk
 simp only [jt,beq_iff_eq] at hk
 refine cu (id F.slots) λ m cm h1 h2 h3=>?_
 by_cases hl:au.kindOf x=some .local
 ·refine jw hl h1 (λ h' hn' hs'=>?_) (by refine af F.kind ?_;rfl)
  exact k {s with heap:=h',toks:=s.toks+1} (F.store hn hl h1 hn' hs' (VRel.mono (bb.store (P:=PF au) (H:=H) h1 hn' hs' (.inl rfl)).imm _ r)) (I.store h1 hs' F.free F.aboveL) (bb.store h1 hn' hs' (.inl rfl)) ⟨rfl,rfl,rfl⟩
 ·have hc:au.kindOf x=some .cell:=hk.resolve_left hl
  refine bu (F.cellsAll x hc) λ c hcl=>?_
  have h2c:=h2 x c hcl
  refine wpAny_storeName_cell F.kind hc hcl h2c λ h' hn' hs'=>?_
  have S:bb (PF au) H s.heap H h':=bb.storeC h2c hn' hs' (.inr ⟨x,hcl⟩)
  refine k {s with heap:=h'} ?_ (I.storeC h2c hs' (F.aboveC x c hcl)) S ⟨rfl,rfl,rfl⟩
  have nL:au.locals≠c:=λ q=>by
   refine aL h2c λ o g1 g2=>?_
   rw [<-q] at g1
   exact (kj h1 g1).2 _ g2
  refine ⟨F.kind,F.glob,F.blt,F.nd,by exact af jv F.len,F.apart,F.aboveL,F.aboveC,F.cellsAll,F.free,m,(λ y=>if y=x then some v else cm y),h1.sameBut hs' nL,λ n c' e=>?_,λ j y e=>?_⟩
  ·by_cases q:n=x
   ·subst q
    rw [hcl] at e;(have e:=ac e;subst e)
    show h'.IsCell _ (if n=n then some v else cm n)
    exact af (if_pos rfl) hn'
   ·show h'.IsCell _ (if n=x then some v else cm n)
    refine af (if_neg q) ?_
    exact (h2 n c' e).sameBut hs' (F.apart _ _ _ _ e hcl q)
  ·by_cases q:i=j
   ·subst q
    rw [hn] at e;(have e:=ac e;subst e)
    refine .inr ⟨.inl hc,⟨c,hcl⟩,λ u' hu=>?_⟩
    rw [pP (by refine af F.len ?_;exact (aN.mp hn).1)] at hu
    (have hu:=ac hu;subst hu)
    exact ⟨v,if_pos rfl,VRel.mono S.imm _ r⟩
   ·refine af (oZ q) ?_
    rcases h3 j y e with ⟨c1,c2⟩|⟨c1,c2,c3⟩
    ·exact .inl ⟨c1,λ u hu=>let ⟨v,e1,e2⟩:=c2 u hu;⟨v,e1,VRel.mono S.imm _ e2⟩⟩
    ·exact .inr ⟨c1,c2,λ u hu=>let ⟨v,e1,e2⟩:=c3 u hu;⟨v,(if_neg (Da F.nd q hn e)).trans e1,VRel.mono S.imm _ e2⟩⟩
theorem yB.cls {St:Nat->cM->Prop} (J:yB cx A h0 u us I fp P St) (st:St i h):
  ∃o vs T,h.get? I=some o/\o.data=.fields vs/\o.cls=.type T/\["enumerate","zip","dict_itemiterator","dict_reverseitemiterator","odict_iterator","itertools.zip_longest","itertools.pairwise"].contains T=false:=by
 refine fy (J.kpI i h st) λ o ho k Z t1_=>(bu t1_ λ vs hd=>?_)
 rcases k with ⟨_,_,q⟩|⟨_,_,q|q|q|q⟩
 ·rw [hd] at q;exact gi q rfl
 ·exact ⟨o,vs,_,ho,hd,q,by decide⟩
 ·exact ⟨o,vs,_,ho,hd,q,by decide⟩
 ·exact ⟨o,vs,_,ho,hd,q,by decide⟩
 ·exact ⟨o,vs,_,ho,hd,q,by decide⟩
theorem yv {St:Nat->cM->Prop} (J:yB cx A h0 u us It fp P St):∀(n i:Nat) (s:ax) (R:List av->ax->Prop),i+n<=us.length->St i s.heap->bP h0 s.heap->
  (∀vs h' tk,VRels cx h' ((us.drop i).take n) vs->St (i+n) h'->(∀b o,b≠It->s.heap.get? b=some o->h'.get? b=some o)->R vs {s with heap:=h',toks:=tk})->aE (ay cx.prog cx.w) A (draw (.ref It) n) R Ex s
 |0,i,s,R,_,st,_,k=>ah (by simpa using k [] s.heap s.toks (by simpa using VRels.nil) st λ Z Z Z e=>e)
 |n+1,i,s,R,hle,st,ki,k=>by
  refine ae (J.W.item i _ _ _ (by lia) st λ v h1 tk1 hP st1 k1=>?_)
  have k1':∀b o,b≠It->s.heap.get? b=some o->h1.get? b=some o:=λ b o n e=>k1 b o (by simpa using n) e
  refine fy (J.kpI _ _ st) λ oI hoI Z niI Z=>?_
  have ki1:bP s.heap h1:=λ b ob e i=>k1' b ob (λ z=>by rw [z,hoI] at e;(have e:=ac e;subst e);exact niI i) e
  obtain ⟨u1,hu1⟩:∃u1,us[i]?=some u1:=⟨_,an (by lia)⟩
  have hd:us.drop i=u1::us.drop (i+1):=by
   refine af (cC (by lia)) ?_
   rw [an (by lia)] at hu1;(have hu1:=ac hu1;subst hu1);rfl
  refine ae (bz (yv J n (i+1) {s with heap:=h1,toks:=tk1} _ (by lia) st1 (λ a o e i=>ki1 a o (ki a o e i) i) λ vs h2 tk2 r2 st2 k2=>ah ?_))
  have rv:VRel cx h2 u1 v:=J.val i v u1 h2 hP hu1 (λ a o e i=>by
   exact fy (J.kpI _ _ st1) λ oI1 hoI1 Z niI1 Z=>(k2 a o (λ z=>by rw [z] at e;have:=ki1 _ _ (ki _ _ e i) i;rw [hoI1] at this;(have this:=ac this;subst this);exact niI1 i) (ki1 _ _ (ki _ _ e i) i)))
  refine k (v::vs) h2 tk2 ?_ (by exact af (show i+(n+1)=i+1+n by lia) st2) λ b o nb e=>k2 b o nb (k1' b o nb e)
  refine af hd (af List.take_succ_cons ?_)
  exact .cons rv r2
theorem tu (h:seqOf H u=some us):itemsOf H u=some us:=by
 cases u<;>simp only [seqOf] at h<;>first|exact h|exact bH h
end
namespace eW
def S_ (cx s A n):=∀{H:MH} {Ex:av->ax->Prop} {u:V} {us:List V} {v:av} {R:List av->ax->Prop} (hA:A.handled=none) (I:cb cx H s.heap) (ru:VRel cx s.heap u v) (hi:seqOf H u=some us) (hn:us.length=n) (k:∀vs h' tk,VRels cx h' us vs->(∀b o,s.heap.get? b=some o->h'.get? b=some o)->R vs {s with heap:=h',toks:=tk}),aE (ay cx.prog cx.w) A (unpackItems v n none) R Ex s
def U_:=UV λ cx s A=>S_ cx s A
def t_:=dr (by have:=qf;have:=p5;have:=ti;infer_instance) U_
def cx:=t_.1
def s:=t_.2.1
def A:=t_.2.2.1
def n:=t_.2.2.2
theorem P_:S_ cx s A n:=by
 intro H Ex u us v R hA I ru hi hn k
 have start:(∃T id,s.TypeIs v T/\Slot T "__iter__" id):=by
  cases u with
  |tuple us'=>obtain ⟨a,aB,rfl,ht,_⟩:=fz ru;exact ⟨_,_,ht.typeIs,slot_tuple_iter⟩
  |ref a=>
   have:=df ru;subst this
   have e:=iB (tu hi)
   exact fZ (I.own _ _ e) λ aB nn ho Z=>⟨_,_,(show s.heap.IsList a aB from ⟨_,ho,rfl,nn,rfl⟩).typeIs,slot_list_iter⟩
  |_=>simp [seqOf] at hi
 refine fZ start λ T id hT sl=>?_
 refine ae (ae (wpAny_specialOf hT sl.lookup (ah ?_)))
 simp only [ch,if_false]
 refine ae (bz (ql hA I ru (tu hi) λ fp P St h1 J k1 z1 st1=>?_))
 refine ae (bz (yv J n 0 {s with heap:=h1} _ (by lia) st1 (bP.of_keeps k1) λ vs h2 tk2 r2 st2 k2=>?_))
 have hall:(us.drop 0).take n=us:=by refine af t8 ?_;exact iu (gm ‹_›)
 rw [hall] at r2
 rw [if_neg (by refine af r2.len ?_;lia)]
 have st2:St us.length h2:=by refine af hn ?_;simpa using st2
 refine ae (bz (J.W.done _ _ _ st2 λ h3 tk3 k3=>?_))
 simp only [Option.isSome_none,ch,if_false]
 have ne:∀b o,s.heap.get? b=some o->b≠s.heap.objs.size:=λ b o e=>dM (bx e)
 refine fy (J.kpI _ _ st2) λ oI hoI Z niI Z=>?_
 have ki3:bP h2 h3:=λ b ob e i=>k3 b ob (λ z=>by rw [aK.mp z,hoI] at e;cases e;exact niI i) e
 refine ah (k vs h3 tk3 (r2.mono ki3 us) λ b o e=>k3 b o (by simpa using ne b o e) (k2 b o (ne b o e) (k1 b o e)))
theorem A_:∀p,U_ p:=bB P_
end eW
section
variable {cx:Cx}
theorem eW {cx s A n}:eW.S_ cx s A n:=eW.A_ (cx,s,A,n)
end
inductive Fx (cx:Cx) (au:i4) (nm:List aw) (H:MH) (s:ax) (N:da->MH->Prop) (s':ax):Prop
 |mk (ρ' H') (h1:N ρ' H') (h2:Fm cx au nm H' ρ' s'.heap) (h3:cb cx H' s'.heap) (h4:bb (PF au) H s.heap H' s'.heap) (h5:dR s s'):Fx cx au nm H s N s'
inductive Fy (cx:Cx) (au:i4) (H:MH) (s:ax) (R:V->MH->Prop) (v:av) (s':ax):Prop
 |mk (u H') (h1:R u H') (h2:VRel cx s'.heap u v) (h3:cb cx H' s'.heap) (h4:bb (PF au) H s.heap H' s'.heap) (h5:dR s s'):Fy cx au H s R v s'
def gH (cx:Cx) (au:i4) (nm:List aw) (H:MH) (s:ax) (N:da->MH->Prop) (R:V->MH->Prop) (f:Flow) (s':ax):Prop:=match f with
 |.next=>Fx cx au nm H s N s'
 |.ret v=>Fy cx au H s R v s'
 |_=>False
theorem gH.after (st:bb (PF au) H s.heap H1 s1.heap) (sm:dR s s1) (p:gH cx au nm H1 s1 N R f s'):gH cx au nm H s N R f s':=by
 cases f with
 |next=>obtain ⟨ρ',H',q,F,I,x,y⟩:=p;exact ⟨ρ',H',q,F,I,st.trans x,sm.trans y⟩
 |ret v=>obtain ⟨u,H',q,r,I,x,y⟩:=p;exact ⟨u,H',q,r,I,st.trans x,sm.trans y⟩
 |brk=>exact p.elim
 |cont=>exact p.elim
noncomputable def emNs (nm:List aw):List Nat->PT->List Expr
 |[],_=>[]
 |i::is,t=>.Name (nmAt nm i) t.l.p::emNs nm is t.r
noncomputable def emT (nm:List aw):T->PT->Expr
 |.loc i,t=>.Name (nmAt nm i) t.p
 |.tup is,t=>.Tuple (emNs nm is t.l) t.k t.p
noncomputable def okNs (sc:gA) (nm:List aw) (is:List Nat):Bool:=is.all λ i=>nm[i]?==some (nmAt nm i)&&stName sc (nmAt nm i)
noncomputable def okT (sc:gA) (nm:List aw):T->Bool
 |.loc i=>nm[i]?==some (nmAt nm i)&&stName sc (nmAt nm i)
 |.tup is=>okNs sc nm is
inductive qV (cx:Cx) (au:i4) (nm:List aw) (H:MH) (s:ax) (N:da->MH->Prop) (s':ax):Prop
 |mk (ρ') (h1:N ρ' H) (h2:Fm cx au nm H ρ' s'.heap) (h3:cb cx H s'.heap) (h4:bb (PF au) H s.heap H s'.heap) (h5:dR s s'):qV cx au nm H s N s'
section
variable {cx:Cx}
theorem jB (F:Fm cx au nm H ρ s.heap) (I:cb cx H s.heap) (hn:nm[i]?=some x) (hk:stName au.scope x=true) (r:VRel cx s.heap u v) (q:N (ρ.set i (some u)) H):
  aE (ay cx.prog cx.w) A (assign (.Name x px) au v) (λ Z s'=>qV cx au nm H s N s') Ex s:=
 lQ (ou F I hn hk r λ s' F' I' S' M'=>⟨_,q,F',I',S',M'⟩)
inductive pd (cx:Cx) (A:dy) (au:i4) (nm:List aw):List Nat->List (av->uY Unit)->Prop
 |nil:pd cx A au nm [] []
 |cons {i is f fs} (h:∀v (Q:Unit->ax->Prop) E s,aE (ay cx.prog cx.w) A (storeName au (nmAt nm i) v) Q E s->aE (ay cx.prog cx.w) A (f v) Q E s) (r:pd cx A au nm is fs):pd cx A au nm (i::is) (f::fs)
theorem tz (hs:pd cx A au nm is fs):∀{us:List V} {vs:List av} {s:ax} {ρ:da} {N:da->MH->Prop},okNs au.scope nm is=true->Fm cx au nm H ρ s.heap->cb cx H s.heap->us.length=is.length->VRels cx s.heap us vs->N (setAll ρ is us) H->
  aE (ay cx.prog cx.w) A (assignInOrder fs vs) (λ Z s'=>qV cx au nm H s N s') Ex s:=by
 induction hs with
 |nil=>exact λ {us} {_} {_} {ρ} {_} Z F I hl Z q=>ah ⟨ρ,by cases us with
  |nil=>exact q
  |cons _ _=>exact tc hl,F,I,.refl,.refl⟩
 |cons h _ ih=>
  intro us vs s ρ N ho F I hl r q
  cases us with
  |nil=>exact tc hl
  |cons u us=>
   refine cu r.cons_inv λ v vs' r1_ r1 r2=>?_
   subst r1_
   refine ae (bz (h _ _ _ _ (ou F I (eq_of_beq (al (al ho))) (ar (al ho)) r1 λ s' F' I' S' M'=>?_)))
   exact aq (ih (N:=N) (ar ho) F' I' (ua hl) (r2.mono S'.imm _) q) (λ Z s2 ⟨ρ2,q2,F2,I2,S2,M2⟩=>⟨ρ2,q2,F2,I2,S'.trans S2,M'.trans M2⟩) λ Z Z e=>e
theorem pZ:∀{is:List Nat} {t:PT},pd cx A au nm is ((sf (emNs nm is t) au).map (·.2))
 |[],_=>.nil
 |_::_,_=>.cons (λ Z Z Z Z=>lQ) pZ
theorem pY:∀{is:List Nat},pd cx A au nm is ((is.map (nmAt nm)).map λ n=>bindName au n)
 |[]=>.nil
 |_::_=>.cons (λ Z Z Z Z=>wpAny_bindName) pY
theorem m8:∀{is:List Nat} {t:PT},(sf (emNs nm is t) au).length=is.length/\(sf (emNs nm is t) au).findIdx? (·.1)=none
 |[],_=>⟨rfl,rfl⟩
 |_::is,t=>⟨congrArg nF (m8 (is:=is) (t:=t.r)).1,by
  refine af (List.findIdx?_cons) (af ((m8 (is:=is) (t:=t.r)).2) ?_);rfl⟩
theorem rN (hA:A.handled=none) (F:Fm cx au nm H ρ s.heap) (I:cb cx H s.heap) (h:okT au.scope nm x=true) (r:VRel cx s.heap u v) (q:assignT x u ρ H N):
  aE (ay cx.prog cx.w) A (assign (emT nm x t) au v) (λ Z s'=>qV cx au nm H s N s') Ex s:=by
 cases x with
 |loc i=>exact jB F I (eq_of_beq (al h)) (ar h) r q
 |tup is=>
  refine aL (rW q) λ us e q=>(bw (m8 (nm:=nm) (au:=au) (is:=is) (t:=t.l)) λ b c=>?_)
  refine ae (cq ?_)
  unfold unpack
  refine af c (af b ?_)
  refine ae (bz (eW hA I r e q.1 λ vs h' tk rs k=>?_))
  exact aq (tz pZ (s:={s with heap:=h',toks:=tk}) (N:=N) h (F.step (bb.keeps k)) (I.keeps k) q.1 rs q.2) (λ Z s2 ⟨ρ2,q2,F2,I2,S2,M2⟩=>⟨ρ2,q2,F2,I2,(bb.keeps k).trans S2,dR.trans ⟨rfl,rfl,rfl⟩ M2⟩) λ Z Z e=>e
end
noncomputable def swC (n m:Nat):Bool:=!(n==2||n==3)||m !=n||ScopeKind.function !=.function
noncomputable def swOk (sc:gA) (nm:List aw) (line:Nat):List Nat->PT->Bool
 |[],_=>true
 |i::is,t=>(sc.names.lookup (nmAt nm i)==some .local&&t.l.p.line==line)&&swOk sc nm line is t.r
noncomputable def okSw (sc:gA) (nm:List aw) (is:List Nat) (t:PT):E->PT->Bool
 |.tup es,u=>swC (emNs nm is t).length (emEs nm es u.l).length||(!swC (emNs nm is t).length (emEs nm es u.l).length&&(decide is.Nodup&&(!((emEs nm es u.l).any λ|.Starred ..=>true|_=>false)&&(swOk sc nm (((emNs nm is t).head?.map (·.pos.line)).getD 0) is t&&
  (!((is.map (nmAt nm)).length !=(emNs nm is t).length||(is.map (nmAt nm)).eraseDups.length !=(is.map (nmAt nm)).length)&&(!((emEs nm es u.l).all (foldedForSure 8))&&!((emEs nm es u.l).all (constantsAlone 8))))))))
 |_,_=>true
theorem wi {au:i4} (h:au.scope.kind=.function):au.blockKind=.function:=by unfold Env.blockKind;refine af h ?_;rfl
theorem vq {au:i4}:∀{is:List Nat} {t:PT},swOk au.scope nm line is t=true->
  ((emNs nm is t).filterMap λ|.Name id pos=>if au.kindOf id==some .local&&pos.line==line then some id else none|_=>none)=is.map (nmAt nm)
 |[],_,_=>rfl
 |_::_,_,h=>by
  refine af (u0 (b:=nmAt nm _) (by exact if_pos (al h))) (af (vq (ar h)) ?_);rfl
theorem wg:∀{is:List Nat} {t:PT},(emNs nm is t).length=is.length
 |[],_=>rfl
 |_::is,t=>congrArg nF (wg (is:=is) (t:=t.r))
theorem ot {α:Type} {x y:uY α} (h:b=false):(if b=true then x else y)=y:=by subst h;rfl
theorem Ez (hk:au.scope.kind=.function) (h:swC (emNs nm is t).length (emEs nm es u).length=true):fW [.Tuple (emNs nm is t) c p] (.Tuple (emEs nm es u) k q) au=pure none:=by
 unfold fW
 refine af (wi hk) ?_
 exact if_pos h
theorem NN (h:(false||(!false&&b))=true):b=true:=h
theorem E3 (hk:au.scope.kind=.function) (h:okSw au.scope nm is t (.tup es) u=true) (h0:swC (emNs nm is t).length (emEs nm es u.l).length=false):
  is.Nodup/\(is.length=2\/is.length=3)/\fW [.Tuple (emNs nm is t) c p] (.Tuple (emEs nm es u.l) k q) au=pure (some (is.map (nmAt nm))):=by
 have h1:(swC (emNs nm is t).length (emEs nm es u.l).length||_)=true:=h
 rw [h0] at h1
 have h2:=NN h1
 refine ⟨dt (al h2),?_,?_⟩
 ·cases z:(emNs nm is t).length==2||(emNs nm is t).length==3 with
  |true=>rw [wg] at z;exact (nJ.mp z).imp eq_of_beq eq_of_beq
  |false=>unfold swC at h0;rw [z] at h0;cases h0
 ·have e:=vq (al (ar (ar h2)))
  unfold fW
  refine af (wi hk) ?_
  exact (ot h0).trans ((ot (nt (al (ar h2)))).trans ((ot ((congrArg (λ ns:List aw=>ns.length !=(emNs nm is t).length||ns.eraseDups.length !=ns.length) e).trans (nt (al (ar (ar (ar h2))))))).trans ((ot (nt (al (ar (ar (ar (ar h2))))))).trans ((ot (nt (ar (ar (ar (ar (ar h2))))))).trans (congrArg (λ l=>(pure (some l):uY (Option (List aw)))) e)))))
theorem uM {α:Type} {l:List α} (h:l.length=2):∃a b,l=[a,b]:=⟨_,_,List.eq_getElem_of_length_eq_two l h⟩
theorem mx {α:Type} {l:List α} (h:l.length=3):∃a b c,l=[a,b,c]:=⟨_,_,_,List.eq_getElem_of_length_eq_three l h⟩
theorem xG (hn:is.Nodup) (hl:is.length=2\/is.length=3) (hu:us.length=is.length):setAll ρ is.reverse us.reverse=setAll ρ is us:=by
 rcases hl with h|h
 ·refine BO (uM h) λ i j r1_=>?_
  subst r1_
  refine BO (uM (hu.trans h)) λ u v r1_=>?_
  subst r1_
  simp only [cc,aK] at hn
  exact jg _ _ (fQ hn.1)
 ·refine iF (mx h) λ i j k r1_=>?_
  subst r1_
  refine iF (mx (hu.trans h)) λ u v w r1_=>?_
  subst r1_
  simp only [cc,aY,aK,not_or,f9,or_false] at hn
  show ((ρ.set k (some w)).set j (some v)).set i (some u)=((ρ.set i (some u)).set j (some v)).set k (some w)
  have n1:i≠j:=hn.1.1
  have n2:i≠k:=hn.1.2
  have n3:j≠k:=hn.2.1
  exact af (jg _ _ (fQ n3)) (af (jg (i:=k) (j:=i) _ _ (fQ n2)) (af (jg (i:=j) (j:=i) _ _ (fQ n1)) rfl))
theorem oa (h:isComp value=false):swapsWith value t line au=pure false:=by
 cases value<;>first|rfl|cases h
theorem xm:∃b,swapsWith value (some (.Name x px)) line au=pure b:=by
 cases value<;>exact ⟨_,rfl⟩
theorem zy:qp [.Tuple ts c px] value line au=pure false:=by
 cases value<;>rfl
theorem qQ:qp [.Attribute o n px] value line au=pure false:=by
 cases value<;>rfl
theorem zM:qp [.Subscript o i px] value line au=pure false:=by
 cases value<;>rfl
section
variable {cx:Cx}
theorem qV.toS (p:qV cx au nm H s N s'):gH cx au nm H s N R .next s':=
 let ⟨ρ',q,F,I,S,M⟩:=p;⟨ρ',H,q,F,I,S,M⟩
theorem VRels.rev:∀{us:List V} {vs:List av},VRels cx h us vs->VRels cx h us.reverse vs.reverse
 |[],_,r=>by cases r.nil_inv;exact .nil
 |u::us,_,r=>by
  refine cu r.cons_inv λ v vs' r1_ r1 r2=>?_
  subst r1_
  refine af DO (af DO ?_)
  exact (VRels.rev r2).app (.one r1)
theorem E9 (hA:A.handled=none) (F:Fm cx au nm H ρ s.heap) (I:cb cx H s.heap)
  (h:okNs au.scope nm is=true) (hn:is.Nodup) (hl:is.length=2\/is.length=3) (r:VRel cx s.heap u v) (e:seqOf H u=some us) (q:us.length=is.length/\N (setAll ρ is us) H):
  aE (ay cx.prog cx.w) A (assignStores au v (some (is.map (nmAt nm))) stores) (gH cx au nm H s N R) Ex s:=by
 show aE _ _ (do
  rule "assign.swapped-stores"
  let aB<-unpackItems v (is.map (nmAt nm)).length none
  assignInOrder ((is.map (nmAt nm)).reverse.map λ n=>bindName au n) aB.reverse
  pure Flow.next) _ _ _
 refine af List.map_reverse.symm ?_
 refine ae (jI (ae (eW hA I r e (q.1.trans (ag _).symm) λ vs h' tk rs k=>?_)))
 refine ae (aq (tz pY (s:={s with heap:=h',toks:=tk}) (N:=N) (us:=us.reverse) (List.all_reverse.trans h) (F.step (bb.keeps k)) (I.keeps k) (jL.trans (q.1.trans jL.symm)) rs.rev ?_) (λ Z s2 ⟨ρ2,q2,F2,I2,S2,M2⟩=>?_) λ Z Z e=>e)
 ·exact af (xG hn hl q.1) q.2
 ·exact ah (qV.toS ⟨ρ2,q2,F2,I2,(bb.keeps k).trans S2,dR.trans ⟨rfl,rfl,rfl⟩ M2⟩)
theorem Fm.beside (F:Fm cx au nm H ρ h) (n:h.Ns C m) (sb:dk C h h') (nL:au.locals≠C) (nC:∀x c,au.cells.lookup x=some c->c≠C):Fm cx au nm H ρ h':=by
 refine cu F.slots λ m1 cm b c d=>?_
 have ki:bP h h':=λ b ob e i=>(sb.2 b (λ q=>by subst q;exact (kj n e).1 i)).trans e
 refine ⟨F.kind,F.glob,F.blt,F.nd,F.len,F.apart,F.aboveL,F.aboveC,F.cellsAll,F.free,m1,cm,b.sameBut sb nL,λ n c' e=>(c n c' e).sameBut sb (nC n c' e),λ i y e=>?_⟩
 rcases d i y e with ⟨c1,c2⟩|⟨c1,c2,c3⟩
 ·exact .inl ⟨c1,λ u hu=>let ⟨v,e1,e2⟩:=c2 u hu;⟨v,e1,VRel.mono ki _ e2⟩⟩
 ·exact .inr ⟨c1,c2,λ u hu=>let ⟨v,e1,e2⟩:=c3 u hu;⟨v,e1,VRel.mono ki _ e2⟩⟩
theorem Fm.notNew (F:Fm cx au nm H ρ h) (n:h.get? C=none):au.locals≠C/\∀x c,au.cells.lookup x=some c->c≠C:=by
 refine cu F.slots λ m1 cm b c d=>⟨λ q=>?_,λ x c' e q=>?_⟩
 ·refine bu (gy b) λ o ho=>?_
  rw [q,n] at ho;exact bH ho
 ·refine aL (c x c' e) λ o ho Z=>?_
  rw [q,n] at ho;cases ho
theorem Fm.notPF (F:Fm cx au nm H ρ h) (n:h.get? C=none):¬PF au C:=by
 refine bw (F.notNew n) λ a b=>?_
 rintro (z|⟨x,e⟩)
 ·exact a z.symm
 ·exact b x C e rfl
theorem sG (F:Fm cx au nm H ρ s.heap) (hn:nm[i]?=some y) (hk:stName au.scope y=true):
  CompFin cx A Ex (some λ v=>assign (.Name y py) au v) (λ Z s'=>gH cx au nm H s N R .next s') H s (λ u H'=>N (ρ.set i (some u)) H'):=by
 intro D C s' H' m q nC hb hm hDC fC I' S' M'
 have F':=F.step S'
 refine bw (F.notNew nC) λ nL nCs=>?_
 refine aq (jB F' I' hn hk lS q) (λ Z s2 h2=>?_) λ Z Z e=>e
 obtain ⟨ρ2,q2,F2,I2,S2,M2⟩:=h2
 have hm2:=S2.ns _ _ hm fC (F.notPF nC)
 refine ⟨m,hm2,λ h' sb=>⟨ρ2,H',q2,F2.beside hm2 sb nL nCs,I2.store hm2 sb fC hb,?_,(M'.trans M2).trans ⟨rfl,rfl,rfl⟩⟩⟩
 exact (S'.weak.trans S2).chg nC λ b o n e=>(sb.2 b n).trans e
end
section
variable (cx:Cx) (tb:on) (gl:GL) (A:dy) (lv:Nat)
def Ik (nm:List aw) (au:i4) (e:Mine.S) (x:lB):Prop:=∀(H:MH) (s:ax) (ρ:da) (N:da->MH->Prop) (R:V->MH->Prop) (X:aw->MH->Prop),Fm cx au nm H ρ s.heap->iC cx A H s.heap->cb cx H s.heap->
 wpS tb lv e ρ H N R X->aE (ay cx.prog cx.w) A (exec x au) (gH cx au nm H s N R) (cn cx (PF au) H s X) s
def DA (nm:List aw) (au:i4) (e:List Mine.S) (x:List lB):Prop:=∀(H:MH) (s:ax) (ρ:da) (N:da->MH->Prop) (R:V->MH->Prop) (X:aw->MH->Prop),Fm cx au nm H ρ s.heap->iC cx A H s.heap->cb cx H s.heap->
 wpSs tb lv e ρ H N R X->aE (ay cx.prog cx.w) A (execs x au) (gH cx au nm H s N R) (cn cx (PF au) H s X) s
end
inductive Gb (te:da->MH->(Bool->MH->Prop)->Prop) (bo:da->MH->(da->MH->Prop)->Prop) (N:da->MH->Prop) (cx:Cx) (A:dy) (au:i4) (nm:List aw) (H:MH) (s:ax) (n:Nat) (s':ax):Prop
 |mk (ρ' H') (g1:whileW te bo N n ρ' H') (g2:Fm cx au nm H' ρ' s'.heap) (g3:iC cx A H' s'.heap) (g4:cb cx H' s'.heap) (g5:bb (PF au) H s.heap H' s'.heap) (g6:dR s s'):Gb te bo N cx A au nm H s n s'
inductive FV (bo:V->da->MH->(da->MH->Prop)->Prop) (N:da->MH->Prop) (cx:Cx) (A:dy) (au:i4) (nm:List aw) (us:List V) (St:Nat->cM->Prop) (H1:MH) (u:V) (s1:ax) (n:Nat) (s':ax):Prop
 |mk (i Hc ρc) (g1:n=us.length+1 -i) (g2:i<=us.length) (g3:St i s'.heap) (g4:forW bo (us.drop i) ρc Hc N) (g5:Fm cx au nm Hc ρc s'.heap) (g6:iC cx A Hc s'.heap) (g7:cb cx Hc s'.heap) (g8:bb (PF au) (asideOf H1 u) s1.heap Hc s'.heap) (g9:dR s1 s') (g10:ci Hc s1.heap.objs.size) (g11:∀a,u=.ref a->ci Hc a):FV bo N cx A au nm us St H1 u s1 n s'
section
variable {cx:Cx}
end
namespace lU
def S_ (cx tb A lv nm au t b y bs H s N R X):=∀{pos:Bx} {ρ:da} (it:GZ cx tb A lv nm au t y) (ib:DA cx tb A lv nm au b bs) (F:Fm cx au nm H ρ s.heap) (st:iC cx A H s.heap) (I:cb cx H s.heap) (q:wpS tb lv (.while_ t b) ρ H N R X),aE (ay cx.prog cx.w) A (exec (.While y bs [] pos) au) (gH cx au nm H s N R) (cn cx (PF au) H s X) s
def U_:=UV λ cx tb A=>UV λ lv nm au=>UV λ t b y=>UV λ bs H s=>UU λ N=>UU λ R=>S_ cx tb A lv nm au t b y bs H s N R
def t_:=dr (by have:=qf;have:=p5;have:=ti;have:=Mn;infer_instance) U_
def cx:=t_.1
def tb:=t_.2.1
def A:=t_.2.2.1
def lv:=t_.2.2.2.1
def nm:=t_.2.2.2.2.1
def au:=t_.2.2.2.2.2.1
def s1_:=t_.2.2.2.2.2.2
def t:=s1_.1
def b:=s1_.2.1
def y:=s1_.2.2.1
def bs:=s1_.2.2.2.1
def H:=s1_.2.2.2.2.1
def s:=s1_.2.2.2.2.2.1
def s2_:=s1_.2.2.2.2.2.2
def N:=s2_.1
def R:=s2_.2.1
def X:=s2_.2.2
theorem P_:S_ cx tb A lv nm au t b y bs H s N R X:=by
 intro pos ρ it ib F st I q
 have q:∃n,whileW (λ ρ H K=>wpE tb lv true t ρ H (λ u H1=>A9 u λ r=>K r H1) jU) (λ ρ H K=>wpSs tb lv b ρ H K R jU) N n ρ H:=q
 refine bu q λ n q=>?_
 refine wpAny_While (codeAny_whileLoop (Gb (λ ρ H K=>wpE tb lv true t ρ H (λ u H1=>A9 u λ r=>K r H1) jU) (λ ρ H K=>wpSs tb lv b ρ H K R jU) N cx A au nm H s) ?_ n ⟨ρ,H,q,F,st,I,.refl,.refl⟩)
 rintro n s' ⟨ρ',H',q',F',st',I',S',M'⟩
 cases n with
 |zero=>exact q'.elim
 |succ n=>
  refine aq (it H' s' ρ' _ _ F' st' I' q') (λ r s1 h1=>?_) λ Z Z e=>e.no.elim
  obtain ⟨H1,q1,I1,S1,M1⟩:=h1
  cases r with
  |true=>
   simp only [if_true]
   refine aq (ib H1 s1 ρ' _ _ _ (F'.step S1) (st'.step S1) I1 q1) (λ f s2 h2=>?_) λ Z Z e=>e.no.elim
   have h2:=h2.after (S1.weak) M1
   cases f with
   |next=>
    obtain ⟨ρ2,H2,q2,F2,I2,S2,M2⟩:=h2
    exact ⟨n,dH _,ρ2,H2,q2,F2,st'.step S2,I2,S'.trans S2,M'.trans M2⟩
   |ret v=>exact gH.after S' M' h2
   |brk=>exact h2.elim
   |cont=>exact h2.elim
  |false=>
   simp only [ch,if_false]
   exact fT ⟨ρ',H1,q1,F'.step S1,I1,S'.trans S1.weak,M'.trans M1⟩
theorem A_:∀p,U_ p:=bB P_
end lU
section
variable {cx:Cx}
theorem lU {cx tb A lv nm au t b y bs H s N R X}:lU.S_ cx tb A lv nm au t b y bs H s N R X:=lU.A_ (cx,tb,A,lv,nm,au,t,b,y,bs,H,s,N,R,X)
theorem vP {St:Nat->cM->Prop} (J:yB cx A h0 u us It fp P St) (st:St i s.heap) (q:Q () s):
  aE (ay cx.prog cx.w) A (iy target (.ref It) v) Q Ex s:=by
 refine kf (J.cls st) λ o vs T ho hd hc hT=>?_
 have key:aE (ay cx.prog cx.w) A (do
  let (.ref r,.ref a):=(aR It,v)|return
  let o<-load r
  match o.cls,o.data with
  |.type n,.fields vs=>
   if ["enumerate","zip","dict_itemiterator","dict_reverseitemiterator","odict_iterator","itertools.zip_longest","itertools.pairwise"].contains n&&vs[0]?==some (iL a) then
    rule "for.unpacks-the-owned-tuple"
    updateField r 0 .none
  |_,_=>pure ()) Q Ex s:=by
  cases v with
  |ref a=>
   refine ae (wpAny_load ho ?_)
   refine af hc (af hd ?_)
   dsimp only
   refine af hT ?_
   exact ah q
  |_=>exact ah q
 cases target<;>first|exact key|exact ah q
end
namespace rO
def S_ (cx tb A lv nm au t b y bs H s ρ N R X):=∀{it:Mine.E} {z:Expr} {pos:Bx} (hA:A.handled=none) (ii:w6 cx tb A lv nm au it z) (ib:DA cx tb A lv nm au b bs) (ht:okT au.scope nm t=true) (hns:noSet z=true) (F:Fm cx au nm H ρ s.heap) (st:iC cx A H s.heap) (I:cb cx H s.heap) (q:wpS tb lv (.for_ t it b) ρ H N R X),aE (ay cx.prog cx.w) A (exec (.For (emT nm t y) z bs [] pos) au) (gH cx au nm H s N R) (cn cx (PF au) H s X) s
def U_:=UV λ cx tb A=>UV λ lv nm au=>UV λ t b y=>UV λ bs H s=>UV λ ρ N R=>S_ cx tb A lv nm au t b y bs H s ρ N R
def t_:=dr (by have:=qf;have:=p5;have:=ti;have:=NK;have:=Mn;infer_instance) U_
def cx:=t_.1
def tb:=t_.2.1
def A:=t_.2.2.1
def lv:=t_.2.2.2.1
def nm:=t_.2.2.2.2.1
def au:=t_.2.2.2.2.2.1
def s1_:=t_.2.2.2.2.2.2
def t:=s1_.1
def b:=s1_.2.1
def y:=s1_.2.2.1
def bs:=s1_.2.2.2.1
def H:=s1_.2.2.2.2.1
def s:=s1_.2.2.2.2.2.1
def s2_:=s1_.2.2.2.2.2.2
def ρ:=s2_.1
def N:=s2_.2.1
def R:=s2_.2.2.1
def X:=s2_.2.2.2
theorem P_:S_ cx tb A lv nm au t b y bs H s ρ N R X:=by
 intro it z pos hA ii ib ht hns F st I q
 refine wpAny_For (aq (ii H s ρ _ X F st I q) (λ x s1 h1=>?_) λ Z Z e=>e.weak) (jk hns)
 obtain ⟨u,H1,q1,r1,I1,S1,M1⟩:=h1
 refine aL (rW q1) λ us hi q1=>?_
 ·have F1:=F.step S1
  have st1:=st.step S1
  have fu1:∀a,u=.ref a->¬PF au a/\∃o,s1.heap.get? a=some o:=λ a e=>by
   subst e
   have e:=iB hi
   refine fZ (I1.own _ _ e) λ aB n ho Z=>⟨?_,_,ho⟩
   rintro (z|⟨x,ex⟩)
   ·exact fq e (z▸F1.free)
   ·refine cu F1.slots λ m cm Z b Z=>(aL (b x a ex) λ o ho' hd=>?_)
    rw [ho] at ho';(have ho':=ac ho';subst ho');exact gi hd rfl
  refine ql hA I1 r1 hi λ fp P St h2 J k2 z2 st2=>?_
  have nI:s1.heap.get? s1.heap.objs.size=none:=dN (bW _)
  have pI:¬PF au s1.heap.objs.size:=F1.notPF nI
  have hbI:cx.base.objs.size<=s1.heap.objs.size:=F1.lok.le
  have sub:=oY H1 u
  have S2:bb (PF au) (asideOf H1 u) s1.heap (asideOf H1 u) h2:=bb.keeps k2
  refine codeAny_forLoop_any (FV (λ v ρ1 H2 K=>assignT t v ρ1 H2 λ ρ2 H3=>wpSs tb lv b ρ2 H3 K (λ r H4=>R r (backOf H1 H4 u)) jU) (λ ρ3 H4=>(∀a,u=.ref a->H4 a=none)->N ρ3 (backOf H1 H4 u)) cx A au nm us St H1 u s1) ?_ (us.length+1)
   ⟨0,asideOf H1 u,ρ,rfl,cS _,st2,q1,F1.step ((bb.keeps (P:=fc) k2).forget sub),st1.step ((bb.keeps (P:=fc) k2).forget sub),(I1.keeps k2).forget sub,S2,⟨rfl,rfl,rfl⟩,sub.free (I1.free nI),λ a e=>lh I1 hi e⟩
  rintro n s' ⟨i,Hc,ρc,rfl,hi',st',q',F',stk',I',S',M',fI',fu'⟩
  refine fy (J.kpI _ _ st') λ oI hoI kpI niI Z=>?_
  by_cases hlt:i<us.length
  ·refine J.W.item i _ _ _ hlt st' λ v h3 tk3 hP st3 k3=>?_
   have k3':∀b o,b≠s1.heap.objs.size->s'.heap.get? b=some o->h3.get? b=some o:=λ b o n e=>k3 b o (by simpa using n) e
   refine fy (J.kpI _ _ st3) λ oI1 hoI1 kpI1 niI1 Z=>?_
   have SI:bb (·=s1.heap.objs.size) Hc s'.heap Hc h3:=bb.only hoI niI kpI.no_dict.1 hoI1 rfl k3'
   have I3:cb cx Hc h3:=I'.at_free fI' hbI hoI niI k3'
   have F3:Fm cx au nm Hc ρc h3:=F'.but hoI kpI niI k3'
   have stk3:=stk'.step SI
   have S3:bb (PF au) (asideOf H1 u) s1.heap Hc h3:=S'.chg nI k3'
   obtain ⟨u1,hu1⟩:∃u1,us[i]?=some u1:=⟨_,an hlt⟩
   have hdrop:us.drop i=u1::us.drop (i+1):=by
    refine af (cC hlt) ?_
    rw [an hlt] at hu1;(have hu1:=ac hu1;subst hu1);rfl
   rw [hdrop] at q'
   have r3:VRel cx h3 u1 v:=J.val i v u1 h3 hP hu1 S3.imm
   refine vP (s:={s' with heap:=h3,toks:=tk3}) J st3 ?_
   have q'':assignT t u1 ρc Hc (λ ρ2 H3=>wpSs tb lv b ρ2 H3 (λ ρ1 H5=>forW (λ v ρ1 H2 K=>assignT t v ρ1 H2 λ ρ2 H3=>wpSs tb lv b ρ2 H3 K (λ r H4=>R r (backOf H1 H4 u)) jU) (us.drop (i+1)) ρ1 H5 (λ ρ3 H4=>(∀a,u=.ref a->H4 a=none)->N ρ3 (backOf H1 H4 u))) (λ r H4=>R r (backOf H1 H4 u)) jU):=q'
   refine aq (rN (s:={s' with heap:=h3,toks:=tk3}) hA F3 I3 ht r3 q'') (λ Z s4 h4=>?_) λ Z Z e=>e
   obtain ⟨ρ4,q4,F4,I4,S4,M4⟩:=h4
   have stk4:iC cx A Hc s4.heap:=stk3.step S4
   have st4:St (i+1) s4.heap:=J.keep st3 S4 I3.base I4.base fI' (λ a e=>fu' a e) pI λ a e=>(fu1 a e).1
   have S14:bb (PF au) (asideOf H1 u) s1.heap Hc s4.heap:=S3.trans S4
   refine aq (ib Hc s4 ρ4 _ _ _ F4 stk4 I4 q4) (λ f s5 h5=>?_) λ Z Z e=>e.no.elim
   cases f with
   |next=>
    obtain ⟨ρ5,H5,q5,F5,I5,S5,M5⟩:=h5
    refine ⟨us.length+1 -(i+1),gB (iM hlt) (dH i),i+1,H5,ρ5,rfl,hlt,J.keep st4 S5 I4.base I5.base fI' (λ a e=>fu' a e) pI (λ a e=>(fu1 a e).1),q5,F5,stk4.step S5,I5,S14.trans S5,?_,?_,λ a e=>?_⟩
    ·exact M'.trans (dR.trans ⟨rfl,rfl,rfl⟩ (M4.trans M5))
    ·exact aL (J.kpI _ _ st4) λ o ho Z=>(S5.free ho fI')
    ·exact bu ((fu1 a e).2) λ o ho=>((S14.trans S5).free ho (lh I1 hi e))
   |ret w=>
    obtain ⟨u5,H5,q5,r5,I5,S5,M5⟩:=h5
    have SB:=S14.trans S5
    refine ⟨u5,backOf H1 H5 u,q5,r5,cb.back I1 hi SB I5 λ a e=>(fu1 a e).1,S1.weak.trans (SB.back hi),?_⟩
    exact M1.trans (M'.trans (dR.trans ⟨rfl,rfl,rfl⟩ (M4.trans M5)))
   |brk=>exact h5.elim
   |cont=>exact h5.elim
  ·have hin:i=us.length:=jK ‹_› (du.mp ‹_›)
   subst hin
   refine J.W.done _ _ _ st' λ h3 tk3 k3=>fT ?_
   have k3':∀b o,b≠s1.heap.objs.size->s'.heap.get? b=some o->h3.get? b=some o:=λ b o n e=>k3 b o (by simpa using n) e
   rw [i5] at q'
   have I3:cb cx Hc h3:=I'.at_free fI' hbI hoI niI k3'
   have F3:Fm cx au nm Hc ρc h3:=F'.but hoI kpI niI k3'
   have S3:bb (PF au) (asideOf H1 u) s1.heap Hc h3:=S'.chg nI k3'
   have SB:=S3.back hi
   refine ⟨ρc,backOf H1 Hc u,q' λ a e=>(fu' a e).1,?_,cb.back I1 hi S3 I3 λ a e=>(fu1 a e).1,S1.weak.trans SB,M1.trans (M'.trans ⟨rfl,rfl,rfl⟩)⟩
   refine cu F3.slots λ m cm a b c=>⟨F3.kind,F3.glob,F3.blt,F3.nd,F3.len,F3.apart,F3.aboveL,F3.aboveC,F3.cellsAll,pa hi F3.free λ e=>?_,m,cm,a,b,c⟩
   exact (fu1 _ e).1 (.inl rfl)
theorem A_:∀p,U_ p:=bB P_
end rO
section
variable {cx:Cx}
theorem rO {cx tb A lv nm au t b y bs H s ρ N R X}:rO.S_ cx tb A lv nm au t b y bs H s ρ N R X:=rO.A_ (cx,tb,A,lv,nm,au,t,b,y,bs,H,s,ρ,N,R,X)
end
mutual
noncomputable def emS (nm:List aw):S->PT->lB
 |.assign x e,t=>.Assign [emT nm x t.l] (emE nm e t.r) t.p
 |.setattr o n e,t=>.Assign [.Attribute (emE nm o t.l.l) n t.l.p] (emE nm e t.r) t.p
 |.setitem o i e,t=>.Assign [.Subscript (emE nm o t.l.l) (emE nm i t.l.r) t.l.p] (emE nm e t.r) t.p
 |.aug i op e,t=>.AugAssign (.Name (nmAt nm i) t.l.p) op (emE nm e t.r) t.p
 |.augattr o n op e,t=>.AugAssign (.Attribute (emE nm o t.l.l) n t.l.p) op (emE nm e t.r) t.p
 |.ite c b o,t=>.If (emE nm c t.l) (emSs nm b t.r.l) (emSs nm o t.r.r) t.p
 |.while_ c b,t=>.While (emE nm c t.l) (emSs nm b t.r) [] t.p
 |.for_ x it b,t=>.For (emT nm x t.l) (emE nm it t.r.l) (emSs nm b t.r.r) [] t.p
 |.ret e,t=>.Return (some (emE nm e t.l)) t.p
 |.expr e,t=>.Expr (emE nm e t.l) t.p
 |.raise_ e,t=>.Raise (some (.Call (.Name (aa "Misused") t.l.l.p) [emE nm e t.l.r.l] [] t.l.p)) none t.p
 |.tryWhy e i j,t=>.Try [.Expr (emE nm e t.l.l) t.l.p] [.ExceptHandler (some (.Name (aa "Misused") t.r.l.l.p)) (some (nmAt nm i)) [.Assign [.Name (nmAt nm j) t.r.r.l.p] (.Attribute (.Name (nmAt nm i) t.r.r.r.l.p) (aa "why") t.r.r.r.p) t.r.r.p] t.r.l.p] [] [] t.p
 |.pass,t=>.Pass t.p
 |.stuck,t=>t.x
noncomputable def emSs (nm:List aw):List S->PT->List lB
 |[],_=>[]
 |e::es,t=>emS nm e t.l::emSs nm es t.r
end
mutual
noncomputable def okS (gl:GL) (sc:gA) (nm:List aw):S->PT->Bool
 |.assign x e,t=>okE gl sc nm e t.r&&(okT sc nm x&&match x with
  |.tup is=>okSw sc nm is t.l.l e t.r
  |.loc _=>true)
 |.setattr o _ e,t=>okE gl sc nm e t.r&&okE gl sc nm o t.l.l
 |.setitem o i e,t=>okE gl sc nm e t.r&&(okE gl sc nm o t.l.l&&okE gl sc nm i t.l.r)
 |.aug i _ e,t=>okE gl sc nm e t.r&&(nm[i]?==some (nmAt nm i)&&(okName sc (nmAt nm i)&&stName sc (nmAt nm i)))
 |.augattr o _ _ e,t=>okE gl sc nm e t.r&&okE gl sc nm o t.l.l
 |.ite c b o,t=>okE gl sc nm c t.l&&(okSs gl sc nm b t.r.l&&okSs gl sc nm o t.r.r)
 |.while_ c b,t=>okE gl sc nm c t.l&&okSs gl sc nm b t.r
 |.for_ x it b,t=>okT sc nm x&&(noSet (emE nm it t.r.l)&&(okE gl sc nm it t.r.l&&okSs gl sc nm b t.r.r))
 |.ret e,t=>okE gl sc nm e t.l
 |.expr e,t=>!isComp (emE nm e t.l)&&okE gl sc nm e t.l
 |.raise_ e,t=>okGlob gl sc (aa "Misused") (.cls 1)&&(!isStar (emE nm e t.l.r.l)&&okE gl sc nm e t.l.r.l)
 |.tryWhy e i j,t=>okGlob gl sc (aa "Misused") (.cls 1)&&(nm[i]?==some (nmAt nm i)&&(sc.names.lookup (nmAt nm i)==some .local&&(nm[j]?==some (nmAt nm j)&&(stName sc (nmAt nm j)&&(!(nmAt nm i==("__debug__":aw))&&(i !=j&&(!isComp (emE nm e t.l.l)&&okE gl sc nm e t.l.l)))))))
 |_,_=>true
noncomputable def okSs (gl:GL) (sc:gA) (nm:List aw):List S->PT->Bool
 |[],_=>true
 |e::es,t=>okS gl sc nm e t.l&&okSs gl sc nm es t.r
end
section
variable {cx:Cx}
theorem Hs (h:isComp (emE nm e t)=true):(∃own fr el j it c,e=.comp own fr el j it c)\/∃own fr el j it c j2 it2,e=.comp2 own fr el j it c j2 it2:=by
 cases e<;>first|exact .inl ⟨_,_,_,_,_,_,rfl⟩|exact .inr ⟨_,_,_,_,_,_,_,_,rfl⟩|exact bS h
theorem Ca (W:Ap cx tb gl A lv)
  {qe:av->uY Unit} {QQ:Unit->ax->Prop} (h:okE gl au.scope nm e t=true) (hx:isComp (emE nm e t)=true) (F:Fm cx au nm H ρ s.heap) (st:iC cx A H s.heap) (I:cb cx H s.heap) (q:wpE tb lv false e ρ H Q X)
  (fe:CompFin cx A Ex (some qe) (λ Z s'=>QQ () s') H s Q) (hE:∀e s',cn cx fc H s X e s'->Ex e s'):aE (ay cx.prog cx.w) A (evalThenUse (emE nm e t) au qe) QQ Ex s:=by
 rcases Hs hx with ⟨own,fr,el,j,it,c,rfl⟩|⟨own,fr,el,j,it,c,j2,it2,rfl⟩
 ·exact ae (aq (yP W ((ev W it (al (ar (ar (ar h))))).1) (λ cenv hs=>(ev W el (by refine af hs ?_;exact al (ar (ar (ar (ar h)))))).1) (λ cenv hs=>NJ W c (by refine af hs ?_;exact ar (ar (ar (ar (ar h)))))) h F st I q fe hE) (λ Z Z z=>ah z) λ Z Z e=>e)
 ·exact ae (aq (vH W ((ev W it (al (ar (ar (ar (ar (ar (ar h)))))))).1) (λ cenv hs=>(ev W el (by refine af hs ?_;exact al (ar (ar (ar (ar (ar (ar (ar h))))))))).1)
   (λ cenv hs=>(ev W c (by refine af hs ?_;exact al (ar (ar (ar (ar (ar (ar (ar (ar h)))))))))).2) (λ cenv hs=>(ev W it2 (by refine af hs ?_;exact ar (ar (ar (ar (ar (ar (ar (ar (ar h)))))))))).1) h F st I q fe hE) (λ Z Z z=>ah z) λ Z Z e=>e)
theorem JN (hk:au.scope.kind=.function) (h:okSw au.scope nm is t e u=true):fW [.Tuple (emNs nm is t) c p] (emE nm e u) au=pure none\/(is.Nodup/\(is.length=2\/is.length=3)/\fW [.Tuple (emNs nm is t) c p] (emE nm e u) au=pure (some (is.map (nmAt nm)))):=by
 cases e with
 |tup es=>
  cases z:swC (emNs nm is t).length (emEs nm es u.l).length with
  |true=>exact .inl (Ez hk z)
  |false=>exact .inr (E3 hk h z)
 |_=>exact .inl rfl
end
namespace iU
def S_ (cx gl A nm au e t):=∀{tb:on} {lv:Nat} (W:Ap cx tb gl A lv) {x:T} (h:okS gl au.scope nm (.assign x e) t=true),Ik cx tb A lv nm au (.assign x e) (emS nm (.assign x e) t)
def U_:=UV λ cx gl A=>UV λ nm au e=>S_ cx gl A nm au e
def t_:=dr (by have:=qf;have:=ti;have:=NK;infer_instance) U_
def cx:=t_.1
def gl:=t_.2.1
def A:=t_.2.2.1
def nm:=t_.2.2.2.1
def au:=t_.2.2.2.2.1
def e:=t_.2.2.2.2.2.1
def s1_:=t_.2.2.2.2.2.2
def t:=s1_
theorem P_:S_ cx gl A nm au e t:=by
 intro tb lv W x h
 intro H s ρ N R X F st I q
 have plain:∀(stores:av->uY Flow),(∀(v':av) (s1:ax) (u:V) (H1:MH),assignT x u ρ H1 N->VRel cx s1.heap u v'->Fm cx au nm H1 ρ s1.heap->cb cx H1 s1.heap->aE (ay cx.prog cx.w) A (stores v') (gH cx au nm H1 s1 N R) (cn cx (PF au) H s X) s1)->
   aE (ay cx.prog cx.w) A (eval (emE nm e t.r) au>>=stores) (gH cx au nm H s N R) (cn cx (PF au) H s X) s:=λ stores k=>by
  refine ae (aq ((ev W e (al h)).1 H s ρ _ X F st I q) (λ v' s1 ⟨u,H1,q1,r1,I1,S1,M1⟩=>?_) λ Z Z e=>e.weak)
  exact aq (k v' s1 u H1 q1 r1 (F.step S1) I1) (λ f s2 h2=>h2.after S1.weak M1) λ Z Z e=>e
 cases x with
 |loc i=>
  have h2:=eq_of_beq (al (al (ar h)))
  have h3:=ar (al (ar h))
  have pl:aE (ay cx.prog cx.w) A (do
   let v'<-eval (emE nm e t.r) au
   assignStores au v' (<-fW [.Name (nmAt nm i) t.l.p] (emE nm e t.r) au) ((sf [.Name (nmAt nm i) t.l.p] au).map (·.2))) (gH cx au nm H s N R) (cn cx (PF au) H s X) s:=
   plain _ λ v' s1 u H1 q1 r1 F1 I1=>ae (ah (a:=none) (ae (aq (jB F1 I1 h2 h3 r1 q1) (λ Z Z z=>ah z.toS) λ Z Z e=>e)))
  refine ae (cq ?_)
  cases hcmp:isComp (emE nm e t.r) with
  |false=>
   have hb:=oa (t:=some (.Name (nmAt nm i) t.l.p)) (line:=t.p.line) (au:=au) hcmp
   exact ae (we hb (ah (a:=false) pl))
  |true=>
   refine bu (xm (value:=emE nm e t.r) (x:=nmAt nm i) (px:=t.l.p) (line:=t.p.line) (au:=au)) λ b hb=>(ae (we hb (ah ?_)))
   cases b with
   |false=>exact pl
   |true=>exact ae (aq (Ca (QQ:=λ Z s'=>gH cx au nm H s N R .next s') W (al h) hcmp F st I q (sG F h2 h3) λ Z Z e=>e.weak) (λ Z Z z=>ah z) λ Z Z e=>e)
 |tup is=>
  have hb:=zy (value:=emE nm e t.r) (ts:=emNs nm is t.l.l) (c:=t.l.k) (px:=t.l.p) (line:=t.p.line) (au:=au)
  refine ae (cq (ae (we hb (ah (a:=false) (plain _ λ v' s1 u H1 q1 r1 F1 I1=>?_)))))
  rcases JN (c:=t.l.k) (p:=t.l.p) F1.kind (ar (ar h)) with e|⟨hn,hl,e⟩
  ·exact ae (we e (ah (ae (aq (rN (x:=.tup is) W.am.handled F1 I1 (al (ar h)) r1 q1) (λ Z Z z=>ah z.toS) λ Z Z e=>e))))
  ·exact aL (rW q1) λ us eu q1=>(ae (we e (ah (E9 W.am.handled F1 I1 (al (ar h)) hn hl r1 eu q1))))
theorem A_:∀p,U_ p:=bB P_
end iU
section
variable {cx:Cx}
theorem iU {cx gl A nm au e t}:iU.S_ cx gl A nm au e t:=iU.A_ (cx,gl,A,nm,au,e,t)
end
section
variable {cx:Cx}
theorem Ec (F:Fm cx au nm H ρ s.heap) (hn:nm[i]?=some x) (hk:okName au.scope x=true) (hu:ρ.at i=some u)
  (k:∀v,VRel cx s.heap u v->R v s):aE (ay cx.prog cx.w) A (loadName au x) R Ex s:=by
 refine cu F.slots λ m cm h1 h2 h3=>(bw (tP hk) λ d1 d2=>?_)
 rcases h3 i x hn with ⟨c1,c2⟩|⟨c1,⟨c,c2⟩,c3⟩
 ·exact aL (c2 u hu) λ v e1 e2=>(pz F.kind c1 h1 e1 (k v e2))
 ·refine aL (c3 u hu) λ v e1 e2=>?_
  rcases c1 with c1|c1
  ·exact Gw F.kind c1 c2 (e1▸h2 _ _ c2) (k v e2)
  ·exact Gx F.kind c1 c2 (e1▸h2 _ _ c2) (k v e2) d2
theorem mT.toS (F:Fm cx au nm H ρ s.heap) (p:mT cx fc H s (N ρ) s'):gH cx au nm H s N R .next s':=
 let ⟨H',q,I,S,M⟩:=p;⟨ρ,H',q,F.step S,I,S.weak,M⟩
theorem qR (h:au.scope.kind=.function):interactive au=false:=by unfold interactive;refine af h ?_;rfl
end
structure K9 (cx:Cx) (tb:on) (gl:GL) (A:dy) (lv:Nat) (au:i4):Prop where
 raise_:∀{nm e c y pn cp pos},w6 cx tb A lv nm au e y->okGlob gl au.scope c (.cls 1)=true->isStar y=false->Ik cx tb A lv nm au (.raise_ e) (.Raise (some (.Call (.Name c pn) [y] [] cp)) none pos)
 try_:∀{nm e c y i j n w yp pn wp fp ap sp hp pos},w6 cx tb A lv nm au e y->okGlob gl au.scope c (.cls 1)=true->nm[i]?=some n->au.scope.names.lookup n=some .local->nm[j]?=some w->stName au.scope w=true->(n==("__debug__":aw))=false->i≠j->isComp y=false->
  Ik cx tb A lv nm au (.tryWhy e i j) (.Try [.Expr y yp] [.ExceptHandler (some (.Name c pn)) (some n) [.Assign [.Name w wp] (.Attribute (.Name n fp) "why" ap) sp] hp] [] [] pos)
section
variable {cx:Cx}
theorem DA.after (k:DA cx tb A lv nm au b x) (F:Fm cx au nm H ρ s.heap) (st:iC cx A H s.heap) (S1:bb fc H s.heap H1 s1.heap) (M1:dR s s1) (I1:cb cx H1 s1.heap) (q:wpSs tb lv b ρ H1 N R X):
  aE (ay cx.prog cx.w) A (execs x au) (gH cx au nm H s N R) (cn cx (PF au) H s X) s1:=aq (k H1 s1 ρ N R X (F.step S1) (st.step S1) I1 q) (λ Z Z z=>z.after S1.weak M1) λ Z Z z=>z.after S1.weak M1
theorem rC {E:av->ax->Prop} (hs:qp [x] v pos.line au=pure false) (hn:fW [x] v au=pure none) (ha:(sf [x] au).map (·.2)=[assign x au])
  (k:aE (ay cx.prog cx.w) A (eval v au) (λ w s1=>aE (ay cx.prog cx.w) A (assign x au w) (λ Z s2=>Q .next s2) E s1) E s):aE (ay cx.prog cx.w) A (exec (.Assign [x] v pos) au) Q E s:=by
 refine af (exec_Assign_arm _ _ _) (af hs (af hn (af ha ?_)))
 exact ae (cq (ae (ah (a:=false) (ae (aq k (λ w s1 z=>ae (ah (a:=none) (ae (aq z (λ Z Z z=>ah z) λ Z Z e=>e)))) λ Z Z e=>e)))))
theorem Dw (G:gT cx tb gl):tb.fld=cx.fld:=funext λ c=>funext λ n=>G.tfld c n
def Mt (cx tb gl A lv) (au:i4) (e:Mine.S):=∀⦃t:PT⦄⦃nm:List aw⦄,okS gl au.scope nm e t=true->Ik cx tb A lv nm au e (emS nm e t)
def Js (cx tb gl A lv) (au:i4) (es:List Mine.S):=∀⦃t:PT⦄⦃nm:List aw⦄,okSs gl au.scope nm es t=true->DA cx tb A lv nm au es (emSs nm es t)
mutual
theorem N9 (W:Ap cx tb gl A lv) (he:K9 cx tb gl A lv au):∀(e:Mine.S),Mt cx tb gl A lv au e
 |.assign x e=>λ Z Z h=>iU W h
 |.setattr o n e=>λ Z nm h=>λ H s ρ N R X F st I q=>rC qQ rfl rfl (aq ((ev W e (al h)).1 H s ρ _ X F st I q) (λ w s1 h1=>by
   obtain ⟨u1,H1,q1,r1,I1,S1,M1⟩:=h1
   refine ae (bz (aq ((ev W o (ar h)).1 H1 s1 ρ _ X (F.step S1) (st.step S1) I1 q1) (λ o' s2 h2=>?_) λ Z Z e=>(e.after S1 M1).weak))
   obtain ⟨u2,H2,q2,r2,I2,S2,M2⟩:=h2
   have F2:=(F.step S1).step S2
   exact ae (cq (ae (bz (aq (gI (P:=fc) W.G.toGood F2.lok I2 r2 (r1.mono S2.imm) (Dw W.G▸q2)) (λ Z s3 h3=>Bo (((h3.toS F2).after S2.weak M2).after S1.weak M1)) λ Z Z e=>e))))) λ Z Z e=>e.weak)
 |.setitem o i e=>λ t nm h=>λ H s ρ N R X F st I q=>rC zM rfl rfl (aq ((ev W e (al h)).1 H s ρ _ X F st I q) (λ w s1 h1=>by
   obtain ⟨u1,H1,q1,r1,I1,S1,M1⟩:=h1
   refine ae (bz (aq ((ev W o (al (ar h))).1 H1 s1 ρ _ X (F.step S1) (st.step S1) I1 q1) (λ o' s2 h2=>?_) λ Z Z e=>(e.after S1 M1).weak))
   obtain ⟨u2,H2,q2,r2,I2,S2,M2⟩:=h2
   have F2:=(F.step S1).step S2
   refine ae (bz (aq ((ev W i (ar (ar h))).1 H2 s2 ρ _ X F2 ((st.step S1).step S2) I2 q2) (λ i' s3 h3=>?_) λ Z Z e=>((e.after S2 M2).after S1 M1).weak))
   obtain ⟨u3,H3,q3,r3,I3,S3,M3⟩:=h3
   exact ae (cq (ae (bz (aq (iY (P:=fc) W.am.u100 I3 (r2.mono S3.imm) r3 ((r1.mono S2.imm).mono S3.imm) q3) (λ Z s4 h4=>Bo ((((h4.toS (F2.step S3)).after S3.weak M3).after S2.weak M2).after S1.weak M1)) λ Z Z e=>e))))) λ Z Z e=>e.weak)
 |.aug i op e=>λ t nm h=>λ H s ρ N R X F st I q=>by
   refine aL (p8 q) λ u hk q=>?_
   have h1:=eq_of_beq (al (ar h))
   refine wpAny_AugAssign_Name (Ec F h1 (al (ar (ar h))) hk λ old ro=>aq ((ev W e (al h)).1 H s ρ _ X F st I q) (λ w s1 h1'=>?_) λ Z Z e=>e.weak)
   obtain ⟨u1,H1,q1,r1,I1,S1,M1⟩:=h1'
   have fe:∀(z:Int) (tk:Nat),N (ρ.set i (some (.int z))) H1->aE (ay cx.prog cx.w) A (storeName au (nmAt nm i) (.int z tk)) (λ Z=>gH cx au nm H s N R .next) (cn cx (PF au) H s X) {s1 with toks:=s1.toks+1}:=λ z tk qz=>
    ou (s:={s1 with toks:=s1.toks+1}) (F.step S1) I1 h1 (ar (ar (ar h))) dq λ s' F' I' S' M'=>⟨_,H1,qz,F',I',S1.weak.trans S',M1.trans (dR.trans ⟨rfl,rfl,rfl⟩ M')⟩
   refine cu (G7 q1) λ x y r1_ r2_ q2=>?_
   subst r1_
   subst r2_
   refine bu (cj ro) λ t r1_=>?_
   subst r1_
   refine bu (cj r1) λ t2 r1_=>?_
   subst r1_
   rcases CU q2 with ⟨rfl,q2⟩|⟨rfl,q2⟩
   ·exact sg (fe _ _ q2)
   ·exact si (fe _ _ q2)
 |.augattr o n op e=>λ t nm h=>λ H s ρ N R X F st I q=>wpAny_AugAssign_AttributeAny (aq ((ev W o (ar h)).1 H s ρ _ X F st I q) (λ o' s1 h1=>by
   obtain ⟨u1,H1,q1,r1,I1,S1,M1⟩:=h1
   refine aq (vf W.G.toGood I1 r1 q1) (λ old s2 h2=>?_) λ Z Z e=>e
   obtain ⟨u2,H2,q2,r2,I2,S2,M2⟩:=h2
   have F2:=(F.step S1).step S2
   refine aq ((ev W e (al h)).1 H2 s2 ρ _ X F2 ((st.step S1).step S2) I2 q2) (λ w s3 h3=>?_) λ Z Z e=>((e.after S2 M2).after S1 M1).weak
   obtain ⟨u3,H3,q3,r3,I3,S3,M3⟩:=h3
   have F3:=F2.step S3
   refine cu (G7 q3) λ x y r1_ r2_ q4=>?_
   subst r1_
   subst r2_
   refine bu (cj r2) λ t r1_=>?_
   subst r1_
   refine bu (cj r3) λ t2 r1_=>?_
   subst r1_
   have fe:∀(z:Int) (tk:Nat),setattrV tb.fld u1 n (.int z) H3 (N ρ)->aE (ay cx.prog cx.w) A (Ir o' n (.int z tk)) (λ Z=>gH cx au nm H s N R .next) (cn cx (PF au) H s X) {s3 with toks:=s3.toks+1}:=λ z tk qz=>
    aq (gI (P:=fc) (s:={s3 with toks:=s3.toks+1}) W.G.toGood F3.lok I3 ((r1.mono S2.imm).mono S3.imm) dq (Dw W.G▸qz)) (λ Z s4 h4=>(((h4.toS (R:=R) (s:={s3 with toks:=s3.toks+1}) F3).after (H:=H2) (s:=s2) (s1:={s3 with toks:=s3.toks+1}) S3.weak (M3.trans ⟨rfl,rfl,rfl⟩)).after S2.weak M2).after S1.weak M1) λ Z Z e=>e
   rcases CU q4 with ⟨rfl,q4⟩|⟨rfl,q4⟩
   ·exact sg (fe _ _ q4)
   ·exact si (fe _ _ q4)) λ Z Z e=>e.weak)
 |.ite c b o=>λ Z Z h=>λ H s ρ N R X F st I q=>wpAny_If (aq ((ev W c (al h)).2 H s ρ _ X F st I q) (λ r s1 h1=>by
   obtain ⟨H1,q1,I1,S1,M1⟩:=h1
   cases r with
   |true=>exact (xK W he b (al (ar h))).after F st S1 M1 I1 q1
   |false=>exact (xK W he o (ar (ar h))).after F st S1 M1 I1 q1) λ Z Z e=>e.weak)
 |.while_ c b=>λ Z Z h=>λ H s ρ N R X F st I q=>lU (ev W c (al h)).2 (xK W he b (ar h)) F st I q
 |.for_ x it b=>λ Z Z h=>λ H s ρ N R X F st I q=>rO W.am.handled (ev W it (al (ar (ar h)))).1 (xK W he b (ar (ar (ar h)))) (al h) (al (ar h)) F st I q
 |.ret e=>λ Z Z h=>λ H s ρ N R X F st I q=>wpAny_Return_some (aq ((ev W e h).1 H s ρ R X F st I q) (λ v s1 ⟨u1,H1,q1,r1,I1,S1,M1⟩=>⟨u1,H1,q1,r1,I1,S1.weak,M1⟩) λ Z Z e=>e.weak)
 |.expr e=>λ Z Z h=>λ H s ρ N R X F st I q=>HT (aq ((ev W e (ar h)).1 H s ρ _ X F st I q) (λ v s1 ⟨u1,H1,⟨e1,q1⟩,r1,I1,S1,M1⟩=>by
   cases e1
   refine af (gn r1) ?_
   exact ⟨ρ,H1,q1,F.step S1,I1,S1.weak,M1⟩) λ Z Z e=>e.weak) (qR F.kind) (oa (nt (al h)))
 |.raise_ e=>λ Z Z h=>he.raise_ (ev W e (ar (ar h))).1 (al h) (nt (al (ar h)))
 |.tryWhy e i j=>λ Z Z h=>he.try_ (ev W e (ar (ar (ar (ar (ar (ar (ar (ar h))))))))).1 (al h) (eq_of_beq (al (ar h))) (eq_of_beq (al (ar (ar h)))) (eq_of_beq (al (ar (ar (ar h))))) (al (ar (ar (ar (ar h))))) (nt (al (ar (ar (ar (ar (ar h))))))) (nb (al (ar (ar (ar (ar (ar (ar h)))))))) (nt (al (ar (ar (ar (ar (ar (ar (ar h)))))))))
 |.pass=>λ Z Z h=>λ H s ρ N R X F st I q=>wpAny_Pass ⟨ρ,H,q,F,I,.refl,.refl⟩
 |.stuck=>λ Z Z h=>λ H s ρ N R X F st I q=>q.elim
theorem xK (W:Ap cx tb gl A lv) (he:K9 cx tb gl A lv au):∀(es:List Mine.S),Js cx tb gl A lv au es
 |[]=>λ Z Z h=>λ H s ρ N R X F st I q=>fT ⟨ρ,H,q,F,I,.refl,.refl⟩
 |e::es=>λ Z Z h=>λ H s ρ N R X F st I q=>gN (aq (N9 W he e (al h) H s ρ _ R X F st I q) (λ f s1 h1=>by
   cases f with
   |next=>
    obtain ⟨ρ1,H1,q1,F1,I1,S1,M1⟩:=h1
    exact aq (xK W he es (ar h) H1 s1 ρ1 N R X F1 (st.step S1) I1 q1) (λ Z Z z=>z.after S1 M1) λ Z Z z=>z.after S1 M1
   |ret v=>exact h1
   |brk=>exact h1.elim
   |cont=>exact h1.elim) λ Z Z e=>e)
end
end
theorem tw {α:Type} {x y z:uY α} (h:b=false) (k:y=z):(if b=true then x else y)=z:=by subst h;exact k
theorem fw {α β γ:Type} {l:List γ} {s s':β} {f:γ->β->uY (ForInStep β)} {g:β->uY α} {z:uY α} (h:forIn l s f=pure s') (k:g s'=z):(forIn l s f>>=g)=z:=by exact af h k
noncomputable def plainPar (as:List Arg) (kd:List (Option Expr)) (dd:List Expr):Arguments:=⟨[],as,none,[],kd,none,dd⟩
namespace ky
def S_ (fd:xZ) (as:List Arg) (kd dd vs):=∀{ns:List aw} {ds:List av} (hn:as.map (·.arg)=ns) (hl:vs.length+ds.length=ns.length) (h1:((ns.take (ns.length -(ds.drop (ds.length -ns.length)).length)).filter λ n=>((ns.zip vs).lookup n).isNone)=[]) (h2:forIn ((ns.drop (ns.length -(ds.drop (ds.length -ns.length)).length)).zip (ds.drop (ds.length -ns.length))) (ns.zip vs) (λ (x:aw×av) (sl:List (aw×av))=>(if (sl.lookup x.1).isNone=true then pure (bX (sl++[(x.1,x.2)])) else pure (bX sl):uY (ForInStep (List (aw×av)))))=pure (ns.zip (vs++ds))) (h3:ns.filterMap (λ n=>((ns.zip (vs++ds)).lookup n).map (n,·))=ns.zip (vs++ds)),∃k,bindArgs {fd with params:=plainPar as kd dd} ⟨vs,[]⟩=(seqItems? fd.defaults>>=k)/\∀o:Option (Array av),(o.getD #[]).toList=ds->k o=pure (ns.zip (vs++ds))
def U_:=UV λ fd as kd=>UU λ dd=>S_ fd as kd dd
def t_:=dr (by infer_instance) U_
def fd:=t_.1
def as:=t_.2.1
def kd:=t_.2.2.1
def dd:=t_.2.2.2.1
def vs:=t_.2.2.2.2
theorem P_:S_ fd as kd dd vs:=by
 intro ns ds hn hl h1 h2 h3
 subst hn
 refine ⟨_,rfl,λ o ho=>?_⟩
 subst ho
 refine tw (b:=decide (vs.length>(as.map (·.arg)).length)&&true) (by refine af (decide_eq_false (by lia)) ?_;rfl) ?_
 exact tw (b:=!(List.isEmpty _)) (congrArg (λ l:List aw=>!l.isEmpty) h1) (fw h2 (congrArg (λ l=>(pure l:uY (List (aw×av)))) ((congrArg (List.filterMap _) (dZ _)).trans h3)))
theorem A_:∀p,U_ p:=bB P_
end ky
theorem ky {fd as kd dd vs}:ky.S_ fd as kd dd vs:=ky.A_ (fd,as,kd,dd,vs)
theorem qM:∀{ns:List aw} {vs:List av} {i:Nat} {x:aw} {v:av},ns.Nodup->ns[i]?=some x->vs[i]?=some v->(ns.zip vs).lookup x=some v
 |[],_,_,_,_,_,e,_=>by simp at e
 |_::_,[],_,_,_,_,_,e=>by simp at e
 |n::ns,w::vs,i,x,v,nd,e1,e2=>by
  refine af cL (af aG ?_)
  rw [cc] at nd
  cases i with
  |zero=>simp at e1 e2;subst e1 e2;simp
  |succ i=>
   have h1:ns[i]?=some x:=by simpa using e1
   have:x≠n:=λ q=>nd.1 (q▸aZ h1)
   refine af (show (x==n)=false from beq_eq_false_iff_ne.mpr this) ?_
   exact qM nd.2 h1 (by simpa using e2)
theorem Dg {ns:List aw} {vs:List av} (nd:ns.Nodup) (hl:vs.length=ns.length) (h:x∈ns):∃v,(ns.zip vs).lookup x=some v:=by
 obtain ⟨i,hi,e⟩:=List.mem_iff_getElem.mp h
 exact ⟨vs[i],qM nd (by (exact af (an hi) (af e rfl))) (an (by lia))⟩
theorem wJ:∀{ns:List aw} {vs:List av} {x:aw},x∉ns->(ns.zip vs).lookup x=none
 |[],_,_,_=>rfl
 |_::_,[],_,_=>rfl
 |n::ns,_::vs,x,h=>by
  rw [cL,aG,show (x==n)=false from beq_eq_false_iff_ne.mpr λ q=>h (by refine af q ?_;exact .head _)]
  exact wJ λ q=>h (.tail _ q)
abbrev FW (x:aw×av) (sl:List (aw×av)):uY (ForInStep (List (aw×av))):=if (sl.lookup x.1).isNone=true then pure (bX (sl++[(x.1,x.2)])) else pure (bX sl)
theorem ww {x y:aw} {d:av} (h:x≠y):hV x [(y,d)]=none:=by
 refine af aG (af (show (x==y)=false from beq_eq_false_iff_ne.mpr h) ?_);rfl
theorem tJ:∀{b:List aw} {ds:List av} {acc:List (aw×av)},b.Nodup->(∀x∈b,acc.lookup x=none)->forIn (b.zip ds) acc FW=pure (acc++b.zip ds)
 |[],_,acc,_,_=>congrArg (λ l=>(pure l:uY (List (aw×av)))) (dZ acc).symm
 |_::_,[],acc,_,_=>congrArg (λ l=>(pure l:uY (List (aw×av)))) (dZ acc).symm
 |x::b,d::ds,acc,nd,h=>by
  have nd:=cc.mp nd
  have e:FW (x,d) acc=pure (.yield (acc++[(x,d)])):=if_pos (congrArg Option.isNone (h x (.head _)))
  (refine af cL ?_;rewrite [su];refine af e ?_)
  refine (tJ (acc:=acc++[(x,d)]) nd.2 λ y hy=>?_).trans (congrArg (λ l=>(pure l:uY (List (aw×av)))) (eR ..))
  rw [fv,h y (.tail _ hy),ww λ q=>nd.1 (by exact af q.symm hy)];rfl
theorem vd:∀{ns:List aw} {vs:List av} (l:List (aw×av)),ns.Nodup->vs.length=ns.length->(∀x∈ns,l.lookup x=none)->ns.filterMap (λ n=>((l++ns.zip vs).lookup n).map (n,·))=ns.zip vs
 |[],vs,l,_,_,_=>rfl
 |n::ns,[],l,_,h,_=>tc h
 |n::ns,v::vs,l,nd,hl,hx=>by
  have nd:=cc.mp nd
  have e:(l++(n::ns).zip (v::vs)).lookup n=some v:=by (refine af fv (af (hx n (.head _)) (af cL (af aG (af (beq_self_eq_true _) ?_)))));rfl
  have ih:=vd (ns:=ns) (vs:=vs) (l++[(n,v)]) nd.2 (ua hl) (λ x h=>by
   rw [fv,hx x (.tail _ h),ww λ q=>nd.1 (by exact af q.symm h)];rfl)
  rw [eR] at ih
  exact (u0 (f:=λ x=>((l++(n::ns).zip (v::vs)).lookup x).map (x,·)) (congrArg (Iy (n,·)) e)).trans (congrArg ((n,v)::·) ih)
structure CL (fd:xZ) (ps:List aw):Prop where
 po:fd.params.posonlyargs=[]
 va:fd.params.vararg=none
 ko:fd.params.kwonlyargs=[]
 kw:fd.params.kwarg=none
 ar:fd.params.args.map (·.arg)=ps
 nd:ps.Nodup
theorem vy (p:CL fd ns) (hl:vs.length+ds.length=ns.length):
  ∃k,bindArgs fd ⟨vs,[]⟩=(seqItems? fd.defaults>>=k)/\∀o:Option (Array av),(o.getD #[]).toList=ds->k o=pure (ns.zip (vs++ds)):=by
 have e:fd={fd with params:=plainPar fd.params.args fd.params.kw_defaults fd.params.defaults}:=by
  obtain ⟨_,_,⟨po,as,va,ko,kd,kw,dd⟩,_,_,_,_,_,_,_,_,_,_,_,_⟩:=fd
  cases p.po;cases p.va;cases p.ko;cases p.kw;rfl
 refine af e ?_
 obtain ⟨a,b,ha,rfl⟩:∃a b,a.length=vs.length/\ns=a++b:=⟨ns.take vs.length,ns.drop vs.length,List.length_take_of_le (by lia),(dz _ _).symm⟩
 have nd:=iq.mp p.nd
 have e1:ds.drop (ds.length -(a++b).length)=ds:=by refine af (y9 (by lia)) ?_;rfl
 have e2:(a++b).length -ds.length=a.length:=by lia
 have z1:(a++b).zip vs=a.zip vs:=by
  have:=Fj (r₁:=b) (r₂:=([]:List av)) ha
  rw [dZ,List.zip_nil_right,dZ] at this;exact this
 have z2:(a++b).zip (vs++ds)=a.zip vs++b.zip ds:=Fj ha
 refine ky p.ar hl ?_ ?_ ?_
 ·refine af e1 (af e2 (af List.take_left (af z1 ?_)))
  refine List.filter_eq_nil_iff.mpr λ x hx=>(bu (Dg nd.1 ha.symm hx) λ v e=>?_)
  exact af e oQ
 ·refine af e1 (af e2 (af List.drop_left (af z1 (af z2 ?_))))
  exact tJ nd.2.1 λ x hx=>wJ λ h=>nd.2.2 x h x hx rfl
 ·exact vd [] p.nd (by exact af az hl) λ Z Z=>rfl
noncomputable def frame0 (nm:List aw) (us:List V):da:=(us.map some)++b9 (nm.length -us.length) none
theorem pJ {kindOf:aw->Option je}:∀{binds:List (aw×av)} {m:aw->Option av},x∉binds.map (·.1)->bindL kindOf binds m x=m x
 |[],m,_=>rfl
 |(n,v)::r,m,h=>by
  simp only [bj,aY,not_or] at h
  refine af (pJ h.2) ?_
  split
  ·exact if_neg h.1
  ·rfl
theorem pU {kindOf:aw->Option je}:∀{binds:List (aw×av)} {m:aw->Option av},x∉binds.map (·.1)->bindC kindOf binds m x=m x
 |[],m,_=>rfl
 |(n,v)::r,m,h=>by
  simp only [bj,aY,not_or] at h
  refine af (pU h.2) ?_
  split
  ·rfl
  ·exact if_neg h.1
theorem oq:∀{ns:List aw} {vs:List av},vs.length=ns.length->(ns.zip vs).map (·.1)=ns
 |[],_,_=>by simp
 |n::ns,[],h=>by simp at h
 |n::ns,v::vs,h=>by
  exact af cL (af bj (af (oq (by simpa using h)) rfl))
theorem tW {kindOf:aw->Option je}:∀{ns:List aw} {vs:List av} {m:aw->Option av} {i:Nat} {x:aw} {v:av},ns.Nodup->vs.length=ns.length->ns[i]?=some x->vs[i]?=some v->kindOf x=some .local->bindL kindOf (ns.zip vs) m x=some v
 |[],_,_,_,_,_,_,_,e,_,_=>by simp at e
 |_::_,[],_,_,_,_,_,h,_,_,_=>by simp at h
 |n::ns,w::vs,m,i,x,v,nd,hl,e1,e2,hk=>by
  rw [cc] at nd
  refine af cL ?_
  unfold bindL
  cases i with
  |zero=>
   simp at e1 e2;subst e1 e2
   rw [pJ (by exact af (oq (by simpa using hl)) nd.1),if_pos hk]
   exact if_pos rfl
  |succ i=>exact tW nd.2 (by simpa using hl) (by simpa using e1) (by simpa using e2) hk
theorem tT {kindOf:aw->Option je}:∀{ns:List aw} {vs:List av} {m:aw->Option av} {i:Nat} {x:aw} {v:av},ns.Nodup->vs.length=ns.length->ns[i]?=some x->vs[i]?=some v->kindOf x≠some .local->bindC kindOf (ns.zip vs) m x=some v
 |[],_,_,_,_,_,_,_,e,_,_=>by simp at e
 |_::_,[],_,_,_,_,_,h,_,_,_=>by simp at h
 |n::ns,w::vs,m,i,x,v,nd,hl,e1,e2,hk=>by
  rw [cc] at nd
  refine af cL ?_
  unfold bindC
  cases i with
  |zero=>
   simp at e1 e2;subst e1 e2
   rw [pU (by exact af (oq (by simpa using hl)) nd.1),if_neg hk]
   exact if_pos rfl
  |succ i=>exact tT nd.2 (by simpa using hl) (by simpa using e1) (by simpa using e2) hk
theorem gf:∀{names:List (aw×je)} {n:Nat} {acc:List (aw×aI)},names.lookup x=some .cell\/(∃c,acc.lookup x=some c)->∃c,(cellsFrom n names acc).lookup x=some c
 |[],_,_,h=>h.elim (λ h=>by simp at h) id
 |(y,k)::r,n,acc,h=>by
  unfold cellsFrom
  split
  ·rename_i hk
   refine gf ?_
   by_cases q:x=y
   ·exact .inr ⟨n,by (exact af aG (af q (af (beq_self_eq_true _) rfl)))⟩
   ·rcases h with h|⟨c,h⟩
    ·rw [aG,show (x==y)=false from beq_eq_false_iff_ne.mpr q] at h
     exact .inl h
    ·exact .inr ⟨c,by (refine af aG (af (show (x==y)=false from beq_eq_false_iff_ne.mpr q) ?_));exact h⟩
  ·rename_i hk
   refine gf ?_
   rcases h with h|h
   ·rw [aG] at h
    by_cases q:x=y
    ·subst q
     rw [beq_self_eq_true] at h
     (have h:=ac h;subst h)
     exact absurd rfl hk
    ·rw [show (x==y)=false from beq_eq_false_iff_ne.mpr q] at h
     exact .inl h
   ·exact .inr h
def Fg (Q:V->MH->Prop):V->MH->Prop:=λ u H'=>∃H'',MH.Sub H'' H'/\Q u H''
def rB (Q:aw->MH->Prop):aw->MH->Prop:=λ u H'=>∃H'',MH.Sub H'' H'/\Q u H''
theorem io.forget (x:io cx h0 H h e why) (s:MH.Sub H' H):io cx h0 H' h e why:=by
 obtain ⟨a,C,d,vs,es,n,t,sl,od,h1,h2,h3,h4,h5,h6,h6b,h7,h8,h8b,h9,h10⟩:=x
 refine ⟨a,C,d,vs,es,n,t,sl,od,h1,h2,h3,h4,s.free h5,h6,h6b,h7,s.free h8,h8b,h9,h10.imp id ?_⟩
 rintro ⟨T,oT,ts,g1,g2,g3,g4,g5,g6,g7,g8⟩
 exact ⟨T,oT,ts,g1,g2,g3,g4,g5,g6,g7,s.free g8⟩
def yu (cx:Cx):Prop:=∀(A:dy) (au:i4) (outer:List i4) (h0:cM) (H:MH) (s:ax) (e:av) (why:aw) (Q:Unit->ax->Prop) (Ex:av->ax->Prop),A.frames=some (au::outer)->iC cx A H s.heap->io cx h0 H s.heap e why->cb cx H s.heap->
 (∀s',io cx h0 H s'.heap e why->cb cx H s'.heap->bb fc H s.heap H s'.heap->dR s s'->Q () s')->aE (ay cx.prog cx.w) A (leaving au e) Q Ex s
structure Nx (cx:Cx) (f:Fn) (ps nm:List aw) (ds:List V) (P:gA->List lB->Prop) (a:aI) (o:xQ) (fd:xZ) (b:List lB) (dv:List av):Prop where
 ha:cx.addr f=.ref a
 hb:cx.base.get? a=some o
 hd:o.data=.func fd
 hbody:fd.body=.stmts b
 hP:P fd.scope b
 hglob:fd.globals=di
 hblt:fd.builtins=lC
 hclo:fd.closure=[]
 hkind:fd.scope.kind=.function
 hco:fd.scope.isCoroutine=false
 hgen:fd.scope.isGenerator=false
 hcode:cx.base.CodeRec fd.code fd.qualname
 hnames:∀x∈nm,fd.scope.names.lookup x=some .local\/fd.scope.names.lookup x=some .cell
 rdv:VRels cx cx.base ds dv
 hbind:∀(vs:List av) (s:ax),(∀a o,cx.base.get? a=some o->s.heap.get? a=some o)->vs.length+ds.length=ps.length->BindsTo s fd ⟨vs,[]⟩ (ps.zip (vs++dv))
structure JI (cx:Cx) (f:Fn) (ps nm:List aw) (ds:List V) (P:gA->List lB->Prop):Prop where
 ex:∃a o fd b dv,Nx cx f ps nm ds P a o fd b dv
 nd:nm.Nodup
 pre:∃r,nm=ps++r
abbrev z4 (cx:Cx) (gl:GL) (f:Fn) (ps nm:List aw) (ds:List V) (body:List S):Prop:=JI cx f ps nm ds λ sc b=>∃t,b=emSs nm body t/\okSs gl sc nm body t=true
section
variable {cx:Cx}
theorem cb.keepB (I:cb cx H h):bP cx.base h:=λ a o e Z=>I.base a o e
theorem Ah (h:(frame0 nm us).at i=some u):us[i]?=some u:=by
 unfold frame0 da.at at h
 by_cases q:i<us.length
 ·rw [eK (by simpa using q),aF,an q] at h
  refine af (an q) ?_
  exact h
 ·rw [fV (by simpa using du.mp q)] at h
  obtain ⟨o,e1,e2⟩:∃o,(b9 (nm.length -us.length) (none:Option V))[i -(us.map some).length]?=some o/\o=some u:=by
   cases z:(b9 (nm.length -us.length) (none:Option V))[i -(us.map some).length]? with
   |none=>rw [z] at h;cases h
   |some o=>rw [z] at h;exact ⟨o,rfl,h⟩
  have:=aZ e1
  rw [List.mem_replicate] at this
  rw [this.2] at e2;exact bH e2
end
namespace jE
def S_ (cx f ps nm ds A H s us vs):=∀{tb:on} {gl:GL} {P:gA->List lB->Prop} {l:Nat} {R:HQ->ax->Prop} (G:gT cx tb gl) (hf:JI cx f ps nm ds P) (am:D7 A l) (st:iC cx A H s.heap) (hbs:cx.base.objs.size<=s.heap.objs.size) (I:cb cx H s.heap) (r:VRels cx s.heap us vs) (hl:us.length+ds.length=ps.length) (k:∀(au:i4) (b:List lB) (s1:ax),P au.scope b->(∃outer,(A.deeper au).frames=some (au::outer))->Fm cx au nm H (frame0 nm (us++ds)) s1.heap->iC cx (A.deeper au) H s1.heap->cb cx H s1.heap->bb fc H s.heap H s1.heap->dR s s1->(∀b o,s.heap.get? b=some o->s1.heap.get? b=some o)->
   (∀{H':MH} {h':cM},bb (PF au) H s1.heap H' h'->bb fc H s.heap H' h')->Bt (A.deeper au) l->
   aE (ay cx.prog cx.w) (A.deeper au) (execs b au) (λ f s'=>R (.ok (.ret (match f with|.ret v=>v|_=>.none))) s')
    (λ e s'=>aE (ay cx.prog cx.w) (A.deeper au) (leaving au e) (λ Z s''=>R (.error e) s'') (λ e' s''=>R (.error e') s'') s') s1),eS (ay cx.prog cx.w) A (.call (cx.addr f) ⟨vs,[]⟩) R s
def U_:=UV λ cx f ps=>UV λ nm ds A=>UV λ H s us=>S_ cx f ps nm ds A H s us
def t_:=dr (by have:=qf;have:=p5;have:=ti;infer_instance) U_
def cx:=t_.1
def f:=t_.2.1
def ps:=t_.2.2.1
def nm:=t_.2.2.2.1
def ds:=t_.2.2.2.2.1
def A:=t_.2.2.2.2.2.1
def s1_:=t_.2.2.2.2.2.2
def H:=s1_.1
def s:=s1_.2.1
def us:=s1_.2.2.1
def vs:=s1_.2.2.2
theorem P_:S_ cx f ps nm ds A H s us vs:=by
 intro tb gl P l R G hf am st hbs I r hl k
 refine iF hf.ex λ a o fd t1_=>(BO t1_ λ b dv w2_=>?_)
 clear t1_
 obtain ⟨ha,hb,hd,hbody,hchk,hglob,hblt,hclo,hkind,hco,hgen,hcode,hnames,rdv,hbind⟩:=w2_
 refine bu hf.pre λ rest hpre=>?_
 have hnd:=hf.nd
 refine af ha ?_
 have rall:VRels cx s.heap (us++ds) (vs++dv):=r.app (rdv.mono I.keepB _)
 have hlen:(vs++dv).length=ps.length:=by (refine af rall.len (af az ?_));exact hl
 have hndp:ps.Nodup:=by rw [hpre] at hnd;exact (iq.mp hnd).1
 have inps:∀x∈ps,x∈nm:=λ x hx=>by refine af hpre ?_;exact zf _ hx
 refine codeAny_call_function (by have:=am.depth;lia) (I.base a o hb) hd hco hgen hbody (hcode.keeps I.base) (hbind vs s I.base (by exact af r.len hl) _ _ _ _ ?_)
 refine af hclo ?_
 refine wpAny_newFunctionEnv_cells hkind (λ x hx=>?_) λ au he' s1 x=>?_
 ·have hx1:x.1∈ps:=by
   have:=d8 (f:=(·.1)) hx
   rwa [oq hlen] at this
  rcases hnames x.1 (inps _ hx1) with h|h
  ·exact .inl h
  ·exact bu (gf (n:=s.heap.objs.size+1) (acc:=[]) (.inl h)) λ c hc'=>(.inr ⟨h,by refine af hc' ?_;rfl⟩)
 ·have k1:∀b o,s.heap.get? b=some o->s1.heap.get? b=some o:=x.toInCall.keep
  have hL:au.locals=s.heap.objs.size:=by refine af he' ?_;rfl
  have nL:s.heap.get? au.locals=none:=by refine af hL ?_;exact dN (bW _)
  have hcells:au.cells=cellsFrom (s.heap.objs.size+1) fd.scope.names []:=by refine af he' ?_;rfl
  have hsc:au.scope=fd.scope:=by refine af he' ?_;rfl
  have nC:∀n c,au.cells.lookup n=some c->s.heap.get? c=none/\cx.base.objs.size<=c:=λ n c e=>by
   have:=x.above n c (mem_of_lookup e)
   rw [hL] at this
   exact ⟨dN (fB this),ao hbs (fB this)⟩
  refine ⟨(G.nolimit.keeps I.base).keeps k1,codeAny_func ?_⟩
  have I1:cb cx H s1.heap:=I.keeps k1
  have S1:bb fc H s.heap H s1.heap:=bb.keeps k1
  have M1:dR s s1:=by obtain ⟨h,tk,e⟩:=x.toInCall.same;exact af e ⟨rfl,rfl,rfl⟩
  have hfr:(A.deeper au).frames=some (au::st.choose):=Around.frames_deeper st.choose_spec.1
  have F1:Fm cx au nm H (frame0 nm (us++ds)) s1.heap:=by
   refine ⟨by exact af hsc hkind,by exact af he' hglob,by exact af he' hblt,hnd,?_,λ n1 c1 n2 c2 e1 e2 ne q=>?_,by exact af hL hbs,λ n c e=>(nC n c e).2,λ y hy=>?_,I.free nL,_,_,x.toInCall.ns,x.cell,λ i y hy=>?_⟩
   ·refine af az (af (ag _) (af List.length_replicate ?_))
    have:nm.length=ps.length+rest.length:=by (exact af hpre (af az rfl))
    refine af az ?_;lia
   ·subst q;exact ne (name_of_addr x.apart (mem_of_lookup e1) (mem_of_lookup e2))
   ·refine af hcells ?_
    refine gf (.inl ?_)
    have:au.kindOf y=fd.scope.names.lookup y:=by unfold DM;(exact af hsc rfl)
    exact af this.symm hy
   ·have hk:au.kindOf y=fd.scope.names.lookup y:=by unfold DM;(exact af hsc rfl)
    have val:∀u,(frame0 nm (us++ds)).at i=some u->ps[i]?=some y/\∃v,(vs++dv)[i]?=some v/\VRel cx s1.heap u v:=λ u hu=>by
     have e:=Ah hu
     refine aL (rall.get e) λ v e1 e2=>?_
     have hi:i<ps.length:=by refine af hlen.symm ?_;exact (aN.mp e1).1
     refine ⟨?_,v,e1,VRel.mono S1.imm _ e2⟩
     rw [hpre,eK hi] at hy
     exact hy
    rcases hnames y (aZ hy) with h|h
    ·refine .inl ⟨hk.trans h,λ u hu=>?_⟩
     refine bw (val u hu) λ e1 t1_=>(aL t1_ λ v e2 e3=>?_)
     exact ⟨v,tW hndp hlen e1 e2 (hk.trans h),e3⟩
    ·refine bu (gf (n:=s.heap.objs.size+1) (acc:=[]) (.inl h)) λ c hc'=>(.inr ⟨.inl (hk.trans h),⟨c,by exact af hcells hc'⟩,λ u hu=>?_⟩)
     refine bw (val u hu) λ e1 t1_=>(aL t1_ λ v e2 e3=>?_)
     exact ⟨v,tT hndp hlen e1 e2 (by (refine af hk (af h ?_));decide),e3⟩
  have st1:iC cx (A.deeper au) H s1.heap:=by
   refine ⟨_,hfr,λ e' h'=>?_⟩
   rcases aY.mp h' with h'|h'
   ·refine af h' ?_
    exact ⟨by (refine af hsc (af hkind ?_));decide,au.locals,by refine af he' ?_;rfl,⟨_,x.toInCall.ns⟩,I.free nL,by exact af hL hbs⟩
   ·refine bw (st.choose_spec.2 e' h') λ a1 t1_=>(fy t1_ λ L a2 w2_ a4 a5=>?_)
    obtain ⟨m,a3⟩:=w2_
    exact ⟨a1,L,a2,⟨m,a3.keeps k1⟩,a4,a5⟩
  have am1:Bt (A.deeper au) l:=⟨am.handled,by have:=am.depth;show A.depth+1+_+_<_;lia,by have:=am.units;have e:(A.deeper au).units=A.units+3:=rfl;refine af e ?_;lia⟩
  have ab:∀{H':MH} {h':cM},bb (PF au) H s1.heap H' h'->bb fc H s.heap H' h':=λ z=>S1.absorb z λ a p=>.inr (p.elim (λ p=>p▸nL) λ ⟨n,e⟩=>(nC n a e).1)
  exact k au b s1 (by exact af hsc hchk) ⟨_,hfr⟩ F1 st1 I1 S1 M1 k1 ab am1
theorem A_:∀p,U_ p:=bB P_
end jE
section
variable {cx:Cx}
theorem jE {cx f ps nm ds A H s us vs}:jE.S_ cx f ps nm ds A H s us vs:=jE.A_ (cx,f,ps,nm,ds,A,H,s,us,vs)
theorem EZ (G:gT cx tb gl) (lv:yu cx) (he:∀A au,Bt A (tb.lvl f)->(∃outer,A.frames=some (au::outer))->K9 cx tb gl A (tb.lvl f) au) (hf:z4 cx gl f ps nm ds body)
  (hc:∀g,tb.lvl g<tb.lvl f->CallOk cx tb g) (hi:∀c g,tb.init c=some g->tb.lvl g<tb.lvl f->CodeOk cx tb g)
  (vc:∀us H Q X,tb.spec f us H Q X->us.length+ds.length=ps.length/\wpSs tb (tb.lvl f) body (frame0 nm (us++ds)) H (λ Z H'=>Fg Q .none H') (Fg Q) (rB X)):CodeOk cx tb f:=by
 intro A H s us vs Q X am st lk I r q
 refine bw (vc us H Q X q) λ hl q=>(jE G hf am st (let ⟨L,k⟩:=lk;k.le) I r hl λ au b s1 ⟨t,hb,hchk⟩ ⟨outer,hfr⟩ F1 st1 I1 S1 M1 Z ab am1=>?_)
 subst hb
 refine aq (xK ⟨G,hc,hi,am1⟩ (he _ _ am1 ⟨outer,hfr⟩) body hchk H s1 _ _ _ _ F1 st1 I1 q) (λ fl s2 h2=>?_) λ e s2 h2=>?_
 ·cases fl with
  |next=>
   obtain ⟨ρ',H',⟨H2,sub,q'⟩,F',I',S',M'⟩:=h2
   exact ⟨.none,H2,q',mF,I'.forget sub,(ab S').forget sub,M1.trans M'⟩
  |ret v=>
   obtain ⟨u,H',⟨H2,sub,q'⟩,rv,I',S',M'⟩:=h2
   exact ⟨u,H2,q',rv,I'.forget sub,(ab S').forget sub,M1.trans M'⟩
  |brk=>exact h2.elim
  |cont=>exact h2.elim
 ·obtain ⟨why,H',⟨H2,sub,q'⟩,x',I',S',M'⟩:=h2
  exact lv (A.deeper au) au outer _ H' s2 e why _ _ hfr (st1.step S') x' I' λ s3 x3 I3 S3 M3=>⟨why,H2,q',(x3.from S1.there).forget sub,I3.forget sub,((ab S').trans S3).forget sub,(M1.trans M').trans M3⟩
end
end
section
open PySem PySem.W
noncomputable def ps1:List aw:=["low","high","bits"]
noncomputable def nm1:List aw:=["low","high","bits","size","length"]
noncomputable def c1:List S:=
 [.assign (.loc 3) (.bin .Add (.bin .Sub (.loc 1) (.loc 0)) (.int 1)),
 .ite (.bop false [(.cmp .Lt (.loc 3) (.int 1)),(.cmp .NotEq (.bin .BitAnd (.loc 3) (.bin .Sub (.loc 3) (.int 1))) (.int 0)),(.cmp .NotEq (.bin .Mod (.loc 0) (.loc 3)) (.int 0)),(.cmp .NotEq (.bin .RShift (.loc 1) (.loc 2)) (.int 0))])
  [.ret .none]
  [],
 .assign (.loc 4) (.loc 2),
 .while_ (.cmp .Gt (.loc 3) (.int 1))
  [.assign (.loc 3) (.bin .RShift (.loc 3) (.int 1)),
  .assign (.loc 4) (.bin .Sub (.loc 4) (.int 1))],
 .ret (.loc 4)]
noncomputable def ps17:List aw:=["size"]
noncomputable def nm17:List aw:=["size"]
noncomputable def c17:List S:=
 [.ret (.bin .FloorDiv (.bin .Add (.loc 0) (.int 3)) (.int 4))]
noncomputable def ps13:List aw:=["octets"]
noncomputable def nm13:List aw:=["octets","number","octet"]
noncomputable def c13:List S:=
 [.assign (.loc 1) (.int 0),
 .for_ (.loc 2) (.loc 0)
  [.assign (.loc 1) (.bin .BitOr (.bin .LShift (.loc 1) (.int 8)) (.loc 2))],
 .ret (.loc 1)]
noncomputable def ps14:List aw:=["octets"]
noncomputable def nm14:List aw:=["octets","last"]
noncomputable def c14:List S:=
 [.assign (.loc 1) (.bin .Sub (.call (.fn "len" (.bi "len")) [(.loc 0)]) (.int 1)),
 .ret (.call (.fn "bytes" (.ty "bytes")) [(.comp ["place"] [0,1] (.sub (.loc 1) (.bin .Sub (.loc 2) (.loc 0))) 0 (.call (.fn "range" (.ty "range")) [(.bin .Add (.loc 1) (.int 1))]) none)])]
noncomputable def ps15:List aw:=["octets","order"]
noncomputable def nm15:List aw:=["octets","order"]
noncomputable def c15:List S:=
 [.ite (.cmp .Eq (.loc 1) (.str "big"))
  [.ret (.call (.fn "number_of" (.user 13)) [(.loc 0)])]
  [],
 .ite (.cmp .Eq (.loc 1) (.str "little"))
  [.ret (.call (.fn "number_of" (.user 13)) [(.call (.fn "turned" (.user 14)) [(.loc 0)])])]
  [],
 .raise_ (.bin .Add (.str "no such order of octets: ") (.loc 1))]
noncomputable def ps16:List aw:=["order","host"]
noncomputable def nm16:List aw:=["order","host"]
noncomputable def c16:List S:=
 [.ret (.ifx (.cmp .Eq (.loc 0) (.str "host")) (.loc 1) (.loc 0))]
noncomputable def ps18:List aw:=["self","fields","family","sets"]
noncomputable def nm18:List aw:=["self","fields","family","sets"]
noncomputable def c18:List S:=
 [.setattr (.loc 0) "fields" (.loc 1),
 .setattr (.loc 0) "family" (.loc 2),
 .setattr (.loc 0) "sets" (.loc 3),
 .setattr (.loc 0) "order" (.str "little"),
 .setattr (.loc 0) "cells" .edct,
 .setattr (.loc 0) "at" (.int 0),
 .setattr (.loc 0) "slots" .edct,
 .setattr (.loc 0) "known" .edct,
 .setattr (.loc 0) "pending" (.lst []),
 .setattr (.loc 0) "dropped" (.lst []),
 .setattr (.loc 0) "statements" (.lst [])]
noncomputable def ps19:List aw:=["rows","at","statement"]
noncomputable def nm19:List aw:=["rows","at","statement","place"]
noncomputable def c19:List S:=
 [.assign (.loc 3) (.call (.fn "len" (.bi "len")) [(.loc 0)]),
 .while_ (.bop true [(.cmp .Gt (.loc 3) (.int 0)),(.cmp .Gt (.sub (.sub (.loc 0) (.bin .Sub (.loc 3) (.int 1))) (.int 0)) (.loc 1))])
  [.aug 3 .Sub (.int 1)],
 .expr (.meth (.loc 0) "insert" [(.loc 3),(.tup [(.loc 1),(.loc 2)])])]
noncomputable def ps20:List aw:=["known","name","number","at"]
noncomputable def nm20:List aw:=["known","name","number","at"]
noncomputable def c20:List S:=
 [.ite (.bop false [(.cmp .NotIn (.loc 1) (.loc 0)),(.cmp .Lt (.sub (.sub (.loc 0) (.loc 1)) (.int 0)) (.loc 3))])
  [.setitem (.loc 0) (.loc 1) (.tup [(.loc 3),(.loc 2)])]
  []]
noncomputable def ps21:List aw:=["need"]
noncomputable def nm21:List aw:=["need"]
noncomputable def c21:List S:=
 [.ret (.tup [(.str "match"),(.tup [(.str "field"),(.sub (.loc 0) (.int 0))]),(.str "=="),(.tup [(.str "num"),(.sub (.loc 0) (.int 1))])])]
noncomputable def ps22:List aw:=["reading"]
noncomputable def nm22:List aw:=["reading","need"]
noncomputable def c22:List S:=
 [.for_ (.loc 1) (.attr (.loc 0) "pending")
  [.ite (.cmp .NotEq (.sub (.loc 1) (.int 2)) (.int 0))
   [.raise_ (.str "a need that no field asked for")]
   [],
  .expr (.call (.fn "note" (.user 20)) [(.attr (.loc 0) "known"),(.sub (.loc 1) (.int 0)),(.sub (.loc 1) (.int 1)),(.sub (.loc 1) (.int 3))]),
  .expr (.call (.fn "put_row" (.user 19)) [(.attr (.loc 0) "statements"),(.sub (.loc 1) (.int 3)),(.call (.fn "need_match" (.user 21)) [(.loc 1)])])],
 .setattr (.loc 0) "pending" (.lst [])]
noncomputable def ps23:List aw:=["reading","statement"]
noncomputable def nm23:List aw:=["reading","statement"]
noncomputable def c23:List S:=
 [.expr (.call (.fn "flush" (.user 22)) [(.loc 0)]),
 .expr (.call (.fn "put_row" (.user 19)) [(.attr (.loc 0) "statements"),(.attr (.loc 0) "at"),(.loc 1)])]
noncomputable def ps24:List aw:=["reading","reg"]
noncomputable def nm24:List aw:=["reading","reg"]
noncomputable def c24:List S:=
 [.ite (.cmp .NotIn (.loc 1) (.attr (.loc 0) "slots"))
  [.raise_ (.str "a register that nothing was put into")]
  [],
 .ret (.sub (.attr (.loc 0) "slots") (.loc 1))]
noncomputable def ps25:List aw:=["reading","reg"]
noncomputable def nm25:List aw:=["reading","reg","slot"]
noncomputable def c25:List S:=
 [.assign (.loc 2) (.call (.fn "slot_of" (.user 24)) [(.loc 0),(.loc 1)]),
 .ite (.cmp .Eq (.sub (.sub (.loc 2) (.int 0)) (.int 0)) (.str "half"))
  [.raise_ (.str "octets that are no field")]
  [],
 .ret (.loc 2)]
noncomputable def ps26:List aw:=["reading","octets","order"]
noncomputable def nm26:List aw:=["reading","octets","order"]
noncomputable def c26:List S:=
 [.ret (.call (.fn "host_number" (.user 15)) [(.loc 1),(.call (.fn "host_order" (.user 16)) [(.loc 2),(.attr (.loc 0) "order")])])]
noncomputable def ps27:List aw:=["parts"]
noncomputable def nm27:List aw:=["parts"]
noncomputable def c27:List S:=
 [.ite (.cmp .Eq (.call (.fn "len" (.bi "len")) [(.loc 0)]) (.int 1))
  [.ret (.sub (.loc 0) (.int 0))]
  [],
 .ret (.tup [(.str "concat"),(.call (.fn "tuple" (.ty "tuple")) [(.loc 0)])])]
noncomputable def ps28:List aw:=["reading","reg","layout"]
noncomputable def nm28:List aw:=["reading","reg","layout","parts","size","order"]
noncomputable def c28:List S:=
 [.assign (.loc 3) (.lst []),
 .for_ (.tup [4,5]) (.loc 2)
  [.expr (.meth (.loc 3) "append" [(.sub (.call (.fn "held" (.user 25)) [(.loc 0),(.loc 1)]) (.int 0))]),
  .aug 1 .Add (.call (.fn "slots_of" (.user 17)) [(.loc 4)])],
 .ret (.call (.fn "joined" (.user 27)) [(.loc 3)])]
noncomputable def ps29:List aw:=["reading","name"]
noncomputable def nm29:List aw:=["reading","name","literals","element"]
noncomputable def c29:List S:=
 [.ite (.cmp .NotIn (.loc 1) (.attr (.loc 0) "sets"))
  [.ret .none]
  [],
 .assign (.loc 2) (.lst []),
 .for_ (.loc 3) (.meth (.attr (.sub (.attr (.loc 0) "sets") (.loc 1)) "store") "elements" [])
  [.expr (.meth (.loc 2) "append" [(.tup [(.attr (.loc 3) "box"),(.attr (.loc 3) "data"),(.attr (.loc 3) "timeout"),(.attr (.loc 3) "comment")])])],
 .ret (.call (.fn "tuple" (.ty "tuple")) [(.loc 2)])]
noncomputable def ps30:List aw:=["reading","name","tag"]
noncomputable def nm30:List aw:=["reading","name","tag","literals"]
noncomputable def c30:List S:=
 [.assign (.loc 3) (.call (.fn "elements_told" (.user 29)) [(.loc 0),(.loc 1)]),
 .ite (.cmp .Is (.loc 3) .none)
  [.ret (.tup [(.str "ref"),(.loc 1)])]
  [],
 .ret (.tup [(.loc 2),(.loc 3)])]
noncomputable def ps31:List aw:=["reading","row"]
noncomputable def nm31:List aw:=["reading","row"]
noncomputable def c31:List S:=
 [.setitem (.attr (.loc 0) "slots") (.sub (.loc 1) (.int 1)) (.tup [(.tup [(.str "field"),(.bin .Add (.str "meta ") (.sub (.loc 1) (.int 2)))]),(.sub (.loc 1) (.int 4)),(.sub (.loc 1) (.int 3))])]
noncomputable def ps32:List aw:=["reading","row"]
noncomputable def nm32:List aw:=["reading","row"]
noncomputable def c32:List S:=
 [.setitem (.attr (.loc 0) "slots") (.sub (.loc 1) (.int 1)) (.tup [(.tup [(.str "raw"),(.sub (.loc 1) (.int 2))]),(.str "big"),(.call (.fn "len" (.bi "len")) [(.sub (.loc 1) (.int 2))])])]
noncomputable def ps33:List aw:=["reading","e","op","n"]
noncomputable def nm33:List aw:=["reading","e","op","n","rest"]
noncomputable def c33:List S:=
 [.ite (.bop true [(.cmp .Eq (.sub (.loc 1) (.int 0)) (.str "mask")),(.cmp .In (.loc 2) (.tup [(.str "=="),(.str "!=")]))])
  [.ite (.bop true [(.cmp .Eq (.loc 3) (.int 0)),(.cmp .In (.call (.fn "type_of" (.user 12)) [(.attr (.loc 0) "fields"),(.sub (.loc 1) (.int 1))]) (.tup [(.str "ct_state"),(.str "ct_status"),(.str "tcp_flag")]))])
   [.ret (.tup [(.str "match"),(.sub (.loc 1) (.int 1)),(.ifx (.cmp .Eq (.loc 2) (.str "==")) (.str "none") (.str "any")),(.tup [(.str "num"),(.sub (.loc 1) (.int 2))])])]
   [],
  .assign (.loc 4) (.bin .Sub (.bin .Sub (.bin .LShift (.int 1) (.call (.fn "bits_of_e" (.user 11)) [(.attr (.loc 0) "fields"),(.sub (.loc 1) (.int 1))])) (.int 1)) (.sub (.loc 1) (.int 2))),
  .ite (.bop true [(.cmp .Gt (.sub (.loc 1) (.int 2)) (.int 0)),(.cmp .Gt (.loc 4) (.int 0)),(.cmp .Eq (.bin .BitAnd (.loc 4) (.bin .Add (.loc 4) (.int 1))) (.int 0)),(.cmp .Eq (.bin .BitAnd (.loc 3) (.sub (.loc 1) (.int 2))) (.loc 3))])
   [.ret (.tup [(.str "match"),(.sub (.loc 1) (.int 1)),(.loc 2),(.tup [(.str "span"),(.loc 3),(.bin .Add (.loc 3) (.loc 4))])])]
   []]
  [],
 .ret (.tup [(.str "match"),(.loc 1),(.loc 2),(.tup [(.str "num"),(.loc 3)])])]
noncomputable def ps34:List aw:=["reading","row"]
noncomputable def nm34:List aw:=["reading","row","e","order","size","n","needed"]
noncomputable def c34:List S:=
 [.assign (.tup [2,3,4]) (.call (.fn "held" (.user 25)) [(.loc 0),(.sub (.loc 1) (.int 2))]),
 .assign (.loc 5) (.call (.fn "number_in" (.user 26)) [(.loc 0),(.sub (.loc 1) (.int 3)),(.loc 3)]),
 .assign (.loc 6) (.tup [(.str "meta nfproto"),(.str "meta l4proto"),(.str "meta protocol"),(.str "ether type")]),
 .ite (.bop true [(.cmp .Eq (.sub (.loc 1) (.int 1)) (.str "==")),(.cmp .Eq (.sub (.loc 2) (.int 0)) (.str "field")),(.cmp .In (.sub (.loc 2) (.int 1)) (.loc 6))])
  [.expr (.meth (.attr (.loc 0) "pending") "append" [(.tup [(.sub (.loc 2) (.int 1)),(.loc 5),(.sub (.loc 1) (.int 2)),(.attr (.loc 0) "at")])])]
  [.expr (.call (.fn "emit" (.user 23)) [(.loc 0),(.call (.fn "match_of" (.user 33)) [(.loc 0),(.loc 2),(.sub (.loc 1) (.int 1)),(.loc 5)])])]]
noncomputable def ps35:List aw:=["reading","row"]
noncomputable def nm35:List aw:=["reading","row","e","reg","size","order"]
noncomputable def c35:List S:=
 [.assign (.loc 2) (.tup [(.str "map"),(.call (.fn "key_at" (.user 28)) [(.loc 0),(.sub (.loc 1) (.int 1)),(.sub (.loc 1) (.int 2))]),(.call (.fn "where_of" (.user 30)) [(.loc 0),(.sub (.loc 1) (.int 3)),(.str "map")])]),
 .assign (.loc 3) (.sub (.loc 1) (.int 4)),
 .for_ (.tup [4,5]) (.sub (.loc 1) (.int 5))
  [.setitem (.attr (.loc 0) "slots") (.loc 3) (.tup [(.loc 2),(.loc 5),(.loc 4)]),
  .aug 3 .Add (.call (.fn "slots_of" (.user 17)) [(.loc 4)])]]
noncomputable def ps36:List aw:=["reading","row"]
noncomputable def nm36:List aw:=["reading","row"]
noncomputable def c36:List S:=
 [.expr (.call (.fn "emit" (.user 23)) [(.loc 0),(.loc 1)])]
noncomputable def ps37:List aw:=["reading","low","high"]
noncomputable def nm37:List aw:=["reading","low","high"]
noncomputable def c37:List S:=
 [.ite (.bop false [(.cmp .Lt (.loc 1) (.int 0)),(.cmp .NotEq (.sub (.sub (.call (.fn "held" (.user 25)) [(.loc 0),(.loc 1)]) (.int 0)) (.int 0)) (.str "raw"))])
  [.ret .none]
  [],
 .ret (.tup [(.call (.fn "number_of" (.user 13)) [(.sub (.sub (.call (.fn "held" (.user 25)) [(.loc 0),(.loc 1)]) (.int 0)) (.int 1))]),(.call (.fn "number_of" (.user 13)) [(.sub (.sub (.call (.fn "held" (.user 25)) [(.loc 0),(.loc 2)]) (.int 0)) (.int 1))])])]
noncomputable def ps38:List aw:=["reading","row"]
noncomputable def nm38:List aw:=["reading","row","flags","addresses","pair"]
noncomputable def c38:List S:=
 [.assign (.loc 2) (.comp ["flag"] [] (.loc 0) 0 (.sub (.loc 1) (.int 8)) (some (.cmp .NotEq (.loc 0) (.str "netmap")))),
 .assign (.loc 3) .none,
 .ite (.cmp .GtE (.sub (.loc 1) (.int 3)) (.int 0))
  [.assign (.loc 4) (.call (.fn "raw_pair" (.user 37)) [(.loc 0),(.sub (.loc 1) (.int 3)),(.sub (.loc 1) (.int 4))]),
  .ite (.cmp .Is (.loc 4) .none)
   [.assign (.loc 3) (.sub (.call (.fn "held" (.user 25)) [(.loc 0),(.sub (.loc 1) (.int 3))]) (.int 0))]
   [.ite (.cmp .Lt (.call (.fn "len" (.bi "len")) [(.loc 2)]) (.call (.fn "len" (.bi "len")) [(.sub (.loc 1) (.int 8))]))
    [.assign (.loc 3) (.tup [(.str "net"),(.sub (.loc 4) (.int 0)),(.call (.fn "span_prefix" (.user 1)) [(.sub (.loc 4) (.int 0)),(.sub (.loc 4) (.int 1)),(.bin .Mult (.int 8) (.sub (.loc 1) (.int 5)))])])]
    [.assign (.loc 3) (.tup [(.str "span"),(.sub (.loc 4) (.int 0)),(.sub (.loc 4) (.int 1))])]]]
  [],
 .expr (.call (.fn "emit" (.user 23)) [(.loc 0),(.tup [(.str "nat"),(.sub (.loc 1) (.int 1)),(.sub (.loc 1) (.int 2)),(.loc 3),(.call (.fn "raw_pair" (.user 37)) [(.loc 0),(.sub (.loc 1) (.int 6)),(.sub (.loc 1) (.int 7))]),(.call (.fn "tuple" (.ty "tuple")) [(.loc 2)])])])]
noncomputable def ps39:List aw:=[]
noncomputable def nm39:List aw:=[]
noncomputable def c39:List S:=
 [.ret (.dfn [("nat","back_nat_row",(.user 38)),("expect","back_same",(.user 36)),("flow","back_same",(.user 36))])]
noncomputable def ps41:List aw:=["box"]
noncomputable def nm41:List aw:=["box","key","low","high"]
noncomputable def c41:List S:=
 [.assign (.loc 1) (.tup []),
 .for_ (.tup [2,3]) (.loc 0)
  [.ite (.cmp .NotEq (.loc 2) (.loc 3))
   [.ret .none]
   [],
  .assign (.loc 1) (.bin .Add (.loc 1) (.tup [(.loc 2)]))],
 .ret (.loc 1)]
noncomputable def ps42:List aw:=["self","box","data","until"]
noncomputable def nm42:List aw:=["self","box","data","until"]
noncomputable def c42:List S:=
 [.setattr (.loc 0) "box" (.loc 1),
 .setattr (.loc 0) "data" (.loc 2),
 .setattr (.loc 0) "until" (.loc 3),
 .setattr (.loc 0) "timeout" (.int 0),
 .setattr (.loc 0) "comment" (.str ""),
 .setattr (.loc 0) "cells" .edct]
noncomputable def ps43:List aw:=["element","now"]
noncomputable def nm43:List aw:=["element","now"]
noncomputable def c43:List S:=
 [.ret (.bop false [(.cmp .Eq (.attr (.loc 0) "until") (.int 0)),(.cmp .Lt (.loc 1) (.attr (.loc 0) "until"))])]
noncomputable def ps44:List aw:=["self"]
noncomputable def nm44:List aw:=["self"]
noncomputable def c44:List S:=
 [.setattr (.loc 0) "table" .edct]
noncomputable def ps45:List aw:=["self","element","now"]
noncomputable def nm45:List aw:=["self","element","now","key"]
noncomputable def c45:List S:=
 [.assign (.loc 3) (.call (.fn "single_key" (.user 41)) [(.attr (.loc 1) "box")]),
 .ite (.cmp .Is (.loc 3) .none)
  [.stuck]
  [],
 .ite (.cmp .IsNot (.meth (.loc 0) "find" [(.loc 3),(.loc 2)]) .none)
  [.stuck]
  [],
 .setitem (.attr (.loc 0) "table") (.loc 3) (.loc 1)]
noncomputable def ps47:List aw:=["self","key","now"]
noncomputable def nm47:List aw:=["self","key","now","element"]
noncomputable def c47:List S:=
 [.assign (.loc 3) (.meth (.attr (.loc 0) "table") "get" [(.loc 1)]),
 .ite (.bop false [(.cmp .Is (.loc 3) .none),(.not (.call (.fn "is_live" (.user 43)) [(.loc 3),(.loc 2)]))])
  [.ret .none]
  [],
 .ret (.loc 3)]
noncomputable def ps49:List aw:=["self"]
noncomputable def nm49:List aw:=["self","found","key"]
noncomputable def c49:List S:=
 [.assign (.loc 1) (.lst []),
 .for_ (.loc 2) (.call (.fn "sorted" (.bi "sorted")) [(.attr (.loc 0) "table")])
  [.expr (.meth (.loc 1) "append" [(.sub (.attr (.loc 0) "table") (.loc 2))])],
 .ret (.loc 1)]
noncomputable def ps52:List aw:=["items","n"]
noncomputable def nm52:List aw:=["items","n","low","high","middle"]
noncomputable def c52:List S:=
 [.assign (.loc 2) (.int 0),
 .assign (.loc 3) (.call (.fn "len" (.bi "len")) [(.loc 0)]),
 .while_ (.cmp .Lt (.loc 2) (.loc 3))
  [.assign (.loc 4) (.bin .FloorDiv (.bin .Add (.loc 2) (.loc 3)) (.int 2)),
  .ite (.cmp .Lt (.sub (.sub (.attr (.sub (.loc 0) (.loc 4)) "box") (.int 0)) (.int 1)) (.loc 1))
   [.assign (.loc 2) (.bin .Add (.loc 4) (.int 1))]
   [.assign (.loc 3) (.loc 4)]],
 .ret (.loc 2)]
noncomputable def ps54:List aw:=["self"]
noncomputable def nm54:List aw:=["self"]
noncomputable def c54:List S:=
 [.setattr (.loc 0) "items" (.lst [])]
noncomputable def ps55:List aw:=["self","element","now"]
noncomputable def nm55:List aw:=["self","element","now","low","high","begin","place"]
noncomputable def c55:List S:=
 [.assign (.tup [3,4]) (.sub (.attr (.loc 1) "box") (.int 0)),
 .assign (.loc 5) (.call (.fn "place_in" (.user 52)) [(.attr (.loc 0) "items"),(.loc 3)]),
 .assign (.loc 6) (.loc 5),
 .while_ (.bop true [(.cmp .Lt (.loc 6) (.call (.fn "len" (.bi "len")) [(.attr (.loc 0) "items")])),(.cmp .LtE (.sub (.sub (.attr (.sub (.attr (.loc 0) "items") (.loc 6)) "box") (.int 0)) (.int 0)) (.loc 4))])
  [.ite (.call (.fn "is_live" (.user 43)) [(.sub (.attr (.loc 0) "items") (.loc 6)),(.loc 2)])
   [.aug 6 .Add (.int 1)]
   [.expr (.meth (.attr (.loc 0) "items") "pop" [(.loc 6)])]],
 .ite (.cmp .Gt (.loc 6) (.loc 5))
  [.ite (.cmp .Eq (.attr (.sub (.attr (.loc 0) "items") (.loc 5)) "box") (.attr (.loc 1) "box"))
   [.stuck]
   [],
  .stuck]
  [],
 .expr (.meth (.attr (.loc 0) "items") "insert" [(.loc 5),(.loc 1)])]
noncomputable def ps59:List aw:=["self"]
noncomputable def nm59:List aw:=["self"]
noncomputable def c59:List S:=
 [.ret (.call (.fn "list" (.ty "list")) [(.attr (.loc 0) "items")])]
noncomputable def ps76:List aw:=["spec","bits"]
noncomputable def nm76:List aw:=["spec","bits"]
noncomputable def c76:List S:=
 [.ite (.cmp .NotIn (.str "interval") (.sub (.loc 0) (.int 2)))
  [.ret (.call (.fn "PlainStore" (.cls 5)) [])]
  [],
 .ite (.cmp .Eq (.call (.fn "len" (.bi "len")) [(.loc 1)]) (.int 1))
  [.ret (.call (.fn "SpanStore" (.cls 6)) [])]
  [],
 .ret (.call (.fn "BitTables" (.cls 8)) [(.loc 1)])]
noncomputable def ps77:List aw:=["self","name","spec","bits"]
noncomputable def nm77:List aw:=["self","name","spec","bits"]
noncomputable def c77:List S:=
 [.setattr (.loc 0) "name" (.loc 1),
 .setattr (.loc 0) "spec" (.loc 2),
 .setattr (.loc 0) "bits" (.loc 3),
 .setattr (.loc 0) "handle" (.int 0),
 .setattr (.loc 0) "is_anonymous" (.bool false),
 .setattr (.loc 0) "is_bound" (.bool false),
 .setattr (.loc 0) "store" (.call (.fn "new_store" (.user 76)) [(.loc 2),(.loc 3)])]
noncomputable def ps79:List aw:=["name","bits","elements","is_map"]
noncomputable def nm79:List aw:=["name","bits","elements","is_map","flags","literal","data","body","element"]
noncomputable def c79:List S:=
 [.assign (.loc 4) (.tup [(.str "constant")]),
 .for_ (.loc 5) (.loc 2)
  [.ite (.cmp .Is (.call (.fn "single_key" (.user 41)) [(.sub (.loc 5) (.int 0))]) .none)
   [.assign (.loc 4) (.tup [(.str "constant"),(.str "interval")])]
   []],
 .assign (.loc 6) .none,
 .ite (.loc 3)
  [.assign (.loc 6) (.tup []),
  .ite (.bop true [(.cmp .Gt (.call (.fn "len" (.bi "len")) [(.loc 2)]) (.int 0)),(.call (.fn "isinstance" (.bi "isinstance")) [(.sub (.sub (.sub (.loc 2) (.int 0)) (.int 1)) (.int 0)),(.fn "str" (.ty "str"))])])
   [.assign (.loc 6) (.str "verdict")]
   []]
  [],
 .assign (.loc 7) (.call (.fn "SetBody" (.cls 9)) [(.loc 0),(.tup [(.tup []),(.loc 6),(.loc 4),(.int 0),(.int 0),(.bool false)]),(.loc 1)]),
 .setattr (.loc 7) "is_anonymous" (.bool true),
 .setattr (.loc 7) "is_bound" (.bool true),
 .for_ (.loc 5) (.loc 2)
  [.assign (.loc 8) (.call (.fn "Element" (.cls 4)) [(.sub (.loc 5) (.int 0)),(.sub (.loc 5) (.int 1))]),
  .setattr (.loc 8) "comment" (.sub (.loc 5) (.int 3)),
  .expr (.meth (.attr (.loc 7) "store") "put" [(.loc 8),(.int 0)])],
 .ret (.loc 7)]
noncomputable def ps80:List aw:=["script","place"]
noncomputable def nm80:List aw:=["script","place"]
noncomputable def c80:List S:=
 [.ret (.ifx (.cmp .Lt (.loc 1) (.call (.fn "len" (.bi "len")) [(.loc 0)])) (.bin .Mod (.sub (.loc 0) (.loc 1)) (.bin .Pow (.int 2) (.int 64))) (.int 0))]
noncomputable def ps81:List aw:=["number","many"]
noncomputable def nm81:List aw:=["number","many","out","k"]
noncomputable def c81:List S:=
 [.assign (.loc 2) (.lst []),
 .for_ (.loc 3) (.call (.fn "range" (.ty "range")) [(.loc 1)])
  [.expr (.meth (.loc 2) "append" [(.bin .Mod (.loc 0) (.int 256))]),
  .assign (.loc 0) (.bin .FloorDiv (.loc 0) (.int 256))],
 .ret (.call (.fn "bytes" (.ty "bytes")) [(.comp ["k"] [2,1] (.sub (.loc 1) (.bin .Sub (.bin .Sub (.loc 2) (.int 1)) (.loc 0))) 0 (.call (.fn "range" (.ty "range")) [(.loc 1)]) none)])]
noncomputable def ps82:List aw:=["low","bits","m","q","is_ported"]
noncomputable def nm82:List aw:=["low","bits","m","q","is_ported","literals","k","first","data"]
noncomputable def c82:List S:=
 [.assign (.loc 5) (.lst []),
 .for_ (.loc 6) (.call (.fn "range" (.ty "range")) [(.bin .Mod (.loc 2) (.int 4))])
  [.assign (.loc 7) (.bin .Add (.bin .Mult (.int 10) (.bin .Mod (.bin .Add (.loc 6) (.loc 3)) (.int 3))) (.bin .Mod (.bin .FloorDiv (.loc 3) (.int 3)) (.int 5))),
  .assign (.loc 8) (.tup [(.bin .Mod (.bin .Add (.loc 0) (.bin .Mult (.int 257) (.loc 6))) (.bin .Pow (.int 2) (.loc 1)))]),
  .ite (.loc 4)
   [.assign (.loc 8) (.bin .Add (.loc 8) (.tup [(.bin .Mod (.bin .Add (.loc 3) (.bin .Mult (.int 11) (.loc 6))) (.int 65536))]))]
   [],
  .expr (.meth (.loc 5) "append" [(.tup [(.tup [(.tup [(.loc 7),(.bin .Add (.loc 7) (.bin .Mod (.bin .FloorDiv (.bin .FloorDiv (.loc 2) (.int 4)) (.bin .Pow (.int 5) (.loc 6))) (.int 5)))])]),(.loc 8),(.int 0),(.sub (.lst [(.str ""),(.bin .Add (.str "c") (.call (.fn "str" (.ty "str")) [(.loc 6)]))]) (.bin .Mod (.bin .FloorDiv (.loc 3) (.int 15)) (.int 2)))])])],
 .ret (.loc 5)]
noncomputable def ps83:List aw:=["p","q"]
noncomputable def nm83:List aw:=["p","q","low"]
noncomputable def c83:List S:=
 [.assign (.loc 2) (.bin .Mod (.bin .FloorDiv (.loc 0) (.int 3)) (.int 65536)),
 .ite (.cmp .Eq (.bin .Mod (.loc 0) (.int 3)) (.int 0))
  [.ret .none]
  [],
 .ret (.ifx (.cmp .Eq (.bin .Mod (.loc 0) (.int 3)) (.int 2)) (.tup [(.loc 2),(.bin .Add (.loc 2) (.bin .Mod (.loc 1) (.bin .Sub (.int 65536) (.loc 2))))]) (.tup [(.loc 2),(.loc 2)]))]
noncomputable def ps84:List aw:=["form","low","bits","m","literals","names"]
noncomputable def nm84:List aw:=["form","low","bits","m","literals","names","wide","key"]
noncomputable def c84:List S:=
 [.ite (.cmp .Eq (.loc 0) (.int 0))
  [.ret .none]
  [],
 .ite (.cmp .Eq (.loc 0) (.int 1))
  [.ret (.tup [(.str "span"),(.loc 1),(.loc 1)])]
  [],
 .ite (.cmp .Eq (.loc 0) (.int 2))
  [.ret (.tup [(.str "span"),(.loc 1),(.bin .Add (.loc 1) (.bin .Mod (.loc 3) (.bin .Sub (.bin .Pow (.int 2) (.loc 2)) (.loc 1))))])]
  [],
 .ite (.cmp .Eq (.loc 0) (.int 3))
  [.assign (.loc 6) (.bin .Pow (.int 2) (.bin .Sub (.loc 2) (.bin .Mod (.loc 3) (.bin .Add (.loc 2) (.int 1))))),
  .ret (.tup [(.str "net"),(.bin .Mult (.bin .FloorDiv (.loc 1) (.loc 6)) (.loc 6)),(.bin .Mod (.loc 3) (.bin .Add (.loc 2) (.int 1)))])]
  [],
 .assign (.loc 7) (.tup [(.str "field"),(.bin .Add (.str "meta ") (.sub (.loc 5) (.int 0)))]),
 .ite (.cmp .Eq (.call (.fn "len" (.bi "len")) [(.loc 5)]) (.int 2))
  [.assign (.loc 7) (.tup [(.str "concat"),(.tup [(.loc 7),(.tup [(.str "field"),(.bin .Add (.str "meta ") (.sub (.loc 5) (.int 1)))])])])]
  [],
 .ite (.cmp .Eq (.loc 0) (.int 4))
  [.ret (.tup [(.str "map"),(.loc 7),(.tup [(.str "map"),(.call (.fn "tuple" (.ty "tuple")) [(.call (.fn "sorted" (.bi "sorted")) [(.loc 4)])])])])]
  [],
 .ret (.tup [(.str "map"),(.loc 7),(.tup [(.str "ref"),(.bin .Add (.str "n") (.call (.fn "str" (.ty "str")) [(.bin .Mod (.loc 3) (.int 10))]))])])]
noncomputable def ps85:List aw:=["reg","other","ends","many","is_twice"]
noncomputable def nm85:List aw:=["reg","other","ends","many","is_twice","low","high","puts"]
noncomputable def c85:List S:=
 [.assign (.tup [5,6]) (.loc 2),
 .ite (.bop true [(.cmp .Eq (.loc 5) (.loc 6)),(.not (.loc 4))])
  [.ret (.tup [(.lst [(.lst [(.tup [(.str "immediate"),(.loc 0),(.call (.fn "_law_octets" (.user 81)) [(.loc 5),(.loc 3)])])])]),(.lst [(.loc 0),(.loc 0)])])]
  [],
 .assign (.loc 7) (.lst [(.lst [(.tup [(.str "immediate"),(.loc 0),(.call (.fn "_law_octets" (.user 81)) [(.loc 5),(.loc 3)])])]),(.lst [(.tup [(.str "immediate"),(.loc 1),(.call (.fn "_law_octets" (.user 81)) [(.loc 6),(.loc 3)])])])]),
 .ret (.tup [(.loc 7),(.lst [(.loc 0),(.loc 1)])])]
noncomputable def ps86:List aw:=["k","base","script","sets"]
noncomputable def nm86:List aw:=[(aa "k"),(aa "base"),(aa "script"),(aa "sets"),(aa "c"),(aa "low"),(aa "m"),(aa "p"),(aa "q"),(aa "r"),(aa "s"),(aa "form"),(aa "bits"),(aa "kind"),(aa "nfproto"),(aa "flags"),(aa "is_ported"),(aa "ports"),(aa "names"),(aa "literals"),(aa "addresses"),(aa "size"),(aa "a"),(aa "b"),(aa "other"),(aa "is_twice"),(aa "groups"),(aa "places"),(aa "more"),(aa "name"),(aa "at"),(aa "group"),(aa "layout"),(aa "ends"),(aa "puts"),(aa "turn"),(aa "rows"),(aa "told"),(aa "due")]
noncomputable def d86a:List S:=[.assign (.tup [4,5,6,7,8,9,10]) (.comp ["j"] [1,2,0] (.bin .Add (.sub (.loc 1) (.loc 0)) (.call (.fn "_law_digit" (.user 80)) [(.loc 2),(.bin .Add (.bin .Mult (.int 7) (.loc 3)) (.loc 0))])) 0 (.call (.fn "range" (.ty "range")) [(.int 7)]) none),.assign (.loc 11) (.bin .Mod (.loc 4) (.int 8)),.assign (.loc 12) (.sub (.lst [(.int 32),(.int 128)]) (.bin .Mod (.bin .FloorDiv (.loc 4) (.int 128)) (.int 2))),.assign (.loc 5) (.bin .Mod (.loc 5) (.bin .Pow (.int 2) (.loc 12))),.assign (.loc 13) (.sub (.lst [(.str "snat"),(.str "dnat")]) (.bin .Mod (.bin .FloorDiv (.loc 4) (.int 8)) (.int 2))),.assign (.loc 14) (.sub (.lst [(.int 2),(.int 10)]) (.bin .FloorDiv (.loc 12) (.int 128))),.ite (.bop true [(.cmp .Eq (.loc 11) (.int 0)),(.cmp .Gt (.bin .Mod (.bin .FloorDiv (.loc 4) (.int 8)) (.int 4)) (.int 1))]) [.assign (.tup [13,14]) (.tup [(.sub (.lst [(.str "masquerade"),(.str "redirect")]) (.bin .Mod (.bin .FloorDiv (.loc 4) (.int 8)) (.int 2))),(.int 0)])] [],.assign (.loc 15) (.sub (.lst [(.tup []),(.tup [(.str "random")]),(.tup [(.str "persistent")]),(.tup [(.str "random"),(.str "persistent")])]) (.bin .Mod (.bin .FloorDiv (.loc 4) (.int 32)) (.int 4))),.assign (.loc 16) (.bop true [(.cmp .Gt (.loc 11) (.int 3)),(.cmp .Eq (.bin .Mod (.bin .FloorDiv (.loc 10) (.int 24)) (.int 2)) (.int 1))]),.assign (.loc 17) (.ifx (.loc 16) .none (.call (.fn "_law_ports" (.user 83)) [(.loc 7),(.loc 8)])),.assign (.loc 18) (.ifx (.bop true [(.cmp .Eq (.loc 11) (.int 5)),(.cmp .Eq (.bin .Mod (.loc 8) (.int 2)) (.int 1))]) (.lst [(.str "mark"),(.str "iif")]) (.lst [(.str "mark")])),.assign (.loc 19) (.call (.fn "_law_literals" (.user 82)) [(.loc 5),(.loc 12),(.loc 6),(.loc 8),(.loc 16)]),.assign (.loc 20) (.call (.fn "_law_addresses" (.user 84)) [(.loc 11),(.loc 5),(.loc 12),(.loc 6),(.loc 19),(.loc 18)]),.assign (.loc 21) (.ifx (.cmp .Eq (.loc 11) (.int 0)) (.int 0) (.bin .FloorDiv (.loc 12) (.int 8))),.assign (.tup [22,23,24]) (.ifx (.cmp .Eq (.bin .Mod (.loc 9) (.int 2)) (.int 0)) (.tup [(.int 0),(.int 8),(.int 9)]) (.tup [(.bin .Mod (.bin .FloorDiv (.loc 9) (.int 2)) (.int 5)),(.bin .Add (.int 12) (.bin .Mod (.bin .FloorDiv (.loc 9) (.int 10)) (.int 2))),(.bin .Add (.int 14) (.bin .Mod (.bin .FloorDiv (.loc 9) (.int 20)) (.int 2)))])),.assign (.loc 25) (.cmp .Eq (.bin .Mod (.bin .FloorDiv (.loc 10) (.int 4)) (.int 2)) (.int 1))]
noncomputable def d86b:List S:=[.assign (.tup [26,27,28]) (.tup [(.lst []),(.lst [(.neg (.int 1)),(.neg (.int 1))]),(.lst [(.neg (.int 1)),(.neg (.int 1))])]),.ite (.cmp .Gt (.loc 11) (.int 3)) [.assign (.loc 29) (.ifx (.cmp .Eq (.loc 11) (.int 4)) (.bin .Add (.str "s") (.call (.fn "str" (.ty "str")) [(.loc 0)])) (.sub (.sub (.loc 20) (.int 2)) (.int 1))),.ite (.cmp .Eq (.loc 11) (.int 4)) [.setitem (.loc 3) (.loc 29) (.call (.fn "set_of" (.user 79)) [(.loc 29),(.tup [(.int 32)]),(.call (.fn "tuple" (.ty "tuple")) [(.loc 19)]),(.bool true)])] [],.assign (.loc 30) (.bin .Add (.loc 22) (.bin .Mod (.bin .FloorDiv (.loc 10) (.int 4)) (.int 2))),.assign (.loc 31) (.comp ["j"] [30,18] (.tup [(.str "meta"),(.bin .Add (.loc 1) (.loc 0)),(.sub (.loc 2) (.loc 0)),(.int 4),(.str "host")]) 0 (.call (.fn "range" (.ty "range")) [(.call (.fn "len" (.bi "len")) [(.loc 18)])]) none),.assign (.loc 32) (.ifx (.loc 16) (.tup [(.tup [(.loc 21),(.str "big")]),(.tup [(.int 2),(.str "big")])]) (.tup [(.tup [(.loc 21),(.str "big")])])),.assign (.loc 26) (.lst [(.bin .Add (.loc 31) (.lst [(.tup [(.str "map"),(.loc 30),(.bin .Mult (.tup [(.tup [(.int 4),(.str "host")])]) (.call (.fn "len" (.bi "len")) [(.loc 18)])),(.loc 29),(.loc 22),(.loc 32)])]))]),.assign (.loc 27) (.lst [(.loc 22),(.loc 22)]),.ite (.loc 16) [.assign (.loc 28) (.lst [(.bin .Add (.loc 22) (.bin .FloorDiv (.loc 21) (.int 4))),(.bin .Add (.loc 22) (.bin .FloorDiv (.loc 21) (.int 4)))])] []] [.ite (.cmp .Gt (.loc 11) (.int 0)) [.assign (.loc 33) (.tup [(.sub (.loc 20) (.int 1)),(.sub (.loc 20) (.int 2))]),.ite (.cmp .Eq (.loc 11) (.int 3)) [.assign (.loc 33) (.tup [(.sub (.loc 20) (.int 1)),(.bin .Sub (.bin .Add (.sub (.loc 20) (.int 1)) (.bin .Pow (.int 2) (.bin .Sub (.loc 12) (.sub (.loc 20) (.int 2))))) (.int 1))])] [],.assign (.tup [26,27]) (.call (.fn "_law_pair" (.user 85)) [(.loc 22),(.bin .Add (.loc 22) (.bin .FloorDiv (.loc 21) (.int 4))),(.loc 33),(.loc 21),(.loc 25)])] []]]
noncomputable def d86c:List S:=[.ite (.cmp .IsNot (.loc 17) .none) [.assign (.tup [34,28]) (.call (.fn "_law_pair" (.user 85)) [(.loc 23),(.loc 24),(.loc 17),(.int 2),(.loc 25)]),.assign (.loc 26) (.bin .Add (.loc 26) (.loc 34))] []]
noncomputable def d86d:List S:=[.assign (.loc 35) (.bin .Mod (.loc 10) (.call (.fn "max" (.bi "max")) [(.int 1),(.call (.fn "len" (.bi "len")) [(.loc 26)])])),.assign (.loc 36) (.lst []),.for_ (.loc 31) (.bin .Add (.slc (.loc 26) (some (.loc 35)) none) (.slc (.loc 26) none (some (.loc 35)))) [.assign (.loc 36) (.bin .Add (.loc 36) (.loc 31))]]
noncomputable def d86e:List S:=[.assign (.loc 37) (.loc 15),.ite (.cmp .Eq (.loc 11) (.int 3)) [.assign (.loc 37) (.bin .Add (.bin .Add (.slc (.loc 15) none (some (.bin .Mod (.bin .FloorDiv (.loc 10) (.int 8)) (.int 3)))) (.tup [(.str "netmap")])) (.slc (.loc 15) (some (.bin .Mod (.bin .FloorDiv (.loc 10) (.int 8)) (.int 3))) none))] [],.expr (.meth (.loc 36) "append" [(.tup [(.str "nat"),(.loc 13),(.loc 14),(.sub (.loc 27) (.int 0)),(.sub (.loc 27) (.int 1)),(.loc 21),(.sub (.loc 28) (.int 0)),(.sub (.loc 28) (.int 1)),(.loc 37)])]),.assign (.loc 38) (.lst [(.tup [(.bin .Sub (.call (.fn "len" (.bi "len")) [(.loc 36)]) (.int 1)),(.tup [(.str "nat"),(.loc 13),(.loc 14),(.loc 20),(.loc 17),(.loc 15)])])]),.ite (.cmp .Eq (.bin .Mod (.bin .FloorDiv (.loc 4) (.int 256)) (.int 2)) (.int 1)) [.ite (.cmp .Eq (.loc 11) (.int 2)) [.assign (.loc 20) (.tup [(.str "span"),(.loc 5),(.loc 5)])] [],.ite (.cmp .Eq (.loc 11) (.int 3)) [.assign (.loc 20) (.tup [(.str "net"),(.sub (.loc 20) (.int 1)),(.loc 12)])] [],.expr (.meth (.loc 36) "append" [(.tup [(.str "nat"),(.str "dnat"),(.loc 14),(.sub (.loc 27) (.int 0)),(.sub (.loc 27) (.int 0)),(.loc 21),(.neg (.int 1)),(.neg (.int 1)),(.loc 37)])]),.expr (.meth (.loc 38) "append" [(.tup [(.bin .Sub (.call (.fn "len" (.bi "len")) [(.loc 36)]) (.int 1)),(.tup [(.str "nat"),(.str "dnat"),(.loc 14),(.loc 20),.none,(.loc 15)])])])] [],.ret (.tup [(.loc 36),(.loc 38)])]
noncomputable def c86:List S:=d86a++(d86b++(d86c++(d86d++(d86e))))
noncomputable def ps87:List aw:=["base","script","k","order"]
noncomputable def nm87:List aw:=["base","script","k","order","c","n","m","p","q","row","number","rows","octets","op"]
noncomputable def c87:List S:=
 [.assign (.tup [4,5,6,7,8]) (.comp ["j"] [0,1,2] (.bin .Add (.sub (.loc 1) (.loc 0)) (.call (.fn "_law_digit" (.user 80)) [(.loc 2),(.bin .Add (.bin .Mult (.int 7) (.loc 3)) (.loc 0))])) 0 (.call (.fn "range" (.ty "range")) [(.int 5)]) none),
 .ite (.cmp .Eq (.bin .Mod (.loc 4) (.int 8)) (.int 6))
  [.assign (.loc 9) (.tup [(.sub (.lst [(.str "expect"),(.str "flow")]) (.bin .Mod (.loc 6) (.int 2))),(.bin .Add (.str "o") (.call (.fn "str" (.ty "str")) [(.bin .Mod (.loc 8) (.int 10))]))]),
  .ret (.tup [(.lst [(.loc 9)]),(.lst [(.tup [(.int 0),(.loc 9)])])])]
  [],
 .ite (.cmp .Eq (.bin .Mod (.loc 6) (.int 2)) (.int 0))
  [.assign (.loc 10) (.sub (.lst [(.int 6),(.int 17),(.int 1),(.int 58)]) (.bin .Mod (.loc 8) (.int 4))),
  .assign (.loc 11) (.lst [(.tup [(.str "meta"),(.int 0),(.str "l4proto"),(.int 1),(.str "big")]),(.tup [(.str "cmp"),(.str "=="),(.int 0),(.call (.fn "bytes" (.ty "bytes")) [(.lst [(.loc 10)])])])]),
  .ret (.tup [(.loc 11),(.lst [(.tup [(.int 1),(.tup [(.str "match"),(.tup [(.str "field"),(.str "meta l4proto")]),(.str "=="),(.tup [(.str "num"),(.loc 10)])])])])])]
  [],
 .assign (.loc 12) (.call (.fn "_law_octets" (.user 81)) [(.bin .Mod (.loc 5) (.bin .Pow (.int 2) (.int 32))),(.int 4)]),
 .ite (.cmp .Eq (.loc 3) (.str "little"))
  [.assign (.loc 12) (.call (.fn "bytes" (.ty "bytes")) [(.lst [(.sub (.loc 12) (.int 3)),(.sub (.loc 12) (.int 2)),(.sub (.loc 12) (.int 1)),(.sub (.loc 12) (.int 0))])])]
  [],
 .assign (.loc 13) (.sub (.lst [(.str "=="),(.str "!=")]) (.bin .Mod (.loc 8) (.int 2))),
 .assign (.loc 11) (.lst [(.tup [(.str "meta"),(.bin .Mod (.loc 7) (.int 16)),(.str "mark"),(.int 4),(.str "host")]),(.tup [(.str "cmp"),(.loc 13),(.bin .Mod (.loc 7) (.int 16)),(.loc 12)])]),
 .ret (.tup [(.loc 11),(.lst [(.tup [(.int 1),(.tup [(.str "match"),(.tup [(.str "field"),(.str "meta mark")]),(.loc 13),(.tup [(.str "num"),(.bin .Mod (.loc 5) (.bin .Pow (.int 2) (.int 32)))])])])])])]
noncomputable def ps88:List aw:=["script","order"]
noncomputable def nm88:List aw:=["script","order","base","sets","rows","due","k","at","statement","more","statements","reading","backs","row","back_one"]
noncomputable def d88a:List S:=[.assign (.loc 2) (.lst [(.tup [(.int 227),(.int 42540766464122081094298350666160367223),(.int 56),(.int 0),(.int 0),(.int 0),(.int 16)]),(.tup [(.int 7),(.int 287454020),(.int 0),(.int 0),(.int 0),(.int 0),(.int 0)])]),.assign (.loc 2) (.bin .Add (.loc 2) (.lst [(.tup [(.int 298),(.int 3325256725),(.int 20),(.int 12002),(.int 99),(.int 27),(.int 1)]),(.tup [(.int 76),(.int 167772260),(.int 143),(.int 0),(.int 19),(.int 0),(.int 24)])])),.assign (.loc 2) (.bin .Add (.loc 2) (.lst [(.tup [(.int 133),(.int 65152),(.int 4),(.int 24241),(.int 1),(.int 3),(.int 5)]),(.tup [(.int 48),(.int 0),(.int 0),(.int 3074),(.int 64511),(.int 0),(.int 0)])])),.assign (.loc 3) .edct,.assign (.loc 4) (.lst []),.assign (.loc 5) (.lst [])]
noncomputable def d88b:List S:=[.for_ (.loc 6) (.call (.fn "range" (.ty "range")) [(.int 6)]) [.ite (.cmp .Lt (.bin .Mod (.bin .Add (.sub (.sub (.loc 2) (.loc 6)) (.int 0)) (.call (.fn "_law_digit" (.user 80)) [(.loc 0),(.bin .Mult (.int 7) (.loc 6))])) (.int 8)) (.int 6)) [.assign (.tup [9,10]) (.call (.fn "_law_nat" (.user 86)) [(.loc 6),(.sub (.loc 2) (.loc 6)),(.loc 0),(.loc 3)])] [.assign (.tup [9,10]) (.call (.fn "_law_rest" (.user 87)) [(.sub (.loc 2) (.loc 6)),(.loc 0),(.loc 6),(.loc 1)])],.for_ (.tup [7,8]) (.loc 10) [.expr (.meth (.loc 5) "append" [(.tup [(.bin .Add (.call (.fn "len" (.bi "len")) [(.loc 4)]) (.loc 7)),(.loc 8)])])],.assign (.loc 4) (.bin .Add (.loc 4) (.loc 9))],.assign (.loc 11) (.call (.fn "Reading" (.cls 3)) [.edct,(.str "inet"),(.loc 3)]),.setattr (.loc 11) "order" (.loc 1),.assign (.loc 12) (.call (.fn "back_nat" (.user 39)) []),.expr (.meth (.loc 12) "update" [(.dfn [("immediate","back_immediate",(.user 32)),("meta","back_meta",(.user 31)),("cmp","back_cmp",(.user 34)),("map","back_map",(.user 35))])]),.for_ (.loc 13) (.loc 4) [.assign (.loc 14) (.sub (.loc 12) (.sub (.loc 13) (.int 0))),.expr (.call (.loc 14) [(.loc 11),(.loc 13)]),.augattr (.loc 11) "at" .Add (.int 1)],.expr (.call (.fn "flush" (.user 22)) [(.loc 11)]),.ret (.bop true [(.cmp .Eq (.attr (.loc 11) "statements") (.loc 5)),(.cmp .Eq (.attr (.loc 11) "pending") (.lst [])),(.cmp .Eq (.attr (.loc 11) "dropped") (.lst []))])]
noncomputable def c88:List S:=d88a++(d88b)
noncomputable def ps89:List aw:=["script","at","k","base"]
noncomputable def nm89:List aw:=["script","at","k","base","gaps","low","high","port_low","port_high","reading","numbers","reg","asked","due","addresses","ports","why","fault"]
noncomputable def c89:List S:=
 [.assign (.tup [4,5,6,7,8]) (.comp ["j"] [3,0,1] (.bin .Add (.sub (.loc 1) (.loc 0)) (.call (.fn "_law_digit" (.user 80)) [(.loc 2),(.bin .Add (.loc 3) (.loc 0))])) 0 (.call (.fn "range" (.ty "range")) [(.int 5)]) none),
 .assign (.tup [5,6,7,8]) (.tup [(.bin .Sub (.bin .Mod (.loc 5) (.int 7)) (.int 1)),(.bin .Mod (.loc 6) (.int 6)),(.bin .Sub (.bin .Mod (.loc 7) (.int 7)) (.int 1)),(.bin .Mod (.loc 8) (.int 6))]),
 .assign (.loc 9) (.call (.fn "Reading" (.cls 3)) [.edct,(.str "ip"),.edct]),
 .setattr (.loc 9) "at" (.bin .Add (.int 7) (.loc 2)),
 .assign (.loc 10) .edct,
 .for_ (.loc 11) (.call (.fn "range" (.ty "range")) [(.int 5)])
  [.ite (.cmp .Eq (.bin .Mod (.bin .FloorDiv (.loc 4) (.bin .Pow (.int 2) (.loc 11))) (.int 2)) (.int 0))
   [.setitem (.loc 10) (.loc 11) (.bin .Mod (.bin .Add (.bin .Add (.int 2712847316) (.bin .Mult (.int 16843009) (.loc 11))) (.bin .FloorDiv (.loc 4) (.int 32))) (.bin .Pow (.int 2) (.int 32))),
   .expr (.call (.fn "back_immediate" (.user 32)) [(.loc 9),(.tup [(.str "immediate"),(.loc 11),(.call (.fn "_law_octets" (.user 81)) [(.sub (.loc 10) (.loc 11)),(.int 4)])])])]
   []],
 .assign (.loc 12) (.comp2 ["one","reg"] [] (.loc 1) 0 (.lst [(.tup [(.loc 5),(.loc 6)]),(.tup [(.loc 7),(.loc 8)])]) (.cmp .GtE (.sub (.loc 0) (.int 0)) (.int 0)) 1 (.loc 0)),
 .assign (.loc 13) (.tup [(.str "a register that nothing was put into"),(.lst [])]),
 .ite (.call (.fn "all" (.bi "all")) [(.comp ["reg"] [10] (.cmp .In (.loc 0) (.loc 1)) 0 (.loc 12) none)])
  [.assign (.loc 14) (.ifx (.cmp .Lt (.loc 5) (.int 0)) .none (.tup [(.str "span"),(.sub (.loc 10) (.loc 5)),(.sub (.loc 10) (.loc 6))])),
  .assign (.loc 15) (.ifx (.cmp .Lt (.loc 7) (.int 0)) .none (.tup [(.sub (.loc 10) (.loc 7)),(.sub (.loc 10) (.loc 8))])),
  .assign (.loc 13) (.tup [(.str ""),(.lst [(.tup [(.bin .Add (.int 7) (.loc 2)),(.tup [(.str "nat"),(.str "snat"),(.int 2),(.loc 14),(.loc 15),(.tup [(.str "random")])])])])])]
  [],
 .assign (.loc 16) (.str ""),
 .tryWhy (.call (.fn "back_nat_row" (.user 38)) [(.loc 9),(.tup [(.str "nat"),(.str "snat"),(.int 2),(.loc 5),(.loc 6),(.int 4),(.loc 7),(.loc 8),(.tup [(.str "random")])])]) 17 16,
 .ret (.cmp .Eq (.tup [(.loc 16),(.attr (.loc 9) "statements")]) (.loc 13))]
noncomputable def ps90:List aw:=["script"]
noncomputable def nm90:List aw:=["script","base","k"]
noncomputable def c90:List S:=
 [.ite (.not (.call (.fn "_law_rule_holds" (.user 88)) [(.loc 0),(.sub (.lst [(.str "little"),(.str "big")]) (.bin .Mod (.call (.fn "_law_digit" (.user 80)) [(.loc 0),(.int 62)]) (.int 2)))]))
  [.ret (.bool false)]
  [],
 .assign (.loc 1) (.lst [(.tup [(.int 0),(.int 3),(.int 0),(.int 5),(.int 2)]),(.tup [(.int 9),(.int 2),(.int 1),(.int 0),(.int 4)]),(.tup [(.int 0),(.int 0),(.int 3),(.int 3),(.int 5)]),(.tup [(.int 4),(.int 3),(.int 3),(.int 5),(.int 0)])]),
 .for_ (.loc 2) (.call (.fn "range" (.ty "range")) [(.int 4)])
  [.ite (.not (.call (.fn "_law_hand_holds" (.user 89)) [(.loc 0),(.bin .Add (.int 42) (.bin .Mult (.int 5) (.loc 2))),(.loc 2),(.sub (.loc 1) (.loc 2))]))
   [.ret (.bool false)]
   []],
 .ret (.bool true)]
end
section
open PySem PySem.W PyProof.Rows PySem.Calls
theorem tQ {α:Type} {o:Option α} {p:α->Bool} (h:o.any p=true):∃x,o=some x/\p x=true:=by
 cases o with
 |none=>exact bS h
 |some x=>exact ⟨x,rfl,h⟩
theorem vQ {α β:Type} {o:Option α} {f:α->Option β} {y:β} (h:o.bind f=some y):∃x,o=some x/\f x=some y:=by
 cases o with
 |none=>exact (cV h).elim
 |some x=>exact ⟨x,rfl,h⟩
noncomputable def fdOf (K:gk) (a:aI):Option xZ:=(K.lookup a).bind λ o=>match o.data with
 |.func fd=>some fd
 |_=>none
theorem GM {K:gk} (h:fdOf K a=some fd):∃o,K.lookup a=some o/\o.data=.func fd:=by
 refine aL (vQ h) λ o e h=>⟨o,e,?_⟩
 generalize o.data=d at h
 cases d<;>first|exact congrArg Data.func (ac h)|exact (cV h).elim
noncomputable def flOf (K:gk) (v:av):Option (Array av):=match v with
 |.ref a=>(K.lookup a).bind λ o=>match o.data with
  |.fields vs=>some vs
  |_=>none
 |_=>none
theorem HK {K:gk} (h:flOf K v=some vs):∃a o,v=.ref a/\K.lookup a=some o/\o.data=.fields vs:=by
 cases v<;>first|exact (cV h).elim|skip
 refine aL (vQ h) λ o e h=>⟨_,o,rfl,e,?_⟩
 generalize o.data=d at h
 cases d<;>first|exact congrArg sj (ac h)|exact (cV h).elim
noncomputable def strIs (q:aw) (o:Option av):Bool:=match o with
 |some (.str q1 _)=>q1==q
 |_=>false
theorem EV (h:strIs q o=true):∃t,o=some (.str q t):=by
 cases o with
 |none=>exact bS h
 |some v=>cases v<;>first|exact ⟨_,congrArg (λ q=>some (Value.str q _)) (eq_of_beq h)⟩|exact bS h
noncomputable def codeChk (K:gk) (cd:av) (q:aw):Bool:=(flOf K cd).any λ vs=>strIs q vs[1]?
theorem xl {K:gk} (X:K.In h) (e:codeChk K cd q=true):h.CodeRec cd q:=by
 refine aL (tQ e) λ vs e1 e2=>(cu (HK e1) λ a o r1_ e3 e4=>?_)
 subst r1_
 exact bu (EV e2) λ t e5=>⟨a,o,vs,t,rfl,X _ _ e3,e4,e5⟩
noncomputable def stOf (K:gk) (a:aI):Option (List lB):=(fdOf K a).bind λ fd=>match fd.body with
 |.stmts b=>some b
 |_=>none
theorem G5 {K:gk} (h:stOf K a=some b) (e:fdOf K a=some fd):fd.body=.stmts b:=by
 refine aL (vQ h) λ fd' e' h=>?_
 (have e_:=ac (e.symm.trans e');subst e_)
 generalize fd.body=d at h⊢
 cases d<;>first|exact congrArg FuncBody.stmts (ac h)|exact (cV h).elim
noncomputable def parChk (fd:xZ) (ps nm:List aw):Bool:=
 fd.globals==di&&(fd.builtins==lC&&(fd.closure.isEmpty&&(fd.scope.kind==.function&&(!fd.scope.isCoroutine&&(!fd.scope.isGenerator&&
  (fd.params.posonlyargs.isEmpty&&(fd.params.vararg.isNone&&(fd.params.kwonlyargs.isEmpty&&(fd.params.kwarg.isNone&&(fd.params.args.map (·.arg)==ps&&(decide nm.Nodup&&(nm.take ps.length==ps&&
   nm.all λ x=>fd.scope.names.lookup x==some .local||fd.scope.names.lookup x==some .cell))))))))))))
noncomputable def fnChk1 (gl:GL) (K:gk) (a:aI) (ps nm:List aw) (t:PT) (body:List S):Bool:=(fdOf K a).any λ fd=>codeChk K fd.code fd.qualname&&(parChk fd ps nm&&okSs gl fd.scope nm body t)
noncomputable def noDf (K:gk) (a:aI):Bool:=(fdOf K a).any λ fd=>fd.defaults==.none
noncomputable def pN (p:Bx) (l r:PT):PT:=.n p 0 PT.nil.s PT.nil.x l r
noncomputable def pL (l r:PT):PT:=pN PT.nil.p l r
noncomputable def pE:Nat->Expr->PT
 |0,_=>.nil
 |n+1,x=>match x with
  |.Constant _ k p=>.n p k PT.nil.s PT.nil.x .nil .nil
  |.Name _ p=>pN p .nil .nil
  |.UnaryOp _ a p=>pN p (pE n a) .nil
  |.BinOp a _ b p=>pN p (pE n a) (pE n b)
  |.Compare a _ bs p=>pN p (pE n a) (bs.foldr (λ x Z=>pE n x) .nil)
  |.BoolOp _ es p=>pN p (es.foldr (λ x=>pL (pE n x)) .nil) .nil
  |.IfExp c b o p=>pN p (pE n c) (pL (pE n b) (pE n o))
  |.Tuple es k p=>.n p k PT.nil.s PT.nil.x (es.foldr (λ x=>pL (pE n x)) .nil) .nil
  |.List es p=>pN p (es.foldr (λ x=>pL (pE n x)) .nil) .nil
  |.Dict ks vs p=>pN p (ks.foldr (λ x=>pL (x.elim .nil (pE n))) .nil) (vs.foldr (λ x=>pL (pE n x)) .nil)
  |.Subscript a i p=>pN p (pE n a) (pE n i)
  |.Slice lo hi _ p=>pN p (lo.elim .nil (pE n)) (hi.elim .nil (pE n))
  |.Attribute a _ p=>pN p (pE n a) .nil
  |.Call f as _ p=>pN p (pE n f) (as.foldr (λ x=>pL (pE n x)) .nil)
  |.ListComp el gs s p=>.n p 0 s PT.nil.x (pE n el) (match gs with
   |[g]=>pN g.target.pos (pE n g.iter) (g.ifs.foldr (λ x Z=>pE n x) .nil)
   |[g,g2]=>pN g.target.pos (pE n g.iter) (pN g2.target.pos (g.ifs.foldr (λ x Z=>pE n x) .nil) (pE n g2.iter))
   |_=>.nil)
  |_=>.nil
noncomputable def pS:Nat->lB->PT
 |0,_=>.nil
 |n+1,x=>match x with
  |.Assign ts v p=>pN p (ts.foldr (λ x Z=>pE n x) .nil) (pE n v)
  |.AugAssign x _ v p=>pN p (pE n x) (pE n v)
  |.If c b o p=>pN p (pE n c) (pL (b.foldr (λ x=>pL (pS n x)) .nil) (o.foldr (λ x=>pL (pS n x)) .nil))
  |.While c b _ p=>pN p (pE n c) (b.foldr (λ x=>pL (pS n x)) .nil)
  |.For x it b _ p=>pN p (pE n x) (pL (pE n it) (b.foldr (λ x=>pL (pS n x)) .nil))
  |.Return o p=>pN p (o.elim .nil (pE n)) .nil
  |.Expr e p=>pN p (pE n e) .nil
  |.Raise o _ p=>.n p 0 PT.nil.s x (o.elim .nil (pE n)) .nil
  |.Try b hs _ _ p=>pN p (b.foldr (λ x Z=>pS n x) .nil) (match hs with
   |[.ExceptHandler ty _ [a] hp]=>pL (pN hp (ty.elim .nil (pE n)) .nil) (pS n a)
   |_=>.nil)
  |x=>.n x.pos 0 PT.nil.s x .nil .nil
noncomputable def pSs (b:List lB):PT:=b.foldr (λ x=>pL (pS 60 x)) .nil
end
section
open PySem PySem.W
structure yJ (tb:on):Prop where
 m:∀f us H (Q Q':V->MH->Prop) (X X':aw->MH->Prop),(∀u H,Q u H->Q' u H)->(∀w H,X w H->X' w H)->tb.spec f us H Q X->tb.spec f us H Q' X'
theorem db (k:∀u H,Q u H->Q' u H):∀u H,fe tst Q u H->fe tst Q' u H:=λ u H h=>by
 cases tst with
 |false=>exact k _ _ h
 |true=>exact yD (λ Z=>k _ _) id h
theorem i0 {α:Type} {P:α->Prop}:∀x,P x->P x:=λ Z h=>h
theorem i2 {α β:Type} {P:α->β->Prop}:∀x y,P x y->P x y:=λ Z Z h=>h
theorem i3 {α β γ:Type} {P:α->β->γ->Prop}:∀x y z,P x y z->P x y z:=λ Z Z Z h=>h
theorem zN {op u v H} (k:∀u H,Q u H->Q' u H):binV op u v H Q->binV op u v H Q':=by
 cases op with
 |Add=>exact gh (λ Z=>gh (λ Z=>k _ _) i0 i0 i0) (λ Z=>gh i0 (λ Z h=>⟨h.1,k _ _ h.2⟩) i0 i0) (λ Z=>gh i0 i0 (λ Z h=>⟨h.1,k _ _ h.2⟩) i0) λ Z=>gh i0 i0 i0 λ Z=>o7 (λ Z=>o7 (λ Z h=>⟨h.1,λ c hc=>k _ _ (h.2 c hc)⟩) i0 i2 i0 id i3) i0 i2 i0 id i3
 |Mult=>exact gh (λ Z=>gh (λ Z h=>⟨h.1,k _ _ h.2⟩) i0 (λ Z=>GP λ Z h=>⟨h.1,k _ _ h.2⟩) i0) i0 i0 i0
 |_=>first
  |exact id
  |exact xN (λ Z Z=>k _ _)
  |exact xN (λ Z Z q=>⟨q.1,k _ _ q.2⟩)
  |exact xN (λ Z Z=>rZ (k _ _))
  |exact xN (λ Z Z=>wD (k _ _) λ q=>⟨q.1,k _ _ q.2⟩)
theorem vg {u v H} (k:∀b,Q b->Q' b):Ig u v H Q->Ig u v H Q':=yD k (Gi λ Z=>Gi λ Z h=>⟨h.1,h.2.1,k _ h.2.2⟩)
theorem wF {u v H} (k:∀b,Q b->Q' b):inV u v H Q->inV u v H Q':=
 gh (λ Z=>gh i0 i0 i0 λ Z=>o7 i0 i0 (λ Z Z=>k _) i0 (k _) i3) (λ Z=>gh i0 i0 (λ Z ⟨ss,e,q⟩=>⟨ss,e,k _ q⟩) λ Z=>o7 i0 (λ Z=>k _) i2 i0 (k _) i3) i0 i0
theorem wt {u v} (k:∀b,Q b->Q' b):J3 u v Q->J3 u v Q':=by
 cases v with
 |none=>exact yD k id
 |_=>exact id
theorem AY {op u v H} (k:∀b,Q b->Q' b):cmpV op u v H Q->cmpV op u v H Q':=by
 cases op
 ·exact vg k
 ·exact vg (λ b=>k _)
 all_goals first
  |exact xN (λ Z Z=>k _)
  |exact wF k
  |exact wF (λ b=>k _)
  |exact wt k
  |exact wt (λ b=>k _)
theorem A4 {u i H} (k:∀u H,Q u H->Q' u H):subV u i H Q->subV u i H Q':=by
 have o:∀{o:Option V},w8 o (λ u=>Q u H)->w8 o λ u=>Q' u H:=yN λ Z=>k _ _
 cases u with
 |tuple us=>exact gh (λ Z=>o) i0 i0 i0
 |flist us=>exact gh (λ Z=>o) i0 i0 i0
 |bytes b=>exact gh (λ Z h=>⟨h.1,k _ _ h.2⟩) i0 i0 i0
 |ref a=>exact gh (λ Z=>o7 (λ Z=>o) i0 (λ Z Z=>o) i0 id i3) (λ Z=>o7 i0 (λ Z=>o) i2 i0 id i3) (λ Z=>o7 i0 i0 i2 (λ Z ⟨kk,e,q⟩=>⟨kk,e,o q⟩) id i3) i0
 |_=>exact id
theorem zL {u lo hi H} (k:∀u H,Q u H->Q' u H):slcV u lo hi H Q->slcV u lo hi H Q':=
 gh i0 i0 (λ Z=>tI λ Z h=>⟨h.1,k _ _ h.2⟩) λ Z=>o7 (λ Z=>tI λ Z h=>⟨h.1,λ c hc=>k _ _ (h.2 c hc)⟩) i0 i2 i0 id i3
theorem rY {u n H} (k:∀u H,Q u H->Q' u H):rc u n H Q->rc u n H Q':=gh i0 i0 i0 λ Z=>o7 i0 i0 i2 i0 id λ Z Z Z=>yN λ Z=>k _ _
theorem mK {fl u n w H} (k:∀H,N H->N' H):setattrV fl u n w H N->setattrV fl u n w H N':=gh i0 i0 i0 λ Z=>o7 i0 i0 i2 i0 id λ Z Z Z=>rZ (rZ (k _))
theorem sF {u i w H} (k:∀H,N H->N' H):eH u i w H N->eH u i w H N':=gh i0 i0 i0 λ Z=>
 gh (λ Z=>o7 i0 i0 (λ Z Z h=>⟨h.1,k _ h.2⟩) i0 (k _) i3) (λ Z=>o7 i0 (λ Z h=>⟨h.1,k _ h.2⟩) i2 i0 (k _) i3) (λ Z ⟨kk,e,q⟩=>⟨kk,e,o7 i0 i0 i2 (λ Z h=>⟨h.1,h.2.1,k _ h.2.2⟩) (k _) i3 q⟩) i0
theorem qT (m:yJ tb) {lv f us H} (k:∀u H,Q u H->Q' u H) (kx:∀w H,X w H->X' w H) (h:mL tb lv f us H Q X):mL tb lv f us H Q' X':=by
 cases f with
 |fn g=>
  cases g with
  |cls n=>
   exact FI (λ i=>rZ λ h a d ha=>m.m _ _ _ _ _ _ _ (λ u H q=>⟨q.1,k _ _ q.2⟩) kx (h a d ha)) h
  |_=>exact rZ (m.m _ _ _ _ _ _ _ k kx) h
 |_=>exact h.elim
theorem gX {cond:V->MH->(Bool->MH->Prop)->Prop} (me:∀u H R R',(∀v H,R v H->R' v H)->el u H R->el u H R') (mc:∀u H R R',(∀v H,R v H->R' v H)->cond u H R->cond u H R'):
  ∀{us acc H} {Q Q':List V->MH->Prop},(∀u H,Q u H->Q' u H)->compTurns el cond us acc H Q->compTurns el cond us acc H Q'
 |[],_,_,_,_,k,h=>k _ _ h
 |u::us,_,_,_,_,k,h=>mc _ _ _ _ (λ b H q=>wD (me _ _ _ _ λ v H q=>gX me mc k q) (gX me mc k) q) h
theorem i6 {cond:V->MH->(Bool->MH->Prop)->Prop} (me:∀u w H R R',(∀v H,R v H->R' v H)->el u w H R->el u w H R') (mc:∀u H R R',(∀v H,R v H->R' v H)->cond u H R->cond u H R') (mi:∀u H R R',(∀v,R v->R' v)->fh u H R->fh u H R'):
  ∀{us acc H} {Q Q':List V->MH->Prop},(∀u H,Q u H->Q' u H)->compTurns2 el cond fh us acc H Q->compTurns2 el cond fh us acc H Q'
 |[],_,_,_,_,k,h=>k _ _ h
 |u::us,_,_,_,_,k,h=>mc _ _ _ _ (λ b H q=>wD (mi _ _ _ _ λ v (q:compTurns (el u) (λ Z H2 R=>R true H2) v _ _ _)=>by
   refine gX (me u) ?_ ?_ q
   ·exact λ Z Z Z Z k h=>k _ _ h
   ·exact λ Z Z q=>i6 me mc mi k q) (i6 me mc mi k) q) h
def mE (tb lv) (e:E):=∀⦃tst:Bool⦄⦃ρ:da⦄⦃H:MH⦄⦃Q Q':V->MH->Prop⦄⦃X X':aw->MH->Prop⦄,(∀u H,Q u H->Q' u H)->(∀w H,X w H->X' w H)->wpE tb lv tst e ρ H Q X->wpE tb lv tst e ρ H Q' X'
def NO (tb lv) (es:List E):=∀⦃ρ:da⦄⦃H:MH⦄⦃Q Q':List V->MH->Prop⦄⦃X X':aw->MH->Prop⦄,(∀u H,Q u H->Q' u H)->(∀w H,X w H->X' w H)->wpEs tb lv es ρ H Q X->wpEs tb lv es ρ H Q' X'
def mO (tb lv) (e:Option E):=∀⦃ρ:da⦄⦃H:MH⦄⦃Q Q':V->MH->Prop⦄⦃X X':aw->MH->Prop⦄,(∀u H,Q u H->Q' u H)->(∀w H,X w H->X' w H)->wpO tb lv e ρ H Q X->wpO tb lv e ρ H Q' X'
def mC (tb lv) (e:Option E):=∀⦃ρ:da⦄⦃H:MH⦄⦃Q Q':Bool->MH->Prop⦄,(∀u H,Q u H->Q' u H)->wpC tb lv e ρ H Q->wpC tb lv e ρ H Q'
def mB (tb lv) (c:Bool) (es:List E):=∀⦃ρ:da⦄⦃H:MH⦄⦃Q Q':V->MH->Prop⦄⦃X X':aw->MH->Prop⦄,(∀u H,Q u H->Q' u H)->(∀w H,X w H->X' w H)->wpB tb lv c es ρ H Q X->wpB tb lv c es ρ H Q' X'
def N4 (tb lv) (c:Bool) (es:List E):=∀⦃ρ:da⦄⦃H:MH⦄⦃Q Q':V->MH->Prop⦄⦃X X':aw->MH->Prop⦄,(∀u H,Q u H->Q' u H)->(∀w H,X w H->X' w H)->wpTs tb lv c es ρ H Q X->wpTs tb lv c es ρ H Q' X'
section
variable (m:yJ tb) (lv:Nat)
include m
mutual
theorem bh:∀(e:E),mE tb lv e
 |.none=>λ Z ρ H Q R X Y k Z h=>db k _ _ h
 |.bool b=>λ Z ρ H Q R X Y k Z h=>db k _ _ h
 |.int b=>λ Z ρ H Q R X Y k Z h=>db k _ _ h
 |.str b=>λ Z ρ H Q R X Y k Z h=>db k _ _ h
 |.loc i=>λ Z ρ H Q R X Y k Z h=>yN (λ Z=>db k _ _) h
 |.fn _ f=>λ Z ρ H Q R X Y k Z h=>db k _ _ h
 |.neg a=>λ Z ρ H Q R X Y k kx h=>bh a (λ u H=>Km λ Z=>db k _ _) kx h
 |.bin op a b=>λ Z ρ H Q R X Y k kx h=>bh a (λ u H q=>bh b (λ v H q=>zN (db k) q) kx q) kx h
 |.cmp op a b=>λ Z ρ H Q R X Y k kx h=>bh a (λ u H q=>bh b (λ v H q=>AY (λ Z=>k _ _) q) kx q) kx h
 |.not a=>λ Z ρ H Q R X Y k kx h=>rZ (bh a (λ u H=>r8 λ Z=>k _ _) kx) h
 |.bop c es=>λ tst ρ H Q R X Y k kx h=>by
  cases tst with
  |false=>exact wd c es k kx h
  |true=>exact to c es k kx h
 |.ifx t b o=>λ Z ρ H Q R X Y k kx h=>bh t (λ u H=>r8 λ Z=>wD (bh b k kx) (bh o k kx)) kx h
 |.tup es=>λ Z ρ H Q R X Y k kx h=>kD es (λ us H q=>db k _ _ q) kx h
 |.lst es=>λ Z ρ H Q R X Y k kx h=>kD es (λ us H q c hc=>db k _ _ (q c hc)) kx h
 |.edct=>λ Z ρ H Q R X Y k kx h=>λ c hc=>db k _ _ (h c hc)
 |.dfn ps=>λ Z ρ H Q R X Y k kx h=>λ c hc=>db k _ _ (h c hc)
 |.sub a i=>λ Z ρ H Q R X Y k kx h=>bh a (λ u H q=>bh i (λ v H q=>A4 (db k) q) kx q) kx h
 |.slc a lo hi=>λ Z ρ H Q R X Y k kx h=>bh a (λ u H q=>v9 lo (λ v H q=>v9 hi (λ w H q=>zL (db k) q) kx q) kx q) kx h
 |.attr a n=>λ Z ρ H Q R X Y k kx h=>bh a (λ u H q=>rY (db k) q) kx h
 |.call f as=>λ Z ρ H Q R X Y k kx h=>bh f (λ g H=>Ka λ Z=>kD as (λ us H=>qT m (db k) kx) kx) kx h
 |.meth o n as=>λ Z ρ H Q R X Y k kx h=>bh o (λ u H=>FI λ Z=>kD as (λ us H=>qT m (db k) kx) kx) kx h
 |.comp own fr el t it cond=>λ Z ρ H Q R X Y k kx h=>bh it (λ u H=>tI λ us q=>by
   refine ⟨q.1,gX (λ v H R R' kr=>?_) (λ v H R R' kr=>?_) (λ vs H q c hc=>?_) q.2⟩
   ·exact bh el kr λ Z Z z=>z
   ·exact BK cond kr
   ·exact db k _ _ (q c hc)) kx h
 |.comp2 own fr el t it cond t2 it2=>λ Z ρ H Q R X Y k kx h=>bh it (λ u H=>tI λ us q=>by
   refine ⟨q.1,i6 (λ v w H R R' kr=>?_) (λ v H R R' kr=>?_) (λ v H R R' kr=>?_) (λ vs H q c hc=>?_) q.2⟩
   ·exact bh el kr λ Z Z z=>z
   ·exact bh cond (λ u H=>r8 λ Z=>kr _ _) λ Z Z z=>z
   ·exact bh it2 (λ u H q=>⟨q.1,IX (λ Z q=>⟨q.1,kr _ q.2⟩) q.2⟩) λ Z Z z=>z
   ·exact db k _ _ (q c hc)) kx h
 |.stuck=>λ Z ρ H Q R X Y Z Z h=>h.elim
theorem kD:∀(es:List E),NO tb lv es
 |[]=>λ ρ H Q R X Y k Z h=>k _ _ h
 |e::es=>λ ρ H Q R X Y k kx h=>bh e (λ u H q=>kD es (λ us H q=>k _ _ q) kx q) kx h
theorem v9:∀(e:Option E),mO tb lv e
 |none=>λ ρ H Q R X Y k Z h=>k _ _ h
 |some e=>λ ρ H Q R X Y k kx h=>bh e k kx h
theorem BK:∀(e:Option E),mC tb lv e
 |none=>λ ρ H Q R k h=>k _ _ h
 |some e=>λ ρ H Q R k h=>bh e (λ u H=>r8 λ Z=>k _ _) (λ Z Z z=>z) h
theorem wd:∀(c:Bool) (es:List E),mB tb lv c es
 |_,[]=>λ ρ H Q R X Y Z Z h=>h.elim
 |_,[e]=>λ ρ H Q R X Y k kx h=>bh e k kx h
 |c,e::e2::es=>λ ρ H Q R X Y k kx h=>bh e (λ u H=>yD (λ Z=>wD (wd c (e2::es) k kx) (k _ _)) id) kx h
theorem to:∀(c:Bool) (es:List E),N4 tb lv c es
 |_,[]=>λ ρ H Q R X Y k Z h=>k _ _ h
 |c,e::es=>λ ρ H Q R X Y k kx h=>bh e (λ u H=>r8 λ Z=>wD (to c es k kx) (k _ _)) kx h
end
end
theorem oJ {t u ρ H} (k:∀ρ H,N ρ H->N' ρ H):assignT t u ρ H N->assignT t u ρ H N':=by
 cases t with
 |loc i=>exact k _ _
 |tup is=>exact tI λ Z h=>⟨h.1,k _ _ h.2⟩
theorem CV (k:∀z,K z->K' z):Cm op x y K->Cm op x y K':=by cases op<;>first|exact k _|exact id
theorem tN (mt:∀u ρ H N N',(∀ρ H,N ρ H->N' ρ H)->turn u ρ H N->turn' u ρ H N'):∀{us ρ H} {N N':da->MH->Prop},(∀ρ H,N ρ H->N' ρ H)->forW turn us ρ H N->forW turn' us ρ H N'
 |[],_,_,_,_,k,h=>k _ _ h
 |u::us,_,_,_,_,k,h=>mt _ _ _ _ _ (λ ρ H q=>tN mt k q) h
theorem p6 (mt:∀ρ H K K',(∀b H,K b H->K' b H)->test ρ H K->test ρ H K') (mb:∀ρ H K K',(∀ρ H,K ρ H->K' ρ H)->body ρ H K->body' ρ H K')
  (k:∀ρ H,N ρ H->N' ρ H):∀{n ρ H},whileW test body N n ρ H->whileW test body' N' n ρ H
 |0,_,_,h=>h.elim
 |n+1,_,_,h=>mt _ _ _ _ (λ b H q=>wD (mb _ _ _ _ λ ρ H q=>p6 mt mb k q) (k _ _) q) h
def mS (tb lv) (e:S):=∀⦃ρ:da⦄⦃H:MH⦄⦃N N':da->MH->Prop⦄⦃R R':V->MH->Prop⦄⦃X X':aw->MH->Prop⦄,(∀u H,N u H->N' u H)->(∀u H,R u H->R' u H)->(∀w H,X w H->X' w H)->wpS tb lv e ρ H N R X->wpS tb lv e ρ H N' R' X'
def NX (tb lv) (e:List S):=∀⦃ρ:da⦄⦃H:MH⦄⦃N N':da->MH->Prop⦄⦃R R':V->MH->Prop⦄⦃X X':aw->MH->Prop⦄,(∀u H,N u H->N' u H)->(∀u H,R u H->R' u H)->(∀w H,X w H->X' w H)->wpSs tb lv e ρ H N R X->wpSs tb lv e ρ H N' R' X'
section
variable (m:yJ tb) (lv:Nat)
include m
mutual
theorem qL:∀(e:S),mS tb lv e
 |.assign t e=>λ ρ H N O R P X Y k kr kx h=>bh m lv e (λ u H q=>oJ k q) kx h
 |.setattr o n e=>λ ρ H N O R P X Y k kr kx h=>bh m lv e (λ u H q=>bh m lv o (λ u H q=>mK (k _) q) kx q) kx h
 |.setitem o i e=>λ ρ H N O R P X Y k kr kx h=>bh m lv e (λ u H q=>bh m lv o (λ u H q=>bh m lv i (λ u H q=>sF (k _) q) kx q) kx q) kx h
 |.aug i op e=>λ ρ H N O R P X Y k kr kx h=>yN (λ u h=>bh m lv e (λ v H1=>xN λ x y=>CV λ z=>k _ _) kx h) h
 |.augattr o n op e=>λ ρ H N O R P X Y k kr kx h=>bh m lv o (λ u H=>rY (λ u H=>bh m lv e (λ v H=>xN λ x y=>CV λ z=>mK (k _)) kx)) kx h
 |.ite t b o=>λ ρ H N O R P X Y k kr kx h=>bh m lv t (λ u H=>r8 λ Z=>wD (kG b k kr kx) (kG o k kr kx)) kx h
 |.while_ t b=>λ ρ H N O R P X Y k kr kx h=>by
  refine bu h λ n h=>?_
  refine ⟨n,p6 ?_ ?_ k h⟩
  ·exact λ ρ H K K' kk q=>bh m lv t (λ u H=>r8 λ Z=>kk _ _) (λ Z Z z=>z) q
  ·exact λ ρ H K K' kk q=>kG b kk kr (λ Z Z z=>z) q
 |.for_ t it b=>λ ρ H N O R P X Y k kr kx h=>bh m lv it (λ u H=>tI λ us q=>by
   refine tN (λ v ρ H N N' kk q=>?_) (λ ρ H q z=>?_) q
   ·exact oJ (λ ρ H q=>kG b kk (λ r H q=>kr _ _ q) (λ Z Z z=>z) q) q
   ·exact k _ _ (q z)) kx h
 |.ret e=>λ ρ H N O R P X Y k kr kx h=>bh m lv e kr kx h
 |.expr e=>λ ρ H N O R P X Y k kr kx h=>bh m lv e (λ u H q=>⟨q.1,k _ _ q.2⟩) kx h
 |.raise_ e=>λ ρ H N O R P X Y k kr kx h=>rZ (bh m lv e (λ u H=>Kj λ Z=>kx _ _) kx) h
 |.tryWhy e i j=>λ ρ H N O R P X Y k kr kx h=>bh m lv e (λ u H q=>⟨q.1,k _ _ q.2⟩) (λ w H q=>k _ _ q) h
 |.pass=>λ ρ H N O R P X Y k kr kx h=>k _ _ h
 |.stuck=>λ ρ H N O R P X Y k kr kx h=>h.elim
theorem kG:∀(e:List S),NX tb lv e
 |[]=>λ ρ H N O R P X Y k kr kx h=>k _ _ h
 |e::es=>λ ρ H N O R P X Y k kr kx h=>qL e (λ ρ H q=>kG es k kr kx q) kr kx h
end
theorem yL (P:da->MH->Prop) (h:wpS tb lv s ρ H P R X) (k:∀ρ H,P ρ H->wpSs tb lv r ρ H N R X):wpSs tb lv (s::r) ρ H N R X:=
 qL m lv s k (λ Z Z z=>z) (λ Z Z z=>z) h
theorem Ek (P:V->MH->Prop) (h:wpE tb lv false e ρ H P X) (k:∀u H,P u H->wpSs tb lv r (ρ.set i (some u)) H N R X):wpSs tb lv (.assign (.loc i) e::r) ρ H N R X:=
 bh m lv e k (λ Z Z z=>z) h
end
theorem oo:∀{us:List V} {ρ:da} {H:MH} {N:da->MH->Prop} (P:Nat->da->MH->Prop),P 0 ρ H->
  (∀i u ρ H,us[i]?=some u->P i ρ H->∀N',(∀ρ' H',P (i+1) ρ' H'->N' ρ' H')->turn u ρ H N')->(∀ρ H,P us.length ρ H->N ρ H)->forW turn us ρ H N
 |[],_,_,_,P,h0,_,fe=>fe _ _ h0
 |u::us,ρ,H,N,P,h0,step,fe=>step 0 u ρ H rfl h0 _ λ ρ' H' h1=>oo (λ i=>P (i+1)) h1 (λ i u ρ H e=>step (i+1) u ρ H (by simpa using e)) fe
theorem rn (P:Nat->da->MH->Prop)
  (step:∀n ρ H,P n ρ H->∀K:Bool->MH->Prop,(∀b H1,(b=true->0<n/\∀N',(∀ρ2 H2,P (n -1) ρ2 H2->N' ρ2 H2)->body ρ H1 N')->(b=false->N ρ H1)->K b H1)->test ρ H K):∀n {ρ H},P n ρ H->whileW test body N (n+1) ρ H
 |0,ρ,H,h=>step 0 ρ H h _ λ b H1 h1 h2=>kg (λ e=>absurd (h1 e).1 (eX _)) h2
 |n+1,ρ,H,h=>step (n+1) ρ H h _ λ b H1 h1 h2=>kg (λ e=>(h1 e).2 _ λ ρ2 H2 h3=>rn P step n h3) h2
theorem eN {cond:V->MH->(Bool->MH->Prop)->Prop} (f:V->V) (hc:∀u (R:Bool->MH->Prop),R true H->cond u H R):∀{us:List V} {acc:List V},(∀u∈us,∀(R:V->MH->Prop),R (f u) H->el u H R)->Q (acc++us.map f) H->compTurns el cond us acc H Q
 |[],acc,_,q=>by simpa [compTurns] using q
 |u::us,acc,h,q=>hc u _ (h u (.head _) _ (eN f hc (λ v hv=>h v (.tail _ hv)) (by simpa using q)))
theorem iG {cond:V->MH->(Bool->MH->Prop)->Prop} (f:V->V) (p:V->Bool):∀{us:List V} {acc:List V},(∀u∈us,∀(R:Bool->MH->Prop),R (p u) H->cond u H R)->(∀u∈us,p u=true->∀(R:V->MH->Prop),R (f u) H->el u H R)->
  Q (acc++(us.filter p).map f) H->compTurns el cond us acc H Q
 |[],acc,_,_,q=>by simpa [compTurns] using q
 |u::us,acc,hc,h,q=>hc u (.head _) _<|kg (λ e=>h u (.head _) e _ (iG f p (λ v hv=>hc v (.tail _ hv)) (λ v hv=>h v (.tail _ hv)) (by simpa [lJ,e] using q)))<|
   λ e=>iG f p (λ v hv=>hc v (.tail _ hv)) (λ v hv=>h v (.tail _ hv)) (by simpa [lJ,e] using q)
structure Slot where
 tag:aw
 rest:List V
 order:aw
 size:Int
noncomputable def Slot.e (x:Slot):V:=.tuple (.str x.tag::x.rest)
noncomputable def Slot.v (x:Slot):V:=.tuple [x.e,.str x.order,.int x.size]
abbrev cY:=Int->Option Slot
noncomputable def cY.put (sl:cY) (g:Int) (x:Slot):cY:=λ i=>if i=g then some x else sl i
def d6 (H:MH) (a:aI) (sl:cY) (n:Nat):Prop:=(H a=some .edict/\∀i,sl i=none)\/∃f k,H a=some (.idict f k)/\k<=n/\∀i,f i=(sl i).map Slot.v
noncomputable def needV (p:Int×Int):V:=.tuple [.str "meta l4proto",.int p.1,.int 0,.int p.2]
noncomputable def matchV (e:V) (op:aw) (n:Int):V:=.tuple [.str "match",e,.str op,.tuple [.str "num",.int n]]
noncomputable def fieldV (x:aw):V:=.tuple [.str "field",.str x]
noncomputable def needSt (p:Int×Int):Int×V:=(p.2,matchV (fieldV "meta l4proto") "==" p.1)
noncomputable def stV (p:Int×V):V:=.tuple [.int p.1,p.2]
noncomputable def whyEmpty:aw:="a register that nothing was put into"
structure RS where
 d:aI
 fields:aI
 family:aw
 sets:aI
 order:aw
 cells:aI
 at_:Int
 slots:aI
 known:aI
 pend:aI
 dropped:aI
 stmts:aI
 sl:cY
 n:Nat
 eff:List (Int×V)
theorem Ii:Nonempty RS:=⟨⟨0,0,default,0,default,0,0,0,0,0,0,0,default,0,default⟩⟩
noncomputable def RS.attrs (z:RS):List (aw×V):=[("fields",.ref z.fields),("family",.str z.family),("sets",.ref z.sets),("order",.str z.order),("cells",.ref z.cells),("at",.int z.at_),("slots",.ref z.slots),("known",.ref z.known),("pending",.ref z.pend),("dropped",.ref z.dropped),("statements",.ref z.stmts)]
noncomputable def RS.obj (z:RS):bK:=.inst (.cls 3) z.d z.attrs
def dw (H:MH) (a:aI):Prop:=H a=some .edict\/∃x y,H a=some (.sdict [("meta l4proto",.tuple [.int x,.int y])])
structure dY (B H:MH) (r:aI) (z:RS):Prop where
 keep:MH.Sub B H
 newr:B r=none
 news:B z.slots=none
 newk:B z.known=none
 newp:B z.pend=none
 newt:B z.stmts=none
 obj:H r=some z.obj
 slots:d6 H z.slots z.sl z.n
 known:dw H z.known
 lists:∃(S:List (Int×V)) (P:List (Int×Int)),H z.pend=some (.list (P.map needV))/\H z.stmts=some (.list (S.map stV))/\z.eff=S++P.map needSt
 ord:z.eff.Pairwise λ a b=>a.1<=b.1
 top:∀p∈z.eff,p.1<=z.at_
 dropped:H z.dropped=some (.list [])
 nsk:z.slots≠z.known
 npt:z.pend≠z.stmts
 ndp:z.dropped≠z.pend
 ndt:z.dropped≠z.stmts
def il (b:List Int):Prop:=(∀x∈b,0<=x/\x<256)/\b.length<=64
noncomputable def numOf (b:List Int):Int:=b.foldl (λ n o=>n*256+o) 0
noncomputable def numIn (b:List Int) (o:aw):Int:=if o="big" then numOf b else numOf b.reverse
noncomputable def octets (n k:Int):List Int:=(bF k.toNat).map λ i=>n/256^(k.toNat -1 -i) %256
noncomputable def dg (k:Int):aw:=aa (toString k.toNat)
noncomputable def digit (zs:List Int) (k:Int):Int:=if k<zs.length then zs.getD k.toNat 0 %2^64 else 0
structure dX where
 first:Int
 last:Int
 data:List Int
 note:aw
theorem MI:Nonempty dX:=⟨⟨0,0,default,default⟩⟩
noncomputable def dX.box (x:dX):V:=.tuple [.tuple [.int x.first,.int x.last]]
noncomputable def dX.dataV (x:dX):V:=.tuple (x.data.map .int)
noncomputable def dX.v (x:dX):V:=.tuple [x.box,x.dataV,.int 0,.str x.note]
noncomputable def ins {α:Type} (f:α->Int) (x:α):List α->List α
 |[]=>[x]
 |y::r=>if f x<f y then x::y::r else y::ins f x r
noncomputable def isort {α:Type} (f:α->Int) (l:List α):List α:=l.foldl (λ acc x=>ins f x acc) []
noncomputable def elemAttrs (x:dX) (cells:aI):List (aw×V):=[("box",x.box),("data",x.dataV),("until",.int 0),("timeout",.int 0),("comment",.str x.note),("cells",.ref cells)]
def kh (H:MH) (v:V) (x:dX):Prop:=∃a d c,v=.ref a/\H a=some (.inst (.cls 4) d (elemAttrs x c))
abbrev wZ:=List (dX×V)
def kC (H:MH) (b8:wZ):Prop:=∀p∈b8,kh H p.2 p.1
def eh (H:MH) (st:aI) (b8:wZ):Prop:=∃d tb,H st=some (.inst (.cls 5) d [("table",.ref tb)])/\
 ((H tb=some .edict/\b8=[])\/H tb=some (.tdict (b8.map λ p=>([p.1.first],p.2))))/\kC H b8/\(∀p∈b8,p.1.first=p.1.last)/\(b8.map λ p=>p.1.first).Nodup/\b8.length<=3
def gv (H:MH) (st:aI) (b8:wZ):Prop:=∃d it,H st=some (.inst (.cls 6) d [("items",.ref it)])/\H it=some (.list ((isort (λ p=>p.1.first) b8).map (·.2)))/\kC H b8/\b8.length<=3/\
 (∀p∈b8,p.1.first<=p.1.last)/\b8.Pairwise λ p q=>p.1.last<q.1.first\/q.1.last<p.1.first
def yW (H:MH) (st:aI) (b8:wZ):Prop:=eh H st b8\/gv H st b8
def lH (H:MH) (v:V) (ls:List dX):Prop:=∃b d as st b8,v=.ref b/\H b=some (.inst (.cls 9) d as)/\as.lookup ("store":aw)=some (.ref st)/\yW H st b8/\ls=isort dX.first (b8.map (·.1))
abbrev iX:=List (aw×List dX)
def cF (H:MH) (a:aI) (T:iX):Prop:=(H a=some .edict/\T=[])\/∃es,H a=some (.sdict es)/\es.map (·.1)=T.map (·.1)/\T.length<=10/\∀n ls,T.lookup n=some ls->∃v,es.lookup n=some v/\lH H v ls
noncomputable def joinV:List V->V
 |[u]=>u
 |us=>.tuple [.str "concat",.tuple us]
noncomputable def litsV (ls:List dX):V:=.tuple (ls.map dX.v)
noncomputable def whereV (T:iX) (name tag:aw):V:=match T.lookup name with
 |none=>.tuple [.str "ref",.str name]
 |some ls=>.tuple [.str tag,litsV ls]
noncomputable def layV (l:List (Int×aw)):V:=.tuple (l.map λ p=>.tuple [.int p.1,.str p.2])
noncomputable def slotsOf (n:Int):Int:=(n+3)/4
noncomputable def mapPut (e:Slot):cY->Int->List (Int×aw)->cY
 |sl,_,[]=>sl
 |sl,g,(size,order)::r=>mapPut e (sl.put g {e with order:=order,size:=size}) (g+slotsOf size) r
noncomputable def rawNum (x:Slot):Option Int:=if x.tag="raw" then match x.rest with
 |[.bytes b]=>some (numOf b)
 |_=>none else none
noncomputable def pairOf (sl:cY) (lo hi:Int):Option (Option (Int×Int)):=
 if lo<0 then some none else match sl lo with
  |none=>none
  |some x=>match rawNum x with
   |none=>some none
   |some a=>match sl hi with
    |none=>none
    |some y=>match rawNum y with
     |some b=>some (some (a,b))
     |none=>none
noncomputable def pairV:Option (Int×Int)->V
 |none=>.none
 |some p=>.tuple [.int p.1,.int p.2]
def i7 (x:Slot):Prop:=x.tag≠"half"/\(x.tag="raw"->∃b,x.rest=[.bytes b]/\il b)
abbrev nC (us:List V) (k:V->List V->Prop):Prop:=match us with
 |u::r=>k u r
 |[]=>False
abbrev nN (us:List V) (k:Prop):Prop:=match us with
 |[]=>k
 |_::_=>False
@[elab_as_elim] theorem a9 {W:List V->Prop} {us k} (f:∀u r,k u r->W (u::r)) (h:nC us k):W us:=by cases us<;>first|exact h.elim|exact f _ _ h
theorem ba {us k k'} (f:∀u r,k u r->k' u r):nC us k->nC us k':=by cases us<;>first|exact id|exact f _ _
@[elab_as_elim] theorem c8 {W:List V->Prop} {us} (f:k->W []) (h:nN us k):W us:=by cases us<;>first|exact f h|exact h.elim
theorem c9 {us} (f:k->k'):nN us k->nN us k':=by cases us<;>first|exact f|exact id
abbrev vI (u:V) (k:Int->Prop):Prop:=match u with
 |.int x=>k x
 |_=>False
@[elab_as_elim] theorem dE {W:V->Prop} {u k} (f:∀x,k x->W (.int x)) (h:vI u k):W u:=by cases u<;>first|exact f _ h|exact h.elim
theorem dF {u k k'} (f:∀x,k x->k' x):vI u k->vI u k':=by cases u<;>first|exact f _|exact id
abbrev vS (u:V) (k:aw->Prop):Prop:=match u with
 |.str x=>k x
 |_=>False
@[elab_as_elim] theorem i8 {W:V->Prop} {u k} (f:∀x,k x->W (.str x)) (h:vS u k):W u:=by cases u<;>first|exact f _ h|exact h.elim
theorem i9 {u k k'} (f:∀x,k x->k' x):vS u k->vS u k':=by cases u<;>first|exact f _|exact id
abbrev vR (u:V) (k:aI->Prop):Prop:=match u with
 |.ref x=>k x
 |_=>False
@[elab_as_elim] theorem gY {W:V->Prop} {u k} (f:∀x,k x->W (.ref x)) (h:vR u k):W u:=by cases u<;>first|exact f _ h|exact h.elim
theorem gR {u k k'} (f:∀x,k x->k' x):vR u k->vR u k':=by cases u<;>first|exact f _|exact id
abbrev vY (u:V) (k:List Int->Prop):Prop:=match u with
 |.bytes x=>k x
 |_=>False
@[elab_as_elim] theorem DB {W:V->Prop} {u k} (f:∀x,k x->W (.bytes x)) (h:vY u k):W u:=by cases u<;>first|exact f _ h|exact h.elim
theorem B4 {u k k'} (f:∀x,k x->k' x):vY u k->vY u k':=by cases u<;>first|exact f _|exact id
abbrev vF (u:V) (k:List V->Prop):Prop:=match u with
 |.flist x=>k x
 |_=>False
@[elab_as_elim] theorem Ac {W:V->Prop} {u k} (f:∀x,k x->W (.flist x)) (h:vF u k):W u:=by cases u<;>first|exact f _ h|exact h.elim
theorem An {u k k'} (f:∀x,k x->k' x):vF u k->vF u k':=by cases u<;>first|exact f _|exact id
abbrev vB (u:V) (k:Bool->Prop):Prop:=match u with
 |.bool x=>k x
 |_=>False
@[elab_as_elim] theorem Hf {W:V->Prop} {u k} (f:∀x,k x->W (.bool x)) (h:vB u k):W u:=by cases u<;>first|exact f _ h|exact h.elim
theorem HJ {u k k'} (f:∀x,k x->k' x):vB u k->vB u k':=by cases u<;>first|exact f _|exact id
abbrev vT (u:V) (k:List V->Prop):Prop:=match u with
 |.tuple x=>k x
 |_=>False
@[elab_as_elim] theorem jQ {W:V->Prop} {u k} (f:∀x,k x->W (.tuple x)) (h:vT u k):W u:=by cases u<;>first|exact f _ h|exact h.elim
theorem jO {u k k'} (f:∀x,k x->k' x):vT u k->vT u k':=by cases u<;>first|exact f _|exact id
abbrev LJ (u:V) (k:String->Prop):Prop:=match u with
 |.fn f=>match f with
  |.ty x=>k x
  |_=>False
 |_=>False
@[elab_as_elim] theorem J0 {W:V->Prop} {u k} (f:∀x,k x->W (.fn (.ty x))) (h:LJ u k):W u:=by set_option tactic.hygienic true in cases u<;>first|exact h.elim|(rename_i g;cases g<;>first|exact f _ h|exact h.elim)
theorem IT {u k k'} (f:∀x,k x->k' x):LJ u k->LJ u k':=by set_option tactic.hygienic true in cases u<;>first|exact id|(rename_i g;cases g<;>first|exact f _|exact id)
abbrev Ij (u:V) (k:Prop):Prop:=vI u λ x=>cond (x==32) k False
@[elab_as_elim] theorem BG {W:V->Prop} {u} (f:k->W (.int 32)) (h:Ij u k):W u:=dE (λ x h=>by
 by_cases e:x=32
 ·subst e;exact f h
 ·rw [beq_false_of_ne e] at h;exact h.elim) h
theorem Cp {u} (f:k->k'):Ij u k->Ij u k':=dF λ x=>by cases x==32<;>first|exact id|exact f
abbrev y6 (u:V) (k:Prop):Prop:=vB u λ x=>cond x k False
@[elab_as_elim] theorem EL {W:V->Prop} {u} (f:k->W (.bool true)) (h:y6 u k):W u:=Hf (λ x h=>by cases x<;>first|exact h.elim|exact f h) h
theorem EG {u} (f:k->k'):y6 u k->y6 u k':=HJ λ x=>by cases x<;>first|exact id|exact f
abbrev q1 (us:List V) (k:V->Prop):Prop:=nC us λ x2 t1=>nN t1<|k x2
@[elab_as_elim] theorem LM {W:List V->Prop} {us} {k:V->Prop} (f:∀x2,k x2->W [x2]) (h:q1 us k):W us:=a9 (λ x2 t1 h=>c8 (λ h=>f x2 h) h) h
theorem No {us} {k k':V->Prop} (f:∀x2,k x2->k' x2):q1 us k->q1 us k':=ba (λ x2 t1=>c9 (f x2))
abbrev q2 (us:List V) (k:Int->Prop):Prop:=nC us λ u2 t1=>vI u2 λ x3=>nN t1<|k x3
@[elab_as_elim] theorem HM {W:List V->Prop} {us} {k:Int->Prop} (f:∀x3,k x3->W [.int x3]) (h:q2 us k):W us:=a9 (λ u2 t1 h=>dE (λ x3 h=>c8 (λ h=>f x3 h) h) h) h
theorem Hq {us} {k k':Int->Prop} (f:∀x3,k x3->k' x3):q2 us k->q2 us k':=ba (λ u2 t1=>dF (λ x3=>c9 (f x3)))
abbrev q3 (us:List V) (k:aI->Prop):Prop:=nC us λ u2 t1=>vR u2 λ x3=>nN t1<|k x3
@[elab_as_elim] theorem rM {W:List V->Prop} {us} {k:aI->Prop} (f:∀x3,k x3->W [.ref x3]) (h:q3 us k):W us:=a9 (λ u2 t1 h=>gY (λ x3 h=>c8 (λ h=>f x3 h) h) h) h
theorem rk {us} {k k':aI->Prop} (f:∀x3,k x3->k' x3):q3 us k->q3 us k':=ba (λ u2 t1=>gR (λ x3=>c9 (f x3)))
abbrev q4 (us:List V) (k:Int->String->Prop):Prop:=nC us λ u2 t1=>vI u2 λ x3=>nC t1 λ u5 t4=>LJ u5 λ x6=>nN t4<|k x3 x6
@[elab_as_elim] theorem L8 {W:List V->Prop} {us} {k:Int->String->Prop} (f:∀x3 x6,k x3 x6->W [.int x3,.fn (.ty x6)]) (h:q4 us k):W us:=a9 (λ u2 t1 h=>dE (λ x3 h=>a9 (λ u5 t4 h=>J0 (λ x6 h=>c8 (λ h=>f x3 x6 h) h) h) h) h) h
theorem Mx {us} {k k':Int->String->Prop} (f:∀x3 x6,k x3 x6->k' x3 x6):q4 us k->q4 us k':=ba (λ u2 t1=>dF (λ x3=>ba (λ u5 t4=>IT (λ x6=>c9 (f x3 x6)))))
abbrev q5 (us:List V) (k:Int->Int->Prop):Prop:=nC us λ u2 t1=>vI u2 λ x3=>nC t1 λ u5 t4=>vI u5 λ x6=>nN t4<|k x3 x6
@[elab_as_elim] theorem GO {W:List V->Prop} {us} {k:Int->Int->Prop} (f:∀x3 x6,k x3 x6->W [.int x3,.int x6]) (h:q5 us k):W us:=a9 (λ u2 t1 h=>dE (λ x3 h=>a9 (λ u5 t4 h=>dE (λ x6 h=>c8 (λ h=>f x3 x6 h) h) h) h) h) h
theorem GV {us} {k k':Int->Int->Prop} (f:∀x3 x6,k x3 x6->k' x3 x6):q5 us k->q5 us k':=ba (λ u2 t1=>dF (λ x3=>ba (λ u5 t4=>dF (λ x6=>c9 (f x3 x6)))))
abbrev q6 (us:List V) (k:aI->V->Prop):Prop:=nC us λ u2 t1=>vR u2 λ x3=>nC t1 λ x5 t4=>nN t4<|k x3 x5
@[elab_as_elim] theorem G4 {W:List V->Prop} {us} {k:aI->V->Prop} (f:∀x3 x5,k x3 x5->W [.ref x3,x5]) (h:q6 us k):W us:=a9 (λ u2 t1 h=>gY (λ x3 h=>a9 (λ x5 t4 h=>c8 (λ h=>f x3 x5 h) h) h) h) h
theorem Hp {us} {k k':aI->V->Prop} (f:∀x3 x5,k x3 x5->k' x3 x5):q6 us k->q6 us k':=ba (λ u2 t1=>gR (λ x3=>ba (λ x5 t4=>c9 (f x3 x5))))
abbrev q7 (us:List V) (k:aI->Int->V->Prop):Prop:=nC us λ u2 t1=>vR u2 λ x3=>nC t1 λ u5 t4=>vI u5 λ x6=>nC t4 λ x8 t7=>nN t7<|k x3 x6 x8
@[elab_as_elim] theorem I8 {W:List V->Prop} {us} {k:aI->Int->V->Prop} (f:∀x3 x6 x8,k x3 x6 x8->W [.ref x3,.int x6,x8]) (h:q7 us k):W us:=a9 (λ u2 t1 h=>gY (λ x3 h=>a9 (λ u5 t4 h=>dE (λ x6 h=>a9 (λ x8 t7 h=>c8 (λ h=>f x3 x6 x8 h) h) h) h) h) h) h
theorem IV {us} {k k':aI->Int->V->Prop} (f:∀x3 x6 x8,k x3 x6 x8->k' x3 x6 x8):q7 us k->q7 us k':=ba (λ u2 t1=>gR (λ x3=>ba (λ u5 t4=>dF (λ x6=>ba (λ x8 t7=>c9 (f x3 x6 x8))))))
abbrev q8 (us:List V) (k:aI->Int->Prop):Prop:=nC us λ u2 t1=>vR u2 λ x3=>nC t1 λ u5 t4=>vT u5 λ l6=>nC l6 λ u8 t7=>vI u8 λ x9=>nN t7<|nN t4<|k x3 x9
@[elab_as_elim] theorem LY {W:List V->Prop} {us} {k:aI->Int->Prop} (f:∀x3 x9,k x3 x9->W [.ref x3,.tuple [.int x9]]) (h:q8 us k):W us:=a9 (λ u2 t1 h=>gY (λ x3 h=>a9 (λ u5 t4 h=>jQ (λ l6 h=>a9 (λ u8 t7 h=>dE (λ x9 h=>c8 (λ h=>c8 (λ h=>f x3 x9 h) h) h) h) h) h) h) h) h
theorem ML {us} {k k':aI->Int->Prop} (f:∀x3 x9,k x3 x9->k' x3 x9):q8 us k->q8 us k':=ba (λ u2 t1=>gR (λ x3=>ba (λ u5 t4=>jO (λ l6=>ba (λ u8 t7=>dF (λ x9=>c9 (c9 (f x3 x9))))))))
abbrev q9 (us:List V) (k:aI->aI->Prop):Prop:=nC us λ u2 t1=>vR u2 λ x3=>nC t1 λ u5 t4=>vR u5 λ x6=>nN t4<|k x3 x6
@[elab_as_elim] theorem MT {W:List V->Prop} {us} {k:aI->aI->Prop} (f:∀x3 x6,k x3 x6->W [.ref x3,.ref x6]) (h:q9 us k):W us:=a9 (λ u2 t1 h=>gY (λ x3 h=>a9 (λ u5 t4 h=>gY (λ x6 h=>c8 (λ h=>f x3 x6 h) h) h) h) h) h
theorem LV {us} {k k':aI->aI->Prop} (f:∀x3 x6,k x3 x6->k' x3 x6):q9 us k->q9 us k':=ba (λ u2 t1=>gR (λ x3=>ba (λ u5 t4=>gR (λ x6=>c9 (f x3 x6)))))
abbrev LI (us:List V) (k:Int->Int->Int->Prop):Prop:=nC us λ u2 t1=>vI u2 λ x3=>nC t1 λ u5 t4=>vI u5 λ x6=>nC t4 λ u8 t7=>vI u8 λ x9=>nN t7<|k x3 x6 x9
@[elab_as_elim] theorem Kd {W:List V->Prop} {us} {k:Int->Int->Int->Prop} (f:∀x3 x6 x9,k x3 x6 x9->W [.int x3,.int x6,.int x9]) (h:LI us k):W us:=a9 (λ u2 t1 h=>dE (λ x3 h=>a9 (λ u5 t4 h=>dE (λ x6 h=>a9 (λ u8 t7 h=>dE (λ x9 h=>c8 (λ h=>f x3 x6 x9 h) h) h) h) h) h) h) h
theorem KA {us} {k k':Int->Int->Int->Prop} (f:∀x3 x6 x9,k x3 x6 x9->k' x3 x6 x9):LI us k->LI us k':=ba (λ u2 t1=>dF (λ x3=>ba (λ u5 t4=>dF (λ x6=>ba (λ u8 t7=>dF (λ x9=>c9 (f x3 x6 x9)))))))
abbrev KM (us:List V) (k:List Int->Prop):Prop:=nC us λ u2 t1=>vY u2 λ x3=>nN t1<|k x3
@[elab_as_elim] theorem FQ {W:List V->Prop} {us} {k:List Int->Prop} (f:∀x3,k x3->W [.bytes x3]) (h:KM us k):W us:=a9 (λ u2 t1 h=>DB (λ x3 h=>c8 (λ h=>f x3 h) h) h) h
theorem Gq {us} {k k':List Int->Prop} (f:∀x3,k x3->k' x3):KM us k->KM us k':=ba (λ u2 t1=>B4 (λ x3=>c9 (f x3)))
abbrev Lg (us:List V) (k:List Int->aw->Prop):Prop:=nC us λ u2 t1=>vY u2 λ x3=>nC t1 λ u5 t4=>vS u5 λ x6=>nN t4<|k x3 x6
@[elab_as_elim] theorem Jg {W:List V->Prop} {us} {k:List Int->aw->Prop} (f:∀x3 x6,k x3 x6->W [.bytes x3,.str x6]) (h:Lg us k):W us:=a9 (λ u2 t1 h=>DB (λ x3 h=>a9 (λ u5 t4 h=>i8 (λ x6 h=>c8 (λ h=>f x3 x6 h) h) h) h) h) h
theorem JR {us} {k k':List Int->aw->Prop} (f:∀x3 x6,k x3 x6->k' x3 x6):Lg us k->Lg us k':=ba (λ u2 t1=>B4 (λ x3=>ba (λ u5 t4=>i9 (λ x6=>c9 (f x3 x6)))))
abbrev K5 (us:List V) (k:aw->aw->Prop):Prop:=nC us λ u2 t1=>vS u2 λ x3=>nC t1 λ u5 t4=>vS u5 λ x6=>nN t4<|k x3 x6
@[elab_as_elim] theorem KT {W:List V->Prop} {us} {k:aw->aw->Prop} (f:∀x3 x6,k x3 x6->W [.str x3,.str x6]) (h:K5 us k):W us:=a9 (λ u2 t1 h=>i8 (λ x3 h=>a9 (λ u5 t4 h=>i8 (λ x6 h=>c8 (λ h=>f x3 x6 h) h) h) h) h) h
theorem JL {us} {k k':aw->aw->Prop} (f:∀x3 x6,k x3 x6->k' x3 x6):K5 us k->K5 us k':=ba (λ u2 t1=>i9 (λ x3=>ba (λ u5 t4=>i9 (λ x6=>c9 (f x3 x6)))))
abbrev Le (us:List V) (k:aI->aI->aw->aI->Prop):Prop:=nC us λ u2 t1=>vR u2 λ x3=>nC t1 λ u5 t4=>vR u5 λ x6=>nC t4 λ u8 t7=>vS u8 λ x9=>nC t7 λ u11 t10=>vR u11 λ x12=>nN t10<|k x3 x6 x9 x12
@[elab_as_elim] theorem Kf {W:List V->Prop} {us} {k:aI->aI->aw->aI->Prop} (f:∀x3 x6 x9 x12,k x3 x6 x9 x12->W [.ref x3,.ref x6,.str x9,.ref x12]) (h:Le us k):W us:=a9 (λ u2 t1 h=>gY (λ x3 h=>a9 (λ u5 t4 h=>gY (λ x6 h=>a9 (λ u8 t7 h=>i8 (λ x9 h=>a9 (λ u11 t10 h=>gY (λ x12 h=>c8 (λ h=>f x3 x6 x9 x12 h) h) h) h) h) h) h) h) h) h
theorem Jd {us} {k k':aI->aI->aw->aI->Prop} (f:∀x3 x6 x9 x12,k x3 x6 x9 x12->k' x3 x6 x9 x12):Le us k->Le us k':=ba (λ u2 t1=>gR (λ x3=>ba (λ u5 t4=>gR (λ x6=>ba (λ u8 t7=>i9 (λ x9=>ba (λ u11 t10=>gR (λ x12=>c9 (f x3 x6 x9 x12)))))))))
abbrev K3 (us:List V) (k:aI->aw->Int->Int->Prop):Prop:=nC us λ u2 t1=>vR u2 λ x3=>nC t1 λ u5 t4=>vS u5 λ x6=>nC t4 λ u8 t7=>vI u8 λ x9=>nC t7 λ u11 t10=>vI u11 λ x12=>nN t10<|k x3 x6 x9 x12
@[elab_as_elim] theorem KY {W:List V->Prop} {us} {k:aI->aw->Int->Int->Prop} (f:∀x3 x6 x9 x12,k x3 x6 x9 x12->W [.ref x3,.str x6,.int x9,.int x12]) (h:K3 us k):W us:=a9 (λ u2 t1 h=>gY (λ x3 h=>a9 (λ u5 t4 h=>i8 (λ x6 h=>a9 (λ u8 t7 h=>dE (λ x9 h=>a9 (λ u11 t10 h=>dE (λ x12 h=>c8 (λ h=>f x3 x6 x9 x12 h) h) h) h) h) h) h) h) h) h
theorem JJ {us} {k k':aI->aw->Int->Int->Prop} (f:∀x3 x6 x9 x12,k x3 x6 x9 x12->k' x3 x6 x9 x12):K3 us k->K3 us k':=ba (λ u2 t1=>gR (λ x3=>ba (λ u5 t4=>i9 (λ x6=>ba (λ u8 t7=>dF (λ x9=>ba (λ u11 t10=>dF (λ x12=>c9 (f x3 x6 x9 x12)))))))))
abbrev Lc (us:List V) (k:aw->Int->V->V->Prop):Prop:=nC us λ u2 t1=>vT u2 λ l3=>nC l3 λ u5 t4=>vS u5 λ x6=>nC t4 λ u8 t7=>vI u8 λ x9=>nC t7 λ x11 t10=>nC t10 λ x13 t12=>nN t12<|nN t1<|k x6 x9 x11 x13
@[elab_as_elim] theorem Ja {W:List V->Prop} {us} {k:aw->Int->V->V->Prop} (f:∀x6 x9 x11 x13,k x6 x9 x11 x13->W [.tuple [.str x6,.int x9,x11,x13]]) (h:Lc us k):W us:=a9 (λ u2 t1 h=>jQ (λ l3 h=>a9 (λ u5 t4 h=>i8 (λ x6 h=>a9 (λ u8 t7 h=>dE (λ x9 h=>a9 (λ x11 t10 h=>a9 (λ x13 t12 h=>c8 (λ h=>c8 (λ h=>f x6 x9 x11 x13 h) h) h) h) h) h) h) h) h) h) h
theorem Kz {us} {k k':aw->Int->V->V->Prop} (f:∀x6 x9 x11 x13,k x6 x9 x11 x13->k' x6 x9 x11 x13):Lc us k->Lc us k':=ba (λ u2 t1=>jO (λ l3=>ba (λ u5 t4=>i9 (λ x6=>ba (λ u8 t7=>dF (λ x9=>ba (λ x11 t10=>ba (λ x13 t12=>c9 (c9 (f x6 x9 x11 x13))))))))))
abbrev Ie (us:List V) (k:aI->Int->Prop):Prop:=nC us λ u2 t1=>vR u2 λ x3=>nC t1 λ u5 t4=>vI u5 λ x6=>nN t4<|k x3 x6
@[elab_as_elim] theorem BP {W:List V->Prop} {us} {k:aI->Int->Prop} (f:∀x3 x6,k x3 x6->W [.ref x3,.int x6]) (h:Ie us k):W us:=a9 (λ u2 t1 h=>gY (λ x3 h=>a9 (λ u5 t4 h=>dE (λ x6 h=>c8 (λ h=>f x3 x6 h) h) h) h) h) h
theorem Dn {us} {k k':aI->Int->Prop} (f:∀x3 x6,k x3 x6->k' x3 x6):Ie us k->Ie us k':=ba (λ u2 t1=>gR (λ x3=>ba (λ u5 t4=>dF (λ x6=>c9 (f x3 x6)))))
abbrev Lh (us:List V) (k:aI->List Int->aw->Prop):Prop:=nC us λ u2 t1=>vR u2 λ x3=>nC t1 λ u5 t4=>vY u5 λ x6=>nC t4 λ u8 t7=>vS u8 λ x9=>nN t7<|k x3 x6 x9
@[elab_as_elim] theorem Jy {W:List V->Prop} {us} {k:aI->List Int->aw->Prop} (f:∀x3 x6 x9,k x3 x6 x9->W [.ref x3,.bytes x6,.str x9]) (h:Lh us k):W us:=a9 (λ u2 t1 h=>gY (λ x3 h=>a9 (λ u5 t4 h=>DB (λ x6 h=>a9 (λ u8 t7 h=>i8 (λ x9 h=>c8 (λ h=>f x3 x6 x9 h) h) h) h) h) h) h) h
theorem Jx {us} {k k':aI->List Int->aw->Prop} (f:∀x3 x6 x9,k x3 x6 x9->k' x3 x6 x9):Lh us k->Lh us k':=ba (λ u2 t1=>gR (λ x3=>ba (λ u5 t4=>B4 (λ x6=>ba (λ u8 t7=>i9 (λ x9=>c9 (f x3 x6 x9)))))))
abbrev LA (us:List V) (k:aI->Int->List V->Prop):Prop:=nC us λ u2 t1=>vR u2 λ x3=>nC t1 λ u5 t4=>vI u5 λ x6=>nC t4 λ u8 t7=>vT u8 λ x9=>nN t7<|k x3 x6 x9
@[elab_as_elim] theorem JC {W:List V->Prop} {us} {k:aI->Int->List V->Prop} (f:∀x3 x6 x9,k x3 x6 x9->W [.ref x3,.int x6,.tuple x9]) (h:LA us k):W us:=a9 (λ u2 t1 h=>gY (λ x3 h=>a9 (λ u5 t4 h=>dE (λ x6 h=>a9 (λ u8 t7 h=>jQ (λ x9 h=>c8 (λ h=>f x3 x6 x9 h) h) h) h) h) h) h) h
theorem Jt {us} {k k':aI->Int->List V->Prop} (f:∀x3 x6 x9,k x3 x6 x9->k' x3 x6 x9):LA us k->LA us k':=ba (λ u2 t1=>gR (λ x3=>ba (λ u5 t4=>dF (λ x6=>ba (λ u8 t7=>jO (λ x9=>c9 (f x3 x6 x9)))))))
abbrev La (us:List V) (k:aI->aw->Prop):Prop:=nC us λ u2 t1=>vR u2 λ x3=>nC t1 λ u5 t4=>vS u5 λ x6=>nN t4<|k x3 x6
@[elab_as_elim] theorem KX {W:List V->Prop} {us} {k:aI->aw->Prop} (f:∀x3 x6,k x3 x6->W [.ref x3,.str x6]) (h:La us k):W us:=a9 (λ u2 t1 h=>gY (λ x3 h=>a9 (λ u5 t4 h=>i8 (λ x6 h=>c8 (λ h=>f x3 x6 h) h) h) h) h) h
theorem IJ {us} {k k':aI->aw->Prop} (f:∀x3 x6,k x3 x6->k' x3 x6):La us k->La us k':=ba (λ u2 t1=>gR (λ x3=>ba (λ u5 t4=>i9 (λ x6=>c9 (f x3 x6)))))
abbrev Lp (us:List V) (k:aI->aw->aw->Prop):Prop:=nC us λ u2 t1=>vR u2 λ x3=>nC t1 λ u5 t4=>vS u5 λ x6=>nC t4 λ u8 t7=>vS u8 λ x9=>nN t7<|k x3 x6 x9
@[elab_as_elim] theorem JK {W:List V->Prop} {us} {k:aI->aw->aw->Prop} (f:∀x3 x6 x9,k x3 x6 x9->W [.ref x3,.str x6,.str x9]) (h:Lp us k):W us:=a9 (λ u2 t1 h=>gY (λ x3 h=>a9 (λ u5 t4 h=>i8 (λ x6 h=>a9 (λ u8 t7 h=>i8 (λ x9 h=>c8 (λ h=>f x3 x6 x9 h) h) h) h) h) h) h) h
theorem IM {us} {k k':aI->aw->aw->Prop} (f:∀x3 x6 x9,k x3 x6 x9->k' x3 x6 x9):Lp us k->Lp us k':=ba (λ u2 t1=>gR (λ x3=>ba (λ u5 t4=>i9 (λ x6=>ba (λ u8 t7=>i9 (λ x9=>c9 (f x3 x6 x9)))))))
abbrev Lz (us:List V) (k:aI->aw->Int->aw->Int->aw->Prop):Prop:=nC us λ u2 t1=>vR u2 λ x3=>nC t1 λ u5 t4=>vT u5 λ l6=>nC l6 λ u8 t7=>vS u8 λ x9=>nC t7 λ u11 t10=>vI u11 λ x12=>nC t10 λ u14 t13=>vS u14 λ dB=>nC t13 λ u17 t16=>vI u17 λ x18=>nC t16 λ u20 t19=>vS u20 λ x21=>nN t19<|nN t4<|k x3 x9 x12 dB x18 x21
@[elab_as_elim] theorem Jj {W:List V->Prop} {us} {k:aI->aw->Int->aw->Int->aw->Prop} (f:∀x3 x9 x12 dB x18 x21,k x3 x9 x12 dB x18 x21->W [.ref x3,.tuple [.str x9,.int x12,.str dB,.int x18,.str x21]]) (h:Lz us k):W us:=a9 (λ u2 t1 h=>gY (λ x3 h=>a9 (λ u5 t4 h=>jQ (λ l6 h=>a9 (λ u8 t7 h=>i8 (λ x9 h=>a9 (λ u11 t10 h=>dE (λ x12 h=>a9 (λ u14 t13 h=>i8 (λ dB h=>a9 (λ u17 t16 h=>dE (λ x18 h=>a9 (λ u20 t19 h=>i8 (λ x21 h=>c8 (λ h=>c8 (λ h=>f x3 x9 x12 dB x18 x21 h) h) h) h) h) h) h) h) h) h) h) h) h) h) h) h) h
theorem Jh {us} {k k':aI->aw->Int->aw->Int->aw->Prop} (f:∀x3 x9 x12 dB x18 x21,k x3 x9 x12 dB x18 x21->k' x3 x9 x12 dB x18 x21):Lz us k->Lz us k':=ba (λ u2 t1=>gR (λ x3=>ba (λ u5 t4=>jO (λ l6=>ba (λ u8 t7=>i9 (λ x9=>ba (λ u11 t10=>dF (λ x12=>ba (λ u14 t13=>i9 (λ dB=>ba (λ u17 t16=>dF (λ x18=>ba (λ u20 t19=>i9 (λ x21=>c9 (c9 (f x3 x9 x12 dB x18 x21))))))))))))))))
abbrev Lr (us:List V) (k:aI->aw->Int->List Int->Prop):Prop:=nC us λ u2 t1=>vR u2 λ x3=>nC t1 λ u5 t4=>vT u5 λ l6=>nC l6 λ u8 t7=>vS u8 λ x9=>nC t7 λ u11 t10=>vI u11 λ x12=>nC t10 λ u14 t13=>vY u14 λ dB=>nN t13<|nN t4<|k x3 x9 x12 dB
@[elab_as_elim] theorem KV {W:List V->Prop} {us} {k:aI->aw->Int->List Int->Prop} (f:∀x3 x9 x12 dB,k x3 x9 x12 dB->W [.ref x3,.tuple [.str x9,.int x12,.bytes dB]]) (h:Lr us k):W us:=a9 (λ u2 t1 h=>gY (λ x3 h=>a9 (λ u5 t4 h=>jQ (λ l6 h=>a9 (λ u8 t7 h=>i8 (λ x9 h=>a9 (λ u11 t10 h=>dE (λ x12 h=>a9 (λ u14 t13 h=>DB (λ dB h=>c8 (λ h=>c8 (λ h=>f x3 x9 x12 dB h) h) h) h) h) h) h) h) h) h) h) h) h
theorem Kb {us} {k k':aI->aw->Int->List Int->Prop} (f:∀x3 x9 x12 dB,k x3 x9 x12 dB->k' x3 x9 x12 dB):Lr us k->Lr us k':=ba (λ u2 t1=>gR (λ x3=>ba (λ u5 t4=>jO (λ l6=>ba (λ u8 t7=>i9 (λ x9=>ba (λ u11 t10=>dF (λ x12=>ba (λ u14 t13=>B4 (λ dB=>c9 (c9 (f x3 x9 x12 dB))))))))))))
abbrev K4 (us:List V) (k:aI->aw->List V->aw->Int->Prop):Prop:=nC us λ u2 t1=>vR u2 λ x3=>nC t1 λ u5 t4=>vT u5 λ l6=>nC l6 λ u7 x8=>vS u7 λ x9=>nC t4 λ u11 t10=>vS u11 λ x12=>nC t10 λ u14 t13=>vI u14 λ dB=>nN t13<|k x3 x9 x8 x12 dB
@[elab_as_elim] theorem J9 {W:List V->Prop} {us} {k:aI->aw->List V->aw->Int->Prop} (f:∀x3 x9 x8 x12 dB,k x3 x9 x8 x12 dB->W [.ref x3,.tuple (.str x9::x8),.str x12,.int dB]) (h:K4 us k):W us:=a9 (λ u2 t1 h=>gY (λ x3 h=>a9 (λ u5 t4 h=>jQ (λ l6 h=>a9 (λ u7 x8 h=>i8 (λ x9 h=>a9 (λ u11 t10 h=>i8 (λ x12 h=>a9 (λ u14 t13 h=>dE (λ dB h=>c8 (λ h=>f x3 x9 x8 x12 dB h) h) h) h) h) h) h) h) h) h) h) h
theorem IU {us} {k k':aI->aw->List V->aw->Int->Prop} (f:∀x3 x9 x8 x12 dB,k x3 x9 x8 x12 dB->k' x3 x9 x8 x12 dB):K4 us k->K4 us k':=ba (λ u2 t1=>gR (λ x3=>ba (λ u5 t4=>jO (λ l6=>ba (λ u7 x8=>i9 (λ x9=>ba (λ u11 t10=>i9 (λ x12=>ba (λ u14 t13=>dF (λ dB=>c9 (f x3 x9 x8 x12 dB)))))))))))
abbrev LD (us:List V) (k:aI->aw->aw->Int->List Int->Prop):Prop:=nC us λ u2 t1=>vR u2 λ x3=>nC t1 λ u5 t4=>vT u5 λ l6=>nC l6 λ u8 t7=>vS u8 λ x9=>nC t7 λ u11 t10=>vS u11 λ x12=>nC t10 λ u14 t13=>vI u14 λ dB=>nC t13 λ u17 t16=>vY u17 λ x18=>nN t16<|nN t4<|k x3 x9 x12 dB x18
@[elab_as_elim] theorem KN {W:List V->Prop} {us} {k:aI->aw->aw->Int->List Int->Prop} (f:∀x3 x9 x12 dB x18,k x3 x9 x12 dB x18->W [.ref x3,.tuple [.str x9,.str x12,.int dB,.bytes x18]]) (h:LD us k):W us:=a9 (λ u2 t1 h=>gY (λ x3 h=>a9 (λ u5 t4 h=>jQ (λ l6 h=>a9 (λ u8 t7 h=>i8 (λ x9 h=>a9 (λ u11 t10 h=>i8 (λ x12 h=>a9 (λ u14 t13 h=>dE (λ dB h=>a9 (λ u17 t16 h=>DB (λ x18 h=>c8 (λ h=>c8 (λ h=>f x3 x9 x12 dB x18 h) h) h) h) h) h) h) h) h) h) h) h) h) h) h
theorem J1 {us} {k k':aI->aw->aw->Int->List Int->Prop} (f:∀x3 x9 x12 dB x18,k x3 x9 x12 dB x18->k' x3 x9 x12 dB x18):LD us k->LD us k':=ba (λ u2 t1=>gR (λ x3=>ba (λ u5 t4=>jO (λ l6=>ba (λ u8 t7=>i9 (λ x9=>ba (λ u11 t10=>i9 (λ x12=>ba (λ u14 t13=>dF (λ dB=>ba (λ u17 t16=>B4 (λ x18=>c9 (c9 (f x3 x9 x12 dB x18))))))))))))))
abbrev Ld (us:List V) (k:aI->aw->Int->List V->aw->Int->V->Prop):Prop:=nC us λ u2 t1=>vR u2 λ x3=>nC t1 λ u5 t4=>vT u5 λ l6=>nC l6 λ u8 t7=>vS u8 λ x9=>nC t7 λ u11 t10=>vI u11 λ x12=>nC t10 λ u14 t13=>vT u14 λ dB=>nC t13 λ u17 t16=>vS u17 λ x18=>nC t16 λ u20 t19=>vI u20 λ x21=>nC t19 λ x23 t22=>nN t22<|nN t4<|k x3 x9 x12 dB x18 x21 x23
@[elab_as_elim] theorem Kh {W:List V->Prop} {us} {k:aI->aw->Int->List V->aw->Int->V->Prop} (f:∀x3 x9 x12 dB x18 x21 x23,k x3 x9 x12 dB x18 x21 x23->W [.ref x3,.tuple [.str x9,.int x12,.tuple dB,.str x18,.int x21,x23]]) (h:Ld us k):W us:=a9 (λ u2 t1 h=>gY (λ x3 h=>a9 (λ u5 t4 h=>jQ (λ l6 h=>a9 (λ u8 t7 h=>i8 (λ x9 h=>a9 (λ u11 t10 h=>dE (λ x12 h=>a9 (λ u14 t13 h=>jQ (λ dB h=>a9 (λ u17 t16 h=>i8 (λ x18 h=>a9 (λ u20 t19 h=>dE (λ x21 h=>a9 (λ x23 t22 h=>c8 (λ h=>c8 (λ h=>f x3 x9 x12 dB x18 x21 x23 h) h) h) h) h) h) h) h) h) h) h) h) h) h) h) h) h) h
theorem Ji {us} {k k':aI->aw->Int->List V->aw->Int->V->Prop} (f:∀x3 x9 x12 dB x18 x21 x23,k x3 x9 x12 dB x18 x21 x23->k' x3 x9 x12 dB x18 x21 x23):Ld us k->Ld us k':=ba (λ u2 t1=>gR (λ x3=>ba (λ u5 t4=>jO (λ l6=>ba (λ u8 t7=>i9 (λ x9=>ba (λ u11 t10=>dF (λ x12=>ba (λ u14 t13=>jO (λ dB=>ba (λ u17 t16=>i9 (λ x18=>ba (λ u20 t19=>dF (λ x21=>ba (λ x23 t22=>c9 (c9 (f x3 x9 x12 dB x18 x21 x23)))))))))))))))))
abbrev Lj (us:List V) (k:aI->Int->Int->Prop):Prop:=nC us λ u2 t1=>vR u2 λ x3=>nC t1 λ u5 t4=>vI u5 λ x6=>nC t4 λ u8 t7=>vI u8 λ x9=>nN t7<|k x3 x6 x9
@[elab_as_elim] theorem KS {W:List V->Prop} {us} {k:aI->Int->Int->Prop} (f:∀x3 x6 x9,k x3 x6 x9->W [.ref x3,.int x6,.int x9]) (h:Lj us k):W us:=a9 (λ u2 t1 h=>gY (λ x3 h=>a9 (λ u5 t4 h=>dE (λ x6 h=>a9 (λ u8 t7 h=>dE (λ x9 h=>c8 (λ h=>f x3 x6 x9 h) h) h) h) h) h) h) h
theorem Kx {us} {k k':aI->Int->Int->Prop} (f:∀x3 x6 x9,k x3 x6 x9->k' x3 x6 x9):Lj us k->Lj us k':=ba (λ u2 t1=>gR (λ x3=>ba (λ u5 t4=>dF (λ x6=>ba (λ u8 t7=>dF (λ x9=>c9 (f x3 x6 x9)))))))
abbrev LG (us:List V) (k:aI->aw->V->V->Int->Int->Int->Int->Int->List V->Prop):Prop:=nC us λ u2 t1=>vR u2 λ x3=>nC t1 λ u5 t4=>vT u5 λ l6=>nC l6 λ u8 t7=>vS u8 λ x9=>nC t7 λ x11 t10=>nC t10 λ x13 t12=>nC t12 λ u15 t14=>vI u15 λ x16=>nC t14 λ u18 t17=>vI u18 λ x19=>nC t17 λ u21 t20=>vI u21 λ x22=>nC t20 λ u24 t23=>vI u24 λ x25=>nC t23 λ u27 t26=>vI u27 λ x28=>nC t26 λ u30 t29=>vT u30 λ my=>nN t29<|nN t4<|k x3 x9 x11 x13 x16 x19 x22 x25 x28 my
@[elab_as_elim] theorem K0 {W:List V->Prop} {us} {k:aI->aw->V->V->Int->Int->Int->Int->Int->List V->Prop} (f:∀x3 x9 x11 x13 x16 x19 x22 x25 x28 my,k x3 x9 x11 x13 x16 x19 x22 x25 x28 my->W [.ref x3,.tuple [.str x9,x11,x13,.int x16,.int x19,.int x22,.int x25,.int x28,.tuple my]]) (h:LG us k):W us:=a9 (λ u2 t1 h=>gY (λ x3 h=>a9 (λ u5 t4 h=>jQ (λ l6 h=>a9 (λ u8 t7 h=>i8 (λ x9 h=>a9 (λ x11 t10 h=>a9 (λ x13 t12 h=>a9 (λ u15 t14 h=>dE (λ x16 h=>a9 (λ u18 t17 h=>dE (λ x19 h=>a9 (λ u21 t20 h=>dE (λ x22 h=>a9 (λ u24 t23 h=>dE (λ x25 h=>a9 (λ u27 t26 h=>dE (λ x28 h=>a9 (λ u30 t29 h=>jQ (λ my h=>c8 (λ h=>c8 (λ h=>f x3 x9 x11 x13 x16 x19 x22 x25 x28 my h) h) h) h) h) h) h) h) h) h) h) h) h) h) h) h) h) h) h) h) h) h) h
theorem KJ {us} {k k':aI->aw->V->V->Int->Int->Int->Int->Int->List V->Prop} (f:∀x3 x9 x11 x13 x16 x19 x22 x25 x28 my,k x3 x9 x11 x13 x16 x19 x22 x25 x28 my->k' x3 x9 x11 x13 x16 x19 x22 x25 x28 my):LG us k->LG us k':=ba (λ u2 t1=>gR (λ x3=>ba (λ u5 t4=>jO (λ l6=>ba (λ u8 t7=>i9 (λ x9=>ba (λ x11 t10=>ba (λ x13 t12=>ba (λ u15 t14=>dF (λ x16=>ba (λ u18 t17=>dF (λ x19=>ba (λ u21 t20=>dF (λ x22=>ba (λ u24 t23=>dF (λ x25=>ba (λ u27 t26=>dF (λ x28=>ba (λ u30 t29=>jO (λ my=>c9 (c9 (f x3 x9 x11 x13 x16 x19 x22 x25 x28 my))))))))))))))))))))))
abbrev Ly (us:List V) (k:Prop):Prop:=nN us<|k
@[elab_as_elim] theorem KR {W:List V->Prop} {us} {k:Prop} (f:k->W []) (h:Ly us k):W us:=c8 (λ h=>f h) h
theorem JV {us} {k k':Prop} (f:k->k'):Ly us k->Ly us k':=c9 (f)
abbrev Ic (us:List V) (k:Int->Int->Prop):Prop:=nC us λ u2 t1=>vT u2 λ l3=>nC l3 λ u5 t4=>vT u5 λ l6=>nC l6 λ u8 t7=>vI u8 λ x9=>nC t7 λ u11 t10=>vI u11 λ x12=>nN t10<|nN t4<|nN t1<|k x9 x12
@[elab_as_elim] theorem K1 {W:List V->Prop} {us} {k:Int->Int->Prop} (f:∀x9 x12,k x9 x12->W [.tuple [.tuple [.int x9,.int x12]]]) (h:Ic us k):W us:=a9 (λ u2 t1 h=>jQ (λ l3 h=>a9 (λ u5 t4 h=>jQ (λ l6 h=>a9 (λ u8 t7 h=>dE (λ x9 h=>a9 (λ u11 t10 h=>dE (λ x12 h=>c8 (λ h=>c8 (λ h=>c8 (λ h=>f x9 x12 h) h) h) h) h) h) h) h) h) h) h) h
theorem K2 {us} {k k':Int->Int->Prop} (f:∀x9 x12,k x9 x12->k' x9 x12):Ic us k->Ic us k':=ba (λ u2 t1=>jO (λ l3=>ba (λ u5 t4=>jO (λ l6=>ba (λ u8 t7=>dF (λ x9=>ba (λ u11 t10=>dF (λ x12=>c9 (c9 (c9 (f x9 x12)))))))))))
abbrev Ll (us:List V) (k:aI->V->V->Prop):Prop:=nC us λ u2 t1=>vR u2 λ x3=>nC t1 λ x5 t4=>nC t4 λ x7 t6=>nN t6<|k x3 x5 x7
@[elab_as_elim] theorem J4 {W:List V->Prop} {us} {k:aI->V->V->Prop} (f:∀x3 x5 x7,k x3 x5 x7->W [.ref x3,x5,x7]) (h:Ll us k):W us:=a9 (λ u2 t1 h=>gY (λ x3 h=>a9 (λ x5 t4 h=>a9 (λ x7 t6 h=>c8 (λ h=>f x3 x5 x7 h) h) h) h) h) h
theorem Ky {us} {k k':aI->V->V->Prop} (f:∀x3 x5 x7,k x3 x5 x7->k' x3 x5 x7):Ll us k->Ll us k':=ba (λ u2 t1=>gR (λ x3=>ba (λ x5 t4=>ba (λ x7 t6=>c9 (f x3 x5 x7)))))
abbrev K6 (us:List V) (k:V->Int->Prop):Prop:=nC us λ x2 t1=>nC t1 λ u4 t3=>vI u4 λ x5=>nN t3<|k x2 x5
@[elab_as_elim] theorem KD {W:List V->Prop} {us} {k:V->Int->Prop} (f:∀x2 x5,k x2 x5->W [x2,.int x5]) (h:K6 us k):W us:=a9 (λ x2 t1 h=>a9 (λ u4 t3 h=>dE (λ x5 h=>c8 (λ h=>f x2 x5 h) h) h) h) h
theorem JB {us} {k k':V->Int->Prop} (f:∀x2 x5,k x2 x5->k' x2 x5):K6 us k->K6 us k':=ba (λ x2 t1=>ba (λ u4 t3=>dF (λ x5=>c9 (f x2 x5))))
abbrev JU (us:List V) (k:aI->V->Int->Prop):Prop:=nC us λ u2 t1=>vR u2 λ x3=>nC t1 λ x5 t4=>nC t4 λ u7 t6=>vI u7 λ x8=>nN t6<|k x3 x5 x8
@[elab_as_elim] theorem Fu {W:List V->Prop} {us} {k:aI->V->Int->Prop} (f:∀x3 x5 x8,k x3 x5 x8->W [.ref x3,x5,.int x8]) (h:JU us k):W us:=a9 (λ u2 t1 h=>gY (λ x3 h=>a9 (λ x5 t4 h=>a9 (λ u7 t6 h=>dE (λ x8 h=>c8 (λ h=>f x3 x5 x8 h) h) h) h) h) h) h
theorem FM {us} {k k':aI->V->Int->Prop} (f:∀x3 x5 x8,k x3 x5 x8->k' x3 x5 x8):JU us k->JU us k':=ba (λ u2 t1=>gR (λ x3=>ba (λ x5 t4=>ba (λ u7 t6=>dF (λ x8=>c9 (f x3 x5 x8))))))
abbrev Lb (us:List V) (k:aI->Int->Int->Prop):Prop:=nC us λ u2 t1=>vR u2 λ x3=>nC t1 λ u5 t4=>vT u5 λ l6=>nC l6 λ u8 t7=>vI u8 λ x9=>nN t7<|nC t4 λ u11 t10=>vI u11 λ x12=>nN t10<|k x3 x9 x12
@[elab_as_elim] theorem Ke {W:List V->Prop} {us} {k:aI->Int->Int->Prop} (f:∀x3 x9 x12,k x3 x9 x12->W [.ref x3,.tuple [.int x9],.int x12]) (h:Lb us k):W us:=a9 (λ u2 t1 h=>gY (λ x3 h=>a9 (λ u5 t4 h=>jQ (λ l6 h=>a9 (λ u8 t7 h=>dE (λ x9 h=>c8 (λ h=>a9 (λ u11 t10 h=>dE (λ x12 h=>c8 (λ h=>f x3 x9 x12 h) h) h) h) h) h) h) h) h) h) h
theorem I9 {us} {k k':aI->Int->Int->Prop} (f:∀x3 x9 x12,k x3 x9 x12->k' x3 x9 x12):Lb us k->Lb us k':=ba (λ u2 t1=>gR (λ x3=>ba (λ u5 t4=>jO (λ l6=>ba (λ u8 t7=>dF (λ x9=>c9 (ba (λ u11 t10=>dF (λ x12=>c9 (f x3 x9 x12))))))))))
abbrev Lv (us:List V) (k:V->Prop):Prop:=nC us λ x2 t1=>nC t1 λ u4 t3=>vT u4 λ l5=>nC l5 λ u7 t6=>Ij u7<|nN t6<|nN t3<|k x2
@[elab_as_elim] theorem Jc {W:List V->Prop} {us} {k:V->Prop} (f:∀x2,k x2->W [x2,.tuple [.int 32]]) (h:Lv us k):W us:=a9 (λ x2 t1 h=>a9 (λ u4 t3 h=>jQ (λ l5 h=>a9 (λ u7 t6 h=>BG (λ h=>c8 (λ h=>c8 (λ h=>f x2 h) h) h) h) h) h) h) h
theorem Jo {us} {k k':V->Prop} (f:∀x2,k x2->k' x2):Lv us k->Lv us k':=ba (λ x2 t1=>ba (λ u4 t3=>jO (λ l5=>ba (λ u7 t6=>Cp (c9 (c9 (f x2)))))))
abbrev K8 (us:List V) (k:aI->aw->V->Prop):Prop:=nC us λ u2 t1=>vR u2 λ x3=>nC t1 λ u5 t4=>vS u5 λ x6=>nC t4 λ x8 t7=>nC t7 λ u10 t9=>vT u10 λ l11=>nC l11 λ u13 t12=>Ij u13<|nN t12<|nN t9<|k x3 x6 x8
@[elab_as_elim] theorem Kq {W:List V->Prop} {us} {k:aI->aw->V->Prop} (f:∀x3 x6 x8,k x3 x6 x8->W [.ref x3,.str x6,x8,.tuple [.int 32]]) (h:K8 us k):W us:=a9 (λ u2 t1 h=>gY (λ x3 h=>a9 (λ u5 t4 h=>i8 (λ x6 h=>a9 (λ x8 t7 h=>a9 (λ u10 t9 h=>jQ (λ l11 h=>a9 (λ u13 t12 h=>BG (λ h=>c8 (λ h=>c8 (λ h=>f x3 x6 x8 h) h) h) h) h) h) h) h) h) h) h) h
theorem JT {us} {k k':aI->aw->V->Prop} (f:∀x3 x6 x8,k x3 x6 x8->k' x3 x6 x8):K8 us k->K8 us k':=ba (λ u2 t1=>gR (λ x3=>ba (λ u5 t4=>i9 (λ x6=>ba (λ x8 t7=>ba (λ u10 t9=>jO (λ l11=>ba (λ u13 t12=>Cp (c9 (c9 (f x3 x6 x8)))))))))))
abbrev Lf (us:List V) (k:aw->List V->Prop):Prop:=nC us λ u2 t1=>vS u2 λ x3=>nC t1 λ u5 t4=>vT u5 λ l6=>nC l6 λ u8 t7=>Ij u8<|nN t7<|nC t4 λ u10 t9=>vT u10 λ x11=>nC t9 λ u13 t12=>y6 u13<|nN t12<|k x3 x11
@[elab_as_elim] theorem KF {W:List V->Prop} {us} {k:aw->List V->Prop} (f:∀x3 x11,k x3 x11->W [.str x3,.tuple [.int 32],.tuple x11,.bool true]) (h:Lf us k):W us:=a9 (λ u2 t1 h=>i8 (λ x3 h=>a9 (λ u5 t4 h=>jQ (λ l6 h=>a9 (λ u8 t7 h=>BG (λ h=>c8 (λ h=>a9 (λ u10 t9 h=>jQ (λ x11 h=>a9 (λ u13 t12 h=>EL (λ h=>c8 (λ h=>f x3 x11 h) h) h) h) h) h) h) h) h) h) h) h) h
theorem IZ {us} {k k':aw->List V->Prop} (f:∀x3 x11,k x3 x11->k' x3 x11):Lf us k->Lf us k':=ba (λ u2 t1=>i9 (λ x3=>ba (λ u5 t4=>jO (λ l6=>ba (λ u8 t7=>Cp (c9 (ba (λ u10 t9=>jO (λ x11=>ba (λ u13 t12=>EG (c9 (f x3 x11))))))))))))
abbrev Lk (us:List V) (k:List V->Int->Prop):Prop:=nC us λ u2 t1=>vF u2 λ x3=>nC t1 λ u5 t4=>vI u5 λ x6=>nN t4<|k x3 x6
@[elab_as_elim] theorem J8 {W:List V->Prop} {us} {k:List V->Int->Prop} (f:∀x3 x6,k x3 x6->W [.flist x3,.int x6]) (h:Lk us k):W us:=a9 (λ u2 t1 h=>Ac (λ x3 h=>a9 (λ u5 t4 h=>dE (λ x6 h=>c8 (λ h=>f x3 x6 h) h) h) h) h) h
theorem KW {us} {k k':List V->Int->Prop} (f:∀x3 x6,k x3 x6->k' x3 x6):Lk us k->Lk us k':=ba (λ u2 t1=>An (λ x3=>ba (λ u5 t4=>dF (λ x6=>c9 (f x3 x6)))))
abbrev LH (us:List V) (k:Int->Int->Int->Int->Bool->Prop):Prop:=nC us λ u2 t1=>vI u2 λ x3=>nC t1 λ u5 t4=>vI u5 λ x6=>nC t4 λ u8 t7=>vI u8 λ x9=>nC t7 λ u11 t10=>vI u11 λ x12=>nC t10 λ u14 t13=>vB u14 λ dB=>nN t13<|k x3 x6 x9 x12 dB
@[elab_as_elim] theorem KO {W:List V->Prop} {us} {k:Int->Int->Int->Int->Bool->Prop} (f:∀x3 x6 x9 x12 dB,k x3 x6 x9 x12 dB->W [.int x3,.int x6,.int x9,.int x12,.bool dB]) (h:LH us k):W us:=a9 (λ u2 t1 h=>dE (λ x3 h=>a9 (λ u5 t4 h=>dE (λ x6 h=>a9 (λ u8 t7 h=>dE (λ x9 h=>a9 (λ u11 t10 h=>dE (λ x12 h=>a9 (λ u14 t13 h=>Hf (λ dB h=>c8 (λ h=>f x3 x6 x9 x12 dB h) h) h) h) h) h) h) h) h) h) h) h
theorem JD {us} {k k':Int->Int->Int->Int->Bool->Prop} (f:∀x3 x6 x9 x12 dB,k x3 x6 x9 x12 dB->k' x3 x6 x9 x12 dB):LH us k->LH us k':=ba (λ u2 t1=>dF (λ x3=>ba (λ u5 t4=>dF (λ x6=>ba (λ u8 t7=>dF (λ x9=>ba (λ u11 t10=>dF (λ x12=>ba (λ u14 t13=>HJ (λ dB=>c9 (f x3 x6 x9 x12 dB)))))))))))
abbrev Lw (us:List V) (k:Int->Int->Int->Int->aI->aI->Prop):Prop:=nC us λ u2 t1=>vI u2 λ x3=>nC t1 λ u5 t4=>vI u5 λ x6=>nC t4 λ u8 t7=>vI u8 λ x9=>nC t7 λ u11 t10=>vI u11 λ x12=>nC t10 λ u14 t13=>vR u14 λ dB=>nC t13 λ u17 t16=>vR u17 λ x18=>nN t16<|k x3 x6 x9 x12 dB x18
@[elab_as_elim] theorem KP {W:List V->Prop} {us} {k:Int->Int->Int->Int->aI->aI->Prop} (f:∀x3 x6 x9 x12 dB x18,k x3 x6 x9 x12 dB x18->W [.int x3,.int x6,.int x9,.int x12,.ref dB,.ref x18]) (h:Lw us k):W us:=a9 (λ u2 t1 h=>dE (λ x3 h=>a9 (λ u5 t4 h=>dE (λ x6 h=>a9 (λ u8 t7 h=>dE (λ x9 h=>a9 (λ u11 t10 h=>dE (λ x12 h=>a9 (λ u14 t13 h=>gY (λ dB h=>a9 (λ u17 t16 h=>gY (λ x18 h=>c8 (λ h=>f x3 x6 x9 x12 dB x18 h) h) h) h) h) h) h) h) h) h) h) h) h) h
theorem IW {us} {k k':Int->Int->Int->Int->aI->aI->Prop} (f:∀x3 x6 x9 x12 dB x18,k x3 x6 x9 x12 dB x18->k' x3 x6 x9 x12 dB x18):Lw us k->Lw us k':=ba (λ u2 t1=>dF (λ x3=>ba (λ u5 t4=>dF (λ x6=>ba (λ u8 t7=>dF (λ x9=>ba (λ u11 t10=>dF (λ x12=>ba (λ u14 t13=>gR (λ dB=>ba (λ u17 t16=>gR (λ x18=>c9 (f x3 x6 x9 x12 dB x18)))))))))))))
abbrev Lu (us:List V) (k:Int->Int->Int->Int->Int->Bool->Prop):Prop:=nC us λ u2 t1=>vI u2 λ x3=>nC t1 λ u5 t4=>vI u5 λ x6=>nC t4 λ u8 t7=>vT u8 λ l9=>nC l9 λ u11 t10=>vI u11 λ x12=>nC t10 λ u14 t13=>vI u14 λ dB=>nN t13<|nC t7 λ u17 t16=>vI u17 λ x18=>nC t16 λ u20 t19=>vB u20 λ x21=>nN t19<|k x3 x6 x12 dB x18 x21
@[elab_as_elim] theorem Kt {W:List V->Prop} {us} {k:Int->Int->Int->Int->Int->Bool->Prop} (f:∀x3 x6 x12 dB x18 x21,k x3 x6 x12 dB x18 x21->W [.int x3,.int x6,.tuple [.int x12,.int dB],.int x18,.bool x21]) (h:Lu us k):W us:=a9 (λ u2 t1 h=>dE (λ x3 h=>a9 (λ u5 t4 h=>dE (λ x6 h=>a9 (λ u8 t7 h=>jQ (λ l9 h=>a9 (λ u11 t10 h=>dE (λ x12 h=>a9 (λ u14 t13 h=>dE (λ dB h=>c8 (λ h=>a9 (λ u17 t16 h=>dE (λ x18 h=>a9 (λ u20 t19 h=>Hf (λ x21 h=>c8 (λ h=>f x3 x6 x12 dB x18 x21 h) h) h) h) h) h) h) h) h) h) h) h) h) h) h) h) h
theorem Kn {us} {k k':Int->Int->Int->Int->Int->Bool->Prop} (f:∀x3 x6 x12 dB x18 x21,k x3 x6 x12 dB x18 x21->k' x3 x6 x12 dB x18 x21):Lu us k->Lu us k':=ba (λ u2 t1=>dF (λ x3=>ba (λ u5 t4=>dF (λ x6=>ba (λ u8 t7=>jO (λ l9=>ba (λ u11 t10=>dF (λ x12=>ba (λ u14 t13=>dF (λ dB=>c9 (ba (λ u17 t16=>dF (λ x18=>ba (λ u20 t19=>HJ (λ x21=>c9 (f x3 x6 x12 dB x18 x21))))))))))))))))
abbrev Lq (us:List V) (k:Int->List V->List V->aI->Prop):Prop:=nC us λ u2 t1=>vI u2 λ x3=>nC t1 λ u5 t4=>vT u5 λ x6=>nC t4 λ u8 t7=>vF u8 λ x9=>nC t7 λ u11 t10=>vR u11 λ x12=>nN t10<|k x3 x6 x9 x12
@[elab_as_elim] theorem JY {W:List V->Prop} {us} {k:Int->List V->List V->aI->Prop} (f:∀x3 x6 x9 x12,k x3 x6 x9 x12->W [.int x3,.tuple x6,.flist x9,.ref x12]) (h:Lq us k):W us:=a9 (λ u2 t1 h=>dE (λ x3 h=>a9 (λ u5 t4 h=>jQ (λ x6 h=>a9 (λ u8 t7 h=>Ac (λ x9 h=>a9 (λ u11 t10 h=>gY (λ x12 h=>c8 (λ h=>f x3 x6 x9 x12 h) h) h) h) h) h) h) h) h) h
theorem JS {us} {k k':Int->List V->List V->aI->Prop} (f:∀x3 x6 x9 x12,k x3 x6 x9 x12->k' x3 x6 x9 x12):Lq us k->Lq us k':=ba (λ u2 t1=>dF (λ x3=>ba (λ u5 t4=>jO (λ x6=>ba (λ u8 t7=>An (λ x9=>ba (λ u11 t10=>gR (λ x12=>c9 (f x3 x6 x9 x12)))))))))
abbrev LB (us:List V) (k:List V->List V->Int->aw->Prop):Prop:=nC us λ u2 t1=>vT u2 λ x3=>nC t1 λ u5 t4=>vF u5 λ x6=>nC t4 λ u8 t7=>vI u8 λ x9=>nC t7 λ u11 t10=>vS u11 λ x12=>nN t10<|k x3 x6 x9 x12
@[elab_as_elim] theorem Jk {W:List V->Prop} {us} {k:List V->List V->Int->aw->Prop} (f:∀x3 x6 x9 x12,k x3 x6 x9 x12->W [.tuple x3,.flist x6,.int x9,.str x12]) (h:LB us k):W us:=a9 (λ u2 t1 h=>jQ (λ x3 h=>a9 (λ u5 t4 h=>Ac (λ x6 h=>a9 (λ u8 t7 h=>dE (λ x9 h=>a9 (λ u11 t10 h=>i8 (λ x12 h=>c8 (λ h=>f x3 x6 x9 x12 h) h) h) h) h) h) h) h) h) h
theorem Ju {us} {k k':List V->List V->Int->aw->Prop} (f:∀x3 x6 x9 x12,k x3 x6 x9 x12->k' x3 x6 x9 x12):LB us k->LB us k':=ba (λ u2 t1=>jO (λ x3=>ba (λ u5 t4=>An (λ x6=>ba (λ u8 t7=>dF (λ x9=>ba (λ u11 t10=>i9 (λ x12=>c9 (f x3 x6 x9 x12)))))))))
abbrev LC (us:List V) (k:List V->aw->Prop):Prop:=nC us λ u2 t1=>vF u2 λ x3=>nC t1 λ u5 t4=>vS u5 λ x6=>nN t4<|k x3 x6
@[elab_as_elim] theorem JQ {W:List V->Prop} {us} {k:List V->aw->Prop} (f:∀x3 x6,k x3 x6->W [.flist x3,.str x6]) (h:LC us k):W us:=a9 (λ u2 t1 h=>Ac (λ x3 h=>a9 (λ u5 t4 h=>i8 (λ x6 h=>c8 (λ h=>f x3 x6 h) h) h) h) h) h
theorem Jr {us} {k k':List V->aw->Prop} (f:∀x3 x6,k x3 x6->k' x3 x6):LC us k->LC us k':=ba (λ u2 t1=>An (λ x3=>ba (λ u5 t4=>i9 (λ x6=>c9 (f x3 x6)))))
abbrev Li (us:List V) (k:List V->Int->Int->List V->Prop):Prop:=nC us λ u2 t1=>vF u2 λ x3=>nC t1 λ u5 t4=>vI u5 λ x6=>nC t4 λ u8 t7=>vI u8 λ x9=>nC t7 λ u11 t10=>vT u11 λ x12=>nN t10<|k x3 x6 x9 x12
@[elab_as_elim] theorem Ks {W:List V->Prop} {us} {k:List V->Int->Int->List V->Prop} (f:∀x3 x6 x9 x12,k x3 x6 x9 x12->W [.flist x3,.int x6,.int x9,.tuple x12]) (h:Li us k):W us:=a9 (λ u2 t1 h=>Ac (λ x3 h=>a9 (λ u5 t4 h=>dE (λ x6 h=>a9 (λ u8 t7 h=>dE (λ x9 h=>a9 (λ u11 t10 h=>jQ (λ x12 h=>c8 (λ h=>f x3 x6 x9 x12 h) h) h) h) h) h) h) h) h) h
theorem IY {us} {k k':List V->Int->Int->List V->Prop} (f:∀x3 x6 x9 x12,k x3 x6 x9 x12->k' x3 x6 x9 x12):Li us k->Li us k':=ba (λ u2 t1=>An (λ x3=>ba (λ u5 t4=>dF (λ x6=>ba (λ u8 t7=>dF (λ x9=>ba (λ u11 t10=>jO (λ x12=>c9 (f x3 x6 x9 x12)))))))))
abbrev Lx (us:List V) (k:List V->Prop):Prop:=nC us λ u2 t1=>vF u2 λ x3=>nN t1<|k x3
@[elab_as_elim] theorem KC {W:List V->Prop} {us} {k:List V->Prop} (f:∀x3,k x3->W [.flist x3]) (h:Lx us k):W us:=a9 (λ u2 t1 h=>Ac (λ x3 h=>c8 (λ h=>f x3 h) h) h) h
theorem JW {us} {k k':List V->Prop} (f:∀x3,k x3->k' x3):Lx us k->Lx us k':=ba (λ u2 t1=>An (λ x3=>c9 (f x3)))
noncomputable def lenOf (H:MH):V->Option Nat
 |.tuple us=>some us.length
 |.flist us=>some us.length
 |.bytes b=>some b.length
 |.ref a=>match H a with
  |some (.list us)=>some us.length
  |_=>none
 |_=>none
def BN:cB:=λ us H Q X=>q1 us λ u=>match lenOf H u with
  |some n=>n<=1000000/\Q (.int n) H
  |none=>False
def uE:cB:=λ us H Q X=>q2 us λ n=>-1000000<=n/\n<=1000000/\Q (.range n) H
def uj:cB:=λ us H Q X=>q3 us λ a=>∃l:List Int,H a=some (.list (l.map .int))/\il l/\Q (.bytes l) H
def BD:cB:=λ us H Q X=>q2 us λ k=>0<=k/\k<=9/\Q (.str (dg k)) H
def uu:cB:=λ us H Q X=>q3 us λ a=>∃vs,H a=some (.list vs)/\vs.length<=100000/\Q (.tuple vs) H
def xc:cB:=λ us H Q X=>q3 us λ a=>∃vs,H a=some (.list vs)/\vs.length<=100000/\∀c,H c=none->Q (.ref c) (H.set c (.list vs))
def qy:cB:=λ us H Q X=>q3 us λ a=>(∃ls:List dX,H a=some (.list (ls.map dX.v))/\(ls.map dX.first).Nodup/\ls.length<=3/\∀c,H c=none->Q (.ref c) (H.set c (.list ((isort dX.first ls).map dX.v))))\/
  (∃es:List (Int×V),(H a=some .edict/\es=[]\/H a=some (.tdict (es.map λ p=>([p.1],p.2))))/\(es.map (·.1)).Nodup/\es.length<=3/\∀c,H c=none->Q (.ref c) (H.set c (.list ((isort (λ k=>k) (es.map (·.1))).map λ k=>.tuple [.int k]))))
def rg:cB:=λ us H Q X=>q4 us λ Z t=>t="str"/\Q (.bool false) H
def CH:cB:=λ us H Q X=>q3 us λ a=>∃bs:List Bool,H a=some (.list (bs.map .bool))/\bs.length<=1000/\Q (.bool (bs.all id)) H
def CX:cB:=λ us H Q X=>q5 us λ a b=>Q (.int (max a b)) H
def rG:cB:=λ us H Q X=>q6 us λ a u=>∃vs,H a=some (.list vs)/\vs.length<=100000/\Q .none (H.set a (.list (vs++[u])))
def qP:cB:=λ us H Q X=>q7 us λ a i u=>∃vs,H a=some (.list vs)/\vs.length<=100000/\0<=i/\i<=vs.length/\Q .none (H.set a (.list (vs.take i.toNat++u::vs.drop i.toNat)))
def CW:cB:=λ us H Q X=>q8 us λ a k=>(H a=some .edict/\Q .none H)\/∃es,H a=some (.tdict es)/\match es.lookup [k] with
  |none=>Q .none H
  |some u=>Q u H
def rV:cB:=λ us H Q X=>q9 us λ a b=>∃es fs,a≠b/\H a=some (.sdict es)/\H b=some (.sdict fs)/\((es++fs).map (·.1)).Nodup/\es.length+fs.length<=100/\Q .none (H.set a (.sdict (es++fs)))
def JP:cB:=λ us H Q X=>LI us λ low cy aA=>∃j:Nat,j<=128/\cy=low+2^j -1/\0<=low/\low %2^j=0/\0<=aA/\aA<=128/\cy<2^aA.toNat/\Q (.int (aA -j)) H
def BZ:cB:=λ us H Q X=>q2 us λ n=>0<=n/\n<=1000/\Q (.int (slotsOf n)) H
def Ct:cB:=λ us H Q X=>KM us λ b=>il b/\Q (.int (numOf b)) H
def Cn:cB:=λ us H Q X=>KM us λ b=>il b/\Q (.bytes b.reverse) H
def E4:cB:=λ us H Q X=>Lg us λ b o=>il b/\(o="big"\/o="little")/\Q (.int (numIn b o)) H
def EJ:cB:=λ us H Q X=>K5 us λ o h=>Q (.str (if o="host" then h else o)) H
def E0:cB:=λ us H Q X=>Le us λ r fields family sets=>∃d,H r=some (.inst (.cls 3) d [])/\r≠fields/\r≠sets/\∀z H',dY (H.del r) H' r z->z.at_=0->z.order="little"->z.sets=sets->(∀i,z.sl i=none)->z.n=0->z.eff=[]->(H.del r) z.dropped=none->Q .none H'
def D5:cB:=λ us H Q X=>q7 us λ a t st=>∃S:List (Int×V),H a=some (.list (S.map stV))/\S.length<=10000/\(∀p∈S,p.1<=t)/\Q .none (H.set a (.list ((S++[(t,st)]).map stV)))
def Eh:cB:=λ us H Q X=>K3 us λ a n k t=>n="meta l4proto"/\dw H a/\∀x y,Q .none (H.set a (.sdict [("meta l4proto",.tuple [.int x,.int y])]))
def Eu:cB:=λ us H Q X=>Lc us λ x n a b=>Q (matchV (fieldV x) "==" n) H
def C3:cB:=λ us H Q X=>q3 us λ r=>∃B z,dY B H r z/\z.eff.length<=1000/\∀c H',dY B H' r {z with pend:=c}->H' c=some (.list [])->Q .none H'
def BV:cB:=λ us H Q X=>q6 us λ r st=>∃B z,dY B H r z/\z.eff.length<=1000/\∀c H',dY B H' r {z with pend:=c,eff:=z.eff++[(z.at_,st)]}->Q .none H'
def CK:cB:=λ us H Q X=>Ie us λ r g=>∃B z,dY B H r z/\match z.sl g with
  |some t=>Q t.v H
  |none=>X whyEmpty H
def Cf:cB:=λ us H Q X=>Ie us λ r g=>∃B z,dY B H r z/\match z.sl g with
  |some t=>t.tag≠"half"/\Q t.v H
  |none=>X whyEmpty H
def EP:cB:=λ us H Q X=>Lh us λ r b o=>∃B z,dY B H r z/\il b/\((if o="host" then z.order else o)="big"\/(if o="host" then z.order else o)="little")/\Q (.int (numIn b (if o="host" then z.order else o))) H
def Ci:cB:=λ us H Q X=>q3 us λ a=>∃vs,H a=some (.list vs)/\vs.length<=1000/\Q (joinV vs) H
def Eb:cB:=λ us H Q X=>LA us λ r g lay=>∃B z,∃ts:List Slot,dY B H r z/\lay=ts.map (λ Z=>.tuple [.int 4,.str "host"])/\(∀(i:Nat) (t:Slot),ts[i]?=some t->z.sl (g+i)=some t/\t.tag≠"half")/\ts.length<=10/\Q (joinV (ts.map Slot.e)) H
def B1:cB:=λ us H Q X=>La us λ r name=>∃B z T,dY B H r z/\cF B z.sets T/\match T.lookup name with
  |none=>Q .none H
  |some ls=>Q (litsV ls) H
def Ei:cB:=λ us H Q X=>Lp us λ r name tag=>∃B z T,dY B H r z/\cF B z.sets T/\Q (whereV T name tag) H
def zH:cB:=λ us H Q X=>Lz us λ r Z g name size order=>∃B z,dY B H r z/\z.n<=10000/\name.length<=100/\∀H',dY B H' r {z with sl:=z.sl.put g ⟨"field",[.str ("meta "++name)],order,size⟩,n:=z.n+1}->Q .none H'
def zR:cB:=λ us H Q X=>Lr us λ r Z g b=>∃B z,dY B H r z/\z.n<=10000/\il b/\∀H',dY B H' r {z with sl:=z.sl.put g ⟨"raw",[.bytes b],"big",b.length⟩,n:=z.n+1}->Q .none H'
def E8:cB:=λ us H Q X=>K4 us λ r tag rest op n=>tag≠"mask"/\Q (matchV (.tuple (.str tag::rest)) op n) H
def Ao:cB:=λ us H Q X=>LD us λ r Z op g b=>∃B z o size nm,dY B H r z/\z.eff.length<=1000/\il b/\z.sl g=some ⟨"field",[.str nm],o,size⟩/\(nm="meta mark"\/nm="meta l4proto"/\op="=="/\g=0)/\
   ((if o="host" then z.order else o)="big"\/(if o="host" then z.order else o)="little")/\
   ∀c H',dY B H' r {z with pend:=c,eff:=z.eff++[(z.at_,matchV (fieldV nm) op (numIn b (if o="host" then z.order else o)))]}->Q .none H'
def AM:cB:=λ us H Q X=>Ld us λ r Z g lay name ve lay2=>∃B z T,∃ts:List Slot,∃l2:List (Int×aw),dY B H r z/\cF B z.sets T/\lay=ts.map (λ Z=>.tuple [.int 4,.str "host"])/\(∀(i:Nat) (t:Slot),ts[i]?=some t->z.sl (g+i)=some t/\t.tag≠"half")/\ts.length<=10/\
   lay2=layV l2/\l2.length<=10/\(∀p∈l2,0<=p.1/\p.1<=1000)/\z.n<=10000/\
   ∀H',dY B H' r {z with sl:=mapPut ⟨"map",[joinV (ts.map Slot.e),whereV T name "map"],"",0⟩ z.sl ve l2,n:=z.n+l2.length}->Q .none H'
def Am:cB:=λ us H Q X=>q6 us λ r row=>∃B z,dY B H r z/\z.eff.length<=1000/\∀c H',dY B H' r {z with pend:=c,eff:=z.eff++[(z.at_,row)]}->Q .none H'
def Dp:cB:=λ us H Q X=>Lj us λ r lo hi=>∃B z,dY B H r z/\(∀g t,(g=lo\/g=hi)->z.sl g=some t->i7 t)/\(∀a b,z.sl lo=some a->a.tag="raw"->z.sl hi=some b->b.tag="raw")/\match pairOf z.sl lo hi with
  |some p=>Q (pairV p) H
  |none=>X whyEmpty H
noncomputable def natAddr (sl:cY) (r3 r4 size:Int) (isNet:Bool) (out:Option V->Prop):Prop:=
 if r3<0 then out (some .none) else match pairOf sl r3 r4 with
  |none=>out none
  |some none=>match sl r3 with
   |some t=>out (some t.e)
   |none=>False
  |some (some p)=>if isNet then ∃j:Nat,j<=128/\p.2=p.1+2^j -1/\0<=p.1/\p.1 %2^j=0/\0<=size/\size<=16/\p.2<2^(8*size).toNat/\out (some (.tuple [.str "net",.int p.1,.int (8*size -j)]))
   else out (some (.tuple [.str "span",.int p.1,.int p.2]))
def zK:cB:=λ us H Q X=>LG us λ r nat kind nf r3 r4 size r6 r7 told=>∃B z,∃ts:List aw,dY B H r z/\z.eff.length<=1000/\told=ts.map .str/\ts.length<=100/\
   (∀g t,(g=r3\/g=r4\/g=r6\/g=r7)->z.sl g=some t->i7 t)/\(∀a b,z.sl r3=some a->a.tag="raw"->z.sl r4=some b->b.tag="raw")/\(∀a b,z.sl r6=some a->a.tag="raw"->z.sl r7=some b->b.tag="raw")/\
   natAddr z.sl r3 r4 size (decide ((ts.filter (·≠("netmap":aw))).length<ts.length)) λ v=>match v with
    |none=>X whyEmpty H
    |some v=>match pairOf z.sl r6 r7 with
     |none=>X whyEmpty H
     |some p=>∀c H',dY B H' r {z with pend:=c,eff:=z.eff++[(z.at_,.tuple [.str "nat",kind,nf,v,pairV p,.tuple ((ts.filter (·≠("netmap":aw))).map .str)])]}->Q .none H'
noncomputable def backs0:List (aw×V):=[("nat",.fn (.user 38)),("expect",.fn (.user 36)),("flow",.fn (.user 36))]
def CJ:cB:=λ us H Q X=>Ly us<|∀c,H c=none->Q (.ref c) (H.set c (.sdict backs0))
def wj:cB:=λ us H Q X=>Ic us λ a b=>Q (if a=b then .tuple [.int a] else .none) H
def Ef:cB:=λ us H Q X=>Ll us λ e box data=>∃d,H e=some (.inst (.cls 4) d [])/\∀c,H c=none->Q .none ((H.set c .edict).set e (.inst (.cls 4) d [("box",box),("data",data),("until",.int 0),("timeout",.int 0),("comment",.str ""),("cells",.ref c)]))
def ET:cB:=λ us H Q X=>K6 us λ v now=>∃x,kh H v x/\Q (.bool true) H
def E7:cB:=λ us H Q X=>q3 us λ s=>∃d,H s=some (.inst (.cls 5) d [])/\∀c,H c=none->Q .none ((H.set c .edict).set s (.inst (.cls 5) d [("table",.ref c)]))
def CE:cB:=λ us H Q X=>JU us λ st v now=>∃b8 x,eh H st b8/\b8.length<=2/\kh H v x/\x.first=x.last/\x.first∉b8.map (λ p=>p.1.first)/\∀H',eh H' st (b8++[(x,v)])->(∀b o,H b=some o->(∀es,o≠.tdict es)->o≠.edict->H' b=some o)->(∀d tb,H st=some (.inst (.cls 5) d [("table",.ref tb)])->∀b,b≠tb->H' b=H b)->Q .none H'
def B0:cB:=λ us H Q X=>Lb us λ st k now=>∃b8,eh H st b8/\k∉b8.map (λ p=>p.1.first)/\Q .none H
def Dv:cB:=λ us H Q X=>q3 us λ st=>∃b8,eh H st b8/\∀c,H c=none->Q (.ref c) (H.set c (.list ((isort (λ p=>p.1.first) b8).map (·.2))))
def Cq:cB:=λ us H Q X=>Ie us λ it n=>∃b8:wZ,H it=some (.list (b8.map (·.2)))/\kC H b8/\b8.length<=3/\(∀p∈b8,p.1.first<=p.1.last)/\(b8.Pairwise λ p q=>p.1.last<q.1.first)/\Q (.int (b8.countP λ p=>decide (p.1.last<n))) H
def Ed:cB:=λ us H Q X=>q3 us λ s=>∃d,H s=some (.inst (.cls 6) d [])/\∀c,H c=none->Q .none ((H.set c (.list [])).set s (.inst (.cls 6) d [("items",.ref c)]))
def Bd:cB:=λ us H Q X=>JU us λ st v now=>∃b8 x,gv H st b8/\b8.length<=2/\kh H v x/\x.first<=x.last/\(∀p∈b8,p.1.last<x.first\/x.last<p.1.first)/\∀d it,H st=some (.inst (.cls 6) d [("items",.ref it)])->Q .none (H.set it (.list ((isort (λ p=>p.1.first) (b8++[(x,v)])).map (·.2))))
def BF:cB:=λ us H Q X=>q3 us λ st=>∃b8,gv H st b8/\∀c,H c=none->Q (.ref c) (H.set c (.list ((isort (λ p=>p.1.first) b8).map (·.2))))
noncomputable def setSpec (aV:List aw):V:=.tuple [.tuple [],.tuple [],.tuple (aV.map .str),.int 0,.int 0,.bool false]
def Hz (iv:Bool) (H H':MH) (st x:aI):Prop:=(∃d,H' st=some (if iv then .inst (.cls 6) d [("items",.ref x)] else .inst (.cls 5) d [("table",.ref x)]))/\H' x=some (if iv then .list [] else .edict)/\H st=none/\H x=none/\st≠x
def CT:cB:=λ us H Q X=>Lv us λ sp=>∃aV,sp=setSpec aV/\∀st x H',Hz (decide (("interval":aw)∈aV)) H H' st x->MH.Sub H H'->Q (.ref st) H'
def ES:cB:=λ us H Q X=>K8 us λ b name sp=>∃d aV,sp=setSpec aV/\H b=some (.inst (.cls 9) d [])/\∀st x H' as,Hz (decide (("interval":aw)∈aV)) H H' st x->MH.Sub (H.del b) H'->H' b=some (.inst (.cls 9) d as)->as.lookup ("store":aw)=some (.ref st)->as.length<=20->Q .none H'
def mX (ls:List dX):Prop:=ls.length<=3/\(∀x∈ls,x.first<=x.last)/\ls.Pairwise (λ x y=>x.last<y.first\/y.last<x.first)/\∀x∈ls,x.data≠[]
def Cz:cB:=λ us H Q X=>Lf us λ name vs=>∃ls,vs=ls.map dX.v/\mX ls/\∀v H',(∀H'':MH,(∀x o,H x=none->H' x=some o->H'' x=some o)->lH H'' v (isort dX.first ls))->MH.Sub H H'->Q v H'
def Cc:cB:=λ us H Q X=>Lk us λ l k=>∃zs:List Int,l=zs.map .int/\0<=k/\k<=1000/\zs.length<=1000/\Q (.int (digit zs k)) H
def Cg:cB:=λ us H Q X=>q5 us λ n k=>0<=n/\0<=k/\k<=16/\Q (.bytes (octets n k)) H
structure Cr where
 sl:cY
 n:Nat
 eff:List (Int×V)
inductive ip (T:iX) (order:aw) (t:Int) (c:Cr):V->Cr->Prop
 |imm (g:Int) (b:List Int):il b->ip T order t c (.tuple [.str "immediate",.int g,.bytes b]) {c with sl:=c.sl.put g ⟨"raw",[.bytes b],"big",b.length⟩,n:=c.n+1}
 |met (g:Int) (name:aw) (size:Int) (o:aw):name.length<=100->ip T order t c (.tuple [.str "meta",.int g,.str name,.int size,.str o]) {c with sl:=c.sl.put g ⟨"field",[.str ("meta "++name)],o,size⟩,n:=c.n+1}
 |cmp (op:aw) (g:Int) (b:List Int) (nm o:aw) (size:Int):il b->c.sl g=some ⟨"field",[.str nm],o,size⟩->(nm="meta mark"\/nm="meta l4proto"/\op="=="/\g=0)->((if o="host" then order else o)="big"\/(if o="host" then order else o)="little")->
   ip T order t c (.tuple [.str "cmp",.str op,.int g,.bytes b]) {c with eff:=c.eff++[(t,matchV (fieldV nm) op (numIn b (if o="host" then order else o)))]}
 |mp (g:Int) (ts:List Slot) (name:aw) (ve:Int) (l2:List (Int×aw)):(∀(i:Nat) (t:Slot),ts[i]?=some t->c.sl (g+i)=some t/\t.tag≠"half")->ts.length<=10->l2.length<=2->(∀p∈l2,0<=p.1/\p.1<=1000)->
   ip T order t c (.tuple [.str "map",.int g,.tuple (ts.map λ Z=>.tuple [.int 4,.str "host"]),.str name,.int ve,layV l2]) {c with sl:=mapPut ⟨"map",[joinV (ts.map Slot.e),whereV T name "map"],"",0⟩ c.sl ve l2,n:=c.n+l2.length}
 |same (kind name:aw):(kind="expect"\/kind="flow")->ip T order t c (.tuple [.str kind,.str name]) {c with eff:=c.eff++[(t,.tuple [.str kind,.str name])]}
 |nat (kind nf:V) (r3 r4 size r6 r7:Int) (ts:List aw) (va:V) (p:Option (Int×Int)):ts.length<=100->
   (∀g t,(g=r3\/g=r4\/g=r6\/g=r7)->c.sl g=some t->i7 t)->(∀a b,c.sl r3=some a->a.tag="raw"->c.sl r4=some b->b.tag="raw")->(∀a b,c.sl r6=some a->a.tag="raw"->c.sl r7=some b->b.tag="raw")->
   natAddr c.sl r3 r4 size (decide ((ts.filter (·≠("netmap":aw))).length<ts.length)) (λ v=>v=some va)->pairOf c.sl r6 r7=some p->
   ip T order t c (.tuple [.str "nat",kind,nf,.int r3,.int r4,.int size,.int r6,.int r7,.tuple (ts.map .str)]) {c with eff:=c.eff++[(t,.tuple [.str "nat",kind,nf,va,pairV p,.tuple ((ts.filter (·≠("netmap":aw))).map .str)])]}
inductive iT (T:iX) (order:aw):Int->Cr->List V->Cr->Prop
 |nil (t c):iT T order t c [] c
 |cons {t c row c1 rows c2}:ip T order t c row c1->iT T order (t+1) c1 rows c2->iT T order t c (row::rows) c2
theorem iT.app {T order} {c c1:Cr} (x:iT T order t c l c1) (y:iT T order (t+l.length) c1 l' c2):iT T order t c (l++l') c2:=by
 induction x with
 |nil t c=>simpa using y
 |@cons t c row c1 rows c3 a b ih=>
  refine .cons a (ih ?_)
  have:t+1+(rows.length:Int)=t+((row::rows).length:Int):=by refine af aP ?_;lia
  exact af this y
noncomputable def atomV:V->Bool
 |.none=>true
 |.bool _=>true
 |.int _=>true
 |.str s=>aT (.str s)
 |_=>false
noncomputable def datV:Nat->V->Bool
 |0,u=>atomV u
 |n+1,u=>match u with
  |.tuple us=>us.all (datV n)
  |u=>atomV u
noncomputable def PartOk (T:iX) (order:aw) (rows:List V) (jP:List (Int×V)):Prop:=
 rows.length<=30/\jP.length<=2/\(∀p∈jP,datV 12 p.2=true)/\
 ∀t c,(∀i,i<0->c.sl i=none)->∃c',iT T order t c rows c'/\(∀i,i<0->c'.sl i=none)/\c'.eff=c.eff++jP.map λ p=>(t+p.1,p.2)
noncomputable def lits (low aA m q:Int) (aW:Bool):List dX:=(bF (m %4).toNat).map λ (k:Nat)=>
 ⟨10*(((k:Int)+q) %3)+q/3 %5,10*(((k:Int)+q) %3)+q/3 %5+m/4/5^k %5,(low+257*k) %2^aA.toNat::(if aW then [(q+11*k) %65536] else []),if q/15 %2=0 then "" else ("c":aw)++dg k⟩
noncomputable def portsOf (p q:Int):Option (Int×Int):=if p %3=0 then none else some (p/3 %65536,if p %3=2 then p/3 %65536+q %(65536 -p/3 %65536) else p/3 %65536)
noncomputable def keyOf (names:List aw):V:=joinV (names.map λ x=>fieldV ("meta "++x))
noncomputable def addrV (a8 low aA m:Int) (ls:List dX) (names:List aw):V:=
 if a8=0 then .none else if a8=1 then .tuple [.str "span",.int low,.int low]
 else if a8=2 then .tuple [.str "span",.int low,.int (low+m %(2^aA.toNat -low))]
 else if a8=3 then .tuple [.str "net",.int (low/2^(aA -m %(aA+1)).toNat*2^(aA -m %(aA+1)).toNat),.int (m %(aA+1))]
 else if a8=4 then .tuple [.str "map",keyOf names,.tuple [.str "map",litsV (isort dX.first ls)]]
 else .tuple [.str "map",keyOf names,.tuple [.str "ref",.str (("n":aw)++dg (m %10))]]
noncomputable def GroupsAt (H:MH):List V->List (List V)->Prop
 |[],[]=>True
 |v::vs,g::gs=>(∃a,v=.ref a/\H a=some (.list g))/\GroupsAt H vs gs
 |_,_=>False
noncomputable def immV (gU n dp:Int):V:=.tuple [.str "immediate",.int gU,.bytes (octets n dp)]
noncomputable def pairGs (gU aX lo hi dp:Int) (twice:Bool):List (List V):=if lo=hi/\twice=false then [[immV gU lo dp]] else [[immV gU lo dp],[immV aX hi dp]]
noncomputable def pairRegs (gU aX lo hi:Int) (twice:Bool):List V:=if lo=hi/\twice=false then [.int gU,.int gU] else [.int gU,.int aX]
def C2:cB:=λ us H Q X=>LH us λ low aA m q aW=>0<=low/\low<2^200/\(aA=32\/aA=128)/\0<=m/\m<2^200/\0<=q/\q<2^200/\∀c,H c=none->Q (.ref c) (H.set c (.list ((lits low aA m q aW).map dX.v)))
def CS:cB:=λ us H Q X=>q5 us λ p q=>0<=p/\0<=q/\Q (pairV (portsOf p q)) H
def BR:cB:=λ us H Q X=>Lw us λ a8 low aA m a b=>∃(ls:List dX) (names:List aw),H a=some (.list (ls.map dX.v))/\H b=some (.list (names.map .str))/\(names=[("mark":aw)]\/names=[("mark":aw),("iif":aw)])/\mX ls/\0<=a8/\a8<=5/\(aA=32\/aA=128)/\
   0<=low/\low<2^aA.toNat/\0<=m/\m<2^200/\Q (addrV a8 low aA m ls names) H
def Dm:cB:=λ us H Q X=>Lu us λ gU aX lo hi dp twice=>0<=lo/\0<=hi/\0<=dp/\dp<=16/\
   ∀p b vs H',H' p=some (.list vs)->GroupsAt H' vs (pairGs gU aX lo hi dp twice)->H' b=some (.list (pairRegs gU aX lo hi twice))->MH.Sub H H'->H p=none->H b=none->Q (.tuple [.ref p,.ref b]) H'
noncomputable def nums (base zs:List Int) (k:Int) (dp:Nat):List Int:=(bF dp).map λ j=>base.getD j 0+digit zs (7*k+j)
def Dj:cB:=λ us H Q X=>Lq us λ k bs l sets=>∃(base zs:List Int) (T:iX),bs=base.map .int/\base.length=7/\(∀x∈base,0<=x/\x<2^127)/\l=zs.map .int/\zs.length<=1000/\0<=k/\k<=5/\cF H sets T/\T.length<=k/\
   (∀n ls,(n,ls)∈T->∃i:Int,0<=i/\i<k/\n=("s":aw)++dg i)/\(base.getD 0 0+digit zs (7*k)) %8<6/\
   ∀a b rows jP T' H',H' a=some (.list rows)->H' b=some (.list (jP.map stV))->cF H' sets T'->MH.Sub (H.del sets) H'->H a=none->H b=none->(T'=T\/∃ls,T'=T++[(("s":aw)++dg k,ls)])->
    (∀T2,(∀n ls,T'.lookup n=some ls->T2.lookup n=some ls)->(∀i:Int,0<=i->i<=9->T2.lookup (("n":aw)++dg i)=none)->∀order:aw,(order="big"\/order="little")->PartOk T2 order rows jP)->(∀D,H D≠none->D≠sets->cF (H.del D) sets T->cF (H'.del D) sets T')->Q (.tuple [.ref a,.ref b]) H'
def CY:cB:=λ us H Q X=>LB us λ bs l k order=>∃(base zs:List Int),bs=base.map .int/\5<=base.length/\(∀x∈base,0<=x/\x<2^127)/\l=zs.map .int/\zs.length<=1000/\0<=k/\k<=5/\(order="big"\/order="little")/\
   ∀a b rows jP H',H' a=some (.list rows)->H' b=some (.list (jP.map stV))->MH.Sub H H'->H a=none->H b=none->(∀T,PartOk T order rows jP)->Q (.tuple [.ref a,.ref b]) H'
def C7:cB:=λ us H Q X=>LC us λ l order=>∃zs:List Int,l=zs.map .int/\zs.length<=1000/\(order="big"\/order="little")/\Q (.bool true) H
def Cv:cB:=λ us H Q X=>Li us λ l t k bs=>∃(base zs:List Int),bs=base.map .int/\base.length=5/\(∀x∈base,0<=x/\x<100)/\l=zs.map .int/\zs.length<=1000/\0<=t/\t<=900/\0<=k/\k<=10/\Q (.bool true) H
def zS:cB:=λ us H Q X=>Lx us λ l=>∃zs:List Int,l=zs.map .int/\zs.length<=1000/\Q (.bool true) H
noncomputable def flds:List (Nat×List aw):=[(3,["fields","family","sets","order","cells","at","slots","known","pending","dropped","statements"]),(4,["box","data","until","timeout","comment","cells"]),(5,["table"]),(6,["items"]),(9,["name","spec","bits","handle","is_anonymous","is_bound","store"])]
noncomputable def fldOf (k:Nat):List aw:=(flds.lookup k).getD []
noncomputable def fld0:Fn->aw->Bool
 |.cls n,x=>(fldOf n).contains x
 |_,_=>false
noncomputable def mths:List (Nat×aw×Nat):=[(5,"put",45),(5,"find",47),(5,"elements",49),(6,"put",55),(6,"elements",59)]
noncomputable def meth0:Fn->aw->Option Fn
 |.cls c,x=>(mths.find? λ m=>m.1==c&&m.2.1==x).map λ m=>.user m.2.2
 |_,_=>none
noncomputable def inits:List (Nat×Nat):=[(3,18),(4,42),(5,44),(6,54),(9,77)]
noncomputable def init0:Fn->Option Fn
 |.cls n=>(inits.lookup n).map .user
 |_=>none
noncomputable def lvls:List (Nat×Nat):=[(1,2),(17,2),(13,2),(14,2),(15,3),(16,2),(18,2),(19,2),(20,2),(21,2),(22,3),(23,4),(24,2),(25,3),(26,4),(27,2),(28,4),(29,3),(30,4),(31,2),(32,2),(33,2),(34,5),(35,5),(36,5),(37,4),(38,5),(39,2),(41,2),(42,2),(43,2),(44,2),(45,4),(47,3),(49,2),(52,2),(54,2),(55,3),(59,2),(76,3),(77,4),(79,5),(80,2),(81,2),(82,2),(83,2),(84,2),(85,3),(86,6),(87,3),(88,7),(89,6),(90,8)]
noncomputable def lvl0:Fn->Nat
 |.user n=>(lvls.lookup n).getD 50
 |.cls _=>50
 |_=>1
def gw:cB:=λ Z Z Z Z=>False
noncomputable def users0:List (Nat×cB):=[(42,Ef),(1,JP),(17,BZ),(13,Ct),(14,Cn),(15,E4),(16,EJ),(18,E0),(19,D5),(20,Eh),(21,Eu),(22,C3),(23,BV),(24,CK),(25,Cf),(26,EP),(27,Ci),(28,Eb),(29,B1),(30,Ei),(31,zH),(32,zR),(33,E8),(34,Ao),(35,AM),(36,Am),(37,Dp),(38,zK),(39,CJ),(41,wj),(43,ET),(44,E7),(45,CE),(47,B0),(49,Dv),(52,Cq),(54,Ed),(55,Bd),(59,BF),(76,CT),(77,ES),(79,Cz),(80,Cc),(81,Cg),(82,C2),(83,CS),(84,BR),(85,Dm),(86,Dj),(87,CY),(88,C7),(89,Cv),(90,zS)]
noncomputable def bis0:List (String×cB):=[("len",BN),("sorted",qy),("isinstance",rg),("all",CH),("max",CX),("list.append",rG),("list.insert",qP),("dict.get",CW),("dict.update",rV)]
noncomputable def tys0:List (String×cB):=[("range",uE),("bytes",uj),("str",BD),("tuple",uu),("list",xc)]
noncomputable def spec0:Fn->cB
 |.user n=>(users0.lookup n).getD gw
 |.bi n=>(bis0.lookup n).getD gw
 |.ty n=>(tys0.lookup n).getD gw
 |.cls _=>gw
noncomputable def tb0:on:=⟨fld0,meth0,init0,lvl0,spec0⟩
theorem qh {α:Sort _} {p q:α->Prop} (h:∀x,p x->q x):(∀x,p x)->∀x,q x:=λ f x=>h x (f x)
def bL (sp:cB):Prop:=∀us H (Q Q':V->MH->Prop) (X X':aw->MH->Prop),(∀u H,Q u H->Q' u H)->(∀w H,X w H->X' w H)->sp us H Q X->sp us H Q' X'
theorem lR:bL gw:=λ Z Z Z Z Z Z Z Z h=>h.elim
theorem nU {sl r3 r4 size isNet} (k:∀v,out v->out' v):natAddr sl r3 r4 size isNet out->natAddr sl r3 r4 size isNet out':=by
 unfold natAddr
 split
 ·exact k _
 ·split
  ·exact k _
  ·split
   ·exact k _
   ·exact id
  ·split
   ·exact cg λ j=>bV (bV (bV (bV (bV (bV (bV (k _)))))))
   ·exact k _
set_option hygiene false in
local macro_rules |`(tactic|walk_at "MONO")=>`(tactic|repeat' first|exact k _ _|exact kx _ _|exact id|refine cg λ Z=>?_|refine nK id ?_|refine zg ?_ ?_|refine qh λ Z=>?_|split)
theorem xu:bL BN:=λ us H Q Q' X X' k kx=>by
 refine No (λ Z=>?_)
 walk_at "MONO"
theorem sH:bL qy:=λ us H Q Q' X X' k kx=>by
 refine rk (λ Z=>?_)
 walk_at "MONO"
theorem sC:bL rg:=λ us H Q Q' X X' k kx=>by
 refine Mx (λ Z Z=>?_)
 walk_at "MONO"
theorem xE:bL CH:=λ us H Q Q' X X' k kx=>by
 refine rk (λ Z=>?_)
 walk_at "MONO"
theorem xv:bL CX:=λ us H Q Q' X X' k kx=>by
 refine GV (λ Z Z=>?_)
 walk_at "MONO"
theorem sO:bL rG:=λ us H Q Q' X X' k kx=>by
 refine Hp (λ Z Z=>?_)
 walk_at "MONO"
theorem sL:bL qP:=λ us H Q Q' X X' k kx=>by
 refine IV (λ Z Z Z=>?_)
 walk_at "MONO"
theorem xC:bL CW:=λ us H Q Q' X X' k kx=>by
 refine ML (λ Z Z=>?_)
 walk_at "MONO"
theorem sB:bL rV:=λ us H Q Q' X X' k kx=>by
 refine LV (λ Z Z=>?_)
 walk_at "MONO"
theorem uJ:bL uE:=λ us H Q Q' X X' k kx=>by
 refine Hq (λ Z=>?_)
 walk_at "MONO"
theorem up:bL uj:=λ us H Q Q' X X' k kx=>by
 refine rk (λ Z=>?_)
 walk_at "MONO"
theorem xe:bL BD:=λ us H Q Q' X X' k kx=>by
 refine Hq (λ Z=>?_)
 walk_at "MONO"
theorem uG:bL uu:=λ us H Q Q' X X' k kx=>by
 refine rk (λ Z=>?_)
 walk_at "MONO"
theorem vr:bL xc:=λ us H Q Q' X X' k kx=>by
 refine rk (λ Z=>?_)
 walk_at "MONO"
theorem BQ:bL JP:=λ us H Q Q' X X' k kx=>by
 refine KA (λ Z Z Z=>?_)
 walk_at "MONO"
theorem zY:bL BZ:=λ us H Q Q' X X' k kx=>by
 refine Hq (λ Z=>?_)
 walk_at "MONO"
theorem AR:bL Ct:=λ us H Q Q' X X' k kx=>by
 refine Gq (λ Z=>?_)
 walk_at "MONO"
theorem zV:bL Cn:=λ us H Q Q' X X' k kx=>by
 refine Gq (λ Z=>?_)
 walk_at "MONO"
theorem zo:bL E4:=λ us H Q Q' X X' k kx=>by
 refine JR (λ Z Z=>?_)
 walk_at "MONO"
theorem Aq:bL EJ:=λ us H Q Q' X X' k kx=>by
 refine JL (λ Z Z=>?_)
 walk_at "MONO"
theorem A0:bL E0:=λ us H Q Q' X X' k kx=>by
 refine Jd (λ Z Z Z Z=>?_)
 walk_at "MONO"
theorem zx:bL D5:=λ us H Q Q' X X' k kx=>by
 refine IV (λ Z Z Z=>?_)
 walk_at "MONO"
theorem AC:bL Eh:=λ us H Q Q' X X' k kx=>by
 refine JJ (λ Z Z Z Z=>?_)
 walk_at "MONO"
theorem AG:bL Eu:=λ us H Q Q' X X' k kx=>by
 refine Kz (λ Z Z Z Z=>?_)
 walk_at "MONO"
theorem zr:bL C3:=λ us H Q Q' X X' k kx=>by
 refine rk (λ Z=>?_)
 walk_at "MONO"
theorem AO:bL BV:=λ us H Q Q' X X' k kx=>by
 refine Hp (λ Z Z=>?_)
 walk_at "MONO"
theorem A7:bL CK:=λ us H Q Q' X X' k kx=>by
 refine Dn (λ Z Z=>?_)
 walk_at "MONO"
theorem zW:bL Cf:=λ us H Q Q' X X' k kx=>by
 refine Dn (λ Z Z=>?_)
 walk_at "MONO"
theorem Ax:bL EP:=λ us H Q Q' X X' k kx=>by
 refine Jx (λ Z Z Z=>?_)
 walk_at "MONO"
theorem zF:bL Ci:=λ us H Q Q' X X' k kx=>by
 refine rk (λ Z=>?_)
 walk_at "MONO"
theorem A8:bL Eb:=λ us H Q Q' X X' k kx=>by
 refine Jt (λ Z Z Z=>?_)
 walk_at "MONO"
theorem Au:bL B1:=λ us H Q Q' X X' k kx=>by
 refine IJ (λ Z Z=>?_)
 walk_at "MONO"
theorem Ad:bL Ei:=λ us H Q Q' X X' k kx=>by
 refine IM (λ Z Z Z=>?_)
 walk_at "MONO"
theorem zA:bL zH:=λ us H Q Q' X X' k kx=>by
 refine Jh (λ Z Z Z Z Z Z=>?_)
 walk_at "MONO"
theorem AS:bL zR:=λ us H Q Q' X X' k kx=>by
 refine Kb (λ Z Z Z Z=>?_)
 walk_at "MONO"
theorem AQ:bL E8:=λ us H Q Q' X X' k kx=>by
 refine IU (λ Z Z Z Z Z=>?_)
 walk_at "MONO"
theorem zP:bL Ao:=λ us H Q Q' X X' k kx=>by
 refine J1 (λ Z Z Z Z Z=>?_)
 walk_at "MONO"
theorem z6:bL AM:=λ us H Q Q' X X' k kx=>by
 refine Ji (λ Z Z Z Z Z Z Z=>?_)
 walk_at "MONO"
theorem Bf:bL Am:=λ us H Q Q' X X' k kx=>by
 refine Hp (λ Z Z=>?_)
 walk_at "MONO"
theorem AZ:bL Dp:=λ us H Q Q' X X' k kx=>by
 refine Kx (λ Z Z Z=>?_)
 walk_at "MONO"
theorem zE:bL zK:=by
 intro us H Q Q' X X' k kx
 refine KJ (λ Z Z Z Z Z Z Z Z Z Z=>?_)
 ·refine cg λ Z=>cg λ Z=>cg λ Z=>bV (bV (bV (bV (bV (bV (bV (nU λ v=>?_)))))))
  cases v with
  |none=>exact kx _ _
  |some v=>
   dsimp only
   split
   ·exact kx _ _
   ·exact qh λ Z=>qh λ Z=>qh λ Z=>k _ _
theorem Af:bL CJ:=λ us H Q Q' X X' k kx=>by
 refine JV ?_
 walk_at "MONO"
theorem AI:bL wj:=λ us H Q Q' X X' k kx=>by
 refine K2 (λ Z Z=>?_)
 walk_at "MONO"
theorem AD:bL Ef:=λ us H Q Q' X X' k kx=>by
 refine Ky (λ Z Z Z=>?_)
 walk_at "MONO"
theorem zQ:bL ET:=λ us H Q Q' X X' k kx=>by
 refine JB (λ Z Z=>?_)
 walk_at "MONO"
theorem z0:bL E7:=λ us H Q Q' X X' k kx=>by
 refine rk (λ Z=>?_)
 walk_at "MONO"
theorem As:bL CE:=λ us H Q Q' X X' k kx=>by
 refine FM (λ Z Z Z=>?_)
 walk_at "MONO"
theorem zD:bL B0:=λ us H Q Q' X X' k kx=>by
 refine I9 (λ Z Z Z=>?_)
 walk_at "MONO"
theorem Aw:bL Dv:=λ us H Q Q' X X' k kx=>by
 refine rk (λ Z=>?_)
 walk_at "MONO"
theorem Aj:bL Cq:=λ us H Q Q' X X' k kx=>by
 refine Dn (λ Z Z=>?_)
 walk_at "MONO"
theorem zt:bL Ed:=λ us H Q Q' X X' k kx=>by
 refine rk (λ Z=>?_)
 walk_at "MONO"
theorem AT:bL Bd:=λ us H Q Q' X X' k kx=>by
 refine FM (λ Z Z Z=>?_)
 walk_at "MONO"
theorem AK:bL BF:=λ us H Q Q' X X' k kx=>by
 refine rk (λ Z=>?_)
 walk_at "MONO"
theorem A6:bL CT:=λ us H Q Q' X X' k kx=>by
 refine Jo (λ Z=>?_)
 walk_at "MONO"
theorem z9:bL ES:=λ us H Q Q' X X' k kx=>by
 refine JT (λ Z Z Z=>?_)
 walk_at "MONO"
theorem zO:bL Cz:=λ us H Q Q' X X' k kx=>by
 refine IZ (λ Z Z=>?_)
 walk_at "MONO"
theorem zG:bL Cc:=λ us H Q Q' X X' k kx=>by
 refine KW (λ Z Z=>?_)
 walk_at "MONO"
theorem z8:bL Cg:=λ us H Q Q' X X' k kx=>by
 refine GV (λ Z Z=>?_)
 walk_at "MONO"
theorem A3:bL C2:=λ us H Q Q' X X' k kx=>by
 refine JD (λ Z Z Z Z Z=>?_)
 walk_at "MONO"
theorem zw:bL CS:=λ us H Q Q' X X' k kx=>by
 refine GV (λ Z Z=>?_)
 walk_at "MONO"
theorem Be:bL BR:=λ us H Q Q' X X' k kx=>by
 refine IW (λ Z Z Z Z Z Z=>?_)
 walk_at "MONO"
theorem zq:bL Dm:=λ us H Q Q' X X' k kx=>by
 refine Kn (λ Z Z Z Z Z Z=>?_)
 walk_at "MONO"
theorem Ak:bL Dj:=λ us H Q Q' X X' k kx=>by
 refine JS (λ Z Z Z Z=>?_)
 walk_at "MONO"
theorem zm:bL CY:=λ us H Q Q' X X' k kx=>by
 refine Ju (λ Z Z Z Z=>?_)
 walk_at "MONO"
theorem zJ:bL C7:=λ us H Q Q' X X' k kx=>by
 refine Jr (λ Z Z=>?_)
 walk_at "MONO"
theorem AL:bL Cv:=λ us H Q Q' X X' k kx=>by
 refine IY (λ Z Z Z Z=>?_)
 walk_at "MONO"
theorem AU:bL zS:=λ us H Q Q' X X' k kx=>by
 refine JW (λ Z=>?_)
 walk_at "MONO"
theorem lg {α:Type} [BEq α] [LawfulBEq α] {P:cB->Prop} {x:α}:∀{l:List (α×cB)},(∀p∈l,P p.2)->P gw->P ((l.lookup x).getD gw)
 |[],_,h=>h
 |p::l,h,h0=>by
  refine af aG ?_
  split
  ·exact h p (.head _)
  ·exact lg (λ q hq=>h q (.tail _ hq)) h0
theorem ai {α:Type _} {P:α->Prop} {a:α} {l:List α} (h:P a) (k:∀p∈l,P p):∀p∈a::l,P p:=List.forall_mem_cons.2 ⟨h,k⟩
theorem lW:yJ tb0:=by
 have hu:∀p∈users0,bL p.2:=by
  exact ai AD<|ai BQ<|ai zY<|ai AR<|ai zV<|ai zo<|ai Aq<|ai A0<|ai zx<|ai AC<|ai AG<|ai zr<|ai AO<|ai A7<|ai zW<|ai Ax<|ai zF<|ai A8<|ai Au<|ai Ad<|ai zA<|ai AS<|ai AQ<|ai zP<|ai z6<|ai Bf<|ai AZ<|ai zE<|ai Af<|ai AI<|ai zQ<|ai z0<|ai As<|ai zD<|ai Aw<|ai Aj<|ai zt<|ai AT<|ai AK<|ai A6<|ai z9<|ai zO<|ai zG<|ai z8<|ai A3<|ai zw<|ai Be<|ai zq<|ai Ak<|ai zm<|ai zJ<|ai AL<|ai AU<|λ Z h=>by cases h
 have hb:∀p∈bis0,bL p.2:=by
  exact ai xu<|ai sH<|ai sC<|ai xE<|ai xv<|ai sO<|ai sL<|ai xC<|ai sB<|λ Z h=>by cases h
 have ht:∀p∈tys0,bL p.2:=by
  exact ai uJ<|ai up<|ai xe<|ai uG<|ai vr<|λ Z h=>by cases h
 refine ⟨λ f us H Q Q' X X' k kx h=>?_⟩
 cases f with
 |user n=>exact lg (P:=bL) hu lR us H Q Q' X X' k kx h
 |bi n=>exact lg (P:=bL) hb lR us H Q Q' X X' k kx h
 |ty n=>exact lg (P:=bL) ht lR us H Q Q' X X' k kx h
 |cls n=>exact h.elim
theorem NS:tb0.spec (.user 1)=JP:=rfl
theorem Nz:tb0.spec (.user 17)=BZ:=rfl
theorem IR:tb0.spec (.user 13)=Ct:=rfl
theorem MB:tb0.spec (.user 14)=Cn:=rfl
theorem Kr:tb0.spec (.user 22)=C3:=rfl
theorem Jn:tb0.spec (.user 23)=BV:=rfl
theorem Jl:tb0.spec (.user 24)=CK:=rfl
theorem EI:tb0.spec (.user 25)=Cf:=rfl
theorem Nu:tb0.spec (.user 27)=Ci:=rfl
theorem Jw:tb0.spec (.user 29)=B1:=rfl
theorem Nt:tb0.spec (.user 31)=zH:=rfl
theorem JF:tb0.spec (.user 32)=zR:=rfl
theorem NA:tb0.spec (.user 34)=Ao:=rfl
theorem LQ:tb0.spec (.user 35)=AM:=rfl
theorem Ny:tb0.spec (.user 36)=Am:=rfl
theorem GW:tb0.spec (.user 37)=Dp:=rfl
theorem KQ:tb0.spec (.user 38)=zK:=rfl
theorem LN:tb0.spec (.user 39)=CJ:=rfl
theorem Nl:tb0.spec (.user 41)=wj:=rfl
theorem MO:tb0.spec (.user 45)=CE:=rfl
theorem LR:tb0.spec (.user 47)=B0:=rfl
theorem Mb:tb0.spec (.user 49)=Dv:=rfl
theorem MV:tb0.spec (.user 52)=Cq:=rfl
theorem Mg:tb0.spec (.user 55)=Bd:=rfl
theorem M7:tb0.spec (.user 59)=BF:=rfl
theorem Mu:tb0.spec (.user 76)=CT:=rfl
theorem Mi:tb0.spec (.user 79)=Cz:=rfl
theorem EU:tb0.spec (.user 80)=Cc:=rfl
theorem DC:tb0.spec (.user 81)=Cg:=rfl
theorem MX:tb0.spec (.user 82)=C2:=rfl
theorem Ml:tb0.spec (.user 83)=CS:=rfl
theorem Ma:tb0.spec (.user 84)=BR:=rfl
theorem Kl:tb0.spec (.user 85)=Dm:=rfl
theorem Mk:tb0.spec (.user 86)=Dj:=rfl
theorem Mq:tb0.spec (.user 87)=CY:=rfl
theorem LK:tb0.spec (.user 88)=C7:=rfl
theorem MS:tb0.spec (.user 89)=Cv:=rfl
end
section
open PySem PySem.W PyProof.Rows PySem.Calls
inductive xn (fa:List aI) (e:aI) (oe:xQ) (vs:Array av) (h h':cM):Prop
 |mk (T) (oT) (ts) (h1:h.objs.size<=T) (h2:h'.get? T=some oT) (h3:oT.data=.fields ts) (h4:oT.cls=.type "traceback") (h5:ts[3]?=some .none) (h6:(∃o',h'.get? e=some o'/\o'.cls=oe.cls/\o'.dict=oe.dict/\o'.slots=oe.slots/\o'.data=.fields (vs.setIfInBounds 1 (.ref T)))) (h7:(∀b o,b≠e->b∉fa->h.get? b=some o->h'.get? b=some o)) (h8:∀b o,b∈fa->h.get? b=some o->∃sl,h'.get? b=some {o with slots:=sl}):xn fa e oe vs h h'
section
variable {E:av->ax->Prop}
theorem mw (o:xQ) (f:Array av->Array av):(cz f o).cls=o.cls/\(cz f o).dict=o.dict/\(cz f o).slots=o.slots:=by
 obtain ⟨c,d,dt,sl⟩:=o
 cases dt<;>exact ⟨rfl,rfl,rfl⟩
theorem pQ
  (hfr:A.frames=some (au::outer)) (hl:s.heap.FunFrames base (au::outer)) (hf:au.frame=some L) (he:s.heap.get? e=some oe) (hd:oe.data=.fields vs) (hsz:1<vs.size)
  (h:∀h',xn ((au::outer).filterMap (·.frame)) e oe vs s.heap h'->Q () {s with heap:=h'}):
  aE M A (do let a<-frameOf au;let pl<-entryPlaceOf L hadNext;let b<-EntryCells.newEntry head a .none (iL L) .none pl;setField (.ref e) 1 b) (λ Z s'=>aE M A (setFlight (.ref e) none) Q E s') E s:=by
 have hene:e∉(au::outer).filterMap (·.frame):=λ hm=>by
  refine bw (hl.mem hm) λ Z t1_=>(aL t1_ λ o ho hnf=>?_)
  rw [he] at ho;(have ho:=ac ho;subst ho);exact hnf vs hd
 refine ae (wpAny_frameOf_fun hfr hl hf λ h1 hs1=>ae (wpAny_entryPlaceOf λ pl hpl=>?_))
 refine ae (cX ?_ (hpl.sizeOk5 _ _ _ _ _))
 have he1:h1.get? e=some oe:=(hs1.2.1 e hene).trans he
 generalize hts:([head,aR L,.none,iL L,.none]++(if pl.isEmpty then b9 6 bQ else pl)).toArray=ts
 have hsz3:3<ts.size:=by refine af hts.symm ?_;simp only [DG,az,aP,fJ];lia
 have he2:=ak (h:=h1) {cls:=.type "traceback",dict:=none,data:=.fields ts} he1
 have nT:h1.objs.size≠e:=xY (bx he1)
 refine gC he2 hd hsz ?_
 have hd3:=dJ hd (·.setIfInBounds 1 (aR h1.objs.size))
 have he3:=co (cz (·.setIfInBounds 1 (aR h1.objs.size))) he2 (fO hd3)
 have hT3:=(cf (h1.push {cls:=.type "traceback",dict:=none,data:=.fields ts}) (cz (·.setIfInBounds 1 (aR h1.objs.size))) (fQ nT)).trans (bt h1 rfl)
 refine ae (gz he3 hd3 (x:=.ref h1.objs.size) (by simp [hsz]) ?_)
 refine af (if_pos (show (aR h1.objs.size !=bQ)=true from by simp)) ?_
 refine gC hT3 rfl hsz3 (h _ ?_)
 have keep:∀b o,b≠e->h1.get? b=some o->(((h1.push {cls:=.type "traceback",dict:=none,data:=.fields ts}).update e (cz (·.setIfInBounds 1 (aR h1.objs.size)))).update h1.objs.size
   (cz (·.setIfInBounds 3 ((none:Option aI).elim bQ λ f=>iL f)))).get? b=some o:=λ b o hbe hb=>by
  refine af (cf _ _ (xY (bx hb))) (af (cf _ _ (fQ hbe)) ?_)
  exact ak _ hb
 have hT4:=co (cz (·.setIfInBounds 3 ((none:Option aI).elim bQ λ f=>iL f))) hT3 (fO (dJ rfl _))
 refine ⟨h1.objs.size,_,_,gm hs1.1.symm,hT4,dJ rfl _,(mw _ _).1,by simp [hsz3],⟨_,(cf _ _ nT).trans he3,(mw _ _).1,(mw _ _).2.1,(mw _ _).2.2,hd3⟩,λ b o hb hn e1=>?_,λ b o hb e1=>?_⟩
 ·exact keep b o hb ((hs1.2.1 b hn).trans e1)
 ·exact bu (hs1.2.2 b o e1) λ sl e2=>⟨sl,keep b _ (λ z=>hene (z▸hb)) e2⟩
end
section
variable {cx:Cx}
theorem y5 {h:cM} (hl:∀au∈l,au.scope.kind≠.module/\∃L,au.frame=some L/\(∃m,h.Ns L m)/\ci H L/\cx.base.objs.size<=L):h.FunFrames cx.base l:=by
 induction l with
 |nil=>trivial
 |cons au r ih=>
  refine bw (hl au (.head _)) λ h1 t1_=>(fy t1_ λ L h2 w2_ h4 h5=>?_)
  refine bu w2_ λ m h3=>?_
  exact Iz h1 h2 h3 (dN h5) (ih λ e he=>hl e (.tail _ he))
theorem EB {h:cM} {l:List i4} (hl:∀au∈l,au.scope.kind≠.module/\∃L,au.frame=some L/\(∃m,h.Ns L m)/\ci H L/\cx.base.objs.size<=L) (hb:b∈l.filterMap (·.frame)):(∃m,h.Ns b m)/\ci H b/\cx.base.objs.size<=b:=by
 refine aL (kc.mp hb) λ au he e=>(bw (hl au he) λ Z t1_=>(fy t1_ λ L h2 h3 h4 h5=>?_))
 rw [h2] at e;(have e:=ac e;subst e)
 exact ⟨h3,h4,h5⟩
end
namespace mD
def S_ (cx:Cx) (fa:List aI) (H:MH) (s:ax) (h' e T0 oe vs):=∀(I:cb cx H s.heap) (hfa:∀b∈fa,(∃m,s.heap.Ns b m)/\ci H b/\cx.base.objs.size<=b) (hb:cx.base.objs.size<=e) (hf:ci H e) (he:s.heap.get? e=some oe) (hd:oe.data=.fields vs) (hc:∃C,oe.cls=.ref C) (hk:∀b o,b≠e->b∉fa->b≠T0->s.heap.get? b=some o->h'.get? b=some o) (hT:T0=e\/(cx.base.objs.size<=T0/\ci H T0/\∃oT ts oT',s.heap.get? T0=some oT/\oT.data=.fields ts/\oT.cls=.type "traceback"/\h'.get? T0=some oT')) (he':∃o',h'.get? e=some o') (hfs:∀b o,b∈fa->s.heap.get? b=some o->∃sl,h'.get? b=some {o with slots:=sl}),cb cx H h'/\bb fc H s.heap H h'
def U_:=UV λ cx fa H=>UV λ s h' e=>UU λ T0=>UU λ oe=>S_ cx fa H s h' e T0 oe
def t_:=dr (by have:=p5;have:=ti;infer_instance) U_
def cx:=t_.1
def fa:=t_.2.1
def H:=t_.2.2.1
def s:=t_.2.2.2.1
def h':=t_.2.2.2.2.1
def e:=t_.2.2.2.2.2.1
def s1_:=t_.2.2.2.2.2.2
def T0:=s1_.1
def oe:=s1_.2.1
def vs:=s1_.2.2
theorem P_:S_ cx fa H s h' e T0 oe vs:=by
 intro I hfa hb hf he hd hc hk hT he' hfs
 refine bu hc λ C hc_=>?_
 revert hc_;intro hc
 have nf:∀b o,s.heap.get? b=some o->tF o->b≠e/\b∉fa/\b≠T0:=λ b o eb i=>by
  have ne:b≠e:=λ z=>by
   subst z;rw [he] at eb;(have eb:=ac eb;subst eb)
   rcases i with ⟨xs,n,q,q2⟩|⟨ws,q,q2⟩
   ·rw [hd] at q;exact gi q rfl
   ·rw [hc] at q2;cases q2
  refine ⟨ne,λ hb=>?_,λ z=>?_⟩
  ·refine bw (hfa b hb) λ w1_ Z=>(bu w1_ λ m n=>?_)
   exact (kj n eb).1 i
  ·rcases hT with z2|⟨_,_,oT,ts,oT',g1,g2,g3,g4⟩
   ·exact ne (z.trans z2)
   ·subst z;rw [g1] at eb;(have eb:=ac eb;subst eb)
    rcases i with ⟨xs,n,q,q2⟩|⟨ws,q,q2⟩
    ·rw [g2] at q;exact gi q rfl
    ·rw [g3] at q2;exact absurd (show cO "traceback"=cO "range" from q2) (by decide)
 have ki:bP s.heap h':=λ b o eb i=>let ⟨a,b',c⟩:=nf b o eb i;hk b o a b' c eb
 have bT:T0=e\/cx.base.objs.size<=T0:=hT.imp id λ z=>z.1
 have lowe:∀b,b<cx.base.objs.size->b≠e/\b∉fa/\b≠T0:=λ b hlt=>⟨λ z=>by subst z;lia,λ hm=>by have:=(hfa b hm).2.2;lia,λ z=>by
  have hlt:b<cx.base.objs.size:=hlt
  rcases bT with q|q
  ·rw [z,q] at hlt;exact eX _ (cG hlt hb)
  ·rw [z] at hlt;exact eX _ (cG hlt q)⟩
 have held:∀a,¬ci H a->a≠e/\a∉fa/\a≠T0:=λ a n=>⟨λ z=>n (z▸hf),λ hm=>n (hfa a hm).2.1,λ z=>by
  rcases hT with q|⟨_,q,_⟩
  ·exact n (by (refine af z (af q ?_));exact hf)
  ·exact n (z▸q)⟩
 have keepNs:∀a m,s.heap.Ns a m->h'.Ns a m:=λ a m n=>by
  refine iZ n λ o es ep e1 e2 e3=>?_
  have na:a≠e:=λ z=>by subst z;rw [he] at e1;(have e1:=ac e1;subst e1);rw [hd] at e2;exact gi e2 rfl
  have nT:a≠T0:=λ z=>by
   rcases hT with q|⟨_,_,oT,ts,oT',g1,g2,g3,g4⟩
   ·exact na (z.trans q)
   ·subst z;rw [g1] at e1;(have e1:=ac e1;subst e1);rw [g2] at e2;exact gi e2 rfl
  by_cases hm:a∈fa
  ·exact bu (hfs a o hm e1) λ sl e4=>⟨_,es,ep,e4,e2,e3⟩
  ·exact ⟨o,es,ep,hk a o na hm nT e1,e2,e3⟩
 refine ⟨I.moved ki (λ a o ea=>?_) (λ a n=>?_),ki,λ a m n Z Z=>keepNs a m n,λ a v n Z=>?_,λ a m n Z=>⟨m,keepNs a m n⟩,λ Z p q=>absurd p q,λ a o ea=>?_,λ a o ea kp Z Z=>?_⟩
 ·exact gJ (lowe a (bx ea)) λ x y z=>(hk a o x y z (I.base a o ea))
 ·refine gJ (held a n) λ x y z=>(bu (I.at n) λ o ea=>?_)
  refine af ea ?_;exact hk a o x y z ea
 ·refine aL n λ o e1 e2=>?_
  clear n
  have na:a≠e:=λ z=>by subst z;rw [he] at e1;(have e1:=ac e1;subst e1);rw [hd] at e2;exact gi e2 rfl
  have nT:a≠T0:=λ z=>by
   rcases hT with q|⟨_,_,oT,ts,oT',g1,g2,g3,g4⟩
   ·exact na (z.trans q)
   ·subst z;rw [g1] at e1;(have e1:=ac e1;subst e1);rw [g2] at e2;exact gi e2 rfl
  have nm:a∉fa:=λ hm=>by
   refine bw (hfa a hm) λ w1_ Z=>(iF w1_ λ m o2 es t1_=>(cI t1_ λ ep q1 q2 Z=>?_))
   clear w1_ t1_
   rw [e1] at q1;(have q1:=ac q1;subst q1);rw [e2] at q2;exact gi q2 rfl
  exact ⟨o,hk a o na nm nT e1,e2⟩
 ·by_cases x:a=e
  ·subst x;exact he'
  ·by_cases y:a∈fa
   ·obtain ⟨sl,e4⟩:=hfs a o y ea;exact ⟨_,e4⟩
   ·by_cases z:a=T0
    ·rcases hT with q|⟨_,_,oT,ts,oT',g1,g2,g3,g4⟩
     ·exact absurd (z.trans q) x
     ·subst z;exact ⟨_,g4⟩
    ·exact ⟨o,hk a o x y z ea⟩
 ·have na:a≠e:=λ z=>by
   subst z;rw [he] at ea;(have ea:=ac ea;subst ea)
   rcases kp with ⟨xs,n,q⟩|⟨ws,q,q2⟩
   ·rw [hd] at q;exact gi q rfl
   ·rw [hc] at q2;rcases q2 with q2|q2|q2|q2<;>cases q2
  have nT:a≠T0:=λ z=>by
   rcases hT with q|⟨_,_,oT,ts,oT',g1,g2,g3,g4⟩
   ·exact na (z.trans q)
   ·subst z;rw [g1] at ea;(have ea:=ac ea;subst ea)
    rcases kp with ⟨xs,n,q⟩|⟨ws,q,q2⟩
    ·rw [g2] at q;exact gi q rfl
    ·rw [g3] at q2
     rcases q2 with q2|q2|q2|q2<;>exact absurd q2 (by decide)
  have nm:a∉fa:=λ hm=>by
   refine bw (hfa a hm) λ w1_ Z=>(iF w1_ λ m o2 es t1_=>(cI t1_ λ ep q1 q2 Z=>?_))
   clear w1_ t1_
   rw [ea] at q1;(have q1:=ac q1;subst q1)
   exact kp.no_dict.1 _ _ q2
  exact hk a o na nm nT ea
theorem A_:∀p,U_ p:=bB P_
end mD
section
variable {cx:Cx}
theorem mD {cx fa H s h' e T0 oe vs}:mD.S_ cx fa H s h' e T0 oe vs:=mD.A_ (cx,fa,H,s,h',e,T0,oe,vs)
end
section
variable {cx:Cx}
theorem tm {h0:cM} {H:MH} {s:ax} {why:aw} {Q:Unit->ax->Prop} {fa:List aI} {a C d T0:aI} {vs:Array av} {es:List fU} {n:Nat} {t:Tok} {sl:Array (Option av)} {od:xQ} {h1 h':cM} (I:cb cx H s.heap) (hfa:∀b∈fa,(∃m,s.heap.Ns b m)/\ci H b/\cx.base.objs.size<=b)
  (hC:cx.addr (.cls 1)=.ref C) (ha:s.heap.get? a=some {cls:=.ref C,dict:=some d,data:=.fields vs,slots:=sl}) (hb:cx.base.objs.size<=a) (hf:ci H a) (hd:s.heap.get? d=some od) (hdd:od.data=.dict es.toArray n) (hbd:cx.base.objs.size<=d) (hfd:ci H d) (h0d:h0.get? d=none) (hw:Ff "why" es=some (some (.str why t))) (h1v:1<vs.size)
  (hT:T0=a\/(cx.base.objs.size<=T0/\ci H T0/\∃oT ts,s.heap.get? T0=some oT/\oT.data=.fields ts/\oT.cls=.type "traceback"))
  (h1s:h1.objs.size=s.heap.objs.size) (h1k:∀b,b≠T0->h1.get? b=s.heap.get? b) (h1t:T0≠a->∃oT,h1.get? T0=some oT/\∃ts,oT.data=.fields ts) (h1a:h1.get? a=some {cls:=.ref C,dict:=some d,data:=.fields vs,slots:=sl})
  (hL:xn fa a {cls:=.ref C,dict:=some d,data:=.fields vs,slots:=sl} vs h1 h')
  (k:∀s',io cx h0 H s'.heap (.ref a) why->cb cx H s'.heap->bb fc H s.heap H s'.heap->dR s s'->Q () s'):Q () {s with heap:=h'}:=by
 obtain ⟨T,oT,ts,g1,g2,g3,g4,g5,⟨o',k1,k2,k3,k4,k5⟩,g6,g7⟩:=hL
 have hda:d≠a:=λ z=>by subst z;rw [ha] at hd;(have hd:=ac hd;subst hd);exact gi hdd rfl
 have hT0a:T0≠a->∀es' n',∀o,s.heap.get? T0=some o->o.data≠.dict es' n':=λ ne es' n' o eo q=>by
  rcases hT with z|⟨_,_,o2,ts2,q1,q2,q3⟩
  ·exact ne z
  ·rw [q1] at eo;(have eo:=ac eo;subst eo);rw [q2] at q;exact gi q rfl
 have hdT:d≠T0:=λ z=>by
  by_cases ne:T0=a
  ·exact hda (z.trans ne)
  ·exact hT0a ne _ _ od (z▸hd) hdd
 have faT:T0∉fa:=λ hm=>by
  refine bw (hfa T0 hm) λ w1_ Z=>(iF w1_ λ m o2 es' t1_=>(cI t1_ λ ep q1 q2 Z=>?_))
  by_cases ne:T0=a
  ·rw [ne,ha] at q1;(have q1:=ac q1;subst q1);exact gi q2 rfl
  ·exact hT0a ne _ _ o2 q1 q2
 have hTa:T≠a:=λ z=>by
  have:=bx ha
  rw [h1s,z] at g1;exact eX _ (cG this g1)
 have hTs:s.heap.get? T=none:=dN (by exact af h1s.symm g1)
 obtain ⟨I',S'⟩:=mD (h':=h') (T0:=T0) I hfa hb hf ha rfl ⟨C,rfl⟩ (λ b o x y z eb=>g6 b o x y ((h1k b z).trans eb)) (by
  by_cases ne:T0=a
  ·exact .inl ne
  ·refine aL (h1t ne) λ oT2 w1 t1_=>(bu t1_ λ ts2 w2=>?_)
   rcases hT with z|⟨p1,p2,o2,ts3,q1,q2,q3⟩
   ·exact .inl z
   ·exact .inr ⟨p1,p2,o2,ts3,oT2,q1,q2,q3,g6 T0 oT2 ne faT w1⟩) ⟨o',k1⟩ (λ b o hm eb=>g7 b o hm ((h1k b (λ z=>faT (z▸hm))).trans eb))
 have hd':∃od',h'.get? d=some od'/\od'.data=.dict es.toArray n:=by
  by_cases hm:d∈fa
  ·exact bu (g7 d od hm ((h1k d hdT).trans hd)) λ sl2 e2=>⟨_,e2,hdd⟩
  ·exact ⟨od,g6 d od hda hm ((h1k d hdT).trans hd),hdd⟩
 refine aL hd' λ od' e1 e2=>?_
 have ho':o'={cls:=.ref C,dict:=some d,data:=.fields (vs.setIfInBounds 1 (.ref T)),slots:=sl}:=by
  obtain ⟨c,dd,dt,s2⟩:=o'
  simp only at k2 k3 k4 k5
  exact af k2 (af k3 (af k4 (af k5 rfl)))
 rw [ho'] at k1
 refine k {s with heap:=h'} ⟨a,C,d,_,es,n,t,sl,od',rfl,hC,k1,hb,hf,e1,e2,hbd,hfd,h0d,hw,.inr ⟨T,oT,ts,by simp [h1v],?_,hTa,g2,g3,g5,g4,I.free hTs⟩⟩ I' S' ⟨rfl,rfl,rfl⟩
 rw [h1s] at g1
 exact ao (fB (fE hb (bx ha))) g1
theorem yx (hfr:A.frames=some (au::outer)) (st:iC cx A H s.heap) (x:io cx h0 H s.heap e why) (I:cb cx H s.heap)
  (k:∀s',io cx h0 H s'.heap e why->cb cx H s'.heap->bb fc H s.heap H s'.heap->dR s s'->Q () s'):aE (ay cx.prog cx.w) A (noteFrame e au) (λ Z s'=>aE (ay cx.prog cx.w) A (setFlight e none) Q Ex s') Ex s:=by
 refine aL st λ l hl1 hl2=>?_
 rw [hfr] at hl1;(have hl1:=ac hl1;subst hl1)
 obtain ⟨a,C,d,vs,es,n,t,sl,od,rfl,hC,ha,hb,hf,hd,hdd,hbd,hfd,h0d,hw,htb⟩:=x
 refine bw (hl2 au (.head _)) λ Z t1_=>(aL t1_ λ L hL Z=>?_)
 have hfa:∀b∈(au::outer).filterMap (·.frame),(∃m,s.heap.Ns b m)/\ci H b/\cx.base.objs.size<=b:=λ b hb=>EB hl2 hb
 unfold noteFrame
 simp only [hL]
 rcases htb with h1|⟨T,oT,ts,h1,hbT,nT,hT,hdT,h3,hcT,hfT⟩
 ·have hsz:1<vs.size:=(dj.mp h1).1
  refine ae (gz ha rfl h1 ?_)
  refine af (if_neg (by decide)) ?_
  exact pQ hfr (y5 hl2) hL ha rfl hsz λ h' hLeft=>(tm (T0:=a) (h1:=s.heap) I hfa hC ha hb hf hd hdd hbd hfd h0d hw hsz (.inl rfl) rfl (λ Z Z=>rfl) (λ z=>absurd rfl z) ha hLeft k)
 ·have hsz:1<vs.size:=(dj.mp h1).1
  refine ae (gz ha rfl h1 ?_)
  refine af (if_pos (show (aR T !=bQ)=true from by simp)) ?_
  refine ae (gz hT hdT h3 ?_)
  refine af (if_neg (show ¬((bQ==iL L)=true) from by simp [iL])) ?_
  refine ae (gC hT hdT (dj.mp h3).1 ?_)
  have aX:∀b,b≠T->(s.heap.update T (cz (·.setIfInBounds 3 bQ))).get? b=s.heap.get? b:=λ b hb=>cf _ _ (fQ hb)
  have hself:=co (cz (·.setIfInBounds 3 bQ)) hT (fO (dJ hdT _))
  have ff:(s.heap.update T (cz (·.setIfInBounds 3 bQ))).FunFrames cx.base (au::outer):=(y5 hl2).of_keeps λ b o hb2 hnf=>⟨o,(aX b (λ q=>by rw [q,hT] at hb2;(have hb2:=ac hb2;subst hb2);exact hnf ts hdT)).trans hb2,rfl⟩
  have ha1:=(aX a (fQ nT)).trans ha
  exact pQ (s:={s with heap:=s.heap.update T (cz (·.setIfInBounds 3 bQ))}) hfr ff hL ha1 rfl hsz λ h' hLeft=>(tm (s:=s) (T0:=T) (h1:=s.heap.update T (cz (·.setIfInBounds 3 bQ))) I hfa hC ha hb hf hd hdd hbd hfd h0d hw hsz (.inr ⟨hbT,hfT,oT,ts,hT,hdT,hcT⟩) (Heap.size_after_update ..) aX (λ Z=>⟨_,hself,_,dJ hdT _⟩) ha1 hLeft k)
theorem B8:yu cx:=λ A au outer h0 H s e why Q Ex hfr st x I k=>ae (yx hfr st x I k)
end
end
section
open PySem PySem.W PyProof.Rows PySem.Calls Sem
structure jy (h:cM) (C:aI) (bm:List av):Prop where
 obj:∃nm q N bs sn sub ab col dd k0 k1 k2 k3 k5,h.get? C=some (excClassObj nm q C N bs bm true sn sub ab col dd k0 k1 k2 k3 k5 "Exception.__new__")
 isE:bm.contains (.type "Exception")=true
 isB:bm.contains (.type "BaseException")=true
 noA:bm.contains (.type "AttributeError")=false
 noN:bm.contains (.type "NameError")=false
theorem jy.keeps (x:jy h C bm) (k:∀b o,h.get? b=some o->h'.get? b=some o):jy h' C bm:=by
 obtain ⟨⟨nm,q,N,bs,sn,sub,ab,col,dd,k0,k1,k2,k3,k5,e⟩,a,b,c,d⟩:=x
 exact ⟨⟨nm,q,N,bs,sn,sub,ab,col,dd,k0,k1,k2,k3,k5,k _ _ e⟩,a,b,c,d⟩
abbrev gr (C t:aI):xQ:={cls:=.ref C,data:=.fields #[.ref t,.none,.none,.none,.bool false,.none]}
section
variable {os:iz}
theorem yK {E:av->ax->Prop} {sub:List av}
  (hC:h.get? C=some (excClassObj nm q C N bs bm hdct sn sub ab col dd k0 k1 k2 k3 k5 newId)) (e:(aR C::bm).contains base=b) (k:Q b ⟨h,g,d,t,os⟩):aE M A (uT (.ref C) base) Q E ⟨h,g,d,t,os⟩:=by
 subst e
 exact eA hC k
end
namespace om
def S_ (prog w A R h g d t os C bm rest):=∀(x:jy h C bm) (hrest:rest.length<=bE) (hq:R (.ok (.ret (.ref (h.objs.size+1)))) ⟨(h.push {cls:=.type "tuple",data:=.seq rest.toArray}).push (gr C h.objs.size),g,d,t,os⟩),eS (ay prog w) A (.call (.builtin "Exception.__new__") ⟨.ref C::rest,[]⟩) R ⟨h,g,d,t,os⟩
def U_:=UV λ prog w A=>UV λ R h g=>UV λ d t os=>UU λ C=>UU λ bm=>S_ prog w A R h g d t os C bm
def t_:=dr (by have:=qf;have:=J2;have:=p5;have:=vU;infer_instance) U_
def prog:=t_.1
def w:=t_.2.1
def A:=t_.2.2.1
def R:=t_.2.2.2.1
def h:=t_.2.2.2.2.1
def g:=t_.2.2.2.2.2.1
def s1_:=t_.2.2.2.2.2.2
def d:=s1_.1
def t:=s1_.2.1
def os:=s1_.2.2.1
def C:=s1_.2.2.2.1
def bm:=s1_.2.2.2.2.1
def rest:=s1_.2.2.2.2.2
theorem P_:S_ prog w A R h g d t os C bm rest:=by
 intro x hrest hq
 have F:=sw
 obtain ⟨⟨nm,q,N,bs,sn,sub,ab,col,dd,k0,k1,k2,k3,k5,hC⟩,isE,isB,noA,noN⟩:=x
 have hcE:(aR C::bm).contains (.type "Exception")=true:=by (exact af eF (af isE (af (iA _) rfl)))
 have hcA:(aR C::bm).contains (.type "AttributeError")=false:=by (refine af eF (af noA ?_));rfl
 have hcN:(aR C::bm).contains (.type "NameError")=false:=by (refine af eF (af noN ?_));rfl
 have hstar:=F.noStar
 refine codeAny_call_builtin_code (BB _ F.quiet) ?_
 simp only [checkBuiltinCall,F.newKind,F.newSplit,F.newRow]
 repeat (first|refine gb hC ?_|refine yK hC hcE ?_|refine wpAny_staticBase_exc hC ?_|refine wpAny_madeBy_exc hC ?_|simp only [bne_self_eq_false,ch,if_false]|wp_step)
 have hends:=F.ends
 refine codeAny_builtinAt F.entry ?_
 refine _root_.PySem.wpAt_bind ?_
 refine _root_.PySem.wpAt_bind (_root_.PySem.wpAt_stack λ p below=>_root_.PySem.wpAt_of_wpAny ?_)
 wp_walk
 refine _root_.PySem.wpAt_of_wpAny ?_
 refine af F.owner ?_
 repeat (first|with_reducible refine wpAny_madeHere_exc F.canon hC ?_|with_reducible refine gb hC ?_|with_reducible refine yK hC hcE ?_|with_reducible refine yK hC hcA ?_|with_reducible refine yK hC hcN ?_|wp_step)
 refine af (eE _ _) ?_
 exact hq
theorem A_:∀p,U_ p:=bB P_
end om
section
variable {prog:cQ}
theorem om {prog w A R h g d t os C bm rest}:om.S_ prog w A R h g d t os C bm rest:=om.A_ (prog,w,A,R,h,g,d,t,os,C,bm,rest)
end
section
variable {prog:cQ}
end
namespace md
def S_ (prog w A R h g d t os C bm rest):=∀{fI:aI} {K:gk} (X:K.In h) (x:jy h C bm) (hc:specialIn K (.ref C) "__call__"=some (some (.builtin "type.__call__"))) (ht:instIn K (.ref C) (.type "type")=some true) (hi:cR K (.ref C) "__init__"=some (some (.ref fI))) (hf:pt K (.ref fI)=some (.type "function")) (hrest:rest.length<=bE) (hq:eS (ay prog w) (A.under (.builtin "type.__call__" ⟨.ref C::rest,[]⟩)) (.call (.ref fI) ⟨.ref (h.objs.size+1)::rest,[]⟩) (InitBack (h.objs.size+1) R) ⟨(h.push {cls:=.type "tuple",data:=.seq rest.toArray}).push (gr C h.objs.size),g,d,t,os⟩),eS (ay prog w) A (.call (.ref C) ⟨rest,[]⟩) R ⟨h,g,d,t,os⟩
def U_:=UV λ prog w A=>UV λ R h g=>UV λ d t os=>UU λ C=>UU λ bm=>S_ prog w A R h g d t os C bm
def t_:=dr (by have:=qf;have:=J2;have:=p5;have:=vU;infer_instance) U_
def prog:=t_.1
def w:=t_.2.1
def A:=t_.2.2.1
def R:=t_.2.2.2.1
def h:=t_.2.2.2.2.1
def g:=t_.2.2.2.2.2.1
def s1_:=t_.2.2.2.2.2.2
def d:=s1_.1
def t:=s1_.2.1
def os:=s1_.2.2.1
def C:=s1_.2.2.2.1
def bm:=s1_.2.2.2.2.1
def rest:=s1_.2.2.2.2.2
theorem P_:S_ prog w A R h g d t os C bm rest:=by
 intro fI K X x hc ht hi hf hrest hq
 have x':=x
 obtain ⟨⟨nm,q,N,bs,sn,sub,ab,col,dd,k0,k1,k2,k3,k5,hC⟩,-,-,-,-⟩:=x
 have call:=looks_specialIn (M:=ay prog w) X hc
 have typ:=looks_instIn (M:=ay prog w) X ht
 have made:lD (ay prog w) h (Bind.madeBy (.ref C)) (some "Exception.__new__"):=λ A Q E s k q=>wpAny_madeBy_exc (k _ _ hC) q
 have self:lD (ay prog w) h (uT (.ref C) (.ref C)) true:=λ A Q E s k q=>eA (k _ _ hC) (by exact af (show (aR C::bm).contains (.ref C)=true from by simp) q)
 refine codeAny_of_tree ?_
 refine nd_load hC ?_
 show aE _ _ (callAny.viaDunder (.ref C) _) _ _ _
 refine ae (call.at ?_)
 dsimp only
 refine af (tc_bind _) ?_
 refine ae (ah (ae (ah ?_)))
 refine ah (a:=Fin.again (.call (.builtin "type.__call__") ⟨.ref C::rest,[]⟩)) (aj rfl ?_)
 refine codeAny_call_builtin_at (BB _ (by decide+kernel)) entry_typeCall (HU tc_kind tc_split typ (tc_args _ _ _) ?_)
 have hm:lD (ay prog w) h (mroOf (.ref C)) (.ref C::bm):=((pB (part:=none) hC).andThen .now).andThen .now
 repeat (first|simp only [ch,if_false]|with_reducible refine iK ?_|lk)
 refine om x' hrest ?_
 have k:∀b o,h.get? b=some o->((h.push {cls:=.type "tuple",data:=.seq rest.toArray}).push (gr C h.objs.size)).get? b=some o:=λ b o e=>ak _ (ak _ e)
 have hx:((h.push {cls:=.type "tuple",data:=.seq rest.toArray}).push (gr C h.objs.size)).get? (h.objs.size+1)=some (gr C h.objs.size):=by heap_get
 have t1:lD (ay prog w) ((h.push {cls:=.type "tuple",data:=.seq rest.toArray}).push (gr C h.objs.size)) (typeOf (.ref (h.objs.size+1))) (.ref C):=(pB hx).andThen .now
 have s1:=self.keeps k
 have i1:=(nG (M:=ay prog w) X hi).keeps k
 have b1:=(bind_fn (M:=ay prog w) X (.ref (h.objs.size+1)) hf).keeps k
 repeat (first|with_reducible refine iK ?_|lk)
 refine sX hq λ r s' z=>?_
 rcases r with e|(v|_|_|_)<;>first|exact z|exact z.elim|skip
 refine bw z λ r1_ z_=>?_
 clear z
 revert z_;intro z
 subst r1_
 exact ah (ah z)
theorem A_:∀p,U_ p:=bB P_
end md
section
variable {prog:cQ}
theorem md {prog w A R h g d t os C bm rest}:md.S_ prog w A R h g d t os C bm rest:=md.A_ (prog,w,A,R,h,g,d,t,os,C,bm,rest)
end
end
section
open PySem PySem.W PyProof.Rows PySem.Calls Builtin Builtin.ObjectAttr
abbrev jW:List av:=[.type "Exception",.type "BaseException",.type "object"]
theorem tR (self:av):∀rs:List aI,refuseLoop self "__setattr__" (rs.map aR++jW)=pure ()
 |[]=>PySem.F.store_Exception.passes self
 |r::rs=>by (refine af bj (af List.cons_append ?_);rw [refuseLoop_ref]);exact tR self rs
inductive tS (h:cM) (e C:aI) (vs:Array av) (m:aw->Option av):Prop
 |mk (dd) (sl) (h1:h.get? e=some {cls:=.ref C,dict:=dd,data:=.fields vs,slots:=sl}) (h2:((dd=none/\∀n,m n=none)\/∃d,dd=some d/\d≠e/\h.Ns1 d m)):tS h e C vs m
section
variable {prog:cQ}
end
namespace mz
def S_ (prog:cQ) (w:f7) (A:dy) (E:av->ax->Prop) (h:cM) (g:Array GenState) (dr:Drawn) (t:Nat) (os:iz) (C e:aI) (rs:List aI) (vs m name v Q):=∀{K:gk} {ns:List aw} (X:K.In h) (x:jy h C (rs.map aR++jW)) (hs:cR K (.ref C) "__setattr__"=some (some (.builtin "object.__setattr__"))) (hn:cR K (.ref C) name=some none) (I:tS h e C vs m) (hw:Within m ns) (hz:ns.length<=100) (hq:∀h' tk,tS h' e C vs (λ y=>if y=name then some v else m y)->(∀b o,b≠e->(∀o₀ d,h.get? e=some o₀->o₀.dict=some d->b≠d)->h.get? b=some o->h'.get? b=some o)->
   (∀o₀ d,h.get? e=some o₀->o₀.dict=some d->∃o,h'.get? e=some o/\o.dict=some d)->((∃o₀,h.get? e=some o₀/\o₀.dict=none)->∃o,h'.get? e=some o/\o.dict=some h.objs.size)->Q () ⟨h',g,dr,tk,os⟩),aE (ay prog w) A (Ir (.ref e) name v) Q E ⟨h,g,dr,t,os⟩
def U_:=UV λ prog w A=>UV λ E h g=>UV λ dr t os=>UV λ C e rs=>UV λ vs m name=>UU λ v=>S_ prog w A E h g dr t os C e rs vs m name v
def t_:=dr (by have:=qf;have:=J2;have:=p5;have:=vU;infer_instance) U_
def prog:=t_.1
def w:=t_.2.1
def A:=t_.2.2.1
def E:=t_.2.2.2.1
def h:=t_.2.2.2.2.1
def g:=t_.2.2.2.2.2.1
def s1_:=t_.2.2.2.2.2.2
def dr:=s1_.1
def t:=s1_.2.1
def os:=s1_.2.2.1
def C:=s1_.2.2.2.1
def e:=s1_.2.2.2.2.1
def rs:=s1_.2.2.2.2.2.1
def s2_:=s1_.2.2.2.2.2.2
def vs:=s2_.1
def m:=s2_.2.1
def name:=s2_.2.2.1
def v:=s2_.2.2.2.1
def Q:=s2_.2.2.2.2
theorem P_:S_ prog w A E h g dr t os C e rs vs m name v Q:=by
 intro K ns X x hs hn I hw hz hq
 have SF:=PySem.F.store_object
 obtain ⟨⟨nm,q,N,bs,sn,sub,ab,col,dd,k0,k1,k2,k3,k5,hC⟩,-,-,-,-⟩:=x
 obtain ⟨de,sl,he,hd⟩:=I
 have t1:lD (ay prog w) h (typeOf (.ref e)) (.ref C):=(pB he).andThen .now
 have sub1:lD (ay prog w) h (uT (.ref C) (.type "object")) true:=λ A Q E s k q=>eA (k _ _ hC) (by exact af (show (aR C::(rs.map aR++jW)).contains (.type "object")=true from by simp) q)
 have is1:lD (ay prog w) h (x4 (.ref e) (.type "object")) true:=t1.andThen sub1
 have hm:lD (ay prog w) h (mroOf (.ref C)) (.ref C::(rs.map aR++jW)):=((pB (part:=none) hC).andThen .now).andThen .now
 refine ae (wpAny_mkText (ae (ae (ae (t1.here ((nG X hs).here (bz (ae ?_))))))))
 refine af (SF.slot.bind (.ref e)) ?_
 refine ah (ae (iK ?_))
 refine pD SF.slot.plain SF.entry (@HU (ay prog w) _ _ ⟨h,g,dr,t+1,os⟩ "object.__setattr__" "object" "__setattr__" (.ref e) [.str name t,v] [] _ SF.kind SF.split is1 (SF.args (.ref e) (.str name t) v) ?_)
 show aE _ _ (jb.«object.__setattr__» ⟨[.ref e,.str name t,v],[]⟩) _ _ _
 (rewrite [osa_eq];refine af (refuse_eq _ _) ?_)
 refine ae (ae (t1.here (ae (hm.here ?_))))
 refine af (show refuseLoop (.ref e) "__setattr__" (.ref C::(rs.map aR++jW))=pure () from tR (.ref e) (C::rs)) ?_
 have L3:lD (ay prog w) h (storeTaker? none) none:=.now
 refine ah (ae (t1.here (ae ((nG X hn).here (ae (L3.here ?_))))))
 refine ae (ah (ae (ae (wpAny_loadPart he (ae ?_)))))
 refine ae (wpAny_load hC (ah ?_))
 rcases hd with ⟨rfl,hmA⟩|⟨d,rfl,hne,hns⟩
 ·have hes:e≠h.objs.size:=dM (bx he)
  have he1:=ak {cls:=.type "dict",data:=.dict #[]} he
  refine ae (wpAny_alloc' (ae (wpAny_update' he1 (ah ?_))))
  have he2:((h.push {cls:=.type "dict",data:=.dict #[]}).update e λ o=>{o with dict:=some h.objs.size}).get? e=some {cls:=.ref C,dict:=some h.objs.size,data:=.fields vs,slots:=sl}:=co _ he1 rfl
  have hgd:((h.push {cls:=.type "dict",data:=.dict #[]}).update e λ o=>{o with dict:=some h.objs.size}).get? h.objs.size=some {cls:=.type "dict",data:=.dict #[]}:=
   (cf _ _ hes).trans (Heap.get?_push_at rfl rfl)
  have hnd:((h.push {cls:=.type "dict",data:=.dict #[]}).update e λ o=>{o with dict:=some h.objs.size}).Ns h.objs.size (λ Z=>none):=⟨_,#[],_,hgd,rfl,λ e he=>absurd he (by simp),λ Z=>rfl⟩
  show aE _ _ (storeInDict h.objs.size (.str name t) name v) _ _ _
  refine ae (ah (ae (wpAny_nsSet1 (Heap.Ns1.of_empty hnd) λ h' hn' hs'=>?_)))
  refine iZ (hn'.count (HV name v Within.nil)) λ oD esD epD hoD hdD hcD=>(ae (wpAny_lookBehind hoD (by refine af hdD ?_;exact pastItsLine_dict (ao hcD (by (refine af aP (af fJ (af d7 ?_)));exact mu _))) ?_))
  have he':=(hs'.2 e hes).trans he2
  refine ah (ah (ah (hq h' _ ⟨_,_,he',.inr ⟨h.objs.size,rfl,hes.symm,?_⟩⟩ (λ b o hb Z eb=>?_) (λ o₀ d' e0 e1=>by rw [he] at e0;(have e0:=ac e0;subst e0);exact bH e1) λ Z=>⟨_,he',rfl⟩)))
  ·refine uf hn' λ o' es ep e1 e2 e3 eu e4=>?_
   exact ⟨o',es,ep,e1,e2,e3,eu,λ y=>by refine af (e4 y) ?_;by_cases hy:y=name<;>simp [hy,hmA]⟩
  ·exact (hs'.2 b (dM (bx eb))).trans ((cf _ _ (fQ hb)).trans (ak _ eb))
 ·refine ah ?_
  show aE _ _ (storeInDict d (.str name t) name v) _ _ _
  refine ae (ah (ae (wpAny_nsSet1 hns λ h' hn' hs'=>?_)))
  refine iZ (hn'.count (HV name v hw)) λ oD esD epD hoD hdD hcD=>(ae (wpAny_lookBehind hoD (by refine af hdD ?_;exact pastItsLine_dict (ao hcD (by (refine af aP (af d7 ?_));exact fE ‹_› (by decide)))) ?_))
  have he':=(hs'.2 e hne.symm).trans he
  refine ah (ah (ah (hq h' _ ⟨_,_,he',.inr ⟨d,rfl,hne,hn'⟩⟩ (λ b o Z hbd hb=>(hs'.2 b (hbd _ d he rfl)).trans hb) (λ o₀ d' e0 e1=>⟨_,he',by rw [he] at e0;(have e0:=ac e0;subst e0);exact e1⟩) λ z=>?_)))
  refine aL z λ o₀ e0 e1=>?_
  rw [he] at e0;(have e0:=ac e0;subst e0);exact b7 e1
theorem A_:∀p,U_ p:=bB P_
end mz
section
variable {prog:cQ}
theorem mz {prog w A E h g dr t os C e rs vs m name v Q}:mz.S_ prog w A E h g dr t os C e rs vs m name v Q:=mz.A_ (prog,w,A,E,h,g,dr,t,os,C,e,rs,vs,m,name,v,Q)
end
end
section
open PySem PySem.W PyProof.Rows PySem.Calls
section
variable {prog:cQ}
end
namespace gc
def S_ (prog w A E h g dr t os C e bm m a Q):=∀{vs:Array av} (x:jy h C bm) (I:tS h e C vs m) {T0:aI} (h0:vs[0]?=some (.ref T0)) (hq:∀h' T,tS h' e C (vs.setIfInBounds 0 (.ref T)) m->(∀b o,b≠e->h.get? b=some o->h'.get? b=some o)->(∀o,h.get? e=some o->∃o',h'.get? e=some o'/\o'.dict=o.dict)->Q .none ⟨h',g,dr,t,os⟩),aE (ay prog w) A (call (.builtin "Exception.__init__") [.ref e,a]) Q E ⟨h,g,dr,t,os⟩
def U_:=UV λ prog w A=>UV λ E h g=>UV λ dr t os=>UV λ C e bm=>UU λ m=>UU λ a=>S_ prog w A E h g dr t os C e bm m a
def t_:=dr (by have:=qf;have:=J2;have:=p5;have:=vU;infer_instance) U_
def prog:=t_.1
def w:=t_.2.1
def A:=t_.2.2.1
def E:=t_.2.2.2.1
def h:=t_.2.2.2.2.1
def g:=t_.2.2.2.2.2.1
def s1_:=t_.2.2.2.2.2.2
def dr:=s1_.1
def t:=s1_.2.1
def os:=s1_.2.2.1
def C:=s1_.2.2.2.1
def e:=s1_.2.2.2.2.1
def bm:=s1_.2.2.2.2.2.1
def s2_:=s1_.2.2.2.2.2.2
def m:=s2_.1
def a:=s2_.2.1
def Q:=s2_.2.2
theorem P_:S_ prog w A E h g dr t os C e bm m a Q:=by
 intro vs x I T0 h0 hq
 have F:=sw
 have hz:0<vs.size:=(dj.mp h0).1
 obtain ⟨⟨nm,q,N,bs,sn,sub,ab,col,dd,k0,k1,k2,k3,k5,hC⟩,isE,-,-,-⟩:=x
 obtain ⟨de,sl,he,hd⟩:=I
 have t1:lD (ay prog w) h (typeOf (.ref e)) (.ref C):=(pB he).andThen .now
 have sub1:lD (ay prog w) h (uT (.ref C) (.type "Exception")) true:=λ A Q E s k q=>eA (k _ _ hC) (by rw [show (aR C::bm).contains (.type "Exception")=true from by (exact af eF (af isE (af (iA _) rfl)))];exact q)
 have is1:lD (ay prog w) h (x4 (.ref e) (.type "Exception")) true:=t1.andThen sub1
 refine iK (pD F.init.plain F.initEntry ?_)
 ·have hcE:(aR C::bm).contains (.type "Exception")=true:=by (exact af eF (af isE (af (iA _) rfl)))
  have hshort:=F.noStar
  simp only [checkBuiltinCall,F.initKind,F.initSplit,F.initRow]
  repeat (first|with_reducible refine gb he ?_|with_reducible refine gb hC ?_|(with_reducible refine eA hC ?_;refine af hcE ?_)|wp_step)
  refine af h0 ?_
  refine ah (ae ?_)
  have he1:=ak {cls:=.type "tuple",data:=.seq #[a]} he
  refine gC he1 rfl hz (wpAny_letGo (ah ?_))
  have he2:=co (cz (·.setIfInBounds 0 (aR h.objs.size))) he1 rfl
  refine hq _ h.objs.size ⟨_,_,he2,?_⟩ (λ b o hb eb=>(cf _ _ (fQ hb)).trans (ak _ eb)) λ o e0=>⟨_,he2,by rw [he] at e0;(have e0:=ac e0;subst e0);rfl⟩
  rcases hd with ⟨rfl,hm⟩|⟨d,rfl,hne,hns⟩
  ·exact .inl ⟨rfl,hm⟩
  ·exact .inr ⟨d,rfl,hne,hns.at λ o eo=>(cf _ _ (fQ hne)).trans (ak _ eo)⟩
theorem A_:∀p,U_ p:=bB P_
end gc
section
variable {prog:cQ}
theorem gc {prog w A E h g dr t os C e bm m a Q}:gc.S_ prog w A E h g dr t os C e bm m a Q:=gc.A_ (prog,w,A,E,h,g,dr,t,os,C,e,bm,m,a,Q)
end
noncomputable def initS:List S:=[.expr (.meth (.fn (aa "Exception") (.ty "Exception")) (aa "__init__") [.loc 0,.loc 1]),.setattr (.loc 0) (aa "why") (.loc 1),.setattr (.loc 0) (aa "at") (.neg (.int 1))]
abbrev ee:List aw:=[aa "self",aa "why"]
structure um (cx:Cx) (gl:GL) (C:aI) (rs:List aI):Prop where
 addr:cx.addr (.cls 1)=.ref C
 cls:jy cx.base C (rs.map aR++jW)
 call:specialIn cx.K (.ref C) "__call__"=some (some (.builtin "type.__call__"))
 typ:instIn cx.K (.ref C) (.type "type")=some true
 ini:∃fI,cx.addr (.user 3)=.ref fI/\cR cx.K (.ref C) "__init__"=some (some (.ref fI))/\pt cx.K (.ref fI)=some (.type "function")
 sa:cR cx.K (.ref C) "__setattr__"=some (some (.builtin "object.__setattr__"))
 why:cR cx.K (.ref C) "why"=some none
 at_:cR cx.K (.ref C) "at"=some none
 ga:cR cx.K (.ref C) "__getattribute__"=some (some (.builtin "BaseException.__getattribute__"))
 gt:cR cx.K (.ref C) "__getattr__"=some none
 hd:uP cx.K C=true
 ty:cx.addr (.ty "Exception")=.type "Exception"
 fn:z4 cx gl (.user 3) ee ee [] initS
section
variable {cx:Cx}
theorem oH (h:aE (ay cx.prog cx.w) A (eval v au) (λ w s1=>aE (ay cx.prog cx.w) A (eval y au) (λ o s2=>aE (ay cx.prog cx.w) A (Ir o n w) (λ Z s3=>Q .next s3) Ex s2) Ex s1) Ex s):
  aE (ay cx.prog cx.w) A (exec (.Assign [.Attribute y n p] v pos) au) Q Ex s:=
 rC qQ rfl rfl (aq h (λ Z Z h1=>ae (bz (aq h1 (λ Z Z h2=>ae (cq (ae (bz (aq h2 (λ Z Z h3=>Bo h3) λ Z Z e=>e))))) λ Z Z e=>e))) λ Z Z e=>e)
end
section
variable {cx:Cx}
theorem sK (F:Fr h₀ L s.heap m) (h:Q (.builtin "Exception.__init__",[]) {s with toks:=s.toks+1}):
  aE (ay cx.prog cx.w) A (getMethod (.type "Exception") "__init__" pl) Q Ex s:=
 method_type (K:=[]) F (λ Z Z e=>by cases e) (by rfl) (by decide+kernel) (by kernel_rfl) (by rfl) h
theorem EF (h:nsFind es.toArray n=some v):Ff n es=some (some v):=by
 unfold nsFind findBy at h
 rw [List.find?_toArray] at h
 have q:(λ d:fU=>Value.isStrOf n d.key)=λ d=>d.key.isStr n:=funext λ d=>(isStr_of n d.key).symm
 unfold Ff
 first|(rw [q] at h)|skip
 cases e:es.find? (λ d=>d.key.isStr n) with
 |none=>rw [e] at h;cases h
 |some d=>rw [e] at h;cases h;rfl
inductive xo (cx:Cx) (H:MH) (h h':cM) (e C:aI) (vs:Array av) (why:aw):Prop
 |mk (T) (D) (sl) (od) (es) (n) (t) (h1:h'.get? e=some {cls:=.ref C,dict:=some D,data:=.fields (vs.setIfInBounds 0 (.ref T)),slots:=sl}) (h2:cx.base.objs.size<=D) (h3:ci H D) (h4:h.get? D=none) (h5:D≠e) (h6:h'.get? D=some od) (h7:od.data=.dict (List.toArray es) n) (h8:Ff "why" es=some (some (.str why t))):xo cx H h h' e C vs why
structure Di (e:aI) (s s':ax):Prop where
 k:∀b o,b≠e->s.heap.get? b=some o->s'.heap.get? b=some o
 m:dR s s'
inductive GU (e C:aI) (vs:Array av) (s s':ax):Prop
 |mk (T sl) (h1:s'.heap.get? e=some {cls:=.ref C,dict:=none,data:=.fields (vs.setIfInBounds 0 (.ref T)),slots:=sl}) (h2:Di e s s'):GU e C vs s s'
inductive HI (cx:Cx) (H:MH) (e C:aI) (vs:Array av) (why:aw) (s s':ax):Prop
 |mk (T D t o) (h1:tS s'.heap e C (vs.setIfInBounds 0 (.ref T)) (λ y=>if y=(aa "why") then some (.str why t) else none)) (h2:s'.heap.get? e=some o) (h3:o.dict=some D) (h4:cx.base.objs.size<=D) (h5:ci H D) (h6:s.heap.get? D=none) (h7:Di e s s'):HI cx H e C vs why s s'
section
variable {e C T0:aI}
theorem re (F:Fm cx au ee H [some (.ref e),some (.str why)] s.heap) (I:cb cx H s.heap) (hb:cx.base.objs.size<=e) (hf:ci H e) (ho:s.heap.get? e=some {cls:=.ref C,data:=.fields vs,slots:=sl0}) (w:Di e s s1) (he:s1.heap.get? e=some o):
  cb cx H s1.heap/\Fm cx au ee H [some (.ref e),some (.str why)] s1.heap:=
 let ⟨a,b⟩:=mD (fa:=[]) (T0:=e) I (λ b hb=>nomatch hb) hb hf ho rfl ⟨C,rfl⟩ (λ b o x Z Z eb=>w.k b o x eb) (.inl rfl) ⟨_,he⟩ (λ b o hm=>nomatch hm)
 ⟨a,F.step b⟩
theorem IK (G:gT cx tb gl) (he:um cx gl C rs) (h:okS gl au.scope ee (.expr (.meth (.fn (aa "Exception") (.ty "Exception")) (aa "__init__") [.loc 0,.loc 1])) t=true) (F:Fm cx au ee H [some (.ref e),some (.str why)] s.heap)
  (I:cb cx H s.heap) (ho:s.heap.get? e=some {cls:=.ref C,data:=.fields vs,slots:=sl0}) (h0:vs[0]?=some (.ref T0)):
  aE (ay cx.prog cx.w) A (exec (emS ee (.expr (.meth (.fn (aa "Exception") (.ty "Exception")) (aa "__init__") [.loc 0,.loc 1])) t) au) (λ f s1=>f=.next/\GU e C vs s s1) Ex s:=by
 have hm:(t.l.l.p.endLine==t.l.p.line&&(okGlob gl au.scope (aa "Exception") (.ty "Exception")&&okEs gl au.scope ee [.loc 0,.loc 1] t.l.r))=true:=h
 have hp:=al hm
 have hg:=al (ar hm)
 have ha:=ar (ar hm)
 refine HT (ae (we (m5 rfl) (oz G F.glob F.blt F.kind I hg ?_))) (qR F.kind) (oa rfl)
 refine af he.ty ?_
 refine ae (cq ?_)
 unfold methodCall
 refine af (tG ha (by decide)) ?_
 obtain ⟨m1,n1',mm,hns1⟩:=F.lok
 refine ae (bz (sK (wc I F.lok hns1) (ae (lP (v5 (eq_of_beq hp)) ?_))))
 refine lX G (.inr λ a z=>by cases z) ha (mI (pg (s:={s with toks:=s.toks+1}) F (eq_of_beq (al (al (ar ha)))) (ar (al (ar ha))) (u:=.ref e) rfl λ w1 hw1=>?_) (j9 (nt (al ha))))
 refine mI (pg (s:={s with toks:=s.toks+1}) F (eq_of_beq (al (al (ar (ar (ar ha)))))) (ar (al (ar (ar (ar ha))))) (u:=.str why) rfl λ w2 hw2=>?_) (j9 (nt (al (ar (ar ha)))))
 refine wR ⟨G.X.keeps I.base,?_⟩
 cases df hw1
 obtain ⟨hh,gg,dd,tk,os⟩:=s
 refine gc (C:=C) (he.cls.keeps I.base) ⟨none,sl0,ho,.inl ⟨rfl,λ Z=>rfl⟩⟩ h0 λ h' T hO hk hd=>⟨rfl,?_⟩
 obtain ⟨d2,sl2,e2,_⟩:=hO
 refine aL (hd _ ho) λ o' e3 e4=>?_
 rw [e2] at e3;(have e3:=ac e3;subst e3)
 cases (e4:d2=none)
 exact ⟨T,sl2,e2,hk,rfl,rfl,rfl⟩
theorem Jf (G:gT cx tb gl) (he:um cx gl C rs) (h:okS gl au.scope ee (.setattr (.loc 0) (aa "why") (.loc 1)) t=true) (F:Fm cx au ee H [some (.ref e),some (.str why)] s1.heap)
  (I:cb cx H s1.heap) (q:GU e C vs s s1):
  aE (ay cx.prog cx.w) A (exec (emS ee (.setattr (.loc 0) (aa "why") (.loc 1)) t) au) (λ f s2=>f=.next/\HI cx H e C vs why s s2) Ex s1:=by
 obtain ⟨T,sl,e1,w⟩:=q
 refine oH (pg F (eq_of_beq (al (al h))) (ar (al h)) (u:=.str why) rfl λ wv hw=>pg F (eq_of_beq (al (ar h))) (ar (ar h)) (u:=.ref e) rfl λ ov hov=>?_)
 cases df hov
 refine bu (gQ hw) λ t r1_=>?_
 subst r1_
 obtain ⟨hh,gg,dd,tk,os⟩:=s1
 refine mz (K:=cx.K) (ns:=[]) (G.X.keeps I.base) (he.cls.keeps I.base) he.sa he.why ⟨none,sl,e1,.inl ⟨rfl,λ Z=>rfl⟩⟩ (Within.of_none λ Z=>rfl) (by decide) λ h' tk' hO hk Z hd=>⟨rfl,?_⟩
 refine aL (hd ⟨_,e1,rfl⟩) λ o g1 g2=>⟨T,hh.objs.size,t,o,hO,g1,g2,F.lok.le,I.free (dN (bW _)),?_,λ b o nb eb=>hk b o nb (λ o₀ d e0 e2=>by rw [e1] at e0;(have e0:=ac e0;subst e0);exact bH e2) (w.k b o nb eb),w.m.trans ⟨rfl,rfl,rfl⟩⟩
 cases z:s.heap.get? hh.objs.size with
 |none=>rfl
 |some o=>
  by_cases q:hh.objs.size=e
  ·exact absurd (bx e1) (by refine af q.symm ?_;exact eX _)
  ·exact absurd (bx (w.k _ _ q z)) (eX _)
theorem JX (G:gT cx tb gl) (he:um cx gl C rs) (h:okS gl au.scope ee (.setattr (.loc 0) (aa "at") (.neg (.int 1))) t=true) (F:Fm cx au ee H [some (.ref e),some (.str why)] s1.heap)
  (I:cb cx H s1.heap) (q:HI cx H e C vs why s s1):
  aE (ay cx.prog cx.w) A (exec (emS ee (.setattr (.loc 0) (aa "at") (.neg (.int 1))) t) au) (λ f s2=>f=.next/\xo cx H s.heap s2.heap e C vs why/\Di e s s2) Ex s1:=by
 obtain ⟨T,D,tk0,oe,hO,e1,e2,bD,fD,nD,w⟩:=q
 have hl:okE gl au.scope ee (.loc 0) t.l.l=true:=h
 have hl1:=eq_of_beq (al hl)
 have hl2:=ar hl
 refine oH (wpAny_UnaryOp (HS (P.neg_int (pg (s:={s1 with toks:=_}) F hl1 hl2 (u:=.ref e) rfl λ ov hov=>?_))))
 cases df hov
 obtain ⟨hh,gg,dd,tk,os⟩:=s1
 refine mz (K:=cx.K) (ns:=[aa "why"]) (G.X.keeps I.base) (he.cls.keeps I.base) he.sa he.at_ hO (λ y hy=>?_) (by decide) λ h' tk' hO' hk hd Z=>⟨rfl,?_⟩
 ·by_cases q:y=aa "why"
  ·refine af q ?_;exact .head _
  ·exact absurd (if_neg q) hy
 ·obtain ⟨dd',sl',e',hd'⟩:=hO'
  refine aL (hd _ _ e1 e2) λ o' e3 e4=>?_
  rw [e'] at e3;(have e3:=ac e3;subst e3)
  cases (e4:dd'=some D)
  rcases hd' with ⟨z,_⟩|⟨D',z,hne,oD,esD,epD,f1,f2,f3,f4,f5⟩
  ·exact b7 z
  (have z:=ac z;subst z)
  refine ⟨⟨T,D,sl',oD,esD.toList,epD,tk0,e',bD,fD,nD,hne,f1,by (exact af f2 (af jd rfl)),EF (by (refine af jd (af (f5 _) ?_));exact (if_neg (by decide)).trans (if_pos rfl))⟩,λ b o nb eb=>hk b o nb (λ o₀ d e0 e5 q=>?_) (w.k b o nb eb),w.m.trans ⟨rfl,rfl,rfl⟩⟩
  rw [e1] at e0;(have e0:=ac e0;subst e0);rw [e2] at e5;(have e5:=ac e5;subst e5)
  rw [q,nD] at eb;exact bH eb
theorem Aa (G:gT cx tb gl) (he:um cx gl C rs) (h:okSs gl au.scope ee initS t=true) (F:Fm cx au ee H [some (.ref e),some (.str why)] s.heap)
  (I:cb cx H s.heap) (hb:cx.base.objs.size<=e) (hf:ci H e) (ho:s.heap.get? e=some {cls:=.ref C,data:=.fields vs,slots:=sl0}) (h0:vs[0]?=some (.ref T0)):
  aE (ay cx.prog cx.w) A (execs (emSs ee initS t) au) (λ f s'=>f=.next/\xo cx H s.heap s'.heap e C vs why/\Di e s s') Ex s:=by
 refine gN (aq (IK G he (al h) F I ho h0) (λ f s1 ⟨hf1,h1⟩=>?_) λ Z Z e=>e)
 subst hf1
 have ⟨I1,F1⟩:cb cx H s1.heap/\Fm cx au ee H [some (.ref e),some (.str why)] s1.heap:=by
  obtain ⟨T,sl,e1,w⟩:=h1
  exact re F I hb hf ho w e1
 refine gN (aq (Jf G he (al (ar h)) F1 I1 h1) (λ f s2 ⟨hf2,h2⟩=>?_) λ Z Z e=>e)
 subst hf2
 have ⟨I2,F2⟩:cb cx H s2.heap/\Fm cx au ee H [some (.ref e),some (.str why)] s2.heap:=by
  obtain ⟨T,D,t,oe,hO,e1,e2,bD,fD,nD,w⟩:=h2
  exact re F I hb hf ho w e1
 refine gN (aq (JX G he (al (ar (ar h))) F2 I2 h2) (λ f s3 ⟨hf3,h3⟩=>?_) λ Z Z e=>e)
 subst hf3
 exact fT ⟨rfl,h3⟩
end
end
section
variable {E:av->ax->Prop}
theorem sI (hh:A.handled=none)
  (h:aE M A x (λ v s₁=>∃e d vs sl,v=.ref e/\jy s₁.heap C bm/\s₁.heap.get? e=some {cls:=.ref C,dict:=d,data:=.fields vs,slots:=sl}/\vs[1]?=some .none/\E (.ref e) s₁) E s):aE M A (raiseStmt au (some x) none) Q E s:=by
 refine ae (aq h (λ v s₁ h₁=>?_) λ Z Z x=>x)
 refine AJ h₁ λ e de vs sl r1_ w2_ he t3_=>(bw t3_ λ h1 hE=>?_)
 clear h₁ t3_
 subst r1_
 obtain ⟨⟨nm,q,N,bs,sn,sub,ab,col,dd,k0,k1,k2,k3,k5,hC⟩,-,isB,-,-⟩:=w2_
 obtain ⟨hp,g,d,tk,os⟩:=s₁
 have hcB:(aR C::bm).contains (.type "BaseException")=true:=by (exact af eF (af isB (af (iA _) rfl)))
 repeat (first|with_reducible refine gb he ?_|with_reducible refine gb hC ?_|(with_reducible refine eA hC ?_;refine af hcB ?_)|wp_step)
 refine af h1 ?_
 refine ah ?_
 refine af (if_neg (by decide)) ?_
 exact ah (wpAny_raiseNew_none hh hE)
end
section
variable {cx:Cx}
theorem ux (hf:uR cx.K f=true\/∀a,f≠.ref a) (hs:isStar y=false)
  (h:aE (ay cx.prog cx.w) A (eval y au) (λ v s₁=>cx.K.In s₁.heap/\aE (ay cx.prog cx.w) A (call f (first++[v])) R Ex s₁) Ex s):
  aE (ay cx.prog cx.w) A (callWith pos f first (pA pos (ik [y] au)) []) R Ex s:=by
 have hk:∀h,cx.K.In h->∃k,(k=Gy\/k=DX\/k=Bl)/\lD (ay cx.prog cx.w) h (keeperOf f) k:=λ h X=>by
  rcases hf with hf|hf
  ·exact keeps_K hf h X
  ·refine ⟨.machine,.inr (.inl rfl),Gz ?_⟩
   cases f<;>first|rfl|exact absurd rfl (hf _)
 refine callWith_of (P:=cx.K.In) (by (refine af (oA _) (af (j9 hs) ?_));rfl) hk ?_
 have h':aE (ay cx.prog cx.w) A (spliced (pA pos (ik [y] au))) (λ vs s₁=>cx.K.In s₁.heap/\aE (ay cx.prog cx.w) A (call f (first++vs)) R Ex s₁) Ex s:=
  mI (aq h (λ v s1 h1=>wR h1) λ Z Z e=>e) (j9 hs)
 rw [j9 hs] at h'⊢
 exact evalArgs_plain h'
end
namespace l8
def S_ (cx A au C rs c y pn cp):=∀{tb:on} {gl:GL} {lv:Nat} {nm:List aw} {e:Mine.E} {pos:Bx} (G:gT cx tb gl) (he:um cx gl C rs) (am:Bt A lv) (ie:w6 cx tb A lv nm au e y) (hg:okGlob gl au.scope c (.cls 1)=true) (hs:isStar y=false),Ik cx tb A lv nm au (.raise_ e) (.Raise (some (.Call (.Name c pn) [y] [] cp)) none pos)
def U_:=UV λ cx A au=>UV λ C rs c=>UU λ y=>UU λ pn=>S_ cx A au C rs c y pn
def t_:=dr (by have:=qf;have:=ti;infer_instance) U_
def cx:=t_.1
def A:=t_.2.1
def au:=t_.2.2.1
def C:=t_.2.2.2.1
def rs:=t_.2.2.2.2.1
def c:=t_.2.2.2.2.2.1
def s1_:=t_.2.2.2.2.2.2
def y:=s1_.1
def pn:=s1_.2.1
def cp:=s1_.2.2
namespace tA
def S_ (H s X v H1 w hh gg dd tk os):=∀(tb:on) (gl:GL) (lv:Nat) (nm:List aw) (G:gT cx tb gl) (he:um cx gl C rs) (am:Bt A lv) (ρ:da) (hlv:0<lv) (q1:JH (V.str w) λ w↦X w H1) (fI:aI) (hfI:cx.addr (Fn.user 3)=aR fI) (hini:cR cx.K (aR C) (aa "__init__")=some (some (aR fI))) (htyp:pt cx.K (aR fI)=some (cO "function")) (I1:cb cx H1 (iR hh gg dd tk os).heap) (S1:bb fc H s.heap H1 (iR hh gg dd tk os).heap) (M1:dR s (iR hh gg dd tk os)) (r1:VRel cx (iR hh gg dd tk os).heap (V.str w) v) (F1:Fm cx au nm H1 ρ (iR hh gg dd tk os).heap) (st1:iC cx A H1 (iR hh gg dd tk os).heap) (X1:cx.K.In (iR hh gg dd tk os).heap) (hbs:cx.base.objs.size<=(iR hh gg dd tk os).heap.objs.size),aE (ay cx.prog cx.w) A (call (aR C) ([]++[v])) (λ v s₃↦∃e d vs sl,v=aR e/\jy s₃.heap C (a7 aR rs++jW)/\s₃.heap.get? e=some (HW (aR C) d (sj vs) sl)/\vs[1]?=some bQ/\cn cx (PF au) H s X (aR e) s₃) (cn cx (PF au) H s X) (iR hh gg dd tk os)
def U_:=UV λ H s X=>UV λ v H1 w=>UV λ hh gg dd=>UU λ tk=>S_ H s X v H1 w hh gg dd tk
def t_:=dr (by have:=J2;have:=p5;infer_instance) U_
def H:=t_.1
def s:=t_.2.1
def X:=t_.2.2.1
def v:=t_.2.2.2.1
def H1:=t_.2.2.2.2.1
def w:=t_.2.2.2.2.2.1
def s1_:=t_.2.2.2.2.2.2
def hh:=s1_.1
def gg:=s1_.2.1
def dd:=s1_.2.2.1
def tk:=s1_.2.2.2.1
def os:=s1_.2.2.2.2
theorem P_:S_ H s X v H1 w hh gg dd tk os:=by
 intro tb gl lv nm G he am ρ hlv q1 fI hfI hini htyp I1 S1 M1 r1 F1 st1 X1 hbs
 refine iK (md (K:=cx.K) X1 (he.cls.keeps I1.base) he.call he.typ hini htyp (rest:=[v]) (by size_fits) ?_)
 have k:∀b o,hh.get? b=some o->((hh.push {cls:=.type "tuple",data:=.seq [v].toArray}).push (gr C hh.objs.size)).get? b=some o:=λ b o e=>ak _ (ak _ e)
 have hx:((hh.push {cls:=.type "tuple",data:=.seq [v].toArray}).push (gr C hh.objs.size)).get? (hh.objs.size+1)=some (gr C hh.objs.size):=by heap_get
 have n1:hh.get? (hh.objs.size+1)=none:=dN (Bj _)
 refine af rA (af hfI.symm ?_)
 have I2:cb cx H1 ((hh.push {cls:=.type "tuple",data:=.seq [v].toArray}).push (gr C hh.objs.size)):=I1.keeps k
 have S2:bb fc H1 hh H1 ((hh.push {cls:=.type "tuple",data:=.seq [v].toArray}).push (gr C hh.objs.size)):=bb.keeps k
 have st2:iC cx {A with depth:=A.depth+1,units:=A.units+1} H1 ((hh.push {cls:=.type "tuple",data:=.seq [v].toArray}).push (gr C hh.objs.size)):=by
  exact aL (st1.step S2) λ l h1 h2=>⟨l,h1,h2⟩
 refine jE (s:=⟨_,gg,dd,tk,os⟩) (l:=0) (us:=[.ref (hh.objs.size+1),.str w]) G he.fn ⟨am.handled,?_,?_⟩ st2 (F1.step S2).lok.le I2 (.cons lS (.one (r1.mono (bP.of_keeps k)))) rfl ?_
 ·have:=am.depth;show A.depth+1+2*0+5<xV;lia
 ·have:=am.units;show A.units+1+20*0+410<mH;lia
 rintro env' b s3 ⟨t,rfl,hchk⟩ _ F3 st3 I3 S3 M3 k3 ab am3
 refine aq (Aa (vs:=#[.ref hh.objs.size,.none,.none,.none,.bool false,.none]) (e:=hh.objs.size+1) (why:=w) G he hchk F3 I3 (cK hbs) (I1.free n1) (k3 _ _ hx) rfl) (λ f s4 h4=>?_) λ Z Z z=>z
 refine gJ h4 λ r1_ hmade w2_=>?_
 clear h4
 subst r1_
 obtain ⟨k4,M4⟩:=w2_
 obtain ⟨T,D,sl,od,es,n,t,e1,bD,fD,nD,hne,e2,e3,e4⟩:=hmade
 have kk:∀b o,hh.get? b=some o->s4.heap.get? b=some o:=λ b o eb=>k4 b o (λ z=>by rw [z,n1] at eb;exact bH eb) (k3 b o (k b o eb))
 have I4:cb cx H1 s4.heap:=I1.keeps kk
 have d0:s.heap.get? D=none:=by
  cases z:s.heap.get? D with
  |none=>rfl
  |some o=>
   refine bu (S1.there D o z) λ o1 z1=>?_
   have:=k3 D o1 (k D o1 z1)
   rw [nD] at this;exact bH this
 refine ⟨rfl,?_⟩
 refine ⟨hh.objs.size+1,_,_,_,rfl,he.cls.keeps I4.base,e1,by simp,?_⟩
 refine ⟨w,H1,q1,⟨_,C,D,_,es,n,t,sl,od,rfl,he.addr,e1,cK hbs,I1.free n1,e2,e3,bD,fD,d0,e4,.inl (by simp)⟩,I4,S1.weak.trans (bb.keeps kk),M1.trans (dR.trans (s':=s3) M3 M4)⟩
theorem A_:∀p,U_ p:=bB P_
end tA
theorem P_:S_ cx A au C rs c y pn cp:=by
 intro tb gl lv nm e pos G he am ie hg hs
 intro H s ρ N R X F st I q
 refine bw (kJ q) λ hlv q=>?_
 have hlv:=hU.mp hlv
 rw [arm_exec_Raise]
 simp only [evalOpt,Iy]
 refine ae (cq (sI (C:=C) (bm:=rs.map aR++jW) am.handled (ae (aq (wpAny_Call_ofName (oz G F.glob F.blt F.kind I hg ?_)) (λ v s₃ h₃=>ae (cq (ah h₃))) λ Z Z x=>x))))
 refine af he.addr ?_
 refine ux (by refine af he.addr.symm ?_;exact G.keep _) hs (aq (ie H s ρ _ X F st I q) (λ v s1 h1=>?_) λ Z Z z=>z.weak)
 obtain ⟨u,H1,q1,r1,I1,S1,M1⟩:=h1
 refine aL (Gp q1) λ w hw q1=>?_
 subst hw
 ·have F1:=F.step S1
  have st1:=st.step S1
  have X1:=G.X.keeps I1.base
  refine ⟨X1,?_⟩
  refine cI he.ini λ fI hfI hini htyp=>?_
  have hbs:cx.base.objs.size<=s1.heap.objs.size:=F1.lok.le
  obtain ⟨hh,gg,dd,tk,os⟩:=s1
  exact tA.A_ (H,s,X,v,H1,w,hh,gg,dd,tk,os) tb gl lv nm G he am ρ hlv q1 fI hfI hini htyp I1 S1 M1 r1 F1 st1 X1 hbs
theorem A_:∀p,U_ p:=bB P_
end l8
section
variable {cx:Cx}
theorem l8 {cx A au C rs c y pn cp}:l8.S_ cx A au C rs c y pn cp:=l8.A_ (cx,A,au,C,rs,c,y,pn,cp)
end
end
section
open PySem PySem.W PyProof.Rows PySem.Calls Builtin Builtin.ObjectAttr
theorem wH:_root_.PySem.Slot "BaseException" "__getattribute__" "BaseException.__getattribute__":=
 .of (owner:="BaseException") (n:="__getattribute__") (by (refine af (typeLookup_type _ _) (af DV ?_));kernel_rfl) (by decide+kernel) (by decide+kernel) (by decide+kernel)
  (by first|exact .inl (by decide+kernel)|exact .inr (by decide+kernel)) (by refine af (isSubtype_type _ _) ?_;kernel_rfl)
section
variable {prog:cQ}
end
namespace oF
def S_ (prog w A E s C e bm name expr Q):=∀{K:gk} {ox:xQ} {od:Option xQ} {v:av} (X:K.In s.heap) (x:jy s.heap C bm) (I:InstAt s.heap e ox C od) (hga:cR K (.ref C) "__getattribute__"=some (some (.builtin "BaseException.__getattribute__"))) (hgt:cR K (.ref C) "__getattr__"=some none) (hf:findObj K C od name=some (.value v)) (hh:sQ v=true) (h:Q v {s with toks:=s.toks+1}),aE (ay prog w) A (getAttr (.ref e) name expr) Q E s
def U_:=UV λ prog w A=>UV λ E s C=>UV λ e bm name=>UU λ expr=>S_ prog w A E s C e bm name expr
def t_:=dr (by have:=qf;have:=p5;have:=vU;infer_instance) U_
def prog:=t_.1
def w:=t_.2.1
def A:=t_.2.2.1
def E:=t_.2.2.2.1
def s:=t_.2.2.2.2.1
def C:=t_.2.2.2.2.2.1
def s1_:=t_.2.2.2.2.2.2
def e:=s1_.1
def bm:=s1_.2.1
def name:=s1_.2.2.1
def expr:=s1_.2.2.2.1
def Q:=s1_.2.2.2.2
theorem P_:S_ prog w A E s C e bm name expr Q:=by
 intro K ox od v X x I hga hgt hf hh h
 obtain ⟨⟨nm,q,N,bs,sn,sub,ab,col,dd,k0,k1,k2,k3,k5,hC⟩,-,isB,-,-⟩:=x
 have L0:=I.type (M:=ay prog w)
 have L1:=nG (M:=ay prog w) X hga
 have LF:=looks_find (M:=ay prog w) X I hf
 have hb:lD (ay prog w) s.heap (hookBefore (.ref C)) none:=looks_hook X ((if_pos rfl).trans hgt)
 have sub1:lD (ay prog w) s.heap (uT (.ref C) (.type "BaseException")) true:=λ A Q E s k q=>eA (k _ _ hC) (by rw [show (aR C::bm).contains (.type "BaseException")=true from by (exact af eF (af isB (af (iA _) rfl)))];exact q)
 have is1:lD (ay prog w) s.heap (x4 (.ref e) (.type "BaseException")) true:=L0.andThen sub1
 refine ae (wpAny_mkText (bz (ae (L0 _ _ _ _ (λ Z Z e=>e) (ae (L1 _ _ _ _ (λ Z Z e=>e) ?_))))))
 dsimp only
 rw [show (onTheHeap (.ref C)&&gE "BaseException.__getattribute__"==gE "object.__getattribute__")=false from by (exact af (show (gE "BaseException.__getattribute__"==gE "object.__getattribute__")=false from by decide+kernel) (af (ub _) rfl)),if_neg (by decide)]
 refine ae (hb _ _ _ _ (λ Z Z e=>e) (ae (wpAny_attempt (bz ?_))))
 unfold callGetattribute
 refine af (show (expr&&onTheHeap (gE "BaseException.__getattribute__"))=false from ub _) (af (if_neg (by decide)) ?_)
 unfold boundAndCalled
 refine af (wH.bind _) ?_
 refine ae (ah ?_)
 show aE _ _ (call (.builtin "BaseException.__getattribute__") [.ref e,.str name s.toks]) _ _ _
 refine iK (pD wH.plain PySem.F.entry_bexc_ga ?_)
 refine @HU (ay prog w) _ _ {s with toks:=s.toks+1} "BaseException.__getattribute__" "BaseException" "__getattribute__" (.ref e) [.str name s.toks] [] _ (by decide+kernel) (by decide+kernel) is1 (PySem.F.args_bexc_ga _ _) ?_
 refine ae (ah (ae (ah (ae (L0 _ _ _ _ (λ Z Z e=>e) (ae (LF _ _ _ _ (λ Z Z e=>e) ?_)))))))
 refine ah ?_
 show aE _ _ (handedOut v) _ _ _
 refine af (handedOut_of hh) ?_
 exact ah h
theorem A_:∀p,U_ p:=bB P_
end oF
section
variable {prog:cQ}
theorem oF {prog w A E s C e bm name expr Q}:oF.S_ prog w A E s C e bm name expr Q:=oF.A_ (prog,w,A,E,s,C,e,bm,name,expr,Q)
end
section
variable {cx:Cx}
theorem Fm.unbind (F:Fm cx au nm H ρ h) (hi:nm[i]?=some n) (hl:au.kindOf n=some .local) (hn:h.Ns au.locals m) (hn':h'.Ns au.locals (λ x=>if x=n then v else m x)) (sb:dk au.locals h h'):
  Fm cx au nm H (ρ.set i none) h':=by
 refine cu F.slots λ m0 cm a b c=>?_
 have e:=yt hn a;subst e
 have st:bb (·=au.locals) H h H h':=bb.store hn hn' sb rfl
 refine ⟨F.kind,F.glob,F.blt,F.nd,by exact af jv F.len,F.apart,F.aboveL,F.aboveC,F.cellsAll,F.free,_,cm,hn',λ n' c' e=>?_,λ j y e=>?_⟩
 ·refine (b n' c' e).sameBut sb λ q=>(aL (b n' c' e) λ o g1 g2=>?_)
  rw [q] at g1
  exact (kj a g1).2 _ g2
 ·by_cases q:i=j
  ·subst q
   rw [hi] at e;(have e:=ac e;subst e)
   have z:da.at (ρ.set i none) i=none:=by
    unfold da.at
    refine af (List.getElem?_set) ?_
    by_cases q:i<ρ.length<;>simp [q]
   exact .inl ⟨hl,λ u hu=>by rw [z] at hu;exact bH hu⟩
  ·have z:da.at (ρ.set i none) j=ρ.at j:=by unfold da.at;(exact af (mU q) rfl)
   refine af z ?_
   rcases c j y e with ⟨c1,c2⟩|⟨c1,c2,c3⟩
   ·exact .inl ⟨c1,λ u hu=>let ⟨v,e1,e2⟩:=c2 u hu;⟨v,(if_neg (Da F.nd q hi e)).trans e1,VRel.mono st.imm _ e2⟩⟩
   ·exact .inr ⟨c1,c2,λ u hu=>let ⟨v,e1,e2⟩:=c3 u hu;⟨v,e1,VRel.mono st.imm _ e2⟩⟩
end
end
section
open PySem PySem.W PyProof.Rows PySem.Calls
section
variable {cx:Cx}
theorem io.keeps (x:io cx h0 H h e why) (k:∀b o,h.get? b=some o->h'.get? b=some o):io cx h0 H h' e why:=by
 obtain ⟨a,C,d,vs,es,n,t,sl,od,h1,h2,h3,h4,h5,h6,h6b,h7,h8,h8b,h9,h10⟩:=x
 refine ⟨a,C,d,vs,es,n,t,sl,od,h1,h2,k _ _ h3,h4,h5,k _ _ h6,h6b,h7,h8,h8b,h9,h10.imp id ?_⟩
 rintro ⟨T,oT,ts,g1,g2,g3,g4,g5,g6,g7,g8⟩
 exact ⟨T,oT,ts,g1,g2,g3,k _ _ g4,g5,g6,g7,g8⟩
theorem z7 (x:io cx h0 H s.heap e why)
  (k:∀h',(∀b o,s.heap.get? b=some o->h'.get? b=some o)->Q () {s with heap:=h'}):aE M A (setFlight e none) Q Ex s:=by
 obtain ⟨a,C,d,vs,es,n,t,sl,od,rfl,h2,h3,h4,h5,h6,h6b,h7,h8,h8b,h9,h10⟩:=x
 rcases h10 with h10|⟨T,oT,ts,g1,g2,g3,g4,g5,g6,g7,g8⟩
 ·refine ae (gz h3 rfl h10 ?_)
  refine af (if_neg (by decide)) ?_
  exact ah (k s.heap λ Z Z e=>e)
 ·refine ae (gz h3 rfl g1 ?_)
  refine af (if_pos (show (aR T !=bQ)=true from by simp)) ?_
  refine gC g4 g5 (dj.mp g6).1 (k _ λ b o eb=>?_)
  by_cases q:b=T
  ·subst q
   rw [g4] at eb;(have eb:=ac eb;subst eb)
   obtain ⟨hlt,hge⟩:=dj.mp g6
   have hs:ts.setIfInBounds 3 ((none:Option aI).elim bQ λ f=>iL f)=ts:=by
    refine af (show ((none:Option aI).elim bQ λ f=>iL f)=ts[3] from hge.symm) ?_
    refine Array.ext Array.size_setIfInBounds λ i h1 h2=>?_
    rw [Array.getElem_setIfInBounds]
    split
    ·rename_i q;subst q;rfl
    ·rfl
   refine (co _ g4 (fO (dJ g5 _))).trans ?_
   obtain ⟨c,dd,dt,sl'⟩:=oT
   cases g5
   show some (HW c dd (.fields (ts.setIfInBounds 3 _)) sl')=_
   exact af hs rfl
  ·exact (cf _ _ (fQ q)).trans eb
end
namespace rI
def S_ (cx A au nm C rs c n w pn wp fp ap sp hp):=∀{tb:on} {gl:GL} {lv:Nat} {e:Mine.E} {y:Expr} {i:Nat} {j:Nat} {yp:Bx} {pos:Bx} (G:gT cx tb gl) (he:um cx gl C rs) (hfr:∃outer,A.frames=some (au::outer)) (ie:w6 cx tb A lv nm au e y) (hg:okGlob gl au.scope c (.cls 1)=true) (hi:nm[i]?=some n) (hl:au.scope.names.lookup n=some .local) (hj:nm[j]?=some w) (hw:stName au.scope w=true) (hd:(n==("__debug__":aw))=false) (hne:i≠j) (hcp:isComp y=false),Ik cx tb A lv nm au (.tryWhy e i j) (.Try [.Expr y yp] [.ExceptHandler (some (.Name c pn)) (some n) [.Assign [.Name w wp] (.Attribute (.Name n fp) "why" ap) sp] hp] [] [] pos)
def U_:=UV λ cx A au=>UV λ nm C rs=>UV λ c n w=>UV λ pn wp fp=>UU λ ap=>UU λ sp=>S_ cx A au nm C rs c n w pn wp fp ap sp
def t_:=dr (by have:=qf;have:=ti;infer_instance) U_
def cx:=t_.1
def A:=t_.2.1
def au:=t_.2.2.1
def nm:=t_.2.2.2.1
def C:=t_.2.2.2.2.1
def rs:=t_.2.2.2.2.2.1
def s1_:=t_.2.2.2.2.2.2
def c:=s1_.1
def n:=s1_.2.1
def w:=s1_.2.2.1
def pn:=s1_.2.2.2.1
def wp:=s1_.2.2.2.2.1
def fp:=s1_.2.2.2.2.2.1
def s2_:=s1_.2.2.2.2.2.2
def ap:=s2_.1
def sp:=s2_.2.1
def hp:=s2_.2.2
namespace yG
def S_ (i j H s ρ N R X why H1 a d vs sl):=∀(tb:on) (gl:GL) (G:gT cx tb gl) (he:um cx gl C rs) (hg:okGlob gl au.scope c (Fn.cls 1)=true) (hi:nm[i]?=some n) (hl:hV n au.scope.names=some NameKind.local) (hj:nm[j]?=some w) (hw:stName au.scope w=true) (hd:(n==aa "__debug__")=false) (hne:i≠j) (F:Fm cx au nm H ρ s.heap) (s1:ax) (q1:N ((List.set ρ i none).set j (some (V.str why))) H1) (S1:bb fc H s.heap H1 s1.heap) (M1:dR s s1) (s3:ax) (I3:cb cx H1 s3.heap) (S3:bb fc H1 s1.heap H1 s3.heap) (M3:dR s1 s3) (F3:Fm cx au nm H1 ρ s3.heap) (es:List fU) (nn:Nat) (t:Tok) (od:xQ) (hod:s3.heap.get? d=some od) (hdd:od.data=Data.dict es.toArray nn) (h0d:s.heap.get? d=none) (x3':io cx s.heap H1 s3.heap (aR a) why) (hwy:Ff (aa "why") es=some (some (Value.str why t))) (htb:vs[1]?=some bQ\/∃T oT ts,vs[1]?=some (aR T)/\cx.base.objs.size<=T/\T≠a/\s3.heap.get? T=some oT/\oT.data=sj ts/\ts[3]?=some bQ/\oT.cls=cO "traceback"/\ci H1 T) (ha:s3.heap.get? a=some (HW (aR C) (some d) (sj vs) sl)),aE (ay cx.prog cx.w) A (handleBy (aR a) au [ExceptHandler.ExceptHandler (some (DY c pn)) (some n) [Stmt.Assign [DY w wp] ((DY n fp).Attribute (aa "why") ap) sp] hp]) (gH cx au nm H s N R) (cn cx (PF au) H s X) s3
def U_:=UV λ i j H=>UV λ s ρ N=>UV λ R X why=>UV λ H1 a d=>UU λ vs=>S_ i j H s ρ N R X why H1 a d vs
def t_:=dr (by have:=p5;infer_instance) U_
def i:=t_.1
def j:=t_.2.1
def H:=t_.2.2.1
def s:=t_.2.2.2.1
def ρ:=t_.2.2.2.2.1
def N:=t_.2.2.2.2.2.1
def s1_:=t_.2.2.2.2.2.2
def R:=s1_.1
def X:=s1_.2.1
def why:=s1_.2.2.1
def H1:=s1_.2.2.2.1
def a:=s1_.2.2.2.2.1
def d:=s1_.2.2.2.2.2.1
def s2_:=s1_.2.2.2.2.2.2
def vs:=s2_.1
def sl:=s2_.2
theorem P_:S_ i j H s ρ N R X why H1 a d vs sl:=by
 intro tb gl G he hg hi hl hj hw hd hne F s1 q1 S1 M1 s3 I3 S3 M3 F3 es nn t od hod hdd h0d x3' hwy htb ha
 have hkl:au.kindOf n=some .local:=hl
 refine wpAny_handleBy_cons (codeAny_handlers_test (oz G F3.glob F3.blt F3.kind I3 hg ?_)) (by intro q;cases q)
 refine af he.addr ?_
 obtain ⟨⟨nm',q',N',bs,sn,sub,ab,col,dd,k0,k1,k2,k3,k5,hCo⟩,isE,isB,noA,noN⟩:=he.cls.keeps I3.base
 obtain ⟨hh,gg,dr,tk,os⟩:=s3
 refine wpAny_excMatches_sub_self hCo ha rfl isB (codeAny_handlers_suite_as ?_)
 refine z7 x3' λ h4 k4=>?_
 have I4:cb cx H1 h4:=I3.keeps k4
 have S4:bb fc H1 hh H1 h4:=bb.keeps k4
 have F4:=F3.step S4
 refine cu F4.slots λ m cm n1 n2 n3=>(jw hkl n1 (λ h5 hn5 hs5=>?_) (by refine af F4.kind ?_;rfl))
 have S5:bb (PF au) H1 h4 H1 h5:=bb.store n1 hn5 hs5 (.inl rfl)
 have F5:Fm cx au nm H1 (ρ.set i (some (.ref a))) h5:=F4.store hi hkl n1 hn5 hs5 lS
 have I5:cb cx H1 h5:=I4.store n1 hs5 F4.free F4.aboveL
 have keep5:∀b o,(∀m',¬hh.Ns b m')->hh.get? b=some o->h5.get? b=some o:=λ b o nb eb=>(hs5.2 b λ z=>by
  refine iZ n1 λ o' es' ep' e1 e2 e3=>?_
  have:=k4 b o eb
  rw [z,e1] at this;(have this:=ac this;subst this)
  exact nb _ ⟨_,_,_,eb,e2,e3⟩).trans (k4 b o eb)
 have ha5:h5.get? a=some {cls:=.ref C,dict:=some d,data:=.fields vs,slots:=sl}:=keep5 _ _ (λ m' z=>by
  obtain ⟨o',es',ep',e1,e2,e3⟩:=z;rw [ha] at e1;(have e1:=ac e1;subst e1);exact gi e2 rfl) ha
 have hd5:h5.get? d=some od:=(hs5.2 d λ z=>by
  refine fZ F.slots λ m0 Z z1 Z=>(bu (gy z1) λ o0 z2=>?_)
  rw [z,z2] at h0d;exact b7 h0d).trans (k4 d od hod)
 have I5x:InstAt h5 a {cls:=.ref C,dict:=some d,data:=.fields vs,slots:=sl} C (some od):=⟨ha5,rfl,rfl,hd5⟩
 refine gN (wpAny_Assign_Name (Attribute_any_ (xW (pz F5.kind hkl hn5 (if_pos rfl) ?_) hd) (rH rfl)) (by rfl))
 refine oF (v:=.str why t) (G.X.keeps I5.base) (he.cls.keeps I5.base) I5x he.ga he.gt (findObj_own he.hd he.why rfl ?_) rfl ?_
 ·unfold lookIn
  refine af hdd ?_
  exact hwy
 ·refine ou (u:=.str why) F5 I5 hj hw ug λ s6 F6 I6 S6 M6=>(fT (cu F6.slots λ m6 cm6 p1 p2 p3=>(wpAny_nameGoes_keeps hkl p1 (by refine af F6.kind ?_;rfl) λ h7 v7 hn7 hs7=>?_)))
  have F7:=F6.unbind hi hkl p1 hn7 hs7
  have I7:cb cx H1 h7:=I6.store p1 hs7 F6.free F6.aboveL
  have S7:bb (PF au) H1 s6.heap H1 h7:=bb.store p1 hn7 hs7 (.inl rfl)
  have e:((ρ.set i (some (.ref a))).set j (some (.str why))).set i none=(ρ.set i none).set j (some (.str why)):=by
   exact af (jg _ _ (fQ hne)) (af (jN _) rfl)
  rw [e] at F7
  exact ⟨_,H1,q1,F7,I7,((((S1.trans S3).trans S4).weak.trans S5).trans S6).trans S7,M1.trans (dR.trans M3 (dR.trans (dR.trans ⟨rfl,rfl,rfl⟩ M6) ⟨rfl,rfl,rfl⟩))⟩
theorem A_:∀p,U_ p:=bB P_
end yG
theorem P_:S_ cx A au nm C rs c n w pn wp fp ap sp hp:=by
 intro tb gl lv e y i j yp pos G he hfr ie hg hi hl hj hw hd hne hcp
 intro H s ρ N R X F st I q
 refine bu hfr λ outer hfr=>?_
 have q:wpE tb lv false e ρ H (λ u H1=>u=.none/\N ρ H1) (λ why H1=>N ((ρ.set i none).set j (some (.str why))) H1):=q
 refine wpAny_Try_except (gN (HT (aq (ie H s ρ _ _ F st I q) (λ v s1 h1=>?_) λ ev s1 h1=>?_) (qR F.kind) (oa hcp)))
 ·obtain ⟨u1,H1,⟨rfl,q1⟩,r1,I1,S1,M1⟩:=h1
  refine af (gn r1) ?_
  exact fT (fT ⟨ρ,H1,q1,F.step S1,I1,S1.weak,M1⟩)
 ·obtain ⟨why,H1,q1,x1,I1,S1,M1⟩:=h1
  refine yx hfr (st.step S1) x1 I1 λ s3 x3 I3 S3 M3=>?_
  have F3:=(F.step S1).step S3
  have x3':=x3
  obtain ⟨a,C',d,vs,es,nn,t,sl,od,rfl,hC,ha,hb,hf,hod,hdd,hbd,hfd,h0d,hwy,htb⟩:=x3
  rw [he.addr] at hC;cases hC
  exact yG.A_ (i,j,H,s,ρ,N,R,X,why,H1,a,d,vs,sl) tb gl G he hg hi hl hj hw hd hne F s1 q1 S1 M1 s3 I3 S3 M3 F3 es nn t od hod hdd h0d x3' hwy htb ha
theorem A_:∀p,U_ p:=bB P_
end rI
section
variable {cx:Cx}
theorem rI {cx A au nm C rs c n w pn wp fp ap sp hp}:rI.S_ cx A au nm C rs c n w pn wp fp ap sp hp:=rI.A_ (cx,A,au,nm,C,rs,c,n,w,pn,wp,fp,ap,sp,hp)
end
theorem yF {α:Type} {l:List α} (h:l.isEmpty=true):l=[]:=by cases l<;>first|rfl|exact bS h
theorem Dz {α:Type} {o:Option α} (h:o.isNone=true):o=none:=by cases o<;>first|rfl|exact bS h
theorem FT (X:cx.K.In cx.base) (ha:cx.addr f=.ref a) (h:fnChk1 gl cx.K a ps nm t body=true) (hb:stOf cx.K a=some (emSs nm body t)) (rd:VRels cx cx.base ds dv)
  (bd:∀fd,fdOf cx.K a=some fd->CL fd ps->∀(vs:List av) (s:ax),(∀a o,cx.base.get? a=some o->s.heap.get? a=some o)->vs.length+ds.length=ps.length->BindsTo s fd ⟨vs,[]⟩ (ps.zip (vs++dv))):z4 cx gl f ps nm ds body:=by
 refine aL (tQ h) λ fd e h=>(aL (GM e) λ o e1 e2=>?_)
 have p:=al (ar h)
 have p2:=ar (ar (ar (ar p)))
 have p3:=ar (ar p2)
 have p4:=ar (ar (ar (ar p3)))
 have hn:=dt (al (ar p4))
 have hp:=eq_of_beq (al (ar (ar p4)))
 have nd:ps.Nodup:=hp▸List.Nodup.sublist (List.take_sublist ..) hn
 refine ⟨⟨a,o,fd,_,dv,⟨ha,X _ _ e1,e2,G5 hb e,⟨t,rfl,ar (ar h)⟩,eq_of_beq (al p),eq_of_beq (al (ar p)),yF (al (ar (ar p))),eq_of_beq (al (ar (ar (ar p)))),nt (al p2),nt (al (ar p2)),xl X (al h),λ x hx=>?_,rd,bd fd e ⟨yF (al p3),Dz (al (ar p3)),yF (al (ar (ar p3))),Dz (al (ar (ar (ar p3)))),eq_of_beq (al p4),nd⟩⟩⟩,hn,nm.drop ps.length,(dz ps.length nm).symm.trans (congrArg (·++_) hp)⟩
 exact (nJ.mp (bl.mp (ar (ar (ar p4))) x hx)).imp eq_of_beq eq_of_beq
theorem FZ (X:cx.K.In cx.base) (ha:cx.addr f=.ref a) (h:fnChk1 gl cx.K a ps nm t body=true) (hb:stOf cx.K a=some (emSs nm body t)) (hd:noDf cx.K a=true):z4 cx gl f ps nm [] body:=
 FT X ha h hb .nil λ fd e p vs s Z hl=>BindsTo.of_eq (by
  refine aL (tQ hd) λ fd' e' h2=>?_
  (have e_:=ac (e.symm.trans e');subst e_)
  refine aL (vy (ds:=[]) p hl) λ k k1 k2=>?_
  refine af k1 (af (eq_of_beq h2) ?_)
  exact k2 none rfl)
noncomputable def gl0:GL:=[((aa "_wall"),.user 0),
 ((aa "span_prefix"),.user 1),
 ((aa "prefixes_of"),.user 2),
 ((aa "words_of"),.user 5),
 ((aa "refused"),.user 6),
 ((aa "field_named"),.user 7),
 ((aa "is_worked"),.user 8),
 ((aa "field_under"),.user 9),
 ((aa "size_of"),.user 10),
 ((aa "bits_of_e"),.user 11),
 ((aa "type_of"),.user 12),
 ((aa "number_of"),.user 13),
 ((aa "turned"),.user 14),
 ((aa "host_number"),.user 15),
 ((aa "host_order"),.user 16),
 ((aa "slots_of"),.user 17),
 ((aa "put_row"),.user 19),
 ((aa "note"),.user 20),
 ((aa "need_match"),.user 21),
 ((aa "flush"),.user 22),
 ((aa "emit"),.user 23),
 ((aa "slot_of"),.user 24),
 ((aa "held"),.user 25),
 ((aa "number_in"),.user 26),
 ((aa "joined"),.user 27),
 ((aa "key_at"),.user 28),
 ((aa "elements_told"),.user 29),
 ((aa "where_of"),.user 30),
 ((aa "back_meta"),.user 31),
 ((aa "back_immediate"),.user 32),
 ((aa "match_of"),.user 33),
 ((aa "back_cmp"),.user 34),
 ((aa "back_map"),.user 35),
 ((aa "back_same"),.user 36),
 ((aa "raw_pair"),.user 37),
 ((aa "back_nat_row"),.user 38),
 ((aa "back_nat"),.user 39),
 ((aa "boxes_meet"),.user 40),
 ((aa "single_key"),.user 41),
 ((aa "is_live"),.user 43),
 ((aa "place_in"),.user 52),
 ((aa "place_of_box"),.user 53),
 ((aa "add_rule"),.user 63),
 ((aa "rules_let"),.user 64),
 ((aa "goals_of"),.user 65),
 ((aa "add_item"),.user 66),
 ((aa "new_store"),.user 76),
 ((aa "set_of"),.user 79),
 ((aa "_law_digit"),.user 80),
 ((aa "_law_octets"),.user 81),
 ((aa "_law_literals"),.user 82),
 ((aa "_law_ports"),.user 83),
 ((aa "_law_addresses"),.user 84),
 ((aa "_law_pair"),.user 85),
 ((aa "_law_nat"),.user 86),
 ((aa "_law_rest"),.user 87),
 ((aa "_law_rule_holds"),.user 88),
 ((aa "_law_hand_holds"),.user 89),
 ((aa "law"),.user 90),
 ((aa "WallFault"),.cls 0),
 ((aa "Misused"),.cls 1),
 ((aa "Refused"),.cls 2),
 ((aa "Reading"),.cls 3),
 ((aa "Element"),.cls 4),
 ((aa "PlainStore"),.cls 5),
 ((aa "SpanStore"),.cls 6),
 ((aa "BitField"),.cls 7),
 ((aa "BitTables"),.cls 8),
 ((aa "SetBody"),.cls 9),
 ((aa "len"),.bi "len"),
 ((aa "sorted"),.bi "sorted"),
 ((aa "isinstance"),.bi "isinstance"),
 ((aa "all"),.bi "all"),
 ((aa "min"),.bi "min"),
 ((aa "max"),.bi "max"),
 ((aa "range"),.ty "range"),
 ((aa "bytes"),.ty "bytes"),
 ((aa "str"),.ty "str"),
 ((aa "tuple"),.ty "tuple"),
 ((aa "list"),.ty "list"),
 ((aa "Exception"),.ty "Exception")]
noncomputable def userA:List (Nat×aI):=[(0,21),(1,28),(2,35),(3,49),(4,81),(5,93),(6,100),(7,107),(8,114),(9,121),(10,128),(11,135),(12,142),(13,149),(14,154),(15,161),(16,168),(17,175),(18,189),(19,203),(20,210),(21,217),(22,224),(23,231),(24,238),(25,245),(26,252),(27,259),(28,266),(29,273),(30,280),(31,287),(32,294),(33,301),(34,308),(35,315),(36,322),(37,329),(38,334),(39,341),(40,348),(41,355),(42,370),(43,384),(44,398),(45,405),(46,412),(47,419),(48,426),(49,433),(50,440),(51,447),(52,461),(53,468),(54,482),(55,489),(56,496),(57,503),(58,510),(59,517),(60,524),(61,531),(62,552),(63,566),(64,573),(65,580),(66,587),(67,602),(68,609),(69,616),(70,623),(71,630),(72,637),(73,644),(74,651),(75,658),(76,672),(77,686),(78,693),(79,707),(80,714),(81,719),(82,726),(83,733),(84,740),(85,747),(86,752),(87,757),(88,764),(89,769),(90,776)]
noncomputable def clsA:List (Nat×aI):=[(0,52),(1,65),(2,84),(3,192),(4,373),(5,450),(6,534),(7,555),(8,661),(9,696)]
noncomputable def biA:List String:=["len","sorted","isinstance","all","min","max","list.append","list.insert","dict.get","dict.update"]
noncomputable def addr0:Fn->av
 |.user n=>((userA.lookup n).map aR).getD .none
 |.cls n=>((clsA.lookup n).map aR).getD .none
 |.bi id=>if biA.contains id then .builtin id else .none
 |.ty id=>.type id
noncomputable def uA (n:Nat):aI:=(userA.lookup n).getD 0
noncomputable def cA (n:Nat):aI:=(clsA.lookup n).getD 0
noncomputable abbrev pw0:=HX
noncomputable def bodyOf (x:lB):List (List lB):=match x with
 |.FunctionDef _ _ b _ _ _ _ _ _ _=>[b]
 |_=>[]
noncomputable def bodiesOf (x:lB):List (List lB):=match x with
 |.FunctionDef _ _ b _ _ _ _ _ _ _=>[b]
 |.ClassDef _ _ _ b _ _ _ _ _ _ _=>b.flatMap bodyOf
 |_=>[]
noncomputable def tr0 (n:Nat):PT:=pSs ((pw0.main.body.flatMap bodiesOf).getD n [])
noncomputable def seqAt (K:gk) (v:av):Option (Array av):=match v with
 |.ref a=>(K.lookup a).bind λ o=>match o.data with
  |.seq xs _=>some xs
  |_=>none
 |_=>none
theorem ED {K:gk} (h:seqAt K v=some xs):∃a o n,v=.ref a/\K.lookup a=some o/\o.data=.seq xs n:=by
 cases v<;>first|exact (cV h).elim|skip
 refine aL (vQ h) λ o e h=>?_
 generalize z:o.data=d at h
 cases d<;>first|exact ⟨_,o,_,rfl,e,z.trans (congrArg (λ x=>Data.seq x _) (ac h))⟩|exact (cV h).elim
noncomputable def int0 (v:av):Bool:=match v with
 |.int i _=>i==0
 |_=>false
theorem HN (h:int0 v=true):∃t,v=.int 0 t:=by
 cases v<;>first|exact ⟨_,congrArg (λ i=>lE i _) (eq_of_beq h)⟩|exact bS h
noncomputable def one0 (l:List av):Bool:=match l with
 |[]=>false
 |v::r=>int0 v&&r.isEmpty
noncomputable def dflt0 (K:gk) (a:aI):Bool:=(fdOf K a).any λ fd=>(seqAt K fd.defaults).any λ xs=>one0 xs.toList
abbrev NV:=Nat×cB×aI×List aw×List aw×List S
noncomputable def ents:List NV:=[(1,JP,28,ps1,nm1,c1),(17,BZ,175,ps17,nm17,c17),(13,Ct,149,ps13,nm13,c13),(14,Cn,154,ps14,nm14,c14),(15,E4,161,ps15,nm15,c15),(16,EJ,168,ps16,nm16,c16),(18,E0,189,ps18,nm18,c18),(19,D5,203,ps19,nm19,c19),(20,Eh,210,ps20,nm20,c20),(21,Eu,217,ps21,nm21,c21),(22,C3,224,ps22,nm22,c22),(23,BV,231,ps23,nm23,c23),(24,CK,238,ps24,nm24,c24),(25,Cf,245,ps25,nm25,c25),(26,EP,252,ps26,nm26,c26),(27,Ci,259,ps27,nm27,c27),(28,Eb,266,ps28,nm28,c28),(29,B1,273,ps29,nm29,c29),(30,Ei,280,ps30,nm30,c30),(31,zH,287,ps31,nm31,c31),(32,zR,294,ps32,nm32,c32),(33,E8,301,ps33,nm33,c33),(34,Ao,308,ps34,nm34,c34),(35,AM,315,ps35,nm35,c35),(36,Am,322,ps36,nm36,c36),(37,Dp,329,ps37,nm37,c37),(38,zK,334,ps38,nm38,c38),(39,CJ,341,ps39,nm39,c39),(41,wj,355,ps41,nm41,c41),(43,ET,384,ps43,nm43,c43),(44,E7,398,ps44,nm44,c44),(45,CE,405,ps45,nm45,c45),(47,B0,419,ps47,nm47,c47),(49,Dv,433,ps49,nm49,c49),(52,Cq,461,ps52,nm52,c52),(54,Ed,482,ps54,nm54,c54),(55,Bd,489,ps55,nm55,c55),(59,BF,517,ps59,nm59,c59),(76,CT,672,ps76,nm76,c76),(77,ES,686,ps77,nm77,c77),(79,Cz,707,ps79,nm79,c79),(80,Cc,714,ps80,nm80,c80),(81,Cg,719,ps81,nm81,c81),(82,C2,726,ps82,nm82,c82),(83,CS,733,ps83,nm83,c83),(84,BR,740,ps84,nm84,c84),(85,Dm,747,ps85,nm85,c85),(86,Dj,752,ps86,nm86,c86),(87,CY,757,ps87,nm87,c87),(88,C7,764,ps88,nm88,c88),(89,Cv,769,ps89,nm89,c89),(90,zS,776,ps90,nm90,c90)]
noncomputable def fnsChk (K:gk):Bool:=fnChk1 gl0 K 370 ps42 nm42 (tr0 42) c42&&(dflt0 K 370&&ents.all λ e=>fnChk1 gl0 K e.2.2.1 e.2.2.2.1 e.2.2.2.2.1 (tr0 e.1) e.2.2.2.2.2&&noDf K e.2.2.1)
noncomputable def txt0 (K:gk):Option (List lB)×Option (List lB)×List (Option (List lB)):=(stOf K 370,stOf K 49,ents.map λ e=>stOf K e.2.2.1)
noncomputable def exp0:Option (List lB)×Option (List lB)×List (Option (List lB)):=(some (emSs nm42 c42 (tr0 42)),some (emSs ee initS (tr0 3)),ents.map λ e=>some (emSs e.2.2.2.2.1 e.2.2.2.2.2 (tr0 e.1)))
noncomputable def globChk (K:gk):Bool:=gl0.all λ p=>nsIn K di p.1==some (some (addr0 p.2))||(nsIn K di p.1==some none&&(sV p.1==some (addr0 p.2)&&p.1 !=("__name__":aw)))
noncomputable def keepChk (K:gk):Bool:=(userA.all λ p=>uR K (.ref p.2))&&clsA.all λ p=>uR K (.ref p.2)
noncomputable def fldChk (K:gk):Bool:=flds.all λ q=>uP K (cA q.1)&&(cR K (.ref (cA q.1)) "__setattr__"==some (some (.builtin "object.__setattr__"))&&(plainOver K (cA q.1)&&q.2.all λ n=>plainGet K (cA q.1) n&&cR K (.ref (cA q.1)) n==some none))
noncomputable def mthChk (K:gk) (C:aI) (n:aw) (f:aI):Bool:=cR K (.ref C) "__getattribute__"==some (some (.builtin "object.__getattribute__"))&&(cR K (.ref C) "__getattr__"==some none&&(cR K (.ref C) n==some (some (.ref f))&&pt K (.ref f)==some (.type "function")))
noncomputable def iniChk (K:gk) (C f:aI):Bool:=makesIn K C&&(cR K (.ref C) "__init__"==some (some (.ref f))&&pt K (.ref f)==some (.type "function"))
noncomputable def clAt (K:gk) (a:aI):Option (xQ×ClassData):=(K.lookup a).bind λ o=>match o.data with
 |.cls cd=>some (o,cd)
 |_=>none
theorem Hi {K:gk} (h:clAt K a=some (o,cd)):K.lookup a=some o/\o.data=.cls cd:=by
 refine aL (vQ h) λ o' e h=>?_
 generalize z:o'.data=d at h
 cases d<;>first|(cases h;exact ⟨e,z⟩)|exact (cV h).elim
noncomputable def excSl (sl:Array (Option av)):Array (Option av):=#[sl[0]?.join,sl[1]?.join,sl[2]?.join,sl[3]?.join,some (.builtin "Exception.__new__"),sl[5]?.join]
noncomputable def excChk (K:gk):Bool:=(clAt K 65).any λ p=>p.1.cls==.type "type"&&(p.2.mro==[.ref 65,.ref 52,.type "Exception",.type "BaseException",.type "object"]&&(!p.2.hasDel&&(p.2.hasDict&&p.1.slots==excSl p.1.slots)))
noncomputable def tabChk (K:gk):Bool:=(mths.all λ m=>mthChk K (cA m.1) m.2.1 (uA m.2.2))&&inits.all λ m=>iniChk K (cA m.1) (uA m.2)
noncomputable def ownChk (K:gk):Bool:=excChk K&&(specialIn K (.ref 65) "__call__"==some (some (.builtin "type.__call__"))&&(instIn K (.ref 65) (.type "type")==some true&&(cR K (.ref 65) "__init__"==some (some (.ref 49))&&(pt K (.ref 49)==some (.type "function")&&
 (cR K (.ref 65) "__setattr__"==some (some (.builtin "object.__setattr__"))&&(cR K (.ref 65) "why"==some none&&(cR K (.ref 65) "at"==some none&&(cR K (.ref 65) "__getattribute__"==some (some (.builtin "BaseException.__getattribute__"))&&
 (cR K (.ref 65) "__getattr__"==some none&&(uP K 65&&(fnChk1 gl0 K 49 ee ee (tr0 3) initS&&noDf K 49)))))))))))
noncomputable def chk0 (K:gk):Bool:=fnsChk K&&(globChk K&&(keepChk K&&(fldChk K&&(tabChk K&&ownChk K))))
noncomputable def fragFrom:Nat->List xQ->gk
 |_,[]=>[]
 |n,o::l=>(match o.isFreed with
  |true=>fragFrom (n+1) l
  |false=>(n,o)::fragFrom (n+1) l)
theorem pH:∀{l:List xQ} {n a:Nat} {o:xQ},(fragFrom n l).lookup a=some o->n<=a/\l[a -n]?=some o/\o.isFreed=false
 |[],_,_,_,h=>by cases h
 |x::l,n,a,o,h=>by
  have e0:fragFrom n (x::l)=(match x.isFreed with
   |true=>fragFrom (n+1) l
   |false=>(n,x)::fragFrom (n+1) l):=rfl
  rw [e0] at h
  have tl:(fragFrom (n+1) l).lookup a=some o->n<=a/\(x::l)[a -n]?=some o/\o.isFreed=false:=λ h=>by
   obtain ⟨h1,h2,h3⟩:=pH h
   refine ⟨by lia,?_,h3⟩
   rw [show a -n=(a -(n+1))+1 from (Nat.add_sub_add_right a 1 n).symm.trans (Nat.succ_sub (by assumption)),List.getElem?_cons_succ]
   exact h2
  cases hx:x.isFreed with
  |true=>rw [hx] at h;exact tl h
  |false=>
   rw [hx] at h
   have h:(((n,x)::fragFrom (n+1) l).lookup a)=some o:=h
   rw [aG] at h
   split at h
   ·rename_i e
    have e:=eq_of_beq e
    cases h;subst e
    exact ⟨bW _,by rw [Nat.sub_self];rfl,hx⟩
   ·exact tl h
noncomputable def eQ (h:cM):gk:=fragFrom 0 h.objs.toList
theorem AF (h:cM):(eQ h).In h:=λ a o e=>by
 obtain ⟨-,h2,h3⟩:=pH e
 rw [Nat.sub_zero] at h2
 refine Heap.get?_some_iff.mpr ⟨?_,h3⟩
 rw [<-cU];exact h2
theorem D9 {α:Type} {Yf:ax->α} {Ya:f7->α} {H₀:Params->cM}
  (open_:∀w:f7,(fencedOpening fX p w N).map (λ s=>(s.heap,s.gens,s.drawn,s.toks))=some (H₀ w.params,gs₀,d₀,k₀))
  (size:∀w:f7,((H₀ w.params).isNs di&&gs₀.size==0,(H₀ w.params).objs.size,(H₀ w.params).nsMap di "__annotations__")=(true,m₀,ann))
  (run:∀(w:f7) (os:iz),∃s₁,topRun fX p w m₀ ann M ⟨H₀ w.params,gs₀,d₀,k₀,os⟩ (IA p)=some s₁/\
   ((BC (eg p.main.body) (H₀ w.params) s₁.heap&&yb p s₁.heap&&Fk s₁&&Fl (H₀ w.params) s₁.heap),openSeen q loose (eg p.main.body) Xt g0 s₁,Yf s₁)=(true,openGood q loose,Ya w))
  (le:ml M N=true):LeftO p q loose Xt Yf Ya N g0:=λ w=>by
 obtain ⟨⟨h,gs,d,k,os⟩,e,e'⟩:=aH.mp (open_ w)
 obtain ⟨rfl,rfl,rfl,rfl⟩:h=H₀ w.params/\gs=gs₀/\d=d₀/\k=k₀:=by simpa using e'
 obtain ⟨z1,z2,z3⟩:_/\_/\_:=by simpa only [td] using size w
 obtain ⟨s₁,r,lk⟩:=run w os
 obtain ⟨l1,l2,l3⟩:_/\_/\_:=by simpa only [td] using lk
 have r:=topRun_mono (N -M) _ _ _ _ r
 rw [show M+(N -M)=N by have:=aO le;lia] at r
 have t:topFrom fX p w N ⟨H₀ w.params,gs,d,k,os⟩=some s₁:=by
  unfold topFrom
  rw [z1,z2,z3,r]
  show (match BC (eg p.main.body) (H₀ w.params) s₁.heap&&yb p s₁.heap&&Fk s₁&&Fl (H₀ w.params) s₁.heap with|true=>_|false=>_)=_
  rw [l1]
 unfold openEnds
 rw [e]
 show (topFrom fX p w N _).map _=_
 rw [t]
 exact congrArg some (GB l2 l3)
noncomputable def kept0:List lB:=pw0.main.body.filter λ st=>match st with
 |.FunctionDef n _ _ _ _ _ _ _ _ _=>n==aa "law"
 |_=>false
noncomputable def view0:cQ:={pw0 with main:={pw0.main with body:=kept0}}
noncomputable def loose0:List aw:=pw0.main.body.filterMap λ st=>match st with
 |.FunctionDef n _ _ _ _ _ _ _ _ _=>if n==aa "law" then none else some n
 |.ClassDef n _ _ _ _ _ _ _ _ _ _=>some n
 |_=>none
noncomputable def env0:i4:={scope:=pw0.main.scope,locals:=mainNs,globals:=mainNs,cells:=[],code:=.ref 13,frame:=some 14}
noncomputable def q0:Bx:=⟨0,0,0,0⟩
noncomputable abbrev c0:Code:=.body (mJ pw0) env0
noncomputable def pre0 (w:f7) (os:iz):cM:=match topGo fX pw0 w 11 (some (.ref 6)) 12 ⟨iS w.params,#[],HY,boot_toks,os⟩ (IA pw0) with
 |some (s,_)=>s.heap
 |none=>{objs:=#[]}
noncomputable def nth0 (h:cM) (i:Nat):xQ:=h.objs.toList.getD i {cls:=.none,data:=.plain}
noncomputable def tree0 (h:cM):BT:=.node (nth0 h 0) (.node (nth0 h 1) (.node (nth0 h 3) (.node (nth0 h 7) .nil .nil) (.node (nth0 h 11) .nil .nil)) (.node (nth0 h 5) (.node (nth0 h 9) .nil .nil) (.node (nth0 h 13) .nil .nil)))
 (.node (nth0 h 2) (.node (nth0 h 4) (.node (nth0 h 8) .nil .nil) (.node (nth0 h 12) .nil .nil)) (.node (nth0 h 6) (.node (nth0 h 10) .nil .nil) (.node (nth0 h 14) .nil .nil)))
noncomputable def st0 (w:f7) (os:iz):SharedT:={tree:=tree0 (pre0 w os),n:=15,life:={},gens:=#[],drawn:={},toks:=187,os:=os}
noncomputable abbrev th0:Thread:=piecesOf (mJ pw0) env0 c0 q0 [yc q0]
theorem GK (w:f7) (os:iz):topGo fX pw0 w 11 (some (.ref 6)) 12 ⟨iS w.params,#[],HY,boot_toks,os⟩ (IA pw0)=some ((st0 w os).abs,⟨denote fX c0,c0,q0,[yc q0]⟩):=by kernel_rfl
theorem BE (w:f7) (os:iz):segRun fX pw0 w 11 (some (.ref 6)) 1 1 (st0 w os).abs (blockOf (mJ pw0) env0 c0 q0 [yc q0])=some (.next,(st0 w os).abs,c0,q0):=by kernel_rfl
theorem Jp:opening pw0=plainProg pw0.main.scope.names:=by kernel_rfl
theorem Hr (s:ax):fenceModules? pw0 s=some s:=by kernel_rfl
theorem Jb (w:f7):((iS w.params).isNs di&&(#[]:Array GenState).size==0,(iS w.params).objs.size,(iS w.params).nsMap di "__annotations__")=(true,11,some (.ref 6)):=by kernel_rfl
noncomputable abbrev xt0:ax->Bool:=λ s=>xlAt view0 [] s&&recOk [] s
abbrev sN {α:Type} (w:f7) (os:iz) (f:Flow->Code->ax->α):Option α:=
 (segRunT fX pw0 w 11 (some (.ref 6)) 1 5400 (st0 w os) th0).bind λ r=>(topRun fX pw0 w 11 (some (.ref 6)) 2 r.2.1.abs ⟨doneF .next,c0,r.2.2.2,[yc q0]⟩).map λ s1=>f r.1 r.2.2.1 s1
theorem AX (w:f7) (os:iz):sN w os (λ f c s1=>(f,c,BC (eg pw0.main.body) (iS w.params) s1.heap&&yb pw0 s1.heap&&Fk s1&&Fl (iS w.params) s1.heap,openSeen view0 loose0 (eg pw0.main.body) xt0 true s1))=
  some (.next,c0,true,openGood view0 loose0):=by
 unfold sN
 rw [dS,dT,dU,PySem.W.Fast.te4187177175401517315]
 kernel_rfl
theorem Ep (w:f7) (os:iz):sN w os (λ Z Z s1=>fnsChk (eQ s1.heap))=some true:=by
 unfold sN
 rw [dS,dT,dU]
 kernel_rfl
theorem EH (w:f7) (os:iz):sN w os (λ Z Z s1=>globChk (eQ s1.heap)&&(keepChk (eQ s1.heap)&&fldChk (eQ s1.heap)))=some true:=by
 unfold sN
 rw [dS,dT,dU]
 kernel_rfl
theorem Ea (w:f7) (os:iz):sN w os (λ Z Z s1=>(tabChk (eQ s1.heap)&&ownChk (eQ s1.heap),txt0 (eQ s1.heap)))=some (true,exp0):=by
 unfold sN
 rw [dS,dT,dU]
 kernel_rfl
theorem My {ρ σ A B C D:Type} {X:Option ρ} {Y:ρ->Option σ} {f:ρ->σ->A} {g:ρ->σ->B} {k:ρ->σ->C} {m:ρ->σ->D} {a:A} {b:B} {c:C} {d:D} (h1:X.bind (λ r=>(Y r).map (f r))=some a) (h2:X.bind (λ r=>(Y r).map (g r))=some b) (h3:X.bind (λ r=>(Y r).map (k r))=some c)
  (z:∀r s,f r s=a->g r s=b->k r s=c->m r s=d):X.bind (λ r=>(Y r).map (m r))=some d:=by
 cases X with
 |none=>exact bH h1
 |some r=>
  cases e:Y r with
  |none=>have h:(Y r).map (f r)=some a:=h1;rw [e] at h;exact bH h
  |some s=>
   have h1:(Y r).map (f r)=some a:=h1
   have h2:(Y r).map (g r)=some b:=h2
   have h3:(Y r).map (k r)=some c:=h3
   show (Y r).map (m r)=some d
   rw [e] at*
   exact congrArg some (z r s (ac h1) (ac h2) (ac h3))
theorem EO (w:f7) (os:iz):sN w os (λ Z Z s1=>(chk0 (eQ s1.heap),txt0 (eQ s1.heap)))=some (true,exp0):=
 My (Ep w os) (EH w os) (Ea w os) λ r s e1 e2 e3=>
  have e1:fnsChk (eQ s.heap)=true:=e1
  have e2:(globChk (eQ s.heap)&&(keepChk (eQ s.heap)&&fldChk (eQ s.heap)))=true:=e2
  have e4:(tabChk (eQ s.heap)&&ownChk (eQ s.heap))=true:=congrArg Prod.fst e3
  congr (congrArg Prod.mk (kz e1 (kz (al e2) (kz (al (ar e2)) (kz (ar (ar e2)) e4))))) (congrArg Prod.snd e3)
end
section
open PySem PySem.W
def VC (sp:cB) (lv:Nat) (ps nm:List aw) (ds:List V) (body:List S):Prop:=∀us H Q X,sp us H Q X->us.length+ds.length=ps.length/\wpSs tb0 lv body (frame0 nm (us++ds)) H (λ Z H'=>Fg Q .none H') (Fg Q) (rB X)
theorem fg (q:Q u H):Fg Q u H:=⟨H,.refl,q⟩
theorem K7 (q:Q u H):rB Q u H:=⟨H,.refl,q⟩
theorem pT (h:b=true) (q:A):br b A B:=by exact af h q
theorem tZ (h:b=false) (q:A):br (eqb false b) A B:=by exact af h q
theorem Do (h:b=true) (q:B):br (eqb false b) A B:=by exact af h q
theorem F9 (h:b=true) (q:A):br (eqb true b) A B:=by exact af h q
theorem xh (h:b=false) (q:B):br (eqb true b) A B:=by exact af h q
theorem Ki (h:b=false->A) (k:b=true->B):br (eqb false b) A B:=by cases b<;>first|exact h rfl|exact k rfl
theorem rQ (h:b=true->A) (k:b=false->B):br (eqb true b) A B:=by cases b<;>first|exact h rfl|exact k rfl
section
variable {H:MH}
theorem kL (h:o=o') {S:List (aw×V)->Prop} {T:List (List Int×V)->Prop} {E:Prop} (q:at_ o' L S I T E O):at_ o L S I T E O:=by exact af h q
theorem cZ (h:H a=some (.list us)) (z:ix us x=some u) (q:Q u H):subR a (.int x) H Q:=kL h (ji z q)
theorem B5 (h:H a=some (.idict f k)) (e:f x=some u) (q:Q u H):subR a (.int x) H Q:=kL h (ji e q)
theorem xt (h:H a=some (.sdict es)) (e:es.lookup s=some u) (q:Q u H):subR a (.str s) H Q:=kL h (ji e q)
theorem HF (h:H a=some (.tdict te)) (hk:us=ks.map V.int) (e:te.lookup ks=some u) (q:Q u H):subR a (.tuple us) H Q:=kL h ⟨ks,hk,ji e q⟩
theorem cE (h:H a=some (.inst c d as)) (e:as.lookup n=some u) (q:Q u H):rc (.ref a) n H Q:=kL h (ji e q)
theorem km (h:H a=some (.inst c d as)) (e:fl c n=true) (z:ml as.length 100=true) (q:N (H.set a (.inst c d (alSet as n w)))):setattrV fl (.ref a) n w H N:=kL h (pW e (pW z q))
theorem Cw (h:H a=some (.idict f k)) (z:k<=100000) (q:N (H.set a (.idict (λ y=>if y=x then some w else f y) (k+1)))):eH (.ref a) (.int x) w H N:=kL h ⟨z,q⟩
theorem yM (h:H a=some .edict) (q:N (H.set a (.idict (λ y=>if y=x then some w else none) 1))):eH (.ref a) (.int x) w H N:=kL h q
theorem Dl (h:H a=some (.sdict es)) (z:es.length<=100000) (q:N (H.set a (.sdict (alSet es s w)))):eH (.ref a) (.str s) w H N:=kL h ⟨z,q⟩
theorem y4 (h:H a=some .edict) (q:N (H.set a (.sdict [(s,w)]))):eH (.ref a) (.str s) w H N:=kL h q
theorem Hh (h:H a=some (.tdict te)) (hk:us=ks.map V.int) (z:te.length<=1000) (e:te.lookup ks=none) (q:N (H.set a (.tdict (te++[(ks,w)])))):eH (.ref a) (.tuple us) w H N:=⟨ks,hk,kL h ⟨z,e,q⟩⟩
theorem En (h:H a=some .edict) (hk:us=ks.map V.int) (q:N (H.set a (.tdict [(ks,w)]))):eH (.ref a) (.tuple us) w H N:=⟨ks,hk,kL h q⟩
theorem Gc (h:H a=some (.sdict es)) (q:QB (es.lookup s).isSome):inV (.str s) (.ref a) H QB:=kL h q
theorem Co (h:H a=some .edict) (q:QB false):inV (.str s) (.ref a) H QB:=kL h q
theorem Go (h:H a=some (.idict f k)) (q:QB (f x).isSome):inV (.int x) (.ref a) H QB:=kL h q
theorem CM (h:H a=some .edict) (q:QB false):inV (.int x) (.ref a) H QB:=kL h q
theorem qO (h:H a=some (.list us)) (h2:H b=some (.list vs)) (z:us.length+vs.length<=bE) (q:∀c,H c=none->Q (.ref c) (H.set c (.list (us++vs)))):Kc a b H Q:=kL h (kL h2 ⟨z,q⟩)
theorem l4 (h:methOf tb0 H (.ref a) n=some g) (q:K g):Ht (methOf tb0 H (.ref a) n) K:=Gn h q
theorem jF (h1:ρ.at i=some (.ref a)) (h2:methOf tb0 H (.ref a) n=some g) (q:wpEs tb0 lv es ρ H (λ us H2=>mL tb0 lv (.fn g) (.ref a::us) H2 (fe tst Q) X) X):wpE tb0 lv tst (.meth (.loc i) n es) ρ H Q X:=ji h1 (Gn h2 q)
theorem CB (h:H a=some o):methOf tb H (.ref a) n=methO tb o n:=by
 show (H a).bind _=_
 refine af h ?_;rfl
theorem mP (h:H a=some (.list us)):methOf tb0 H (.ref a) (aa "append")=some (.bi "list.append"):=(CB h).trans rfl
theorem Gl (h:H a=some (.list us)):methOf tb0 H (.ref a) (aa "insert")=some (.bi "list.insert"):=(CB h).trans rfl
theorem qS (h:H a=some (.inst c d as)) (e:(as.lookup n).isSome=false) (m:tb0.meth c n=some g):methOf tb0 H (.ref a) n=some g:=(CB h).trans (by
 show (if (as.lookup n).isSome=true then none else tb0.meth c n)=_
 exact af e m)
theorem JE (h:H a=some (.tdict te)):methOf tb0 H (.ref a) (aa "get")=some (.bi "dict.get"):=(CB h).trans rfl
theorem G6 (h:H a=some .edict):methOf tb0 H (.ref a) (aa "get")=some (.bi "dict.get"):=(CB h).trans rfl
theorem qm (h:itemsOf H u=some us) (q:K us):xi (itemsOf H u) K:=rE h q
theorem set_set:(H.set a o).set a o2=H.set a o2:=by
 funext b;unfold MH.set;split<;>rfl
theorem Et (h:H a=none):(H.set a o).del a=H:=by
 funext b
 by_cases e:b=a
 ·subst e;(exact af (MH.del_self _ _) (af h rfl))
 ·exact af (MH.del_ne _ e) (af (MH.set_ne _ _ e) rfl)
theorem kQ (h:H a=some (.list vs)) (z:vs.length<=1000000) (q:Q (.int vs.length) H) (hl:iI 1 lv=true:=by rfl):mL tb0 lv (.fn (.bi "len")) [.ref a] H Q X:=pW hl (by
 show (match (match H a with|some (.list us)=>some us.length|_=>none) with
  |some n=>n<=1000000/\Q (.int n) H
  |none=>False)
 exact af h ⟨z,q⟩)
theorem Dc (h:H a=some (.list vs)) (z:vs.length<=100000) (q:Q .none (H.set a (.list (vs++[u])))) (hl:iI 1 lv=true:=by rfl):mL tb0 lv (.fn (.bi "list.append")) [.ref a,u] H Q X:=pW hl ⟨_,h,z,q⟩
theorem bR (e:tb0.spec (.user k)=sp) (q:sp us H Q X) (hl:iI (tb0.lvl (.user k)) lv=true:=by rfl):mL tb0 lv (.fn (.user k)) us H Q X:=pW hl (by exact af e q)
theorem mf (h:H a=some (.list us)):itemsOf H (.ref a)=some us:=by
 show (match H a with|some (.list us)=>some us|_=>none)=_
 rw [h]
theorem vE (h:H a=some (.list us)):seqOf H (.ref a)=some us:=by
 show (match H a with|some (.list us)=>some us|_=>none)=_
 rw [h]
theorem ma (h:H a=some o):backOf H H' (.ref a)=H'.set a o:=by
 show (match H a with|some o=>H'.set a o|none=>H')=_
 rw [h]
theorem Cj (h:seqOf H u=some us) (q:A us):xi (seqOf H u) A:=rE h q
end
theorem qB (h:a<=b):(2:Int)^a<=2^b:=by
 have:(2:Nat)^a<=2^b:=Nat.pow_le_pow_right (by decide) h
 exact_mod_cast this
theorem gq (a:Nat):(0:Int)<2^a:=by
 have:0<(2:Nat)^a:=GC a
 exact_mod_cast this
theorem kA {x:Int} (h0:0<=x) (h:x<2^k):x.natAbs<2^k:=by
 have:((x.natAbs:Nat):Int)<((2^k:Nat):Int):=by
  refine af (Int.natAbs_of_nonneg h0) ?_;exact_mod_cast h
 exact_mod_cast this
theorem AN (x y:Nat):ku x y=((x|||y:Nat):Int):=by
 have h:∀z:Nat,ia (z:Int)=-(z:Int) -1:=λ z=>by first|rfl|(unfold ia;lia)
 have hn:∀z:Nat,decide (0<=ia (z:Int))=false:=λ z=>by refine af (h _) ?_;exact decide_eq_false (by lia)
 have hb:∀z:Nat,ia (ia (z:Int))=z:=λ z=>by refine af (h _) ?_;first|(unfold ia;lia)|lia
 unfold ku mj
 refine af (hn _) (af (hn _) ?_)
 refine af (hb _) (af (hb _) (af (hb _) ?_))
 simp
theorem zX (hn:0<=n) (h0:0<=o) (h1:o<256):ku (n*2^(8:Int).toNat) o=n*256+o:=by
 refine bu (bJ hn) λ a r1_=>?_
 subst r1_
 refine bu (bJ h0) λ b r1_=>?_
 subst r1_
 have e:((a:Int)*(2:Int)^(8:Int).toNat)=((a<<<8:Nat):Int):=by
  refine af (Fo _ _) ?_;push_cast;rfl
 refine af e (af (AN _ _) (af (iP ((Nat.shiftLeft_add_eq_or_of_lt (by lia:b<2^8)) _)) (af (Fo _ _) ?_)))
 push_cast;rfl
theorem Mc:VC BZ 2 ps17 nm17 [] c17:=by
 intro us H Q X h
 refine HM (λ n h=>?_) h
 exact ⟨rfl,fg h.2.2⟩
theorem wB:∀(b:List Int) (n:Int),(∀x∈b,0<=x/\x<256)->0<=n->0<=b.foldl (λ n o=>n*256+o) n
 |[],n,_,h=>h
 |x::b,n,hb,h=>wB b _ (λ y hy=>hb y (.tail _ hy)) (by have:=(hb x (.head _)).1;show 0<=n*256+x;lia)
theorem wA:∀(b:List Int) (n:Int) (k:Nat),(∀x∈b,0<=x/\x<256)->n<256^k->b.foldl (λ n o=>n*256+o) n<256^(k+b.length)
 |[],n,k,_,h=>h
 |x::b,n,k,hb,h=>by
  have:=wA b (n*256+x) (k+1) (λ y hy=>hb y (.tail _ hy)) (by have:=(hb x (.head _)).2;refine af (jS _ _) ?_;lia)
  refine af gK (af aP ?_)
  refine af (show k+(b.length+1)=k+1+b.length by lia) ?_
  exact this
theorem uB (k:Nat):(256:Int)^k=2^(8*k):=by refine af Int.pow_mul ?_;rfl
theorem vD (h:il b):0<=numOf b/\numOf b<2^512:=by
 refine ⟨wB b 0 h.1 (jm _),?_⟩
 have:=wA b 0 0 h.1 (by decide)
 have e:=uB (0+b.length)
 rw [e] at this
 refine kt this (qB ?_)
 have:=h.2;lia
theorem M8:VC Ct 2 ps13 nm13 [] c13:=by
 intro us H Q X h
 refine FQ (λ b h=>?_) h
 refine bw h λ hb q=>?_
 refine ⟨rfl,?_⟩
 refine oo (λ i ρ H'=>H'=H/\∃x,ρ=[some (.bytes b),some (.int (numOf (b.take i))),x]) ⟨rfl,none,rfl⟩ ?_ ?_
 ·rintro i u ρ _ e ⟨rfl,x,rfl⟩ N' k
  rw [aF] at e
  refine aL (aH.mp e) λ o ho r1_=>?_
  subst r1_
  have hmem:=aZ ho
  have hbt:il (b.take i):=⟨λ y hy=>hb.1 y (mV hy),by refine af bU ?_;have:=hb.2;exact ao (dG _ _) (ao ‹_› (by decide))⟩
  refine bw (vD hbt) λ n1 n2=>?_
  have:=m9 (kA n1 n2)
  refine aj ⟨aS _,by lia⟩ (k _ _ ⟨rfl,some (.int o),?_⟩)
  show [_,some (V.int (ku (numOf (b.take i)*2^(8:Int).toNat) o)),_]=_
  rw [zX n1 (hb.1 o hmem).1 (hb.1 o hmem).2,show b.take (i+1)=b.take i++[o] by (refine af dm (af ho ?_));rfl]
  unfold numOf
  refine af qd ?_;rfl
 ·rintro ρ _ ⟨rfl,x,rfl⟩ _
  refine af (ag _) (af c7 ?_)
  exact fg q
theorem bZ (h:H c=none):MH.Sub H (H.set c o):=λ a ob e=>by
 by_cases q:a=c
 ·subst q;rw [h] at e;exact bH e
 ·exact af (MH.set_ne _ _ q) e
theorem a6 (s:MH.Sub H0 H) (h:H0 c=none):MH.Sub H0 (H.set c o):=λ a ob e=>by
 by_cases q:a=c
 ·subst q;rw [h] at e;cases e
 ·refine af (MH.set_ne _ _ q) ?_;exact s _ _ e
theorem DU (s:MH.Sub H H') (q:Q u H):Fg Q u H':=⟨H,s,q⟩
theorem Hl:asideOf H (.ref a)=H.del a:=rfl
theorem vO (C:Nat->(da->MH->Prop)->Prop)
  (step:∀n (K:Bool->MH->Prop),C n λ ρ H=>(∀b H1,(b=true->0<n/\∀N',(∀ρ2 H2,(∀K,C (n -1) K->K ρ2 H2)->N' ρ2 H2)->body ρ H1 N')->(b=false->N ρ H1)->K b H1)->test ρ H K) (n:Nat) {ρ:da} {H:MH} (h:∀K,C n K->K ρ H):whileW test body N (n+1) ρ H:=
 rn (λ n ρ H=>∀K,C n K->K ρ H) (λ n ρ H P K=>P _ (step n K)) n h
theorem xO (C:Nat->(da->MH->Prop)->Prop) (h0:∀K,C 0 K->K ρ H) (step:∀i u N',us[i]?=some u->(∀ρ' H',(∀K,C (i+1) K->K ρ' H')->N' ρ' H')->C i λ ρ H=>turn u ρ H N') (fe:C us.length N):forW turn us ρ H N:=
 oo (λ i ρ H=>∀K,C i K->K ρ H) h0 (λ i v ρ H e p N' k=>p _ (step i v N' e k)) λ ρ H p=>p _ fe
section
variable {lv:Nat}
theorem bM (h:wpE tb0 lv false e ρ H (λ v H'=>v=u/\H'=H) X) (k:wpSs tb0 lv r (ρ.set i (some u)) H N R X):wpSs tb0 lv (.assign (.loc i) e::r) ρ H N R X:=
 Ek lW lv _ h (by rintro _ _ ⟨rfl,rfl⟩;exact k)
theorem bA (c:Bool) (h:wpE tb0 lv true t ρ H (λ v H'=>v=.bool c/\H'=H) X) (k1:c=true->wpSs tb0 lv b ρ H (λ ρ H=>wpSs tb0 lv r ρ H N R X) R X) (k2:c=false->wpSs tb0 lv o ρ H (λ ρ H=>wpSs tb0 lv r ρ H N R X) R X):wpSs tb0 lv (.ite t b o::r) ρ H N R X:=
 bh lW lv t (by rintro _ _ ⟨rfl,rfl⟩;exact kg k1 k2) (λ Z Z z=>z) h
theorem dO (C:(V->MH->Prop)->Prop) (h:∀K,C K->wpE tb0 lv false e ρ H K X) (k:C λ u H'=>wpSs tb0 lv r (ρ.set i (some u)) H' N R X):wpSs tb0 lv (.assign (.loc i) e::r) ρ H N R X:=h _ k
theorem eC (C:da->(da->MH->Prop)->Prop) (h:∀K,C ρ K->wpS tb0 lv s ρ H K R X) (k:C ρ λ ρ' H'=>wpSs tb0 lv r ρ' H' N R X):wpSs tb0 lv (s::r) ρ H N R X:=h _ k
@[reducible] def KB (lv:Nat) (t:T) (b r:List S) (ρ:da) (N:da->MH->Prop) (R:V->MH->Prop) (X:aw->MH->Prop) (u:V) (H:MH):Prop:=xi (itemsOf H u) λ us=>forW (λ v ρ1 H2 K=>assignT t v ρ1 H2 λ ρ2 H3=>wpSs tb0 lv b ρ2 H3 K (λ r H4=>R r (backOf H H4 u)) jU) us ρ (asideOf H u) λ ρ3 H4=>(∀a,u=.ref a->H4 a=none)->wpSs tb0 lv r ρ3 (backOf H H4 u) N R X
theorem C0 (C:Nat->(da->MH->Prop)->Prop) (hi:itemsOf H u=some us) (h0:∀K,C 0 K->K ρ (asideOf H u))
  (step:∀i v N',us[i]?=some v->(∀ρ' H',(∀K,C (i+1) K->K ρ' H')->N' ρ' H')->C i λ ρ1 H2=>assignT t v ρ1 H2 λ ρ2 H3=>wpSs tb0 lv b ρ2 H3 N' (λ r H4=>R r (backOf H H4 u)) jU)
  (fe:C us.length λ ρ3 H4=>(∀a,u=.ref a->H4 a=none)->wpSs tb0 lv r ρ3 (backOf H H4 u) N R X):KB lv t b r ρ N R X u H:=
 rE hi (oo (λ i ρ H=>∀K,C i K->K ρ H) h0 (λ i v ρ H e p N' k=>p _ (step i v N' e k)) λ ρ H p=>p _ fe)
theorem JO (D:(V->MH->Prop)->Prop) (h:∀K,D K->wpE tb0 lv false it ρ H K X) (k:D (KB lv t b r ρ N R X)):wpSs tb0 lv (.for_ t it b::r) ρ H N R X:=h _ k
theorem mh (u:V) (C:Nat->(da->MH->Prop)->Prop) (h:∀K:V->MH->Prop,K u H->wpE tb0 lv false it ρ H K X) (hi:itemsOf H u=some us) (h0:∀K,C 0 K->K ρ (asideOf H u))
  (step:∀i v N',us[i]?=some v->(∀ρ' H',(∀K,C (i+1) K->K ρ' H')->N' ρ' H')->C i λ ρ1 H2=>assignT t v ρ1 H2 λ ρ2 H3=>wpSs tb0 lv b ρ2 H3 N' (λ r H4=>R r (backOf H H4 u)) jU)
  (fe:C us.length λ ρ3 H4=>(∀a,u=.ref a->H4 a=none)->wpSs tb0 lv r ρ3 (backOf H H4 u) N R X):wpSs tb0 lv (.for_ t it b::r) ρ H N R X:=h _ (C0 C hi h0 step fe)
end
theorem yZ {m i:Nat}:((m:Int) -1 -(i:Int)).toNat=m -1 -i:=(congrArg ke (Int.sub_sub ..)).trans ((IB m (1+i)).trans (Nat.sub_sub ..).symm)
theorem Mh:VC Cn 2 ps14 nm14 [] c14:=by
 intro us H Q X h
 refine FQ (λ b h=>?_) h
 refine bw h λ hb q=>?_
 clear h
 have hl:=hb.2
 refine ⟨rfl,?_⟩
 refine bM (u:=.int ((b.length:Int) -1)) (by (refine aj (ao ‹_› (by decide)) ?_;refine aj rfl ?_;exact rfl)) ?_
 refine aj (by lia) (aj (by lia) (aj (by (refine af (ag _) (af bO ?_));lia) ?_))
 refine eN (λ u=>match u with
  |.int i=>.int (b.getD ((b.length:Int) -1 -i).toNat 0)
  |_=>.none) (λ u R h=>h) (λ u hu R h=>?_) λ c hc=>?_
 ·refine aL (bC.mp hu) λ i hi r1_=>?_
  subst r1_
  have hi:=ca.mp hi
  exact aj ⟨by lia,by lia,ao ‹_› (by decide)⟩ h
 ·refine ⟨b.reverse,?_,⟨λ x hx=>hb.1 x (DZ.mp hx),by exact af jL hl⟩,DU (bZ hc) q⟩
  refine (MH.set_self _ _ _).trans (congrArg (λ l=>some (bK.list l)) ?_)
  refine List.ext_getElem (by simp) λ i h1 h2=>?_
  have hb':i<b.length:=by simpa using h2
  simp only [dx,List.getElem_map,ft,List.getElem_reverse]
  refine af yZ (af (aJ) (af (an (fE (uN ..) (Nat.sub_lt (Nat.zero_lt_of_lt hb') Nat.one_pos))) ?_));rfl
theorem Me:VC E4 3 ps15 nm15 [] c15:=by
 intro us H Q X h
 refine Jg (λ b o h=>?_) h
 refine gJ h λ hb ho q=>?_
 clear h
 refine ⟨rfl,?_⟩
 refine bA (decide (o="big")) ⟨rfl,rfl⟩ (λ h=>?_) λ h=>?_
 ·cases of_decide_eq_true h
  exact bR IR ⟨hb,fg q⟩
 ·have h:=of_decide_eq_false h
  cases ho.resolve_left h
  refine bA true ⟨rfl,rfl⟩ (λ Z=>?_) nofun
  refine bR MB ⟨hb,bR IR ⟨⟨λ x hx=>hb.1 x (DZ.mp hx),by exact af jL hb.2⟩,fg ?_⟩⟩
  unfold numIn at q
  rw [if_neg h] at q
  exact q
theorem MD:VC EJ 2 ps16 nm16 [] c16:=by
 intro us H Q X h
 refine KT (λ o g h=>?_) h
 refine ⟨rfl,kg (λ e=>fg ?_) λ e=>fg ?_⟩
 ·rw [if_pos (of_decide_eq_true e)] at h;exact h
 ·rw [if_neg (of_decide_eq_false e)] at h;exact h
theorem MC:VC Cc 2 ps80 nm80 [] c80:=by
 intro us H Q X h
 refine J8 (λ Z k h=>?_) h
 refine fy h λ zs r1_ h0 h1 t2_=>(bw t2_ λ h2 q=>?_)
 clear h t2_
 subst r1_
 refine ⟨rfl,?_⟩
 have hl:(zs.map V.int).length=zs.length:=ag ..
 unfold digit at q
 refine ⟨by refine af hl ?_;exact ao ‹_› (by decide),kg (λ e=>?_) λ e=>?_⟩
 ·have e:=of_decide_eq_true e
  rw [hl] at e
  rw [if_pos e] at q
  refine ji (u:=V.int (zs.getD k.toNat 0)) (wu ⟨h0,dK ‹_› (by decide)⟩ ?_) ?_
  ·have hk:k.toNat<zs.length:=by lia
   refine af (aF) (af (aJ) (af (an hk) ?_));rfl
  exact aj (of_decide_eq_true rfl) (fg q)
 ·have e:=of_decide_eq_false e
  rw [hl] at e
  rw [if_neg e] at q
  exact fg q
theorem MU:VC Eu 2 ps21 nm21 [] c21:=by
 intro us H Q X h
 refine Ja (λ x n a b h=>?_) h
 refine ⟨rfl,?_⟩
 exact fg h
theorem L9:VC Ci 2 ps27 nm27 [] c27:=by
 intro us H Q X h
 refine rM (λ a h=>?_) h
 refine cI h λ vs h1 h2 q=>?_
 refine ⟨rfl,?_⟩
 refine bA (decide ((vs.length:Int)=1)) (by (refine kQ (by assumption) (ao ‹_› (by decide)) ?_;refine aj rfl ?_;exact rfl)) (λ h=>?_) λ h=>?_
 ·have h:=of_decide_eq_true h
  refine bu (List.length_eq_one_iff.mp (Im.mp h)) λ u e=>?_
  subst e
  exact cZ h1 rfl (fg q)
 ·have h:=of_decide_eq_false h
  refine ⟨vs,h1,ao ‹_› (by decide),fg ?_⟩
  clear h1
  cases vs with
  |nil=>exact q
  |cons u r=>cases r with
   |nil=>exact absurd rfl h
   |cons v r=>exact q
theorem Hd (h1:a=b->Q (.tuple [.int a]) H) (h2:a≠b->Q .none H):wj [.tuple [.tuple [.int a,.int b]]] H Q X:=by
 by_cases e:a=b
 ·have:=h1 e
  unfold wj;simp only [Ic,nC,vT,vI,nN,if_pos e];exact this
 ·have:=h2 e
  unfold wj;simp only [Ic,nC,vT,vI,nN,if_neg e];exact this
theorem Nf:VC wj 2 ps41 nm41 [] c41:=by
 intro us H Q X h
 refine K1 (λ a b h=>?_) h
 refine ⟨rfl,?_⟩
 refine aj rfl (kg (λ e=>fg ?_) λ e=>?_)
 ·rw [if_neg (by simpa using e)] at h;exact h
 ·rw [if_pos (by simpa using e)] at h
  exact ⟨of_decide_eq_true rfl,λ Z=>fg h⟩
theorem wL (j:Nat):((2:Int)^j)=((2^j:Nat):Int):=by push_cast;rfl
theorem xH (j:Nat):mj ((2:Int)^j) (2^j -1)=0:=by
 have h:=GC j
 have e1:((2:Int)^j).toNat=2^j:=by refine af (wL _) ?_;rfl
 have e2:((2:Int)^j -1).toNat=2^j -1:=by refine af (wL _) ?_;exact IB (2^j) 1
 unfold mj
 (refine af (decide_eq_true (by have:=gq j;exact aS _)) (af (decide_eq_true (by have:=gq j;exact nq ‹_›)) ?_))
 dsimp only
 refine af e1 (af e2 (af (Nat.and_two_pow_sub_one_eq_mod _ _) (af (Nat.mod_self _) ?_)));rfl
theorem N5:VC JP 2 ps1 nm1 [] c1:=by
 intro us H Q X h
 refine Kd (λ low Z aA h=>?_) h
 refine fy h λ j hj r1_ h0 t2_=>(wG t2_ λ h1 h2 h3 h4 q=>?_)
 clear h t2_
 subst r1_
 refine ⟨rfl,?_⟩
 have p2:=gq j
 refine bM (u:=.int (2^j)) ⟨congrArg V.int (by lia),rfl⟩ (bA false ?_ nofun λ Z=>?_)
 ·refine tZ (decide_eq_false (by lia)) (tZ (by refine af (xH _) ?_;rfl) (pW (decide_eq_true p2) (tZ (by refine af h1 ?_;rfl) ⟨h2,tZ ?_ ⟨rfl,rfl⟩⟩)))
  refine af (Int.ediv_eq_zero_of_lt (by lia) h4) ?_;rfl
 refine bM (u:=.int aA) ⟨rfl,rfl⟩ (eC (λ ρ K=>K [some (.int low),some (.int (low+2^j -1)),some (.int aA),some (.int 1),some (.int (aA -j))] H) (λ K kk=>⟨j+1,vO (λ n K=>K [some (.int low),some (.int (low+2^j -1)),some (.int aA),some (.int (2^n)),some (.int (aA -j+n))] H) ?_ j ?_⟩) ?_)
 ·intro n K k
  refine k _ _ (λ e=>?_) (λ e=>?_)
  ·have e:=of_decide_eq_true e
   obtain ⟨m,rfl⟩:∃m,n=m+1:=by
    cases n with
    |zero=>simp at e
    |succ n=>exact ⟨n,rfl⟩
   have e1:(2:Int)^(m+1)/2^(1:Int).toNat=2^m:=(congrArg (·/(2:Int)) (jS 2 m)).trans (Int.mul_ediv_cancel _ (by decide))
   have e2:aA -(j:Int)+((m+1:Nat):Int) -1=aA -j+(m:Int):=by lia
   refine ⟨mu m,λ N' k'=>⟨by decide,k' _ _ λ K k=>?_⟩⟩
   show K [_,_,_,some (V.int ((2:Int)^(m+1)/2^(1:Int).toNat)),some (V.int (aA -(j:Int)+((m+1:Nat):Int) -1))] _
   refine af e1 (af e2 ?_);exact k
  ·have e:=of_decide_eq_false e
   have hn:n=0:=by
    cases n with
    |zero=>rfl
    |succ n=>
     exfalso;apply e
     have:=gq n
     refine af (jS _ _) ?_;lia
   subst hn
   refine af (Int.pow_zero _) (af (show aA -(j:Int)+((0:Nat):Int)=aA -j from Int.add_zero _) ?_);exact kk
 ·intro K k
  rw [DD] at k;exact k
 ·exact fg q
theorem NG:VC CS 2 ps83 nm83 [] c83:=by
 intro us H Q X h
 refine GO (λ p m h=>?_) h
 refine gJ h λ h0 h1 q=>?_
 clear h
 refine ⟨rfl,?_⟩
 have hl:0<=p/3 %65536/\p/3 %65536<65536:=⟨aQ _ (by decide),aM _ (by decide)⟩
 refine bM (u:=.int (p/3 %65536)) (by (refine aj rfl ?_;exact rfl)) ?_
 unfold portsOf at q
 refine bA (decide (p %3=0)) (by (refine aj rfl ?_;exact rfl)) (λ h=>?_) λ h=>?_
 ·rw [if_pos (of_decide_eq_true h)] at q
  exact fg q
 ·rw [if_neg (of_decide_eq_false h)] at q
  show br (decide (p %3=2)) _ _
  refine kg (λ e=>?_) (λ e=>?_)
  ·rw [if_pos (of_decide_eq_true e)] at q
   exact pW (decide_eq_true (by lia)) (fg q)
  ·rw [if_neg (of_decide_eq_false e)] at q
   exact fg q
theorem gS (h:k<=16):il (octets n k):=by
 unfold octets
 refine ⟨λ x hx=>?_,by simp;exact eT ‹_› (by decide)⟩
 refine aL (bC.mp hx) λ i Z r1_=>?_
 subst r1_
 exact ⟨aQ _ (by decide),aM _ (by decide)⟩
theorem Ni:VC Cg 2 ps81 nm81 [] c81:=by
 intro us H Q X h
 refine GO (λ n k h=>?_) h
 refine nX h λ h0 h1 h2 q=>?_
 clear h
 refine bu (bJ h1) λ m r1_=>?_
 subst r1_
 refine ⟨rfl,?_⟩
 intro c hc
 refine eC (λ ρ K=>∀a b H',H' c=some (.list ((bF m).map λ (i:Nat)=>.int (n/256^i %256)))->MH.Sub H H'->K [some (.int a),some (.int m),some (.ref c),b] H') (λ K kk=>?_) ?_
 ·refine aj (of_decide_eq_true rfl) (aj (by lia) (xO (λ i K=>∀a b H',a=n/256^i->H' c=some (.list ((bF i).map λ (i:Nat)=>.int (n/256^i %256)))->MH.Sub H H'->K [some (.int a),some (.int m),some (.ref c),b] H') (λ K k=>k n none _ ?_ (MH.set_self _ _ _) (bZ hc)) ?_ ?_))
  ·exact af (Int.pow_zero _) (af (Int.ediv_one _) rfl)
  ·intro i u N' e k a b H1 ha h1 s1
   have hi:i<m:=by have:=(aN.mp e).1;simpa using this
   have hn:(0:Int)<=256^i:=by refine af (uB _) ?_;exact fA (gq _)
   show wpE _ _ _ _ _ _ _ _
   refine jF (by rfl) (mP h1) (Dc h1 ?_ ?_)
   ·refine af (ag _) (af bO ?_);lia
   refine ⟨rfl,k _ _ λ K k=>k _ u _ ?_ ?_ (a6 s1 hc)⟩
   ·exact af ha (af (xa hn) (af (iP (jS _ _)) rfl))
   ·refine af mn (af bf (af ha ?_));exact MH.set_self _ _ _
  ·intro a b H1 ha h1 s1 _
   rw [ag,bO] at h1
   exact kk _ _ _ h1 s1
 intro a b H1 hc1 s1
 refine aj (of_decide_eq_true rfl) (aj (by lia) (aj (by (refine af (ag _) (af bO ?_));lia) ?_))
 refine eN (λ u=>match u with
  |.int i=>.int (n/256^((m:Int) -1 -i).toNat %256)
  |_=>.none) (λ u R h=>h) (λ u hu R h=>?_) λ d hd=>?_
 ·refine aL (bC.mp hu) λ i hi r1_=>?_
  subst r1_
  have hi:=ca.mp hi
  exact cZ hc1 (wu ⟨by lia,by lia⟩ (by (refine af (aF) (af (List.getElem?_range (by lia)) ?_));rfl)) h
 ·refine ⟨octets n m,?_,gS h2,DU (a6 s1 (s1.none hd)) q⟩
  ·refine (MH.set_self _ _ _).trans (congrArg (λ l=>some (bK.list l)) ?_)
   refine af (dx _) (af cD ?_)
   unfold octets
   refine af cD ?_
   refine gu λ i hi=>?_
   have hi:=ca.mp hi
   show V.int (n/256^((m:Int) -1 -(i:Int)).toNat %256)=V.int _
   refine af yZ ?_;rfl
structure NW (r:aI) (z:RS):Prop where
 n1:z.slots≠r
 n2:z.slots≠z.pend
 n3:z.slots≠z.stmts
 n4:z.slots≠z.dropped
 n5:z.known≠r
 n6:z.known≠z.pend
 n7:z.known≠z.stmts
 n8:z.known≠z.dropped
 n9:r≠z.pend
 n10:r≠z.stmts
 n11:r≠z.dropped
section
variable {z:RS}
theorem dY.at_r (h:dY B H r z):H r=some (.inst (.cls 3) z.d z.attrs):=h.obj
theorem dY.ne (h:dY B H r z):NW r z:=by
 refine cu h.lists λ S P h1 h2 Z=>?_
 have h3:=h.dropped
 have h0:=h.at_r
 have hs:∃o,H z.slots=some o/\(∀l,o≠.list l)/\∀c d as,o≠.inst c d as:=by
  rcases h.slots with ⟨e,_⟩|⟨f,k,e,_⟩<;>exact ⟨_,e,λ Z q=>(nomatch q),λ Z Z Z q=>(nomatch q)⟩
 have hk:∃o,H z.known=some o/\(∀l,o≠.list l)/\∀c d as,o≠.inst c d as:=by
  rcases h.known with e|⟨_,_,e⟩<;>exact ⟨_,e,λ Z q=>(nomatch q),λ Z Z Z q=>(nomatch q)⟩
 refine cI hs λ o1 e1 l1 i1=>?_
 clear hs
 refine cI hk λ o2 e2 l2 i2=>?_
 clear hk
 refine ⟨λ q=>?_,λ q=>?_,λ q=>?_,λ q=>?_,λ q=>?_,λ q=>?_,λ q=>?_,λ q=>?_,λ q=>?_,λ q=>?_,λ q=>?_⟩
 ·rw [q,h0] at e1;(have e1:=ac e1;subst e1);exact i1 _ _ _ rfl
 ·rw [q,h1] at e1;(have e1:=ac e1;subst e1);exact l1 _ rfl
 ·rw [q,h2] at e1;(have e1:=ac e1;subst e1);exact l1 _ rfl
 ·rw [q,h3] at e1;(have e1:=ac e1;subst e1);exact l1 _ rfl
 ·rw [q,h0] at e2;(have e2:=ac e2;subst e2);exact i2 _ _ _ rfl
 ·rw [q,h1] at e2;(have e2:=ac e2;subst e2);exact l2 _ rfl
 ·rw [q,h2] at e2;(have e2:=ac e2;subst e2);exact l2 _ rfl
 ·rw [q,h3] at e2;(have e2:=ac e2;subst e2);exact l2 _ rfl
 ·rw [q,h1] at h0;exact nS h0 rfl
 ·rw [q,h2] at h0;exact nS h0 rfl
 ·rw [q,h3] at h0;exact nS h0 rfl
theorem C6:alSet z.attrs (aa "pending") (.ref c)={z with pend:=c}.attrs:=rfl
theorem A5 (h:dY B H r z) (e:z.sl g=some t) (q:Q t.v H):subR z.slots (.int g) H Q:=by
 rcases h.slots with ⟨_,e2⟩|⟨f,k,e1,_,e2⟩
 ·rw [e2] at e;exact bH e
 ·exact B5 e1 (by (refine af (e2 _) (af e ?_));rfl) q
theorem CO (h:dY B H r z) (q:QB (z.sl g).isSome):inV (.int g) (.ref z.slots) H QB:=by
 rcases h.slots with ⟨e1,e2⟩|⟨f,k,e1,_,e2⟩
 ·rw [e2] at q;exact CM e1 q
 ·exact Go e1 (by (refine af (e2 _) (af Bp ?_));exact q)
theorem dY.slotsUpd (h:dY B H r z) (hs:d6 (H.set z.slots o) z.slots sl n):dY B (H.set z.slots o) r {z with sl:=sl,n:=n}:=by
 obtain ⟨n1,n2,n3,n4,n5,n6,n7,n8,n9,n10,n11⟩:=h.ne
 refine cu h.lists λ S P h1 h2 h3=>⟨a6 h.keep h.news,h.newr,h.news,h.newk,h.newp,h.newt,?_,hs,?_,⟨S,P,?_,?_,h3⟩,h.ord,h.top,?_,h.nsk,h.npt,h.ndp,h.ndt⟩
 ·exact af (MH.set_ne _ _ n1.symm) h.obj
 ·unfold dw;exact af (MH.set_ne _ _ h.nsk.symm) h.known
 ·exact af (MH.set_ne _ _ n2.symm) h1
 ·exact af (MH.set_ne _ _ n3.symm) h2
 ·exact af (MH.set_ne _ _ n4.symm) h.dropped
theorem oW (h:dY B H r z) (hu:u=x.v) (hn:z.n<=100000) (k:∀H',dY B H' r {z with sl:=z.sl.put g x,n:=z.n+1}->QN H'):eH (.ref z.slots) (.int g) u H QN:=by
 subst hu
 rcases h.slots with ⟨e1,e2⟩|⟨f,m,e1,hm,e2⟩
 ·refine yM e1 (k _ (h.slotsUpd (.inr ⟨_,_,MH.set_self _ _ _,mu _,λ i=>?_⟩)))
  unfold cY.put
  split
  ·rfl
  ·refine af (e2 _) ?_;rfl
 ·refine Cw e1 (ao ‹_› ‹_›) (k _ (h.slotsUpd (.inr ⟨_,_,MH.set_self _ _ _,cw ‹_›,λ i=>?_⟩)))
  unfold cY.put
  split
  ·rfl
  ·exact e2 i
end
theorem Nj:VC CK 2 ps24 nm24 [] c24:=by
 intro us H Q X h
 refine BP (λ r g h=>?_) h
 refine fZ h λ B z h_ q=>?_
 clear h
 revert h_;intro h
 have hr:=h.at_r
 refine ⟨rfl,bA (!(z.sl g).isSome) ?_ (λ e=>?_) λ e=>?_⟩
 ·refine cE (by assumption) rfl ?_
  show inV _ _ _ _
  exact CO h ⟨rfl,rfl⟩
 ·have e:z.sl g=none:=by simpa using e
  rw [e] at q
  exact K7 q
 ·obtain ⟨t,e⟩:∃t,z.sl g=some t:=by
   cases w:z.sl g with
   |none=>rw [w] at e;cases e
   |some t=>exact ⟨t,rfl⟩
  rw [e] at q
  refine cE (by assumption) rfl ?_
  exact A5 h e (fg q)
theorem LP:VC Cf 3 ps25 nm25 [] c25:=by
 intro us H Q X h
 refine BP (λ r g h=>?_) h
 refine fZ h λ B z h_ q=>?_
 clear h
 revert h_;intro h
 refine ⟨rfl,?_⟩
 cases e:z.sl g with
 |none=>
  rw [e] at q
  refine bR Jl ⟨B,z,h,?_⟩
  refine af e ?_;exact K7 q
 |some t=>
  rw [e] at q
  refine bM (u:=t.v) ?_ ?_
  ·refine bR Jl ⟨B,z,h,?_⟩
   exact af e ⟨rfl,rfl⟩
  refine bA false ?_ nofun λ e=>fg q.2
  exact aj (by lia) rfl
theorem Ms:VC zH 2 ps31 nm31 [] c31:=by
 intro us H Q X h
 refine Jj (λ r tag g name size order h=>?_) h
 refine jR h λ B z h_ hn hl q=>?_
 clear h
 revert h_;intro h
 have hr:=h.at_r
 refine ⟨rfl,?_⟩
 skip
 exact aj (show 5+name.length<=bE by unfold bE;lia) (cE (by assumption) rfl (oW (x:=⟨"field",[.str ("meta "++name)],order,size⟩) h rfl (ao ‹_› (by decide)) λ H' h'=>fg (q H' h')))
theorem MA:VC zR 2 ps32 nm32 [] c32:=by
 intro us H Q X h
 refine KV (λ r tag g b h=>?_) h
 refine jR h λ B z h_ hn hl q=>?_
 clear h
 revert h_;intro h
 have hb:=hl.2
 have hr:=h.at_r
 refine ⟨rfl,?_⟩
 exact aj (ao ‹_› (by decide)) (cE (by assumption) rfl (oW (x:=⟨"raw",[.bytes b],"big",b.length⟩) h rfl (ao ‹_› (by decide)) λ H' h'=>fg (q H' h')))
theorem kR {H:MH} (h:H a=some o):H.set a o=H:=by
 funext b
 by_cases q:b=a
 ·subst q;(exact af (MH.set_self _ _ _) (af h rfl))
 ·exact af (MH.set_ne _ _ q) rfl
theorem rK {ρ H N R X} (h:wpE tb0 lv true t ρ H (λ v H'=>v=.bool false/\H'=H) jU) (k:wpSs tb0 lv r ρ H N R X):wpSs tb0 lv (.while_ t b::r) ρ H N R X:=
 ⟨1,bh lW lv t (by rintro _ _ ⟨rfl,rfl⟩;exact k) (λ Z Z z=>z) h⟩
theorem Ey {S:List (Int×V)} (h:S.length<=10000):ix ((S++[p]).map stV) (((S++[p]).length:Int) -1)=some (stV p):=by
 refine wu ⟨by (refine af az (af aU ?_));lia,by (refine af az (af aU ?_));lia⟩ ?_
 refine af az (af aU (af (show (((S.length+1:Nat):Int) -1).toNat=S.length by lia) (af (aF) (af (fV (bW _)) ?_))))
 simp
theorem MK:VC D5 2 ps19 nm19 [] c19:=by
 intro us H Q X h
 refine I8 (λ a t st h=>?_) h
 refine fy h λ S h1 h2 h3 q=>?_
 clear h
 have hl:(S.map stV).length=S.length:=ag ..
 refine ⟨rfl,?_⟩
 refine bM (u:=.int S.length) (kQ h1 (by lia) ⟨congrArg (λ n:Nat=>V.int n) hl,rfl⟩) (rK ?_ ?_)
 ·rcases yd S with rfl|⟨S',p,rfl⟩
  ·exact ⟨rfl,rfl⟩
  ·have hp:=h3 p (by simp)
   rw [yf] at*
   refine F9 (decide_eq_true (by (refine af az (af aU ?_));lia)) ?_
   refine cZ h1 (Ey (by rw [az] at h2;exact fB ‹_›)) ?_
   exact xh (decide_eq_false (by lia)) ⟨rfl,rfl⟩
 ·show wpE _ _ _ _ _ _ _ _
  refine jF (by rfl) (Gl h1) ⟨S.map stV,h1,by lia,aS _,by lia,rfl,fg ?_⟩
  rw [bf] at q
  refine af (show ((S.length:Int)).toNat=S.length by lia) (af (iu (gm hl)) (af (List.drop_of_length_le (gm hl)) ?_))
  exact q
theorem Mf:VC Eh 2 ps20 nm20 [] c20:=by
 intro us H Q X h
 refine KY (λ a Z k t h=>?_) h
 refine gJ h λ r1_ h1 q=>?_
 clear h
 subst r1_
 refine ⟨rfl,?_⟩
 rcases h1 with e|⟨x,y,e⟩
 ·refine bA true (by (show inV _ _ _ _;refine Co (by assumption) ?_;refine aj rfl ?_;exact rfl)) (λ Z=>?_) nofun
  exact y4 e (fg (q _ _))
 ·refine bA (decide (x<t)) ?_ (λ Z=>?_) λ Z=>?_
  ·refine Gc e (xt e rfl ?_)
   exact Ki (λ h=>⟨congrArg V.bool h.symm,rfl⟩) λ h=>⟨congrArg V.bool h.symm,rfl⟩
  ·exact Dl e (of_decide_eq_true rfl) (fg (q _ _))
  ·have:=q x y
   rw [kR e] at this
   exact fg this
theorem uo {S:List (Int×V)} (h:(S++P).Pairwise λ a b=>a.1<=b.1) (e:P[i]?=some p):∀q∈S++P.take i,q.1<=p.1:=by
 intro q hq
 have hsplit:P=P.take i++(p::P.drop (i+1)):=by
  have hi:=(aN.mp e).1
  have:=cC hi
  rw [an hi] at e;(have e:=ac e;subst e)
  exact af this.symm (af (dz _ _) rfl)
 rw [hsplit,<-eR] at h
 exact (dP.mp h).2.2 q hq p (.head _)
theorem ND:VC C3 3 ps22 nm22 [] c22:=by
 intro us H Q X h
 refine rM (λ r h=>?_) h
 refine cu h λ B z h_ hlen q=>?_
 clear h
 revert h_;intro h
 refine cu h.lists λ S P hp hs heff=>?_
 obtain ⟨n1,n2,n3,n4,n5,n6,n7,n8,n9,n10,n11⟩:=h.ne
 have npt:=h.npt
 have hr:=h.at_r
 refine ⟨rfl,?_⟩
 refine mh (.ref z.pend) (us:=P.map needV) (λ i K=>∀x H',dw H' z.known->H' z.stmts=some (.list ((S++(P.take i).map needSt).map stV))->(∀b,b≠z.known->b≠z.stmts->H' b=(H.del z.pend) b)->K [some (.ref r),x] H') (λ K k=>?_) (mf hp) (λ K k=>k none _ ?_ ?_ λ b Z Z=>rfl) ?_ ?_
 ·exact cE (by assumption) rfl k
 ·unfold dw;(refine af Hl (af (MH.del_ne _ n6) ?_));exact h.known
 ·refine af Hl (af (MH.del_ne _ npt.symm) ?_);simpa using hs
 ·intro i u N' e k x H1 hk1 hs1 ho1
  rw [aF] at e
  refine aL (aH.mp e) λ p hpi r1_=>?_
  subst r1_
  have hr1:H1 r=some (.inst (.cls 3) z.d z.attrs):=by
   refine af (ho1 r n5.symm n10) (af (MH.del_ne _ n9) ?_);exact hr
  have hord:∀q∈S++(P.take i).map needSt,q.1<=p.2:=by
   have h0:=h.ord
   rw [heff] at h0
   have:=uo (i:=i) (p:=needSt p) h0 (by (refine af (aF) (af hpi ?_));rfl)
   refine af jh ?_
   exact this
  refine bA false (by (refine aj rfl ?_;exact rfl)) nofun (λ Z=>?_)
  refine cE (by assumption) rfl ?_
  refine aj (of_decide_eq_true rfl) ?_
  refine aj (by assumption) ?_
  intro x y
  have hz:(S++(P.take i).map needSt).length<=10000:=by
   rw [heff] at hlen
   simp only [az,ag,bU] at hlen⊢
   lia
  refine aj rfl ?_
  refine cE ((MH.set_ne _ _ (fQ (by assumption))).trans (by assumption)) rfl ?_
  refine fY _ (aj ((MH.set_ne _ _ (fQ (by assumption))).trans (by assumption)) ?_)
  refine aj (by assumption) ?_
  refine aj (by assumption) ?_
  refine aj rfl ?_
  refine k _ _ λ K k=>k _ _ (.inr ⟨_,_,(MH.set_ne _ _ n7).trans (MH.set_self _ _ _)⟩) ((MH.set_self _ _ _).trans ?_) λ b b1 b2=>?_
  ·refine af dm (af hpi (af (bf (f:=needSt)) (af (iP (eR _ _ _)) ?_)));rfl
  ·refine af (MH.set_ne _ _ b2) (af (MH.set_ne _ _ b1) ?_);exact ho1 b b1 b2
 ·intro x H0 hk0 hs0 ho0 _
  rw [ag,c7,<-heff] at hs0
  refine af (ma hp) ?_
  have ho1:∀b,b≠z.known->b≠z.stmts->(H0.set z.pend (.list (P.map needV))) b=H b:=λ b b1 b2=>by
   by_cases b3:b=z.pend
   ·subst b3;(exact af (MH.set_self _ _ _) (af hp rfl))
   ·exact af (MH.set_ne _ _ b3) (af (ho0 b b1 b2) (af (MH.del_ne _ b3) rfl))
  have hk1:dw (H0.set z.pend (.list (P.map needV))) z.known:=by unfold dw;exact af (MH.set_ne _ _ n6) hk0
  have hs1:(H0.set z.pend (.list (P.map needV))) z.stmts=some (.list (z.eff.map stV)):=(MH.set_ne _ _ npt.symm).trans hs0
  generalize H0.set z.pend (.list (P.map needV))=H1 at*
  have hr1:H1 r=some (.inst (.cls 3) z.d z.attrs):=(ho1 r n5.symm n10).trans hr
  intro c hc
  have oc:∀{b o},H1 b=some o->b≠c:=λ e q=>by rw [q,hc] at e;exact bH e
  have cr:r≠c:=oc hr1
  have ck:z.known≠c:=hk1.elim oc λ ⟨_,_,e⟩=>oc e
  have ct:z.stmts≠c:=oc hs1
  have hd1:H1 z.dropped=some (.list []):=(ho1 _ n8.symm h.ndt).trans h.dropped
  have cd:z.dropped≠c:=oc hd1
  have hsl:d6 H1 z.slots z.sl z.n:=by
   unfold d6;exact af (ho1 _ h.nsk n3) h.slots
  have cs:z.slots≠c:=hsl.elim (λ e=>oc e.1) λ ⟨_,_,e,_⟩=>oc e
  refine km ((MH.set_ne _ _ cr).trans hr1) rfl rfl (fg ?_)
  have keep1:MH.Sub B H1:=λ a o e=>by
   have a1:a≠z.known:=cH e h.newk b7
   have a2:a≠z.stmts:=cH e h.newt b7
   refine af (ho1 a a1 a2) ?_;exact h.keep a o e
  have Bc:B c=none:=keep1.none hc
  have two:∀{b},b≠r->b≠c->∀{o1 o2},((H1.set c o1).set r o2) b=H1 b:=λ {b} h1 h2 {o1 o2}=>(MH.set_ne _ _ h1).trans (MH.set_ne _ _ h2)
  refine af C6 ?_
  refine q c _ ⟨a6 (a6 keep1 Bc) h.newr,h.newr,h.news,h.newk,Bc,h.newt,MH.set_self _ _ _,?_,?_,⟨z.eff,[],(MH.set_ne _ _ cr.symm).trans (MH.set_self _ _ _),(two n10.symm ct).trans hs1,by simp⟩,h.ord,h.top,(two n11.symm cd).trans hd1,h.nsk,ct.symm,cd,h.ndt⟩ ((MH.set_ne _ _ cr.symm).trans (MH.set_self _ _ _))
  ·show d6 _ z.slots z.sl z.n
   unfold d6;exact af (two n1 cs) hsl
  ·show dw _ z.known
   unfold dw;exact af (two n5 ck) hk1
theorem dY.flushed (h:dY B H r z) (e:H z.pend=some (.list [])):H z.stmts=some (.list (z.eff.map stV)):=by
 refine cu h.lists λ S P h1 h2 h3=>?_
 rw [e] at h1
 have:P=[]:=by
  have:P.map needV=[]:=by cases P<;>first|rfl|cases h1
  simpa using this
 subst this
 refine af h3 ?_;simpa using h2
theorem dY.push (h:dY B H r z) (e:H z.pend=some (.list [])):dY B (H.set z.stmts (.list ((z.eff++[(z.at_,st)]).map stV))) r {z with eff:=z.eff++[(z.at_,st)]}:=by
 obtain ⟨n1,n2,n3,n4,n5,n6,n7,n8,n9,n10,n11⟩:=h.ne
 refine ⟨a6 h.keep h.newt,h.newr,h.news,h.newk,h.newp,h.newt,?_,?_,?_,⟨z.eff++[(z.at_,st)],[],?_,MH.set_self _ _ _,by simp⟩,?_,?_,?_,h.nsk,h.npt,h.ndp,h.ndt⟩
 ·exact af (MH.set_ne _ _ n10) h.obj
 ·show d6 _ z.slots z.sl z.n
  unfold d6;exact af (MH.set_ne _ _ n3) h.slots
 ·show dw _ z.known
  unfold dw;exact af (MH.set_ne _ _ n7) h.known
 ·show MH.set _ _ _ z.pend=_
  exact af (MH.set_ne _ _ h.npt) e
 ·refine dP.mpr ⟨h.ord,by simp,λ a ha b hb=>?_⟩
  simp at hb;subst hb
  exact h.top a ha
 ·intro p hp
  rcases cv.mp hp with hp|hp
  ·exact h.top p hp
  ·simp at hp;subst hp;exact jm _
 ·show MH.set _ _ _ z.dropped=_
  exact af (MH.set_ne _ _ h.ndt) h.dropped
theorem Mr:VC BV 4 ps23 nm23 [] c23:=by
 intro us H Q X h
 refine G4 (λ r st h=>?_) h
 refine cu h λ B z h_ hlen q=>?_
 clear h
 revert h_;intro h
 refine ⟨rfl,?_⟩
 refine bR Kr ⟨B,z,h,hlen,λ c H' h' hc=>?_⟩
 have hr:=h'.at_r
 refine aj rfl ?_
 refine cE (by assumption) rfl ?_
 refine cE (by assumption) rfl ?_
 exact ⟨z.eff,h'.flushed hc,ao ‹_› (by decide),h'.top,rfl,fg (q c _ (h'.push hc))⟩
theorem MJ:VC Am 5 ps36 nm36 [] c36:=by
 intro us H Q X h
 refine G4 (λ r st h=>?_) h
 refine cu h λ B z h_ hlen q=>?_
 clear h
 revert h_;intro h
 refine ⟨rfl,?_⟩
 exact bR Jn ⟨B,z,h,hlen,λ c H' h'=>⟨rfl,fg (q c H' h')⟩⟩
theorem LW:VC EP 4 ps26 nm26 [] c26:=by
 intro us H Q X h
 refine Jy (λ r b o h=>?_) h
 refine jR h λ B z h_ hb ho q=>?_
 clear h
 revert h_;intro h
 have hr:=h.at_r
 refine ⟨rfl,?_⟩
 refine cE (by assumption) rfl ?_
 refine aj (by assumption) ?_
 refine aj (by assumption) ?_
 exact fg q
theorem Na:VC E8 2 ps33 nm33 [] c33:=by
 intro us H Q X h
 refine J9 (λ r tag rest op n h=>?_) h
 refine bw h λ ht q=>?_
 clear h
 refine ⟨rfl,bA false ?_ nofun λ Z=>fg q⟩
 skip
 exact xh (decide_eq_false (show ¬tag=aa "mask" from ht)) ⟨rfl,rfl⟩
theorem d6.sub {a sl n} (s:MH.Sub H H'):d6 H a sl n->d6 H' a sl n:=zg (And.imp_left (s _ _)) (cg λ f=>cg λ k=>And.imp_left (s _ _))
theorem dw.sub {a} (s:MH.Sub H H'):dw H a->dw H' a:=zg (s _ _) (cg λ x=>cg λ y=>s _ _)
theorem dY.sub {r z} (s:MH.Sub H H') (h:dY B H r z):dY B H' r z:=
 ⟨h.keep.trans s,h.newr,h.news,h.newk,h.newp,h.newt,s _ _ h.obj,h.slots.sub s,h.known.sub s,h.lists.imp λ S=>cg λ P=>nK (s _ _) (And.imp_left (s _ _)),h.ord,h.top,s _ _ h.dropped,h.nsk,h.npt,h.ndp,h.ndt⟩
theorem kh.sub {v x} (s:MH.Sub H H'):kh H v x->kh H' v x:=cg λ a=>cg λ d=>cg λ c=>bV (s _ _)
theorem eh.sub {st b8} (s:MH.Sub H H'):eh H st b8->eh H' st b8:=cg λ d=>cg λ tb=>nK (s _ _) (nK (zg (And.imp_left (s _ _)) (s _ _)) (And.imp_left λ c p hp=>(c p hp).sub s))
theorem gv.sub {st b8} (s:MH.Sub H H'):gv H st b8->gv H' st b8:=cg λ d=>cg λ it=>nK (s _ _) (nK (s _ _) (And.imp_left λ c p hp=>(c p hp).sub s))
theorem lH.sub {v ls} (s:MH.Sub H H'):lH H v ls->lH H' v ls:=cg λ b=>cg λ d=>cg λ as=>cg λ st=>cg λ b8=>bV (nK (s _ _) (bV (And.imp_left (zg (·.sub s) (·.sub s)))))
theorem cF.sub {a T} (s:MH.Sub H H'):cF H a T->cF H' a T:=zg (And.imp_left (s _ _)) (cg λ es=>nK (s _ _) (bV (bV λ g n ls q=>(g n ls q).imp λ v=>bV (·.sub s))))
theorem nP {α:Type} {f:α->Int} {x y:α} {r:List α}:ins f x (y::r)=if f x<f y then x::y::r else y::ins f x r:=rfl
theorem yQ {α β:Type} {f:β->Int} {g:α->β} {x:α}:∀{l:List α},(ins (λ a=>f (g a)) x l).map g=ins f (g x) (l.map g)
 |[]=>rfl
 |y::r=>by
  refine af bj (af nP (af nP ?_))
  by_cases h:f (g x)<f (g y)
  ·refine af (if_pos h) (af (if_pos h) ?_);rfl
  ·exact af (if_neg h) (af (if_neg h) (af bj (af yQ rfl)))
theorem tD {α β:Type} {f:β->Int} {g:α->β} (l:List α):(isort (λ a=>f (g a)) l).map g=isort f (l.map g):=by
 have go:∀(l acc:List α),(l.foldl (λ acc x=>ins (λ a=>f (g a)) x acc) acc).map g=(l.map g).foldl (λ acc x=>ins f x acc) (acc.map g):=by
  intro l
  induction l with
  |nil=>intro acc;rfl
  |cons x r ih=>intro acc;(refine af gK (af (ih _) (af yQ ?_)));rfl
 exact go l []
theorem uC {α:Type} {f:α->Int} {x y:α}:∀{l:List α},y∈ins f x l↔y=x\/y∈l
 |[]=>by simp [ins]
 |z::r=>by
  unfold ins
  split
  ·simp
  ·rw [aY,uC,aY]
   constructor
   ·rintro (h|h|h)<;>simp [h]
   ·rintro (h|h|h)<;>simp [h]
theorem jq {α:Type} {f:α->Int} {y:α} (l:List α):y∈isort f l↔y∈l:=by
 have go:∀(l acc:List α),y∈l.foldl (λ acc x=>ins f x acc) acc↔y∈acc\/y∈l:=by
  intro l
  induction l with
  |nil=>intro acc;simp
  |cons x r ih=>
   intro acc
   (refine af gK ?_;rw [ih,uC,aY])
   constructor
   ·rintro ((h|h)|h)<;>simp [h]
   ·rintro (h|h|h)<;>simp [h]
 unfold isort
 simpa using go l []
theorem yU {α:Type} {f:α->Int} {x:α}:∀{l:List α},(ins f x l).length=l.length+1
 |[]=>rfl
 |z::r=>by
  unfold ins
  split
  ·rfl
  ·exact af aP (af yU (af aP rfl))
theorem kK {α:Type} {f:α->Int} (l:List α):(isort f l).length=l.length:=by
 have go:∀(l acc:List α),(l.foldl (λ acc x=>ins f x acc) acc).length=acc.length+l.length:=by
  intro l
  induction l with
  |nil=>intro acc;rfl
  |cons x r ih=>intro acc;(refine af gK (af (ih _) (af yU (af aP ?_))));exact kn _ _ _
 unfold isort
 simpa using go l []
theorem Mz:VC Eb 4 ps28 nm28 [] c28:=by
 intro us H Q X h
 refine JC (λ r g Z h=>?_) h
 refine uf h λ B z ts h_ r1_ ht hl q=>?_
 clear h
 revert h_;intro h
 subst r1_
 refine ⟨rfl,?_⟩
 intro c hc
 refine mh (.tuple (ts.map λ Z=>.tuple [.int 4,.str "host"])) (us:=ts.map λ Z=>.tuple [.int 4,.str "host"])
  (λ i K=>∀j x y H',j=g+(i:Int)->H' c=some (.list ((ts.take i).map Slot.e))->MH.Sub H H'->K [some (.ref r),some (.int j),some (.tuple (ts.map λ Z=>.tuple [.int 4,.str "host"])),some (.ref c),x,y] H') (λ K k=>k) rfl (λ K k=>k g none none _ (by lia) (MH.set_self _ _ _) (bZ hc)) ?_ ?_
 ·intro i u N' e k j x y H1 hj hc1 s1
  rw [aF] at e
  refine aL (aH.mp e) λ t hti r1_=>?_
  subst r1_
  refine bw (ht i t hti) λ h1 h2=>?_
  have hz:((ts.take i).map Slot.e).length<=100000:=by (refine af (ag _) (af bU ?_));exact ao (dG _ _) (ao ‹_› (by decide))
  refine aj rfl ?_
  show wpE _ _ _ _ _ _ _ _
  refine jF (by rfl) (mP hc1) (bR EI ⟨B,z,h.sub s1,?_⟩)
  refine af hj (af h1 ?_)
  refine ⟨h2,?_⟩
  refine fY _ (aj (by assumption) ?_)
  refine aj (by assumption) (aj rfl (aj (of_decide_eq_true rfl) (aj (of_decide_eq_true rfl) (k _ _ λ K k=>k _ _ _ _ ?_ ?_ (a6 s1 hc)))))
  ·show g+(i:Int)+slotsOf 4=_
   unfold slotsOf;exact IC _ _ _
  ·refine af (MH.set_self _ _ _) (af dm (af hti (af bf ?_)));rfl
 ·intro j x y H1 hj hc1 s1 _
  rw [ag,c7] at hc1
  exact bR Nu ⟨ts.map Slot.e,hc1,by refine af (ag _) ?_;exact ao ‹_› (by decide),DU s1 q⟩
theorem j8:∀{es:List (aw×V)} {T:iX} {n:aw},es.map (·.1)=T.map (·.1)->(es.lookup n).isSome=(T.lookup n).isSome
 |[],[],_,_=>rfl
 |[],_::_,_,h=>by simp at h
 |_::_,[],_,h=>by simp at h
 |(a,b)::es,(c,d)::T,n,h=>by
  simp only [bj,List.cons.injEq] at h
  refine bw h λ r1_ h_=>?_
  clear h
  revert h_;intro h
  subst r1_
  refine af aG (af aG ?_)
  split
  ·rfl
  ·exact j8 h
theorem Em {T:iX} (h:cF H a T) (q:QB (T.lookup n).isSome):inV (.str n) (.ref a) H QB:=by
 rcases h with ⟨e,rfl⟩|⟨es,e,f,l,g⟩
 ·exact Co e q
 ·exact Gc e (by exact af (j8 f) q)
namespace FD
def S_ (H Q X r name st b8 c):=∀(z:RS) (hr:H r=some (bK.inst (Fn.cls 3) z.d z.attrs)) (es:List (aw×V)) (he:H z.sets=some (bK.sdict es)) (b:aI) (d:aI) (as:List (aw×V)) (hv:hV name es=some (V.ref b)) (hb:H b=some (bK.inst (Fn.cls 9) d as)) (hst:hV (aa "store") as=some (V.ref st)) (hS:yW H st b8) (q:Q (litsV (isort dX.first (a7 (λ x↦x.fst) b8))) H) (hc:H c=none),fe false (λ u H1↦assignT (Mine.T.loc 2) u (frame0 nm29 ([V.ref r,V.str name]++[])) H1 λ ρ1 H1↦wpSs tb0 3 [S.for_ (Mine.T.loc 3) (((((E.loc 0).attr (aa "sets")).sub (E.loc 1)).attr (aa "store")).meth (aa "elements") []) [S.expr ((E.loc 2).meth (aa "append") [E.tup [(E.loc 3).attr (aa "box"),(E.loc 3).attr (aa "data"),(E.loc 3).attr (aa "timeout"),(E.loc 3).attr (aa "comment")]])],S.ret ((E.fn (aa "tuple") (Fn.ty "tuple")).call [E.loc 2])] ρ1 H1 (λ x H'↦Fg Q V.none H') (Fg Q) (rB X)) (V.ref c) (H.set c (bK.list []))
def U_:=UV λ H Q X=>UV λ r name st=>UU λ b8=>S_ H Q X r name st b8
def t_:=dr (by infer_instance) U_
def H:=t_.1
def Q:=t_.2.1
def X:=t_.2.2.1
def r:=t_.2.2.2.1
def name:=t_.2.2.2.2.1
def st:=t_.2.2.2.2.2.1
def s1_:=t_.2.2.2.2.2.2
def b8:=s1_.1
def c:=s1_.2
theorem P_:S_ H Q X r name st b8 c:=by
 intro z hr es he b d as hv hb hst hS q hc
 have s1:=bZ (o:=.list []) hc
 obtain ⟨g,hm,hcall⟩:∃g,methOf tb0 (H.set c (.list [])) (.ref st) (aa "elements")=some g/\∀(K:V->MH->Prop) (X':aw->MH->Prop),(∀c2,(H.set c (.list [])) c2=none->K (.ref c2) ((H.set c (.list [])).set c2 (.list ((isort (λ p=>p.1.first) b8).map (·.2)))))->mL tb0 3 (.fn g) [.ref st] (H.set c (.list [])) K X':=by
  rcases hS with hS|hS
  ·have hS':=hS.sub s1
   exact fZ (id hS') λ d tb e1 Z=>⟨.user 49,qS e1 rfl rfl,λ K X' k=>bR Mb ⟨b8,hS',k⟩⟩
  ·have hS':=hS.sub s1
   exact fZ (id hS') λ d tb e1 Z=>⟨.user 59,qS e1 rfl rfl,λ K X' k=>bR M7 ⟨b8,hS',k⟩⟩
 have hE:kC H (isort (λ p=>p.1.first) b8):=by
  intro p hp
  rw [jq] at hp
  rcases hS with ⟨_,_,_,_,c,_⟩|⟨_,_,_,_,c,_⟩<;>exact c p hp
 have hlen:(isort (λ p:dX×V=>p.1.first) b8).length<=3:=by
  refine af (kK _) ?_
  rcases hS with ⟨_,_,_,_,_,_,_,c⟩|⟨_,_,_,_,_,c,_⟩<;>exact c
 have hls:isort dX.first (b8.map (·.1))=(isort (λ p:dX×V=>p.1.first) b8).map (·.1):=(tD (f:=dX.first) (g:=λ p:dX×V=>p.1) b8).symm
 rw [hls] at q
 have hlv:litsV ((isort (λ p:dX×V=>p.1.first) b8).map (·.1))=.tuple ((isort (λ p:dX×V=>p.1.first) b8).map λ p=>p.1.v):=by unfold litsV;refine af cD ?_;rfl
 rw [hlv] at q
 generalize isort (λ p:dX×V=>p.1.first) b8=els' at*
 have hr1:=s1 _ _ hr
 show wpE _ _ _ _ _ _ _ _
 refine cE (by assumption) rfl ?_
 refine xt (s1 _ _ he) hv ?_
 refine cE (s1 _ _ hb) hst ?_
 refine l4 hm ?_
 refine hcall _ _ λ c2 hc2=>?_
 have nc:c2≠c:=cH hc2 (MH.set_self _ _ _) bH
 have hc2':H c2=none:=by rw [MH.set_ne _ _ nc] at hc2;exact hc2
 refine qm (mf (MH.set_self _ _ _)) (xO (λ i K=>∀x H',H' c=some (.list ((els'.take i).map λ p=>p.1.v))->MH.Sub H H'->K [some (.ref r),some (.str name),some (.ref c),x] H') (λ K k=>k none _ ?_ ?_) ?_ ?_)
 ·refine af Hl (af (MH.del_ne _ nc.symm) (af (MH.set_ne _ _ nc.symm) (af (MH.set_self _ _ _) ?_)));rfl
 ·refine af Hl ?_
  exact λ x o e=>by
   have:x≠c2:=cH e hc2' b7
   refine af (MH.del_ne _ this) (af (MH.set_ne _ _ this) ?_);exact bZ hc _ _ e
 ·intro i u N' e k x H1 e1 s1
  rw [aF] at e
  refine aL (aH.mp e) λ p hpi r1_=>?_
  subst r1_
  refine iF (hE p (aZ hpi)) λ a d' cl t1_=>(bw t1_ λ ep ha=>?_)
  clear t1_
  have na:a≠c:=cH ha hc b7
  have hz:((els'.take i).map λ p=>p.1.v).length<=100000:=by (refine af (ag _) (af bU ?_));exact ao (dG _ _) (ao ‹_› (by decide))
  refine af ep ?_
  have ha2:=s1 _ _ ha
  show wpE _ _ _ _ _ _ _ _
  refine jF (by rfl) (mP e1) (cE (by assumption) rfl (cE (by assumption) rfl (cE (by assumption) rfl (cE (by assumption) rfl (fY _ (aj (by assumption) ?_))))))
  refine aj (by assumption) (aj rfl (k _ _ λ K k=>k _ _ ?_ (a6 s1 hc)))
  refine af (MH.set_self _ _ _) (af dm (af hpi (af bf ?_)));rfl
 ·intro x H1 e1 s1 hn
  rw [ag,c7] at e1
  refine af (ma (MH.set_self _ _ _)) ?_
  exact ⟨_,(MH.set_ne _ _ nc.symm).trans e1,by refine af (ag _) ?_;exact ao ‹_› (by decide),DU (a6 s1 hc2') q⟩
theorem A_:∀p,U_ p:=bB P_
end FD
theorem NC:VC B1 3 ps29 nm29 [] c29:=by
 intro us H Q X h
 refine KX (λ r name h=>?_) h
 refine iZ h λ B z T h_ hT q=>?_
 clear h
 revert h_;intro h
 have hT:=hT.sub h.keep
 have hr:=h.at_r
 refine ⟨rfl,bA (!(T.lookup name).isSome) ?_ (λ e=>?_) λ e=>?_⟩
 ·refine cE (by assumption) rfl ?_
  show inV _ _ _ _
  exact Em hT ⟨rfl,rfl⟩
 ·have e:T.lookup name=none:=by simpa using e
  rw [e] at q
  exact fg q
 ·obtain ⟨ls,e⟩:∃ls,T.lookup name=some ls:=by
   cases w:T.lookup name with
   |none=>rw [w] at e;cases e
   |some t=>exact ⟨t,rfl⟩
  rw [e] at q
  have q:Q (litsV ls) H:=q
  rcases hT with ⟨_,rfl⟩|⟨es,he,_,_,hg⟩
  ·cases e
  refine aL (hg name ls e) λ v hv t1_=>(iF t1_ λ b d as t2_=>(jR t2_ λ st b8 r3_ hb hst t4_=>(bw t4_ λ hS r5_=>?_)))
  clear t1_ t2_ t4_
  subst r3_
  subst r5_
  intro c hc
  exact FD.A_ (H,Q,X,r,name,st,b8,c) z hr es he b d as hv hb hst hS q hc
theorem NB:VC Ei 4 ps30 nm30 [] c30:=by
 intro us H Q X h
 refine JK (λ r name tag h=>?_) h
 refine iZ h λ B z T h hT q=>?_
 refine ⟨rfl,?_⟩
 unfold whereV at q
 cases e:T.lookup name with
 |none=>
  rw [e] at q
  refine bR Jw ⟨B,z,T,h,hT,?_⟩
  rw [e]
  exact fg q
 |some ls=>
  rw [e] at q
  refine bR Jw ⟨B,z,T,h,hT,?_⟩
  rw [e]
  exact fg q
theorem Nr:VC CJ 2 ps39 nm39 [] c39:=by
 intro us H Q X h
 refine KR (λ h=>?_) h
 exact ⟨rfl,λ c hc=>fg (h c hc)⟩
theorem wO (h:rawNum x=some a):∃b,x.tag="raw"/\x.rest=[.bytes b]/\a=numOf b:=by
 unfold rawNum at h
 split at h
 ·rename_i e
  set_option tactic.hygienic true in split at h
  ·rename_i b e2
   (have h:=ac h;subst h)
   exact ⟨b,e,e2,rfl⟩
  ·exact bH h
 ·exact bH h
theorem vW (h:rawNum x=none) (ok:i7 x):x.tag≠"raw":=by
 intro e
 refine aL (ok.2 e) λ b hb Z=>?_
 unfold rawNum at h
 rw [if_pos e,hb] at h
 exact b7 h
namespace FN
def S_ (H Q X r lo hi z):=∀(B:MH) (h:dY B H r z) (hok:∀(g:Int) (t:Slot),g=lo\/g=hi->z.sl g=some t->i7 t) (hraw:∀(a b:Slot),z.sl lo=some a->a.tag=aa "raw"->z.sl hi=some b->b.tag=aa "raw") (q:match pairOf z.sl lo hi with|some p=>Q (pairV p) H|none=>X whyEmpty H),wpSs tb0 4 c37 (frame0 nm37 ([V.ref r,V.int lo,V.int hi]++[])) H (λ x H'↦Fg Q V.none H') (Fg Q) (rB X)
def U_:=UV λ H Q X=>UV λ r lo hi=>S_ H Q X r lo hi
def t_:=dr (by have:=Ii;infer_instance) U_
def H:=t_.1
def Q:=t_.2.1
def X:=t_.2.2.1
def r:=t_.2.2.2.1
def lo:=t_.2.2.2.2.1
def hi:=t_.2.2.2.2.2.1
def s1_:=t_.2.2.2.2.2.2
def z:=s1_
theorem P_:S_ H Q X r lo hi z:=by
 intro B h hok hraw q
 unfold pairOf at q
 by_cases hlo:lo<0
 ·rw [if_pos hlo] at q
  exact Do (decide_eq_true hlo) (fg q)
 ·rw [if_neg hlo] at q
  refine tZ (decide_eq_false hlo) (bR EI ⟨B,z,h,?_⟩)
  cases e:z.sl lo with
  |none=>
   rw [e] at q
   exact K7 q
  |some t=>
   rw [e] at q
   have okt:=hok lo t (.inl rfl) e
   dsimp only at q
   refine ⟨okt.1,?_⟩
   cases er:rawNum t with
   |none=>
    rw [er] at q
    have hne:=vW er okt
    skip
    refine Do (show (!decide (t.tag=aa "raw"))=true by refine af (decide_eq_false hne) ?_;rfl) ?_
    exact fg q
   |some a=>
    rw [er] at q
    refine cI (wO er) λ b ht hr r1_=>?_
    subst r1_
    refine aL (okt.2 ht) λ b' hb' hB=>?_
    rw [hr] at hb';cases hb'
    obtain ⟨tg,rs,od,sz⟩:=t
    cases hr
    skip
    refine tZ (show (!decide (tg=aa "raw"))=false by refine af (decide_eq_true ht) ?_;rfl) ?_
    show wpSs _ _ _ _ _ _ _ _
    refine bR EI ⟨B,z,h,?_⟩
    refine af e ?_
    refine ⟨okt.1,?_⟩
    refine aj (by assumption) ⟨B,z,h,?_⟩
    cases e2:z.sl hi with
    |none=>
     rw [e2] at q
     exact K7 q
    |some y=>
     rw [e2] at q
     have oky:=hok hi y (.inr rfl) e2
     have hy:=hraw _ y e ht e2
     refine aL (oky.2 hy) λ b2 hb2 hB2=>?_
     have er2:rawNum y=some (numOf b2):=by unfold rawNum;(exact af (if_pos hy) (af hb2 rfl))
     dsimp only at q
     rw [er2] at q
     refine ⟨oky.1,?_⟩
     obtain ⟨tg2,rs2,od2,sz2⟩:=y
     cases hb2
     exact aj (by assumption) (fg q)
theorem A_:∀p,U_ p:=bB P_
end FN
theorem NF:VC Dp 4 ps37 nm37 [] c37:=by
 intro us H Q X h
 refine KS (λ r lo hi h=>?_) h
 refine jR h λ B z h hok hraw q=>?_
 refine ⟨rfl,?_⟩
 exact FN.A_ (H,Q,X,r,lo,hi,z) B h hok hraw q
namespace Fs
def S_ (H Q X r tag b B z o size):=∀(op:aw) (g:Int) (nm:aw) (h:dY B H r z) (hlen:z.eff.length<=1000) (hb:il b) (hsl:z.sl g=some (Slot.mk (aa "field") [V.str nm] o size)) (hnm:nm=aa "meta mark"\/nm=aa "meta l4proto"/\op=aa "=="/\g=0) (ho:(if o=aa "host" then z.order else o)=aa "big"\/(if o=aa "host" then z.order else o)=aa "little") (q:∀(c:aI) (H':MH),dY B H' r (RS.mk z.d z.fields z.family z.sets z.order z.cells z.at_ z.slots z.known c z.dropped z.stmts z.sl z.n (z.eff++[(z.at_,matchV (fieldV nm) op (numIn b (if o=aa "host" then z.order else o)))]))->Q V.none H'),wpSs tb0 5 c34 (frame0 nm34 ([V.ref r,V.tuple [V.str tag,V.str op,V.int g,V.bytes b]]++[])) H (λ x H'↦Fg Q V.none H') (Fg Q) (rB X)
def U_:=UV λ H Q X=>UV λ r tag b=>UV λ B z o=>S_ H Q X r tag b B z o
def t_:=dr (by have:=Ii;infer_instance) U_
def H:=t_.1
def Q:=t_.2.1
def X:=t_.2.2.1
def r:=t_.2.2.2.1
def tag:=t_.2.2.2.2.1
def b:=t_.2.2.2.2.2.1
def s1_:=t_.2.2.2.2.2.2
def B:=s1_.1
def z:=s1_.2.1
def o:=s1_.2.2.1
def size:=s1_.2.2.2
theorem P_:S_ H Q X r tag b B z o size:=by
 intro op g nm h hlen hb hsl hnm ho q
 skip
 refine ⟨B,z,h,?_⟩
 refine af hsl ?_
 refine ⟨show aa "field"≠aa "half" by decide,aj rfl ?_⟩
 refine bM (u:=.int (numIn b (if o="host" then z.order else o))) ?_ ?_
 ·skip
  exact ⟨B,z,h,hb,ho,rfl,rfl⟩
 refine bA (decide (nm="meta l4proto"/\op="==")) ?_ (λ e=>?_) (λ e=>?_)
 ·skip
  refine rQ (λ e1=>?_) λ e1=>⟨congrArg V.bool (decide_eq_false λ z=>of_decide_eq_false e1 z.2).symm,rfl⟩
  have e1:op="==":=of_decide_eq_true e1
  skip
  rcases hnm with rfl|⟨rfl,_,_⟩
  ·exact ⟨[("meta nfproto":aw),"meta l4proto","meta protocol","ether type"],rfl,congrArg V.bool (decide_eq_false λ z=>absurd z.1 (by decide)).symm,rfl⟩
  ·exact ⟨[("meta nfproto":aw),"meta l4proto","meta protocol","ether type"],rfl,congrArg V.bool (decide_eq_true ⟨rfl,e1⟩).symm,rfl⟩
 ·refine bw (of_decide_eq_true e) λ r1_ r2_=>?_
  subst r1_
  subst r2_
  have hg:g=0:=by
   rcases hnm with h|⟨_,_,h⟩
   ·exact absurd h (by decide)
   ·exact h
  subst hg
  refine cu h.lists λ S P hp hs heff=>?_
  obtain ⟨n1,n2,n3,n4,n5,n6,n7,n8,n9,n10,n11⟩:=h.ne
  have hr:=h.at_r
  have hz:(P.map needV).length<=100000:=by rw [heff] at hlen;simp only [az,ag] at hlen⊢;lia
  show wpE _ _ _ _ _ _ _ _
  refine cE (by assumption) rfl (l4 (mP hp) (cE (by assumption) rfl (fY _ (aj (by assumption) ?_))))
  refine aj (by assumption) (aj rfl (fg (q z.pend _ ?_)))
  refine ⟨a6 h.keep h.newp,h.newr,h.news,h.newk,h.newp,h.newt,(MH.set_ne _ _ n9).trans h.obj,?_,?_,⟨S,P++[(numIn b (if o="host" then z.order else o),z.at_)],(MH.set_self _ _ _).trans ?_,(MH.set_ne _ _ h.npt.symm).trans hs,?_⟩,?_,?_,(MH.set_ne _ _ h.ndp).trans h.dropped,h.nsk,h.npt,h.ndp,h.ndt⟩
  ·show d6 _ z.slots z.sl z.n
   unfold d6;exact af (MH.set_ne _ _ n2) h.slots
  ·show dw _ z.known
   unfold dw;exact af (MH.set_ne _ _ n6) h.known
  ·refine af bf ?_;rfl
  ·show z.eff++_=_
   refine af heff (af bf (af (eR _ _ _) ?_));rfl
  ·refine dP.mpr ⟨h.ord,by simp,λ a ha b hb=>?_⟩
   cases aK.mp hb
   exact h.top a ha
  ·intro p hp
   rcases cv.mp hp with hp|hp
   ·exact h.top p hp
   ·cases aK.mp hp;exact jm _
 ·show wpE _ _ _ _ _ _ _ _
  exact aj (of_decide_eq_true rfl) ⟨B,z,h,hlen,λ c H' h'=>⟨rfl,fg (q c H' h')⟩⟩
theorem A_:∀p,U_ p:=bB P_
end Fs
theorem MG:VC Ao 5 ps34 nm34 [] c34:=by
 intro us H Q X h
 refine KN (λ r tag op g b h=>?_) h
 refine iF h λ B z o t1_=>(jR t1_ λ size nm h hlen hb t2_=>(nX t2_ λ hsl hnm ho q=>?_))
 refine ⟨rfl,?_⟩
 exact Fs.A_ (H,Q,X,r,tag,b,B,z,o,size) op g nm h hlen hb hsl hnm ho q
namespace Fw
def S_ (H Q X r tag g name ve B z T ts l2):=∀(h:dY B H r z) (hT:cF B z.sets T) (hts:∀(i:Nat) (t:Slot),ts[i]?=some t->z.sl (g+↑i)=some t/\t.tag≠aa "half") (hl:ts.length<=10) (hl2:l2.length<=10) (hsz:∀(p:Int×aw),p∈l2->0<=p.fst/\p.fst<=1000) (hn:z.n<=10000) (q:∀(H':MH),dY B H' r (RS.mk z.d z.fields z.family z.sets z.order z.cells z.at_ z.slots z.known z.pend z.dropped z.stmts (mapPut (Slot.mk (aa "map") [joinV (a7 Slot.e ts),whereV T name (aa "map")] (aa "") 0) z.sl ve l2) (z.n+l2.length) z.eff)->Q V.none H'),wpSs tb0 5 c35 (frame0 nm35 ([V.ref r,V.tuple [V.str tag,V.int g,V.tuple (a7 (λ x↦V.tuple [V.int 4,V.str (aa "host")]) ts),V.str name,V.int ve,layV l2]]++[])) H (λ x H'↦Fg Q V.none H') (Fg Q) (rB X)
def U_:=UV λ H Q X=>UV λ r tag g=>UV λ name ve B=>UV λ z T ts=>S_ H Q X r tag g name ve B z T ts
def t_:=dr (by have:=Ii;infer_instance) U_
def H:=t_.1
def Q:=t_.2.1
def X:=t_.2.2.1
def r:=t_.2.2.2.1
def tag:=t_.2.2.2.2.1
def g:=t_.2.2.2.2.2.1
def s1_:=t_.2.2.2.2.2.2
def name:=s1_.1
def ve:=s1_.2.1
def B:=s1_.2.2.1
def z:=s1_.2.2.2.1
def T:=s1_.2.2.2.2.1
def ts:=s1_.2.2.2.2.2.1
def s2_:=s1_.2.2.2.2.2.2
def l2:=s2_
theorem P_:S_ H Q X r tag g name ve B z T ts l2:=by
 intro h hT hts hl hl2 hsz hn q
 refine bM (u:=.tuple [.str "map",joinV (ts.map Slot.e),whereV T name "map"]) ?_ ?_
 ·skip
  refine ⟨B,z,ts,h,rfl,hts,hl,?_⟩
  skip
  exact ⟨B,z,T,h,hT,rfl,rfl⟩
 refine bM (u:=.int ve) (by (refine aj rfl ?_;exact rfl)) ?_
 generalize V.tuple (ts.map λ Z=>.tuple [.int 4,.str "host"])=rowts at*
 refine mh (layV l2) (us:=l2.map λ p=>.tuple [.int p.1,.str p.2]) (λ i K=>∀sl d w x y H',dY B H' r {z with sl:=sl,n:=z.n+i}->mapPut ⟨"map",[joinV (ts.map Slot.e),whereV T name "map"],"",0⟩ sl d (l2.drop i)=mapPut ⟨"map",[joinV (ts.map Slot.e),whereV T name "map"],"",0⟩ z.sl ve l2->
  K [some (.ref r),w,some (.tuple [.str "map",joinV (ts.map Slot.e),whereV T name "map"]),some (.int d),x,y] H') (λ K k=>k) rfl (λ K k=>k z.sl ve _ none none _ h rfl) ?_ ?_
 ·intro i u N' e k sl d w x y H1 h1 hm
  rw [aF] at e
  refine aL (aH.mp e) λ p hpi r1_=>?_
  subst r1_
  refine bw (hsz p (aZ hpi)) λ hp0 hp1=>?_
  have hi:=(aN.mp hpi).1
  have hdrop:l2.drop i=p::l2.drop (i+1):=by
   have:=cC hi
   rw [an hi] at hpi;(have hpi:=ac hpi;subst hpi);exact this
  rw [hdrop] at hm
  have hr:=h1.at_r
  exact aj rfl (cE (by assumption) rfl (oW (z:={z with sl:=sl,n:=z.n+i}) (x:=⟨"map",[joinV (ts.map Slot.e),whereV T name "map"],p.2,p.1⟩) h1 rfl (by show z.n+i<=100000;lia) λ H2 h2=>(bR Nz ⟨hp0,hp1,k _ _ λ K k=>k _ _ _ _ _ _ h2 hm⟩)))
 ·intro sl d w x y H4 h1 hm _
  rw [ag] at h1 hm
  rw [i5] at hm
  refine fg (q _ ?_)
  refine af hm.symm ?_
  exact h1
theorem A_:∀p,U_ p:=bB P_
end Fw
theorem L5:VC AM 5 ps35 nm35 [] c35:=by
 intro us H Q X h
 refine Kh (λ r tag g Z name ve Z h=>?_) h
 refine iF h λ B z T t1_=>(jR t1_ λ ts l2 h_ hT r2_ t3_=>(C5 t3_ λ hts hl r4_ hl2 hsz hn q=>?_))
 clear h t1_ t3_
 revert h_;intro h
 subst r2_
 subst r4_
 refine ⟨rfl,?_⟩
 exact Fw.A_ (H,Q,X,r,tag,g,name,ve,B,z,T,ts,l2) h hT hts hl hl2 hsz hn q
theorem rr:∀(ts:List aw),(ts.map V.str).filter (λ u=>match u with
  |.str s=>decide (s≠("netmap":aw))
  |_=>false)=(ts.filter (·≠("netmap":aw))).map V.str
 |[]=>rfl
 |s::ts=>by
  have ih:=rr ts
  refine af bj (af lJ (af lJ ?_))
  by_cases h:s≠("netmap":aw)
  ·simp only [decide_eq_true h,if_true,bj,ih]
  ·simp only [decide_eq_false h,ch,if_false,ih]
namespace FK
def S_ (H Q X r tag kind nf r3 r4 size r6 r7 B z ts):=∀(h:dY B H r z) (hlen:z.eff.length<=1000) (hts:ts.length<=100) (hok:∀(g:Int) (t:Slot),g=r3\/g=r4\/g=r6\/g=r7->z.sl g=some t->i7 t) (hraw:∀(a b:Slot),z.sl r3=some a->a.tag=aa "raw"->z.sl r4=some b->b.tag=aa "raw") (hraw2:∀(a b:Slot),z.sl r6=some a->a.tag=aa "raw"->z.sl r7=some b->b.tag=aa "raw") (q:natAddr z.sl r3 r4 size (decide ((List.filter (λ x↦decide (x≠aa "netmap")) ts).length<ts.length)) λ v↦match v with|none=>X whyEmpty H|some v=>match pairOf z.sl r6 r7 with|none=>X whyEmpty H|some p=>∀(c:aI) (H':MH),dY B H' r (RS.mk z.d z.fields z.family z.sets z.order z.cells z.at_ z.slots z.known c z.dropped z.stmts z.sl z.n (z.eff++[(z.at_,V.tuple [V.str (aa "nat"),kind,nf,v,pairV p,V.tuple (a7 V.str (List.filter (λ x↦decide (x≠aa "netmap")) ts))])]))->Q V.none H'),wpSs tb0 5 c38 (frame0 nm38 ([V.ref r,V.tuple [V.str tag,kind,nf,V.int r3,V.int r4,V.int size,V.int r6,V.int r7,V.tuple (a7 V.str ts)]]++[])) H (λ x H'↦Fg Q V.none H') (Fg Q) (rB X)
def U_:=UV λ H Q X=>UV λ r tag kind=>UV λ nf r3 r4=>UV λ size r6 r7=>UU λ B=>UU λ z=>S_ H Q X r tag kind nf r3 r4 size r6 r7 B z
def t_:=dr (by have:=Ii;infer_instance) U_
def H:=t_.1
def Q:=t_.2.1
def X:=t_.2.2.1
def r:=t_.2.2.2.1
def tag:=t_.2.2.2.2.1
def kind:=t_.2.2.2.2.2.1
def s1_:=t_.2.2.2.2.2.2
def nf:=s1_.1
def r3:=s1_.2.1
def r4:=s1_.2.2.1
def size:=s1_.2.2.2.1
def r6:=s1_.2.2.2.2.1
def r7:=s1_.2.2.2.2.2.1
def s2_:=s1_.2.2.2.2.2.2
def B:=s2_.1
def z:=s2_.2.1
def ts:=s2_.2.2
theorem P_:S_ H Q X r tag kind nf r3 r4 size r6 r7 B z ts:=by
 intro h hlen hts hok hraw hraw2 q
 generalize hfl:ts.filter (·≠("netmap":aw))=fl at q
 have hfll:fl.length<=100:=by refine af hfl.symm ?_;exact ao (List.length_filter_le _ _) hts
 have tl:(ts.map V.str).length=ts.length:=ag ..
 have tl2:(ts.map V.str).length<=1000000:=by lia
 refine dO (λ K=>∀c H',MH.Sub H H'->H' c=some (.list (fl.map .str))->K (.ref c) H') (λ K kk=>?_) ?_
 ·refine aj (by assumption) ?_
  refine iG (λ u=>u) (λ u=>match u with
   |.str s=>decide (s≠("netmap":aw))
   |_=>false) (λ u hu R hR=>?_) (λ u hu Z R hR=>hR) λ c hc=>kk c _ (bZ hc) ?_
  ·refine aL (bC.mp hu) λ s Z r1_=>?_
   subst r1_
   show R (!decide (s=aa "netmap")) _
   refine af (show (!decide (s=aa "netmap"))=decide (s≠("netmap":aw)) by by_cases e:s=aa "netmap"<;>simp [e]) ?_
   exact hR
  ·refine af (dx _) (af (rr _) (af hfl (af (ID _) ?_)))
   exact MH.set_self _ _ _
 intro c H1 s1 hc1
 have h1:dY B H1 r z:=h.sub s1
 have fl2:(fl.map V.str).length=fl.length:=ag ..
 refine bM (u:=.none) ⟨rfl,rfl⟩ ?_
 obtain ⟨OUT,hOUT⟩:∃OUT:Option V->Prop,OUT=λ v:Option V=>match v with
   |none=>X whyEmpty H
   |some v=>match pairOf z.sl r6 r7 with
    |none=>X whyEmpty H
    |some p=>∀c H',dY B H' r {z with pend:=c,eff:=z.eff++[(z.at_,V.tuple [.str "nat",kind,nf,v,pairV p,.tuple (fl.map .str)])]}->Q .none H':=⟨_,rfl⟩
 have q:natAddr z.sl r3 r4 size (decide (fl.length<ts.length)) OUT:=by exact af hOUT q
 refine eC (λ ρ K=>∀a v4,OUT (some a)->K [some (.ref r),some (.tuple [.str tag,kind,nf,.int r3,.int r4,.int size,.int r6,.int r7,.tuple (ts.map .str)]),some (.ref c),some a,v4] H1) (λ K kk=>?_) ?_
 ·unfold natAddr at q
  show wpSs tb0 5 [_] _ _ _ _ _
  by_cases h3:r3<0
  ·rw [if_pos h3] at q
   refine bA false ?_ nofun (λ Z=>kk _ _ q)
   exact ⟨congrArg V.bool (decide_eq_false (by lia)),rfl⟩
  ·rw [if_neg h3] at q
   refine bA true ?_ (λ Z=>?_) nofun
   ·exact ⟨congrArg V.bool (decide_eq_true (dI.mp ‹_›)),rfl⟩
   have hok3:∀g t,(g=r3\/g=r4)->z.sl g=some t->i7 t:=λ g t hg=>hok g t (hg.elim .inl λ h=>.inr (.inl h))
   cases hp:pairOf z.sl r3 r4 with
   |none=>
    rw [hp] at q
    have q:X whyEmpty H:=by rw [hOUT] at q;exact q
    refine bR GW ⟨B,z,h1,hok3,hraw,?_⟩
    refine af hp ?_
    exact ⟨H,s1,q⟩
   |some p=>
    rw [hp] at q
    refine bM (u:=pairV p) ?_ ?_
    ·refine bR GW ⟨B,z,h1,hok3,hraw,?_⟩
     refine af hp ?_
     exact ⟨rfl,rfl⟩
    cases p with
    |none=>
     dsimp only at q
     cases et:z.sl r3 with
     |none=>rw [et] at q;exact q.elim
     |some t=>
      rw [et] at q
      refine bA true ⟨rfl,rfl⟩ (λ Z=>?_) nofun
      refine bR EI ⟨B,z,h1,?_⟩
      refine af et ?_
      exact ⟨(hok r3 t (.inl rfl) et).1,kk t.e (some .none) q⟩
    |some p=>
     refine bA false ⟨rfl,rfl⟩ nofun (λ Z=>?_)
     refine bA (decide (fl.length<ts.length)) ?_ (λ e=>?_) (λ e=>?_)
     ·exact kQ (by assumption) (by lia) (aj (by assumption) (aj (by simp) rfl))
     ·dsimp only at q
      rw [if_pos e] at q
      refine fy q λ j j1 j2 j3 t1_=>(wG t1_ λ j4 j5 j6 j7 q_=>?_)
      clear q t1_
      revert q_;intro q
      exact aj (d9 (by decide)) (bR NS ⟨j,j1,j2,j3,j4,by lia,by lia,j7,kk _ _ q⟩)
     ·dsimp only at q
      rw [if_neg (by simpa using e)] at q
      exact kk _ _ q
 ·intro a v4 q
  rw [hOUT] at q
  dsimp only at q
  refine bR GW ⟨B,z,h1,λ g t hg=>hok g t (hg.elim (λ h=>.inr (.inr (.inl h))) λ h=>.inr (.inr (.inr h))),hraw2,?_⟩
  cases hp:pairOf z.sl r6 r7 with
  |none=>
   rw [hp] at q
   exact ⟨H,s1,q⟩
  |some p=>
   rw [hp] at q
   refine ⟨fl.map .str,hc1,by lia,?_⟩
   exact bR Jn ⟨B,z,h1,hlen,λ c2 H' h'=>⟨rfl,fg (q c2 H' h')⟩⟩
theorem A_:∀p,U_ p:=bB P_
end FK
theorem Nh:VC zK 5 ps38 nm38 [] c38:=by
 intro us H Q X h
 refine K0 (λ r tag kind nf r3 r4 size r6 r7 Z h=>?_) h
 refine uf h λ B z ts h_ hlen r1_ hts t2_=>(nX t2_ λ hok hraw hraw2 q=>?_)
 clear h t2_
 revert h_;intro h
 subst r1_
 refine ⟨rfl,?_⟩
 exact FK.A_ (H,Q,X,r,tag,kind,nf,r3,r4,size,r6,r7,B,z,ts) h hlen hts hok hraw hraw2 q
theorem set_comm {H:MH} (h:a≠b):(H.set a x).set b y=(H.set b y).set a x:=by
 funext c;unfold MH.set
 by_cases h1:c=a
 ·subst h1;simp [h]
 ·simp [h1]
section
variable {H:MH}
theorem eV (u:V) (he:wpE tb0 lv false e ρ (H.set a (.inst c d as)) (λ v H'=>v=u/\H'=H.set a (.inst c d as)) X) (h0:ρ.at 0=some (.ref a)) (hf:fld0 c n=true) (hl:ml as.length 100=true)
  (k:wpSs tb0 lv r ρ (H.set a (.inst c d (alSet as n u))) N R X):wpSs tb0 lv (.setattr (.loc 0) n e::r) ρ (H.set a (.inst c d as)) N R X:=by
 refine bh lW lv e (Q:=λ v H'=>v=u/\H'=H.set a (.inst c d as)) ?_ (λ Z Z z=>z) he
 rintro _ _ ⟨rfl,rfl⟩
 show (match ρ.at 0 with
  |some u=>fe false _ u _
  |none=>False)
 refine af h0 ?_
 exact km (MH.set_self _ _ _) hf hl (by exact af set_set k)
theorem li (o:bK) (he:e=.edct/\o=.edict\/e=.lst []/\o=.list []) (h0:ρ.at 0=some (.ref a)) (hf:fld0 c n=true) (hl:ml as.length 100=true)
  (k:∀c',c'≠a->H c'=none->wpSs tb0 lv r ρ ((H.set c' o).set a (.inst c d (alSet as n (.ref c')))) N R X):wpSs tb0 lv (.setattr (.loc 0) n e::r) ρ (H.set a (.inst c d as)) N R X:=by
 have key:∀c',(H.set a (.inst c d as)) c'=none->(match ρ.at 0 with
   |some u=>fe false (λ u H2=>setattrV tb0.fld u n (.ref c') H2 (λ H3=>wpSs tb0 lv r ρ H3 N R X)) u ((H.set a (.inst c d as)).set c' o)
   |none=>False):=λ c' hc=>by
  have ne:c'≠a:=cH hc (MH.set_self _ _ _) bH
  rw [MH.set_ne _ _ ne] at hc
  refine af h0 ?_
  exact km ((MH.set_ne _ _ ne.symm).trans (MH.set_self _ _ _)) hf hl (by (refine af (set_comm ne.symm) (af set_set ?_));exact k c' ne hc)
 rcases he with ⟨rfl,rfl⟩|⟨rfl,rfl⟩
 ·exact λ c' hc=>key c' hc
 ·exact λ c' hc=>key c' hc
end
namespace F0
def S_ (H:MH) (Q:V->MH->Prop) (X:aw->MH->Prop) (r fields:aI) (family:aw) (sets:aI) (d c1 c2 c3 c4 c5 c6):=∀(q:∀(z:RS) (H':MH),dY (H.del r) H' r z->z.at_=0->z.order=aa "little"->z.sets=sets->(∀(i:Int),z.sl i=none)->z.n=0->z.eff=[]->H.del r z.dropped=none->Q V.none H') (hB:∀(b:aI) (o:bK),H.del r b=some o->H b=some o) (f1:H c1=none) (n2:c2≠r) (f2:H.set c1 bK.edict c2=none) (n3:c3≠r) (f3:(H.set c1 bK.edict).set c2 bK.edict c3=none) (n4:c4≠r) (f4:((H.set c1 bK.edict).set c2 bK.edict).set c3 bK.edict c4=none) (n5:c5≠r) (f5:(((H.set c1 bK.edict).set c2 bK.edict).set c3 bK.edict).set c4 (bK.list []) c5=none) (n6:c6≠r) (f6:((((H.set c1 bK.edict).set c2 bK.edict).set c3 bK.edict).set c4 (bK.list [])).set c5 (bK.list []) c6=none),wpSs tb0 2 [] (frame0 nm18 ([V.ref r,V.ref fields,V.str family,V.ref sets]++[])) (((((((H.set c1 bK.edict).set c2 bK.edict).set c3 bK.edict).set c4 (bK.list [])).set c5 (bK.list [])).set c6 (bK.list [])).set r (bK.inst (Fn.cls 3) d (alSet (alSet (alSet (alSet (alSet (alSet (alSet (alSet (alSet (alSet (alSet [] (aa "fields") (V.ref fields)) (aa "family") (V.str family)) (aa "sets") (V.ref sets)) (aa "order") (V.str (aa "little"))) (aa "cells") (V.ref c1)) (aa "at") (V.int 0)) (aa "slots") (V.ref c2)) (aa "known") (V.ref c3)) (aa "pending") (V.ref c4)) (aa "dropped") (V.ref c5)) (aa "statements") (V.ref c6)))) (λ x H'↦Fg Q V.none H') (Fg Q) (rB X)
def U_:=UV λ H Q X=>UV λ r fields family=>UV λ sets d c1=>UV λ c2 c3 c4=>UU λ c5=>S_ H Q X r fields family sets d c1 c2 c3 c4 c5
def t_:=dr (by infer_instance) U_
def H:=t_.1
def Q:=t_.2.1
def X:=t_.2.2.1
def r:=t_.2.2.2.1
def fields:=t_.2.2.2.2.1
def family:=t_.2.2.2.2.2.1
def s1_:=t_.2.2.2.2.2.2
def sets:=s1_.1
def d:=s1_.2.1
def c1:=s1_.2.2.1
def c2:=s1_.2.2.2.1
def c3:=s1_.2.2.2.2.1
def c4:=s1_.2.2.2.2.2.1
def s2_:=s1_.2.2.2.2.2.2
def c5:=s2_.1
def c6:=s2_.2
theorem P_:S_ H Q X r fields family sets d c1 c2 c3 c4 c5 c6:=by
 intro q hB f1 n2 f2 n3 f3 n4 f4 n5 f5 n6 f6
 have k1:MH.Sub (H.del r) H:=hB
 have b1:=k1.none f1
 have k2:=a6 (o:=.edict) k1 b1
 have b2:=k2.none f2
 have k3:=a6 (o:=.edict) k2 b2
 have b3:=k3.none f3
 have k4:=a6 (o:=.edict) k3 b3
 have b4:=k4.none f4
 have k5:=a6 (o:=.list []) k4 b4
 have b5:=k5.none f5
 have k6:=a6 (o:=.list []) k5 b5
 have b6:=k6.none f6
 have k7:=a6 (o:=.list []) k6 b6
 have new:∀{G:MH} {a b:aI} {o:bK},(G.set a o) b=none->b≠a/\G b=none:=λ {G a b o} f=>by
  have:b≠a:=cH f (MH.set_self _ _ _) bH
  exact ⟨this,by rw [MH.set_ne _ _ this] at f;exact f⟩
 refine bw (new f2) λ n21 f2=>(bw (new f3) λ n32 f3=>(bw (new f3) λ n31 f3=>(bw (new f4) λ n43 f4=>(bw (new f4) λ n42 f4=>(bw (new f4) λ n41 f4=>(bw (new f5) λ n54 f5=>(bw (new f5) λ n53 f5=>(bw (new f5) λ n52 f5=>(bw (new f5) λ n51 f5=>(bw (new f6) λ n65 f6=>(bw (new f6) λ n64 f6=>(bw (new f6) λ n63 f6=>(bw (new f6) λ n62 f6=>(bw (new f6) λ n61 f6=>(fg (q ⟨d,fields,family,sets,"little",c1,0,c2,c3,c4,c5,c6,λ Z=>none,0,[]⟩ _ ?_ rfl rfl rfl (λ Z=>rfl) rfl rfl b5))))))))))))))))
 refine ⟨a6 k7 (MH.del_self _ _),MH.del_self _ _,b2,b3,b4,b6,MH.set_self _ _ _,.inl ⟨?_,λ Z=>rfl⟩,.inl ?_,⟨[],[],?_,?_,rfl⟩,.nil,(λ Z h=>by cases h),?_,n32.symm,n64.symm,n54,n65.symm⟩
 ·show MH.set _ _ _ c2=_
  exact af (MH.set_ne _ _ n2) (af (MH.set_ne _ _ n62.symm) (af (MH.set_ne _ _ n52.symm) (af (MH.set_ne _ _ n42.symm) (af (MH.set_ne _ _ n32.symm) (af (MH.set_self _ _ _) rfl)))))
 ·show MH.set _ _ _ c3=_
  exact af (MH.set_ne _ _ n3) (af (MH.set_ne _ _ n63.symm) (af (MH.set_ne _ _ n53.symm) (af (MH.set_ne _ _ n43.symm) (af (MH.set_self _ _ _) rfl))))
 ·show MH.set _ _ _ c4=_
  refine af (MH.set_ne _ _ n4) (af (MH.set_ne _ _ n64.symm) (af (MH.set_ne _ _ n54.symm) (af (MH.set_self _ _ _) ?_)));rfl
 ·show MH.set _ _ _ c6=_
  refine af (MH.set_ne _ _ n6) (af (MH.set_self _ _ _) ?_);rfl
 ·show MH.set _ _ _ c5=_
  exact af (MH.set_ne _ _ n5) (af (MH.set_ne _ _ n65.symm) (af (MH.set_self _ _ _) rfl))
theorem A_:∀p,U_ p:=bB P_
end F0
theorem M9:VC E0 2 ps18 nm18 [] c18:=by
 intro us H Q X h
 refine Kf (λ r fields family sets h=>?_) h
 ·refine fy h λ d hr nf ns q=>?_
  clear h
  refine ⟨rfl,?_⟩
  refine af (iP (kR hr)) ?_
  generalize hbase:H.set r (.inst (.cls 3) d [])=H0
  have hB:∀b o,(H.del r) b=some o->H b=some o:=y7 H r
  refine af hbase.symm ?_
  exact eV (.ref fields) ⟨rfl,rfl⟩ rfl rfl rfl (eV (.str family) ⟨rfl,rfl⟩ rfl rfl rfl (eV (.ref sets) ⟨rfl,rfl⟩ rfl rfl rfl (eV (.str "little") ⟨rfl,rfl⟩ rfl rfl rfl (li .edict (.inl ⟨rfl,rfl⟩) rfl rfl rfl λ c1 n1 f1=>(eV (.int 0) ⟨rfl,rfl⟩ rfl rfl rfl (li .edict (.inl ⟨rfl,rfl⟩) rfl rfl rfl λ c2 n2 f2=>(li .edict (.inl ⟨rfl,rfl⟩) rfl rfl rfl λ c3 n3 f3=>(li (.list []) (.inr ⟨rfl,rfl⟩) rfl rfl rfl λ c4 n4 f4=>(li (.list []) (.inr ⟨rfl,rfl⟩) rfl rfl rfl λ c5 n5 f5=>(li (.list []) (.inr ⟨rfl,rfl⟩) rfl rfl rfl λ c6 n6 f6=>(F0.A_ (H,Q,X,r,fields,family,sets,d,c1,c2,c3,c4,c5,c6) q hB f1 n2 f2 n3 f3 n4 f4 n5 f5 n6 f6)))))))))))
theorem LZ:VC Ef 2 ps42 nm42 [.int 0] c42:=by
 intro us H Q X h
 refine J4 (λ e box data h=>?_) h
 ·refine aL h λ d hr q=>?_
  clear h
  refine ⟨rfl,?_⟩
  have hr':=(kR hr).symm
  rw [hr']
  exact eV box ⟨rfl,rfl⟩ rfl rfl rfl (eV data ⟨rfl,rfl⟩ rfl rfl rfl (eV (.int 0) ⟨rfl,rfl⟩ rfl rfl rfl (eV (.int 0) ⟨rfl,rfl⟩ rfl rfl rfl (eV (.str "") ⟨rfl,rfl⟩ rfl rfl rfl (li .edict (.inl ⟨rfl,rfl⟩) rfl rfl rfl λ c1 n1 f1=>(fg (q c1 f1)))))))
theorem MQ:VC ET 2 ps43 nm43 [] c43:=by
 intro us H Q X h
 refine KD (λ Z now h=>?_) h
 refine aL h λ x w1_ q=>?_
 clear h
 refine iF w1_ λ a d c t1_=>(bw t1_ λ r2_ ha=>?_)
 clear w1_ t1_
 subst r2_
 refine ⟨rfl,?_⟩
 exact cE (by assumption) rfl (fg q)
theorem Nc:VC E7 2 ps44 nm44 [] c44:=by
 intro us H Q X h
 refine rM (λ s h=>?_) h
 ·refine aL h λ d hr q=>?_
  clear h
  refine ⟨rfl,?_⟩
  rw [(kR hr).symm]
  exact li .edict (.inl ⟨rfl,rfl⟩) rfl rfl rfl λ c1 n1 f1=>(fg (q c1 f1))
theorem L7:VC Ed 2 ps54 nm54 [] c54:=by
 intro us H Q X h
 refine rM (λ s h=>?_) h
 ·refine aL h λ d hr q=>?_
  clear h
  refine ⟨rfl,?_⟩
  rw [(kR hr).symm]
  exact li (.list []) (.inr ⟨rfl,rfl⟩) rfl rfl rfl λ c1 n1 f1=>(fg (q c1 f1))
def oB (ps:wZ):Prop:=(∀p∈ps,p.1.first<=p.1.last)/\ps.Pairwise λ p q=>p.1.last<q.1.first
theorem vi (hx:x.1.first<=x.1.last):∀{ps:wZ},oB ps->(∀p∈ps,p.1.last<x.1.first\/x.1.last<p.1.first)->oB (ins (λ p=>p.1.first) x ps)
 |[],_,_=>⟨λ p hp=>by simp [ins] at hp;subst hp;exact hx,by simp [ins]⟩
 |y::r,⟨h1,h2⟩,hd=>by
  have hy:=h1 y (.head _)
  rw [dC] at h2
  have hD:=hd y (.head _)
  refine af nP ?_
  by_cases h:x.1.first<y.1.first
  ·refine af (if_pos h) ?_
   have hxy:x.1.last<y.1.first:=by lia
   refine ⟨λ p hp=>?_,?_⟩
   ·rcases aY.mp hp with rfl|hp
    ·exact hx
    ·exact h1 p hp
   ·rw [dC,dC]
    refine ⟨λ q hq=>?_,h2⟩
    rcases aY.mp hq with rfl|hq
    ·exact hxy
    ·have:=h2.1 q hq;lia
  ·refine af (if_neg h) ?_
   refine bw (vi hx ⟨λ p hp=>h1 p (.tail _ hp),h2.2⟩ λ p hp=>hd p (.tail _ hp)) λ i1 i2=>⟨λ p hp=>?_,?_⟩
   ·rcases aY.mp hp with rfl|hp
    ·exact hy
    ·exact i1 p hp
   ·rw [dC]
    refine ⟨λ q hq=>?_,i2⟩
    rcases uC.mp hq with rfl|hq
    ·lia
    ·exact h2.1 q hq
theorem qF {α:Type} {f:α->Int} (l:List α) (x:α):isort f (l++[x])=ins f x (isort f l):=by
 unfold isort;refine af qd ?_;rfl
theorem Az {α:Type} (l:List α) (P:List α->Prop) (h0:P []) (h1:∀l x,P l->P (l++[x])):P l:=by
 have:∀n (l:List α),l.length=n->P l:=by
  intro n
  induction n with
  |zero=>intro l h;have:l=[]:=List.length_eq_zero_iff.mp h;subst this;exact h0
  |succ n ih=>
   intro l h
   rcases yd l with rfl|⟨l',x,rfl⟩
   ·simp at h
   ·rw [yf] at h⊢
    exact h1 l' x (ih l' (by simpa using h))
 exact this _ l rfl
theorem xx (b8:wZ):(∀p∈b8,p.1.first<=p.1.last)->(b8.Pairwise λ p q=>p.1.last<q.1.first\/q.1.last<p.1.first)->oB (isort (λ p=>p.1.first) b8):=by
 refine Az b8 (λ b8=>(∀p∈b8,p.1.first<=p.1.last)->(b8.Pairwise λ p q=>p.1.last<q.1.first\/q.1.last<p.1.first)->oB (isort (λ p=>p.1.first) b8)) (λ Z Z=>⟨(λ Z h=>by cases h),.nil⟩) λ l x ih h1 h2=>?_
 refine af (qF _ _) ?_
 rw [dP] at h2
 refine vi (h1 x (by simp)) (ih (λ p hp=>h1 p (by simp [hp])) h2.1) λ p hp=>?_
 rw [jq] at hp
 exact h2.2.2 p hp x (by simp)
theorem C8:∀{ps:wZ},oB ps->x.1.first<=x.1.last->(∀p∈ps,p.1.last<x.1.first\/x.1.last<p.1.first)->
  ins (λ p=>p.1.first) x ps=ps.take (ps.countP λ p=>decide (p.1.last<x.1.first))++x::ps.drop (ps.countP λ p=>decide (p.1.last<x.1.first))
 |[],_,_,_=>rfl
 |y::r,⟨h1,h2⟩,hx,hd=>by
  have hy:=h1 y (.head _)
  rw [dC] at h2
  have hD:=hd y (.head _)
  refine af nP ?_
  by_cases h:x.1.first<y.1.first
  ·have hc:(y::r).countP (λ p=>decide (p.1.last<x.1.first))=0:=by
    rw [Bq]
    intro p hp
    rcases aY.mp hp with rfl|hp
    ·simp;lia
    ·have:=h2.1 p hp
     have:=h1 p (.tail _ hp)
     simp;lia
   refine af (if_pos h) (af hc ?_);rfl
  ·have hc:(y::r).countP (λ p=>decide (p.1.last<x.1.first))=r.countP (λ p=>decide (p.1.last<x.1.first))+1:=by
    rw [wS]
    simp;lia
   refine af (if_neg h) (af hc (af (C8 ⟨λ p hp=>h1 p (.tail _ hp),h2.2⟩ hx λ p hp=>hd p (.tail _ hp)) ?_))
   rfl
theorem pj:∀{ps:wZ},oB ps->∀{i:Nat} {p:dX×V},ps[i]?=some p->(p.1.last<n↔i<ps.countP λ p=>decide (p.1.last<n))
 |[],_,i,p,e=>by simp at e
 |y::r,⟨h1,h2⟩,i,p,e=>by
  rw [dC] at h2
  have G:oB r:=⟨λ p hp=>h1 p (.tail _ hp),h2.2⟩
  by_cases hy:y.1.last<n
  ·refine af (wS (by simpa using hy)) ?_
   cases i with
   |zero=>simp at e;subst e;exact ⟨λ Z=>mu _,λ Z=>hy⟩
   |succ i=>
    have:=pj (n:=n) G (i:=i) (p:=p) (by simpa using e)
    rw [this];lia
  ·have hall:∀q∈r,¬q.1.last<n:=λ q hq=>by
    have:=h2.1 q hq
    have:=h1 q (.tail _ hq)
    lia
   have:(y::r).countP (λ p=>decide (p.1.last<n))=0:=by
    rw [Bq]
    intro q hq
    rcases aY.mp hq with rfl|hq
    ·simpa using hy
    ·simpa using hall q hq
   refine af this ?_
   constructor
   ·intro h
    cases i with
    |zero=>simp at e;subst e;exact absurd h hy
    |succ i=>exact absurd h (hall p (aZ (by simpa using e)))
   ·lia
theorem rS:∀{b8:wZ},k∉b8.map (λ p=>p.1.first)->(b8.map λ p=>([p.1.first],p.2)).lookup [k]=none
 |[],_=>rfl
 |p::r,h=>by
  simp only [bj,aY,not_or] at h
  refine af bj (af aG ?_)
  have:([k]==[p.1.first])=false:=by simpa using h.1
  refine af this ?_
  exact rS h.2
theorem vJ:∀{b8:wZ},(b8.map λ p=>p.1.first).Nodup->p∈b8->(b8.map λ p=>([p.1.first],p.2)).lookup [p.1.first]=some p.2
 |[],_,h=>by cases h
 |q::r,nd,h=>by
  rw [bj,cc] at nd
  refine af bj (af aG ?_)
  rcases aY.mp h with rfl|h
  ·simp
  ·have:([p.1.first]==[q.1.first])=false:=by
    have:p.1.first≠q.1.first:=λ e=>nd.1 (e▸d8 (f:=λ p:dX×V=>p.1.first) h)
    simpa using this
   refine af this ?_
   exact vJ nd.2 h
theorem Mp:VC B0 3 ps47 nm47 [] c47:=by
 intro us H Q X h
 refine Ke (λ st k now h=>?_) h
 refine cI h λ b8 w1_ hk q=>?_
 clear h
 refine cu w1_ λ d tb h1 h2 h9=>?_
 clear w1_
 refine ⟨rfl,bM (u:=.none) ?_ (fg q)⟩
 refine cE h1 rfl ?_
 rcases h2 with ⟨e,rfl⟩|e
 ·exact l4 (G6 e) (.inl ⟨e,rfl,rfl⟩)
 ·refine l4 (JE e) (.inr ⟨_,e,?_⟩)
  refine af (rS hk) ?_
  exact ⟨rfl,rfl⟩
theorem Np:VC CE 4 ps45 nm45 [] c45:=by
 intro us H Q X h
 refine Fu (λ st Z now h=>?_) h
 refine jR h λ b8 x hP hl w1_ t2_=>(gJ t2_ λ hx hk q=>?_)
 clear h t2_
 refine iF w1_ λ a d' cl t1_=>(bw t1_ λ r2_ ha=>?_)
 clear w1_ t1_
 subst r2_
 refine jR (id hP) λ d tb h1 h2 h3 t1_=>(gJ t1_ λ h4 h5 h6=>?_)
 clear t1_
 refine ⟨rfl,?_⟩
 refine bM (u:=.tuple [.int x.first]) ?_ ?_
 ·refine cE (by assumption) rfl ?_
  refine aj (by lia) ?_
  exact rfl
 refine bA false ⟨rfl,rfl⟩ nofun (λ Z=>?_)
 refine bA false ?_ nofun (λ Z=>?_)
 ·exact l4 (qS h1 rfl rfl) (bR LR ⟨b8,hP,hk,rfl,rfl⟩)
 refine cE (by assumption) rfl ?_
 have na:a≠tb:=by
  rintro rfl
  rcases h2 with ⟨e,_⟩|e<;>(rw [ha] at e;exact nS e rfl)
 have ns:st≠tb:=by
  rintro rfl
  rcases h2 with ⟨e,_⟩|e<;>(rw [h1] at e;exact nS e rfl)
 have fe:∀o,o=bK.tdict ((b8++[(x,V.ref a)]).map λ p=>([p.1.first],p.2))->Q .none (H.set tb o):=by
  rintro o rfl
  refine q _ ⟨d,tb,(MH.set_ne _ _ ns).trans h1,.inr (MH.set_self _ _ _),?_,?_,?_,?_⟩ (λ b o e n1 n2=>?_) λ d2 tb2 e b nb=>?_
  ·intro p hp
   rcases cv.mp hp with hp|hp
   ·refine iF (h3 p hp) λ a2 d2 c2 t1_=>(bw t1_ λ e1 e2=>?_)
    clear t1_
    refine ⟨a2,d2,c2,e1,?_⟩
    rw [MH.set_ne];exact e2
    rintro rfl
    rcases h2 with ⟨e,_⟩|e<;>(rw [e2] at e;exact nS e rfl)
   ·cases aK.mp hp
    exact ⟨a,d',cl,rfl,(MH.set_ne _ _ na).trans ha⟩
  ·intro p hp
   rcases cv.mp hp with hp|hp
   ·exact h4 p hp
   ·cases aK.mp hp;exact hx
  ·(refine af bf ?_;rw [iq])
   refine ⟨h5,by simp,λ y hy z hz e=>?_⟩
   cases aK.mp hz
   have e:y=x.first:=e
   subst e;exact hk hy
  ·refine af az (af aU ?_);exact cw ‹_›
  ·rw [MH.set_ne];exact e
   rintro rfl
   rcases h2 with ⟨e2,_⟩|e2
   ·rw [e2] at e;(have e:=ac e;subst e);exact n2 rfl
   ·rw [e2] at e;(have e:=ac e;subst e);exact n1 _ rfl
  ·rw [h1] at e;cases e
   exact af (MH.set_ne _ _ nb) rfl
 show eH _ _ _ _ _
 rcases h2 with ⟨e,rfl⟩|e
 ·exact En (ks:=[x.first]) e rfl (fg (fe _ rfl))
 ·refine Hh (ks:=[x.first]) e rfl (by refine af (ag _) ?_;exact ao ‹_› (by decide)) (rS hk) (fg (fe _ ?_))
  refine af bf ?_;rfl
theorem Nd:VC Dv 2 ps49 nm49 [] c49:=by
 intro us H Q X h
 refine rM (λ st h=>?_) h
 refine aL h λ b8 w1_ q=>?_
 clear h
 refine jR w1_ λ d tb h1 h2 h3 t1_=>(gJ t1_ λ h4 h5 h6=>?_)
 clear w1_ t1_
 refine ⟨rfl,?_⟩
 intro c hc
 have s1:=bZ (o:=.list []) hc
 have hmem:∀p∈isort (λ p:dX×V=>p.1.first) b8,p∈b8:=λ p hp=>(jq b8).mp hp
 have hkeys:(isort (λ k:Int=>k) ((b8.map λ p=>(p.1.first,p.2)).map (·.1))).map (λ k=>V.tuple [.int k])=(isort (λ p:dX×V=>p.1.first) b8).map λ p=>V.tuple [.int p.1.first]:=by
  have:((b8.map λ p=>(p.1.first,p.2)).map (·.1))=b8.map λ p=>p.1.first:=by refine af cD ?_;rfl
  refine af this ?_
  have:=tD (f:=λ k:Int=>k) (g:=λ p:dX×V=>p.1.first) b8
  refine af this.symm (af cD ?_);rfl
 have hlen:(isort (λ p:dX×V=>p.1.first) b8).length<=3:=by exact af (kK _) h6
 generalize isort (λ p:dX×V=>p.1.first) b8=es at*
 have h2':(H.set c (.list [])) tb=some .edict/\(b8.map λ p=>(p.1.first,p.2))=[]\/(H.set c (.list [])) tb=some (.tdict ((b8.map λ p=>(p.1.first,p.2)).map λ p=>([p.1],p.2))):=by
  rcases h2 with ⟨e,rfl⟩|e
  ·exact .inl ⟨s1 _ _ e,rfl⟩
  ·refine .inr ?_
   refine af (s1 _ _ e) (af cD ?_);rfl
 show wpE _ _ _ _ _ _ _ _
 refine cE (s1 _ _ h1) rfl (.inr ⟨b8.map λ p=>(p.1.first,p.2),h2',by exact af cD h5,by exact af (ag _) h6,λ c2 hc2=>?_⟩)
 refine af hkeys ?_
 have nc:c2≠c:=cH hc2 (MH.set_self _ _ _) bH
 have hc2':H c2=none:=by rw [MH.set_ne _ _ nc] at hc2;exact hc2
 refine qm (mf (MH.set_self _ _ _)) (xO (λ i K=>∀x H',H'=H.set c (.list ((es.take i).map (·.2)))->K [some (.ref st),some (.ref c),x] H') (λ K k=>k none _ (Et hc2)) ?_ ?_)
 ·rintro i u N' e k x _ rfl
  rw [aF] at e
  refine aL (aH.mp e) λ p hpi r1_=>?_
  subst r1_
  have hp:=hmem p (aZ hpi)
  have s2:=bZ (o:=.list ((es.take i).map (·.2))) hc
  have htb:H tb=some (.tdict (b8.map λ p=>([p.1.first],p.2))):=by
   rcases h2 with ⟨_,rfl⟩|e
   ·cases hp
   ·exact e
  show wpE _ _ _ _ _ _ _ _
  refine jF (by rfl) (mP (MH.set_self _ _ _)) (cE (s2 _ _ h1) rfl (HF (ks:=[p.1.first]) (s2 _ _ htb) rfl (vJ h5 hp) (Dc (MH.set_self _ _ _) (by (refine af (ag _) (af bU ?_));exact ao (dG _ _) (ao ‹_› (by decide))) ⟨rfl,k _ _ λ K k=>k _ _ ?_⟩)))
  refine af set_set (af dm (af hpi (af bf ?_)));rfl
 ·rintro x _ rfl _
  refine af (ag _) (af c7 ?_)
  refine af (ma (MH.set_self _ _ _)) ?_
  exact DU (bZ ((MH.set_ne _ _ nc).trans hc2')) (q c hc)
theorem MN:VC BF 2 ps59 nm59 [] c59:=by
 intro us H Q X h
 refine rM (λ st h=>?_) h
 refine aL h λ b8 w1_ q=>?_
 clear h
 refine jR w1_ λ d it h1 h2 h3 t1_=>(bw t1_ λ h4 h9=>?_)
 clear w1_ t1_
 refine ⟨rfl,?_⟩
 exact cE h1 rfl ⟨_,h2,by (refine af (ag _) (af (kK _) ?_));exact ao ‹_› (by decide),λ c hc=>fg (q c hc)⟩
theorem rD (h:kh H v x) (k:K x.box H):rc v (aa "box") H K:=by
 refine iF h λ a d c t1_=>(bw t1_ λ r2_ e=>?_)
 clear h t1_
 subst r2_
 exact cE e rfl k
theorem BI {b8:wZ} {i:Nat} (e:b8[i]?=some p) (h:i<=10000):ix (b8.map (·.2)) i=some p.2:=wu ⟨aS _,by lia⟩ (by (refine af (cJ _) (af (aF) (af e ?_)));rfl)
theorem NY (h:a<b):a<=(a+b)/2/\(a+b)/2<b:=⟨(Nat.le_div_iff_mul_le (by decide)).mpr (by lia),(Nat.div_lt_iff_lt_mul (by decide)).mpr (by lia)⟩
theorem L4:VC Cq 2 ps52 nm52 [] c52:=by
 intro us H Q X h
 refine BP (λ it n h=>?_) h
 refine fy h λ b8 h1 h2 h3 t1_=>(gJ t1_ λ h4 h5 q=>?_)
 clear h t1_
 have G:oB b8:=⟨h4,h5⟩
 have hcnt:b8.countP (λ p=>decide (p.1.last<n))<=b8.length:=yg
 have hiff:=@pj n b8 G
 have hz:(b8.map (·.2)).length=b8.length:=ag ..
 generalize b8.countP (λ p=>decide (p.1.last<n))=Bv at*
 refine ⟨rfl,?_⟩
 refine bM (u:=.int 0) ⟨rfl,rfl⟩ (bM (u:=.int b8.length) ?_ ?_)
 ·exact kQ h1 (by lia) ⟨congrArg (λ n:Nat=>V.int n) hz,rfl⟩
 refine eC (λ ρ K=>∀x y,K [some (.ref it),some (.int n),some (.int Bv),x,y] H) (λ K kk=>⟨4,vO (λ m K=>∀(lo hi:Nat) (y:Option V),lo<=Bv->Bv<=hi->hi<=b8.length->hi -lo<=m->K [some (.ref it),some (.int n),some (.int lo),some (.int hi),y] H) ?_ 3 λ K k=>k 0 b8.length none (cS _) hcnt (bW _) (by assumption)⟩) ?_
 ·intro m K lo hi y a1 a2 a3 a4 k
  refine k _ _ (λ e=>?_) (λ e=>?_)
  ·have e:lo<hi:=qg.mp (of_decide_eq_true e)
   obtain ⟨m1,m2⟩:lo<=(lo+hi)/2/\(lo+hi)/2<hi:=NY e
   refine ⟨cG (D0 e) a4,λ N' k'=>?_⟩
   refine bM (u:=.int (((lo+hi)/2:Nat):Int)) ⟨rfl,rfl⟩ ?_
   have hi':(lo+hi)/2<b8.length:=cG m2 a3
   obtain ⟨p,hp⟩:∃p,b8[(lo+hi)/2]?=some p:=⟨_,an hi'⟩
   have hE:=h2 p (aZ hp)
   have hiff':=hiff hp
   refine bA (decide (p.1.last<n)) ?_ (λ e2=>?_) (λ e2=>?_)
   ·exact cZ h1 (BI hp (by lia)) (rD hE (aj rfl rfl))
   ·have:=hiff'.mp (of_decide_eq_true e2)
    exact k' _ _ λ K k=>k ((lo+hi)/2+1) hi _ this a2 a3 (Nat.sub_le_sub_right (ao (Nat.sub_le_sub_left m1 hi) a4) 1)
   ·have:¬(lo+hi)/2<Bv:=λ z=>of_decide_eq_false e2 (hiff'.mpr z)
    exact k' _ _ λ K k=>k lo ((lo+hi)/2) _ a1 (du.mp this) (fB hi') (Nat.le_sub_one_of_lt (cG (Nat.sub_lt_sub_right m1 m2) a4))
  ·have e:hi<=lo:=Int.ofNat_le.mp (dI.mp (of_decide_eq_false e))
   cases jK a1 (ao a2 e)
   exact kk _ _
 ·exact λ x y=>fg q
namespace FJ
def S_ (Q X st v now x it ps):=∀(us:List V) (H:MH) (h:Bd us H Q X) (b8:wZ) (d:aI) (h1:H st=some (bK.inst (Fn.cls 6) d [(aa "items",V.ref it)])) (h3:kC H b8) (hE:kh H v x) (q_x:∀(d it:aI),H st=some (bK.inst (Fn.cls 6) d [(aa "items",V.ref it)])->Q V.none (H.set it (bK.list (a7 (λ x↦x.snd) (isort (λ p↦p.fst.first) (b8++[(x,v)])))))) (h2:H it=some (bK.list (a7 (λ x↦x.snd) ps))) (q:Q V.none (H.set it (bK.list (a7 (λ x↦x.snd) (wT (sk (λ p↦decide (p.fst.last<(x,v).fst.first)) ps) ps++(x,v)::D1 (sk (λ p↦decide (p.fst.last<(x,v).fst.first)) ps) ps))))) (G:oB ps) (hD':∀(p:dX×V),p∈ps->p.fst.last<x.first\/x.last<p.fst.first) (hE':kC H ps) (hlen:ps.length<=2) (hcnt:sk (λ p↦decide (p.fst.last<x.first)) ps<=ps.length) (hiff:∀{i:Nat} {p:dX×V},ps[i]?=some p->(p.fst.last<x.first↔i<sk (λ p↦decide (p.fst.last<x.first)) ps)) (hz:(a7 (λ x↦x.snd) ps).length=ps.length),wpSs tb0 3 c55 (frame0 nm55 ([V.ref st,v,V.int now]++[])) H (λ x H'↦Fg Q V.none H') (Fg Q) (rB X)
def U_:=UV λ Q X st=>UV λ v now x=>UU λ it=>S_ Q X st v now x it
def t_:=dr (by have:=MI;infer_instance) U_
def Q:=t_.1
def X:=t_.2.1
def st:=t_.2.2.1
def v:=t_.2.2.2.1
def now:=t_.2.2.2.2.1
def x:=t_.2.2.2.2.2.1
def s1_:=t_.2.2.2.2.2.2
def it:=s1_.1
def ps:=s1_.2
theorem P_:S_ Q X st v now x it ps:=by
 intro us H h b8 d h1 h3 hE q_x h2 q G hD' hE' hlen hcnt hiff hz
 refine yL lW 3 (λ ρ H'=>H'=H/\ρ=[some (.ref st),some v,some (.int now),some (.int x.first),some (.int x.last),none,none]) ?_ ?_
 ·show wpE _ _ _ _ _ _ _ _
  exact rD hE (aj (of_decide_eq_true rfl) (aj rfl rfl))
 rintro _ _ ⟨rfl,rfl⟩
 refine bM (u:=.int (ps.countP λ p=>decide (p.1.last<x.first))) ?_ ?_
 ·exact cE h1 rfl (bR MV ⟨ps,h2,hE',cK ‹_›,G.1,G.2,rfl,rfl⟩)
 generalize ps.countP (λ p=>decide (p.1.last<x.first))=Bv at*
 refine bM (u:=.int Bv) ⟨rfl,rfl⟩ (rK ?_ ?_)
 ·refine cE (by assumption) rfl (kQ (by assumption) (by lia) (rQ (λ e=>?_) λ e=>⟨rfl,rfl⟩))
  have e:=of_decide_eq_true e
  have hi':Bv<ps.length:=by lia
  obtain ⟨p,hp⟩:∃p,ps[Bv]?=some p:=⟨_,an hi'⟩
  have hpE:=hE' p (aZ hp)
  refine cE (by assumption) rfl ?_
  refine cZ h2 (BI hp (by lia)) ?_
  refine rD hpE ?_
  skip
  have hno:¬p.1.last<x.first:=λ z=>by have:=(hiff hp).mp z;exact eX _ ‹_›
  have:=(hD' p (aZ hp)).resolve_left hno
  exact xh (decide_eq_false (by lia)) ⟨rfl,rfl⟩
 refine bA false ⟨congrArg V.bool (decide_eq_false (by lia)),rfl⟩ nofun (λ Z=>?_)
 refine cE h1 rfl (l4 (Gl h2) ⟨ps.map (·.2),h2,by lia,aS _,by lia,rfl,fg ?_⟩)
 refine af (cJ _) ?_
 rw [bf,bj,jh,oL] at q
 exact q
theorem A_:∀p,U_ p:=bB P_
end FJ
theorem Mv:VC Bd 3 ps55 nm55 [] c55:=by
 intro us H Q X h
 refine Fu (λ st v now h=>?_) h
 refine jR h λ b8 x w1_ hl hE t2_=>(gJ t2_ λ hx hD q=>?_)
 clear h t2_
 refine jR w1_ λ d it h1 h2 h3 t1_=>(gJ t1_ λ h4 h5 h6=>?_)
 clear w1_ t1_
 have q:=q d it h1
 have G:=xx b8 h5 h6
 have hD':∀p∈isort (λ p:dX×V=>p.1.first) b8,p.1.last<x.first\/x.last<p.1.first:=λ p hp=>hD p ((jq b8).mp hp)
 have hins:=C8 (x:=(x,v)) G hx hD'
 rw [qF,hins] at q
 have hE':kC H (isort (λ p:dX×V=>p.1.first) b8):=λ p hp=>h3 p ((jq b8).mp hp)
 have hlen:(isort (λ p:dX×V=>p.1.first) b8).length<=2:=by exact af (kK _) hl
 generalize isort (λ p:dX×V=>p.1.first) b8=ps at*
 have hcnt:ps.countP (λ p=>decide (p.1.last<x.first))<=ps.length:=yg
 have hiff:=@pj x.first ps G
 have hz:(ps.map (·.2)).length=ps.length:=ag ..
 refine ⟨rfl,?_⟩
 rename_i q_x
 exact FJ.A_ (Q,X,st,v,now,x,it,ps) us H h b8 d h1 h3 hE q_x h2 q G hD' hE' hlen hcnt hiff hz
theorem MF:VC CT 3 ps76 nm76 [] c76:=by
 intro us H Q X h
 refine Jc (λ sp h=>?_) h
 refine aL h λ aV r1_ q=>?_
 clear h
 subst r1_
 refine ⟨rfl,?_⟩
 refine bA (!decide ((aa "interval")∈aV)) ?_ (λ e=>?_) (λ e=>?_)
 ·exact ⟨aV,rfl,rfl,rfl⟩
 ·have e:decide ((aa "interval")∈aV)=false:=by simpa using e
  rw [e] at q
  refine λ a d ha=>⟨d,MH.set_self _ _ _,λ c hc=>⟨rfl,fg ?_⟩⟩
  have nc:c≠a:=cH hc (MH.set_self _ _ _) bH
  have hc':H c=none:=by rw [MH.set_ne _ _ nc] at hc;exact hc
  exact q a c _ ⟨⟨d,MH.set_self _ _ _⟩,(MH.set_ne _ _ nc).trans (MH.set_self _ _ _),ha,hc',nc.symm⟩ (a6 (a6 (bZ ha) hc') ha)
 ·have e:decide ((aa "interval")∈aV)=true:=by simpa using e
  rw [e] at q
  refine bA true (by (refine aj (of_decide_eq_true rfl) ?_;refine aj rfl ?_;exact rfl)) (λ Z=>?_) nofun
  refine λ a d ha=>⟨d,MH.set_self _ _ _,λ c hc=>⟨rfl,fg ?_⟩⟩
  have nc:c≠a:=cH hc (MH.set_self _ _ _) bH
  have hc':H c=none:=by rw [MH.set_ne _ _ nc] at hc;exact hc
  exact q a c _ ⟨⟨d,MH.set_self _ _ _⟩,(MH.set_ne _ _ nc).trans (MH.set_self _ _ _),ha,hc',nc.symm⟩ (a6 (a6 (bZ ha) hc') ha)
namespace Gr
def S_ (H Q X b name d aV):=∀(hb:H b=some (bK.inst (Fn.cls 9) d [])) (q:∀(st x:aI) (H':MH) (as:List (aw×V)),Hz (decide (aa "interval"∈aV)) H H' st x->(H.del b).Sub H'->H' b=some (bK.inst (Fn.cls 9) d as)->hV (aa "store") as=some (V.ref st)->as.length<=20->Q V.none H'),wpSs tb0 4 c77 (frame0 nm77 ([V.ref b,V.str name,setSpec aV,V.tuple [V.int 32]]++[])) H (λ x H'↦Fg Q V.none H') (Fg Q) (rB X)
def U_:=UV λ H Q X=>UV λ b name d=>S_ H Q X b name d
def t_:=dr (by infer_instance) U_
def H:=t_.1
def Q:=t_.2.1
def X:=t_.2.2.1
def b:=t_.2.2.2.1
def name:=t_.2.2.2.2.1
def d:=t_.2.2.2.2.2.1
def s1_:=t_.2.2.2.2.2.2
def aV:=s1_
theorem P_:S_ H Q X b name d aV:=by
 intro hb q
 have hdel:∀o,MH.Sub (H.del b) (H.set b o):=λ o a ob e=>by
  have:a≠b:=cH e (MH.del_self _ _) b7
  refine af (MH.set_ne _ _ this) ?_;rw [MH.del_ne _ this] at e;exact e
 refine af ((kR hb).symm) ?_
 refine eV (.str name) ⟨rfl,rfl⟩ rfl rfl rfl (eV (setSpec aV) ⟨rfl,rfl⟩ rfl rfl rfl (eV (.tuple [.int 32]) ⟨rfl,rfl⟩ rfl rfl rfl (eV (.int 0) ⟨rfl,rfl⟩ rfl rfl rfl (eV (.bool false) ⟨rfl,rfl⟩ rfl rfl rfl (eV (.bool false) ⟨rfl,rfl⟩ rfl rfl rfl ?_)))))
 generalize hH1:H.set b _=H1
 refine bR Mu ⟨aV,rfl,λ st x H' hst hsub=>?_⟩
 refine wG hst λ w1_ e2 e3 e4 e5=>?_
 clear hst
 refine bu w1_ λ d2 e1=>?_
 clear w1_
 have hb1:H' b=some (.inst (.cls 9) d _):=hsub b _ (by (exact af hH1.symm (af (MH.set_self _ _ _) rfl)))
 have hstb:st≠b:=λ z=>by rw [z,<-hH1,MH.set_self] at e3;exact b7 e3
 have hxb:x≠b:=λ z=>by rw [z,<-hH1,MH.set_self] at e4;exact b7 e4
 refine km hb1 rfl rfl (fg (q st x _ _ ⟨⟨d2,(MH.set_ne _ _ hstb).trans e1⟩,(MH.set_ne _ _ hxb).trans e2,?_,?_,e5⟩ ?_ (MH.set_self _ _ _) rfl (aO rfl)))
 ·rw [<-hH1,MH.set_ne _ _ hstb] at e3;exact e3
 ·rw [<-hH1,MH.set_ne _ _ hxb] at e4;exact e4
 ·refine a6 (MH.Sub.trans ?_ hsub) (MH.del_self _ _)
  refine af hH1.symm ?_;exact hdel _
theorem A_:∀p,U_ p:=bB P_
end Gr
theorem MY:VC ES 4 ps77 nm77 [] c77:=by
 intro us H Q X h
 refine Kq (λ b name Z h=>?_) h
 refine cu h λ d aV r1_ hb q=>?_
 clear h
 subst r1_
 refine ⟨rfl,?_⟩
 exact Gr.A_ (H,Q,X,b,name,d,aV) hb q
theorem lc (h:m≠n):∀{as:List (aw×V)},(alSet as n u).lookup m=as.lookup m
 |[]=>by unfold alSet;(exact af aG (af (show (m==n)=false from beq_eq_false_iff_ne.mpr h) rfl))
 |(k,w)::r=>by
  unfold alSet
  by_cases q:n=k
  ·subst q
   exact af (if_pos rfl) (af aG (af aG (af (show (m==n)=false from beq_eq_false_iff_ne.mpr h) rfl)))
  ·exact af (if_neg q) (af aG (af aG (af (lc h) rfl)))
theorem tC:∀{as:List (aw×V)},(alSet as n u).length<=as.length+1
 |[]=>by simp [alSet]
 |(k,w)::r=>by
  unfold alSet
  split
  ·simp
  ·have:=@tC n u r
   simp only [aP];exact cw ‹_›
noncomputable def wideOf (ls:List dX):Bool:=ls.any λ x=>decide (x.first≠x.last)
noncomputable def flagsOf (b:Bool):List aw:=if b then ["constant","interval"] else ["constant"]
theorem CN (b:Bool):decide (("interval":aw)∈flagsOf b)=b:=by cases b<;>decide
theorem kC.set (ha:H a=some .edict) (h:kC H b8):kC (H.set a o) b8:=λ p hp=>by
 refine iF (h p hp) λ b d c t1_=>(bw t1_ λ e1 e2=>?_)
 clear t1_
 exact ⟨b,d,c,e1,by rw [MH.set_ne _ _ (λ z=>by rw [z,ha] at e2;exact nS e2 rfl)];exact e2⟩
theorem gv.set (ha:H a=some .edict):gv H st b8->gv (H.set a o) st b8:=λ ⟨d,it,h1,h2,h3,r⟩=>
 ⟨d,it,by rw [MH.set_ne _ _ (λ z=>by rw [z,ha] at h1;exact nS h1 rfl)];exact h1,by rw [MH.set_ne _ _ (λ z=>by rw [z,ha] at h2;exact nS h2 rfl)];exact h2,h3.set ha,r⟩
theorem eh.set (ha:H a=some .edict) (h:eh H st b8) (ht:∀d tb,H st=some (.inst (.cls 5) d [("table",.ref tb)])->tb≠a):eh (H.set a o) st b8:=by
 refine jR h λ d tb h1 h2 h3 r=>?_
 clear h
 have:=ht d tb h1
 refine ⟨d,tb,by rw [MH.set_ne _ _ (λ z=>by rw [z,ha] at h1;exact nS h1 rfl)];exact h1,by exact af (MH.set_ne _ _ this) h2,h3.set ha,r⟩
namespace FU
def S_ (H:MH) (Q:V->MH->Prop) (name:aw) (ls:List dX) (b:aI) (st x d d2 as H1):=∀(X:aw->MH->Prop) (q:∀(v:V) (H':MH),(∀(H'':MH),(∀(x:aI) (o:bK),H x=none->H' x=some o->H'' x=some o)->lH H'' v (isort dX.first ls))->H.Sub H'->Q v H') (hl:ls.length<=3) (hsp:∀(x:dX),x∈ls->x.first<=x.last) (hpw:List.Pairwise (λ x y↦x.last<y.first\/y.last<x.first) ls) (y:Option V) (iv:Bool) (hiv:wideOf ls=iv) (hb:H b=none) (e3:H st=none) (e4:H x=none) (e1:H1 st=some (if iv=true then bK.inst (Fn.cls 6) d2 [(aa "items",V.ref x)] else bK.inst (Fn.cls 5) d2 [(aa "table",V.ref x)])) (e2:H1 x=some (if iv=true then bK.list [] else bK.edict)) (e5:st≠x) (nb1:st≠b) (nb2:x≠b) (hsub:H.Sub H1) (h1:H1 b=some (bK.inst (Fn.cls 9) d as)) (h2:hV (aa "store") as=some (V.ref st)) (h3:as.length<=20),wpSs tb0 5 (c79.drop 5) [some (V.str name),some (V.tuple [V.int 32]),some (V.tuple (a7 dX.v ls)),some (V.bool true),some (V.tuple (a7 V.str (flagsOf iv))),y,some (V.tuple []),some (V.ref b),none] H1 (λ x H'↦Fg Q V.none H') (Fg Q) (rB X)
def U_:=UV λ H Q name=>UV λ ls b st=>UV λ x d d2=>UU λ as=>S_ H Q name ls b st x d d2 as
def t_:=dr (by infer_instance) U_
def H:=t_.1
def Q:=t_.2.1
def name:=t_.2.2.1
def ls:=t_.2.2.2.1
def b:=t_.2.2.2.2.1
def st:=t_.2.2.2.2.2.1
def s1_:=t_.2.2.2.2.2.2
def x:=s1_.1
def d:=s1_.2.1
def d2:=s1_.2.2.1
def as:=s1_.2.2.2.1
def H1:=s1_.2.2.2.2
namespace Gf
def S_ (w7 H2 i N' b8 y2 z2 H3 lt H5):=∀(hsp:∀(x:dX),x∈ls->x.first<=x.last) (iv:Bool) (hiv:wideOf ls=iv) (e4:H x=none) (e1:H1 st=some (if iv=true then bK.inst (Fn.cls 6) d2 [(aa "items",V.ref x)] else bK.inst (Fn.cls 5) d2 [(aa "table",V.ref x)])) (e2:H1 x=some (if iv=true then bK.list [] else bK.edict)) (e5:st≠x) (nb2:x≠b) (b2:hV (aa "store") w7=some (V.ref st)) (k:∀(ρ':da) (H':MH),(∀(K:da->MH->Prop),(∀(b8:wZ) (y z:Option V) (H':MH),a7 (λ x↦x.fst) b8=wT (i+1) ls->H.Sub H'->H' b=some (bK.inst (Fn.cls 9) d w7)->(if iv=true then gv H' st b8 else eh H' st b8)->H' st=some (if iv=true then bK.inst (Fn.cls 6) d2 [(aa "items",V.ref x)] else bK.inst (Fn.cls 5) d2 [(aa "table",V.ref x)])->(∀(p:dX×V),p∈b8->∃e de ce,p.snd=V.ref e/\H e=none/\H' e=some (bK.inst (Fn.cls 4) de (elemAttrs p.fst ce)))->K [some (V.str name),some (V.tuple [V.int 32]),some (V.tuple (a7 dX.v ls)),some (V.bool true),some (V.tuple (a7 V.str (flagsOf iv))),y,some (V.tuple []),some (V.ref b),z] H')->K ρ' H')->N' ρ' H') (sub3:H.Sub H3) (c1:H3 b=some (bK.inst (Fn.cls 9) d w7)) (c2:if iv=true then gv H3 st b8 else eh H3 st b8) (c3:H3 st=some (if iv=true then bK.inst (Fn.cls 6) d2 [(aa "items",V.ref x)] else bK.inst (Fn.cls 5) d2 [(aa "table",V.ref x)])) (cN:∀(p:dX×V),p∈b8->∃e de ce,p.snd=V.ref e/\H e=none/\H3 e=some (bK.inst (Fn.cls 4) de (elemAttrs p.fst ce))) (hlen:kW b8<=2) (hltm:lt∈ls) (hdis:∀(p:dX×V),p∈b8->p.fst.last<lt.first\/lt.last<p.fst.first) (hnext:∀(v:V),a7 (λ x↦x.fst) (b8++[(lt,v)])=wT (i+1) ls) (e:aI) (de:aI) (he:H3 e=none) (ce:aI) (he5:H5 e=some (bK.inst (Fn.cls 4) de (elemAttrs lt ce))) (sub5:H3.Sub H5),(λ ρ1 H1↦wpSs tb0 5 [S.expr (((E.loc 7).attr (aa "store")).meth (aa "put") [E.loc 8,E.int 0])] ρ1 H1 N' (λ r H4↦Fg Q r (backOf H2 H4 (V.tuple (a7 dX.v ls)))) jU) (([some (V.str name),some (V.tuple [V.int 32]),some (V.tuple (a7 dX.v ls)),some (V.bool true),some (V.tuple (a7 V.str (flagsOf iv))),y2,some (V.tuple []),some (V.ref b),z2].set 5 (some lt.v)).set 8 (some (V.ref e))) H5
def U_:=UV λ w7 H2 i=>UV λ N' b8 y2=>UV λ z2 H3 lt=>S_ w7 H2 i N' b8 y2 z2 H3 lt
def t_:=dr (by have:=MI;infer_instance) U_
def w7:=t_.1
def H2:=t_.2.1
def i:=t_.2.2.1
def N':=t_.2.2.2.1
def b8:=t_.2.2.2.2.1
def y2:=t_.2.2.2.2.2.1
def s1_:=t_.2.2.2.2.2.2
def z2:=s1_.1
def H3:=s1_.2.1
def lt:=s1_.2.2.1
def H5:=s1_.2.2.2
theorem P_:S_ w7 H2 i N' b8 y2 z2 H3 lt H5:=by
 intro hsp iv hiv e4 e1 e2 e5 nb2 b2 k sub3 c1 c2 c3 cN hlen hltm hdis hnext e de he ce he5 sub5
 have hE5:kh H5 (.ref e) lt:=⟨e,de,ce,rfl,he5⟩
 have c1':=sub5 _ _ c1
 have c3':=sub5 _ _ c3
 show wpE _ _ _ _ _ _ _ _
 refine cE c1' b2 ?_
 cases iv with
 |true=>
  have c2':gv H5 st b8:=gv.sub sub5 c2
  refine l4 (qS c3' rfl rfl) (bR Mg ⟨b8,lt,c2',hlen,hE5,hsp lt hltm,hdis,λ d3 it hst=>⟨rfl,k _ _ λ K k=>?_⟩⟩)
  cases c3'.symm.trans hst
  refine jR c2' λ d4 it4 g1 g2 g3 t1_=>(gJ t1_ λ g4 g5 g6=>?_)
  clear c2' t1_
  cases c3'.symm.trans g1
  have nx:∀{a c' d' as'},H5 a=some (.inst c' d' as')->a≠x:=λ e z=>by rw [z,g2] at e;cases e
  refine k (b8++[(lt,.ref e)]) _ _ _ (hnext _) (a6 (sub3.trans sub5) e4) ((MH.set_ne _ _ nb2.symm).trans c1') ?_ ((MH.set_ne _ _ e5).trans c3') ?_
  ·refine ⟨d2,x,(MH.set_ne _ _ e5).trans c3',MH.set_self _ _ _,?_,by (refine af az (af aU ?_));exact cw ‹_›,?_,?_⟩
   ·intro p hp
    rcases cv.mp hp with hp|hp
    ·refine iF (g3 p hp) λ a2 d3 c3 t1_=>(bw t1_ λ f1 f2=>?_)
     clear t1_
     exact ⟨a2,d3,c3,f1,(MH.set_ne _ _ (nx f2)).trans f2⟩
    ·cases aK.mp hp
     exact ⟨e,de,ce,rfl,(MH.set_ne _ _ (nx he5)).trans he5⟩
   ·intro p hp
    rcases cv.mp hp with hp|hp
    ·exact g5 p hp
    ·cases aK.mp hp;exact hsp lt hltm
   ·rw [dP]
    refine ⟨g6,by simp,λ p hp q hq=>?_⟩
    cases aK.mp hq
    exact hdis p hp
  ·intro p hp
   rcases cv.mp hp with hp|hp
   ·refine iZ (cN p hp) λ e' de' ce' f1 f2 f3=>?_
    have f3:=sub5 _ _ f3
    exact ⟨e',de',ce',f1,f2,(MH.set_ne _ _ (nx f3)).trans f3⟩
   ·cases aK.mp hp
    exact ⟨e,de,ce,rfl,sub3.none he,(MH.set_ne _ _ (nx he5)).trans he5⟩
 |false=>
  have c2':eh H5 st b8:=eh.sub sub5 c2
  have hone:lt.first=lt.last:=by
   have:=DI.mp hiv lt hltm
   simpa using this
  refine jR (id c2') λ d4 it4 g1 g2 Z t1_=>(bw t1_ λ g4 Z=>?_)
  clear t1_
  cases c3'.symm.trans g1
  have hnk:lt.first∉b8.map (λ p=>p.1.first):=by
   intro hm
   refine aL (bC.mp hm) λ p hp e=>?_
   have h8:=hdis p hp
   have h9:=g4 p hp
   lia
  have nx:∀{y c' d' as'},H5 y=some (.inst c' d' as')->y≠x:=λ ey z=>by
   rcases g2 with ⟨g2,_⟩|g2<;>rw [z,g2] at ey<;>cases ey
  refine l4 (qS c3' rfl rfl) (bR MO ⟨b8,lt,c2',hlen,hE5,hone,hnk,λ H6 hP6 Z hoth=>⟨rfl,k _ _ λ K k=>?_⟩⟩)
  have hoth:∀{a},a≠x->H6 a=H5 a:=λ {a} n=>hoth d2 x c3' a n
  refine k (b8++[(lt,V.ref e)]) _ _ _ (hnext _) (λ a o ea=>?_) ((hoth nb2.symm).trans c1') (show eh H6 st (b8++[(lt,V.ref e)]) from hP6) ((hoth e5).trans c3') ?_
  ·rw [hoth λ z=>by rw [z,e4] at ea;cases ea]
   exact (sub3.trans sub5) a o ea
  ·intro p hp
   rcases cv.mp hp with hp|hp
   ·refine iZ (cN p hp) λ e' de' ce' f1 f2 f3=>?_
    have f3:=sub5 _ _ f3
    exact ⟨e',de',ce',f1,f2,(hoth (nx f3)).trans f3⟩
   ·cases aK.mp hp
    exact ⟨e,de,ce,rfl,sub3.none he,(hoth (nx he5)).trans he5⟩
theorem A_:∀p,U_ p:=bB P_
end Gf
theorem P_:S_ H Q name ls b st x d d2 as H1:=by
 intro X q hl hsp hpw y iv hiv hb e3 e4 e1 e2 e5 nb1 nb2 hsub h1 h2 h3
 have l1:=@tC (aa "is_anonymous") (.bool true) as
 refine km h1 rfl (zh (ao ‹_› (by decide))) (km (MH.set_self _ _ _) rfl (zh (by lia)) ?_)
 refine af set_set ?_
 have b2:(alSet (alSet as (aa "is_anonymous") (.bool true)) (aa "is_bound") (.bool true)).lookup (aa "store")=some (.ref st):=by (refine af (lc (by decide)) (af (lc (by decide)) ?_));exact h2
 generalize alSet (alSet as (aa "is_anonymous") (.bool true)) (aa "is_bound") (.bool true)=w7 at*
 have b3:∀{a},a≠b->(H1.set b (.inst (.cls 9) d w7)) a=H1 a:=λ n=>MH.set_ne _ _ n
 have b1:(H1.set b (.inst (.cls 9) d w7)) b=some (.inst (.cls 9) d w7):=MH.set_self _ _ _
 generalize H1.set b (.inst (.cls 9) d w7)=H2 at*
 have sub2:MH.Sub H H2:=λ a o e=>by
  have:a≠b:=cH e hb b7
  refine af (b3 this) ?_;exact hsub a o e
 refine mh (.tuple (ls.map dX.v)) (us:=ls.map dX.v) (λ i K=>∀(b8:wZ) y z H',b8.map (·.1)=ls.take i->MH.Sub H H'->H' b=some (.inst (.cls 9) d w7)->(if iv then gv H' st b8 else eh H' st b8)->H' st=some (if iv then .inst (.cls 6) d2 [("items",.ref x)] else .inst (.cls 5) d2 [("table",.ref x)])->
  (∀p∈b8,∃e de ce,p.2=.ref e/\H e=none/\H' e=some (.inst (.cls 4) de (elemAttrs p.1 ce)))->K [some (.str name),some (.tuple [.int 32]),some (.tuple (ls.map dX.v)),some (.bool true),some (.tuple ((flagsOf iv).map .str)),y,some (.tuple []),some (.ref b),z] H') (λ K k=>k) rfl ?_ ?_ ?_
 ·refine λ K k=>k [] y none _ rfl sub2 b1 ?_ ((b3 nb1).trans e1) nofun
  cases iv with
  |true=>exact ⟨d2,x,(b3 nb1).trans e1,(b3 nb2).trans e2,(λ Z h=>by cases h),by simp,(λ Z h=>by cases h),.nil⟩
  |false=>exact ⟨d2,x,(b3 nb1).trans e1,.inl ⟨(b3 nb2).trans e2,rfl⟩,(λ Z h=>by cases h),(λ Z h=>by cases h),ir,by simp⟩
 ·intro i u N' e k b8 y2 z2 H3 hels sub3 c1 c2 c3 cN
  rw [aF] at e
  refine aL (aH.mp e) λ lt hli r1_=>?_
  subst r1_
  have hlen:b8.length<=2:=by
   have h5:=congrArg kW hels
   rw [ag,bU] at h5
   have h6:=(aN.mp hli).1
   lia
  have hltm:=aZ hli
  have hdis:∀p∈b8,p.1.last<lt.first\/lt.last<p.1.first:=by
   intro p hp
   have hp1:p.1∈ls.take i:=by refine af hels.symm ?_;exact d8 (f:=(·.1)) hp
   have hsplit:ls=ls.take i++(lt::ls.drop (i+1)):=by
    have hi:=(aN.mp hli).1
    have h7:=cC hi
    rw [an hi] at hli;cases hli
    exact af h7.symm (af (dz _ _) rfl)
   rw [hsplit] at hpw
   exact (dP.mp hpw).2.2 p.1 hp1 lt (.head _)
  have hnext:∀v:V,(b8++[(lt,v)]).map (·.1)=ls.take (i+1):=λ v=>by
   refine af dm (af hli (af bf (af hels ?_)));rfl
  intro e de he
  refine ⟨de,MH.set_self _ _ _,λ ce hc=>⟨rfl,?_⟩⟩
  have nc:ce≠e:=cH hc (MH.set_self _ _ _) bH
  have sub4:=a6 (o:=.inst (.cls 4) de [("box",lt.box),("data",lt.dataV),("until",.int 0),("timeout",.int 0),("comment",.str ""),("cells",.ref ce)]) (a6 (o:=.edict) (bZ (o:=.inst (.cls 4) de []) he) ((MH.set_ne _ _ nc).symm.trans hc)) he
  refine km (MH.set_self _ _ _) rfl rfl ?_
  refine af (show alSet [("box",lt.box),("data",lt.dataV),("until",.int 0),("timeout",.int 0),("comment",.str ""),("cells",.ref ce)] (aa "comment") (.str lt.note)=elemAttrs lt ce from rfl) ?_
  have he5:=MH.set_self (((H3.set e (.inst (.cls 4) de [])).set ce .edict).set e (.inst (.cls 4) de [("box",lt.box),("data",lt.dataV),("until",.int 0),("timeout",.int 0),("comment",.str ""),("cells",.ref ce)])) e (.inst (.cls 4) de (elemAttrs lt ce))
  have sub5:=a6 (o:=.inst (.cls 4) de (elemAttrs lt ce)) sub4 he
  generalize (((H3.set e (.inst (.cls 4) de [])).set ce .edict).set e (.inst (.cls 4) de [("box",lt.box),("data",lt.dataV),("until",.int 0),("timeout",.int 0),("comment",.str ""),("cells",.ref ce)])).set e (.inst (.cls 4) de (elemAttrs lt ce))=H5 at*
  exact Gf.A_ (w7,H2,i,N',b8,y2,z2,H3,lt,H5) hsp iv hiv e4 e1 e2 e5 nb2 b2 k sub3 c1 c2 c3 cN hlen hltm hdis hnext e de he ce he5 sub5
 ·intro b8 y2 z2 H3 hels sub3 c1 c2 c3 cN _
  rw [ag,c7] at hels
  refine fg (q _ _ (λ H'' hH=>⟨b,d,w7,st,b8,rfl,hH _ _ hb c1,b2,?_,by (exact af hels rfl)⟩) sub3)
  have elsOk:kC H'' b8:=λ p hp=>by
   exact iZ (cN p hp) λ e de ce f1 f2 f3=>⟨e,de,ce,f1,hH _ _ f2 f3⟩
  cases iv with
  |true=>
   obtain ⟨d4,it4,g1,g2,g3,g4⟩:gv H3 st b8:=c2
   cases c3.symm.trans g1
   exact .inr ⟨d2,x,hH _ _ e3 c3,hH _ _ e4 g2,elsOk,g4⟩
  |false=>
   obtain ⟨d4,it4,g1,g2,g3,g4⟩:eh H3 st b8:=c2
   cases c3.symm.trans g1
   exact .inl ⟨d2,x,hH _ _ e3 c3,g2.imp (λ z=>⟨hH _ _ e4 z.1,z.2⟩) (λ z=>hH _ _ e4 z),elsOk,g4⟩
theorem A_:∀p,U_ p:=bB P_
end FU
@[elab_as_elim] theorem EK {P:List dX->Prop} (h:∀x∈ls,x.data≠[]) (n:P []) (c:∀f l d0 dr nt r,P (⟨f,l,d0::dr,nt⟩::r)):P ls:=by
 cases ls with
 |nil=>exact n
 |cons x r=>
  have:=h x (.head _)
  cases x with
  |mk f l dt nt=>cases dt with
   |nil=>exact absurd rfl this
   |cons a b=>exact c ..
theorem L2:VC Cz 5 ps79 nm79 [] c79:=by
 intro us H Q X h
 refine KF (λ name vs h=>?_) h
 refine cI h λ ls r1_ w2_ q=>?_
 clear h
 subst r1_
 refine nX w2_ λ hl hsp hpw hdat=>?_
 clear w2_
 have hz:(ls.map dX.v).length=ls.length:=ag ..
 refine ⟨rfl,?_⟩
 refine bM (u:=.tuple ((flagsOf false).map .str)) ⟨rfl,rfl⟩ (mh (.tuple (ls.map dX.v)) (us:=ls.map dX.v) (λ i K=>∀y,K [some (.str name),some (.tuple [.int 32]),some (.tuple (ls.map dX.v)),some (.bool true),some (.tuple ((flagsOf (wideOf (ls.take i))).map .str)),y,none,none,none] H) (λ K k=>k) rfl (λ K k=>k none) ?_ ?_)
 ·intro i u N' e k y
  rw [aF] at e
  refine aL (aH.mp e) λ x hxi r1_=>?_
  subst r1_
  have hw:wideOf (ls.take (i+1))=(wideOf (ls.take i)||decide (x.first≠x.last)):=by
   unfold wideOf
   refine af dm (af hxi (af List.any_append ?_));simp
  refine bA (decide (x.first≠x.last)) ?_ (λ e=>?_) (λ e=>?_)
  ·exact bR Nl (Hd (λ h=>⟨congrArg V.bool (decide_eq_false (λ z=>z h)).symm,rfl⟩) λ h=>⟨congrArg V.bool (decide_eq_true h).symm,rfl⟩)
  ·rw [e,iA] at hw
   refine k _ _ λ K k=>?_
   have k:=k (some x.v)
   rw [hw] at k;exact k
  ·rw [e,HO] at hw
   refine k _ _ λ K k=>?_
   have k:=k (some x.v)
   rw [hw] at k;exact k
 intro y _
 refine af (ag _) (af c7 ?_)
 refine af (show backOf H H (.tuple (ls.map dX.v))=H from rfl) ?_
 generalize hiv:wideOf ls=iv
 refine bM (u:=.none) ⟨rfl,rfl⟩ (eC (λ ρ K=>K [some (.str name),some (.tuple [.int 32]),some (.tuple (ls.map dX.v)),some (.bool true),some (.tuple ((flagsOf iv).map .str)),y,some (.tuple []),none,none] H) (λ K k=>?_) ?_)
 ·show wpSs tb0 5 [_] _ _ _ _ _
  refine bA true ⟨rfl,rfl⟩ (λ Z=>?_) nofun
  refine bM (u:=.tuple []) ⟨rfl,rfl⟩ (bA false ?_ nofun (λ Z=>k))
  revert hl hz
  refine EK hdat (λ Z Z=>⟨by decide,rfl,rfl⟩) λ f l d0 dr nt r hl hz=>?_
  refine aj (by lia) (F9 (decide_eq_true (by (refine af (ag _) (af aP ?_));lia)) ?_)
  exact ⟨rfl,rfl,rfl⟩
 refine dO (λ K=>∀b st x d d2 (as:List (aw×V)) H1,H b=none->H st=none->H x=none->H1 st=some (if iv then .inst (.cls 6) d2 [("items",.ref x)] else .inst (.cls 5) d2 [("table",.ref x)])->H1 x=some (if iv then .list [] else .edict)->st≠x->st≠b->x≠b->MH.Sub H H1->H1 b=some (.inst (.cls 9) d as)->as.lookup ("store":aw)=some (.ref st)->as.length<=20->K (.ref b) H1) (λ K k=>?_) ?_
 ·intro b d hb
  refine ⟨d,flagsOf iv,rfl,MH.set_self _ _ _,λ st x H1 as hN hsub h1 h2 h3=>⟨rfl,?_⟩⟩
  rw [CN] at hN
  refine wG hN λ w1_ e2 e3 e4 e5=>?_
  clear hN
  refine bu w1_ λ d2 e1=>?_
  clear w1_
  have nb1:st≠b:=cH e3 (MH.set_self _ _ _) bH
  have nb2:x≠b:=cH e4 (MH.set_self _ _ _) bH
  refine k b st x d d2 as H1 hb ((MH.set_ne _ _ nb1).symm.trans e3) ((MH.set_ne _ _ nb2).symm.trans e4) e1 e2 e5 nb1 nb2 (λ a o e=>?_) h1 h2 h3
  refine hsub a o ?_
  have:a≠b:=cH e hb b7
  refine af (MH.del_ne _ this) (af (MH.set_ne _ _ this) ?_);exact e
 intro b st x d d2 as H1 hb e3 e4 e1 e2 e5 nb1 nb2 hsub h1 h2 h3
 dsimp only [aC,aD]
 exact FU.A_ (H,Q,name,ls,b,st,x,d,d2,as,H1) X q hl hsp hpw y iv hiv hb e3 e4 e1 e2 e5 nb1 nb2 hsub h1 h2 h3
theorem HH (s:MH.Sub H H') (h:H' c=some o):MH.Sub (H.set c o) H':=λ a ob e=>by
 by_cases q:a=c
 ·subst q;rw [MH.set_self] at e;(have e:=ac e;subst e);exact h
 ·rw [MH.set_ne _ _ q] at e;exact s _ _ e
theorem LS:VC C2 2 ps82 nm82 [] c82:=by
 intro us H Q X h
 refine KO (λ low aA m q aW h=>?_) h
 refine C5 h λ l0 l1 hbits m0 m1 q0 t1_=>(bw t1_ λ q1 k=>?_)
 clear h t1_
 refine ⟨rfl,?_⟩
 have hb:0<=aA/\aA<=1000000/\(2:Int).natAbs<2^64:=by rcases hbits with rfl|rfl<;>decide
 intro c hc
 generalize hL:(λ k:Nat=>(⟨10*(((k:Int)+q) %3)+q/3 %5,10*(((k:Int)+q) %3)+q/3 %5+m/4/5^k %5,(low+257*k) %2^aA.toNat::(if aW then [(q+11*k) %65536] else []),if q/15 %2=0 then "" else ("c":aw)++dg k⟩:dX))=L
 have hlits:lits low aA m q aW=(bF (m %4).toNat).map L:=by refine af hL.symm ?_;rfl
 rw [hlits] at k
 refine mh (.range (m %4)) (us:=(bF (m %4).toNat).map λ (i:Nat)=>.int i) (λ i K=>∀x y z H',MH.Sub H H'->H' c=some (.list ((bF i).map λ k=>(L k).v))->K [some (.int low),some (.int aA),some (.int m),some (.int q),some (.bool aW),some (.ref c),x,y,z] H') (λ K k=>aj (by lia) (aj (by lia) k)) rfl (λ K k=>k none none none _ (bZ hc) (MH.set_self _ _ _)) ?_ ?_
 ·intro i u N' e kk x y z H1 sub1 h1
  rw [aF] at e
  refine aL (aH.mp e) λ j hj r1_=>?_
  subst r1_
  obtain ⟨hj1,hj2⟩:=aN.mp hj
  rw [ft] at hj2
  subst hj2
  rw [bO] at hj1
  have hi3:i<4:=by lia
  have hdg:=(by decide+kernel:∀i:Nat,i<4->(dg (i:Int)).length<=2/\divOk ((5:Int)^i)=true) i hi3
  refine bM (u:=.int (10*(((i:Int)+q) %3)+q/3 %5)) ⟨d9 (by decide),rfl,rfl⟩ (bM (u:=.tuple [.int ((low+257*i) %2^aA.toNat)]) ?_ ?_)
  ·exact aj (d9 (by decide)) (aj hb (pT (decide_eq_true (gq _)) ⟨rfl,rfl⟩))
  refine eC (λ ρ K=>K [some (.int low),some (.int aA),some (.int m),some (.int q),some (.bool aW),some (.ref c),some (.int i),some (.int (10*(((i:Int)+q) %3)+q/3 %5)),some (L i).dataV] H1) (λ K k=>?_) ?_
  ·show wpSs tb0 2 [_] _ _ _ _ _
   refine bA aW ⟨rfl,rfl⟩ (λ e=>?_) (λ e=>?_)
   ·subst e hL
    exact aj (d9 (by decide)) (aj (of_decide_eq_true rfl) k)
   ·subst e hL
    exact k
  show wpE _ _ _ _ _ _ _ _
  refine jF (by rfl) (mP h1) (aj ⟨by lia,by lia,by decide⟩ (pT hdg.2 ?_))
  refine ⟨by lia,by lia,show 1+(dg (i:Int)).length<=bE from ao (oM hdg.1 1) (by decide),λ c2 hc2=>?_⟩
  have n2:c2≠c:=cH hc2 h1 bH
  refine cZ (MH.set_self _ _ _) (u:=.str (L i).note) ?_ ?_
  ·refine af hL.symm ?_
   rcases (show q/15 %2=0\/q/15 %2=1 by lia) with e|e
   ·rw [e];rfl
   ·rw [e];rfl
  refine Dc ((MH.set_ne _ _ n2.symm).trans h1) (by (refine af (ag _) (af bO ?_));lia) ⟨rfl,kk _ _ λ K k=>k _ _ _ _ (a6 (a6 sub1 (sub1.none hc2)) hc) ((MH.set_self _ _ _).trans ?_)⟩
  refine af mn (af bf (af hL.symm ?_));rfl
 ·intro x y z H4 sub1 h1 _
  refine DU (HH sub1 ?_) (k c hc)
  refine h1.trans ?_
  refine af (ag _) (af bO (af cD ?_));rfl
theorem uL (h:mX ls):(ls.map dX.first).Nodup:=by
 refine nX h λ Z h1 h2 Z=>?_
 rw [uc,DP]
 refine pF ?_ h2
 intro a b ha hb hab
 have:=h1 a ha
 have:=h1 b hb
 lia
theorem qN (ha:a<2^128) (hb:b<2^200) (a0:0<=a) (b0:0<=b):Fc a b:=by
 have h1:=m9 (kA a0 ha)
 have h2:=m9 (kA b0 hb)
 unfold Fc
 intro h
 simp only [bG,decide_eq_true_eq] at h
 have h3:=h.2
 unfold Builtin.Int.intTooBig at h3
 have h4:=of_decide_eq_true h3
 have h5:PySem.bitsLine≥1000:=by decide
 lia
theorem qu {P:aw->Prop} (h:∀j:Nat,j<10->P (dg (j:Int))) (h0:0<=i) (h1:i<=9):P (dg i):=by
 refine bu (bJ h0) λ j r1_=>?_
 subst r1_
 exact h j (by lia)
theorem BS (h0:0<=i) (h1:i<10):(dg i).length<=2:=qu (P:=λ s=>s.length<=2) (by decide+kernel) h0 (bI h1)
namespace Gg
def S_ (H Q X a8 low m a b ls):=∀(aA:Int) (names:List aw) (ha:H a=some (bK.list (a7 dX.v ls))) (hb:H b=some (bK.list (a7 V.str names))) (hnames:names=[aa "mark"]\/names=[aa "mark",aa "iif"]) (hls:mX ls) (hbits:aA=32\/aA=128) (l0:0<=low) (l1:low<2^aA.toNat) (q:Q (addrV a8 low aA m ls names) H),wpSs tb0 2 c84 (frame0 nm84 ([V.int a8,V.int low,V.int aA,V.int m,V.ref a,V.ref b]++[])) H (λ x H'↦Fg Q V.none H') (Fg Q) (rB X)
def U_:=UV λ H Q X=>UV λ a8 low m=>UU λ a=>UU λ b=>S_ H Q X a8 low m a b
def t_:=dr (by have:=MI;infer_instance) U_
def H:=t_.1
def Q:=t_.2.1
def X:=t_.2.2.1
def a8:=t_.2.2.2.1
def low:=t_.2.2.2.2.1
def m:=t_.2.2.2.2.2.1
def s1_:=t_.2.2.2.2.2.2
def a:=s1_.1
def b:=s1_.2.1
def ls:=s1_.2.2
theorem P_:S_ H Q X a8 low m a b ls:=by
 intro aA names ha hb hnames hls hbits l0 l1 q
 have hbb:0<=aA/\aA<=128:=by rcases hbits with rfl|rfl<;>decide
 have p2:=gq aA.toNat
 unfold addrV at q
 refine bA (decide (a8=0)) ⟨rfl,rfl⟩ (λ e=>?_) (λ e=>?_)
 ·rw [if_pos (of_decide_eq_true e)] at q
  exact fg q
 rw [if_neg (of_decide_eq_false e)] at q
 refine bA (decide (a8=1)) ⟨rfl,rfl⟩ (λ e=>?_) (λ e=>?_)
 ·rw [if_pos (of_decide_eq_true e)] at q
  exact fg q
 rw [if_neg (of_decide_eq_false e)] at q
 refine bA (decide (a8=2)) ⟨rfl,rfl⟩ (λ e=>?_) (λ e=>?_)
 ·rw [if_pos (of_decide_eq_true e)] at q
  exact aj ⟨hbb.1,by lia,by decide⟩ (pT (decide_eq_true (Int.sub_pos_of_lt ‹_›)) (fg q))
 rw [if_neg (of_decide_eq_false e)] at q
 refine bA (decide (a8=3)) ⟨rfl,rfl⟩ (λ e=>?_) (λ e=>?_)
 ·rw [if_pos (of_decide_eq_true e)] at q
  have hm0:0<=m %(aA+1):=aQ _ (by lia)
  have hm1:m %(aA+1)<aA+1:=aM _ (by lia)
  have pw:=gq (aA -m %(aA+1)).toNat
  have pb:(2:Int)^(aA -m %(aA+1)).toNat<=2^128:=qB (by lia)
  have hm:decide (0<aA+1)=true:=decide_eq_true (dK ‹_› ‹_›)
  refine bM (u:=.int (2^(aA -m %(aA+1)).toNat)) ?_ ?_
  ·exact pT hm (aj ⟨by lia,by lia,by decide⟩ ⟨rfl,rfl⟩)
  have dv:(0:Int)<2^(aA -m %(aA+1)).toNat/\cW low (2^(aA -m %(aA+1)).toNat)=false:=⟨pw,GN (k:=129) (kA (aS _) (dK pb (by decide))) (by decide)⟩
  have fe:Fc (low/2^(aA -m %(aA+1)).toNat) (2^(aA -m %(aA+1)).toNat):=by
   refine qN ?_ ?_ (GD l0 (aS _)) (aS _)
   ·exact dK (Int.ediv_le_self _ l0) (kt l1 (qB (by lia:aA.toNat<=128)))
   ·exact dK pb (by decide)
  refine kg (λ Z=>?_) λ Z=>aj dv ?_
  ·exact aj fe (pT hm (fg q))
  ·exact aj fe (pT hm (fg q))
 rw [if_neg (of_decide_eq_false e)] at q
 refine eC (λ ρ K=>K [some (.int a8),some (.int low),some (.int aA),some (.int m),some (.ref a),some (.ref b),none,some (fieldV ("meta "++names.headD ""))] H) (λ K k=>?_) ?_
 ·rcases hnames with rfl|rfl
  ·exact cZ hb rfl (aj (of_decide_eq_true rfl) k)
  ·exact cZ hb rfl (aj (of_decide_eq_true rfl) k)
 refine eC (λ ρ K=>K [some (.int a8),some (.int low),some (.int aA),some (.int m),some (.ref a),some (.ref b),none,some (keyOf names)] H) (λ K k=>?_) ?_
 ·rcases hnames with rfl|rfl
  ·exact kQ hb (by decide) k
  ·exact kQ hb (by decide) (cZ hb rfl (aj (of_decide_eq_true rfl) k))
 refine bA (decide (a8=4)) ⟨rfl,rfl⟩ (λ e=>?_) (λ e=>?_)
 ·rw [if_pos (of_decide_eq_true e)] at q
  refine .inl ⟨ls,ha,uL hls,hls.1,λ c hc=>?_⟩
  exact ⟨_,MH.set_self _ _ _,by (refine af (ag _) (af (kK _) ?_));have:=hls.1;exact ao ‹_› (by decide),DU (bZ hc) q⟩
 ·rw [if_neg (of_decide_eq_false e)] at q
  exact ⟨aQ _ (by decide),bI (aM _ (by decide)),show 1+(dg (m %10)).length<=bE from ao (oM (BS (aQ _ (by decide)) (aM _ (by decide))) 1) (by decide),fg q⟩
theorem A_:∀p,U_ p:=bB P_
end Gg
theorem Nw:VC BR 2 ps84 nm84 [] c84:=by
 intro us H Q X h
 refine KP (λ a8 low aA m a b h=>?_) h
 refine jR h λ ls names ha hb hnames t1_=>(C5 t1_ λ hls f0 f1 hbits l0 l1 t2_=>(gJ t2_ λ m0 m1 q=>?_))
 refine ⟨rfl,?_⟩
 exact Gg.A_ (H,Q,X,a8,low,m,a,b,ls) aA names ha hb hnames hls hbits l0 l1 q
namespace FP
def S_ (H Q X gU aX lo hi dp):=∀(twice:Bool) (l0:0<=lo) (h0:0<=hi) (n0:0<=dp) (n1:dp<=16) (q:∀(p b:aI) (vs:List V) (H':MH),H' p=some (bK.list vs)->GroupsAt H' vs (pairGs gU aX lo hi dp twice)->H' b=some (bK.list (pairRegs gU aX lo hi twice))->H.Sub H'->H p=none->H b=none->Q (V.tuple [V.ref p,V.ref b]) H'),(λ ρ1 H1↦wpSs tb0 3 [S.ite (E.bop true [E.cmp lF (E.loc 5) (E.loc 6),(E.loc 4).not]) [S.ret (E.tup [E.lst [E.lst [E.tup [E.str (aa "immediate"),E.loc 0,(E.fn (aa "_law_octets") (Fn.user 81)).call [E.loc 5,E.loc 3]]]],E.lst [E.loc 0,E.loc 0]])] [],S.assign (T.loc 7) (E.lst [E.lst [E.tup [E.str (aa "immediate"),E.loc 0,(E.fn (aa "_law_octets") (Fn.user 81)).call [E.loc 5,E.loc 3]]],E.lst [E.tup [E.str (aa "immediate"),E.loc 1,(E.fn (aa "_law_octets") (Fn.user 81)).call [E.loc 6,E.loc 3]]]]),S.ret (E.tup [E.loc 7,E.lst [E.loc 0,E.loc 1]])] ρ1 H1 (λ x H'↦Fg Q V.none H') (Fg Q) (rB X)) (setAll (frame0 nm85 ([V.int gU,V.int aX,V.tuple [V.int lo,V.int hi],V.int dp,V.bool twice]++[])) [5,6] [V.int lo,V.int hi]) H
def U_:=UV λ H Q X=>UV λ gU aX lo=>UU λ hi=>S_ H Q X gU aX lo hi
def t_:=dr (by infer_instance) U_
def H:=t_.1
def Q:=t_.2.1
def X:=t_.2.2.1
def gU:=t_.2.2.2.1
def aX:=t_.2.2.2.2.1
def lo:=t_.2.2.2.2.2.1
def s1_:=t_.2.2.2.2.2.2
def hi:=s1_.1
def dp:=s1_.2
theorem P_:S_ H Q X gU aX lo hi dp:=by
 intro twice l0 h0 n0 n1 q
 have new:∀{G:MH} {a b:aI} {o:bK},(G.set a o) b=none->b≠a/\G b=none:=λ {G a b o} f=>by
  have:b≠a:=cH f (MH.set_self _ _ _) bH
  exact ⟨this,by rw [MH.set_ne _ _ this] at f;exact f⟩
 unfold pairGs pairRegs at q
 refine bA (decide (lo=hi/\twice=false)) ?_ (λ e=>?_) (λ e=>?_)
 ·refine rQ (λ e=>?_) λ e=>⟨congrArg V.bool (decide_eq_false λ z=>of_decide_eq_false e z.1).symm,rfl⟩
  cases twice
  ·exact ⟨congrArg V.bool (decide_eq_true ⟨of_decide_eq_true e,rfl⟩).symm,rfl⟩
  ·exact ⟨congrArg V.bool (decide_eq_false λ z=>nomatch z.2).symm,rfl⟩
 ·have e:=of_decide_eq_true e
  rw [if_pos e,if_pos e] at q
  refine bR DC ⟨l0,n0,n1,λ c hc d hd b hb=>?_⟩
  exact bw (new hd) λ nd hd'=>(bw (new hb) λ bd hb=>(bw (new hb) λ bc hb'=>(fg (q d b [.ref c] _ ((MH.set_ne _ _ bd.symm).trans (MH.set_self _ _ _)) ⟨⟨c,rfl,(MH.set_ne _ _ bc.symm).trans ((MH.set_ne _ _ nd.symm).trans (MH.set_self _ _ _))⟩,trivial⟩ (MH.set_self _ _ _) (a6 (a6 (bZ hc) hd') hb') hd' hb'))))
 ·have e:=of_decide_eq_false e
  rw [if_neg e,if_neg e] at q
  refine bR DC ⟨l0,n0,n1,λ c hc=>?_⟩
  refine bR DC ⟨h0,n0,n1,λ c2 hc2 d hd b hb=>?_⟩
  refine bw (new hc2) λ n2 hc2'=>(bw (new hd) λ dc2 hd=>(bw (new hd) λ dc hd'=>(bw (new hb) λ bd hb=>(bw (new hb) λ bc2 hb=>(bw (new hb) λ bc hb'=>?_)))))
  exact fg (q d b [.ref c,.ref c2] _ ((MH.set_ne _ _ bd.symm).trans (MH.set_self _ _ _)) ⟨⟨c,rfl,(MH.set_ne _ _ bc.symm).trans ((MH.set_ne _ _ dc.symm).trans ((MH.set_ne _ _ n2.symm).trans (MH.set_self _ _ _)))⟩,⟨c2,rfl,(MH.set_ne _ _ bc2.symm).trans ((MH.set_ne _ _ dc2.symm).trans (MH.set_self _ _ _))⟩,trivial⟩ (MH.set_self _ _ _)
   (a6 (a6 (a6 (bZ hc) hc2') hd') hb') hd' hb')
theorem A_:∀p,U_ p:=bB P_
end FP
theorem MR:VC Dm 3 ps85 nm85 [] c85:=by
 intro us H Q X h
 refine Kt (λ gU aX lo hi dp twice h=>?_) h
 refine wG h λ l0 h0 n0 n1 q=>?_
 refine ⟨rfl,rfl,?_⟩
 exact FP.A_ (H,Q,X,gU,aX,lo,hi,dp) twice l0 h0 n0 n1 q
theorem CP {l:List Int} (h:l.length=4):∃a b c d,l=[a,b,c,d]:=BO (List.exists_cons_of_length_eq_add_one h) λ a t e=>by
 subst e
 exact iF (mx (ua h)) λ b c d e=>⟨a,b,c,d,congrArg _ e⟩
theorem CZ (h0:0<=i) (h1:i<=9):(dg i).length=1:=qu (P:=λ s=>s.length=1) (by decide+kernel) h0 h1
theorem qH (zs:List Int) (k:Int):0<=digit zs k/\digit zs k<2^64:=by
 unfold digit
 split
 ·exact ⟨aQ _ (by decide),aM _ (by decide)⟩
 ·exact ⟨by decide,by decide⟩
theorem Db (l:List Int) (x:Int):numOf (l++[x])=numOf l*256+x:=by
 unfold numOf;refine af qd ?_;rfl
theorem vx (n:Int) (k:Nat):octets n ((k+1:Nat):Int)=octets (n/256) k++[n %256]:=by
 unfold octets
 refine af (cJ _) (af (cJ _) (af mn (af bf ?_)))
 congr 1
 ·refine gu λ i hi=>?_
  have hi:=ca.mp hi
  have:k+1 -1 -i=(k -1 -i)+1:=by (exact af (Nat.add_sub_cancel _ _) (af (Nat.sub_right_comm _ _ _) (af (Nat.sub_add_cancel (D0 hi)) rfl)))
  exact af this (af (jS _ _) (af (Int.mul_comm (256^(k -1 -i)) 256) (af (xa (by decide)) rfl)))
 ·simp
theorem mY:∀(k:Nat) (n:Int),numOf (octets n k)=n %256^k
 |0,n=>by
  have:octets n ((0:Nat):Int)=[]:=rfl
  refine af this ?_;simp [numOf]
 |k+1,n=>by
  refine af (vx _ _) (af (Db _ _) (af (mY k (n/256)) (af (jS _ _) (af (Int.mul_comm ((256:Int)^k) 256) ?_))))
  have h1:=zi n 256
  have hp:(0:Int)<256^k:=by refine af (uB _) ?_;exact gq _
  have h2:=aQ (n/256) (iJ hp)
  have h3:=aM (n/256) hp
  have h4:=zi (n/256) (256^k)
  have h5:=aQ n (show (256:Int)≠0 by decide)
  have h6:=aM n (show (0:Int)<256 by decide)
  have e:n=(256*256^k)*(n/256/256^k)+(n/256 %256^k*256+n %256):=by
   have:(256*256^k)*(n/256/256^k)=256*(256^k*(n/256/256^k)):=Int.mul_assoc _ _ _
   refine af this ?_;lia
  have hlt:n/256 %256^k*256+n %256<256*256^k:=by lia
  conv=>rhs;rw [e]
  rw [Int.mul_add_emod_self_left,iH (by lia) hlt]
theorem xk {k:Nat}:(octets n k).length=k:=by unfold octets;simp
theorem qw (hlv:2<lv) (hρ:framesOf ρ [(aa "j")] fr=[none,some (.tuple (base.map .int)),some (.flist (zs.map .int)),some (.int k)])
  (hk:0<=k/\k<=5) (hm:dp<=base.length) (hm2:dp<=7) (hz:zs.length<=1000) (q:Q ((nums base zs k dp).map .int) H):
  compTurns (λ v H2 R=>wpE tb0 lv false (.bin .Add (.sub (.loc 1) (.loc 0)) (.call (.fn (aa "_law_digit") (.user 80)) [(.loc 2),(.bin .Add (.bin .Mult (.int 7) (.loc 3)) (.loc 0))])) ((framesOf ρ [(aa "j")] fr).set 0 (some v)) H2 R jU)
   (λ v H2 R=>wpC tb0 lv none ((framesOf ρ [(aa "j")] fr).set 0 (some v)) H2 R) ((bF dp).map λ (i:Nat)=>V.int i) [] H Q:=by
 refine af hρ ?_
 refine eN (λ u=>match u with
   |.int i=>.int (base.getD i.toNat 0+digit zs (7*k+i))
   |_=>.none) (λ u R h=>h) (λ u hu R h=>?_) ?_
 ·refine aL (bC.mp hu) λ i hi r1_=>?_
  subst r1_
  have hi:=ca.mp hi
  refine ji (u:=V.int (base.getD (i:Int).toNat 0)) (wu ⟨aS _,by lia⟩ ?_) ?_
  ·have hk:(i:Int).toNat<base.length:=ao ‹_› ‹_›
   refine af (aF) (af (aJ) (af (an hk) ?_));rfl
  refine aj (d9 (by decide)) (bR EU ?_ (hU.mpr hlv))
  exact ⟨zs,rfl,by lia,by lia,hz,h⟩
 ·refine af (dx _) (af cD ?_)
  have:(nums base zs k dp).map V.int=(bF dp).map ((λ u=>match u with
   |.int i=>.int (base.getD i.toNat 0+digit zs (7*k+i))
   |_=>.none)∘λ (i:Nat)=>V.int i):=by
   unfold nums
   refine af cD ?_
   refine gu λ i Z=>?_
   rfl
  exact af this.symm q
theorem rJ {base zs:List Int} (hb:∀x∈base,0<=x/\x<2^127) (j:Nat) (k:Int):0<=base.getD j 0+digit zs k/\base.getD j 0+digit zs k<2^128:=by
 refine bw (qH zs k) λ d0 d1=>?_
 have:0<=base.getD j 0/\base.getD j 0<2^127:=by
  refine af (aJ) ?_
  cases e:base[j]? with
  |none=>exact ⟨by decide,by decide⟩
  |some x=>exact hb x (aZ e)
 lia
theorem Ag:(aa "meta "++aa "mark":aw)=aa "meta mark":=by decide
theorem D6:(aa "meta "++aa "l4proto":aw)=aa "meta l4proto":=by decide
theorem iT.one {T order t c row c1} (h:ip T order t c row c1):iT T order t c [row] c1:=.cons h (.nil _ _)
theorem iT.two {T order t c row c1 row2 c2} (h:ip T order t c row c1) (h2:ip T order (t+1) c1 row2 c2):iT T order t c [row,row2] c2:=.cons h (.cons h2 (.nil _ _))
theorem yy {sl:cY} (h:∀i,i<0->sl i=none) (hg:0<=g):∀i,i<0->sl.put g x i=none:=λ i hi=>by
 unfold cY.put
 refine af (if_neg (by lia)) ?_;exact h i hi
theorem zT {T order kind name} (h:kind=("expect":aw)\/kind=("flow":aw)) (hd:datV 12 (.tuple [.str kind,.str name])=true):PartOk T order [.tuple [.str kind,.str name]] [(0,.tuple [.str kind,.str name])]:=
 ⟨aO rfl,aO rfl,(λ p hp=>by simp at hp;subst hp;exact hd),λ t c hc=>⟨_,.one (.same kind name h),hc,by simp⟩⟩
theorem E1 {T order} (h0:0<=n) (h1:n<256):PartOk T order [.tuple [.str "meta",.int 0,.str "l4proto",.int 1,.str "big"],.tuple [.str "cmp",.str "==",.int 0,.bytes [n]]]
  [(1,matchV (fieldV "meta l4proto") "==" n)]:=by
 refine ⟨aO rfl,aO rfl,(λ p hp=>by cases aK.mp hp;kernel_rfl),λ t c hc=>⟨_,.two (.met 0 "l4proto" 1 "big" (by decide)) (.cmp "==" 0 [n] "meta l4proto" "big" 1 ⟨by simp;lia,by simp⟩ ?_ (.inr ⟨rfl,rfl,rfl⟩) (.inl (by (exact af (if_neg (by decide)) rfl)))),yy hc (by decide),?_⟩⟩
 ·dsimp only [cY.put]
  exact af (if_pos rfl) (af D6 rfl)
 ·show _++[(t+1,matchV (fieldV "meta l4proto") "==" (numIn [n] (if ("big":aw)="host" then order else "big")))]=_
  refine af (if_neg (by decide)) ?_
  simp [numIn,numOf]
theorem At {T order} (hg:0<=g) (ho:order=("big":aw)\/order=("little":aw)) (hb:il b) (hn:numIn b order=n) (hop:aT (.str op)=true):
  PartOk T order [.tuple [.str "meta",.int g,.str "mark",.int 4,.str "host"],.tuple [.str "cmp",.str op,.int g,.bytes b]] [(1,matchV (fieldV "meta mark") op n)]:=by
 refine ⟨aO rfl,aO rfl,(λ p hp=>by cases aK.mp hp;exact (congrArg (λ b=>datV 11 (.str "match")&&(datV 11 (fieldV "meta mark")&&(b&&(datV 11 (.tuple [.str "num",.int n])&&true)))) hop).trans (by kernel_rfl)),λ t c hc=>⟨_,.two (.met g "mark" 4 "host" (by decide)) (.cmp op g b "meta mark" "host" 4 hb ?_ (.inl rfl) (by exact af (if_pos rfl) ho)),yy hc hg,?_⟩⟩
 ·dsimp only [cY.put]
  exact af (if_pos rfl) (af Ag rfl)
 ·show _++[(t+1,matchV (fieldV "meta mark") op (numIn b (if ("host":aw)="host" then order else "host")))]=_
  refine af (if_pos rfl) (af hn ?_);simp
namespace FX
def S_ (H Q X k base zs):=∀(order:aw) (hl:5<=base.length) (hb:∀(x:Int),x∈base->0<=x/\x<2^127) (hz:zs.length<=1000) (k0:0<=k) (k1:k<=5) (ho:order=aa "big"\/order=aa "little") (q:∀(a b:aI) (rows:List V) (jP:List (Int×V)) (H':MH),H' a=some (bK.list rows)->H' b=some (bK.list (a7 stV jP))->H.Sub H'->H a=none->H b=none->(∀(T:iX),PartOk T order rows jP)->Q (V.tuple [V.ref a,V.ref b]) H'),wpSs tb0 3 c87 (frame0 nm87 ([V.tuple (a7 V.int base),V.flist (a7 V.int zs),V.int k,V.str order]++[])) H (λ x H'↦Fg Q V.none H') (Fg Q) (rB X)
def U_:=UV λ H Q X=>UU λ k=>UU λ base=>S_ H Q X k base
def t_:=dr (by infer_instance) U_
def H:=t_.1
def Q:=t_.2.1
def X:=t_.2.2.1
def k:=t_.2.2.2.1
def base:=t_.2.2.2.2.1
def zs:=t_.2.2.2.2.2
namespace Fz
def S_ (c n m p r H1):=∀(order:aw) (ho:order=aa "big"\/order=aa "little") (q:∀(a b:aI) (rows:List V) (jP:List (Int×V)) (H':MH),H' a=some (bK.list rows)->H' b=some (bK.list (a7 stV jP))->H.Sub H'->H a=none->H b=none->(∀(T:iX),PartOk T order rows jP)->Q (V.tuple [V.ref a,V.ref b]) H') (hm:m=base.getD 2 0+digit zs (7*k+↑2)) (hp:p=base.getD 3 0+digit zs (7*k+↑3)) (hr:r=base.getD 4 0+digit zs (7*k+↑4)) (s1:H.Sub H1),wpSs tb0 3 [S.ite (E.cmp lF (E.bin dA (E.loc 4) (E.int 8)) (E.int 6)) [S.assign (T.loc 9) (E.tup [(E.lst [E.str (aa "expect"),E.str (aa "flow")]).sub (E.bin dA (E.loc 6) (E.int 2)),E.bin k8 (E.str (aa "o")) ((E.fn (aa "str") (Fn.ty "str")).call [E.bin dA (E.loc 8) (E.int 10)])]),S.ret (E.tup [E.lst [E.loc 9],E.lst [E.tup [E.int 0,E.loc 9]]])] [],S.ite (E.cmp lF (E.bin dA (E.loc 6) (E.int 2)) (E.int 0)) [S.assign (T.loc 10) ((E.lst [E.int 6,E.int 17,E.int 1,E.int 58]).sub (E.bin dA (E.loc 8) (E.int 4))),S.assign (T.loc 11) (E.lst [E.tup [E.str (aa "meta"),E.int 0,E.str (aa "l4proto"),E.int 1,E.str (aa "big")],E.tup [E.str (aa "cmp"),E.str (aa "=="),E.int 0,(E.fn (aa "bytes") (Fn.ty "bytes")).call [E.lst [E.loc 10]]]]),S.ret (E.tup [E.loc 11,E.lst [E.tup [E.int 1,E.tup [E.str (aa "match"),E.tup [E.str (aa "field"),E.str (aa "meta l4proto")],E.str (aa "=="),E.tup [E.str (aa "num"),E.loc 10]]]]])] [],S.assign (T.loc 12) ((E.fn (aa "_law_octets") (Fn.user 81)).call [E.bin dA (E.loc 5) (E.bin nO (E.int 2) (E.int 32)),E.int 4]),S.ite (E.cmp lF (E.loc 3) (E.str (aa "little"))) [S.assign (T.loc 12) ((E.fn (aa "bytes") (Fn.ty "bytes")).call [E.lst [(E.loc 12).sub (E.int 3),(E.loc 12).sub (E.int 2),(E.loc 12).sub (E.int 1),(E.loc 12).sub (E.int 0)]])] [],S.assign (T.loc 13) ((E.lst [E.str (aa "=="),E.str (aa "!=")]).sub (E.bin dA (E.loc 8) (E.int 2))),S.assign (T.loc 11) (E.lst [E.tup [E.str (aa "meta"),E.bin dA (E.loc 7) (E.int 16),E.str (aa "mark"),E.int 4,E.str (aa "host")],E.tup [E.str (aa "cmp"),E.loc 13,E.bin dA (E.loc 7) (E.int 16),E.loc 12]]),S.ret (E.tup [E.loc 11,E.lst [E.tup [E.int 1,E.tup [E.str (aa "match"),E.tup [E.str (aa "field"),E.str (aa "meta mark")],E.loc 13,E.tup [E.str (aa "num"),E.bin dA (E.loc 5) (E.bin nO (E.int 2) (E.int 32))]]]]])] [some (V.tuple (a7 V.int base)),some (V.flist (a7 V.int zs)),some (V.int k),some (V.str order),some (V.int c),some (V.int n),some (V.int m),some (V.int p),some (V.int r),none,none,none,none,none] H1 (λ x H'↦Fg Q V.none H') (Fg Q) (rB X)
def U_:=UV λ c n m=>UU λ p=>UU λ r=>S_ c n m p r
def t_:=dr (by infer_instance) U_
def c:=t_.1
def n:=t_.2.1
def m:=t_.2.2.1
def p:=t_.2.2.2.1
def r:=t_.2.2.2.2.1
def H1:=t_.2.2.2.2.2
theorem P_:S_ c n m p r H1:=by
 intro order ho q hm hp hr s1
 have new:∀{G:MH} {a b:aI} {o:bK},(G.set a o) b=none->b≠a/\G b=none:=λ {G a b o} f=>by
  have:b≠a:=cH f (MH.set_self _ _ _) bH
  exact ⟨this,by rw [MH.set_ne _ _ this] at f;exact f⟩
 refine bA (decide (c %8=6)) ⟨rfl,rfl⟩ (λ e=>?_) (λ e=>?_)
 ·
  have dl:=CZ (i:=r %10) (by lia) (by lia)
  refine dO (λ K=>∀(kind:aw) H',MH.Sub H H'->(kind="expect"\/kind="flow")->K (.tuple [.str kind,.str (("o":aw)++dg (r %10))]) H') (λ K kk=>?_) ?_
  ·intro d hd
   rcases (show m %2=0\/m %2=1 by lia) with e|e
   ·refine cZ (MH.set_self _ _ _) (by refine af e ?_;rfl) ?_
    exact ⟨aQ _ (by decide),bI (aM _ (by decide)),show 1+(dg (r %10)).length<=bE by refine af dl ?_;decide,kk _ _ (a6 s1 (s1.none hd)) (.inl rfl)⟩
   ·refine cZ (MH.set_self _ _ _) (by refine af e ?_;rfl) ?_
    exact ⟨aQ _ (by decide),bI (aM _ (by decide)),show 1+(dg (r %10)).length<=bE by refine af dl ?_;decide,kk _ _ (a6 s1 (s1.none hd)) (.inr rfl)⟩
  intro kind H2 s2 hk a ha b hb'
  refine bw (new hb') λ nb hb2=>(fg (q a b [_] [(0,_)] _ ((MH.set_ne _ _ nb.symm).trans (MH.set_self _ _ _)) (MH.set_self _ _ _) (a6 (a6 s2 (s2.none ha)) (s2.none hb2)) (s2.none ha) (s2.none hb2) λ T=>zT hk ?_))
  have hd:aT (.str (("o":aw)++dg (r %10)))=true:=qu (P:=λ s=>aT (.str (("o":aw)++s))=true) (by decide+kernel) (aQ _ (by decide)) (bI (aM _ (by decide)))
  rcases hk with rfl|rfl<;>exact (congrArg (λ b=>datV 11 (.str _)&&(b&&true)) hd).trans (by decide+kernel)
 refine bA (decide (m %2=0)) ⟨rfl,rfl⟩ (λ e2=>?_) (λ e2=>?_)
 ·
  refine dO (λ K=>∀(x:Int) H',MH.Sub H H'->0<=x->x<256->K (.int x) H') (λ K kk=>?_) ?_
  ·intro d hd
   have s2:=λ {o:bK}=>a6 (o:=o) s1 (s1.none hd)
   rcases (show r %4=0\/r %4=1\/r %4=2\/r %4=3 by lia) with e|e|e|e
   ·exact cZ (MH.set_self _ _ _) (by refine af e ?_;rfl) (kk 6 _ s2 (by decide) (by decide))
   ·exact cZ (MH.set_self _ _ _) (by refine af e ?_;rfl) (kk 17 _ s2 (by decide) (by decide))
   ·exact cZ (MH.set_self _ _ _) (by refine af e ?_;rfl) (kk 1 _ s2 (by decide) (by decide))
   ·exact cZ (MH.set_self _ _ _) (by refine af e ?_;rfl) (kk 58 _ s2 (by decide) (by decide))
  intro x H2 s2 x0 x1 d hd
  refine ⟨[x],MH.set_self _ _ _,⟨by simp;lia,by simp⟩,λ a ha b hb'=>?_⟩
  exact bw (new ha) λ na ha2=>(bw (new hb') λ nb hb3=>(bw (new hb3) λ nbd hb2=>(fg (q a b [_,_] [(1,_)] _ ((MH.set_ne _ _ nb.symm).trans (MH.set_self _ _ _)) (MH.set_self _ _ _) (a6 (a6 (a6 s2 (s2.none hd)) (s2.none ha2)) (s2.none hb2)) (s2.none ha2) (s2.none hb2) λ T=>E1 x0 x1))))
 ·
  have n32:0<=n %2^32/\n %2^32<2^32:=⟨aQ _ (by decide),aM _ (by decide)⟩
  refine bM (u:=.bytes (octets (n %2^32) 4)) ?_ ?_
  ·exact aj (by decide) (bR DC ⟨n32.1,by decide,by decide,rfl,rfl⟩)
  have hoct:=CP (xk (k:=4) (n:=n %2^32))
  have hOB:il (octets (n %2^32) 4):=gS (by decide)
  have hnum:numOf (octets (n %2^32) 4)=n %2^32:=by
   have:=mY 4 (n %2^32)
   rw [show ((4:Nat):Int)=4 by rfl] at this
   refine af this ?_
   exact iH n32.1 n32.2
  generalize octets (n %2^32) 4=oc at*
  refine iF hoct λ o1 o2 o3 t1_=>(bu t1_ λ o4 r2_=>?_)
  clear hoct t1_
  subst r2_
  refine eC (λ ρ K=>∀b H',MH.Sub H H'->il b->numIn b order=n %2^32->K [some (.tuple (base.map .int)),some (.flist (zs.map .int)),some (.int k),some (.str order),some (.int c),some (.int n),some (.int m),some (.int p),some (.int r),none,none,none,some (.bytes b),none] H') (λ K kk=>?_) ?_
  ·show wpSs tb0 3 [_] _ _ _ _ _
   refine bA (decide (order="little")) ⟨rfl,rfl⟩ (λ e=>?_) (λ e=>?_)
   ·cases of_decide_eq_true e
    have hB2:il [o4,o3,o2,o1]:=⟨λ x hx=>hOB.1 x (by simp at hx⊢;rcases hx with h|h|h|h<;>simp [h]),by simp⟩
    refine aj (of_decide_eq_true rfl) (aj (of_decide_eq_true rfl) (aj (of_decide_eq_true rfl) (aj (of_decide_eq_true rfl) λ d hd=>?_)))
    refine ⟨[o4,o3,o2,o1],MH.set_self _ _ _,hB2,kk [o4,o3,o2,o1] _ (a6 s1 (s1.none hd)) hB2 ?_⟩
    unfold numIn
    refine af (if_neg (by decide)) ?_
    exact hnum
   ·cases ho.resolve_right (of_decide_eq_false e)
    refine kk _ _ s1 hOB ?_
    unfold numIn
    exact af (if_pos rfl) hnum
  intro b H2 s2 hB hnB
  refine dO (λ K=>∀(op:aw) H',MH.Sub H H'->aT (.str op)=true->K (.str op) H') (λ K kk=>?_) ?_
  ·intro d hd
   have s3:=λ {o:bK}=>a6 (o:=o) s2 (s2.none hd)
   rcases (show r %2=0\/r %2=1 by lia) with e|e
   ·exact cZ (MH.set_self _ _ _) (by refine af e ?_;rfl) (kk "==" _ s3 (by decide+kernel))
   ·exact cZ (MH.set_self _ _ _) (by refine af e ?_;rfl) (kk "!=" _ s3 (by decide+kernel))
  intro op H3 s3 hop a ha
  exact aj (by decide) λ b2 hb'=>(bw (new hb') λ nb hb2=>(fg (q a b2 [_,_] [(1,_)] _ ((MH.set_ne _ _ nb.symm).trans (MH.set_self _ _ _)) (MH.set_self _ _ _) (a6 (a6 s3 (s3.none ha)) (s3.none hb2)) (s3.none ha) (s3.none hb2) λ T=>At (aQ _ (by decide)) ho hB hnB hop)))
theorem A_:∀p,U_ p:=bB P_
end Fz
theorem P_:S_ H Q X k base zs:=by
 intro order hl hb hz k0 k1 ho q
 have bd:=λ j kk=>rJ (zs:=zs) hb j kk
 obtain ⟨c,hc⟩:∃c,c=base.getD 0 0+digit zs (7*k+(0:Nat)):=⟨_,rfl⟩
 obtain ⟨n,hn⟩:∃c,c=base.getD 1 0+digit zs (7*k+(1:Nat)):=⟨_,rfl⟩
 obtain ⟨m,hm⟩:∃c,c=base.getD 2 0+digit zs (7*k+(2:Nat)):=⟨_,rfl⟩
 obtain ⟨p,hp⟩:∃c,c=base.getD 3 0+digit zs (7*k+(3:Nat)):=⟨_,rfl⟩
 obtain ⟨r,hr⟩:∃c,c=base.getD 4 0+digit zs (7*k+(4:Nat)):=⟨_,rfl⟩
 have hnums:(nums base zs k 5).map V.int=[.int c,.int n,.int m,.int p,.int r]:=by (refine af hc (af hn (af hm (af hp (af hr ?_)))));rfl
 have bm:=(bd 2 (7*k+(2:Nat))).1;rw [<-hm] at bm
 have br:=(bd 4 (7*k+(4:Nat))).1;rw [<-hr] at br
 refine eC (λ ρ K=>∀H',MH.Sub H H'->K [some (.tuple (base.map .int)),some (.flist (zs.map .int)),some (.int k),some (.str order),some (.int c),some (.int n),some (.int m),some (.int p),some (.int r),none,none,none,none,none] H') (λ K kk=>?_) ?_
 ·refine ⟨by decide,by decide,by decide,?_⟩
  refine qw (lv:=3) (dp:=5) (fr:=[0,1,2]) (by decide) rfl ⟨k0,k1⟩ hl (by decide) hz ?_
  intro d hd
  refine af hnums ?_
  exact Cj (vE (MH.set_self _ _ _)) ⟨rfl,kk _ (bZ hd)⟩
 intro H1 s1
 exact Fz.A_ (c,n,m,p,r,H1) order ho q hm hp hr s1
theorem A_:∀p,U_ p:=bB P_
end FX
theorem Mm:VC CY 3 ps87 nm87 [] c87:=by
 intro us H Q X h
 refine Jk (λ Z Z k order h=>?_) h
 refine jR h λ base zs r1_ hl hb t2_=>(HL t2_ λ r3_ hz k0 k1 ho q=>?_)
 clear h t2_
 subst r1_
 subst r3_
 refine ⟨rfl,?_⟩
 exact FX.A_ (H,Q,X,k,base,zs) order hl hb hz k0 k1 ho q
structure oN where
 rows:List V
 fs:List (Int×Slot)
 own:List Int
def oN.Ok (T:iX) (order:aw) (g:oN):Prop:=g.rows.length<=3/\(∀i∈g.own,0<=i)/\(∀p∈g.fs,p.1∈g.own)/\
 ∀t c,∃c',iT T order t c g.rows c'/\c'.eff=c.eff/\(∀p∈g.fs,c'.sl p.1=some p.2)/\(∀i,i∉g.own->c'.sl i=c.sl i)
def oN.Apart (g h:oN):Prop:=∀i,i∈g.own->i∉h.own
theorem oN.Apart.symm {g h:oN} (x:g.Apart h):h.Apart g:=λ i hi hj=>x i hj hi
def v8 (L:List oN) (sl:cY):Prop:=∀g∈L,∀p∈g.fs,sl p.1=some p.2
theorem vA {T order}:∀(L:List oN),(∀g∈L,g.Ok T order)->L.Pairwise oN.Apart->∀t c,∃c',iT T order t c (L.map oN.rows).flatten c'/\c'.eff=c.eff/\v8 L c'.sl/\∀i,(∀g∈L,i∉g.own)->c'.sl i=c.sl i
 |[],_,_,t,c=>⟨c,.nil _ _,rfl,λ Z h=>absurd h (by simp),λ Z Z=>rfl⟩
 |g::L,hok,hp,t,c=>by
  refine nX (hok g (dD ..)) λ Z Z g3 g4=>(fy (g4 t c) λ c1 s1 e1 f1 o1=>?_)
  have hp':=dC.mp hp
  refine fy (vA L (λ h hh=>hok h (dQ _ hh)) hp'.2 (t+g.rows.length) c1) λ c2 s2 e2 f2 o2=>⟨c2,?_,e2.trans e1,λ h hh p hpp=>?_,λ i hi=>?_⟩
  ·refine af bj (af DQ ?_);exact s1.app s2
  ·rcases aY.mp hh with rfl|hh
   ·refine af (o2 p.1 (λ k hk=>hp'.1 k hk p.1 (g3 p hpp))) ?_
    exact f1 p hpp
   ·exact f2 h hh p hpp
  ·exact af (o2 i (λ k hk=>hi k (dQ _ hk))) (af (o1 i (hi g (dD ..))) rfl)
noncomputable def rawS (n k:Int):Slot:=⟨"raw",[.bytes (octets n k)],"big",(octets n k).length⟩
def eB (n k:Int):Prop:=0<=n/\0<=k/\k<=16/\n<256^k.toNat
theorem lr (h:eB n k):rawNum (rawS n k)=some n:=by
 refine nX h λ h0 h1 h2 h3=>?_
 unfold rawNum rawS
 refine af (if_pos rfl) ?_
 dsimp only
 refine bu (bJ h1) λ j r1_=>?_
 subst r1_
 rw [cJ] at h3
 exact af (mY j n) (af (iH h0 h3) rfl)
theorem gx (h:eB n k):i7 (rawS n k):=⟨by show (aa "raw")≠_;decide,λ Z=>⟨_,rfl,gS h.2.2.1⟩⟩
theorem qX {r o z}:i7 ⟨"map",r,o,z⟩:=⟨by show (aa "map")≠_;decide,λ h=>absurd (show aa "map"=aa "raw" from h) (by decide)⟩
inductive jZ (sl:cY) (size:Int) (net:Bool):Int->Int->V->Prop
 |none:jZ sl size net (-1) (-1) .none
 |map (a:Int) (r:List V) (o:aw) (z:Int):0<=a->sl a=some ⟨"map",r,o,z⟩->jZ sl size net a a (.tuple (.str "map"::r))
 |span (a b x y k:Int):0<=a->0<=b->sl a=some (rawS x k)->sl b=some (rawS y k)->eB x k->eB y k->net=false->jZ sl size net a b (.tuple [.str "span",.int x,.int y])
 |net (a b x y:Int) (j:Nat):0<=a->0<=b->sl a=some (rawS x size)->sl b=some (rawS y size)->eB x size->eB y size->net=true->j<=128->y=x+2^j -1->x %2^j=0->jZ sl size net a b (.tuple [.str "net",.int x,.int (8*size -j)])
inductive rt (sl:cY):Int->Int->Option (Int×Int)->Prop
 |none:rt sl (-1) (-1) none
 |map (a:Int) (r:List V) (o:aw) (z:Int):0<=a->sl a=some ⟨"map",r,o,z⟩->rt sl a a none
 |raw (a b x y k:Int):0<=a->0<=b->sl a=some (rawS x k)->sl b=some (rawS y k)->eB x k->eB y k->rt sl a b (some (x,y))
theorem wP {r o z} (h:0<=a) (e:sl a=some ⟨"map",r,o,z⟩):pairOf sl a a=some none:=by
 unfold pairOf
 refine af (if_neg (by lia)) (af e ?_)
 have:rawNum ⟨"map",r,o,z⟩=none:=by unfold rawNum;exact if_neg (by show aa "map"≠aa "raw";decide)
 simp only [this]
theorem qJ (h:0<=a) (ea:sl a=some (rawS x k)) (eb:sl b=some (rawS y k)) (ox:eB x k) (oy:eB y k):pairOf sl a b=some (some (x,y)):=by
 unfold pairOf
 refine af (if_neg (by lia)) (af ea (af eb ?_))
 simp only [lr ox,lr oy]
theorem zI {r6 r7 p} (neg:∀i,i<0->sl i=none) (h:rt sl r6 r7 p):(∀g t,(g=r6\/g=r7)->sl g=some t->i7 t)/\(∀a b,sl r6=some a->a.tag="raw"->sl r7=some b->b.tag="raw")/\pairOf sl r6 r7=some p:=by
 cases h with
 |none=>exact ⟨λ g t hg e=>(by rw [neg g (by lia)] at e;cases e),λ a b e=>(by rw [neg _ (jm _)] at e;cases e),if_pos (by decide)⟩
 |map a r o z h e=>exact ⟨λ g t hg e2=>by rw [show g=r6 by lia,e] at e2;cases e2;exact qX,λ a b e1 h1 e2=>by rw [e] at e1 e2;cases e1;cases e2;exact h1,wP h e⟩
 |raw a b x y k h0 h1 ea eb ox oy=>exact ⟨λ g t hg e2=>by
   rcases hg with rfl|rfl
   ·rw [ea] at e2;cases e2;exact gx ox
   ·rw [eb] at e2;cases e2;exact gx oy,λ a b e1 h1 e2=>by rw [ea] at e1;rw [eb] at e2;cases e1;cases e2;rfl,qJ h0 ea eb ox oy⟩
theorem Ng {k:Int} (h:0<=k):(256:Int)^k.toNat=2^(8*k).toNat:=by
 refine af (uB _) ?_;congr 1;lia
theorem Bg {size net r3 r4 va} (neg:∀i,i<0->sl i=none) (h:jZ sl size net r3 r4 va):(∀g t,(g=r3\/g=r4)->sl g=some t->i7 t)/\(∀a b,sl r3=some a->a.tag="raw"->sl r4=some b->b.tag="raw")/\natAddr sl r3 r4 size net (λ v=>v=some va):=by
 cases h with
 |none=>exact ⟨λ g t hg e=>(by rw [neg g (by lia)] at e;cases e),λ a b e=>(by rw [neg _ (jm _)] at e;cases e),by unfold natAddr;(exact af (if_pos (by decide)) rfl)⟩
 |map a r o z h e=>
  refine ⟨λ g t hg e2=>by rw [show g=r3 by lia,e] at e2;cases e2;exact qX,λ a b e1 h1 e2=>by rw [e] at e1 e2;cases e1;cases e2;exact h1,?_⟩
  unfold natAddr
  refine af (if_neg (by lia)) (af (wP h e) (af e ?_));rfl
 |span a b x y k h0 h1 ea eb ox oy hn=>
  refine ⟨λ g t hg e2=>by
   rcases hg with rfl|rfl
   ·rw [ea] at e2;cases e2;exact gx ox
   ·rw [eb] at e2;cases e2;exact gx oy,λ a b e1 h1 e2=>by rw [ea] at e1;rw [eb] at e2;cases e1;cases e2;rfl,?_⟩
  unfold natAddr
  refine af (if_neg (by lia)) (af (qJ h0 ea eb ox oy) (af hn ?_));rfl
 |net a b x y j h0 h1 ea eb ox oy hn hj hy hx=>
  refine ⟨λ g t hg e2=>by
   rcases hg with rfl|rfl
   ·rw [ea] at e2;cases e2;exact gx ox
   ·rw [eb] at e2;cases e2;exact gx oy,λ a b e1 h1 e2=>by rw [ea] at e1;rw [eb] at e2;cases e1;cases e2;rfl,?_⟩
  unfold natAddr
  refine af (if_neg (by lia)) (af (qJ h0 ea eb ox oy) (af hn ?_))
  show if true=true then _ else _
  refine af (if_pos rfl) ?_
  refine ⟨j,hj,hy,ox.1,hx,ox.2.1,ox.2.2.1,?_,rfl⟩
  have:=oy.2.2.2
  rw [Ng oy.2.1] at this
  exact this
noncomputable def natRow (kind nf:V) (r3 r4 size r6 r7:Int) (told:List aw):V:=.tuple [.str "nat",kind,nf,.int r3,.int r4,.int size,.int r6,.int r7,.tuple (told.map .str)]
noncomputable def natSt (kind nf va:V) (p:Option (Int×Int)) (aV:List aw):V:=.tuple [.str "nat",kind,nf,va,pairV p,.tuple (aV.map .str)]
def qx (aV told:List aw) (net:Bool):Prop:=told.filter (·≠("netmap":aw))=aV/\told.length<=3/\net=decide (aV.length<told.length)
theorem qA {T order t c kind nf r3 r4 size r6 r7 aV told net va p} (neg:∀i,i<0->c.sl i=none) (ht:qx aV told net) (ha:jZ c.sl size net r3 r4 va) (hp:rt c.sl r6 r7 p):
  ip T order t c (natRow kind nf r3 r4 size r6 r7 told) {c with eff:=c.eff++[(t,natSt kind nf va p aV)]}:=by
 refine gJ ht λ t1 t2 t3=>?_
 refine gJ (Bg neg ha) λ a1 a2 a3=>(gJ (zI neg hp) λ b1 b2 b3=>?_)
 have:=ip.nat (T:=T) (order:=order) (t:=t) (c:=c) kind nf r3 r4 size r6 r7 told va p (ao ‹_› (by decide)) (λ g t hg e=>?_) a2 b2 ?_ b3
 ·rw [t1] at this;exact this
 ·rcases hg with h|h|h|h
  ·exact a1 g t (.inl h) e
  ·exact a1 g t (.inr h) e
  ·exact b1 g t (.inl h) e
  ·exact b1 g t (.inr h) e
 ·refine af t1 (af t3.symm ?_);exact a3
theorem wC {L:List (List V)} (h:∀g∈L,g.length<=3):L.flatten.length<=3*L.length:=by
 induction L with
 |nil=>simp
 |cons g L ih=>
  have h1:=h g (dD ..)
  have h2:=ih (λ x hx=>h x (dQ _ hx))
  refine af DQ (af az (af aP ?_));lia
noncomputable def turned (gs:List (List V)) (n:Nat):List V:=(gs.drop n++gs.take n).flatten
theorem wy {T order} (n:Nat) (hok:∀g∈L,g.Ok T order) (hp:L.Pairwise oN.Apart) (t c) (neg:∀i,i<0->c.sl i=none):
  ∃c',iT T order t c (turned (L.map oN.rows) n) c'/\c'.eff=c.eff/\v8 L c'.sl/\∀i,i<0->c'.sl i=none:=by
 have perm:(L.drop n++L.take n).Perm L:=(yh).trans (by rw [dz])
 have hok':∀g∈L.drop n++L.take n,g.Ok T order:=λ g hg=>hok g (perm.mem_iff.mp hg)
 have hp':(L.drop n++L.take n).Pairwise oN.Apart:=hp.perm perm.symm oN.Apart.symm
 refine fy (vA _ hok' hp' t c) λ c' s e f o=>⟨c',?_,e,λ g hg=>f g (perm.mem_iff.mpr hg),λ i hi=>?_⟩
 ·unfold turned
  refine af oL.symm (af jh.symm (af bf.symm ?_));exact s
 ·refine af (o i (λ g hg hm=>by have:=(hok' g hg).2.1 i hm;lia)) ?_;exact neg i hi
structure vn (T:iX) (order:aw) (gs:List (List V)) (r3 r4 r6 r7 size:Int) (net:Bool) (va va2:V) (p:Option (Int×Int)):Prop where
 some_:∃L:List oN,gs=L.map oN.rows/\(∀g∈L,g.Ok T order)/\L.Pairwise oN.Apart/\L.length<=4/\∀sl:cY,v8 L sl->jZ sl size net r3 r4 va/\jZ sl size net r3 r3 va2/\rt sl r6 r7 p
theorem ng {T order} {L:List oN} (hok:∀g∈L,g.Ok T order) (hl:L.length<=4):(turned (L.map oN.rows) n).length<=12:=by
 have perm:(L.drop n++L.take n).Perm L:=(yh).trans (by rw [dz])
 unfold turned
 refine af oL.symm (af jh.symm (af bf.symm ?_))
 have:=wC (L:=(L.drop n++L.take n).map oN.rows) (λ g hg=>by obtain ⟨x,hx,rfl⟩:=bC.mp hg;exact (hok x (perm.mem_iff.mp hx)).1)
 rw [ag,perm.length_eq] at this
 lia
theorem Dr {T order gs r3 r4 r6 r7 size net va va2 p aV told kind nf} (b:vn T order gs r3 r4 r6 r7 size net va va2 p) (ht:qx aV told net) (hd:datV 12 (natSt kind nf va p aV)=true):
  PartOk T order (turned gs n++[natRow kind nf r3 r4 size r6 r7 told]) [((turned gs n).length,natSt kind nf va p aV)]:=by
 refine fy b.some_ λ L r1_ hok hp t2_=>(bw t2_ λ hl hf=>?_)
 subst r1_
 have:=ng (n:=n) hok hl
 refine ⟨by (refine af az (af aU ?_));exact fE ‹_› (by decide),aO rfl,(λ q hq=>by rw [aK] at hq;subst hq;exact hd),λ t c neg=>?_⟩
 exact fy (wy n hok hp t c neg) λ c1 s1 e1 f1 n1=>(gJ (hf _ f1) λ h1 h2 h3=>⟨_,s1.app (.one (qA n1 ht h1 h3)),n1,by simp [e1]⟩)
theorem Bb {T order gs r3 r4 r6 r7 size net va va2 p aV told kind nf kind2} (b:vn T order gs r3 r4 r6 r7 size net va va2 p) (ht:qx aV told net) (hd:datV 12 (natSt kind nf va p aV)=true) (hd2:datV 12 (natSt kind2 nf va2 none aV)=true):
  PartOk T order (turned gs n++[natRow kind nf r3 r4 size r6 r7 told]++[natRow kind2 nf r3 r3 size (-1) (-1) told]) [((turned gs n).length,natSt kind nf va p aV),((turned gs n).length+1,natSt kind2 nf va2 none aV)]:=by
 refine fy b.some_ λ L r1_ hok hp t2_=>(bw t2_ λ hl hf=>?_)
 subst r1_
 have:=ng (n:=n) hok hl
 refine ⟨by simp only [az,aU];lia,aO rfl,(λ q hq=>by
  rcases aY.mp hq with rfl|hq
  ·exact hd
  ·rw [aK] at hq;subst hq;exact hd2),λ t c neg=>?_⟩
 refine fy (wy n hok hp t c neg) λ c1 s1 e1 f1 n1=>(gJ (hf _ f1) λ h1 h2 h3=>⟨_,(s1.app (.one (qA n1 ht h1 h3))).app (.one (qA (c:={c1 with eff:=_}) n1 ht h2 .none)),n1,?_⟩)
 simp [e1,IC]
noncomputable def immG (gU n dp:Int):oN:=⟨[immV gU n dp],[(gU,rawS n dp)],[gU]⟩
theorem uw {T order} (h0:0<=gU) (hr:eB n dp):(immG gU n dp).Ok T order:=by
 refine ⟨aO rfl,(λ i hi=>by exact af (show i=gU by simpa [immG] using hi) h0),(λ p hp=>by refine af (show p=(gU,rawS n dp) by simpa [immG] using hp) ?_;simp [immG]),λ t c=>⟨_,.one (.imm gU _ (gS hr.2.2.1)),rfl,λ p hp=>?_,λ i hi=>?_⟩⟩
 ·refine af (show p=(gU,rawS n dp) by simpa [immG] using hp) ?_
  dsimp only [cY.put]
  refine af (if_pos rfl) ?_;rfl
 ·dsimp only [cY.put]
  exact af (if_neg (by simpa [immG] using hi)) rfl
noncomputable def pairL (gU aX lo hi dp:Int) (twice:Bool):List oN:=if lo=hi/\twice=false then [immG gU lo dp] else [immG gU lo dp,immG aX hi dp]
noncomputable def pairR (gU aX lo hi:Int) (twice:Bool):Int:=if lo=hi/\twice=false then gU else aX
theorem tY:pairGs gU aX lo hi dp twice=(pairL gU aX lo hi dp twice).map oN.rows:=by
 unfold pairGs pairL
 split<;>rfl
theorem pV:pairRegs gU aX lo hi twice=[.int gU,.int (pairR gU aX lo hi twice)]:=by
 unfold pairRegs pairR
 split<;>rfl
theorem vk {T order} (h0:0<=gU) (h1:0<=aX) (hl:eB lo dp) (hh:eB hi dp):∀g∈pairL gU aX lo hi dp twice,g.Ok T order:=by
 unfold pairL
 intro g hg
 split at hg
 ·rw [aK] at hg;subst hg;exact uw h0 hl
 ·rcases aY.mp hg with rfl|hg
  ·exact uw h0 hl
  ·rw [aK] at hg;subst hg;exact uw h1 hh
theorem tE (hg:g∈pairL gU aX lo hi dp twice):∀i∈g.own,i=gU\/i=aX:=by
 unfold pairL at hg
 split at hg
 ·rw [aK] at hg;subst hg;intro i hi;exact .inl (by simpa [immG] using hi)
 ·rcases aY.mp hg with rfl|hg
  ·intro i hi;exact .inl (by simpa [immG] using hi)
  ·rw [aK] at hg;subst hg;intro i hi;exact .inr (by simpa [immG] using hi)
theorem pK (h:gU≠aX):(pairL gU aX lo hi dp twice).Pairwise oN.Apart:=by
 unfold pairL
 split
 ·exact lK _ _
 ·refine dC.mpr ⟨λ g hg=>?_,lK _ _⟩
  rw [aK] at hg;subst hg
  intro i hi hj
  rw [show i=gU by simpa [immG] using hi] at hj
  exact h (by simpa [immG] using hj)
theorem tK:(pairL gU aX lo hi dp twice).length<=2:=by
 unfold pairL
 split<;>simp
theorem pG (h:v8 (pairL gU aX lo hi dp twice) sl):sl gU=some (rawS lo dp)/\sl (pairR gU aX lo hi twice)=some (rawS hi dp):=by
 unfold pairL at h
 unfold pairR
 split at h
 ·rename_i e
  refine af (if_pos e) ?_
  have:=h (immG gU lo dp) (by simp) (gU,rawS lo dp) (by simp [immG])
  exact ⟨this,by exact af e.1.symm this⟩
 ·rename_i e
  refine af (if_neg e) ?_
  exact ⟨h (immG gU lo dp) (by simp) (gU,rawS lo dp) (by simp [immG]),h (immG aX hi dp) (by simp) (aX,rawS hi dp) (by simp [immG])⟩
theorem vK (h0:0<=gU) (h1:0<=aX):0<=pairR gU aX lo hi twice:=by
 unfold pairR;split<;>assumption
noncomputable def metaV (g:Int) (nm:aw):V:=.tuple [.str "meta",.int g,.str nm,.int 4,.str "host"]
noncomputable def layOf (size:Int) (aW:Bool):List (Int×aw):=if aW then [(size,"big"),(2,"big")] else [(size,"big")]
noncomputable def mapSlot (T:iX) (names:List aw) (name:aw) (z:Int):Slot:=⟨"map",[keyOf names,whereV T name "map"],"big",z⟩
noncomputable def mapRows (at_:Int) (names:List aw) (name:aw) (a size:Int) (aW:Bool):List V:=((bF names.length).map λ (j:Nat)=>metaV (at_+j) (names.getD j ""))++[.tuple [.str "map",.int at_,.tuple (b9 names.length (.tuple [.int 4,.str "host"])),.str name,.int a,layV (layOf size aW)]]
noncomputable def mapG (T:iX) (at_:Int) (names:List aw) (name:aw) (a size:Int) (aW:Bool):oN:=⟨mapRows at_ names name a size aW,(a,mapSlot T names name size)::(if aW then [(a+size/4,mapSlot T names name 2)] else []),[at_,at_+1,a,a+size/4]⟩
noncomputable def fS (nm:aw):Slot:=⟨"field",[.str ("meta "++nm)],"host",4⟩
theorem oE {T:iX} (he:e=⟨"map",[keyOf names,whereV T name "map"],"",0⟩) (hs:size=4\/size=16):
  (∀p∈(a,mapSlot T names name size)::(if aW then [(a+size/4,mapSlot T names name 2)] else []),mapPut e sl a (layOf size aW) p.1=some p.2)/\∀i,i≠a->i≠a+size/4->mapPut e sl a (layOf size aW) i=sl i:=by
 subst he
 have hz:slotsOf size=size/4:=by rcases hs with rfl|rfl<;>decide
 have h1:1<=size/4:=by rcases hs with rfl|rfl<;>decide
 cases aW
 ·constructor
  ·intro p hp
   have hp:p=(a,mapSlot T names name size):=by simpa using hp
   subst hp
   show cY.put sl a _ a=_
   unfold cY.put;refine af (if_pos rfl) ?_;rfl
  ·intro i hi hj
   show cY.put sl a _ i=_
   unfold cY.put;(exact af (if_neg hi) rfl)
 ·constructor
  ·intro p hp
   have hp:p=(a,mapSlot T names name size)\/p=(a+size/4,mapSlot T names name 2):=by simpa using hp
   show cY.put (cY.put sl a _) (a+slotsOf size) _ p.1=_
   refine af hz ?_
   rcases hp with rfl|rfl
   ·unfold cY.put;(refine af (if_neg (by show ¬a=_;lia)) (af (if_pos rfl) ?_));rfl
   ·unfold cY.put;refine af (if_pos rfl) ?_;rfl
  ·intro i hi hj
   show cY.put (cY.put sl a _) (a+slotsOf size) _ i=_
   refine af hz ?_
   unfold cY.put;(exact af (if_neg hj) (af (if_neg hi) rfl))
theorem Du (hs:size=4\/size=16):(layOf size aW).length<=2/\∀p∈layOf size aW,0<=p.1/\p.1<=1000:=by
 rcases hs with rfl|rfl<;>cases aW<;>refine ⟨aO rfl,λ p hp=>?_⟩<;>simp [layOf] at hp
 ·subst hp;decide
 ·rcases hp with rfl|rfl<;>decide
 ·subst hp;decide
 ·rcases hp with rfl|rfl<;>decide
theorem Ew {T order} {at_ a size:Int} (hn:names=[("mark":aw)]\/names=[("mark":aw),("iif":aw)]) (h0:0<=at_) (a0:0<=a) (hs:size=4\/size=16):(mapG T at_ names name a size aW).Ok T order:=by
 have h1:0<=size/4:=by rcases hs with rfl|rfl<;>decide
 have hlay:=Du (aW:=aW) hs
 have nh:∀x:aw,(fS x).tag≠"half":=λ x=>by show aa "field"≠_;decide
 refine ⟨?_,?_,?_,λ t c=>?_⟩
 ·rcases hn with rfl|rfl<;>exact aO rfl
 ·intro i hi;simp [mapG] at hi;lia
 ·intro p hp
  cases aW<;>simp [mapG] at hp⊢
  ·refine af hp ?_;simp
  ·rcases hp with rfl|rfl<;>simp
 ·rcases hn with rfl|rfl
  ·have hts:∀(i:Nat) (t:Slot),[fS "mark"][i]?=some t->(c.sl.put (at_+(0:Nat)) (fS "mark")) (at_+i)=some t/\t.tag≠"half":=λ i t hi=>by
    match i,hi with
    |0,hi=>cases hi;exact ⟨by unfold cY.put;(exact af (if_pos rfl) rfl),nh _⟩
    |n+1,hi=>simp at hi
   have s2:=ip.mp (T:=T) (order:=order) (t:=t+1) (c:=⟨c.sl.put (at_+(0:Nat)) (fS "mark"),c.n+1,c.eff⟩) at_ [fS "mark"] name a (layOf size aW) hts (by simp) hlay.1 hlay.2
   have s1:=ip.met (T:=T) (order:=order) (t:=t) (c:=c) (at_+(0:Nat)) "mark" 4 "host" (by decide)
   refine bw (oE (T:=T) (names:=[("mark":aw)]) (name:=name) (a:=a) (aW:=aW) (sl:=c.sl.put (at_+(0:Nat)) (fS "mark")) rfl hs) λ f1 f2=>⟨_,.two s1 s2,rfl,f1,λ i hi=>?_⟩
   have hi:i≠at_/\i≠at_+1/\i≠a/\i≠a+size/4:=by simpa [mapG] using hi
   refine (f2 i hi.2.2.1 hi.2.2.2).trans ?_
   unfold cY.put
   exact af (if_neg (by lia)) rfl
  ·have hts:∀(i:Nat) (t:Slot),[fS "mark",fS "iif"][i]?=some t->((c.sl.put (at_+(0:Nat)) (fS "mark")).put (at_+(1:Nat)) (fS "iif")) (at_+i)=some t/\t.tag≠"half":=λ i t hi=>by
    match i,hi with
    |0,hi=>cases hi;exact ⟨by unfold cY.put;(exact af (if_neg (by lia)) (af (if_pos rfl) rfl)),nh _⟩
    |1,hi=>cases hi;exact ⟨by unfold cY.put;(exact af (if_pos rfl) rfl),nh _⟩
    |n+2,hi=>simp at hi
   have s3:=ip.mp (T:=T) (order:=order) (t:=t+1+1) (c:=⟨(c.sl.put (at_+(0:Nat)) (fS "mark")).put (at_+(1:Nat)) (fS "iif"),c.n+1+1,c.eff⟩) at_ [fS "mark",fS "iif"] name a (layOf size aW) hts (by simp) hlay.1 hlay.2
   have s1:=ip.met (T:=T) (order:=order) (t:=t) (c:=c) (at_+(0:Nat)) "mark" 4 "host" (by decide)
   have s2:=ip.met (T:=T) (order:=order) (t:=t+1) (c:=⟨c.sl.put (at_+(0:Nat)) (fS "mark"),c.n+1,c.eff⟩) (at_+(1:Nat)) "iif" 4 "host" (by decide)
   refine bw (oE (T:=T) (names:=[("mark":aw),("iif":aw)]) (name:=name) (a:=a) (aW:=aW) (sl:=(c.sl.put (at_+(0:Nat)) (fS "mark")).put (at_+(1:Nat)) (fS "iif")) rfl hs) λ f1 f2=>⟨_,.cons s1 (.two s2 s3),rfl,f1,λ i hi=>?_⟩
   have hi:i≠at_/\i≠at_+1/\i≠a/\i≠a+size/4:=by simpa [mapG] using hi
   refine (f2 i hi.2.2.1 hi.2.2.2).trans ?_
   unfold cY.put
   exact af (if_neg (by lia)) (af (if_neg (by lia)) rfl)
theorem kP:∀{l:List S} {ρ:da} {H:MH},wpSs tb0 lv l ρ H (λ ρ H=>wpSs tb0 lv r ρ H N R X) R X->wpSs tb0 lv (l++r) ρ H N R X
 |[],_,_,h=>h
 |s::_,_,_,h=>qL lW lv s (λ Z Z=>kP) (λ Z Z z=>z) (λ Z Z z=>z) h
theorem G0 (P:da->da->MH->Prop) (h:wpS tb0 lv s ρ H (P ρ) R X) (k:∀ρ' H',P ρ ρ' H'->wpSs tb0 lv r ρ' H' N R X):wpSs tb0 lv (s::r) ρ H N R X:=
 yL lW lv (P ρ) h k
theorem GroupsAt.sub (s:MH.Sub H H'):∀{vs gs},GroupsAt H vs gs->GroupsAt H' vs gs
 |[],[],_=>trivial
 |[],_::_,h=>h.elim
 |_::_,[],h=>h.elim
 |v::vs,g::gs,h=>⟨let ⟨a,e,f⟩:=h.1;⟨a,e,s _ _ f⟩,GroupsAt.sub s h.2⟩
theorem GroupsAt.app:∀{vs gs vs' gs'},GroupsAt H vs gs->GroupsAt H vs' gs'->GroupsAt H (vs++vs') (gs++gs')
 |[],[],_,_,_,h=>h
 |[],_::_,_,_,h,_=>h.elim
 |_::_,[],_,_,h,_=>h.elim
 |v::vs,g::gs,_,_,h,h'=>⟨h.1,GroupsAt.app h.2 h'⟩
theorem GroupsAt.len:∀{vs gs},GroupsAt H vs gs->vs.length=gs.length
 |[],[],_=>rfl
 |[],_::_,h=>h.elim
 |_::_,[],h=>h.elim
 |v::vs,g::gs,h=>by (exact af aP (af aP (af (GroupsAt.len h.2) rfl)))
theorem GroupsAt.drop:∀{vs gs} (n:Nat),GroupsAt H vs gs->GroupsAt H (vs.drop n) (gs.drop n)
 |_,_,0,h=>h
 |[],[],_+1,h=>trivial
 |[],_::_,_+1,h=>h.elim
 |_::_,[],_+1,h=>h.elim
 |v::vs,g::gs,n+1,h=>GroupsAt.drop n h.2
theorem GroupsAt.take:∀{vs gs} (n:Nat),GroupsAt H vs gs->GroupsAt H (vs.take n) (gs.take n)
 |_,_,0,h=>by (refine af GE (af GE ?_));trivial
 |[],[],_+1,h=>trivial
 |[],_::_,_+1,h=>h.elim
 |_::_,[],_+1,h=>h.elim
 |v::vs,g::gs,n+1,h=>⟨h.1,GroupsAt.take n h.2⟩
theorem GroupsAt.get:∀{vs gs} {i:Nat} {v:V},GroupsAt H vs gs->vs[i]?=some v->∃a g,v=.ref a/\gs[i]?=some g/\H a=some (.list g)
 |[],[],_,_,_,h=>by simp at h
 |[],_::_,_,_,h,_=>h.elim
 |_::_,[],_,_,h,_=>h.elim
 |v::vs,g::gs,0,_,h,e=>by
  cases e
  exact aL h.1 λ a e f=>⟨a,g,e,rfl,f⟩
 |v::vs,g::gs,n+1,_,h,e=>GroupsAt.get (vs:=vs) (gs:=gs) (i:=n) h.2 e
theorem tj:∀{es:List (aw×V)},es.lookup n=none->alSet es n u=es++[(n,u)]
 |[],_=>rfl
 |(m,w)::r,h=>by
  rw [aG] at h
  unfold alSet
  split at h
  ·exact b7 h
  ·rename_i q
   refine af (if_neg (by simpa using q)) (af (tj h) ?_);rfl
theorem lH.set_dict {es o v ls} (ha:H a=some (.sdict es)):lH H v ls->lH (H.set a o) v ls:=by
 rintro ⟨b,d,as,st,b8,rfl,hb,hl,hs,rfl⟩
 have ne:∀c o',H c=some o'->(∀es,o'≠.sdict es)->(H.set a o) c=some o':=λ c o' e hn=>by
  rw [MH.set_ne _ _ (λ z=>by rw [z,ha] at e;(have e:=ac e;subst e);exact hn _ rfl)];exact e
 have el:∀b8,kC H b8->kC (H.set a o) b8:=λ b8 h p hp=>by
  refine iF (h p hp) λ b d c t1_=>(bw t1_ λ e1 e2=>?_)
  clear t1_
  exact ⟨b,d,c,e1,ne _ _ e2 (by simp)⟩
 refine ⟨b,d,as,st,b8,rfl,ne _ _ hb (by simp),hl,?_,rfl⟩
 rcases hs with ⟨d,tb,h1,h2,h3,r⟩|⟨d,it,h1,h2,h3,r⟩
 ·exact .inl ⟨d,tb,ne _ _ h1 (by simp),h2.imp (λ e=>⟨ne _ _ e.1 (by simp),e.2⟩) (λ e=>ne _ _ e (by simp)),el _ h3,r⟩
 ·exact .inr ⟨d,it,ne _ _ h1 (by simp),ne _ _ h2 (by simp),el _ h3,r⟩
noncomputable def dictWith (m:Option bK) (n:aw) (v:V):bK:=match m with
 |some (.sdict es)=>.sdict (es++[(n,v)])
 |_=>.sdict [(n,v)]
theorem vw {T:iX} (h:cF H a T) (s:MH.Sub H H2) (hn:T.lookup n=none) (hl:T.length<=9) (hv:∀H'':MH,(∀x o,H x=none->H2 x=some o->H'' x=some o)->lH H'' v ls):
  cF (H2.set a (dictWith (H a) n v)) a (T++[(n,ls)]):=by
 have hva:∀o,H a≠none->lH (H2.set a o) v ls:=λ o ha=>hv _ λ x ox hx ex=>by
  have:x≠a:=λ z=>ha (by exact af z.symm hx)
  exact af (MH.set_ne _ _ this) ex
 rcases h with ⟨e,rfl⟩|⟨es,e,f,l,g⟩
 ·have ha:H a≠none:=by refine af e ?_;simp
  refine af e ?_
  refine .inr ⟨[(n,v)],MH.set_self _ _ _,rfl,aO rfl,λ m ms hm=>?_⟩
  rw [dx,aG] at hm
  refine af aG ?_
  split at hm
  ·(have hm:=ac hm;subst hm);exact ⟨v,rfl,hva _ ha⟩
  ·simp at hm
 ·have ha:H a≠none:=by refine af e ?_;simp
  refine af e ?_
  have f':=congrArg kW f
  rw [ag,ag] at f'
  refine .inr ⟨_,MH.set_self _ _ _,by (refine af bf (af bf (af f ?_)));rfl,by (refine af az (af aU ?_));exact cw ‹_›,λ m ms hm=>?_⟩
  rw [fv] at hm⊢
  cases hT:T.lookup m with
  |some x=>
   rw [hT] at hm
   have hT:=hT.trans hm
   exact aL (g m ms hT) λ w hw hs=>⟨w,by refine af hw ?_;rfl,(hs.sub s).set_dict (s _ _ e)⟩
  |none=>
   rw [hT,sx,aG] at hm
   have:es.lookup m=none:=by
    have:=j8 (n:=m) f
    rw [hT] at this
    cases h:es.lookup m with
    |none=>rfl
    |some x=>rw [h] at this;cases this
   refine af this (af sx (af aG ?_))
   split at hm
   ·(have hm:=ac hm;subst hm);exact ⟨v,rfl,hva _ ha⟩
   ·simp at hm
theorem El {H:MH} (h:D≠a):(H.set a o).del D=(H.del D).set a o:=by
 funext x
 by_cases q:x=D
 ·subst q;(exact af (MH.del_self _ _) (af (MH.set_ne _ _ h) (af (MH.del_self _ _) rfl)))
 ·refine af (MH.del_ne _ q) ?_
  by_cases q2:x=a
  ·subst q2;(exact af (MH.set_self _ _ _) (af (MH.set_self _ _ _) rfl))
  ·exact af (MH.set_ne _ _ q2) (af (MH.set_ne _ _ q2) (af (MH.del_ne _ q) rfl))
theorem del_both (s:MH.Sub H H'):MH.Sub (H.del a) (H'.del a):=λ b o e=>by
 unfold MH.del at e⊢
 split at e
 ·exact bH e
 ·rename_i h;refine af (if_neg h) ?_;exact s _ _ e
theorem uD {T:iX} (hD:H D≠none) (ne:D≠a) (h:cF (H.del D) a T) (s:MH.Sub H H2) (hn:T.lookup n=none) (hl:T.length<=9) (hv:∀H'':MH,(∀x o,H x=none->H2 x=some o->H'' x=some o)->lH H'' v ls):
  cF ((H2.set a (dictWith (H a) n v)).del D) a (T++[(n,ls)]):=by
 refine af (El ne) ?_
 have:=vw h (del_both s) hn hl (ls:=ls) (v:=v) (n:=n) λ H'' hH=>hv H'' λ x o hx ex=>by
  have:x≠D:=λ z=>hD (by exact af z.symm hx)
  exact hH x o (by exact af (MH.del_ne _ this) hx) (by exact af (MH.del_ne _ this) ex)
 rw [MH.del_ne _ ne.symm] at this
 exact this
theorem CD {T:iX} (h:cF H a T) (s:MH.Sub H H2) (hn:T.lookup n=none) (k:QN (H2.set a (dictWith (H a) n v))):eH (.ref a) (.str n) v H2 QN:=by
 rcases h with ⟨e,rfl⟩|⟨es,e,f,l,g⟩
 ·rw [e] at k
  exact y4 (s _ _ e) k
 ·rw [e] at k
  have f':=congrArg kW f
  rw [ag,ag] at f'
  have hes:es.lookup n=none:=by
   have:=j8 (n:=n) f
   rw [hn] at this
   cases h:es.lookup n with
   |none=>rfl
   |some x=>rw [h] at this;cases this
  exact Dl (s _ _ e) (by lia) (by exact af (tj hes) k)
noncomputable def wideB (aA m:Int):Int:=2^(aA -m %(aA+1)).toNat
noncomputable def endsOf (a8 low aA m:Int):Int×Int:=if a8=1 then (low,low) else if a8=2 then (low,low+m %(2^aA.toNat -low)) else (low/wideB aA m*wideB aA m,low/wideB aA m*wideB aA m+wideB aA m -1)
noncomputable def addr2 (a8 low aA m:Int) (v:V):V:=if a8=2 then .tuple [.str "span",.int low,.int low] else if a8=3 then .tuple [.str "net",.int (low/wideB aA m*wideB aA m),.int aA] else v
theorem v0 (hb:aA=32\/aA=128) (l0:0<=low) (l1:low<2^aA.toNat):0<=low/wideB aA m*wideB aA m/\low/wideB aA m*wideB aA m<=low/\low/wideB aA m*wideB aA m+wideB aA m<=2^aA.toNat/\0<wideB aA m:=by
 have h0:0<=m %(aA+1):=aQ _ (by lia)
 have h1:m %(aA+1)<aA+1:=aM _ (by lia)
 have hw:(0:Int)<wideB aA m:=gq _
 have hq:0<=low/wideB aA m:=GD l0 (fA hw)
 refine ⟨Int.mul_nonneg hq (fA hw),Int.ediv_mul_le _ (iJ hw),?_,hw⟩
 have e:(2:Int)^aA.toNat=2^(m %(aA+1)).toNat*wideB aA m:=by
  unfold wideB
  refine af (iP (Int.pow_add _ _ _)) ?_;exact congrArg ((2:Int)^·) (Eo h0 h1)
 rw [e] at l1⊢
 have:low/wideB aA m<2^(m %(aA+1)).toNat:=Int.ediv_lt_of_lt_mul hw l1
 have h2:(low/wideB aA m+1)*wideB aA m<=2^(m %(aA+1)).toNat*wideB aA m:=Int.mul_le_mul_of_nonneg_right (by lia) (fA hw)
 rw [Int.add_mul,Int.one_mul] at h2
 exact h2
theorem ul (hb:aA=32\/aA=128) (l0:0<=low) (l1:low<2^aA.toNat) (m0:0<=m):eB (endsOf a8 low aA m).1 (aA/8)/\eB (endsOf a8 low aA m).2 (aA/8):=by
 have hp:(256:Int)^(aA/8).toNat=2^aA.toNat:=by rcases hb with rfl|rfl<;>decide
 have h8:0<=aA/8/\aA/8<=16:=by rcases hb with rfl|rfl<;>decide
 unfold eB
 refine af hp ?_
 refine nX (v0 (m:=m) hb l0 l1) λ n0 n1 n2 n3=>?_
 unfold endsOf
 split
 ·exact ⟨⟨l0,h8.1,h8.2,l1⟩,⟨l0,h8.1,h8.2,l1⟩⟩
 ·split
  ·have a:=aQ m (show 2^aA.toNat -low≠0 by lia)
   have b:=aM m (show 0<2^aA.toNat -low by lia)
   refine ⟨⟨l0,h8.1,h8.2,l1⟩,⟨?_,h8.1,h8.2,?_⟩⟩
   ·show 0<=low+_
    exact HZ ‹_› ‹_›
   ·show low+_<_
    lia
  ·dsimp only
   exact ⟨⟨n0,h8.1,h8.2,dK ‹_› ‹_›⟩,⟨by lia,h8.1,h8.2,by lia⟩⟩
theorem Ch (hf:a8=1\/a8=2\/a8=3) (hb:aA=32\/aA=128) (l0:0<=low) (l1:low<2^aA.toNat) (m0:0<=m) (a0:0<=a) (b0:0<=b)
  (ea:sl a=some (rawS (endsOf a8 low aA m).1 (aA/8))) (eb:sl b=some (rawS (endsOf a8 low aA m).2 (aA/8))):
  jZ sl (aA/8) (decide (a8=3)) a b (addrV a8 low aA m ls names)/\jZ sl (aA/8) (decide (a8=3)) a a (addr2 a8 low aA m (addrV a8 low aA m ls names)):=by
 refine bw (ul (a8:=a8) hb l0 l1 m0) λ o1 o2=>(nX (v0 (m:=m) hb l0 l1) λ n0 n1 n2 n3=>?_)
 rcases hf with rfl|rfl|rfl
 ·exact ⟨.span a b low low _ a0 b0 ea eb o1 o2 rfl,.span a a low low _ a0 a0 ea ea o1 o1 rfl⟩
 ·exact ⟨.span a b low _ _ a0 b0 ea eb o1 o2 rfl,.span a a low low _ a0 a0 ea ea o1 o1 rfl⟩
 ·have h0:0<=m %(aA+1):=aQ _ (by lia)
  have h1:m %(aA+1)<aA+1:=aM _ (by lia)
  have h8:=EN hb
  constructor
  ·have:=jZ.net (sl:=sl) (size:=aA/8) (net:=decide ((3:Int)=3)) a b _ _ (aA -m %(aA+1)).toNat a0 b0 ea eb o1 o2 rfl (Hn hb h0) rfl (Int.mul_emod_left _ _)
   have e:8*(aA/8) -((aA -m %(aA+1)).toNat:Int)=m %(aA+1):=Hb h8 h1
   rw [e] at this
   exact this
  ·have:=jZ.net (sl:=sl) (size:=aA/8) (net:=decide ((3:Int)=3)) a a _ _ 0 a0 a0 ea ea o1 o1 rfl (cS _) (by lia) (by lia)
   have e:8*(aA/8) -((0:Nat):Int)=aA:=by lia
   rw [e] at this
   exact this
noncomputable def Bring1 (T:iX) (order:aw) (gs:List (List V)) (b aX r3 r4 r6 r7 size:Int) (net:Bool) (va va2:V):Prop:=
 ∃L:List oN,gs=L.map oN.rows/\(∀g∈L,g.Ok T order)/\L.Pairwise oN.Apart/\L.length<=2/\(∀g∈L,∀i∈g.own,i≠b/\i≠aX)/\∀sl:cY,v8 L sl->jZ sl size net r3 r4 va/\jZ sl size net r3 r3 va2/\rt sl r6 r7 none
theorem xw {T order b aX low aA m ls names}:Bring1 T order [] b aX (-1) (-1) (-1) (-1) 0 (decide ((0:Int)=3)) (addrV 0 low aA m ls names) (addr2 0 low aA m (addrV 0 low aA m ls names)):=
 ⟨[],rfl,nofun,.nil,by simp,nofun,λ sl Z=>⟨.none,.none,.none⟩⟩
theorem xq {T order} {ls names} (hf:a8=1\/a8=2\/a8=3) (hb:aA=32\/aA=128) (l0:0<=low) (l1:low<2^aA.toNat) (m0:0<=m) (a0:0<=a) (hab:a≠b/\a≠aX/\a+aA/8/4≠b/\a+aA/8/4≠aX):
  Bring1 T order (pairGs a (a+aA/8/4) (endsOf a8 low aA m).1 (endsOf a8 low aA m).2 (aA/8) twice) b aX a (pairR a (a+aA/8/4) (endsOf a8 low aA m).1 (endsOf a8 low aA m).2 twice) (-1) (-1) (aA/8) (decide (a8=3)) (addrV a8 low aA m ls names) (addr2 a8 low aA m (addrV a8 low aA m ls names)):=by
 refine bw (ul (a8:=a8) hb l0 l1 m0) λ o1 o2=>?_
 have h1:1<=aA/8/4:=by rcases hb with rfl|rfl<;>decide
 refine ⟨pairL a (a+aA/8/4) (endsOf a8 low aA m).1 (endsOf a8 low aA m).2 (aA/8) twice,tY,vk a0 (by lia) o1 o2,pK (by lia),tK,λ g hg i hi=>?_,λ sl hF=>?_⟩
 ·rcases tE hg i hi with rfl|rfl
  ·exact ⟨hab.1,hab.2.1⟩
  ·exact ⟨hab.2.2.1,hab.2.2.2⟩
 ·exact bw (pG hF) λ f1 f2=>(bw (Ch (ls:=ls) (names:=names) hf hb l0 l1 m0 a0 (vK a0 (by lia)) f1 f2) λ k1 k2=>⟨k1,k2,.none⟩)
theorem Ae {T order} {b aX a8 low aA m a at_:Int} (hf:a8=4/\T.lookup name=some (isort dX.first ls)\/a8=5/\name=("n":aw)++dg (m %10)/\T.lookup name=none) (hn:names=[("mark":aw)]\/names=[("mark":aw),("iif":aw)]) (hb:aA=32\/aA=128) (h0:0<=at_) (a0:0<=a)
  (hab:∀i,i=at_\/i=at_+1\/i=a\/i=a+aA/8/4->i≠b/\i≠aX):
  Bring1 T order [mapRows at_ names name a (aA/8) aW] b aX a a (if aW then a+aA/8/4 else -1) (if aW then a+aA/8/4 else -1) (aA/8) (decide (a8=3)) (addrV a8 low aA m ls names) (addr2 a8 low aA m (addrV a8 low aA m ls names)):=by
 have hs:aA/8=4\/aA/8=16:=by rcases hb with rfl|rfl<;>decide
 have h1:1<=aA/8/4:=by rcases hb with rfl|rfl<;>decide
 refine ⟨[mapG T at_ names name a (aA/8) aW],rfl,λ g hg=>?_,lK _ _,by simp,λ g hg i hi=>?_,λ sl hF=>?_⟩
 ·rw [aK] at hg;subst hg;exact Ew hn h0 a0 hs
 ·rw [aK] at hg;subst hg
  exact hab i (by simpa [mapG] using hi)
 ·have hF:=hF _ (wU _)
  have f1:=hF (a,mapSlot T names name (aA/8)) (dD ..)
  have hva:addrV a8 low aA m ls names=.tuple (.str "map"::[keyOf names,whereV T name "map"])/\addr2 a8 low aA m (addrV a8 low aA m ls names)=.tuple (.str "map"::[keyOf names,whereV T name "map"]):=by
   rcases hf with ⟨rfl,e⟩|⟨rfl,rfl,e⟩
   ·unfold whereV;rw [e];exact ⟨rfl,rfl⟩
   ·unfold whereV;rw [e];exact ⟨rfl,rfl⟩
  refine af hva.2 (af hva.1 ?_)
  refine ⟨.map a _ _ _ a0 f1,.map a _ _ _ a0 f1,?_⟩
  cases aW with
  |false=>exact .none
  |true=>
   have f2:=hF (a+aA/8/4,mapSlot T names name 2) (dQ _ (wU _))
   exact .map _ _ _ _ (show 0<=a+aA/8/4 by lia) f2
theorem vt {T order gs b aX r3 r4 r6 r7 size net va va2 x y} (h:Bring1 T order gs b aX r3 r4 r6 r7 size net va va2) (b0:0<=b) (o0:0<=aX) (hbo:b≠aX) (hx:eB x 2) (hy:eB y 2):
  vn T order (gs++pairGs b aX x y 2 twice) r3 r4 b (pairR b aX x y twice) size net va va2 (some (x,y)):=by
 refine fy h λ L r1_ h1 h2 t2_=>(gJ t2_ λ h3 h4 h5=>?_)
 clear h t2_
 subst r1_
 refine ⟨L++pairL b aX x y 2 twice,by (exact af tY (af bf rfl)),λ g hg=>?_,?_,by have:=tK (gU:=b) (aX:=aX) (lo:=x) (hi:=y) (dp:=2) (twice:=twice);refine af az ?_;lia,λ sl hF=>?_⟩
 ·rcases cv.mp hg with hg|hg
  ·exact h1 g hg
  ·exact vk b0 o0 hx hy g hg
 ·refine dP.mpr ⟨h2,pK hbo,λ g hg g' hg' i hi hi'=>?_⟩
  have:=h4 g hg i hi
  rcases tE hg' i hi' with e|e
  ·exact this.1 e
  ·exact this.2 e
 ·exact gJ (h5 sl (λ g hg=>hF g (zf _ hg))) λ k1 k2 Z=>(bw (pG (λ g hg=>hF g (List.mem_append_right _ hg))) λ f1 f2=>⟨k1,k2,.raw b _ x y 2 b0 (vK b0 o0) f1 f2 hx hy⟩)
theorem sE {T order gs b aX r3 r4 r6 r7 size net va va2} (h:Bring1 T order gs b aX r3 r4 r6 r7 size net va va2):vn T order gs r3 r4 r6 r7 size net va va2 none:=by
 refine fy h λ L r1_ h1 h2 t2_=>(gJ t2_ λ h3 h4 h5=>?_)
 clear h t2_
 subst r1_
 exact ⟨L,rfl,h1,h2,ao ‹_› (by decide),h5⟩
@[reducible] noncomputable def fr86 (k:Int) (base zs:List Int) (sets:aI) (c low m p q r s a8 aA:Int) (kind:aw) (nf:Int) (aV:List aw) (aW:Bool) (pp:Option (Int×Int)) (nA lA:aI) (jG:V) (size a b aX:Int) (twice:Bool) (x26 x27 x28 wM wq my vh wk xJ DT x36 x37 x38:Option V):da:=
 some (.int k)::some (.tuple (base.map .int))::some (.flist (zs.map .int))::some (.ref sets)::some (.int c)::some (.int low)::some (.int m)::some (.int p)::some (.int q)::some (.int r)::some (.int s)::some (.int a8)::some (.int aA)::some (.str kind)::some (.int nf)::some (.tuple (aV.map .str))::some (.bool aW)::some (pairV pp)::some (.ref nA)::some (.ref lA)::some jG::some (.int size)::some (.int a)::some (.int b)::some (.int aX)::some (.bool twice)::x26::x27::x28::wM::wq::my::vh::wk::xJ::DT::x36::x37::x38::[]
theorem bY {H:MH} (h:(H.set c o) b=none):b≠c/\H b=none:=by
 have:b≠c:=cH h (MH.set_self _ _ _) bH
 exact ⟨this,by rw [MH.set_ne _ _ this] at h;exact h⟩
theorem jl:MH.Sub (H.del a) H:=λ b o e=>by
 unfold MH.del at e
 split at e
 ·exact bH e
 ·exact e
theorem Sub.del_both (s:MH.Sub H H'):MH.Sub (H.del a) (H'.del a):=λ b o e=>by
 unfold MH.del at e⊢
 split at e
 ·cases e
 ·rename_i h;refine af (if_neg h) ?_;exact s _ _ e
theorem Dk {H:MH} (h:H b=none):(H.del a) b=none:=by
 unfold MH.del;split
 ·rfl
 ·exact h
theorem mW {H H':MH} (s:MH.Sub (H.del a) H') (ne:b≠a) (h:H b=some o):H' b=some o:=s b o (by exact af (MH.del_ne _ ne) h)
section
variable {k c low m p q r s a8 aA nf size a b aX:Int}
def mQ (T' T2:iX):Prop:=(∀n ls,T'.lookup n=some ls->T2.lookup n=some ls)/\∀i:Int,0<=i->i<=9->T2.lookup (("n":aw)++dg i)=none
theorem GJ {a b aX at_ w i:Int} (h1:a+5<=b) (h2:a+5<=aX) (ht:at_<=a+1) (hw:w<=4) (hi:i=at_\/i=at_+1\/i=a\/i=a+w):i≠b/\i≠aX:=by
 have:i<=a+4:=by rcases hi with h|h|h|h<;>(subst h;lia)
 exact ⟨by lia,by lia⟩
end
namespace wz
def S_ (k c low m p q r s nf:Int) (base zs:List Int) (sets:aI) (nA lA kind aV twice pp ls T H N R X):=∀{a8:Int} {aA:Int} {size:Int} {a:Int} {b:Int} {aX:Int} {names:List aw} {aW:Bool} {jG:V} (hk:0<=k/\k<=5) (hT:cF H sets T) (hTl:T.length<=k) (hTn:T.lookup (("s":aw)++dg k)=none) (hnA:H nA=some (.list (names.map .str))) (hlA:H lA=some (.list (ls.map dX.v))) (hn:names=[("mark":aw)]\/names=[("mark":aw),("iif":aw)]) (hls:mX ls) (hf:0<=a8/\a8<=5) (hb:aA=32\/aA=128) (l0:0<=low) (l1:low<2^aA.toNat) (m0:0<=m) (hp:aW=true->3<a8) (ha:jG=addrV a8 low aA m ls names) (hs:size=if a8=0 then 0 else aA/8) (a0:0<=a) (hab:a=0/\b=8/\aX=9\/a<=4/\12<=b/\b<=13/\14<=aX/\aX<=15) (kk:∀(H':MH) (G P M:aI) (vs:List V) (gs:List (List V)) (T':iX) (r3 r4 r6 r7:Int) (wM wq my vh wk:Option V),
   H' G=some (.list vs)->GroupsAt H' vs gs->H' P=some (.list [.int r3,.int r4])->H' M=some (.list [.int r6,.int r7])->cF H' sets T'->MH.Sub (H.del sets) H'->(T'=T\/∃ls,T'=T++[(("s":aw)++dg k,ls)])->(∀D,H D≠none->D≠sets->cF (H.del D) sets T->cF (H'.del D) sets T')->
   (∀T2 order,mQ T' T2->Bring1 T2 order gs b aX r3 r4 r6 r7 size (decide (a8=3)) jG (addr2 a8 low aA m jG))->N (fr86 k base zs sets c low m p q r s a8 aA kind nf aV aW pp nA lA jG size a b aX twice (some (.ref G)) (some (.ref P)) (some (.ref M)) wM wq my vh wk none none none none none) H'),wpSs tb0 6 d86b (fr86 k base zs sets c low m p q r s a8 aA kind nf aV aW pp nA lA jG size a b aX twice none none none none none none none none none none none none none) H N R X
def U_:=UV λ k c low=>UV λ m p q=>UV λ r s nf=>UV λ base zs sets=>UV λ nA lA kind=>UV λ aV twice pp=>UV λ ls T H=>UU λ N=>UU λ R=>S_ k c low m p q r s nf base zs sets nA lA kind aV twice pp ls T H N R
def t_:=dr (by infer_instance) U_
def k:=t_.1
def c:=t_.2.1
def low:=t_.2.2.1
def m:=t_.2.2.2.1
def p:=t_.2.2.2.2.1
def q:=t_.2.2.2.2.2.1
def s1_:=t_.2.2.2.2.2.2
def r:=s1_.1
def s:=s1_.2.1
def nf:=s1_.2.2.1
def base:=s1_.2.2.2.1
def zs:=s1_.2.2.2.2.1
def sets:=s1_.2.2.2.2.2.1
def s2_:=s1_.2.2.2.2.2.2
def nA:=s2_.1
def lA:=s2_.2.1
def kind:=s2_.2.2.1
def aV:=s2_.2.2.2.1
def twice:=s2_.2.2.2.2.1
def pp:=s2_.2.2.2.2.2.1
def s3_:=s2_.2.2.2.2.2.2
def ls:=s3_.1
def T:=s3_.2.1
def H:=s3_.2.2.1
def N:=s3_.2.2.2.1
def R:=s3_.2.2.2.2.1
def X:=s3_.2.2.2.2.2
theorem P_:S_ k c low m p q r s nf base zs sets nA lA kind aV twice pp ls T H N R X:=by
 intro a8 aA size a b aX names aW jG hk hT hTl hTn hnA hlA hn hls hf hb l0 l1 m0 hp ha hs a0 hab kk
 refine eC (λ ρ K=>∀G P M H',MH.Sub H H'->H G=none->H P=none->H M=none->H' G=some (.list [])->H' P=some (.list [.int (-1),.int (-1)])->H' M=some (.list [.int (-1),.int (-1)])->K (((ρ.set 26 (some (.ref G))).set 27 (some (.ref P))).set 28 (some (.ref M))) H') (λ K k'=>?_) ?_
 ·intro G hG P hP M hM
  refine bw (bY hP) λ n1 hP'=>(bw (bY hM) λ n2 hM'=>(bw (bY hM') λ n3 hM''=>⟨rfl,k' G P M _ (a6 (a6 (bZ hG) hP') hM'') hG hP' hM'' ?_ ?_ (MH.set_self _ _ _)⟩))
  ·exact af (MH.set_ne _ _ n3.symm) (af (MH.set_ne _ _ n1.symm) (af (MH.set_self _ _ _) rfl))
  ·exact af (MH.set_ne _ _ n2.symm) (af (MH.set_self _ _ _) rfl)
 intro G P M H1 s1 hG hP hM eG eP eM
 dsimp only [fr86,aC,aD]
 have hT1:=hT.sub s1
 have enA:=s1 _ _ hnA
 have elA:=s1 _ _ hlA
 have hsz:sets≠nA/\sets≠lA/\sets≠G/\sets≠P/\sets≠M:=by
  rcases hT with ⟨e,_⟩|⟨es,e,_⟩
  ·exact ⟨cH e hnA (λ q=>nS q rfl),cH e hlA (λ q=>nS q rfl),cH e hG b7,cH e hP b7,cH e hM b7⟩
  ·exact ⟨cH e hnA (nk rfl),cH e hlA (nk rfl),cH e hG b7,cH e hP b7,cH e hM b7⟩
 have hsets:H sets≠none:=by
  rcases hT with ⟨e,_⟩|⟨es,e,_⟩<;>refine af e ?_<;>simp
 have hlt:a+5<=b/\a+5<=aX:=by rcases hab with ⟨rfl,rfl,rfl⟩|h<;>first|decide|lia
 have hB:1<=aA/8/4/\aA/8/4<=4:=by rcases hb with rfl|rfl<;>decide
 refine bA (decide (3<a8)) ⟨rfl,rfl⟩ (λ e=>?_) (λ e=>?_)
 ·
  have e3:=of_decide_eq_true e
  have hsz2:size=aA/8:=by (exact af hs (af (if_neg (by lia)) rfl))
  have dl:=CZ (i:=k) ((Br ‹_›)) (by lia)
  have sl1:(aa "s").length=1:=by decide
  refine dO (λ K=>∀name:aw,(a8=4->name=("s":aw)++dg k)->(a8=5->name=("n":aw)++dg (m %10))->K (.str name) H1) (λ K k'=>?_) ?_
  ·by_cases e4:a8=4
   ·subst e4
    exact ⟨(Br ‹_›),by lia,show (aa "s").length+(dg k).length<=bE by (refine af sl1 (af dl ?_));decide,k' _ (λ Z=>rfl) λ h=>absurd h (by decide)⟩
   ·have e5:a8=5:=by lia
    subst e5
    subst ha
    skip
    exact k' _ (λ h=>absurd h (by decide)) λ Z=>rfl
  intro name n4 n5
  dsimp only [fr86,aC,aD]
  refine eC (λ ρ K=>∀T' H',cF H' sets T'->MH.Sub (H1.del sets) H'->(T'=T\/∃ls,T'=T++[(("s":aw)++dg k,ls)])->(a8=4->T'.lookup name=some (isort dX.first ls))->(∀D,H1 D≠none->D≠sets->cF (H1.del D) sets T->cF (H'.del D) sets T')->K ρ H') (λ K k'=>?_) ?_
  ·show wpSs tb0 6 [_] _ _ _ _ _
   refine bA (decide (a8=4)) ⟨rfl,rfl⟩ (λ e=>?_) (λ e=>?_)
   ·have e4:=of_decide_eq_true e
    have hname:=n4 e4
    refine fY _ (aj (by assumption) ?_)
    refine aj (by refine af (ag _) ?_;have:=hls.1;exact ao ‹_› (by decide)) ?_
    refine bR Mi ⟨ls,rfl,hls,λ v H2 hv s2=>?_⟩
    subst hname
    refine CD hT1 s2 hTn (k' _ _ (vw hT1 s2 hTn (by lia) hv) (λ x ox ex=>?_) (.inr ⟨_,rfl⟩) (λ Z=>?_) λ D hD nD hS=>uD hD nD hS s2 hTn (by lia) hv)
    ·have:x≠sets:=λ z=>by rw [z] at ex;simp [MH.del] at ex
     rw [MH.del_ne _ this] at ex
     refine af (MH.set_ne _ _ this) ?_;exact s2 _ _ ex
    ·exact af fv (af hTn (af sx (af aG (af (beq_self_eq_true _) rfl))))
   ·exact k' T _ hT1 jl (.inl rfl) (λ h=>absurd h (of_decide_eq_false e)) λ Z Z Z h=>h
  intro T' H2 hT2 s2 hT' hT4 hK
  have hK':∀D,H D≠none->D≠sets->cF (H.del D) sets T->cF (H2.del D) sets T':=λ D hD nD hS=>by
   exact bu (sy.mp hD) λ o ho=>(hK D (by refine af (s1 _ _ ho) ?_;simp) nD (hS.sub (del_both s1)))
  have fG:=mW s2 hsz.2.2.1.symm eG
  have fP:=mW s2 hsz.2.2.2.1.symm eP
  have fM:=mW s2 hsz.2.2.2.2.symm eM
  have fnA:=mW s2 hsz.1.symm enA
  have s12:MH.Sub (H.del sets) H2:=(Sub.del_both s1).trans s2
  have hat:0<=s/4 %2/\s/4 %2<=1:=⟨aQ _ (by decide),bI (aM _ (by decide))⟩
  refine bM (u:=.int (a+s/4 %2)) ?_ ?_
  ·exact ⟨rfl,rfl⟩
  simp only [fr86,aC,aD]
  generalize hat2:a+s/4 %2=at_
  have hnl:1<=names.length/\names.length<=2:=by rcases hn with rfl|rfl<;>decide
  refine dO (λ K=>∀A,H2 A=none->K (.ref A) (H2.set A (.list ((bF names.length).map λ (j:Nat)=>metaV (at_+j) (names.getD j ""))))) (λ K k'=>?_) ?_
  ·have hnl2:names.length<=1000000:=ao hnl.2 (by decide)
   refine kQ fnA (by exact af (ag _) hnl2) ?_
   refine af (ag _) ?_
   refine aj (aS _) (aj (by lia) (aj (by (refine af (ag _) (af bO ?_));exact hnl2) ?_))
   refine eN (λ u=>match u with
    |.int i=>metaV (at_+i) (names.getD i.toNat "")
    |_=>.none) (λ u R h=>h) (λ u hu R h=>?_) ?_
   ·refine aL (bC.mp hu) λ i hi r1_=>?_
    subst r1_
    have hi:=ca.mp hi
    refine cZ fnA (wu (u:=.str (names.getD (i:Int).toNat "")) ⟨aS i,kt (qg.mpr (cG hi hnl.2)) (by decide)⟩ ?_) ?_
    ·have hk:(i:Int).toNat<names.length:=hi
     refine af (aF) (af (aJ) (af (an hk) ?_));rfl
    ·exact h
   ·intro A hA
    refine af (dx _) (af cD ?_)
    exact k' A hA
  intro A hA
  dsimp only [fr86,aC,aD]
  have ne:∀{x:aI} {o:bK},H2 x=some o->x≠A:=λ {x o} h z=>by rw [z,hA] at h;exact bH h
  refine bM (u:=layV (layOf size aW)) ?_ ?_
  ·refine kg (b:=aW) (λ e=>?_) λ e=>?_
   ·rw [e];exact ⟨rfl,rfl⟩
   ·rw [e];exact ⟨rfl,rfl⟩
  simp only [fr86,aC,aD]
  refine dO (λ K=>∀G2 A2 H',MH.Sub H2 H'->H' G2=some (.list [.ref A2])->H' A2=some (.list (mapRows at_ names name a size aW))->K (.ref G2) H') (λ K k'=>?_) ?_
  ·have gnA:(H2.set A (.list ((bF names.length).map λ (j:Nat)=>metaV (at_+j) (names.getD j "")))) nA=some (.list (names.map .str)):=by exact af (MH.set_ne _ _ (ne fnA)) fnA
   refine kQ gnA (by refine af (ag _) ?_;exact ao hnl.2 (by decide)) ?_
   refine af (ag _) ?_
   refine aj ⟨by lia,by lia⟩ ?_
   intro B hB
   refine bw (bY hB) λ nB hB'=>(qO ((MH.set_ne _ _ nB.symm).trans (MH.set_self _ _ _)) (MH.set_self _ _ _) (by simp [bE];lia) λ D hD E hE=>(bw (bY hD) λ nD hD'=>(bw (bY hD') λ nD2 hD''=>(bw (bY hE) λ nE hE'=>(bw (bY hE') λ nE2 hE''=>(bw (bY hE'') λ nE3 hE'''=>(k' E D _ (a6 (a6 (a6 (bZ hA) hB') hD'') hE''') (MH.set_self _ _ _) ?_)))))))
   refine af (MH.set_ne _ _ nE.symm) (af (MH.set_self _ _ _) ?_)
   rfl
  intro G2 A2 H3 s3 g1 g2
  dsimp only [fr86,aC,aD]
  refine dO (λ K=>∀P2,H3 P2=none->K (.ref P2) (H3.set P2 (.list [.int a,.int a]))) (λ K k'=>k') ?_
  intro P2 hP2
  dsimp only [fr86,aC,aD]
  have s4:MH.Sub H3 (H3.set P2 (.list [.int a,.int a])):=bZ hP2
  have hfin:∀T2 order,mQ T' T2->Bring1 T2 order [mapRows at_ names name a size aW] b aX a a (if aW then a+aA/8/4 else -1) (if aW then a+aA/8/4 else -1) size (decide (a8=3)) jG (addr2 a8 low aA m jG):=λ T2 order hg=>by
   subst ha
   refine af hsz2 ?_
   refine Ae ?_ hn hb (by lia) a0 λ i hi=>GJ hlt.1 hlt.2 (by lia) hB.2 hi
   rcases (show a8=4\/a8=5 by lia) with e|e
   ·exact .inl ⟨e,hg.1 _ _ (hT4 e)⟩
   ·exact .inr ⟨e,n5 e,by refine af (n5 e) ?_;exact hg.2 _ (aQ _ (by decide)) (bI (aM _ (by decide)))⟩
  show wpSs tb0 6 [_] _ _ _ _ _
  refine bA aW ⟨rfl,rfl⟩ (λ e=>?_) (λ e=>?_)
  ·refine dO (λ K=>∀M2,(H3.set P2 (.list [.int a,.int a])) M2=none->K (.ref M2) ((H3.set P2 (.list [.int a,.int a])).set M2 (.list [.int (a+aA/8/4),.int (a+aA/8/4)]))) (λ K k'=>by exact af hsz2 k') ?_
   intro M2 hM2
   dsimp only [fr86,aC,aD]
   refine bw (bY hM2) λ nM Z=>?_
   have s5:=s4.trans (bZ (o:=.list [.int (a+aA/8/4),.int (a+aA/8/4)]) hM2)
   subst e
   exact kk _ G2 P2 M2 [.ref A2] [mapRows at_ names name a size true] T' a a _ _ _ _ _ _ _ (s5 _ _ g1) ⟨⟨A2,rfl,s5 _ _ g2⟩,trivial⟩ (by (exact af (MH.set_ne _ _ nM.symm) (af (MH.set_self _ _ _) rfl))) (MH.set_self _ _ _) ((hT2.sub s3).sub s5) (s12.trans (s3.trans s5)) hT' (λ D a b c=>(hK' D a b c).sub (del_both (s3.trans s5))) hfin
  ·subst e
   exact kk _ G2 P2 M [.ref A2] [mapRows at_ names name a size false] T' a a _ _ _ _ _ _ _ (s4 _ _ g1) ⟨⟨A2,rfl,s4 _ _ g2⟩,trivial⟩ (MH.set_self _ _ _) (s4 _ _ (s3 _ _ fM)) ((hT2.sub s3).sub s4) (s12.trans (s3.trans s4)) hT' (λ D a b c=>(hK' D a b c).sub (del_both (s3.trans s4))) hfin
 ·have e3:=of_decide_eq_false e
  show wpSs tb0 6 [_] _ _ _ _ _
  refine bA (decide (0<a8)) ⟨rfl,rfl⟩ (λ e=>?_) (λ e=>?_)
  ·have e0:=of_decide_eq_true e
   have hf':a8=1\/a8=2\/a8=3:=by lia
   have hsz2:size=aA/8:=by (exact af hs (af (if_neg (iJ ‹_›)) rfl))
   subst hsz2
   have hadr:∃x y tg,jG=.tuple [tg,.int x,.int y]/\(a8≠3->(x,y)=endsOf a8 low aA m)/\(a8=3->x=low/wideB aA m*wideB aA m/\y=m %(aA+1)):=by
    subst ha
    rcases hf' with rfl|rfl|rfl
    ·exact ⟨low,low,_,rfl,λ Z=>rfl,λ h=>absurd h (by decide)⟩
    ·exact ⟨low,_,_,rfl,λ Z=>rfl,λ h=>absurd h (by decide)⟩
    ·exact ⟨_,_,_,rfl,λ h=>absurd rfl h,λ Z=>⟨rfl,rfl⟩⟩
   refine iZ hadr λ x y tg hadr_ he1 he2=>?_
   clear hadr
   revert hadr_;intro hadr
   have g1:lL [tg,V.int x,V.int y] (ke 1) V.none=.int x:=rfl
   have g2:lL [tg,V.int x,V.int y] (ke 2) V.none=.int y:=rfl
   refine bM (u:=.tuple [.int x,.int y]) ?_ ?_
   ·refine af hadr ?_
    exact ⟨rfl,rfl⟩
   simp only [fr86,aC,aD]
   refine G0 (λ ρ ρ' H'=>ρ'=ρ.set 33 (some (.tuple [.int (endsOf a8 low aA m).1,.int (endsOf a8 low aA m).2]))/\H'=H1) ?_ ?_
   ·show wpSs tb0 6 [_] _ _ _ _ _
    refine bA (decide (a8=3)) ⟨rfl,rfl⟩ (λ e=>?_) (λ e=>?_)
    ·have e:=of_decide_eq_true e
     refine bw (he2 e) λ hx hy=>?_
     have b1:0<aA+1:=by rcases hb with rfl|rfl<;>decide
     have h0:0<=m %(aA+1):=aQ _ (iJ b1)
     have h1:m %(aA+1)<aA+1:=aM _ b1
     refine af hadr ?_
     exact aj (by lia) ⟨by (refine af hx (af hy (af e ?_)));rfl,rfl⟩
    ·have e:=of_decide_eq_false e
     have:=he1 e
     exact ⟨by refine af this.symm ?_;rfl,rfl⟩
   rintro _ H1 ⟨rfl,rfl⟩
   simp only [fr86,aC,aD]
   refine bw (ul (a8:=a8) hb l0 l1 m0) λ w1_ w2_=>?_
   obtain ⟨o1,_⟩:=w1_
   obtain ⟨o2,_⟩:=w2_
   refine bR Kl ⟨o1,o2,(Br ‹_›),by lia,λ p2 b2 vs H' h1 h2 h3 h4 h5 h6=>?_⟩
   rw [pV] at h3
   refine ⟨rfl,kk H' p2 b2 M vs _ T a _ (-1) (-1) _ _ _ _ _ h1 h2 h3 (h4 _ _ eM) (hT1.sub h4) (jl.trans (s1.trans h4)) (.inl rfl) (λ D Z Z c=>c.sub (del_both (s1.trans h4))) λ T2 order Z=>?_⟩
   subst ha
   exact xq hf' hb l0 l1 m0 a0 (by lia)
  ·have e0:=of_decide_eq_false e
   have e0:a8=0:=by lia
   subst e0
   subst ha
   rw [if_pos rfl] at hs
   subst hs
   exact kk _ G P M [] [] T (-1) (-1) (-1) (-1) _ _ _ _ _ eG trivial eP eM hT1 (jl.trans s1) (.inl rfl) (λ D Z Z c=>c.sub (del_both s1)) λ T2 order Z=>xw
theorem A_:∀p,U_ p:=bB P_
end wz
section
variable {k c low m p q r s a8 aA nf size a b aX:Int}
theorem wz {k c low m p q r s nf base zs sets nA lA kind aV twice pp ls T H N R X}:wz.S_ k c low m p q r s nf base zs sets nA lA kind aV twice pp ls T H N R X:=wz.A_ (k,c,low,m,p,q,r,s,nf,base,zs,sets,nA,lA,kind,aV,twice,pp,ls,T,H,N,R,X)
end
namespace oj
def S_ (low aA m q aW):=∀(m0:0<=m) (q0:0<=q),mX (lits low aA m q aW)/\∀x∈lits low aA m q aW,aT (.str x.note)=true
def U_:=UV λ low aA m=>UU λ q=>S_ low aA m q
def t_:=dr (by infer_instance) U_
def low:=t_.1
def aA:=t_.2.1
def m:=t_.2.2.1
def q:=t_.2.2.2.1
def aW:=t_.2.2.2.2
theorem P_:S_ low aA m q aW:=by
 intro m0 q0
 unfold lits
 refine ⟨⟨?_,?_,?_,?_⟩,?_⟩
 ·refine af (ag _) (af bO ?_);lia
 ·intro x hx
  refine aL (bC.mp hx) λ k hk r1_=>?_
  subst r1_
  dsimp only
  have:=aQ (m/4/5^k) (show (5:Int)≠0 by decide)
  lia
 ·rw [DP]
  refine pF ?_ (uc.mp List.nodup_range)
  intro i j hi hj hij
  exact KG _ (IL q hij (cG (ca.mp hi) (BU m)) (cG (ca.mp hj) (BU m))) (aM _ (by decide)) (aM _ (by decide))
 ·intro x hx
  refine aL (bC.mp hx) λ k hk r1_=>?_
  subst r1_
  simp
 ·intro x hx
  refine aL (bC.mp hx) λ k hk r1_=>?_
  subst r1_
  have hk:=ca.mp hk
  dsimp only
  split
  ·decide+kernel
  ·exact qu (P:=λ s=>aT (.str (("c":aw)++s))=true) (by decide+kernel) (aS _) (by lia)
theorem A_:∀p,U_ p:=bB P_
end oj
theorem oj {low aA m q aW}:oj.S_ low aA m q aW:=oj.A_ (low,aA,m,q,aW)
noncomputable def kinds:List aw:=["snat","dnat","masquerade","redirect"]
noncomputable def flagss:List (List aw):=[[],["random"],["persistent"],["random","persistent"]]
structure NQ (H H':MH) (low m s c a8 aA size a b aX:Int) (kind:aw) (aV names:List aw) (aW:Bool) (pp:Option (Int×Int)) (nA lA:aI) (ls:List dX) (jG:V):Prop where
 sub:MH.Sub H H'
 hnA:H' nA=some (.list (names.map .str))
 hlA:H' lA=some (.list (ls.map dX.v))
 hn:names=[("mark":aw)]\/names=[("mark":aw),("iif":aw)]
 hls:mX ls
 hno:∀x∈ls,aT (.str x.note)=true
 hf:0<=a8/\a8<=5
 hb:aA=32\/aA=128
 l0:0<=low
 l1:low<2^aA.toNat
 m0:0<=m
 s0:0<=s
 c0:0<=c
 hp:aW=true->3<a8
 hpp:aW=true->pp=none
 hpo:∀x y,pp=some (x,y)->eB x 2/\eB y 2
 ha:jG=addrV a8 low aA m ls names
 hs:size=if a8=0 then 0 else aA/8
 a0:0<=a
 hab:a=0/\b=8/\aX=9\/a<=4/\12<=b/\b<=13/\14<=aX/\aX<=15
 hk:kind∈kinds
 hfl:aV∈flagss
theorem CC (h0:0<=p) (q0:0<=q) (h:portsOf p q=some (x,y)):eB x 2/\eB y 2:=by
 have e:(256:Int)^(2:Int).toNat=65536:=by decide
 unfold portsOf at h
 split at h
 ·exact bH h
 ·have h:=ac h
  simp only [td] at h
  refine bw h λ r1_ r2_=>?_
  clear h
  subst r1_
  subst r2_
  unfold eB
  refine af e ?_
  refine ⟨⟨by lia,by decide,by decide,by lia⟩,?_,by decide,by decide,?_⟩
  ·split
   ·have:=aQ q (show 65536 -p/3 %65536≠0 by lia)
    lia
   ·lia
  ·split
   ·have:=aM q (show 0<65536 -p/3 %65536 by lia)
    lia
   ·lia
namespace vo
def S_ (k base zs sets H N):=∀{R:V->MH->Prop} {X:aw->MH->Prop} (hl:base.length=7) (hb:∀x∈base,0<=x/\x<2^127) (hz:zs.length<=1000) (hk:0<=k/\k<=5) (h6:(base.getD 0 0+digit zs (7*k)) %8<6) (kk:∀(c low m p q r s a8 aA nf size a b aX:Int) (nA lA:aI) (kind:aw) (aV names:List aw) (aW twice:Bool) (pp:Option (Int×Int)) (jG:V) (ls:List dX) (H':MH),NQ H H' low m s c a8 aA size a b aX kind aV names aW pp nA lA ls jG->N (fr86 k base zs sets c low m p q r s a8 aA kind nf aV aW pp nA lA jG size a b aX twice none none none none none none none none none none none none none) H'),wpSs tb0 6 d86a [some (.int k),some (.tuple (base.map .int)),some (.flist (zs.map .int)),some (.ref sets),none,none,none,none,none,none,none,none,none,none,none,none,none,none,none,none,none,none,none,none,none,none,none,none,none,none,none,none,none,none,none,none,none,none,none] H N R X
def U_:=UV λ k base zs=>UU λ sets=>UU λ H=>S_ k base zs sets H
def t_:=dr (by infer_instance) U_
def k:=t_.1
def base:=t_.2.1
def zs:=t_.2.2.1
def sets:=t_.2.2.2.1
def H:=t_.2.2.2.2.1
def N:=t_.2.2.2.2.2
theorem P_:S_ k base zs sets H N:=by
 intro R X hl hb hz hk h6 kk
 have bd:=λ j kk=>rJ (zs:=zs) hb j kk
 obtain ⟨c,hc⟩:∃c,c=base.getD 0 0+digit zs (7*k+(0:Nat)):=⟨_,rfl⟩
 obtain ⟨lw,hlw⟩:∃c,c=base.getD 1 0+digit zs (7*k+(1:Nat)):=⟨_,rfl⟩
 obtain ⟨m,hm⟩:∃c,c=base.getD 2 0+digit zs (7*k+(2:Nat)):=⟨_,rfl⟩
 obtain ⟨p,hp⟩:∃c,c=base.getD 3 0+digit zs (7*k+(3:Nat)):=⟨_,rfl⟩
 obtain ⟨q,hq⟩:∃c,c=base.getD 4 0+digit zs (7*k+(4:Nat)):=⟨_,rfl⟩
 obtain ⟨r,hr⟩:∃c,c=base.getD 5 0+digit zs (7*k+(5:Nat)):=⟨_,rfl⟩
 obtain ⟨s,hs⟩:∃c,c=base.getD 6 0+digit zs (7*k+(6:Nat)):=⟨_,rfl⟩
 have hnums:(nums base zs k 7).map V.int=[.int c,.int lw,.int m,.int p,.int q,.int r,.int s]:=by (refine af hc (af hlw (af hm (af hp (af hq (af hr (af hs ?_)))))));rfl
 have bc:=(bd 0 (7*k+(0:Nat))).1;rw [<-hc] at bc
 have bm:=bd 2 (7*k+(2:Nat));rw [<-hm] at bm
 have bp:=(bd 3 (7*k+(3:Nat))).1;rw [<-hp] at bp
 have bq:=bd 4 (7*k+(4:Nat));rw [<-hq] at bq
 have br:=(bd 5 (7*k+(5:Nat))).1;rw [<-hr] at br
 have bs:=(bd 6 (7*k+(6:Nat))).1;rw [<-hs] at bs
 have h6':c %8<6:=by refine af hc ?_;simpa using h6
 clear hc hlw hm hp hq hr hs
 refine eC (λ ρ K=>∀H',MH.Sub H H'->K (((((((ρ.set 4 (some (.int c))).set 5 (some (.int lw))).set 6 (some (.int m))).set 7 (some (.int p))).set 8 (some (.int q))).set 9 (some (.int r))).set 10 (some (.int s))) H') (λ K k=>?_) ?_
 ·refine ⟨by decide,by decide,by decide,?_⟩
  refine qw (lv:=6) (dp:=7) (fr:=[1,2,0]) (by decide) rfl hk (by lia) (by decide) hz ?_
  intro d hd
  refine af hnums ?_
  exact Cj (vE (MH.set_self _ _ _)) ⟨rfl,k _ (bZ hd)⟩
 intro H1 s1
 dsimp only [fr86,aC,aD]
 refine bM (u:=.int (c %8)) ⟨rfl,rfl⟩ (dO (λ K=>∀(aA:Int) H',MH.Sub H H'->(aA=32\/aA=128)->K (.int aA) H') (λ K k=>?_) ?_)
 ·intro d hd
  have sd:=λ {o:bK}=>a6 (o:=o) s1 (s1.none hd)
  rcases (show c/128 %2=0\/c/128 %2=1 by lia) with e|e
  ·exact cZ (MH.set_self _ _ _) (by refine af e ?_;rfl) (k 32 _ sd (.inl rfl))
  ·exact cZ (MH.set_self _ _ _) (by refine af e ?_;rfl) (k 128 _ sd (.inr rfl))
 intro aA H2 s2 hbits
 have hbb:0<=aA/\aA<=128:=by rcases hbits with rfl|rfl<;>decide
 have hp2:=gq aA.toNat
 refine bM (u:=.int (lw %2^aA.toNat)) ?_ ?_
 ·exact aj ⟨by lia,by lia,by decide⟩ (pT (decide_eq_true hp2) ⟨rfl,rfl⟩)
 have hl0:=aQ lw (show (2:Int)^aA.toNat≠0 by lia)
 have hl1:=aM lw hp2
 have hl2:(2:Int)^aA.toNat<=2^128:=qB (by lia)
 generalize lw %2^aA.toNat=low at*
 refine dO (λ K=>∀(kind:aw) H',MH.Sub H H'->kind∈kinds->K (.str kind) H') (λ K k=>?_) ?_
 ·intro d hd
  have sd:=λ {o:bK}=>a6 (o:=o) s2 (s2.none hd)
  rcases (show c/8 %2=0\/c/8 %2=1 by lia) with e|e
  ·exact cZ (MH.set_self _ _ _) (by refine af e ?_;rfl) (k "snat" _ sd (by decide))
  ·exact cZ (MH.set_self _ _ _) (by refine af e ?_;rfl) (k "dnat" _ sd (by decide))
 intro kind H3 s3 hkind
 refine dO (λ K=>∀(nf:Int) H',MH.Sub H H'->K (.int nf) H') (λ K k=>?_) ?_
 ·intro d hd
  have sd:=λ {o:bK}=>a6 (o:=o) s3 (s3.none hd)
  have:aA/128=0\/aA/128=1:=by rcases hbits with rfl|rfl<;>decide
  rcases this with e|e
  ·exact cZ (MH.set_self _ _ _) (by refine af e ?_;rfl) (k 2 _ sd)
  ·exact cZ (MH.set_self _ _ _) (by refine af e ?_;rfl) (k 10 _ sd)
 intro nf H4 s4
 dsimp only [fr86,aC,aD]
 refine eC (λ ρ K=>∀(kind2:aw) (nf2:Int) H',MH.Sub H H'->kind2∈kinds->K ((ρ.set 13 (some (.str kind2))).set 14 (some (.int nf2))) H') (λ K k=>?_) ?_
 ·show wpSs tb0 6 [_] _ _ _ _ _
  refine bA (decide (c %8=0)&&decide (1<c/8 %4)) ?_ (λ e=>?_) (λ e=>?_)
  ·refine rQ (b:=decide (c %8=0)) (λ e=>?_) λ e=>?_
   ·exact rQ (b:=decide (1<c/8 %4)) (λ e2=>⟨congrArg V.bool (by (refine af e (af e2 ?_));rfl),rfl⟩) λ e2=>⟨congrArg V.bool (by (refine af e (af e2 ?_));rfl),rfl⟩
   ·exact ⟨congrArg V.bool (by refine af e ?_;rfl),rfl⟩
  ·intro d hd
   have sd:=λ {o:bK}=>a6 (o:=o) s4 (s4.none hd)
   rcases (show c/8 %2=0\/c/8 %2=1 by lia) with e|e
   ·exact cZ (MH.set_self _ _ _) (by refine af e ?_;rfl) ⟨rfl,k "masquerade" 0 _ sd (by decide)⟩
   ·exact cZ (MH.set_self _ _ _) (by refine af e ?_;rfl) ⟨rfl,k "redirect" 0 _ sd (by decide)⟩
  ·exact k kind nf _ s4 hkind
 clear hkind
 intro kind nf H5 s5 hkind
 dsimp only [fr86,aC,aD]
 refine dO (λ K=>∀(aV:List aw) H',MH.Sub H H'->aV∈flagss->K (.tuple (aV.map .str)) H') (λ K k=>?_) ?_
 ·intro d hd
  have sd:=λ {o:bK}=>a6 (o:=o) s5 (s5.none hd)
  rcases (show c/32 %4=0\/c/32 %4=1\/c/32 %4=2\/c/32 %4=3 by lia) with e|e|e|e
  ·exact cZ (MH.set_self _ _ _) (by refine af e ?_;rfl) (k [] _ sd (by decide))
  ·exact cZ (MH.set_self _ _ _) (by refine af e ?_;rfl) (k ["random"] _ sd (by decide))
  ·exact cZ (MH.set_self _ _ _) (by refine af e ?_;rfl) (k ["persistent"] _ sd (by decide))
  ·exact cZ (MH.set_self _ _ _) (by refine af e ?_;rfl) (k ["random","persistent"] _ sd (by decide))
 intro aV H6 s6 hflags
 refine dO (λ K=>∀aW:Bool,(aW=true->3<c %8)->K (.bool aW) H6) (λ K k=>?_) ?_
 ·refine rQ (b:=decide (3<c %8)) (λ e=>?_) λ e=>?_
  ·exact k (decide (s/24 %2=1)) λ Z=>of_decide_eq_true e
  ·exact k (decide (3<c %8)) λ h=>of_decide_eq_true h
 intro aW hported
 refine dO (λ K=>∀pp:Option (Int×Int),(aW=true->pp=none)->(∀x y,pp=some (x,y)->eB x 2/\eB y 2)->K (pairV pp) H6) (λ K k=>?_) ?_
 ·refine kg (b:=aW) (λ e=>?_) λ e=>?_
  ·exact k none (λ Z=>rfl) nofun
  exact bR Ml ⟨bp,bq.1,k (portsOf p q) (λ h=>absurd (e.symm.trans h) (by decide)) λ x y h=>CC bp bq.1 h⟩
 intro pp hpp hpo
 refine dO (λ K=>∀nA (names:List aw) H',MH.Sub H H'->H' nA=some (.list (names.map .str))->(names=[("mark":aw)]\/names=[("mark":aw),("iif":aw)])->K (.ref nA) H') (λ K k=>?_) ?_
 ·have one:∀d,H6 d=none->K (.ref d) (H6.set d (.list [.str "mark"])):=λ d hd=>k d ["mark"] _ (a6 s6 (s6.none hd)) (MH.set_self _ _ _) (.inl rfl)
  refine rQ (λ e=>?_) λ e=>one
  refine kg (b:=decide (q %2=1)) (λ e2=>?_) λ e2=>one
  exact (λ d hd=>k d ["mark","iif"] _ (a6 s6 (s6.none hd)) (MH.set_self _ _ _) (.inr rfl))
 intro nA names H7 s7 hnA hnames
 refine dO (λ K=>∀lA H',MH.Sub H7 H'->H' lA=some (.list ((lits low aA m q aW).map dX.v))->K (.ref lA) H') (λ K k=>?_) ?_
 ·exact bR MX ⟨hl0,by lia,hbits,bm.1,by lia,bq.1,by lia,λ d hd=>k d _ (bZ hd) (MH.set_self _ _ _)⟩
 intro lA H8 s8 hlA
 refine bw (oj (low:=low) (aA:=aA) (aW:=aW) bm.1 bq.1) λ hls hno=>?_
 generalize lits low aA m q aW=ls at*
 refine dO (λ K=>K (addrV (c %8) low aA m ls names) H8) (λ K k=>?_) ?_
 ·exact bR Ma ⟨ls,names,hlA,s8 _ _ hnA,hnames,hls,aQ _ (by decide),by lia,hbits,hl0,hl1,bm.1,by lia,k⟩
 refine bM (u:=.int (if c %8=0 then 0 else aA/8)) ?_ ?_
 ·refine kg (b:=decide (c %8=0)) (λ e=>?_) λ e=>?_
  ·exact af (if_pos (of_decide_eq_true e)) ⟨rfl,rfl⟩
  ·exact af (if_neg (of_decide_eq_false e)) ⟨rfl,rfl⟩
 refine eC (λ ρ K=>∀a b aX:Int,0<=a->(a=0/\b=8/\aX=9\/a<=4/\12<=b/\b<=13/\14<=aX/\aX<=15)->K (((ρ.set 22 (some (.int a))).set 23 (some (.int b))).set 24 (some (.int aX))) H8) (λ K k=>?_) ?_
 ·refine kg (b:=decide (r %2=0)) (λ e=>?_) λ e=>?_
  ·exact ⟨rfl,k 0 8 9 (by decide) (.inl ⟨rfl,rfl,rfl⟩)⟩
  ·exact ⟨rfl,k (r/2 %5) (12+r/10 %2) (14+r/20 %2) (aQ _ (by decide)) (.inr (by lia))⟩
 intro a b aX a0 hab
 refine dO (λ K=>∀twice:Bool,K (.bool twice) H8) (λ K k=>k _) ?_
 intro twice
 dsimp only [fr86,aC,aD]
 exact kk c low m p q r s (c %8) aA nf _ a b aX nA lA kind aV names aW twice pp _ ls H8 ⟨s7.trans s8,s8 _ _ hnA,hlA,hnames,hls,hno,by lia,hbits,hl0,hl1,bm.1,bs,bc,hported,hpp,hpo,rfl,rfl,a0,hab,hkind,hflags⟩
theorem A_:∀p,U_ p:=bB P_
end vo
theorem vo {k base zs sets H N}:vo.S_ k base zs sets H N:=vo.A_ (k,base,zs,sets,H,N)
theorem GS:((bF 10).all λ i=>(bF 10).all λ k=>decide ((("n":aw)++dg (i:Int))≠(("s":aw)++dg (k:Int))))=true:=by decide+kernel
theorem GR:((bF 10).all λ i=>(bF 10).all λ k=>decide (i=k)||decide ((("s":aw)++dg (i:Int))≠(("s":aw)++dg (k:Int))))=true:=by decide+kernel
theorem IS (i0:0<=i) (i1:i<=9) (k0:0<=k) (k1:k<=9):(("n":aw)++dg i)≠(("s":aw)++dg k):=by
 refine bu (bJ i0) λ i r1_=>?_
 subst r1_
 refine bu (bJ k0) λ k r1_=>?_
 subst r1_
 have:=bl.mp (bl.mp GS i (ca.mpr (by lia))) k (ca.mpr (by lia))
 exact of_decide_eq_true this
theorem IQ (i0:0<=i) (i1:i<=9) (k0:0<=k) (k1:k<=9) (h:i≠k):(("s":aw)++dg i)≠(("s":aw)++dg k):=by
 refine bu (bJ i0) λ i r1_=>?_
 subst r1_
 refine bu (bJ k0) λ k r1_=>?_
 subst r1_
 have:=bl.mp (bl.mp GR i (ca.mpr (by lia))) k (ca.mpr (by lia))
 rcases nJ.mp this with e|e
 ·exact absurd (congrArg Int.ofNat (of_decide_eq_true e)) h
 ·exact of_decide_eq_true e
theorem mZ {T:iX} (h:∀n ls,(n,ls)∈T->∃i:Int,0<=i/\i<=9/\n=("s":aw)++dg i):mQ T T:=
 ⟨λ Z Z e=>e,λ i i0 i1=>wV.mpr λ p hp=>by
  refine cI (h p.1 p.2 hp) λ j j0 j1 e=>?_
  rw [e]
  exact bne_iff_ne.mpr (IS i0 i1 j0 j1)⟩
theorem xB {T:iX} (hk:0<=k/\k<=5) (h:∀n ls,(n,ls)∈T->∃i:Int,0<=i/\i<k/\n=("s":aw)++dg i):T.lookup (("s":aw)++dg k)=none:=
 wV.mpr λ p hp=>by
  refine cI (h p.1 p.2 hp) λ j j0 j1 e=>?_
  rw [e]
  exact bne_iff_ne.mpr (IQ ((Br ‹_›)) (by lia) j0 (by lia) (iJ ‹_›))
theorem jz (h:∀u∈us,datV n u=true):datV (n+1) (.tuple us)=true:=bl.mpr h
theorem cP:datV n (.int i)=true:=by cases n<;>rfl
theorem oX:datV n .none=true:=by cases n<;>rfl
theorem eI (h:aT (.str s)=true):datV n (.str s)=true:=by cases n<;>exact h
theorem kN (h1:datV n u=true) (h2:datV n v=true):datV (n+1) (.tuple [u,v])=true:=jz λ w hw=>by
 rcases aY.mp hw with rfl|hw
 ·exact h1
 ·rw [aK] at hw;subst hw;exact h2
theorem fL (h1:datV n u=true) (h2:datV n v=true) (h3:datV n w=true):datV (n+1) (.tuple [u,v,w])=true:=jz λ x hx=>by
 rcases aY.mp hx with rfl|hx
 ·exact h1
 ·rcases aY.mp hx with rfl|hx
  ·exact h2
  ·rw [aK] at hx;subst hx;exact h3
theorem Ce {x:dX} (h:aT (.str x.note)=true):datV (n+3) x.v=true:=jz λ u hu=>by
 simp only [aY,f9,or_false] at hu
 rcases hu with rfl|rfl|rfl|rfl
 ·refine jz (n:=n+1) λ u hu=>?_
  rw [aK] at hu;subst hu
  exact kN cP cP
 ·refine jz (n:=n+1) λ u hu=>(aL (bC.mp hu) λ i Z r1_=>?_)
  subst r1_
  exact cP
 ·exact cP
 ·exact eI h
theorem AV (h:∀x∈ls,aT (.str x.note)=true):datV (n+4) (litsV ls)=true:=jz (n:=n+3) λ u hu=>by
 refine aL (bC.mp hu) λ x hx r1_=>?_
 subst r1_
 exact Ce (h x hx)
theorem BJ (hn:names=[("mark":aw)]\/names=[("mark":aw),("iif":aw)]) (h:∀x∈ls,aT (.str x.note)=true) (m0:0<=m):datV 11 (addrV a8 low aA m ls names)=true:=by
 have hs:aT (.str ("span":aw))=true:=by decide+kernel
 have hnet:aT (.str ("net":aw))=true:=by decide+kernel
 have hmap:aT (.str ("map":aw))=true:=by decide+kernel
 have href:aT (.str ("ref":aw))=true:=by decide+kernel
 have hkey:datV 10 (keyOf names)=true:=by rcases hn with rfl|rfl<;>decide+kernel
 unfold addrV
 split
 ·exact oX
 split
 ·exact fL (eI hs) cP cP
 split
 ·exact fL (eI hs) cP cP
 split
 ·exact fL (eI hnet) cP cP
 split
 ·exact fL (eI hmap) hkey (kN (eI hmap) (AV (n:=5) λ x hx=>h x ((jq _).mp hx)))
 ·refine fL (eI hmap) hkey (kN (eI href) (eI ?_))
  exact qu (P:=λ s=>aT (.str (("n":aw)++s))=true) (by decide+kernel) (aQ _ (by decide)) (bI (aM _ (by decide)))
theorem zU (h:datV 11 v=true):datV 11 (addr2 a8 low aA m v)=true:=by
 have hs:aT (.str ("span":aw))=true:=by decide+kernel
 have hnet:aT (.str ("net":aw))=true:=by decide+kernel
 unfold addr2
 split
 ·exact fL (eI hs) cP cP
 split
 ·exact fL (eI hnet) cP cP
 ·exact h
theorem Av (h:kind∈kinds):aT (.str kind)=true:=by
 have:kinds.all (λ k=>aT (.str k))=true:=by decide+kernel
 exact bl.mp this kind h
theorem AB (h:aV∈flagss):datV 11 (.tuple (aV.map .str))=true:=by
 have:flagss.all (λ k=>datV 11 (.tuple (k.map .str)))=true:=by decide+kernel
 exact bl.mp this aV h
theorem un (hk:kind∈kinds) (hf:aV∈flagss) (h:datV 11 va=true):datV 12 (natSt (.str kind) (.int nf) va p aV)=true:=jz (n:=11) λ u hu=>by
 have hs:aT (.str ("nat":aw))=true:=by decide+kernel
 simp only [aY,f9,or_false] at hu
 rcases hu with rfl|rfl|rfl|rfl|rfl|rfl
 ·exact eI hs
 ·exact eI (Av hk)
 ·exact cP
 ·exact h
 ·cases p with
  |none=>exact oX
  |some p=>exact kN cP cP
 ·exact AB hf
noncomputable def toldOf (a8 s:Int) (aV:List aw):List aw:=if a8=3 then aV.take (s/8 %3).toNat++[("netmap":aw)]++aV.drop (s/8 %3).toNat else aV
theorem yw (h:aV∈flagss):qx aV (toldOf a8 s aV) (decide (a8=3)):=by
 have nm:∀x∈aV,x≠("netmap":aw):=by
  have:flagss.all (λ f=>f.all λ x=>decide (x≠("netmap":aw)))=true:=by decide
  exact λ x hx=>of_decide_eq_true (bl.mp (bl.mp this aV h) x hx)
 have hl:aV.length<=2:=by
  have:flagss.all (λ f=>decide (f.length<=2))=true:=by decide
  exact of_decide_eq_true (bl.mp this aV h)
 have ff:aV.filter (·≠("netmap":aw))=aV:=List.filter_eq_self.mpr λ x hx=>decide_eq_true (nm x hx)
 unfold toldOf qx
 split
 ·rename_i e
  refine ⟨?_,?_,?_⟩
  ·refine af (oU _ _) (af (oU _ _) ?_)
   have:([("netmap":aw)].filter (·≠("netmap":aw)))=[]:=by decide
   refine af this (af (dZ _) (af (iP (oU _ _)) (af (dz _ _) ?_)));exact ff
  ·simp only [az,bU,ek,aP,fJ];(refine af (kn _ _ _) (af ((Nat.add_comm (min _ _)) _) (af (Nat.min_comm _ _) (af (yi _ _) ?_))));exact cw hl
  ·(refine af (decide_eq_true e) ?_;rw [decide_eq_true])
   simp only [az,bU,ek,aP,fJ];exact E5 _ _
 ·rename_i e
  exact ⟨ff,cK ‹_›,by (exact af (decide_eq_false e) (af (decide_eq_false (eX _)) rfl))⟩
theorem FH (h0:0<=n) (h1:n<=1000):cutV us (.int n) .none=some (us.drop n.toNat):=congrArg (λ b=>cond b (some (us.drop n.toNat)) none) (decide_eq_true ⟨h0,dK h1 (by decide)⟩)
theorem FG (h0:0<=n) (h1:n<=1000):cutV us .none (.int n)=some (us.take n.toNat):=congrArg (λ b=>cond b (some (us.take n.toNat)) none) (decide_eq_true ⟨h0,dK h1 (by decide)⟩)
theorem Ha (h1:ρ.at i=some (.ref a)) (h2:ρ.at j=some (.int n)) (n0:0<=n) (n1:n<=1000) (e:H a=some (.list us)) (hl:us.length<=1000)
  (k:∀c,H c=none->Q (.ref c) (H.set c (.list (us.drop n.toNat)))):wpE tb0 lv false (.slc (.loc i) (some (.loc j)) none) ρ H Q X:=by
 exact ji h1 (ji h2 (kL e (rE (FH n0 n1) ⟨by simp only [bE];exact ao ‹_› (by decide),k⟩)))
theorem Hg (h1:ρ.at i=some (.ref a)) (h2:ρ.at j=some (.int n)) (n0:0<=n) (n1:n<=1000) (e:H a=some (.list us)) (hl:us.length<=1000)
  (k:∀c,H c=none->Q (.ref c) (H.set c (.list (us.take n.toNat)))):wpE tb0 lv false (.slc (.loc i) none (some (.loc j))) ρ H Q X:=by
 exact ji h1 (ji h2 (kL e (rE (FG n0 n1) ⟨by simp only [bE];exact ao ‹_› (by decide),k⟩)))
theorem HE (h1:ρ.at i=some (.tuple us)) (h2:wpE tb0 lv false lo ρ H (λ v H'=>v=.int n/\H'=H) X) (n0:0<=n) (n1:n<=1000) (hl:us.length<=1000)
  (k:Q (.tuple (us.drop n.toNat)) H):wpE tb0 lv false (.slc (.loc i) (some lo) none) ρ H Q X:=by
 refine ji h1 (bh lW lv lo ?_ (λ Z Z z=>z) h2)
 rintro _ _ ⟨rfl,rfl⟩
 exact rE (FH n0 n1) ⟨by simp only [bE];exact ao ‹_› (by decide),k⟩
theorem Hv (h1:ρ.at i=some (.tuple us)) (h2:wpE tb0 lv false lo ρ H (λ v H'=>v=.int n/\H'=H) X) (n0:0<=n) (n1:n<=1000) (hl:us.length<=1000)
  (k:Q (.tuple (us.take n.toNat)) H):wpE tb0 lv false (.slc (.loc i) none (some lo)) ρ H Q X:=by
 refine ji h1 (bh lW lv lo ?_ (λ Z Z z=>z) h2)
 rintro _ _ ⟨rfl,rfl⟩
 exact rE (FG n0 n1) ⟨by simp only [bE];lia,k⟩
section
variable {k c low m p q r s a8 aA nf size a b aX:Int}
theorem IH {OK:iX->Prop}
  (hG:H1 G=some (.list vs)) (hvs:GroupsAt H1 vs gs) (hP:H1 P=some (.list [.int r3,.int r4])) (hM:H1 M=some (.list [.int r6,.int r7])) (hlen:gs.length<=2)
  (hB:∀T2 order,OK T2->Bring1 T2 order gs b aX r3 r4 r6 r7 size net va va2) (hpo:∀x y,pp=some (x,y)->eB x 2/\eB y 2) (a0:0<=a) (hab:a=0/\b=8/\aX=9\/a<=4/\12<=b/\b<=13/\14<=aX/\aX<=15)
  (kk:∀(H':MH) (G M:aI) (vs:List V) (gs:List (List V)) (r6 r7:Int) (xJ:Option V),H' G=some (.list vs)->GroupsAt H' vs gs->H' P=some (.list [.int r3,.int r4])->H' M=some (.list [.int r6,.int r7])->MH.Sub H1 H'->
   (∀T2 order,OK T2->vn T2 order gs r3 r4 r6 r7 size net va va2 pp)->N (fr86 k base zs sets c low m p q r s a8 aA kind nf aV aW pp nA lA jG size a b aX twice (some (.ref G)) (some (.ref P)) (some (.ref M)) wM wq my vh wk xJ none none none none) H'):
  wpSs tb0 6 d86c (fr86 k base zs sets c low m p q r s a8 aA kind nf aV aW pp nA lA jG size a b aX twice (some (.ref G)) (some (.ref P)) (some (.ref M)) wM wq my vh wk none none none none none) H1 N R X:=by
 cases pp with
 |none=>
  exact bA false ⟨rfl,rfl⟩ nofun λ Z=>(kk H1 G M vs gs r6 r7 none hG hvs hP hM (.refl) λ T2 order h=>sE (hB T2 order h))
 |some xy=>
  obtain ⟨x,y⟩:=xy
  refine bw (hpo x y rfl) λ ox oy=>(bA true ⟨rfl,rfl⟩ (λ Z=>?_) nofun)
  refine eC (λ ρ K=>∀p2 b2 vs2 H',MH.Sub H1 H'->H' p2=some (.list vs2)->GroupsAt H' vs2 (pairGs b aX x y 2 twice)->H' b2=some (.list (pairRegs b aX x y twice))->K ((ρ.set 34 (some (.ref p2))).set 28 (some (.ref b2))) H') (λ K k=>?_) ?_
  ·exact bR Kl ⟨ox.1,oy.1,by decide,by decide,λ p2 b2 vs2 H' h1 h2 h3 h4 h5 h6=>⟨rfl,k p2 b2 vs2 H' h4 h1 h2 h3⟩⟩
  intro p2 b2 vs2 H2 s2 h1 h2 h3
  dsimp only [fr86,aC,aD]
  have hG2:=s2 _ _ hG
  have hl1:=hvs.len
  have hl2:=h2.len
  have hl3:(pairGs b aX x y 2 twice).length<=2:=by unfold pairGs;split<;>simp
  refine qO hG2 h1 (by simp only [bE];lia) λ W hW=>?_
  have s3:=bZ (o:=.list (vs++vs2)) hW
  rw [pV] at h3
  exact kk _ W b2 (vs++vs2) (gs++pairGs b aX x y 2 twice) b _ _ (MH.set_self _ _ _) (GroupsAt.app (hvs.sub (s2.trans s3)) (h2.sub s3)) (s3 _ _ (s2 _ _ hP)) (s3 _ _ h3) (s2.trans s3) λ T2 order h=>vt (hB T2 order h) (by lia) (by lia) (by lia) ox oy
theorem Jm
  (hG:H1 G=some (.list vs)) (hvs:GroupsAt H1 vs gs) (hlen:gs.length<=4) (hrow:∀g∈gs,g.length<=3) (s0:0<=s)
  (kk:∀(H':MH) (W:aI) (n:Nat) (my DT:Option V),H' W=some (.list (turned gs n))->H1 W=none->MH.Sub H1 H'->N (fr86 k base zs sets c low m p q r s a8 aA kind nf aV aW pp nA lA jG size a b aX twice (some (.ref G)) (some (.ref P)) (some (.ref M)) wM wq my vh wk xJ DT (some (.ref W)) none none) H'):
  wpSs tb0 6 d86d (fr86 k base zs sets c low m p q r s a8 aA kind nf aV aW pp nA lA jG size a b aX twice (some (.ref G)) (some (.ref P)) (some (.ref M)) wM wq my vh wk xJ none none none none) H1 N R X:=by
 have hl:=hvs.len
 refine dO (λ K=>∀n:Nat,n<=1000->K (.int (n:Int)) H1) (λ K k=>?_) ?_
 ·have h1:0<max (1:Int) (vs.length:Int):=by lia
  refine kQ hG (by lia) (pT (decide_eq_true h1) ?_)
  have h2:=aQ s (show max (1:Int) (vs.length:Int)≠0 by lia)
  have h3:=aM s h1
  have:=k (s %max (1:Int) (vs.length:Int)).toNat (KI h3 (hl▸hlen))
  rw [jM h2] at this
  exact this
 intro n hn
 dsimp only [fr86,aC,aD]
 refine dO (λ K=>∀W,H1 W=none->K (.ref W) (H1.set W (.list []))) (λ K k=>k) ?_
 intro W hW
 dsimp only [fr86,aC,aD]
 have sW:=bZ (o:=.list []) hW
 have hG2:=sW _ _ hG
 refine JO (λ K=>∀Y H',(H1.set W (.list [])) Y=none->H' Y=some (.list (vs.drop n++vs.take n))->MH.Sub (H1.set W (.list [])) (H'.del Y)->K (.ref Y) H') (λ K k=>?_) ?_
 ·show wpE tb0 6 false (.slc _ _ _) _ _ (λ u H1=>wpE tb0 6 false (.slc _ _ _) _ H1 (λ v H2=>binV .Add u v H2 _) _) _
  refine Ha (n:=(n:Int)) (us:=vs) rfl rfl (aS _) (by lia) hG2 (by lia) λ A hA=>?_
  have hG3:=(bZ (o:=.list (vs.drop (n:Int).toNat)) hA) _ _ hG2
  refine Hg (n:=(n:Int)) (us:=vs) rfl rfl (aS _) (by lia) hG3 (by lia) λ B hB=>?_
  rw [cJ] at*
  refine bw (bY hB) λ nB hB'=>(qO ((MH.set_ne _ _ nB.symm).trans (MH.set_self _ _ _)) (MH.set_self _ _ _) (by simp only [bE,ek,bU];exact Hj n (hl▸hlen)) λ Y hY=>(bw (bY hY) λ nY hY'=>(bw (bY hY') λ nY2 hY''=>(k Y _ hY'' (MH.set_self _ _ _) λ z o e=>?_))))
  have n1:z≠Y:=cH e hY'' b7
  have n2:z≠B:=cH e hB' b7
  have n3:z≠A:=cH e hA b7
  refine af (MH.del_ne _ n1) (af (MH.set_ne _ _ n1) (af (MH.set_ne _ _ n2) (af (MH.set_ne _ _ n3) ?_)));exact e
 intro Y H2 hY0 hY s2
 have hrot:GroupsAt (H2.del Y) (vs.drop n++vs.take n) (gs.drop n++gs.take n):=GroupsAt.app ((hvs.sub (sW.trans s2)).drop n) ((hvs.sub (sW.trans s2)).take n)
 have hlr:(gs.drop n++gs.take n).length<=4:=by (refine af az (af ek (af bU (af (Nat.min_comm _ _) (af (yi _ _) ?_)))));exact hlen
 have hrr:∀g∈gs.drop n++gs.take n,g.length<=3:=λ g hg=>by
  rcases cv.mp hg with h|h
  ·exact hrow g (List.mem_of_mem_drop h)
  ·exact hrow g (mV h)
 have hfl:∀i,(((gs.drop n++gs.take n).take i).flatten).length<=12:=λ i=>by
  have:=wC (L:=(gs.drop n++gs.take n).take i) λ g hg=>hrr g (mV hg)
  rw [bU] at this
  lia
 have hY1:H1 Y=none:=(bY hY0).2
 refine C0 (λ i K=>∀Wi my H',H' Wi=some (.list ((gs.drop n++gs.take n).take i).flatten)->MH.Sub (H2.del Y) H'->H1 Wi=none->K (fr86 k base zs sets c low m p q r s a8 aA kind nf aV aW pp nA lA jG size a b aX twice (some (.ref G)) (some (.ref P)) (some (.ref M)) wM wq my vh wk xJ (some (.int (n:Int))) (some (.ref Wi)) none none) H') (mf hY) ?_ ?_ ?_
 ·exact λ K k=>k W my _ (s2 _ _ (MH.set_self _ _ _)) .refl hW
 ·intro i v N' e k' Wi my H3 h3 s3 hWi
  refine cu (hrot.get e) λ ga g r1_ hg hga=>?_
  subst r1_
  have hga3:=s3 _ _ hga
  have hgl:=hrr g (aZ hg)
  have:=hfl i
  refine qO h3 hga3 (by simp only [bE];lia) (λ Z hZ=>k' _ _ λ K k=>k Z _ _ ?_ (s3.trans (bZ hZ)) ((sW.trans (s2.trans s3)).none hZ))
  refine af (MH.set_self _ _ _) (af dm (af hg (af List.flatten_append ?_)))
  simp
 ·intro Wi my H4 h4 s4 hWi hYn
  have hYn:=hYn Y rfl
  have ne:Wi≠Y:=cH h4 hYn b7
  have hlen2:(vs.drop n++vs.take n).length=(gs.drop n++gs.take n).length:=by simp only [az,ek,bU,hl]
  rw [hlen2,c7] at h4
  refine af (ma hY) ?_
  exact kk _ Wi n _ _ (by exact af (MH.set_ne _ _ ne) h4) hWi (a6 (sW.trans (s2.trans s4)) hY1)
end
theorem Nm (q:Q (.tuple [.str s]) H):wpE tb0 lv false (.tup [.str s]) ρ H Q X:=q
theorem map_take {α β:Type} {f:α->β} (l:List α) (n:Nat):(l.map f).take n=(l.take n).map f:=(jh ..).symm
section
variable {k c low m p q r s a8 aA nf size a b aX:Int}
end
namespace Dy
def S_ (k c low m p q r s a8 aA nf size a b aX base zs sets nA lA kind aV aW twice pp jG N Q X H1 G P M W rows r3 r4 r6 r7 wM wq my vh wk xJ DT):=∀(names:List aw) (ls:List dX) (hW:H1 W=some (bK.list rows)) (hWl:rows.length<=100) (hP:H1 P=some (bK.list [V.int r3,V.int r4])) (hM:H1 M=some (bK.list [V.int r6,V.int r7])) (nWP:W≠P) (hfl:aV∈flagss) (ha:jG=addrV a8 low aA m ls names) (hq1:∀(D:aI) (H':MH),H1 D=none->H' W=some (bK.list (rows++[natRow (V.str kind) (V.int nf) r3 r4 size r6 r7 (toldOf a8 s aV)]))->H' D=some (bK.list (a7 stV [(↑rows.length,natSt (V.str kind) (V.int nf) jG pp aV)]))->(∀(x:aI),x≠W->x≠D->H1 x≠none->H' x=H1 x)->Fg Q (V.tuple [V.ref W,V.ref D]) H') (hq2:∀(D:aI) (H':MH),H1 D=none->H' W=some (bK.list (rows++[natRow (V.str kind) (V.int nf) r3 r4 size r6 r7 (toldOf a8 s aV)]++[natRow (V.str (aa "dnat")) (V.int nf) r3 r3 size (-1) (-1) (toldOf a8 s aV)]))->H' D=some (bK.list (a7 stV [(↑rows.length,natSt (V.str kind) (V.int nf) jG pp aV),(↑rows.length+1,natSt (V.str (aa "dnat")) (V.int nf) (addr2 a8 low aA m jG) none aV)]))->(∀(x:aI),x≠W->x≠D->H1 x≠none->H' x=H1 x)->Fg Q (V.tuple [V.ref W,V.ref D]) H'),wpSs tb0 6 d86e (fr86 k base zs sets c low m p q r s a8 aA kind nf aV aW pp nA lA jG size a b aX twice (some (.ref G)) (some (.ref P)) (some (.ref M)) wM wq my vh wk xJ DT (some (.ref W)) none none) H1 N (Fg Q) X
def U_:=UV λ k c low=>UV λ m p q=>UV λ r s a8=>UV λ aA nf size=>UV λ a b aX=>UV λ base zs sets=>UV λ nA lA kind=>UV λ aV aW twice=>UV λ pp jG N=>UV λ Q X H1=>UV λ G P M=>UV λ W rows r3=>UV λ r4 r6 r7=>UV λ wM wq my=>UV λ vh wk xJ=>S_ k c low m p q r s a8 aA nf size a b aX base zs sets nA lA kind aV aW twice pp jG N Q X H1 G P M W rows r3 r4 r6 r7 wM wq my vh wk xJ
def t_:=dr (by infer_instance) U_
def k:=t_.1
def c:=t_.2.1
def low:=t_.2.2.1
def m:=t_.2.2.2.1
def p:=t_.2.2.2.2.1
def q:=t_.2.2.2.2.2.1
def s1_:=t_.2.2.2.2.2.2
def r:=s1_.1
def s:=s1_.2.1
def a8:=s1_.2.2.1
def aA:=s1_.2.2.2.1
def nf:=s1_.2.2.2.2.1
def size:=s1_.2.2.2.2.2.1
def s2_:=s1_.2.2.2.2.2.2
def a:=s2_.1
def b:=s2_.2.1
def aX:=s2_.2.2.1
def base:=s2_.2.2.2.1
def zs:=s2_.2.2.2.2.1
def sets:=s2_.2.2.2.2.2.1
def s3_:=s2_.2.2.2.2.2.2
def nA:=s3_.1
def lA:=s3_.2.1
def kind:=s3_.2.2.1
def aV:=s3_.2.2.2.1
def aW:=s3_.2.2.2.2.1
def twice:=s3_.2.2.2.2.2.1
def s4_:=s3_.2.2.2.2.2.2
def pp:=s4_.1
def jG:=s4_.2.1
def N:=s4_.2.2.1
def Q:=s4_.2.2.2.1
def X:=s4_.2.2.2.2.1
def H1:=s4_.2.2.2.2.2.1
def s5_:=s4_.2.2.2.2.2.2
def G:=s5_.1
def P:=s5_.2.1
def M:=s5_.2.2.1
def W:=s5_.2.2.2.1
def rows:=s5_.2.2.2.2.1
def r3:=s5_.2.2.2.2.2.1
def s6_:=s5_.2.2.2.2.2.2
def r4:=s6_.1
def r6:=s6_.2.1
def r7:=s6_.2.2.1
def wM:=s6_.2.2.2.1
def wq:=s6_.2.2.2.2.1
def my:=s6_.2.2.2.2.2.1
def s7_:=s6_.2.2.2.2.2.2
def vh:=s7_.1
def wk:=s7_.2.1
def xJ:=s7_.2.2.1
def DT:=s7_.2.2.2
theorem P_:S_ k c low m p q r s a8 aA nf size a b aX base zs sets nA lA kind aV aW twice pp jG N Q X H1 G P M W rows r3 r4 r6 r7 wM wq my vh wk xJ DT:=by
 intro names ls hW hWl hP hM nWP hfl ha hq1 hq2
 have hfl2:aV.length<=2:=by
  have:flagss.all (λ f=>decide (f.length<=2))=true:=by decide
  exact of_decide_eq_true (bl.mp this aV hfl)
 refine bM (u:=.tuple (aV.map .str)) ⟨rfl,rfl⟩ ?_
 simp only [fr86,aC,aD]
 refine eC (λ ρ K=>K (ρ.set 37 (some (.tuple ((toldOf a8 s aV).map .str)))) H1) (λ K k=>?_) ?_
 ·show wpSs tb0 6 [_] _ _ _ _ _
  refine bA (decide (a8=3)) ⟨rfl,rfl⟩ (λ e=>?_) (λ e=>?_)
  ·have hj:0<=s/8 %3/\s/8 %3<=2:=⟨aQ _ (by decide),bI (aM _ (by decide))⟩
   refine dO (λ K=>K (.tuple ((toldOf a8 s aV).map .str)) H1) (λ K k=>?_) k
   ·show wpE tb0 6 false (.bin .Add _ _) _ _ (λ u H1=>wpE tb0 6 false (.slc _ _ _) _ H1 (λ v H2=>binV .Add u v H2 _) _) _
    show wpE tb0 6 false (.slc _ _ _) _ _ (λ u H1=>wpE tb0 6 false (.tup _) _ H1 (λ v H2=>binV .Add u v H2 _) _) _
    refine Hv (n:=s/8 %3) (us:=aV.map .str) rfl ?_ (aQ _ (by decide)) (by lia) (by refine af (ag _) ?_;exact ao ‹_› (by decide)) ?_
    ·exact ⟨rfl,rfl⟩
    refine Nm (aj (by simp only [bU,ag,aP,fJ,bE];exact HG _ (ao hfl2 (by decide))) ?_)
    show wpE tb0 6 false (.slc _ _ _) _ _ (λ v H2=>binV .Add _ v H2 _) _
    refine HE (n:=s/8 %3) (us:=aV.map .str) rfl ?_ (aQ _ (by decide)) (by lia) (by refine af (ag _) ?_;exact ao ‹_› (by decide)) ?_
    ·exact ⟨rfl,rfl⟩
    refine aj (by simp only [az,ek,bU,ag,aP,fJ,bE];exact Je _ (ao hfl2 (by decide))) ?_
    have ht:(toldOf a8 s aV).map V.str=(aV.map V.str).take (s/8 %3).toNat++[V.str "netmap"]++(aV.map V.str).drop (s/8 %3).toNat:=by
     unfold toldOf
     refine af (if_pos (of_decide_eq_true e)) (af bf (af bf (af jh (af oL ?_))));rfl
    rw [ht] at k
    exact k
  ·have ht:toldOf a8 s aV=aV:=if_neg (of_decide_eq_false e)
   rw [ht] at k
   exact k
 dsimp only [fr86,aC,aD]
 generalize toldOf a8 s aV=told at*
 have vU:∀{x:aI} {o:bK},H1 x=some o->∀{D},H1 D=none->x≠D:=λ h D hD z=>by rw [z,hD] at h;exact bH h
 have p0:lL [V.int r3,V.int r4] (ke 0) V.none=.int r3:=rfl
 have p1:lL [V.int r3,V.int r4] (ke 1) V.none=.int r4:=rfl
 have m0:lL [V.int r6,V.int r7] (ke 0) V.none=.int r6:=rfl
 have m1:lL [V.int r6,V.int r7] (ke 1) V.none=.int r7:=rfl
 refine eC (λ ρ K=>K ρ (H1.set W (.list (rows++[natRow (.str kind) (.int nf) r3 r4 size r6 r7 told])))) (λ K k=>?_) ?_
 ·show wpE _ _ _ _ _ _ _ _
  refine jF rfl (mP (by assumption)) (cZ (by assumption) rfl (cZ (by assumption) rfl (cZ (by assumption) rfl (cZ (by assumption) rfl (fY _ (aj (by assumption) ?_))))))
  exact aj (ao ‹_› (by decide)) (aj rfl k)
 have hlen:((rows++[natRow (.str kind) (.int nf) r3 r4 size r6 r7 told]).length:Int) -1=rows.length:=by (refine af az (af aU ?_));lia
 have hlen2:(rows++[natRow (.str kind) (.int nf) r3 r4 size r6 r7 told]).length<=101:=by (refine af az (af aU ?_));exact cw ‹_›
 refine dO (λ K=>∀D H',H1 D=none->H' W=some (.list (rows++[natRow (.str kind) (.int nf) r3 r4 size r6 r7 told]))->H' D=some (.list ([((rows.length:Int),natSt (.str kind) (.int nf) jG pp aV)].map stV))->(∀x,x≠W->x≠D->H' x=H1 x)->K (.ref D) H') (λ K k=>?_) ?_
 ·refine kQ (MH.set_self _ _ _) (ao ‹_› (by decide)) ?_
  refine λ D hD=>k D _ (bY hD).2 ?_ (by refine af hlen.symm ?_;exact MH.set_self _ _ _) λ x h1 h2=>(MH.set_ne _ _ h2).trans (MH.set_ne _ _ h1)
  exact af (MH.set_ne _ _ (vU hW (bY hD).2)) (af (MH.set_self _ _ _) rfl)
 intro D H2 hD gW gD gO
 dsimp only [fr86,aC,aD]
 have nWD:W≠D:=vU hW hD
 refine bA (decide (c/256 %2=1)) ⟨rfl,rfl⟩ (λ e=>?_) (λ e=>?_)
 ·refine eC (λ ρ K=>K (ρ.set 20 (some (if a8=2 then .tuple [.str "span",.int low,.int low] else jG))) H2) (λ K k=>?_) ?_
  ·show wpSs tb0 6 [_] _ _ _ _ _
   refine bA (decide (a8=2)) ⟨rfl,rfl⟩ (λ e=>?_) (λ e=>?_)
   ·rw [if_pos (of_decide_eq_true e)] at k;exact k
   ·rw [if_neg (of_decide_eq_false e)] at k;exact k
  dsimp only [fr86,aC,aD]
  refine eC (λ ρ K=>K (ρ.set 20 (some (addr2 a8 low aA m jG))) H2) (λ K k=>?_) ?_
  ·show wpSs tb0 6 [_] _ _ _ _ _
   refine bA (decide (a8=3)) ⟨rfl,rfl⟩ (λ e=>?_) (λ e=>?_)
   ·have e:=of_decide_eq_true e
    have hadr:(if a8=2 then V.tuple [.str "span",.int low,.int low] else jG)=.tuple [.str "net",.int (low/wideB aA m*wideB aA m),.int (m %(aA+1))]:=by
     refine af (if_neg (by lia)) (af ha (af e ?_));rfl
    have g1:lL [V.str (aa "net"),V.int (low/wideB aA m*wideB aA m),.int (m %(aA+1))] (ke 1) V.none=.int (low/wideB aA m*wideB aA m):=rfl
    refine af hadr ?_
    have ht:addr2 a8 low aA m jG=.tuple [.str "net",.int (low/wideB aA m*wideB aA m),.int aA]:=(if_neg (by lia)).trans (if_pos e)
    rw [ht] at k
    exact k
   ·have ht:addr2 a8 low aA m jG=(if a8=2 then .tuple [.str "span",.int low,.int low] else jG):=by
     unfold addr2
     exact af (if_neg (of_decide_eq_false e)) rfl
    rw [ht] at k
    exact k
  dsimp only [fr86,aC,aD]
  have gP:H2 P=some (.list [.int r3,.int r4]):=(gO P nWP.symm (vU hP hD)).trans hP
  refine eC (λ ρ K=>∀H3,H3 W=some (.list (rows++[natRow (.str kind) (.int nf) r3 r4 size r6 r7 told]++[natRow (.str "dnat") (.int nf) r3 r3 size (-1) (-1) told]))->(∀x,x≠W->H3 x=H2 x)->K ρ H3) (λ K k=>?_) ?_
  ·show wpE _ _ _ _ _ _ _ _
   refine jF rfl (mP (by assumption)) (cZ (by assumption) rfl (cZ (by assumption) rfl (fY _ (aj (by assumption) ?_))))
   exact aj (ao ‹_› (by decide)) (aj rfl (k _ (MH.set_self _ _ _) λ x h=>MH.set_ne _ _ h))
  intro H3 iW iO
  have hlen3:((rows++[natRow (.str kind) (.int nf) r3 r4 size r6 r7 told]++[natRow (.str "dnat") (.int nf) r3 r3 size (-1) (-1) told]).length:Int) -1=(rows.length:Int)+1:=by rw [az,az,aU,aU];lia
  have hlen4:(rows++[natRow (.str kind) (.int nf) r3 r4 size r6 r7 told]++[natRow (.str "dnat") (.int nf) r3 r3 size (-1) (-1) told]).length<=102:=by rw [az,az,aU,aU];lia
  have iD:H3 D=some (.list ([((rows.length:Int),natSt (.str kind) (.int nf) jG pp aV)].map stV)):=(iO D nWD.symm).trans gD
  generalize (rows++[natRow (.str kind) (.int nf) r3 r4 size r6 r7 told]++[natRow (.str "dnat") (.int nf) r3 r3 size (-1) (-1) told])=rows2 at*
  show wpE _ _ _ _ _ _ _ _
  refine jF rfl (mP (by assumption)) (kQ (by assumption) (ao ‹_› (by decide)) (fY _ (aj (by assumption) ?_)))
  refine aj (of_decide_eq_true rfl) (aj rfl (hq2 D _ hD ?_ (by (refine af (MH.set_self _ _ _) (af hlen3.symm ?_));rfl) λ x h1 h2 h3=>?_))
  ·exact af (MH.set_ne _ _ nWD) iW
  ·refine af (MH.set_ne _ _ h2) (af (iO x h1) ?_);exact gO x h1 h2
 ·exact hq1 D _ hD gW gD λ x h1 h2 h3=>gO x h1 h2
theorem A_:∀p,U_ p:=bB P_
end Dy
section
variable {k c low m p q r s a8 aA nf size a b aX:Int}
theorem Kv
  (hW:H1 W=some (.list rows)) (hWl:rows.length<=100) (hP:H1 P=some (.list [.int r3,.int r4])) (hM:H1 M=some (.list [.int r6,.int r7])) (nWP:W≠P) (nWM:W≠M) (hfl:aV∈flagss) (s0:0<=s) (c0:0<=c)
  (ha:jG=addrV a8 low aA m ls names)
  (hq1:∀D H',H1 D=none->H' W=some (.list (rows++[natRow (.str kind) (.int nf) r3 r4 size r6 r7 (toldOf a8 s aV)]))->H' D=some (.list ([((rows.length:Int),natSt (.str kind) (.int nf) jG pp aV)].map stV))->(∀x,x≠W->x≠D->H1 x≠none->H' x=H1 x)->Fg Q (.tuple [.ref W,.ref D]) H')
  (hq2:∀D H',H1 D=none->H' W=some (.list (rows++[natRow (.str kind) (.int nf) r3 r4 size r6 r7 (toldOf a8 s aV)]++[natRow (.str "dnat") (.int nf) r3 r3 size (-1) (-1) (toldOf a8 s aV)]))->H' D=some (.list ([((rows.length:Int),natSt (.str kind) (.int nf) jG pp aV),((rows.length:Int)+1,natSt (.str "dnat") (.int nf) (addr2 a8 low aA m jG) none aV)].map stV))->(∀x,x≠W->x≠D->H1 x≠none->H' x=H1 x)->Fg Q (.tuple [.ref W,.ref D]) H'):
  wpSs tb0 6 d86e (fr86 k base zs sets c low m p q r s a8 aA kind nf aV aW pp nA lA jG size a b aX twice (some (.ref G)) (some (.ref P)) (some (.ref M)) wM wq my vh wk xJ DT (some (.ref W)) none none) H1 N (Fg Q) X:=by
 exact Dy.A_ (k,c,low,m,p,q,r,s,a8,aA,nf,size,a,b,aX,base,zs,sets,nA,lA,kind,aV,aW,twice,pp,jG,N,Q,X,H1,G,P,M,W,rows,r3,r4,r6,r7,wM,wq,my,vh,wk,xJ,DT) names ls hW hWl hP hM nWP hfl ha hq1 hq2
end
theorem LL:VC Dj 6 ps86 nm86 [] c86:=by
 intro us H Q X h
 refine JY (λ k bs l sets h=>?_) h
 ·skip
  refine uf h λ base zs T r1_ hl hb r2_ t3_=>(C5 t3_ λ hz k0 k1 hT hTl hTn t4_=>(bw t4_ λ h6 q=>?_))
  clear h t3_ t4_
  subst r1_
  subst r2_
  refine ⟨rfl,?_⟩
  show wpSs tb0 6 (d86a++(d86b++(d86c++(d86d++d86e)))) [some (.int k),some (.tuple (base.map .int)),some (.flist (zs.map .int)),some (.ref sets),none,none,none,none,none,none,none,none,none,none,none,none,none,none,none,none,none,none,none,none,none,none,none,none,none,none,none,none,none,none,none,none,none,none,none] H _ _ _
  have hfn:=xB ⟨k0,k1⟩ hTn
  refine kP (vo hl hb hz ⟨k0,k1⟩ h6 λ c low m p qq r s a8 aA nf size a b aX nA lA kind aV names aW twice pp jG ls H1 hA=>?_)
  refine kP (wz ⟨k0,k1⟩ (hT.sub hA.sub) hTl hfn hA.hnA hA.hlA hA.hn hA.hls hA.hf hA.hb hA.l0 hA.l1 hA.m0 hA.hp hA.ha hA.hs hA.a0 hA.hab λ H2 G P M vs gs T' r3 r4 r6 r7 wM wq my vh wk hG hvs hP hM hT' hs2 hT'' hK hB=>?_)
  have hT'n:∀n ls,(n,ls)∈T'->∃i:Int,0<=i/\i<=9/\n=("s":aw)++dg i:=by
   intro n ls hn
   rcases hT'' with rfl|⟨l2,rfl⟩
   ·exact cI (hTn n ls hn) λ i i0 i1 e=>⟨i,i0,by lia,e⟩
   ·rcases cv.mp hn with hn|hn
    ·exact cI (hTn n ls hn) λ i i0 i1 e=>⟨i,i0,by lia,e⟩
    ·rw [aK] at hn;cases hn
     exact ⟨k,k0,eT ‹_› (by decide),rfl⟩
  have gself:=mZ hT'n
  have hglen:gs.length<=2:=by
   refine fy (hB T' "big" gself) λ L r1_ Z Z t2_=>(bw t2_ λ h Z=>?_)
   clear t2_
   subst r1_
   exact af (ag _) h
  refine kP (IH (OK:=mQ T') hG hvs hP hM hglen hB hA.hpo hA.a0 hA.hab λ H3 G M vs gs r6 r7 xJ hG hvs hP hM hs3 hB=>?_)
  obtain ⟨hglen,hgrow⟩:gs.length<=4/\∀g∈gs,g.length<=3:=by
   refine fy ((hB T' "big" gself).some_) λ L r1_ h1 Z t2_=>(bw t2_ λ h Z=>?_)
   clear t2_
   subst r1_
   refine af (ag _) ?_
   exact ⟨h,λ g hg=>by obtain ⟨x,hx,rfl⟩:=bC.mp hg;exact (h1 x hx).1⟩
  refine kP (Jm hG hvs hglen hgrow hA.s0 λ H4 W n x31' DT hW hWn hs4=>?_)
  have hP4:=hs4 _ _ hP
  have hM4:=hs4 _ _ hM
  have nWP:W≠P:=cH hWn hP bH
  have nWM:W≠M:=cH hWn hM bH
  have hwl:(turned gs n).length<=100:=by
   refine fy ((hB T' "big" gself).some_) λ L r1_ h1 Z t2_=>(bw t2_ λ h Z=>?_)
   clear t2_
   subst r1_
   have:=ng (n:=n) h1 h
   exact ao ‹_› (by decide)
  have s04:MH.Sub (H.del sets) H4:=(Sub.del_both hA.sub).trans (hs2.trans (hs3.trans hs4))
  have hT4:cF H4 sets T':=(hT'.sub hs3).sub hs4
  have hset:sets≠W/\H sets≠none:=by
   have h3:=hT'.sub hs3
   constructor
   ·rintro rfl
    rcases h3 with ⟨e,_⟩|⟨es,e,_⟩<;>rw [hWn] at e<;>exact bH e
   ·rcases hT with ⟨e,_⟩|⟨es,e,_⟩<;>refine af e ?_<;>simp
  have nn:∀{x},H4 x=none->H x=none:=λ {x} hx=>by
   by_cases e:x=sets
   ·subst e
    rcases hT4 with ⟨e,_⟩|⟨es,e,_⟩<;>rw [hx] at e<;>exact bH e
   ·have:=s04.none hx
    rw [MH.del_ne _ e] at this;exact this
  have hW0:H W=none:=by
   have s03:MH.Sub (H.del sets) H3:=(Sub.del_both hA.sub).trans (hs2.trans hs3)
   have:=s03.none hWn
   rw [MH.del_ne _ hset.1.symm] at this;exact this
  have s45:∀{D:aI} {H':MH},H4 D=none->(∀x,x≠W->x≠D->H4 x≠none->H' x=H4 x)->MH.Sub (H.del sets) H':=λ {D H'} hD hx x o e=>by
   have e4:=s04 x o e
   have n1:x≠W:=cH e (Dk hW0) b7
   have n2:x≠D:=cH e4 hD b7
   rw [hx x n1 n2 (by refine af e4 ?_;simp)];exact e4
  have t45:∀{D:aI} {H':MH},H4 D=none->(∀x,x≠W->x≠D->H4 x≠none->H' x=H4 x)->cF (H4.del W) sets T'->cF H' sets T':=λ {D H'} hD hx hS=>hS.sub λ x o e=>by
   have n1:x≠W:=cH e (MH.del_self _ _) b7
   rw [MH.del_ne _ n1] at e
   have n2:x≠D:=cH e hD b7
   rw [hx x n1 n2 (by refine af e ?_;simp)];exact e
  have hS4:cF (H4.del W) sets T':=(hT'.sub hs3).sub λ x o e=>by
   have n1:x≠W:=cH e hWn b7
   refine af (MH.del_ne _ n1) ?_;exact hs4 _ _ e
  have hK5:∀{D:aI} {H':MH},H4 D=none->(∀x,x≠W->x≠D->H4 x≠none->H' x=H4 x)->∀D,H D≠none->D≠sets->cF (H.del D) sets T->cF (H'.del D) sets T':=λ {D H'} hD hx D2 a b c=>by
   refine bu (sy.mp a) λ o ho=>((hK D2 (by refine af (hA.sub _ _ ho) ?_;simp) b (c.sub (del_both hA.sub))).sub (del_both λ x o e=>?_))
   have e3:=hs3 _ _ e
   have n1:x≠W:=cH e3 hWn b7
   have e4:=hs4 _ _ e3
   have n2:x≠D:=cH e4 hD b7
   rw [hx x n1 n2 (by refine af e4 ?_;simp)];exact e4
  have d1:datV 11 jG=true:=by refine af hA.ha ?_;exact BJ hA.hn hA.hno hA.m0
  have d2:=zU (a8:=a8) (low:=low) (aA:=aA) (m:=m) d1
  refine Kv hW hwl hP4 hM4 nWP nWM hA.hfl hA.s0 hA.c0 hA.ha (λ D H' hD h1 h2 h3=>?_) (λ D H' hD h1 h2 h3=>?_)
  ·exact fg (q W D _ _ T' H' h1 h2 (t45 hD h3 hS4) (s45 hD h3) hW0 (nn hD) hT'' (λ T2 g1 g2 order ho=>Dr (hB T2 order ⟨g1,g2⟩) (yw hA.hfl) (un hA.hk hA.hfl d1)) (hK5 hD h3))
  ·exact fg (q W D _ _ T' H' h1 h2 (t45 hD h3 hS4) (s45 hD h3) hW0 (nn hD) hT'' (λ T2 g1 g2 order ho=>Bb (hB T2 order ⟨g1,g2⟩) (yw hA.hfl) (un hA.hk hA.hfl d1) (un (by decide) hA.hfl d2)) (hK5 hD h3))
noncomputable def bases90:List (List Int):=[[0,3,0,5,2],[9,2,1,0,4],[0,0,3,3,5],[4,3,3,5,0]]
theorem ME:VC zS 8 ps90 nm90 [] c90:=by
 intro us H Q X h
 refine KC (λ l h=>?_) h
 ·refine cI h λ zs r1_ hz q=>?_
  subst r1_
  refine ⟨rfl,?_⟩
  refine eC (λ ρ K=>∀H',MH.Sub H H'->K ρ H') (λ K k=>?_) ?_
  ·intro d hd
   refine bR EU ⟨zs,rfl,by decide,by decide,hz,?_⟩
   have dn:=qH zs 62
   have ho:∃order:aw,(order="big"\/order="little")/\ix [V.str (aa "little"),V.str (aa "big")] (digit zs 62 %2)=some (.str order):=by
    rcases (show digit zs 62 %2=0\/digit zs 62 %2=1 by lia) with e|e<;>refine af e ?_
    ·exact ⟨"little",.inr rfl,rfl⟩
    ·exact ⟨"big",.inl rfl,rfl⟩
   refine aL ho λ order ho e=>?_
   exact cZ (MH.set_self _ _ _) e (bR LK ⟨zs,rfl,hz,ho,k _ (bZ hd)⟩)
  intro H1 s1
  refine dO (λ K=>∀A H',MH.Sub H H'->H' A=some (.list (bases90.map λ b=>.tuple (b.map .int)))->K (.ref A) H') (λ K k A hA=>k A _ (a6 s1 (s1.none hA)) (MH.set_self _ _ _)) ?_
  intro A H2 s2 hA
  refine mh (.range 4) (us:=(bF 4).map λ (i:Nat)=>.int i) (λ i K=>∀x,K [some (.flist (zs.map .int)),some (.ref A),x] H2) (λ K k=>aj (by decide) (aj (by decide) k)) rfl (λ K k=>k _) ?_ ?_
  ·intro i u N' e k x
   rw [aF] at e
   refine aL (aH.mp e) λ j hj r1_=>?_
   subst r1_
   obtain ⟨hj1,hj2⟩:=aN.mp hj
   rw [ft] at hj2
   subst hj2
   rw [bO] at hj1
   refine cI (oO (P:=λ i=>∃b:List Int,ix (bases90.map λ b=>V.tuple (b.map .int)) i=some (.tuple (b.map .int))/\b.length=5/\∀x∈b,0<=x/\x<100) (oO (oO (oO EY ⟨_,rfl,rfl,by decide⟩) ⟨_,rfl,rfl,by decide⟩) ⟨_,rfl,rfl,by decide⟩) ⟨_,rfl,rfl,by decide⟩ i hj1) λ b hb1 hb2 hb3=>?_
   refine aj (d9 (by decide)) (cZ hA hb1 (bR MS ⟨b,zs,rfl,hb2,hb3,rfl,hz,aS _,by lia,aS _,by lia,?_⟩))
   exact k _ _ λ K k=>k _
  ·intro x _
   exact DU s2 q
def yH (n m:Nat) (v:V):Prop:=∃d,(∀H,dataOf H m v=some d)/\d.canLay0=true/\d.depth<=n
theorem nQ:∀{us:List V},(∀u∈us,yH n m u)->∃ds,(∀H,mapO (dataOf H m) us=some ds)/\fK ds=true/\jj ds<=n
 |[],_=>⟨[],λ H=>rfl,by simp [fK],by simp [jj]⟩
 |u::us,h=>by
  refine cI (h u (dD ..)) λ d h1 h2 h3=>(cI (nQ λ v hv=>h v (dQ _ hv)) λ ds g1 g2 g3=>⟨d::ds,λ H=>?_,by simp [fK,h2,g2],by simp [jj];lia⟩)
  show (dataOf H m u).bind _=_
  refine af (h1 _) (af (k9 _ _) (af (g1 _) ?_));rfl
theorem yI:∀(n m:Nat) (v:V),datV n v=true->n<m->yH (n+1) m v:=by
 have atom:∀(n m:Nat) (v:V),atomV v=true->yH (n+1) (m+1) v:=λ n m v h=>by
  cases v with
  |none=>exact ⟨.none,λ Z=>rfl,by simp [aT],by simp [eL]⟩
  |bool b=>exact ⟨.bool b,λ Z=>rfl,by simp [aT],by simp [eL]⟩
  |int b=>exact ⟨.int b,λ Z=>rfl,by simp [aT],by simp [eL]⟩
  |str b=>exact ⟨.str b,λ Z=>rfl,h,by simp [eL]⟩
  |_=>exact bS h
 intro n
 induction n with
 |zero=>
  intro m v h hm
  obtain ⟨k,rfl⟩:∃k,m=k+1:=⟨m -1,by lia⟩
  exact atom 0 k v h
 |succ n ih=>
  intro m v h hm
  obtain ⟨k,rfl⟩:∃k,m=k+1:=⟨m -1,by lia⟩
  cases v with
  |tuple us=>
   refine cI (nQ (us:=us) λ u hu=>ih k u (bl.mp h u hu) (by lia)) λ ds g1 g2 g3=>⟨.tuple ds,λ H=>?_,by simp [aT,g2],by simp [eL];assumption⟩
   show (mapO (dataOf H k) us).map _=_
   refine af (g1 _) ?_;rfl
  |_=>exact atom _ k _ h
theorem I0 (h:datV 12 p.2=true):yH 14 28 (stV p):=yI 13 28 (stV p) (kN cP h) (GF _ _)
theorem qC {S:List (Int×V)} (ha:H a=some (.list (S.map stV))) (hb:H b=some (.list (S.map stV))) (hd:∀p∈S,datV 12 p.2=true) (q:QB true):cmpV .Eq (.ref a) (.ref b) H QB:=by
 obtain ⟨ds,g1,g2,g3⟩:=nQ (m:=29) (n:=14) (us:=S.map stV) λ u hu=>by
  refine aL (bC.mp hu) λ p hp r1_=>?_
  subst r1_
  exact yI 13 29 (stV p) (kN cP (hd p hp)) (GF _ _)
 have e:∀x,H x=some (.list (S.map stV))->dataOf H 30 (.ref x)=some (.list ds):=λ x hx=>by
  show (seqOf H (.ref x)).bind _=_
  refine af (vE hx) (af (k9 _ _) (af (g1 _) ?_));rfl
 have sh:jH (.list ds)=true:=by
  unfold jH
  have:(Ia ds).canLay0=true:=by simp [aT,g2]
  refine af this (af (u6 _) ?_)
  refine decide_eq_true ?_
  simp [eL];exact ao ‹_› (by decide)
 exact yE (e a ha) (yE (e b hb) ⟨sh,sh,by exact af (Fp _ (wW sh)) q⟩)
theorem BL {S:List (Int×V)} (hw:aT (.str w)=true) (ha:H a=some (.list (S.map stV))) (hb:H b=some (.list (S.map stV))) (hd:∀p∈S,datV 12 p.2=true) (q:QB true):cmpV .Eq (.tuple [.str w,.ref a]) (.tuple [.str w,.ref b]) H QB:=by
 obtain ⟨ds,g1,g2,g3⟩:=nQ (m:=28) (n:=14) (us:=S.map stV) λ u hu=>by
  refine aL (bC.mp hu) λ p hp r1_=>?_
  subst r1_
  exact I0 (hd p hp)
 have e:∀x,H x=some (.list (S.map stV))->dataOf H 30 (.tuple [.str w,.ref x])=some (.tuple [.str w,.list ds]):=λ x hx=>by
  have:dataOf H 29 (.ref x)=some (.list ds):=by
   show (seqOf H (.ref x)).bind _=_
   refine af (vE hx) (af (k9 _ _) (af (g1 _) ?_));rfl
  show (((dataOf H 29 (.ref x)).bind λ d=>some [d]).map _).map _=_
  refine af this ?_;rfl
 have sh:jH (.tuple [.str w,.list ds])=true:=by
  unfold jH
  have:(PyData.tuple [.str w,.list ds]).canLay0=true:=by simp [aT,fK,g2];simpa [aT] using hw
  refine af this (af (u6 _) ?_)
  refine decide_eq_true ?_
  simp [eL,jj];exact ao ‹_› (by decide)
 exact yE (e a ha) (yE (e b hb) ⟨sh,sh,by exact af (Fp _ (wW sh)) q⟩)
section
variable {B H:MH}
theorem dY.setAt (h:dY B H r z) (ht:z.at_<=t):dY B (H.set r {z with at_:=t}.obj) r {z with at_:=t}:=by
 obtain ⟨n1,n2,n3,n4,n5,n6,n7,n8,n9,n10,n11⟩:=h.ne
 refine cu h.lists λ S P h1 h2 h3=>⟨a6 h.keep h.newr,h.newr,h.news,h.newk,h.newp,h.newt,MH.set_self _ _ _,?_,?_,⟨S,P,?_,?_,h3⟩,h.ord,λ p hp=>eT (h.top p hp) ht,?_,h.nsk,h.npt,h.ndp,h.ndt⟩
 ·show d6 _ z.slots z.sl z.n
  unfold d6;exact af (MH.set_ne _ _ n1) h.slots
 ·show dw _ z.known
  unfold dw;exact af (MH.set_ne _ _ n5) h.known
 ·show MH.set _ _ _ z.pend=_
  exact af (MH.set_ne _ _ n9.symm) h1
 ·show MH.set _ _ _ z.stmts=_
  exact af (MH.set_ne _ _ n10.symm) h2
 ·show MH.set _ _ _ z.dropped=_
  exact af (MH.set_ne _ _ n11.symm) h.dropped
theorem dY.beside (h:dY B H r z) (n1:a≠r) (n2:a≠z.slots) (n3:a≠z.known) (n4:a≠z.pend) (n5:a≠z.stmts) (n6:a≠z.dropped):dY (B.set a o) (H.set a o) r z:=by
 refine cu h.lists λ S P h1 h2 h3=>⟨λ x ox e=>?_,?_,?_,?_,?_,?_,?_,?_,?_,⟨S,P,?_,?_,h3⟩,h.ord,h.top,?_,h.nsk,h.npt,h.ndp,h.ndt⟩
 ·by_cases q:x=a
  ·subst q;rw [MH.set_self] at e⊢;exact e
  ·rw [MH.set_ne _ _ q] at e⊢;exact h.keep _ _ e
 ·exact af (MH.set_ne _ _ n1.symm) h.newr
 ·exact af (MH.set_ne _ _ n2.symm) h.news
 ·exact af (MH.set_ne _ _ n3.symm) h.newk
 ·exact af (MH.set_ne _ _ n4.symm) h.newp
 ·exact af (MH.set_ne _ _ n5.symm) h.newt
 ·exact af (MH.set_ne _ _ n1.symm) h.obj
 ·unfold d6;exact af (MH.set_ne _ _ n2.symm) h.slots
 ·unfold dw;exact af (MH.set_ne _ _ n3.symm) h.known
 ·exact af (MH.set_ne _ _ n4.symm) h1
 ·exact af (MH.set_ne _ _ n5.symm) h2
 ·exact af (MH.set_ne _ _ n6.symm) h.dropped
theorem dY.cells (h:dY B H r z):H z.slots≠none/\H z.known≠none/\H z.pend≠none/\H z.stmts≠none/\H z.dropped≠none/\H r≠none:=by
 refine cu h.lists λ S P h1 h2 h3=>⟨?_,?_,?_,?_,?_,?_⟩
 ·rcases h.slots with ⟨e,_⟩|⟨_,_,e,_⟩<;>refine af e ?_<;>simp
 ·rcases h.known with e|⟨_,_,e⟩<;>refine af e ?_<;>simp
 ·refine af h1 ?_;simp
 ·refine af h2 ?_;simp
 ·refine af h.dropped ?_;simp
 ·refine af h.obj ?_;simp
theorem dY.add (h:dY B H r z) (ha:H a=none):dY (B.set a o) (H.set a o) r z:=by
 exact HL h.cells λ c1 c2 c3 c4 c5 c6=>(h.beside (λ e=>c6 (e▸ha)) (λ e=>c1 (e▸ha)) (λ e=>c2 (e▸ha)) (λ e=>c3 (e▸ha)) (λ e=>c4 (e▸ha)) (λ e=>c5 (e▸ha)))
theorem dY.change (h:dY B H r z) (ha:B a=some o) (hl:∀vs,o≠.list vs):dY (B.set a o') (H.set a o') r z:=by
 refine h.beside (λ e=>?_) (λ e=>?_) (λ e=>?_) (λ e=>?_) (λ e=>?_) (λ e=>?_)
 ·rw [e,h.newr] at ha;exact bH ha
 ·rw [e,h.news] at ha;exact bH ha
 ·rw [e,h.newk] at ha;exact bH ha
 ·rw [e,h.newp] at ha;exact bH ha
 ·rw [e,h.newt] at ha;exact bH ha
 ·have:=h.keep _ _ ha
  rw [e,h.dropped] at this;(have this:=ac this;subst this);exact hl _ rfl
theorem dY.allOut (h:dY B H r z) (hm:∀p∈z.eff,∀q:Int×Int,p≠needSt q):H z.stmts=some (.list (z.eff.map stV)):=by
 refine cu h.lists λ S P h1 h2 h3=>?_
 have:P=[]:=by
  cases P with
  |nil=>rfl
  |cons q P=>exact absurd rfl (hm (needSt q) (by refine af h3 ?_;simp) q)
 subst this
 refine af h3 ?_;simpa using h2
end
noncomputable def numR (g j:Int):Int:=(2712847316+16843009*j+g/32) %2^32
noncomputable def fR (g:Int) (i:Nat):Int->Option Int:=λ j=>if 0<=j/\j<i/\g/2^j.toNat %2=0 then some (numR g j) else none
def iE (H:MH) (a:aI) (f:Int->Option Int) (n:Nat):Prop:=(H a=some .edict/\∀j,f j=none)\/∃h k,H a=some (.idict h k)/\k<=n/\∀j,h j=(f j).map V.int
noncomputable def slF (g:Int) (i:Nat):cY:=λ j=>(fR g i j).map λ x=>rawS x 4
theorem iE.sub {a f n} (s:MH.Sub H H'):iE H a f n->iE H' a f n
 |.inl ⟨e,h⟩=>.inl ⟨s _ _ e,h⟩
 |.inr ⟨h,k,e,r⟩=>.inr ⟨h,k,s _ _ e,r⟩
theorem lZ {f n x v} (h:iE H a f n) (e:f x=some v) (q:Q (.int v) H):subV (.ref a) (.int x) H Q:=by
 rcases h with ⟨_,e2⟩|⟨g,k,e1,_,e2⟩
 ·rw [e2] at e;exact bH e
 ·exact B5 e1 (by (refine af (e2 _) (af e ?_));rfl) q
theorem EA {f n x} (h:iE H a f n) (q:QB (f x).isSome):cmpV .In (.int x) (.ref a) H QB:=by
 rcases h with ⟨e1,e2⟩|⟨g,k,e1,_,e2⟩
 ·rw [e2] at q;exact CM e1 q
 ·exact Go e1 (by (refine af (e2 _) (af Bp ?_));exact q)
theorem C9 {f n x v} (R:dY B H r z) (h:iE B a f n) (hn:n<=100) (k:∀B' H',dY B' H' r z->iE B' a (λ j=>if j=x then some v else f j) (n+1)->(∀y,y≠a->B' y=B y)->QN H'):eH (.ref a) (.int x) (.int v) H QN:=by
 rcases h with ⟨e1,e2⟩|⟨g,m,e1,hm,e2⟩
 ·refine yM (R.keep _ _ e1) (k _ _ (R.change (o':=.idict (λ y=>if y=x then some (V.int v) else none) 1) e1 nofun) (.inr ⟨_,_,MH.set_self _ _ _,mu _,λ j=>?_⟩) λ y hy=>MH.set_ne _ _ hy)
  by_cases e:j=x<;>simp [e,e2]
 ·refine Cw (R.keep _ _ e1) (by lia) (k _ _ (R.change (o':=.idict (λ y=>if y=x then some (V.int v) else g y) (m+1)) e1 nofun) (.inr ⟨_,_,MH.set_self _ _ _,cw ‹_›,λ j=>?_⟩) λ y hy=>MH.set_ne _ _ hy)
  by_cases e:j=x<;>simp [e,e2]
theorem BX (h:g/2^i %2=0):fR g (i+1)=λ j=>if j=(i:Int) then some (numR g i) else fR g i j:=by
 funext j
 unfold fR
 by_cases e:j=(i:Int)
 ·subst e
  rw [if_pos rfl,if_pos ⟨aS _,jm _,by exact af (cJ _) h⟩]
 ·refine af (if_neg e) ?_
  by_cases e2:0<=j/\j<(i:Int)/\g/2^j.toNat %2=0
  ·exact af (if_pos e2) (af (if_pos ⟨e2.1,by lia,e2.2.2⟩) rfl)
  ·exact af (if_neg e2) (af (if_neg (λ h=>e2 ⟨h.1,by lia,h.2.2⟩)) rfl)
theorem Df (h:¬g/2^i %2=0):fR g (i+1)=fR g i:=by
 funext j
 unfold fR
 by_cases e2:0<=j/\j<(i:Int)/\g/2^j.toNat %2=0
 ·exact af (if_pos e2) (af (if_pos ⟨e2.1,by lia,e2.2.2⟩) rfl)
 ·(refine af (if_neg e2) ?_;rw [if_neg (λ h2=>?_)])
  by_cases e:j=(i:Int)
  ·subst e;rw [cJ] at h2;exact h h2.2.2
  ·exact e2 ⟨h2.1,by lia,h2.2.2⟩
theorem EQ (h:g/2^i %2=0):(slF g i).put i (rawS (numR g i) 4)=slF g (i+1):=by
 funext j
 unfold slF cY.put
 refine af (BX h) ?_
 dsimp only
 split<;>rfl
theorem yT:fR g 0 j=none:=by
 unfold fR;(exact af (if_neg (by lia)) rfl)
theorem yz:eB (numR g j) 4:=by
 have e:(256:Int)^(4:Int).toNat=2^32:=by decide
 unfold eB numR
 refine af e ?_
 exact ⟨aQ _ (by decide),by decide,by decide,aM _ (by decide)⟩
theorem xj (h:fR g i j=some x):eB x 4:=by
 unfold fR at h
 split at h
 ·(have h:=ac h;subst h);exact yz
 ·exact bH h
theorem Hm:pairOf (slF g i) lo hi=if lo<0 then some none else match fR g i lo,fR g i hi with
  |some a,some b=>some (some (a,b))
  |_,_=>none:=by
 unfold pairOf
 split
 ·rfl
 ·unfold slF
  cases e:fR g i lo with
  |none=>rfl
  |some a=>
   simp only [qt,lr (xj e)]
   cases e2:fR g i hi with
   |none=>rfl
   |some b=>simp only [qt,lr (xj e2)]
noncomputable def nums5 (base zs:List Int) (t:Int):List Int:=(bF 5).map λ j=>base.getD j 0+digit zs (t+j)
theorem wf (hlv:2<lv) (hρ:framesOf ρ [(aa "j")] fr=[none,some (.tuple (base.map .int)),some (.flist (zs.map .int)),some (.int t)])
  (hk:0<=t/\t<=900) (hm:base.length=5) (hz:zs.length<=1000) (q:Q ((nums5 base zs t).map .int) H):
  compTurns (λ v H2 R=>wpE tb0 lv false (.bin .Add (.sub (.loc 1) (.loc 0)) (.call (.fn (aa "_law_digit") (.user 80)) [(.loc 2),(.bin .Add (.loc 3) (.loc 0))])) ((framesOf ρ [(aa "j")] fr).set 0 (some v)) H2 R jU)
   (λ v H2 R=>wpC tb0 lv none ((framesOf ρ [(aa "j")] fr).set 0 (some v)) H2 R) ((bF 5).map λ (i:Nat)=>V.int i) [] H Q:=by
 refine af hρ ?_
 refine eN (λ u=>match u with
   |.int i=>.int (base.getD i.toNat 0+digit zs (t+i))
   |_=>.none) (λ u R h=>h) (λ u hu R h=>?_) ?_
 ·refine aL (bC.mp hu) λ i hi r1_=>?_
  subst r1_
  have hi:=ca.mp hi
  refine ji (u:=V.int (base.getD (i:Int).toNat 0)) (wu ⟨aS _,by lia⟩ ?_) ?_
  ·have hk:(i:Int).toNat<base.length:=by lia
   refine af (aF) (af (aJ) (af (an hk) ?_));rfl
  refine bR EU ?_ (hU.mpr hlv)
  exact ⟨zs,rfl,by lia,by lia,hz,h⟩
 ·refine af (dx _) (af cD ?_)
  have:(nums5 base zs t).map V.int=(bF 5).map ((λ u=>match u with
   |.int i=>.int (base.getD i.toNat 0+digit zs (t+i))
   |_=>.none)∘λ (i:Nat)=>V.int i):=by
   unfold nums5
   rw [cD]
   refine gu λ i Z=>?_
   rfl
  exact af this.symm q
theorem Er (c:Bool) (h:wpE tb0 lv true t ρ H (λ v H'=>v=.bool c/\MH.Sub H H') X) (k1:c=true->∀H',MH.Sub H H'->wpSs tb0 lv b ρ H' (λ ρ H=>wpSs tb0 lv r ρ H N R X) R X) (k2:c=false->∀H',MH.Sub H H'->wpSs tb0 lv o ρ H' (λ ρ H=>wpSs tb0 lv r ρ H N R X) R X):wpSs tb0 lv (.ite t b o::r) ρ H N R X:=
 bh lW lv t (by rintro _ H' ⟨rfl,s⟩;exact kg (b:=c) (λ e=>k1 e H' s) λ e=>k2 e H' s) (λ Z Z z=>z) h
noncomputable def askOf (low cy pl ph:Int):List Int:=(if 0<=low then [low,cy] else [])++(if 0<=pl then [pl,ph] else [])
noncomputable def okOf (f:Int->Option Int) (low cy pl ph:Int):Bool:=((askOf low cy pl ph).map λ j=>(f j).isSome).all id
noncomputable def vaOf (f:Int->Option Int) (low cy:Int):V:=if low<0 then .none else .tuple [.str "span",.int ((f low).getD 0),.int ((f cy).getD 0)]
noncomputable def vpOf (f:Int->Option Int) (low cy:Int):Option (Int×Int):=if low<0 then none else some ((f low).getD 0,(f cy).getD 0)
theorem D8:okOf f low cy pl ph=((decide (low<0)||((f low).isSome&&(f cy).isSome))&&(decide (pl<0)||((f pl).isSome&&(f ph).isSome))):=by
 unfold okOf askOf
 by_cases h1:low<0<;>by_cases h2:pl<0
 ·refine af (if_neg (by lia)) (af (if_neg (by lia)) (af (decide_eq_true h1) (af (decide_eq_true h2) ?_)));rfl
 ·refine af (if_neg (by lia)) (af (if_pos (dI.mp ‹_›)) (af (decide_eq_true h1) (af (decide_eq_false h2) ?_)));simp
 ·refine af (if_pos (dI.mp ‹_›)) (af (if_neg (by lia)) (af (decide_eq_false h1) (af (decide_eq_true h2) ?_)));simp
 ·refine af (if_pos (dI.mp ‹_›)) (af (if_pos (dI.mp ‹_›)) (af (decide_eq_false h1) (af (decide_eq_false h2) ?_)));simp [Bool.and_assoc]
theorem GQ:datV 11 (vaOf f low cy)=true:=by
 have hs:aT (.str ("span":aw))=true:=by decide+kernel
 unfold vaOf
 split
 ·exact oX
 ·exact fL (eI hs) cP cP
theorem Dd:(t,natSt kind nf va p fl)≠needSt q:=by
 intro h
 have h:=congrArg (λ p:Int×V=>match p.2 with
  |.tuple us=>us.head?
  |_=>none) h
 injection ac h with e
 exact absurd e (by decide)
namespace Fv
def S_ (Q X t k base zs H1):=∀(H:MH) (k0:0<=k) (q:Q (V.bool true) H) (g:Int) (s1:H.Sub H1) (low:Int) (cy:Int) (pl:Int) (ph:Int),wpSs tb0 6 (c89.drop 2) [some (V.flist (a7 V.int zs)),some (V.int t),some (V.int k),some (V.tuple (a7 V.int base)),some (V.int g),some (V.int low),some (V.int cy),some (V.int pl),some (V.int ph),none,none,none,none,none,none,none,none,none] H1 (λ x H'↦Fg Q V.none H') (Fg Q) (rB X)
def U_:=UV λ Q X t=>UV λ k base zs=>S_ Q X t k base zs
def t_:=dr (by infer_instance) U_
def Q:=t_.1
def X:=t_.2.1
def t:=t_.2.2.1
def k:=t_.2.2.2.1
def base:=t_.2.2.2.2.1
def zs:=t_.2.2.2.2.2.1
def s1_:=t_.2.2.2.2.2.2
def H1:=s1_
namespace FS
def S_ (r nD z x):=∀(H:MH) (q:Q (V.bool true) H) (g:Int) (low:Int) (cy:Int) (pl:Int) (ph:Int) (B:MH) (H5:MH) (hR:dY B H5 r z) (hN:iE B nD (fR g 5) 5) (za:z.at_=7+k) (zl:z.sl=slF g 5) (ze:z.eff=[]) (hS:H.Sub B),wpSs tb0 6 [S.assign (T.loc 12) (E.comp2 [aa "one",aa "reg"] [] (E.loc 1) 0 (E.lst [E.tup [E.loc 5,E.loc 6],E.tup [E.loc 7,E.loc 8]]) (E.cmp CmpOp.GtE ((E.loc 0).sub (E.int 0)) (E.int 0)) 1 (E.loc 0)),S.assign (T.loc 13) (E.tup [E.str (aa "a register that nothing was put into"),E.lst []]),S.ite ((E.fn (aa "all") (Fn.bi "all")).call [E.comp [aa "reg"] [10] (E.cmp CmpOp.In (E.loc 0) (E.loc 1)) 0 (E.loc 12) none]) [S.assign (T.loc 14) ((E.cmp yk (E.loc 5) (E.int 0)).ifx E.none (E.tup [E.str (aa "span"),(E.loc 10).sub (E.loc 5),(E.loc 10).sub (E.loc 6)])),S.assign (T.loc 15) ((E.cmp yk (E.loc 7) (E.int 0)).ifx E.none (E.tup [(E.loc 10).sub (E.loc 7),(E.loc 10).sub (E.loc 8)])),S.assign (T.loc 13) (E.tup [E.str (aa ""),E.lst [E.tup [E.bin k8 (E.int 7) (E.loc 2),E.tup [E.str (aa "nat"),E.str (aa "snat"),E.int 2,E.loc 14,E.loc 15,E.tup [E.str (aa "random")]]]]])] [],S.assign (T.loc 16) (E.str (aa "")),S.tryWhy ((E.fn (aa "back_nat_row") (Fn.user 38)).call [E.loc 9,E.tup [E.str (aa "nat"),E.str (aa "snat"),E.int 2,E.loc 5,E.loc 6,E.int 4,E.loc 7,E.loc 8,E.tup [E.str (aa "random")]]]) 17 16,S.ret (E.cmp lF (E.tup [E.loc 16,(E.loc 9).attr (aa "statements")]) (E.loc 13))] [some (V.flist (a7 V.int zs)),some (V.int t),some (V.int k),some (V.tuple (a7 V.int base)),some (V.int g),some (V.int low),some (V.int cy),some (V.int pl),some (V.int ph),some (V.ref r),some (V.ref nD),x,none,none,none,none,none,none] H5 (λ x H'↦Fg Q V.none H') (Fg Q) (rB X)
def U_:=UV λ r nD z=>S_ r nD z
def t_:=dr (by have:=Ii;infer_instance) U_
def r:=t_.1
def nD:=t_.2.1
def z:=t_.2.2.1
def x:=t_.2.2.2
namespace FL
def S_ (g low cy pl ph A f B3 d3 w S uI dB H8):=∀(H:MH) (q:Q (V.bool true) H) (za:z.at_=7+k) (zl:z.sl=slF g 5) (ze:z.eff=[]) (hf:fR g 5=f) (hR8:dY B3 H8 r z) (hd8:B3 d3=some (bK.list (a7 stV S))) (hS8:H.Sub B3) (hw1:okOf f low cy pl ph=true->w=aa ""/\S=[(7+k,natSt (V.str (aa "snat")) (V.int 2) (vaOf f low cy) (vpOf f pl ph) [aa "random"])]) (hw2:okOf f low cy pl ph=false->w=whyEmpty/\S=[]),wpSs tb0 6 [Mine.S.assign (Mine.T.loc 16) (E.str (aa "")),Mine.S.tryWhy ((E.fn (aa "back_nat_row") (Fn.user 38)).call [E.loc 9,E.tup [E.str (aa "nat"),E.str (aa "snat"),E.int 2,E.loc 5,E.loc 6,E.int 4,E.loc 7,E.loc 8,E.tup [E.str (aa "random")]]]) 17 16,Mine.S.ret (E.cmp lF (E.tup [E.loc 16,(E.loc 9).attr (aa "statements")]) (E.loc 13))] [some (V.flist (a7 V.int zs)),some (V.int t),some (V.int k),some (V.tuple (a7 V.int base)),some (V.int g),some (V.int low),some (V.int cy),some (V.int pl),some (V.int ph),some (V.ref r),some (V.ref nD),x,some (V.ref A),some (V.tuple [V.str w,V.ref d3]),uI,dB,none,none] H8 (λ x H'↦Fg Q V.none H') (Fg Q) (rB X)
def U_:=UV λ g low cy=>UV λ pl ph A=>UV λ f B3 d3=>UV λ w S uI=>UU λ dB=>S_ g low cy pl ph A f B3 d3 w S uI dB
def t_:=dr (by infer_instance) U_
def g:=t_.1
def low:=t_.2.1
def cy:=t_.2.2.1
def pl:=t_.2.2.2.1
def ph:=t_.2.2.2.2.1
def A:=t_.2.2.2.2.2.1
def s1_:=t_.2.2.2.2.2.2
def f:=s1_.1
def B3:=s1_.2.1
def d3:=s1_.2.2.1
def w:=s1_.2.2.2.1
def S:=s1_.2.2.2.2.1
def uI:=s1_.2.2.2.2.2.1
def s2_:=s1_.2.2.2.2.2.2
def dB:=s2_.1
def H8:=s2_.2
theorem P_:S_ g low cy pl ph A f B3 d3 w S uI dB H8:=by
 intro H q za zl ze hf hR8 hd8 hS8 hw1 hw2
 refine bM (u:=.str "") ⟨rfl,rfl⟩ ?_
 dsimp only [aC,aD]
 have hw:aT (.str w)=true:=by
  cases e:okOf f low cy pl ph with
  |true=>refine af ((hw1 e).1) ?_;decide+kernel
  |false=>refine af ((hw2 e).1) ?_;decide+kernel
 have hSd:∀p∈S,datV 12 p.2=true:=λ p hp=>by
  cases e:okOf f low cy pl ph with
  |true=>rw [(hw1 e).2,aK] at hp;subst hp;exact un (by decide) (by decide) GQ
  |false=>rw [(hw2 e).2] at hp;cases hp
 have hSn:∀p∈S,∀q:Int×Int,p≠needSt q:=λ p hp q=>by
  cases e:okOf f low cy pl ph with
  |true=>rw [(hw1 e).2,aK] at hp;subst hp;exact Dd
  |false=>rw [(hw2 e).2] at hp;cases hp
 have final:∀(z':RS) (H':MH) (x17:Option V) (N:da->MH->Prop) (X:aw->MH->Prop),dY B3 H' r z'->z'.eff=S->wpSs tb0 6 [.ret (.cmp .Eq (.tup [(.loc 16),(.attr (.loc 9) (aa "statements"))]) (.loc 13))] [some (.flist (zs.map .int)),some (.int t),some (.int k),some (.tuple (base.map .int)),some (.int g),some (.int low),some (.int cy),some (.int pl),some (.int ph),some (.ref r),some (.ref nD),x,some (.ref A),some (.tuple [.str w,.ref d3]),uI,dB,some (.str w),x17] H' N (Fg Q) X:=by
  intro z' H' x17 N X hR' he
  refine cE hR'.at_r rfl (BL (S:=S) (QB:=λ b=>Fg Q (.bool b) H') hw (by have:=hR'.allOut (by exact af he hSn);rw [he] at this;exact this) (hR'.keep _ _ hd8) hSd (DU (hS8.trans hR'.keep) q))
 have hsl:∀g' t',z.sl g'=some t'->i7 t'/\t'.tag="raw":=λ g' t' e=>by
  rw [zl] at e
  unfold slF at e
  rw [hf] at e
  refine aL (aH.mp e) λ v hv r1_=>?_
  subst r1_
  exact ⟨gx (xj (by exact af hf hv)),rfl⟩
 have bad:okOf f low cy pl ph=false->∀(x17:Option V) (N:da->MH->Prop) (X:aw->MH->Prop),wpSs tb0 6 [.ret (.cmp .Eq (.tup [(.loc 16),(.attr (.loc 9) (aa "statements"))]) (.loc 13))] [some (.flist (zs.map .int)),some (.int t),some (.int k),some (.tuple (base.map .int)),some (.int g),some (.int low),some (.int cy),some (.int pl),some (.int ph),some (.ref r),some (.ref nD),x,some (.ref A),some (.tuple [.str w,.ref d3]),uI,dB,some (.str whyEmpty),x17] H8 N (Fg Q) X:=λ e x17 N X=>by
  refine bw (hw2 e) λ hw3 hS3=>?_
  have:=final z H8 x17 N X hR8 (by (exact af ze (af hS3 rfl)))
  exact af hw3.symm this
 have good:okOf f low cy pl ph=true->∀va,va=vaOf f low cy->∀c H',dY B3 H' r {z with pend:=c,eff:=z.eff++[(z.at_,natSt (.str "snat") (.int 2) va (vpOf f pl ph) [("random":aw)])]}->∀(x17:Option V) (N:da->MH->Prop) (X:aw->MH->Prop),wpSs tb0 6 [.ret (.cmp .Eq (.tup [(.loc 16),(.attr (.loc 9) (aa "statements"))]) (.loc 13))] [some (.flist (zs.map .int)),some (.int t),some (.int k),some (.tuple (base.map .int)),some (.int g),some (.int low),some (.int cy),some (.int pl),some (.int ph),some (.ref r),some (.ref nD),x,some (.ref A),some (.tuple [.str w,.ref d3]),uI,dB,some (.str (aa "")),x17] H' N (Fg Q) X:=λ e va hva c H' hR' x17 N X=>by
  subst hva
  refine bw (hw1 e) λ hw3 hS3=>?_
  have:=final _ H' x17 N X hR' (by (refine af hS3 (af ze (af za ?_)));rfl)
  rw [hw3] at this⊢;exact this
 refine bR KQ ⟨B3,z,["random"],hR8,by refine af ze ?_;simp,rfl,by decide,λ g' t' Z e=>(hsl g' t' e).1,λ Z b Z Z e=>(hsl _ b e).2,λ Z b Z Z e=>(hsl _ b e).2,?_⟩
 have hnet:decide (([("random":aw)].filter (·≠("netmap":aw))).length<[("random":aw)].length)=false:=by decide
 have hfil:[("random":aw)].filter (·≠("netmap":aw))=[("random":aw)]:=by decide
 refine af hnet (af hfil ?_)
 have pR:∀lo hi,pairOf z.sl lo hi=if lo<0 then some none else match f lo,f hi with
  |some a,some b=>some (some (a,b))
  |_,_=>none:=λ lo hi=>by (refine af zl (af Hm (af hf ?_)))<;>rfl
 have ok:=@D8 f low cy pl ph
 unfold natAddr
 have ports:(decide (low<0)||((f low).isSome&&(f cy).isSome))=true->match pairOf z.sl pl ph with
  |none=>okOf f low cy pl ph=false
  |some p=>okOf f low cy pl ph=true/\p=vpOf f pl ph:=by
  intro ha
  rw [ha,u6] at ok
  refine af (pR _ _) ?_
  unfold vpOf
  by_cases h2:pl<0
  ·refine af (if_pos h2) ?_
   exact ⟨by (refine af ok (af (decide_eq_true h2) ?_));rfl,by (exact af (if_pos h2) rfl)⟩
  ·refine af (if_neg h2) ?_
   rw [decide_eq_false h2,jc] at ok
   cases e1:f pl with
   |none=>(refine af ok (af e1 ?_));rfl
   |some a=>
    cases e2:f ph with
    |none=>(refine af ok (af e1 (af e2 ?_)));rfl
    |some b=>exact ⟨by (refine af ok (af e1 (af e2 ?_)));rfl,by refine af (if_neg h2) ?_;rfl⟩
 by_cases h1:low<0
 ·refine af (if_pos h1) ?_
  have P:=ports (by refine af (decide_eq_true h1) ?_;rfl)
  have hva:V.none=vaOf f low cy:=by unfold vaOf;(exact af (if_pos h1) rfl)
  dsimp only
  cases e:pairOf z.sl pl ph with
  |none=>rw [e] at P;exact bad P none (λ Z Z=>True) jU
  |some p=>
   rw [e] at P
   refine bw P λ P1 r1_=>?_
   clear P
   subst r1_
   exact λ c H' hR'=>⟨rfl,good P1 _ hva c H' hR' none (λ Z Z=>True) jU⟩
 ·refine af (if_neg h1) (af (pR low cy) (af (if_neg h1) ?_))
  rw [decide_eq_false h1,jc] at ok ports
  cases e1:f low with
  |none=>exact bad (by (refine af ok (af e1 ?_));rfl) none (λ Z Z=>True) jU
  |some a=>
   cases e2:f cy with
   |none=>exact bad (by (refine af ok (af e1 (af e2 ?_)));rfl) none (λ Z Z=>True) jU
   |some b=>
    have P:=ports (by (refine af e1 (af e2 ?_));rfl)
    have hva:V.tuple [.str "span",.int a,.int b]=vaOf f low cy:=by unfold vaOf;(refine af (if_neg h1) (af e1 (af e2 ?_)));rfl
    show if false=true then _ else _
    refine af (if_neg (by decide)) ?_
    dsimp only
    cases e:pairOf z.sl pl ph with
    |none=>rw [e] at P;exact bad P none (λ Z Z=>True) jU
    |some p=>
     rw [e] at P
     refine bw P λ P1 r1_=>?_
     clear P
     subst r1_
     exact λ c H' hR'=>⟨rfl,good P1 _ hva c H' hR' none (λ Z Z=>True) jU⟩
theorem A_:∀p,U_ p:=bB P_
end FL
namespace F8
def S_ (g low cy pl ph A d H7):=∀(H:MH) (q:Q (V.bool true) H) (B:MH) (H5:MH) (za:z.at_=7+k) (zl:z.sl=slF g 5) (ze:z.eff=[]) (H6:MH) (hA:H6 A=some (bK.list (a7 V.int (askOf low cy pl ph)))) (hA5:H5 A=none) (hBA:B A=none) (B2:MH) (hR7:dY B2 H7 r z) (hd:B2 d=some (bK.list (a7 stV []))) (hN2:iE B2 nD (fR g 5) 5) (hS2:H.Sub B2) (hA7:H7 A=some (bK.list (a7 V.int (askOf low cy pl ph)))) (hBA2:B2 A=none),wpSs tb0 6 [S.ite ((E.fn (aa "all") (Fn.bi "all")).call [E.comp [aa "reg"] [10] (E.cmp CmpOp.In (E.loc 0) (E.loc 1)) 0 (E.loc 12) none]) [S.assign (Mine.T.loc 14) ((E.cmp yk (E.loc 5) (E.int 0)).ifx E.none (E.tup [E.str (aa "span"),(E.loc 10).sub (E.loc 5),(E.loc 10).sub (E.loc 6)])),S.assign (Mine.T.loc 15) ((E.cmp yk (E.loc 7) (E.int 0)).ifx E.none (E.tup [(E.loc 10).sub (E.loc 7),(E.loc 10).sub (E.loc 8)])),S.assign (Mine.T.loc 13) (E.tup [E.str (aa ""),E.lst [E.tup [E.bin k8 (E.int 7) (E.loc 2),E.tup [E.str (aa "nat"),E.str (aa "snat"),E.int 2,E.loc 14,E.loc 15,E.tup [E.str (aa "random")]]]]])] [],S.assign (Mine.T.loc 16) (E.str (aa "")),S.tryWhy ((E.fn (aa "back_nat_row") (Fn.user 38)).call [E.loc 9,E.tup [E.str (aa "nat"),E.str (aa "snat"),E.int 2,E.loc 5,E.loc 6,E.int 4,E.loc 7,E.loc 8,E.tup [E.str (aa "random")]]]) 17 16,S.ret (E.cmp lF (E.tup [E.loc 16,(E.loc 9).attr (aa "statements")]) (E.loc 13))] ([some (V.flist (a7 V.int zs)),some (V.int t),some (V.int k),some (V.tuple (a7 V.int base)),some (V.int g),some (V.int low),some (V.int cy),some (V.int pl),some (V.int ph),some (V.ref r),some (V.ref nD),x,some (V.ref A),none,none,none,none,none].set 13 (some (V.tuple [V.str whyEmpty,V.ref d]))) H7 (λ x H'↦Fg Q V.none H') (Fg Q) (rB X)
def U_:=UV λ g low cy=>UV λ pl ph A=>UU λ d=>S_ g low cy pl ph A d
def t_:=dr (by infer_instance) U_
def g:=t_.1
def low:=t_.2.1
def cy:=t_.2.2.1
def pl:=t_.2.2.2.1
def ph:=t_.2.2.2.2.1
def A:=t_.2.2.2.2.2.1
def s1_:=t_.2.2.2.2.2.2
def d:=s1_.1
def H7:=s1_.2
theorem P_:S_ g low cy pl ph A d H7:=by
 intro H q B H5 za zl ze H6 hA hA5 hBA B2 hR7 hd hN2 hS2 hA7 hBA2
 dsimp only [aC,aD]
 generalize hf:fR g 5=f at*
 refine eC (λ ρ K=>∀B3 d w S uI dB H',dY B3 H' r z->B3 d=some (.list (a7 stV S))->MH.Sub H B3->(okOf f low cy pl ph=true->w=("":aw)/\S=[(7+k,natSt (.str "snat") (.int 2) (vaOf f low cy) (vpOf f pl ph) [("random":aw)])])->(okOf f low cy pl ph=false->w=whyEmpty/\S=[])->K (((ρ.set 14 uI).set 15 dB).set 13 (some (.tuple [.str w,.ref d]))) H') (λ K kk=>?_) ?_
 ·show wpSs tb0 6 [_] _ _ _ _ _
  refine Er (okOf f low cy pl ph) ?_ (λ e H8 s8=>?_) (λ e H8 s8=>?_)
  ·refine qm (mf hA7) ⟨?_,?_⟩
   ·unfold askOf;split<;>split<;>simp
   refine eN (λ u=>match u with
    |.int j=>.bool (f j).isSome
    |_=>.none) (λ u R h=>h) (λ u hu R h=>?_) ?_
   ·refine aL (bC.mp hu) λ j hj r1_=>?_
    subst r1_
    exact EA (hN2.sub λ x o e=>by
     have n1:x≠A:=cH e hBA2 b7
     show MH.del _ _ _=_
     refine af (MH.del_ne _ n1) ?_;exact hR7.keep _ _ e) h
   ·refine af (dx _) (af cD (af Hl (af (ma hA7) ?_)))
    intro c hc
    refine bw (bY hc) λ nc hc2=>?_
    rw [MH.del_ne _ nc] at hc2
    refine ⟨(askOf low cy pl ph).map λ j=>(f j).isSome,by (refine af (MH.set_self _ _ _) (af cD ?_));rfl,?_,?_⟩
    ·refine af (ag _) ?_;unfold askOf;split<;>split<;>simp
    ·refine ⟨rfl,λ x o e=>?_⟩
     have n2:x≠c:=cH e hc2 b7
     refine af (MH.set_ne _ _ n2) ?_
     by_cases n1:x=A
     ·subst n1;(refine af (MH.set_self _ _ _) (af hA7.symm ?_));exact e
     ·refine af (MH.set_ne _ _ n1) (af (MH.del_ne _ n1) ?_);exact e
  ·have hR8:=hR7.sub s8
   have hN8:=hN2.sub hR8.keep
   have hok:∀j∈askOf low cy pl ph,∃x,f j=some x:=λ j hj=>by
    unfold okOf at e
    rw [List.all_map] at e
    exact Option.isSome_iff_exists.mp (bl.mp e j hj)
   have o1:0<=low->(∃x,f low=some x)/\∃x,f cy=some x:=λ h=>⟨hok _ (by unfold askOf;refine af (if_pos h) ?_;simp),hok _ (by unfold askOf;refine af (if_pos h) ?_;simp)⟩
   have o2:0<=pl->(∃x,f pl=some x)/\∃x,f ph=some x:=λ h=>⟨hok _ (by unfold askOf;refine af (if_pos h) ?_;simp),hok _ (by unfold askOf;refine af (if_pos h) ?_;simp)⟩
   refine bM (u:=vaOf f low cy) ?_ ?_
   ·unfold vaOf
    refine kg (b:=decide (low<0)) (λ e=>?_) (λ e=>?_)
    ·exact af (if_pos (of_decide_eq_true e)) ⟨rfl,rfl⟩
    ·refine af (if_neg (of_decide_eq_false e)) ?_
     obtain ⟨⟨x,hx⟩,⟨y,hy⟩⟩:=o1 (by have:=of_decide_eq_false e;exact dI.mp ‹_›)
     refine lZ hN8 hx (lZ hN8 hy ?_)
     refine af hx (af hy ?_);exact ⟨rfl,rfl⟩
   refine bM (u:=pairV (vpOf f pl ph)) ?_ ?_
   ·unfold vpOf
    refine kg (b:=decide (pl<0)) (λ e=>?_) (λ e=>?_)
    ·exact af (if_pos (of_decide_eq_true e)) ⟨rfl,rfl⟩
    ·refine af (if_neg (of_decide_eq_false e)) ?_
     obtain ⟨⟨x,hx⟩,⟨y,hy⟩⟩:=o2 (by have:=of_decide_eq_false e;exact dI.mp ‹_›)
     refine lZ hN8 hx (lZ hN8 hy ?_)
     refine af hx (af hy ?_);exact ⟨rfl,rfl⟩
   dsimp only [aC,aD]
   intro d2 hd2
   have hBd2:=hR8.keep.none hd2
   exact kk _ d2 "" [(7+k,natSt (.str "snat") (.int 2) (vaOf f low cy) (vpOf f pl ph) [("random":aw)])] _ _ _ (hR8.add hd2) (MH.set_self _ _ _) (hS2.trans (bZ hBd2)) (λ Z=>⟨rfl,rfl⟩) (λ h=>absurd (e.symm.trans h) (by decide))
  ·exact kk B2 d whyEmpty [] none none _ (hR7.sub s8) hd hS2 (λ h=>absurd (h.symm.trans e) (by decide)) (λ Z=>⟨rfl,rfl⟩)
 intro B3 d3 w S uI dB H8 hR8 hd8 hS8 hw1 hw2
 dsimp only [aC,aD]
 exact FL.A_ (g,low,cy,pl,ph,A,f,B3,d3,w,S,uI,dB,H8) H q za zl ze hf hR8 hd8 hS8 hw1 hw2
theorem A_:∀p,U_ p:=bB P_
end F8
theorem P_:S_ r nD z x:=by
 intro H q g low cy pl ph B H5 hR hN za zl ze hS
 refine dO (λ K=>∀A H',dY B H' r z->H' A=some (.list ((askOf low cy pl ph).map .int))->H5 A=none->K (.ref A) H') (λ K kk=>?_) ?_
 ·intro A hA
  refine qm (mf (MH.set_self _ _ _)) (aj (aO rfl) ?_)
  refine af Hl ?_
  generalize hL:bK.list [V.tuple [V.int low,V.int cy],V.tuple [V.int pl,V.int ph]]=L
  have fe:∀acc:List V,acc=(askOf low cy pl ph).map .int->∀c,backOf (H5.set A L) ((H5.set A L).del A) (.ref A) c=none->K (.ref c) ((backOf (H5.set A L) ((H5.set A L).del A) (.ref A)).set c (.list acc)):=by
   intro acc hacc c
   refine af (ma (MH.set_self _ _ _)) ?_
   intro hc
   refine bw (bY hc) λ nc hc2=>?_
   rw [MH.del_ne _ nc,MH.set_ne _ _ nc] at hc2
   refine kk c _ (hR.sub λ x o e=>?_) (by (exact af (MH.set_self _ _ _) (af hacc rfl))) hc2
   have n1:x≠A:=cH e hA b7
   have n2:x≠c:=cH e hc2 b7
   refine af (MH.set_ne _ _ n2) (af (MH.set_ne _ _ n1) (af (MH.del_ne _ n1) (af (MH.set_ne _ _ n1) ?_)));exact e
  unfold askOf at fe
  refine kg (b:=decide (0<=low)) (λ e=>?_) λ e=>?_
  ·refine aj rfl (aj (aO rfl) ?_)
   refine kg (b:=decide (0<=pl)) (λ e2=>?_) λ e2=>?_
   ·refine aj rfl (aj (aO rfl) ?_)
    refine fe _ ?_
    refine af (if_pos (of_decide_eq_true e)) (af (if_pos (of_decide_eq_true e2)) ?_);rfl
   ·refine fe _ ?_
    refine af (if_pos (of_decide_eq_true e)) (af (if_neg (of_decide_eq_false e2)) ?_);rfl
  ·refine kg (b:=decide (0<=pl)) (λ e2=>?_) λ e2=>?_
   ·refine aj rfl (aj (aO rfl) ?_)
    refine fe _ ?_
    refine af (if_neg (of_decide_eq_false e)) (af (if_pos (of_decide_eq_true e2)) ?_);rfl
   ·refine fe _ ?_
    refine af (if_neg (of_decide_eq_false e)) (af (if_neg (of_decide_eq_false e2)) ?_);rfl
 intro A H6 hR6 hA hA5
 dsimp only [aC,aD]
 have hBA:=hR.keep.none hA5
 refine dO (λ K=>∀d B2 H',dY B2 H' r z->B2 d=some (.list (([]:List (Int×V)).map stV))->iE B2 nD (fR g 5) 5->MH.Sub H B2->H' A=some (.list ((askOf low cy pl ph).map .int))->B2 A=none->K (.tuple [.str whyEmpty,.ref d]) H') (λ K kk=>?_) ?_
 ·intro d hd
  have nd:A≠d:=cH hA hd b7
  have hBd:=hR6.keep.none hd
  exact kk d (B.set d (.list [])) _ (hR6.add hd) (MH.set_self _ _ _) (hN.sub (bZ hBd)) (hS.trans (bZ hBd)) (by exact af (MH.set_ne _ _ nd) hA) (by exact af (MH.set_ne _ _ nd) hBA)
 intro d B2 H7 hR7 hd hN2 hS2 hA7 hBA2
 exact F8.A_ (g,low,cy,pl,ph,A,d,H7) H q B H5 za zl ze H6 hA hA5 hBA B2 hR7 hd hN2 hS2 hA7 hBA2
theorem A_:∀p,U_ p:=bB P_
end FS
namespace FF
def S_ (g low cy pl ph r nD H4 i N' B z x H5):=∀(B_x:MH) (hB:H1.Sub B_x) (hBn:B_x nD=none) (u:V) (e:(a7 (λ (i:Nat)↦V.int (↑i:Int)) (bF (5:Nat)))[i]?=some u) (kk:∀(ρ':da) (H':MH),(∀(K:da->MH->Prop),(∀(B:MH) (z:RS) (x:Option V) (H':MH),dY B H' r z->iE B nD (fR g (i+(1:Nat))) (i+(1:Nat))->H1.Sub B->z.at_=(7:Int)+k->z.sl=slF g (i+(1:Nat))->z.n<=i+(1:Nat)->z.eff=[]->K [some (V.flist (a7 V.int zs)),some (V.int t),some (V.int k),some (V.tuple (a7 V.int base)),some (V.int g),some (V.int low),some (V.int cy),some (V.int pl),some (V.int ph),some (V.ref r),some (V.ref nD),x,none,none,none,none,none,none] H')->K ρ' H')->N' ρ' H') (hR:dY B H5 r z) (hN:iE B nD (fR g i) i) (hS:H1.Sub B) (za:z.at_=(7:Int)+k) (zl:z.sl=slF g i) (zn:z.n<=i) (ze:z.eff=[]),assignT (T.loc (11:Nat)) u [some (V.flist (a7 V.int zs)),some (V.int t),some (V.int k),some (V.tuple (a7 V.int base)),some (V.int g),some (V.int low),some (V.int cy),some (V.int pl),some (V.int ph),some (V.ref r),some (V.ref nD),x,none,none,none,none,none,none] H5 λ (ρ2:da) (H3:MH)↦wpSs tb0 (6:Nat) [S.ite (E.cmp lF (E.bin dA (E.bin yj (E.loc (4:Nat)) (E.bin nO (E.int (2:Int)) (E.loc (11:Nat)))) (E.int (2:Int))) (E.int (0:Int))) [S.setitem (E.loc (10:Nat)) (E.loc (11:Nat)) (E.bin dA (E.bin k8 (E.bin k8 (E.int (2712847316:Int)) (E.bin Operator.Mult (E.int (16843009:Int)) (E.loc (11:Nat)))) (E.bin yj (E.loc (4:Nat)) (E.int (32:Int)))) (E.bin nO (E.int (2:Int)) (E.int (32:Int)))),S.expr ((E.fn (aa "back_immediate") (Fn.user (32:Nat))).call [E.loc (9:Nat),E.tup [E.str (aa "immediate"),E.loc (11:Nat),(E.fn (aa "_law_octets") (Fn.user (81:Nat))).call [(E.loc (10:Nat)).sub (E.loc (11:Nat)),E.int (4:Int)]]])] []] ρ2 H3 N' (λ (r:V) (H4_1:MH)↦Fg Q r (backOf H4 H4_1 (V.range (5:Int)))) jU
def U_:=UV λ g low cy=>UV λ pl ph r=>UV λ nD H4 i=>UV λ N' B z=>UU λ x=>S_ g low cy pl ph r nD H4 i N' B z x
def t_:=dr (by have:=Ii;infer_instance) U_
def g:=t_.1
def low:=t_.2.1
def cy:=t_.2.2.1
def pl:=t_.2.2.2.1
def ph:=t_.2.2.2.2.1
def r:=t_.2.2.2.2.2.1
def s1_:=t_.2.2.2.2.2.2
def nD:=s1_.1
def H4:=s1_.2.1
def i:=s1_.2.2.1
def N':=s1_.2.2.2.1
def B:=s1_.2.2.2.2.1
def z:=s1_.2.2.2.2.2.1
def s2_:=s1_.2.2.2.2.2.2
def x:=s2_.1
def H5:=s2_.2
theorem P_:S_ g low cy pl ph r nD H4 i N' B z x H5:=by
 intro B_x hB hBn u e kk hR hN hS za zl zn ze
 rw [aF] at e
 refine aL (aH.mp e) λ j hj r1_=>?_
 subst r1_
 obtain ⟨hj1,hj2⟩:=aN.mp hj
 rw [ft] at hj2
 subst hj2
 rw [bO] at hj1
 have p2:(2:Int)^(i:Int).toNat=2^i:=by (exact af (cJ _) rfl)
 have p3:=gq i
 have p4:(2:Int)^i<=2^5:=qB (fB ‹_›)
 refine bA (decide (g/2^i %2=0)) ?_ (λ e=>?_) (λ e=>?_)
 ·refine aj ⟨aS _,by lia,by decide⟩ ?_
  refine af p2 ?_
  exact kg (b:=divOk (2^i)) (λ Z=>⟨rfl,rfl⟩) λ Z=>⟨⟨by assumption,GN (k:=10) (kA (aS _) (by lia)) (by decide)⟩,rfl,rfl⟩
 ·have e:=of_decide_eq_true e
  refine aj (d9 (by decide)) (aj ⟨by decide,by decide,by decide⟩ (C9 (v:=numR g i) hR hN (by lia) λ B' H6 hR' hN' hB'=>?_))
  rw [<-BX e] at hN'
  have hN6:=hN'.sub hR'.keep
  have hfi:fR g (i+1) (i:Int)=some (numR g i):=by refine af (BX e) ?_;exact if_pos rfl
  refine lZ hN6 hfi (bR DC ⟨yz.1,by decide,by decide,?_⟩)
  refine bR JF ⟨B',z,hR',by lia,gS (by decide),λ H7 hR7=>⟨rfl,kk _ _ λ K kk=>kk B' _ _ _ hR7 hN' ?_ za ?_ ?_ ze⟩⟩
  ·intro y o ey
   have:y≠nD:=λ q=>by
    have:=hS _ _ ey
    have h1:=hB.none hBn
    rw [q,h1] at ey;exact bH ey
   refine af (hB' y this) ?_;exact hS _ _ ey
  ·show z.sl.put i (rawS (numR g i) 4)=_
   exact af zl (af (EQ e) rfl)
  ·show z.n+1<=i+1
   exact cw ‹_›
 ·have e:=of_decide_eq_false e
  refine kk _ _ λ K kk=>kk B z _ _ hR ?_ hS za ?_ (cK ‹_›) ze
  ·refine af (Df e) ?_
   exact hN.imp id λ ⟨h,k,a,b,c⟩=>⟨h,k,a,cK ‹_›,c⟩
  ·rw [show slF g (i+1)=slF g i by unfold slF;(exact af (Df e) rfl)];exact zl
theorem A_:∀p,U_ p:=bB P_
end FF
theorem P_:S_ Q X t k base zs H1:=by
 intro H k0 q g s1 low cy pl ph
 refine dO (λ K=>∀r B z H',dY B H' r z->MH.Sub H1 B->z.at_=0->(∀i,z.sl i=none)->z.n=0->z.eff=[]->K (.ref r) H') (λ K kk=>?_) ?_
 ·intro a ha b hb2
  refine bw (bY hb2) λ nb hb3=>?_
  refine λ r d hr=>?_
  refine bw (bY hr) λ nr hr2=>(bw (bY hr2) λ nr2 hr3=>⟨d,MH.set_self _ _ _,nr2,nr,λ z H' hR ha0 ho hs hsl hn he Z=>⟨rfl,kk r _ z _ hR (λ x o e=>?_) ha0 hsl hn he⟩⟩)
  have n1:x≠r:=cH e hr3 b7
  have n2:x≠b:=cH e hb3 b7
  have n3:x≠a:=cH e ha b7
  refine af (MH.del_ne _ n1) (af (MH.set_ne _ _ n1) (af (MH.set_ne _ _ n2) (af (MH.set_ne _ _ n3) ?_)));exact e
 intro r B z H2 hR hB za zs' zn ze
 dsimp only [aC,aD]
 refine eC (λ ρ K=>∀H',dY B H' r {z with at_:=7+k}->K ρ H') (λ K kk=>?_) ?_
 ·exact km hR.at_r rfl rfl (kk _ (hR.setAt (t:=7+k) (by lia)))
 intro H3 hR3
 refine dO (λ K=>∀nD H',dY (B.set nD .edict) H' r {z with at_:=7+k}->B nD=none->K (.ref nD) H') (λ K kk c hc=>kk c _ (hR3.add hc) (hR3.keep.none hc)) ?_
 intro nD H4 hR4 hBn
 dsimp only [aC,aD]
 have hS0:MH.Sub H1 (B.set nD .edict):=a6 hB (hB.none hBn)
 refine mh (.range 5) (us:=(bF 5).map λ (i:Nat)=>.int i) (λ i K=>∀B (z:RS) x H',dY B H' r z->iE B nD (fR g i) i->MH.Sub H1 B->z.at_=7+k->z.sl=slF g i->z.n<=i->z.eff=[]->K [some (.flist (zs.map .int)),some (.int t),some (.int k),some (.tuple (base.map .int)),some (.int g),some (.int low),some (.int cy),some (.int pl),some (.int ph),some (.ref r),some (.ref nD),x,none,none,none,none,none,none] H') (λ K k=>aj (by decide) (aj (by decide) k)) rfl ?_ ?_ ?_
 ·refine λ K kk=>kk _ _ none _ hR4 (.inl ⟨MH.set_self _ _ _,λ j=>yT⟩) hS0 rfl ?_ (by show z.n<=0;exact gm ‹_›) ze
  funext j
  show z.sl j=_
  unfold slF
  refine af yT (af (zs' j) ?_);rfl
 ·intro i u N' e kk B z x H5 hR hN hS za zl zn ze
  rename_i B_x z_x hR_x za_x zn_x ze_x
  exact FF.A_ (g,low,cy,pl,ph,r,nD,H4,i,N',B,z,x,H5) B_x hB hBn u e kk hR hN hS za zl zn ze
 clear hR hR3 hR4 hS0 ze zn za zs' hB hBn
 intro B z x H5 hR hN hS za zl zn ze _
 rw [ag,bO] at*
 show wpSs tb0 6 _ _ H5 _ _ _
 have hS:MH.Sub H B:=s1.trans hS
 exact FS.A_ (r,nD,z,x) H q g low cy pl ph B H5 hR hN za zl ze hS
theorem A_:∀p,U_ p:=bB P_
end Fv
theorem MM:VC Cv 6 ps89 nm89 [] c89:=by
 intro us H Q X h
 refine Ks (λ l t k bs h=>?_) h
 ·refine jR h λ base zs r1_ hl hb t2_=>(C5 t2_ λ r3_ hz t0 t1 k0 k1 q=>?_)
  clear h t2_
  subst r1_
  subst r3_
  refine ⟨rfl,?_⟩
  show wpSs tb0 6 c89 [some (.flist (zs.map .int)),some (.int t),some (.int k),some (.tuple (base.map .int)),none,none,none,none,none,none,none,none,none,none,none,none,none,none] H _ _ _
  have bd:∀(j:Nat) (kk:Int),0<=base.getD j 0+digit zs kk:=λ j kk=>by
   refine bw (qH zs kk) λ d0 d1=>?_
   have:0<=base.getD j 0:=by
    refine af (aJ) ?_
    cases e:base[j]? with
    |none=>decide
    |some x=>exact (hb x (aZ e)).1
   exact HZ ‹_› ‹_›
  obtain ⟨g,hg⟩:∃c,c=base.getD 0 0+digit zs (t+(0:Nat)):=⟨_,rfl⟩
  obtain ⟨lo,hlo⟩:∃c,c=base.getD 1 0+digit zs (t+(1:Nat)):=⟨_,rfl⟩
  obtain ⟨hi,hhi⟩:∃c,c=base.getD 2 0+digit zs (t+(2:Nat)):=⟨_,rfl⟩
  obtain ⟨plo,hplo⟩:∃c,c=base.getD 3 0+digit zs (t+(3:Nat)):=⟨_,rfl⟩
  obtain ⟨phi,hphi⟩:∃c,c=base.getD 4 0+digit zs (t+(4:Nat)):=⟨_,rfl⟩
  have hnums:(nums5 base zs t).map V.int=[.int g,.int lo,.int hi,.int plo,.int phi]:=by (refine af hg (af hlo (af hhi (af hplo (af hphi ?_)))));rfl
  have bg:=bd 0 (t+(0:Nat));rw [<-hg] at bg
  clear hg hlo hhi hplo hphi
  refine eC (λ ρ K=>∀H',MH.Sub H H'->K (((((ρ.set 4 (some (.int g))).set 5 (some (.int lo))).set 6 (some (.int hi))).set 7 (some (.int plo))).set 8 (some (.int phi))) H') (λ K kk=>?_) ?_
  ·refine ⟨by decide,by decide,by decide,?_⟩
   refine wf (lv:=6) (fr:=[3,0,1]) (ρ:=[some (.flist (zs.map .int)),some (.int t),some (.int k),some (.tuple (base.map .int)),none,none,none,none,none,none,none,none,none,none,none,none,none,none]) (by decide) rfl ⟨t0,t1⟩ hl hz ?_
   intro d hd
   refine af hnums ?_
   exact Cj (vE (MH.set_self _ _ _)) ⟨rfl,kk _ (bZ hd)⟩
  intro H1 s1
  dsimp only [aC,aD]
  have r1:-1<=lo %7 -1/\lo %7 -1<=5:=by lia
  have r2:0<=hi %6/\hi %6<=5:=⟨aQ _ (by decide),bI (aM _ (by decide))⟩
  have r3:-1<=plo %7 -1/\plo %7 -1<=5:=by lia
  have r4:0<=phi %6/\phi %6<=5:=⟨aQ _ (by decide),bI (aM _ (by decide))⟩
  refine eC (λ ρ K=>K ((((ρ.set 5 (some (.int (lo %7 -1)))).set 6 (some (.int (hi %6)))).set 7 (some (.int (plo %7 -1)))).set 8 (some (.int (phi %6)))) H1) (λ K kk=>⟨rfl,kk⟩) ?_
  dsimp only [aC,aD]
  generalize lo %7 -1=low at*
  generalize hi %6=cy at*
  generalize plo %7 -1=pl at*
  generalize phi %6=ph at*
  exact Fv.A_ (Q,X,t,k,base,zs,H1) H k0 q g s1 low cy pl ph
noncomputable def backsAll:List (aw×V):=backs0++([("immediate",.fn (.user 32)),("meta",.fn (.user 31)),("cmp",.fn (.user 34)),("map",.fn (.user 35))]:List (aw×V))
theorem wm {T:iX} {c c1:Cr} (hR:dY B H r z) (ha:z.at_=t) (hsl:z.sl=c.sl) (hzn:z.n=c.n) (hze:z.eff=c.eff) (ho:z.order=order) (hT:cF B z.sets T) (hn:c.n<=10000) (he:c.eff.length<=1000) (hs:ip T order t c row c1)
  (k:∀z' H',dY B H' r z'->z'.at_=t->z'.sl=c1.sl->z'.n=c1.n->z'.eff=c1.eff->z'.order=order->z'.sets=z.sets->Q .none H'):
  ∃tag rest f,row=.tuple (.str tag::rest)/\backsAll.lookup tag=some (.fn (.user f))/\tb0.lvl (.user f)<7/\tb0.spec (.user f) [.ref r,row] H Q X/\c1.n<=c.n+2/\c1.eff.length<=c.eff.length+1:=by
 cases hs with
 |imm g b hb=>
  refine ⟨"immediate",_,32,rfl,rfl,by decide,?_,by show c.n+1<=_;lia,by show c.eff.length<=_;exact fk _ _⟩
  refine af JF ?_;unfold zR
  exact ⟨B,z,hR,by lia,hb,λ H' hR'=>k _ _ hR' ha (by (exact af hsl rfl)) (by (exact af hzn rfl)) hze ho rfl⟩
 |met g name size o hl=>
  refine ⟨"meta",_,31,rfl,rfl,by decide,?_,by show c.n+1<=_;lia,by show c.eff.length<=_;exact fk _ _⟩
  refine af Nt ?_;unfold zH
  exact ⟨B,z,hR,by lia,hl,λ H' hR'=>k _ _ hR' ha (by (exact af hsl rfl)) (by (exact af hzn rfl)) hze ho rfl⟩
 |cmp op g b nm o size hb hg hnm hoo=>
  refine ⟨"cmp",_,34,rfl,rfl,by decide,?_,by show c.n<=_;exact fk _ _,by show (c.eff++_).length<=_;(refine af az (af aU ?_));exact bW _⟩
  refine af NA ?_;unfold Ao
  refine ⟨B,z,o,size,nm,hR,by exact af hze he,hb,by exact af hsl hg,hnm,by exact af ho hoo,λ c' H' hR'=>k _ _ hR' ha hsl hzn ?_ ho rfl⟩
  show z.eff++_=c.eff++_
  exact af hze (af ha (af ho rfl))
 |mp g ts name ve l2 ht hl hl2 hp=>
  refine ⟨"map",_,35,rfl,rfl,by decide,?_,by show c.n+l2.length<=_;exact oM ‹_› _,by show c.eff.length<=_;exact fk _ _⟩
  refine af LQ ?_;unfold AM
  refine ⟨B,z,T,ts,l2,hR,hT,rfl,by exact af hsl ht,hl,rfl,ao ‹_› (by decide),hp,by lia,λ H' hR'=>k _ _ hR' ha ?_ ?_ hze ho rfl⟩
  ·show mapPut _ z.sl _ _=_
   exact af hsl rfl
  ·show z.n+_=c.n+_
   exact af hzn rfl
 |same kind name hk=>
  have fe:tb0.spec (.user 36) [.ref r,.tuple [.str kind,.str name]] H Q X:=by
   refine af Ny ?_;unfold Am
   refine ⟨B,z,hR,by exact af hze he,λ c' H' hR'=>k _ _ hR' ha hsl hzn ?_ ho rfl⟩
   show z.eff++_=c.eff++_
   exact af hze (af ha rfl)
  rcases hk with rfl|rfl
  ·exact ⟨"expect",_,36,rfl,rfl,by decide,fe,by show c.n<=_;exact fk _ _,by show (c.eff++_).length<=_;(refine af az (af aU ?_));exact bW _⟩
  ·exact ⟨"flow",_,36,rfl,rfl,by decide,fe,by show c.n<=_;exact fk _ _,by show (c.eff++_).length<=_;(refine af az (af aU ?_));exact bW _⟩
 |nat kind nf r3 r4 size r6 r7 ts va p hl hok h1 h2 hna hp=>
  refine ⟨"nat",_,38,rfl,rfl,by decide,?_,by show c.n<=_;exact fk _ _,by show (c.eff++_).length<=_;(refine af az (af aU ?_));exact bW _⟩
  refine af KQ ?_;unfold zK
  refine ⟨B,z,ts,hR,by exact af hze he,rfl,hl,by exact af hsl hok,by exact af hsl h1,by exact af hsl h2,?_⟩
  have hna':=hna
  rw [<-hsl] at hna'
  refine nU ?_ hna'
  rintro _ rfl
  dsimp only
  rw [show pairOf z.sl r6 r7=some p by exact af hsl hp]
  refine λ c' H' hR'=>k _ _ hR' ha hsl hzn ?_ ho rfl
  show z.eff++_=c.eff++_
  exact af hze (af ha rfl)
section
variable {B H:MH}
theorem dY.setOrder (h:dY B H r z):dY B (H.set r {z with order:=o}.obj) r {z with order:=o}:=by
 obtain ⟨n1,n2,n3,n4,n5,n6,n7,n8,n9,n10,n11⟩:=h.ne
 refine cu h.lists λ S P h1 h2 h3=>⟨a6 h.keep h.newr,h.newr,h.news,h.newk,h.newp,h.newt,MH.set_self _ _ _,?_,?_,⟨S,P,?_,?_,h3⟩,h.ord,h.top,?_,h.nsk,h.npt,h.ndp,h.ndt⟩
 ·show d6 _ z.slots z.sl z.n
  unfold d6;exact af (MH.set_ne _ _ n1) h.slots
 ·show dw _ z.known
  unfold dw;exact af (MH.set_ne _ _ n5) h.known
 ·show MH.set _ _ _ z.pend=_
  exact af (MH.set_ne _ _ n9.symm) h1
 ·show MH.set _ _ _ z.stmts=_
  exact af (MH.set_ne _ _ n10.symm) h2
 ·show MH.set _ _ _ z.dropped=_
  exact af (MH.set_ne _ _ n11.symm) h.dropped
theorem dY.aside (h:dY B H r z) (ha:B a=some (.list vs)) (hd:z.dropped≠a):dY (B.del a) (H.del a) r z:=by
 refine cu h.lists λ S P h1 h2 h3=>?_
 have n1:r≠a:=cH h.newr ha bH
 have n2:z.slots≠a:=cH h.news ha bH
 have n3:z.known≠a:=cH h.newk ha bH
 have n4:z.pend≠a:=cH h.newp ha bH
 have n5:z.stmts≠a:=cH h.newt ha bH
 refine ⟨Sub.del_both h.keep,?_,?_,?_,?_,?_,?_,?_,?_,⟨S,P,?_,?_,h3⟩,h.ord,h.top,?_,h.nsk,h.npt,h.ndp,h.ndt⟩
 ·exact af (MH.del_ne _ n1) h.newr
 ·exact af (MH.del_ne _ n2) h.news
 ·exact af (MH.del_ne _ n3) h.newk
 ·exact af (MH.del_ne _ n4) h.newp
 ·exact af (MH.del_ne _ n5) h.newt
 ·exact af (MH.del_ne _ n1) h.obj
 ·unfold d6;exact af (MH.del_ne _ n2) h.slots
 ·unfold dw;exact af (MH.del_ne _ n3) h.known
 ·exact af (MH.del_ne _ n4) h1
 ·exact af (MH.del_ne _ n5) h2
 ·exact af (MH.del_ne _ hd) h.dropped
end
noncomputable def bases88:List (List Int):=[[227,42540766464122081094298350666160367223,56,0,0,0,16],[7,287454020,0,0,0,0,0],[298,3325256725,20,12002,99,27,1],[76,167772260,143,0,19,0,24],[133,65152,4,24241,1,3,5],[48,0,0,3074,64511,0,0]]
def yC (c:Cr):Prop:=∀i,i<0->c.sl i=none
structure BH (order:aw) (H:MH) (A Sx D:aI) (i:Nat) (R:aI) (T:iX) (rows:List V) (jP:List (Int×V)) (H':MH):Prop where
 sub:MH.Sub H H'
 hA:H' A=some (.list (bases88.map λ b=>.tuple (b.map .int)))
 hR:H' R=some (.list rows)
 hD:H' D=some (.list (jP.map stV))
 hS:cF (H'.del D) Sx T
 hSR:cF (H'.del R) Sx T
 Tl:T.length<=i
 Tn:∀n ls,(n,ls)∈T->∃j:Int,0<=j/\j<i/\n=("s":aw)++dg j
 rl:rows.length<=30*i
 dl:jP.length<=2*i
 dd:∀p∈jP,datV 12 p.2=true
 run:∀T2,mQ T T2->∀c,yC c->∃c',iT T2 order 0 c rows c'/\yC c'/\c'.eff=c.eff++jP
 nRD:R≠D
 nAD:A≠D
 oD:H D=none
 oS:H Sx=none
 oR:H R=none
noncomputable def ρ88 (zs:List Int) (order:aw) (A Sx R D:aI) (x6 x7 x8 x9 qi:Option V):da:=[some (.flist (zs.map .int)),some (.str order),some (.ref A),some (.ref Sx),some (.ref R),some (.ref D),x6,x7,x8,x9,qi,none,none,none,none]
theorem G3
  (kk:∀A Sx Rr D H',BH order H A Sx D 0 Rr [] [] [] H'->N (ρ88 zs order A Sx Rr D none none none none none) H'):
  wpSs tb0 7 d88a [some (.flist (zs.map .int)),some (.str order),none,none,none,none,none,none,none,none,none,none,none,none,none] H N R X:=by
 have tp:∀a b c d e f g:Int,V.tuple [.int a,.int b,.int c,.int d,.int e,.int f,.int g]=.tuple ([a,b,c,d,e,f,g].map .int):=λ Z Z Z Z Z Z Z=>rfl
 refine dO (λ K=>∀A H',MH.Sub H H'->H' A=some (.list ((bases88.take 2).map λ b=>.tuple (b.map .int)))->K (.ref A) H') (λ K k c hc=>k c _ (bZ hc) (MH.set_self _ _ _)) ?_
 intro A1 H1 s1 h1
 dsimp only [aC,aD]
 refine dO (λ K=>∀A H',MH.Sub H H'->H' A=some (.list ((bases88.take 4).map λ b=>.tuple (b.map .int)))->K (.ref A) H') (λ K k=>?_) ?_
 ·intro c hc
  have nc:A1≠c:=cH h1 hc b7
  refine qO ((MH.set_ne _ _ nc).trans h1) (MH.set_self _ _ _) (by decide) λ e he=>k e _ ?_ (by rw [MH.set_self];rfl)
  exact bw (bY he) λ Z he2=>(a6 (a6 s1 (s1.none hc)) (s1.none he2))
 clear s1 h1
 intro A2 H2 s1 h1
 dsimp only [aC,aD]
 refine dO (λ K=>∀A H',MH.Sub H H'->H' A=some (.list (bases88.map λ b=>.tuple (b.map .int)))->K (.ref A) H') (λ K k=>?_) ?_
 ·intro c hc
  have nc:A2≠c:=cH h1 hc b7
  refine qO ((MH.set_ne _ _ nc).trans h1) (MH.set_self _ _ _) (by decide) λ e he=>k e _ ?_ (by rw [MH.set_self];rfl)
  exact bw (bY he) λ Z he2=>(a6 (a6 s1 (s1.none hc)) (s1.none he2))
 clear s1 h1 H1
 intro A H1 s1 h1 Sx hS Rr hR D hD
 refine bw (bY hR) λ nR hR1=>(bw (bY hD) λ nD hD1=>(bw (bY hD1) λ nD2 hD2=>?_))
 have nA:∀{x:aI},H1 x=none->A≠x:=λ hx q=>by rw [<-q,h1] at hx;exact b7 hx
 exact kk A Sx Rr D _ ⟨a6 (a6 (a6 s1 (s1.none hS)) (s1.none hR1)) (s1.none hD2),by (refine af (MH.set_ne _ _ (nA hD2)) (af (MH.set_ne _ _ (nA hR1)) (af (MH.set_ne _ _ (nA hS)) ?_)));exact h1,by (exact af (MH.set_ne _ _ nD.symm) (af (MH.set_self _ _ _) rfl)),MH.set_self _ _ _,
  .inl ⟨by (exact af (MH.del_ne _ nD2.symm) (af (MH.set_ne _ _ nD2.symm) (af (MH.set_ne _ _ nR.symm) (af (MH.set_self _ _ _) rfl)))),rfl⟩,.inl ⟨by (exact af (MH.del_ne _ nR.symm) (af (MH.set_ne _ _ nD2.symm) (af (MH.set_ne _ _ nR.symm) (af (MH.set_self _ _ _) rfl)))),rfl⟩,by simp,nofun,by simp,by simp,nofun,λ T2 Z c hc=>⟨c,.nil _ _,hc,by simp⟩,nD.symm,nA hD2,s1.none hD2,s1.none hS,s1.none hR1⟩
theorem zu:∀i:Nat,i<6->∃b:List Int,ix (bases88.map λ b=>V.tuple (b.map .int)) i=some (.tuple (b.map .int))/\b.length=7/\∀x∈b,0<=x/\x<2^127:=
 oO (oO (oO (oO (oO (oO EY ⟨_,rfl,rfl,by decide⟩) ⟨_,rfl,rfl,by decide⟩) ⟨_,rfl,rfl,by decide⟩) ⟨_,rfl,rfl,by decide⟩) ⟨_,rfl,rfl,by decide⟩) ⟨_,rfl,rfl,by decide⟩
namespace kF
def S_ (zs:List Int) (order:aw) (H:MH) (A Sx D R:aI) (i:Nat) (T rows jP H1 x7 x8 x9 qi):=∀{N:da->MH->Prop} {RR:V->MH->Prop} {X:aw->MH->Prop} (hz:zs.length<=1000) (ho:order="big"\/order="little") (hi:i<6) (h:BH order H A Sx D i R T rows jP H1) (kk:∀R' T' rows' due' H' x7 x8 x9 qi,BH order H A Sx D (i+1) R' T' rows' due' H'->N (ρ88 zs order A Sx R' D (some (.int i)) x7 x8 x9 qi) H'),wpSs tb0 7 [.ite (.cmp .Lt (.bin .Mod (.bin .Add (.sub (.sub (.loc 2) (.loc 6)) (.int 0)) (.call (.fn (aa "_law_digit") (.user 80)) [(.loc 0),(.bin .Mult (.int 7) (.loc 6))])) (.int 8)) (.int 6))
   [.assign (.tup [9,10]) (.call (.fn (aa "_law_nat") (.user 86)) [(.loc 6),(.sub (.loc 2) (.loc 6)),(.loc 0),(.loc 3)])]
   [.assign (.tup [9,10]) (.call (.fn (aa "_law_rest") (.user 87)) [(.sub (.loc 2) (.loc 6)),(.loc 0),(.loc 6),(.loc 1)])],
  .for_ (.tup [7,8]) (.loc 10)
   [.expr (.meth (.loc 5) (aa "append") [(.tup [(.bin .Add (.call (.fn (aa "len") (.bi "len")) [(.loc 4)]) (.loc 7)),(.loc 8)])])],
  .assign (.loc 4) (.bin .Add (.loc 4) (.loc 9))] (ρ88 zs order A Sx R D (some (.int i)) x7 x8 x9 qi) H1 N RR X
def U_:=UV λ zs order H=>UV λ A Sx D=>UV λ R i T=>UV λ rows jP H1=>UV λ x7 x8 x9=>S_ zs order H A Sx D R i T rows jP H1 x7 x8 x9
def t_:=dr (by infer_instance) U_
def zs:=t_.1
def order:=t_.2.1
def H:=t_.2.2.1
def A:=t_.2.2.2.1
def Sx:=t_.2.2.2.2.1
def D:=t_.2.2.2.2.2.1
def s1_:=t_.2.2.2.2.2.2
def R:=s1_.1
def i:=s1_.2.1
def T:=s1_.2.2.1
def rows:=s1_.2.2.2.1
def jP:=s1_.2.2.2.2.1
def H1:=s1_.2.2.2.2.2.1
def s2_:=s1_.2.2.2.2.2.2
def x7:=s2_.1
def x8:=s2_.2.1
def x9:=s2_.2.2.1
def qi:=s2_.2.2.2
theorem P_:S_ zs order H A Sx D R i T rows jP H1 x7 x8 x9 qi:=by
 intro N RR X hz ho hi h kk
 refine cI (zu _ hi) λ b hb1 hb2 hb3=>?_
 have g0:ix (b.map V.int) 0=some (.int (b.getD 0 0)):=wu ⟨by decide,by decide⟩ (by
  have hk:(0:Int).toNat<b.length:=by refine af hb2 ?_;decide
  rw [aF,aJ,an hk]
  show _=some (V.int ((b[(0:Int).toNat]?).getD 0))
  rw [an hk];rfl)
 have hiz:(0:Int)<=(i:Int)/\(i:Int)<6:=by lia
 refine eC (λ ρ K=>∀a b rows2 due2 T' H',H' a=some (.list rows2)->H' b=some (.list (a7 stV due2))->cF (H'.del D) Sx T'->MH.Sub (H1.del Sx) H'->H1 a=none->H1 b=none->(T'=T\/∃ls,T'=T++[(("s":aw)++dg i,ls)])->(∀T2,mQ T' T2->PartOk T2 order rows2 due2)->K ((ρ.set 9 (some (.ref a))).set 10 (some (.ref b))) H') (λ K k=>?_) ?_
 ·show wpSs tb0 7 [_] _ _ _ _ _
  refine bA (decide ((b.getD 0 0+digit zs (7*i)) %8<6)) ?_ (λ e=>?_) (λ e=>?_)
  ·exact cZ h.hA hb1 (ji g0 (aj (d9 (by decide)) (bR EU ⟨zs,rfl,aS _,by lia,hz,rfl,rfl⟩)))
  ·refine cZ h.hA hb1 (bR Mk ⟨b,zs,T,rfl,hb2,hb3,rfl,hz,hiz.1,by lia,h.hS.sub jl,by have:=h.Tl;lia,h.Tn,of_decide_eq_true e,λ a b2 rows2 due2 T' H' e1 e2 e3 e4 e5 e6 e7 e8 e9=>?_⟩)
   exact ⟨rfl,k a b2 rows2 due2 T' H' e1 e2 (e9 D (by refine af h.hD ?_;nofun) (by rcases h.hS with ⟨e,_⟩|⟨es,e,_⟩<;>exact λ z=>by rw [z,MH.del_self] at e;exact bH e) h.hS) e4 e5 e6 e7 λ T2 g=>e8 T2 g.1 g.2 order ho⟩
  ·refine cZ h.hA hb1 (bR Mq ⟨b,zs,rfl,by lia,hb3,rfl,hz,hiz.1,by lia,ho,λ a b2 rows2 due2 H' e1 e2 e3 e4 e5 e6=>?_⟩)
   exact ⟨rfl,k a b2 rows2 due2 T H' e1 e2 (h.hS.sub (del_both e3)) (jl.trans e3) e4 e5 (.inl rfl) λ T2 g=>e6 T2⟩
 intro a b2 rows2 due2 T' H2 ha hb hS2 s2 na nb hT' hP
 have hSx:∃o,H1 Sx=some o/\∀vs,o≠.list vs:=by
  rcases h.hS with ⟨e,_⟩|⟨es,e,_⟩<;>exact ⟨_,jl _ _ e,nofun⟩
 refine aL hSx λ o hSx_ hol=>?_
 clear hSx
 revert hSx_;intro hSx
 have ne:∀{x:aI} {vs:List V},H1 x=some (.list vs)->x≠Sx:=λ e q=>by rw [q,hSx] at e;(have e:=ac e;subst e);exact hol _ rfl
 have hA2:=mW s2 (ne h.hA) h.hA
 have hR2:=mW s2 (ne h.hR) h.hR
 have hD2:=mW s2 (ne h.hD) h.hD
 have sH2:MH.Sub H H2:=λ x o e=>by
  have:x≠Sx:=cH e h.oS b7
  exact s2 _ _ (by refine af (MH.del_ne _ this) ?_;exact h.sub _ _ e)
 have dn1:D≠b2:=cH h.hD nb b7
 have dn2:D≠a:=cH h.hD na b7
 have rn1:R≠b2:=cH h.hR nb b7
 have an1:A≠b2:=cH h.hA nb b7
 have hoS2:∃o,H2 Sx=some o/\∀vs,o≠.list vs:=by
  rcases hS2 with ⟨e,_⟩|⟨es,e,_⟩<;>exact ⟨_,jl _ _ e,nofun⟩
 refine aL hoS2 λ o2 hSx2 hol2=>?_
 clear hoS2
 have sn:Sx≠D:=λ q=>by rw [q,hD2] at hSx2;(have hSx2:=ac hSx2;subst hSx2);exact hol2 _ rfl
 have hPl:due2.length<=2/\rows2.length<=30/\∀p∈due2,datV 12 p.2=true:=by
  have hg:mQ T' T':=by
   refine mZ λ n ls hn=>?_
   rcases hT' with rfl|⟨l2,rfl⟩
   ·exact cI (h.Tn n ls hn) λ j j0 j1 e=>⟨j,j0,by lia,e⟩
   ·rcases cv.mp hn with hn|hn
    ·exact cI (h.Tn n ls hn) λ j j0 j1 e=>⟨j,j0,by lia,e⟩
    ·rw [aK] at hn;cases hn
     exact ⟨i,aS _,by lia,rfl⟩
  exact nX (hP T' hg) λ p1 p2 p3 Z=>⟨p2,p1,p3⟩
 have rlim:=h.rl
 have dlim:=h.dl
 generalize hsh:(λ p:Int×V=>((rows.length:Int)+p.1,p.2))=sh
 refine mh (.ref b2) (us:=due2.map stV) (λ j K=>∀x7 x8 H',H' D=some (.list ((jP++(due2.take j).map sh).map stV))->(∀x,x≠D->H' x=(H2.del b2) x)->K (ρ88 zs order A Sx R D (some (.int i)) x7 x8 (some (.ref a)) (some (.ref b2))) H') (λ K k=>k) (mf hb) (λ K k=>k x7 x8 _ ?_ λ x Z=>rfl) ?_ ?_
 ·refine af Hl (af (MH.del_ne _ dn1) (af hD2 ?_));simp
 ·intro j u N' e k x7 x8 H3 eD eO
  rw [aF] at e
  refine aL (aH.mp e) λ p hp r1_=>?_
  subst r1_
  have hR3:H3 R=some (.list rows):=by (refine af (eO _ h.nRD) (af (MH.del_ne _ rn1) ?_));exact hR2
  refine aj rfl ?_
  show wpE _ _ _ _ _ _ _ _
  refine jF rfl (mP eD) (kQ hR3 (by lia) ⟨_,eD,by (refine af (ag _) (af az (af (ag _) (af bU ?_))));lia,?_⟩)
  refine aj rfl (k _ _ λ K k=>k _ _ _ ?_ λ x hx=>(MH.set_ne _ _ hx).trans (eO x hx))
  have:(jP++(due2.take (j+1)).map sh).map stV=(jP++(due2.take j).map sh).map stV++[.tuple [.int ((rows.length:Int)+p.1),p.2]]:=by
   refine af dm (af hp (af hsh.symm ?_))
   simp [stV]
  refine af this ?_
  exact MH.set_self _ _ _
 intro x7 x8 H4 eD eO _
 rw [ag,c7] at eD
 refine af (ma hb) ?_
 generalize hH3:H4.set b2 (.list (due2.map stV))=H3
 have hO:∀x,x≠D->H3 x=H2 x:=λ x hx=>by
  refine af hH3.symm ?_
  by_cases q:x=b2
  ·subst q;(exact af (MH.set_self _ _ _) (af hb rfl))
  ·exact af (MH.set_ne _ _ q) (af (eO x hx) (af (MH.del_ne _ q) rfl))
 have hD3:H3 D=some (.list ((jP++due2.map sh).map stV)):=by (exact af hH3.symm (af (MH.set_ne _ _ dn1) (af eD rfl)))
 have hR3:H3 R=some (.list rows):=by exact af (hO _ h.nRD) hR2
 have ha3:H3 a=some (.list rows2):=by exact af (hO _ dn2.symm) ha
 refine qO hR3 ha3 (by simp only [bE];lia) λ W hW=>?_
 have nW:∀{x:aI} {o:bK},H3 x=some o->x≠W:=λ e q=>by rw [q,hW] at e;exact bH e
 have sW:=bZ (o:=.list (rows++rows2)) hW
 have sH3:MH.Sub H H3:=λ x o e=>by
  have:x≠D:=cH e h.oD b7
  refine af (hO _ this) ?_;exact sH2 _ _ e
 have hS3:cF (H3.del D) Sx T':=hS2.sub λ x o e=>by
  have:x≠D:=cH e (MH.del_self _ _) b7
  rw [MH.del_ne _ this] at e⊢
  exact af (hO _ this) e
 refine kk W T' (rows++rows2) (jP++due2.map sh) _ _ _ _ _ ⟨sH3.trans sW,sW _ _ (by exact af (hO _ h.nAD) hA2),MH.set_self _ _ _,sW _ _ hD3,hS3.sub (del_both sW),(hS3.sub jl).sub (λ x o e=>by
  have:x≠W:=nW e
  refine af (MH.del_ne _ this) (af (MH.set_ne _ _ this) ?_);exact e),?_,?_,?_,?_,?_,?_,(nW hD3).symm,h.nAD,h.oD,h.oS,sH3.none hW⟩
 ·rcases hT' with rfl|⟨l2,rfl⟩
  ·exact cK h.Tl
  ·refine af az (af aU ?_);exact cw h.Tl
 ·intro n ls hn
  rcases hT' with rfl|⟨l2,rfl⟩
  ·exact cI (h.Tn n ls hn) λ j j0 j1 e=>⟨j,j0,Ib ‹_›,e⟩
  ·rcases cv.mp hn with hn|hn
   ·exact cI (h.Tn n ls hn) λ j j0 j1 e=>⟨j,j0,Ib ‹_›,e⟩
   ·rw [aK] at hn;cases hn
    exact ⟨i,aS _,jm _,rfl⟩
 ·refine af az ?_;lia
 ·refine af az (af (ag _) ?_);lia
 ·intro p hp
  rcases cv.mp hp with hp|hp
  ·exact h.dd p hp
  ·refine aL (bC.mp hp) λ p2 hp2 r1_=>?_
   subst r1_
   refine af hsh.symm ?_;exact hPl.2.2 p2 hp2
 ·intro T2 hg c hc
  have hg0:mQ T T2:=by
   rcases hT' with rfl|⟨l2,rfl⟩
   ·exact hg
   ·exact ⟨λ n ls e=>hg.1 n ls (by (refine af fv (af e ?_));rfl),hg.2⟩
  refine cI (h.run T2 hg0 c hc) λ c1 r1 n1 e1=>(nX (hP T2 hg) λ Z Z Z pr=>(cI (pr (0+(rows.length:Int)) c1 n1) λ c2 r2 n2 e2=>⟨c2,r1.app r2,n2,?_⟩))
  exact af e2 (af e1 (af (eR _ _ _) (af hsh.symm (af (Int.zero_add _) rfl))))
theorem A_:∀p,U_ p:=bB P_
end kF
theorem kF {zs order H A Sx D R i T rows jP H1 x7 x8 x9 qi}:kF.S_ zs order H A Sx D R i T rows jP H1 x7 x8 x9 qi:=kF.A_ (zs,order,H,A,Sx,D,R,i,T,rows,jP,H1,x7,x8,x9,qi)
theorem IN (h:H a=some (.sdict es)):methOf tb0 H (.ref a) (aa "update")=some (.bi "dict.update"):=by
 unfold methOf
 dsimp only
 refine af h ?_;rfl
namespace FE
def S_ (H Q X order zs A Sx D R T rows x6 x7 x8 x9 qi H2):=∀(q:Q (V.bool true) H) (jP:List (Int×V)) (hst:BH order H A Sx D 6 R T rows jP H2) (hgood:mQ T T) (oS:bK) (hSx:H2 Sx=some oS),wpSs tb0 7 (c88.drop 7) [some (V.flist (a7 V.int zs)),some (V.str order),some (V.ref A),some (V.ref Sx),some (V.ref R),some (V.ref D),x6,x7,x8,x9,qi,none,none,none,none] H2 (λ x H'↦Fg Q V.none H') (Fg Q) (rB X)
def U_:=UV λ H Q X=>UV λ order zs A=>UV λ Sx D R=>UV λ T rows x6=>UV λ x7 x8 x9=>UU λ qi=>S_ H Q X order zs A Sx D R T rows x6 x7 x8 x9 qi
def t_:=dr (by infer_instance) U_
def H:=t_.1
def Q:=t_.2.1
def X:=t_.2.2.1
def order:=t_.2.2.2.1
def zs:=t_.2.2.2.2.1
def A:=t_.2.2.2.2.2.1
def s1_:=t_.2.2.2.2.2.2
def Sx:=s1_.1
def D:=s1_.2.1
def R:=s1_.2.2.1
def T:=s1_.2.2.2.1
def rows:=s1_.2.2.2.2.1
def x6:=s1_.2.2.2.2.2.1
def s2_:=s1_.2.2.2.2.2.2
def x7:=s2_.1
def x8:=s2_.2.1
def x9:=s2_.2.2.1
def qi:=s2_.2.2.2.1
def H2:=s2_.2.2.2.2
theorem P_:S_ H Q X order zs A Sx D R T rows x6 x7 x8 x9 qi H2:=by
 intro q jP hst hgood oS hSx
 refine dO (λ K=>∀r B z H',dY B H' r z->MH.Sub H2 B->z.at_=0->z.sets=Sx->(∀i,z.sl i=none)->z.n=0->z.eff=[]->z.dropped≠R->K (.ref r) H') (λ K k=>?_) ?_
 ·intro a ha
  refine λ r d hr=>?_
  refine bw (bY hr) λ nr hr2=>?_
  refine ⟨d,MH.set_self _ _ _,nr,cH hr2 hSx bH,λ z H' hR ha0 ho hs hsl hn he hdr=>⟨rfl,k r _ z _ hR (λ x o e=>?_) ha0 hs hsl hn he λ q=>?_⟩⟩
  ·have n1:x≠r:=cH e hr2 b7
   have n2:x≠a:=cH e ha b7
   refine af (MH.del_ne _ n1) (af (MH.set_ne _ _ n1) (af (MH.set_ne _ _ n2) ?_));exact e
  ·have hR2:=hst.hR
   have n1:R≠r:=cH hR2 hr2 b7
   have n2:R≠a:=cH hR2 ha b7
   rw [q,MH.del_ne _ n1,MH.set_ne _ _ n1,MH.set_ne _ _ n2,hR2] at hdr
   exact b7 hdr
 intro r B z H3 hR hB za zs' zl zn ze zd
 dsimp only [aC,aD]
 refine eC (λ ρ K=>∀H',dY B H' r {z with order:=order}->K ρ H') (λ K k=>km hR.at_r rfl rfl (k _ (hR.setOrder (o:=order)))) ?_
 intro H4 hR4
 clear hR
 refine dO (λ K=>∀nB H',dY (B.set nB (.sdict backs0)) H' r {z with order:=order}->B nB=none->K (.ref nB) H') (λ K k=>bR LN λ c hc=>k c _ (hR4.add hc) (hR4.keep.none hc)) ?_
 intro nB H5 hR5 hBn
 dsimp only [aC,aD]
 refine eC (λ ρ K=>∀H',dY (B.set nB (.sdict backsAll)) H' r {z with order:=order}->K ρ H') (λ K k=>?_) ?_
 ·have h5:=hR5.keep nB _ (MH.set_self _ _ _)
  show wpE _ _ _ _ _ _ _ _
  refine jF rfl (IN h5) ?_
  intro c hc
  have nc:nB≠c:=cH h5 hc b7
  refine ⟨backs0,[("immediate",.fn (.user 32)),("meta",.fn (.user 31)),("cmp",.fn (.user 34)),("map",.fn (.user 35))],nc,by exact af (MH.set_ne _ _ nc) h5,by refine af (MH.set_self _ _ _) ?_;rfl,by decide,by decide,?_⟩
  have h6:=(hR5.sub (bZ (o:=.sdict ((a7 (λ p=>(p.1,V.fn p.2.2)) [(aa "immediate",aa "back_immediate",Fn.user 32),(aa "meta",aa "back_meta",Fn.user 31),(aa "cmp",aa "back_cmp",Fn.user 34),(aa "map",aa "back_map",Fn.user 35)]))) hc)).change (o':=.sdict backsAll) (MH.set_self _ _ _) nofun
  have e:(B.set nB (.sdict backs0)).set nB (.sdict backsAll)=B.set nB (.sdict backsAll):=by
   funext x
   by_cases q:x=nB
   ·subst q;(exact af (MH.set_self _ _ _) (af (MH.set_self _ _ _) rfl))
   ·exact af (MH.set_ne _ _ q) (af (MH.set_ne _ _ q) (af (MH.set_ne _ _ q) rfl))
  rw [e] at h6
  exact ⟨rfl,k _ h6⟩
 intro H6 hR6
 clear hR4 hR5
 have hB2:MH.Sub H2 (B.set nB (.sdict backsAll)):=a6 hB (hB.none hBn)
 generalize hBB:B.set nB (.sdict backsAll)=B2 at*
 have hnB:B2 nB=some (.sdict backsAll):=by (exact af hBB.symm (af (MH.set_self _ _ _) rfl))
 have hRR:=hB2 _ _ hst.hR
 have hDD:=hB2 _ _ hst.hD
 have nBR:nB≠R:=cH hnB hRR (λ q=>nS q rfl)
 have hS2:cF (B2.del R) Sx T:=hst.hSR.sub (del_both hB2)
 refine cI (hst.run T hgood ⟨z.sl,0,[]⟩ (λ i Z=>zl i)) λ cfin hrun Z hfin=>?_
 rw [dx] at hfin
 have rlim:=hst.rl
 refine mh (.ref R) (us:=rows) (λ i K=>∀(z:RS) (c:Cr) x13 uI H',dY (B2.del R) H' r z->z.at_=i->z.sl=c.sl->z.n=c.n->z.eff=c.eff->z.order=order->z.sets=Sx->c.n<=2*i->c.eff.length<=i->iT T order i c (rows.drop i) cfin->K [some (.flist (zs.map .int)),some (.str order),some (.ref A),some (.ref Sx),some (.ref R),some (.ref D),x6,x7,x8,x9,qi,some (.ref r),some (.ref nB),x13,uI] H') (λ K k=>k) (mf (hR6.keep _ _ hRR)) ?_ ?_ ?_
 ·refine λ K k=>k _ ⟨z.sl,0,[]⟩ _ _ _ (hR6.aside hRR zd) za rfl zn ze rfl zs' (cS _) (cS _) ?_
  exact af t8 hrun
 ·intro i row N' e k z c x13 uI H7 hR7 ya yl yn ye yo ys bn be hsteps
  have hi:=(aN.mp e).1
  have hdrop:rows.drop i=row::rows.drop (i+1):=by
   refine af (cC hi) ?_
   rw [an hi] at e;(have e:=ac e;subst e);rfl
  rw [hdrop] at hsteps
  cases hsteps with
  |cons hs1 hs2=>
   rename_i c1
   have dims:c1.n<=c.n+2/\c1.eff.length<=c.eff.length+1:=by
    obtain ⟨_,_,_,_,_,_,_,h1,h2⟩:=wm (Q:=λ Z Z=>True) (X:=jU) hR7 ya yl yn ye yo (by exact af ys hS2) (by lia) (by lia) hs1 (λ Z Z Z Z Z Z Z Z Z=>trivial)
    exact ⟨h1,h2⟩
   obtain ⟨tag,rest,f,rfl,hl,hlv,hsp,_,_⟩:=wm (Q:=λ u H8=>u=.none/\∀uI,wpSs tb0 7 [.augattr (.loc 11) (aa "at") .Add (.int 1)] [some (.flist (zs.map .int)),some (.str order),some (.ref A),some (.ref Sx),some (.ref R),some (.ref D),x6,x7,x8,x9,qi,some (.ref r),some (.ref nB),some row,uI] H8 N' (λ r H9=>Fg Q r (backOf H6 H9 (.ref R))) jU) (X:=jU) hR7 ya yl yn ye yo (by exact af ys hS2) (by lia) (by lia) hs1 (λ z' H8 hR8 wa wl wn we wo ws=>⟨rfl,λ uI=>by
    refine cE hR8.at_r rfl ?_
    refine km hR8.at_r rfl rfl ?_
    exact k _ _ λ K k=>k _ c1 _ _ _ (hR8.setAt (t:=z'.at_+1) (by lia)) (by show z'.at_+1=((i+1:Nat):Int);lia) wl wn we wo (ws.trans ys) (by lia) (by lia) hs2⟩)
   have h7:H7 nB=some (.sdict backsAll):=hR7.keep _ _ (by exact af (MH.del_ne _ nBR) hnB)
   refine bM (u:=.fn (.user f)) ?_ ?_
   ·exact xt h7 hl ⟨rfl,rfl⟩
   dsimp only [aC,aD]
   refine pW (hU.mpr hlv) ?_
   refine (lW.m _ _ _ _ _ _ _ (λ u H8 hq=>⟨hq.1,hq.2 _⟩) (λ Z Z z=>z) hsp)
 ·intro z c x13 uI H7 hR7 ya yl yn ye yo ys bn be hsteps hRn
  have hRn:=hRn R rfl
  refine af (ma (hR6.keep _ _ hRR)) ?_
  have hR8:=hR7.sub (bZ (o:=.list rows) hRn)
  rw [i5] at hsteps
  cases hsteps
  refine eC (λ ρ K=>∀c2 H',dY (B2.del R) H' r {z with pend:=c2}->H' c2=some (.list [])->K ρ H') (λ K k=>?_) ?_
  ·exact bR Kr ⟨_,z,hR8,by refine af ye ?_;lia,λ c2 H' hR9 hc2=>⟨rfl,k c2 H' hR9 hc2⟩⟩
  intro c2 H9 hR9 hc2
  have hst9:=hR9.flushed hc2
  have heff:z.eff=jP:=ye.trans hfin
  have hst9:H9 z.stmts=some (.list (jP.map stV)):=by exact af heff.symm hst9
  have hD9:H9 D=some (.list (jP.map stV)):=hR9.keep _ _ (by exact af (MH.del_ne _ hst.nRD.symm) hDD)
  refine cE hR9.at_r rfl (qC (QB:=λ b=>br (eqb true b) (wpB tb0 7 true _ _ H9 (Fg Q) (rB X)) (Fg Q (.bool b) H9)) hst9 hD9 hst.dd (cE hR9.at_r rfl ?_))
  intro e he
  have n1:c2≠e:=cH hc2 he b7
  refine qC (S:=[]) (QB:=λ b=>br (eqb true b) (wpB tb0 7 true _ _ (H9.set e (.list [])) (Fg Q) (rB X)) (Fg Q (.bool b) (H9.set e (.list [])))) (by exact af (MH.set_ne _ _ n1) hc2) (MH.set_self _ _ _) nofun ?_
  have hR10:=hR9.sub (bZ (o:=.list []) he)
  refine cE hR10.at_r rfl ?_
  intro e2 he2
  have hd10:=hR10.dropped
  have n2:z.dropped≠e2:=λ q=>by
   have:(H9.set e (.list [])) z.dropped=some (.list []):=hd10
   rw [q,he2] at this;cases this
  refine qC (S:=[]) (QB:=λ b=>Fg Q (.bool b) ((H9.set e (.list [])).set e2 (.list []))) (by exact af (MH.set_ne _ _ n2) hd10) (MH.set_self _ _ _) nofun ?_
  have s10:MH.Sub H (B2.del R):=λ x o ex=>by
   have n:x≠R:=cH ex hst.oR b7
   refine af (MH.del_ne _ n) ?_;exact hB2 _ _ (hst.sub _ _ ex)
  exact DU (s10.trans (hR10.keep.trans (bZ he2))) q
theorem A_:∀p,U_ p:=bB P_
end FE
theorem Nn:VC C7 7 ps88 nm88 [] c88:=by
 intro us H Q X h
 refine JQ (λ l order h=>?_) h
 ·refine fy h λ zs r1_ hz ho q=>?_
  subst r1_
  refine ⟨rfl,?_⟩
  show wpSs tb0 7 (d88a++d88b) [some (.flist (zs.map .int)),some (.str order),none,none,none,none,none,none,none,none,none,none,none,none,none] H _ _ _
  refine kP (G3 λ A Sx R D H1 h0=>?_)
  refine mh (.range 6) (us:=(bF 6).map λ (i:Nat)=>.int i) (λ i K=>∀R T rows jP x6 x7 x8 x9 qi H',BH order H A Sx D i R T rows jP H'->K (ρ88 zs order A Sx R D x6 x7 x8 x9 qi) H') (λ K k=>aj (by decide) (aj (by decide) k)) rfl (λ K k=>k R [] [] [] _ _ _ _ _ _ h0) ?_ ?_
  ·intro i u N' e k R T rows jP x6 x7 x8 x9 qi H2 hst
   rw [aF] at e
   refine aL (aH.mp e) λ j hj r1_=>?_
   subst r1_
   obtain ⟨hj1,hj2⟩:=aN.mp hj
   rw [ft] at hj2
   subst hj2
   rw [bO] at hj1
   exact kF hz ho hj1 hst λ R' T' rows' due' H' x7 x8 x9 qi hst'=>k _ _ λ K k=>k R' T' rows' due' _ _ _ _ _ _ hst'
  clear h0 R
  intro R T rows jP x6 x7 x8 x9 qi H2 hst _
  rw [ag,bO] at hst
  show wpSs tb0 7 _ _ H2 _ _ _
  simp only [ρ88]
  have hgood:mQ T T:=mZ λ n ls hn=>by
   exact cI (hst.Tn n ls hn) λ j j0 j1 e=>⟨j,j0,by lia,e⟩
  have hSx2:∃o,H2 Sx=some o:=by
   rcases hst.hS with ⟨e,_⟩|⟨es,e,_⟩<;>exact ⟨_,jl _ _ e⟩
  refine bu hSx2 λ oS hSx=>?_
  exact FE.A_ (H,Q,X,order,zs,A,Sx,D,R,T,rows,x6,x7,x8,x9,qi,H2) q jP hst hgood oS hSx
end
section
open PySem PySem.W PyProof.Rows PySem.Calls
section
variable {cx:Cx}
theorem gV (r:VRels cx h [u] vs):∃v,vs=[v]/\VRel cx h u v:=by
 refine cu r.cons_inv λ v vs' r1_ r1 r2=>?_
 subst r1_
 exact af r2.nil_inv ⟨v,rfl,r1⟩
theorem lp (r:VRels cx h [u1,u2] vs):∃v1 v2,vs=[v1,v2]/\VRel cx h u1 v1/\VRel cx h u2 v2:=by
 refine cu r.cons_inv λ v vs' r1_ r1 r2=>?_
 subst r1_
 refine aL (gV r2) λ v2 r1_ r3=>?_
 subst r1_
 exact ⟨v,v2,rfl,r1,r3⟩
theorem zB (r:VRels cx h [u1,u2,u3] vs):∃v1 v2 v3,vs=[v1,v2,v3]/\VRel cx h u1 v1/\VRel cx h u2 v2/\VRel cx h u3 v3:=by
 refine cu r.cons_inv λ v vs' r1_ r1 r2=>?_
 subst r1_
 refine cu (lp r2) λ v2 v3 r1_ r3 r4=>?_
 subst r1_
 exact ⟨v,v2,v3,rfl,r1,r3,r4⟩
theorem HC (ha:cx.addr (.bi "len")=.builtin "len"):CallOk cx tb0 (.bi "len"):=by
 intro A H s us vs Q X am st lk I r q
 refine af ha ?_
 replace q:BN us H Q X:=q
 revert r
 refine LM (λ u q=>?_) q
 ·intro r
  refine aL (gV r) λ v r1_ rv=>?_
  subst r1_
  split at q
  ·rename_i n hn
   refine bw q λ hle q_=>?_
   clear q
   revert q_;intro q
   unfold lenOf at hn
   set_option tactic.hygienic true in split at hn
   ·rename_i us
    (have hn:=ac hn;subst hn)
    refine cu (fz rv) λ a aB r1_ ht rs=>?_
    subst r1_
    have hl:aB.size=us.length:=by refine af rs.len.symm ?_;simp
    exact PyProof.Rows.len_tuple ht (by lia) (by refine af hl ?_;exact bN.tok I dq q)
   ·rename_i us
    cases hn
    refine cu rv λ a aB r1_ w2_ rs=>?_
    clear rv
    subst r1_
    refine aL w2_ λ ob ho hr=>?_
    clear w2_
    have hl:aB.size=us.length:=by refine af rs.len.symm ?_;simp
    exact so ⟨ob,I.base _ _ ho,hr⟩ (by lia) (by refine af hl ?_;exact bN.tok I dq q)
   ·rename_i b
    cases hn
    refine aL rv λ t r1_ hb=>?_
    clear rv
    subst r1_
    have hl:(w9 b).size=b.length:=by refine af (xI _) ?_;simp
    exact PySem.W.len_bytes (by lia) (by refine af hl ?_;exact bN.tok I dq q)
   ·rename_i a
    have:=df rv;subst this
    set_option tactic.hygienic true in split at hn
    ·rename_i us e
     (have hn:=ac hn;subst hn)
     refine fZ (I.own _ _ e) λ aB nn ho rs=>?_
     have hl:aB.size=us.length:=by refine af rs.len.symm ?_;simp
     exact so ⟨_,ho,rfl,nn,rfl⟩ (by lia) (by rw [hl];exact bN.tok I dq q)
    ·exact bH hn
   ·exact bH hn
  ·exact q.elim
theorem Cb (ha:cx.addr (.ty "range")=.type "range"):CallOk cx tb0 (.ty "range"):=by
 intro A H s us vs Q X am st lk I r q
 rw [ha]
 replace q:uE us H Q X:=q
 revert r
 refine HM (λ n q=>?_) q
 ·intro r
  refine aL (gV r) λ v r1_ rv=>?_
  subst r1_
  refine bu (cj rv) λ t r1_=>?_
  subst r1_
  refine gJ q λ h0 h1 q_=>?_
  clear q
  revert q_;intro q
  refine call_range_1 (bN.priv I (λ b o e=>ak _ e) ?_ q)
  exact ⟨_,_,_,_,rfl,IsRange.new ..,h0,h1⟩
theorem GX (ha:cx.addr (.ty "str")=.type "str"):CallOk cx tb0 (.ty "str"):=by
 intro A H s us vs Q X am st lk I r q
 rw [ha]
 replace q:BD us H Q X:=q
 revert r
 refine HM (λ k q=>?_) q
 ·intro r
  refine aL (gV r) λ v r1_ rv=>?_
  subst r1_
  refine bu (cj rv) λ t r1_=>?_
  subst r1_
  refine gJ q λ h0 h1 q_=>?_
  clear q
  revert q_;intro q
  refine bu (bJ h0) λ j r1_=>?_
  subst r1_
  have e:(toString (j:Int):String)=toString j:=rfl
  refine PySem.P.str_of_int ?_ ?_
  ·have:(j:Int).natAbs=j:=rfl
   refine af this ?_
   have:j<2^4:=by lia
   have:=sq (n:=j) (k:=4)
   by_cases hj:j=0
   ·subst hj;decide
   ·have:=(sq hj).mpr ‹j<2^4›
    exact ao ‹_› (by decide)
  ·exact bN.tok I ug q
theorem B7 (ha:cx.addr (.ty "tuple")=.type "tuple"):CallOk cx tb0 (.ty "tuple"):=by
 intro A H s us vs Q X am st lk I r q
 refine af ha ?_
 replace q:uu us H Q X:=q
 revert r
 refine rM (λ a q=>?_) q
 ·intro r
  refine aL (gV r) λ v r1_ rv=>?_
  subst r1_
  have:=df rv;subst this
  refine cI q λ us e hl q_=>?_
  clear q
  revert q_;intro q
  refine fZ (I.own _ _ e) λ aB nn ho rs=>?_
  have hz:aB.size=us.length:=by refine af rs.len.symm ?_;simp
  refine call_tuple_list ⟨_,ho,rfl,nn,rfl⟩ (λ h' hk=>?_) (by refine af hz ?_;simp only [bE];exact ao ‹_› (by decide))
  have hk2:∀b o,s.heap.get? b=some o->(h'.push {cls:=.type "tuple",data:=.seq aB}).get? b=some o:=λ b o e=>ak _ (hk b o e)
  exact bN.priv I hk2 (jD (qZ (bt _ rfl)) (rs.mono (bP.of_keeps hk2) _)) q
theorem Es (ha:cx.addr (.ty "list")=.type "list"):CallOk cx tb0 (.ty "list"):=by
 intro A H s us vs Q X am st lk I r q
 refine af ha ?_
 replace q:xc us H Q X:=q
 revert r
 refine rM (λ a q=>?_) q
 ·intro r
  refine aL (gV r) λ v r1_ rv=>?_
  subst r1_
  have:=df rv;subst this
  refine cI q λ us e hl q_=>?_
  clear q
  revert q_;intro q
  refine fZ (I.own _ _ e) λ aB nn ho rs=>(bu lk λ L lk_=>?_)
  clear lk
  revert lk_;intro lk
  have hz:aB.size=us.length:=by refine af rs.len.symm ?_;simp
  refine call_list_seq a (.inl rfl) ho rfl rfl (λ h' c' hk hn=>?_) (by refine af hz ?_;simp only [bE];exact ao ‹_› (by decide))
  exact bN.new (mo:=.list us) I lk.le hk (dN (bW _)) (ij rfl) ⟨aB,c',hn,rs.mono (bP.of_keeps hk) _⟩ q
theorem Ar (ha:cx.addr (.bi "isinstance")=.builtin "isinstance") (hs:cx.addr (.ty "str")=.type "str"):CallOk cx tb0 (.bi "isinstance"):=by
 intro A H s us vs Q X am st lk I r q
 refine af ha ?_
 replace q:rg us H Q X:=q
 revert r
 refine L8 (λ Z Z q=>?_) q
 ·intro r
  refine cu (lp r) λ v1 v2 r1_ r1 r2=>?_
  subst r1_
  refine bu (cj r1) λ t r1_=>?_
  subst r1_
  refine bw q λ r1_ q_=>?_
  clear q
  revert q_;intro q
  subst r1_
  refine af (yO r2) (af hs ?_)
  exact PySem.IsiPair.int_str (bN.tok I qk q)
theorem HD (ha:cx.addr (.bi "max")=.builtin "max"):CallOk cx tb0 (.bi "max"):=by
 intro A H s us vs Q X am st lk I r q
 refine af ha ?_
 replace q:CX us H Q X:=q
 revert r
 refine GO (λ a b q=>?_) q
 ·intro r
  refine cu (lp r) λ v1 v2 r1_ r1 r2=>?_
  subst r1_
  refine bu (cj r1) λ t r1_=>?_
  subst r1_
  refine bu (cj r2) λ t2 r1_=>?_
  subst r1_
  refine max_two_ints am.handled λ h' tk hk=>?_
  by_cases e:b>a
  ·refine af (if_pos e) ?_
   have:max a b=b:=by lia
   rw [this] at q
   exact bN.priv I hk dq q
  ·refine af (if_neg e) ?_
   have:max a b=a:=by lia
   rw [this] at q
   exact bN.priv I hk dq q
theorem vj:∀{ns:List Int} {vs:List av},VRels cx h (ns.map .int) vs->IntsAre vs ns
 |[],vs,r=>by exact af r.nil_inv .nil
 |n::ns,vs,r=>by
  rw [bj] at r
  refine cu r.cons_inv λ v vs' r1_ r1 r2=>?_
  subst r1_
  refine bu (cj r1) λ t r1_=>?_
  subst r1_
  exact .cons n t (vj r2)
theorem CF (ha:cx.addr (.ty "bytes")=.type "bytes"):CallOk cx tb0 (.ty "bytes"):=by
 intro A H s us vs Q X am st lk I r q
 refine af ha ?_
 replace q:uj us H Q X:=q
 revert r
 refine rM (λ a q=>?_) q
 ·intro r
  refine aL (gV r) λ v r1_ rv=>?_
  subst r1_
  have:=df rv;subst this
  refine cI q λ l e hb q_=>?_
  clear q
  revert q_;intro q
  refine fZ (I.own _ _ e) λ aB nn ho rs=>?_
  have hz:aB.toList.length=l.length:=by (exact af rs.len (af (ag _) rfl))
  refine call_bytes_ints (vs:=aB.toList) ⟨_,ho,rfl,nn,rfl⟩ (vj rs) hb.1 (by refine af hz ?_;have:=hb.2;simp only [bE];exact ao ‹_› (by decide)) am.handled λ h' t k hk=>?_
  refine bN.priv I hk ?_ q
  exact ⟨t,rfl,hb.1⟩
theorem tV:∀{ns:List Bool} {vs:List av},VRels cx h (ns.map .bool) vs->LSm.BoolsAre vs ns
 |[],vs,r=>by exact af r.nil_inv .nil
 |n::ns,vs,r=>by
  rw [bj] at r
  refine cu r.cons_inv λ v vs' r1_ r1 r2=>?_
  subst r1_
  rw [mA r1]
  exact .cons n (tV r2)
theorem Hk (ha:cx.addr (.bi "all")=.builtin "all"):CallOk cx tb0 (.bi "all"):=by
 intro A H s us vs Q X am st lk I r q
 rw [ha]
 replace q:CH us H Q X:=q
 revert r
 refine rM (λ a q=>?_) q
 ·intro r
  refine aL (gV r) λ v r1_ rv=>?_
  subst r1_
  have:=df rv;subst this
  refine cI q λ bs e hb q_=>?_
  clear q
  revert q_;intro q
  refine fZ (I.own _ _ e) λ aB nn ho rs=>(bu lk λ L lk_=>?_)
  clear lk
  revert lk_;intro lk
  exact bu lk.ns λ m n=>(LSm.all_bools (vs:=aB.toList) (wc I lk n) lb am.handled ⟨_,ho,rfl,nn,rfl⟩ (tV rs) λ h' tk F' N'=>(xA lk I n F' N' (λ p hp=>hp) qk q))
theorem nV (aB:Array av) (nn:Nat):¬tF ({cls:=.type "list",data:=.seq aB nn}:xQ):=by
 rintro (⟨_,_,_,z⟩|⟨_,z,_⟩)
 ·exact absurd (show cO "list"=cO "tuple" from z) (by decide)
 ·exact gi z rfl
theorem xD (p:mT cx fc H s (Q .none) s'):bN cx H s Q .none s':=by
 obtain ⟨H',q,I,S,M⟩:=p
 exact ⟨.none,H',q,mF,I,S,M⟩
theorem zv (ha:cx.addr (.bi "list.append")=.builtin "list.append"):CallOk cx tb0 (.bi "list.append"):=by
 intro A H s us vs Q X am st lk I r q
 rw [ha]
 replace q:rG us H Q X:=q
 revert r
 refine G4 (λ a u q=>?_) q
 ·intro r
  refine cu (lp r) λ v1 v2 r1_ r1 r2=>?_
  subst r1_
  have:=df r1;subst this
  refine cI q λ us e hl q_=>?_
  clear q
  revert q_;intro q
  refine fZ (I.own _ _ e) λ aB nn ho rs=>?_
  have hz:aB.size=us.length:=by refine af rs.len.symm ?_;simp
  refine By ⟨nn,ho⟩ (λ h' hl' hs=>?_) (by refine af hz ?_;simp only [bE];exact ao ‹_› (by decide))
  refine bu hl' λ n5 hp5=>?_
  clear hl'
  have ki:=bP.but ho (nV aB nn) hs
  exact xD (hJ (Q:=Q .none) (mo':=.list (us++[u])) I e (ij rfl) (ij rfl) ho (nV aB nn) (λ Z z=>by exact gi z rfl) hp5 hs ⟨_,_,hp5,by
   refine af Bz ?_;exact (rs.mono ki _).app (.one (r2.mono ki _))⟩ q)
theorem uk (aB:Array av) (i:Nat) (x:av):((aB.extract 0 i).push x++aB.extract i).toList=aB.toList.take i++x::aB.toList.drop i:=by
 have:wT (aB.size -i) (D1 i aB.toList)=D1 i aB.toList:=iu (by simp)
 simp [this]
theorem Al (ha:cx.addr (.bi "list.insert")=.builtin "list.insert"):CallOk cx tb0 (.bi "list.insert"):=by
 intro A H s us vs Q X am st lk I r q
 refine af ha ?_
 replace q:qP us H Q X:=q
 revert r
 refine I8 (λ a i u q=>?_) q
 ·intro r
  refine kf (zB r) λ v1 v2 v3 r1_ r1 r2 r3=>?_
  subst r1_
  have:=df r1;subst this
  refine bu (cj r2) λ t r1_=>?_
  subst r1_
  refine fy q λ us e hl i0 t1_=>(bw t1_ λ i1 q_=>?_)
  clear q t1_
  revert q_;intro q
  refine fZ (I.own _ _ e) λ aB nn ho rs=>?_
  have hz:aB.size=us.length:=by refine af rs.len.symm ?_;simp
  have hfit:¬(!oV i)=true:=by
   unfold oV
   simp
   lia
  refine xS sY ⟨_,ho,rfl⟩ PySem.F.entry_list_insert (PySem.F.args_list_insert_3 _ _ _) (AutoListH.list_insert_list_int_val_1 a aB nn i t v3 hfit (by refine af hz ?_;simp only [bE];exact ao ‹_› (by decide))) ⟨ho,?_⟩
  have hs:=dL s.heap a (eZ λ xs=>have k:=if i<0 then (i+((xs.size:Nat):Int)).toNat else min i.toNat xs.size;(xs.extract 0 k).push v3++xs.extract k)
  have hp5:=co (eZ λ xs=>have k:=if i<0 then (i+((xs.size:Nat):Int)).toNat else min i.toNat xs.size;(xs.extract 0 k).push v3++xs.extract k) ho rfl
  have ki:=bP.but ho (nV aB nn) hs
  refine xD (hJ (Q:=Q .none) (mo':=.list (us.take i.toNat++u::us.drop i.toNat)) I e (ij rfl) (ij rfl) ho (nV aB nn) (λ Z z=>by exact gi z rfl) hp5 hs ⟨_,_,hp5,?_⟩ q)
  have hk:(if i<0 then (i+((aB.size:Nat):Int)).toNat else min i.toNat aB.size)=i.toNat:=by
   refine af (if_neg (by lia)) ?_;lia
  show VRels _ _ _ ((aB.extract 0 (if i<0 then (i+((aB.size:Nat):Int)).toNat else min i.toNat aB.size)).push v3++aB.extract (if i<0 then (i+((aB.size:Nat):Int)).toNat else min i.toNat aB.size)).toList
  refine af hk (af (uk _ _ _) ?_)
  exact ((rs.take _).mono ki _).app (.cons (r3.mono ki _) ((rs.drop _).mono ki _))
theorem Hx (hsys:fo<cx.base.objs.size) (ha:cx.addr (.bi "dict.get")=.builtin "dict.get"):CallOk cx tb0 (.bi "dict.get"):=by
 intro A H s us vs Q X am st lk I r q
 refine af ha ?_
 replace q:CW us H Q X:=q
 revert r
 refine LY (λ a k q=>?_) q
 ·intro r
  refine cu (lp r) λ v1 v2 r1_ r1 r2=>?_
  subst r1_
  have:=df r1;subst this
  have r2':VRel cx s.heap (.tuple ([k].map V.int)) v2:=r2
  refine aL (mv r2') λ ka r1_ hk=>?_
  subst r1_
  have hroom:(qa (f8 cx.prog cx.w)).room A.in1:=ly (by have:=am.units;lia)
  rcases q with ⟨e,q⟩|⟨es,e,q⟩
  ·refine bu (I.own _ _ e) λ n e'=>?_
   have hm:s.heap.DictOfH (qa (f8 cx.prog cx.w)) a []:=⟨_,#[],n,e',⟨rfl,rfl,rfl⟩,rfl,rfl,λ Z hx=>by simp at hx,ir⟩
   refine DR iw hm.typeIs uU (ud _ _) (meetsH_dict_get _ a ka (lT hsys I e)) ⟨hroom,[k],[],hk,hm,?_⟩
   exact bN.tok I mF q
  ·refine aL (I.own _ _ e) λ xs hm tr=>(DR iw hm.typeIs uU (ud _ _) (meetsH_dict_get _ a ka (lT hsys I e)) ⟨hroom,[k],xs,hk,hm,?_⟩)
   cases hl:es.lookup [k] with
   |none=>
    rw [hl] at q
    refine af (pc tr hl) ?_
    exact bN.tok I mF q
   |some u=>
    rw [hl] at q
    refine aL (rT tr hl) λ p hp rv=>?_
    refine af hp ?_
    exact bN.tok I rv q
theorem o9:∀{es:List (aw×V)} {kvs:List (aw×av)},KRel cx h es kvs->kvs.map (·.1)=es.map (·.1)
 |[],kvs,r=>by subst r;rfl
 |(n,u)::es,kvs,r=>by
  refine cu r λ v kvs' r1_ h1 h2=>?_
  clear r
  subst r1_
  exact af bj (af bj (af (o9 h2) rfl))
theorem vV (r2:KRel cx h fs more):∀{es:List (aw×V)} {kvs:List (aw×av)},KRel cx h es kvs->KRel cx h (es++fs) (kvs++more)
 |[],kvs,r=>by subst r;exact r2
 |(n,u)::es,kvs,r=>by
  refine cu r λ v kvs' r1_ h1 h2=>?_
  clear r
  subst r1_
  show KRel cx h ((n,u)::(es++fs)) ((n,v)::(kvs'++more))
  exact ⟨v,_,rfl,h1,vV r2 h2⟩
theorem AA (hsys:fo<cx.base.objs.size) (ha:cx.addr (.bi "dict.update")=.builtin "dict.update"):CallOk cx tb0 (.bi "dict.update"):=by
 intro A H s us vs Q X am st lk I r q
 refine af ha ?_
 replace q:rV us H Q X:=q
 revert r
 refine MT (λ a b q=>?_) q
 ·intro r
  refine cu (lp r) λ v1 v2 r1_ r1 r2=>?_
  subst r1_
  have:=df r1;subst this
  have:=df r2;subst this
  refine jR q λ es fs nab ea eb t1_=>(gJ t1_ λ hnd hl q_=>?_)
  clear q t1_
  revert q_;intro q
  refine aL (I.own _ _ ea) λ kvs hda ra=>(aL (I.own _ _ eb) λ more hdb rb=>?_)
  have hk:((kvs++more).map (·.1))=((es++fs).map (·.1)):=by (exact af bf (af bf (af (o9 ra) (af (o9 rb) rfl))))
  have l1:=ow ra
  have l2:=ow rb
  refine DR s9 hda.typeIs PySem.F.entry_dict_update (PySem.F.args_dict_update_2 _ _) (meets_dict_update (strKind cx.prog cx.w) a b nab (lT hsys I eb)) ⟨kvs,more,hda,hdb,by simp only [bE];lia,λ h' hd' ho' hs=>?_⟩
  rw [merged_append_of_fresh _ _ (by exact af hk hnd)] at hd'
  refine cI (ge hda.mapOf) λ ob ho hi hc=>(aL (ge hd'.mapOf) λ ob' ho2 Z=>?_)
  have ki:=bP.but ho hi hs
  exact xD (hJ (Q:=Q .none) (mo':=.sdict (es++fs)) (t:=s.toks) I ea (ij rfl) (ij rfl) ho hi hc ho2 hs ⟨_,hd',vV (rb.mono ki) (ra.mono ki)⟩ q)
end
section
variable {E:av->ax->Prop}
theorem wI (hx:ja s.heap x xs) (hy:ja s.heap y ys) (hp:xs.toList.head?=some p) (hq:ys.toList.head?=some q) (hu:A.units<mH)
  (ne:∀(Q:Bool->ax->Prop) (E:av->ax->Prop),Q false s->aE (ay prog w) A.in1 (eqBool p q) Q E s) (lt:∀(Q:av->ax->Prop) (E:av->ax->Prop),Q (.bool r) s->aE (ay prog w) A.in1 (u9 .Lt p q) Q E s) (h:Q (.bool r) s):
  aE (ay prog w) A (u9 .Lt (.ref x) (.ref y)) Q E s:=by
 have tx:s.TypeIs (.ref x) "tuple":=hx.typeIs
 have ty:s.TypeIs (.ref y) "tuple":=hy.typeIs
 refine wpAny_richCompare_same_room tx ty vb (gL vb tx PySem.F.entry_tuple_lt ?_ (PySem.F.args_tuple_lt_2 _ _)) hu
 obtain ⟨xr,hxr⟩:∃xr,xs.toList=p::xr:=by
  cases e:xs.toList with
  |nil=>rw [e] at hp;cases hp
  |cons a l=>rw [e] at hp;cases hp;exact ⟨l,rfl⟩
 obtain ⟨yr,hyr⟩:∃yr,ys.toList=q::yr:=by
  cases e:ys.toList with
  |nil=>rw [e] at hq;cases hq
  |cons a l=>rw [e] at hq;cases hq;exact ⟨l,rfl⟩
 show aE _ _ (x4 (.ref y) (.type "tuple")>>=_) _ _ s
 refine ae (wpAny_isInstance ty PySem.F.sub_tuple_tuple ?_)
 simp only [Bool.not_true,ch,if_false]
 refine ae (Bi hx (ae (Bi hy ?_)))
 refine af hxr (af hyr (af cL ?_));rw [su]
 refine ae (ae (ae (ne _ _ ?_)))
 simp only [Bool.not_false,if_true]
 refine ae (jI (ae (lt _ _ ?_)))
 refine ae (ah (ah (ah (ah ⟨_,rfl,(λ z=>by cases z),h⟩))))
end
noncomputable def kRun {α:Type} (c:Nat->Nat->Bool):KasT α->α
 |.ret a=>a
 |.ask i j k=>kRun c (k (c i j))
noncomputable def kAsks {α:Type} (n:Nat):KasT α->Bool
 |.ret _=>true
 |.ask i j k=>decide (i<n)&&(decide (j<n)&&(decide (i≠j)&&(kAsks n (k true)&&kAsks n (k false))))
theorem rP {α:Type} {Q:α->ax->Prop} (hc:∀i j,i<n->j<n->i≠j->∀C:Bool->ax->Prop,C (c i j) s->cmp i j C s):∀(t:KasT α),kAsks n t=true->Q (kRun c t) s->t.kasWp cmp Q s
 |.ret _,_,h=>h
 |.ask i j k,ha,h=>by
  unfold kAsks at ha
  simp only [bG,decide_eq_true_eq] at ha
  refine wG ha λ h1 h2 h3 h4 h5=>?_
  refine hc i j h1 h2 h3 _ ?_
  have h:Q (kRun c (k (c i j))) s:=h
  cases e:c i j with
  |true=>rw [e] at h;exact rP hc (k true) h4 h
  |false=>rw [e] at h;exact rP hc (k false) h5 h
theorem lq {α:Type} (hc:∀i j,i<n->j<n->i≠j->c i j=c' i j):∀(t:KasT α),kAsks n t=true->kRun c t=kRun c' t
 |.ret _,_=>rfl
 |.ask i j k,ha=>by
  unfold kAsks at ha
  simp only [bG,decide_eq_true_eq] at ha
  refine wG ha λ h1 h2 h3 h4 h5=>?_
  show kRun c (k (c i j))=kRun c' (k (c' i j))
  refine af (hc i j h1 h2 h3) ?_
  cases c' i j with
  |true=>exact lq hc (k true) h4
  |false=>exact lq hc (k false) h5
theorem Gj:kAsks 2 (fF 2)=true:=by decide+kernel
theorem Gk:kAsks 3 (fF 3)=true:=by decide+kernel
noncomputable def cT (x01 x02 x12:Bool):Nat->Nat->Bool
 |0,1=>x01
 |1,0=>!x01
 |0,2=>x02
 |2,0=>!x02
 |1,2=>x12
 |2,1=>!x12
 |_,_=>false
noncomputable def pm2 (p:Bool):List Nat:=cond p [0,1] [1,0]
noncomputable def pm3 (p q r:Bool):List Nat:=cond p (cond q (cond r [0,1,2] [0,2,1]) [2,0,1]) (cond r (cond q [1,0,2] [1,2,0]) [2,1,0])
theorem JA:∀x:Bool,(kRun (cT x x x) (fF 2)).toList=pm2 x:=by decide+kernel
theorem JZ:∀p q r:Bool,(q=true\/(p&&r)=false)->(q=false\/(p||r)=true)->(kRun (cT p q r) (fF 3)).toList=pm3 p q r:=by decide+kernel
noncomputable def fAt {α:Type} (L:List α) (f:α->Int) (i:Nat):Int:=(L.map f).getD i 0
theorem pi {α:Type} {f:α->Int} {x y:α} {r:List α} (h:decide (f x<f y)=b):ins f x (y::r)=cond b (x::y::r) (y::ins f x r):=by
 subst h
 show ite _ _ _=_
 by_cases e:f x<f y
 ·refine af (if_pos e) (af (decide_eq_true e) ?_);rfl
 ·refine af (if_neg e) (af (decide_eq_false e) ?_);rfl
theorem jY {x y:Int} (h:x≠y):decide (y<x)=!decide (x<y):=by
 by_cases e:x<y
 ·refine af (decide_eq_true e) (af (decide_eq_false (dI.mpr (fA e))) ?_);rfl
 ·refine af (decide_eq_false e) (af (decide_eq_true (Int.lt_iff_le_and_ne.mpr ⟨dI.mp e,h.symm⟩)) ?_);rfl
theorem Kg {c d:Nat->Nat->Bool} (a:c 0 1=d 0 1) (b:c 1 0=d 1 0) (i j:Nat) (hi:i<2):j<2->i≠j->c i j=d i j:=
 oO (P:=λ i=>∀j,j<2->i≠j->c i j=d i j) (oO EY (oO (oO EY λ z=>absurd rfl z) λ Z=>a)) (oO (oO EY λ Z=>b) λ z=>absurd rfl z) i hi j
theorem J6 {c d:Nat->Nat->Bool} (a:c 0 1=d 0 1) (b:c 0 2=d 0 2) (e:c 1 2=d 1 2) (f:c 1 0=d 1 0) (g:c 2 0=d 2 0) (h:c 2 1=d 2 1) (i j:Nat) (hi:i<3):j<3->i≠j->c i j=d i j:=
 oO (P:=λ i=>∀j,j<3->i≠j->c i j=d i j) (oO (oO EY (oO (oO (oO EY λ z=>absurd rfl z) λ Z=>a) λ Z=>b)) (oO (oO (oO EY λ Z=>f) λ z=>absurd rfl z) λ Z=>e)) (oO (oO (oO EY λ Z=>g) λ Z=>h) λ z=>absurd rfl z) i hi j
theorem Fa {α:Type} {L:List α} {f:α->Int} (g:α->V) (h2:2<=L.length) (h3:L.length<=3) (nd:(L.map f).Nodup):
  kAsks L.length (fF L.length)=true/\(∀i∈(kRun (λ i j=>decide (fAt L f i<fAt L f j)) (fF L.length)).toList,i<L.length)/\
  (isort f L).map g=(kRun (λ i j=>decide (fAt L f i<fAt L f j)) (fF L.length)).toList.map λ i=>(L.map g).getD i .none:=by
 refine (Nat.lt_or_eq_of_le h3).elim (λ h=>?_) λ h=>?_
 ·refine BO (uM (jK (la h) h2)) λ a b e=>?_
  subst e
  clear h h2 h3
  have n1:f a≠f b:=λ e=>(cc.mp nd).1 (e▸.head _)
  have hc:kRun (λ i j=>decide (fAt [a,b] f i<fAt [a,b] f j)) (fF 2)=kRun (cT (decide (f a<f b)) (decide (f a<f b)) (decide (f a<f b))) (fF 2):=by
   refine lq (Kg ?_ ?_) _ Gj
   ·rfl
   ·exact jY n1
  refine ⟨Gj,?_⟩
  show (∀i∈(kRun _ (fF 2)).toList,i<2)/\a7 g (ins f b [a])=(kRun _ (fF 2)).toList.map _
  refine af hc (af (JA _) (af (pi (jY n1)) ?_))
  generalize decide (f a<f b)=p
  exact ⟨by revert p;decide,by cases p<;>rfl⟩
 ·refine iF (mx h) λ a b c e=>?_
  subst e
  clear h h2 h3
  have n1:f a≠f b:=λ e=>(cc.mp nd).1 (e▸.head _)
  have n2:f a≠f c:=λ e=>(cc.mp nd).1 (e▸.tail _ (.head _))
  have n3:f b≠f c:=λ e=>(cc.mp (cc.mp nd).2).1 (e▸.head _)
  have hc:kRun (λ i j=>decide (fAt [a,b,c] f i<fAt [a,b,c] f j)) (fF 3)=kRun (cT (decide (f a<f b)) (decide (f a<f c)) (decide (f b<f c))) (fF 3):=by
   refine lq (J6 ?_ ?_ ?_ ?_ ?_ ?_) _ Gk
   ·rfl
   ·rfl
   ·rfl
   ·exact jY n1
   ·exact jY n2
   ·exact jY n3
  have c1:decide (f a<f c)=true\/(decide (f a<f b)&&decide (f b<f c))=false:=by
   by_cases e1:f a<f b
   ·by_cases e2:f b<f c
    ·exact .inl (decide_eq_true (Int.lt_trans e1 e2))
    ·exact .inr (by (exact af (decide_eq_false e2) (af (ub _) rfl)))
   ·exact .inr (by refine af (decide_eq_false e1) ?_;rfl)
  have c2:decide (f a<f c)=false\/(decide (f a<f b)||decide (f b<f c))=true:=by
   by_cases e1:f a<f b
   ·exact .inr (by refine af (decide_eq_true e1) ?_;rfl)
   ·by_cases e2:f b<f c
    ·exact .inr (by (exact af (decide_eq_true e2) (af (iA _) rfl)))
    ·exact .inl (decide_eq_false (dI.mpr (eT (dI.mp e2) (dI.mp e1))))
  have i1:∀p q r:Bool,decide (f b<f a)=!p->decide (f c<f a)=!q->decide (f c<f b)=!r->(q=true\/(p&&r)=false)->(q=false\/(p||r)=true)->a7 g (ins f c (ins f b [a]))=(pm3 p q r).map λ i=>(a7 g [a,b,c]).getD i .none:=λ p q r hp hq hr k1 k2=>by
   refine af (pi hp) ?_
   cases p with
   |true=>
    show a7 g (ins f c [a,b])=_
    refine af (pi hq) ?_
    cases q with
    |true=>
     show a7 g (a::ins f c [b])=_
     refine af (pi hr) ?_
     cases r<;>rfl
    |false=>rfl
   |false=>
    show a7 g (ins f c [b,a])=_
    refine af (pi hr) ?_
    cases r with
    |true=>
     show a7 g (b::ins f c [a])=_
     refine af (pi hq) ?_
     cases q<;>rfl
    |false=>rfl
  refine ⟨Gk,?_⟩
  show (∀i∈(kRun _ (fF 3)).toList,i<3)/\a7 g (ins f c (ins f b [a]))=(kRun _ (fF 3)).toList.map _
  refine af hc (af (JZ _ _ _ c1 c2) ?_)
  refine ⟨?_,i1 _ _ _ (jY n1) (jY n2) (jY n3) c1 c2⟩
  generalize decide (f a<f b)=p
  generalize decide (f a<f c)=q
  generalize decide (f b<f c)=r
  revert p q r
  decide
section
variable {prog:cQ}
end
namespace jA
def S_ (prog:cQ) (w:f7) (A:dy) (s:ax) (D:aI) (vs:List av) (Q):=∀{E:av->ax->Prop} {n0:Nat} (ho:s.heap.get? D=some (ig "list" vs.toArray n0)) (hl:vs.length<2) (h:∀h' c,(∀b o,b≠D->s.heap.get? b=some o->h'.get? b=some o)->h'.get? D=some (ig "list" vs.toArray c)->Q .none {s with heap:=h'}),aE (ay prog w) A (call (.builtin "list.sort") [.ref D]) Q E s
def U_:=UV λ prog w A=>UV λ s D vs=>S_ prog w A s D vs
def t_:=dr (by have:=qf;have:=p5;have:=vU;infer_instance) U_
def prog:=t_.1
def w:=t_.2.1
def A:=t_.2.2.1
def s:=t_.2.2.2.1
def D:=t_.2.2.2.2.1
def vs:=t_.2.2.2.2.2.1
def s1_:=t_.2.2.2.2.2.2
def Q:=s1_
theorem P_:S_ prog w A s D vs Q:=by
 intro E n0 ho hl h
 refine gL slot_list_sort ⟨_,ho,rfl⟩ entry_list_sort ?_ (args_list_sort _)
 refine af (list_sort_plain _) ?_
 have ha:D<s.heap.objs.size:=bx ho
 have s1:=dL s.heap D (eZ λ Z=>(#[]:Array av))
 obtain ⟨e1,ho1⟩:∃e1,(s.heap.update D (eZ λ Z=>(#[]:Array av))).get? D=some (ig "list" #[] e1):=⟨_,get?_update_seq ho λ Z=>#[]⟩
 have hz:vs.toArray.size=vs.length:=by simp
 refine ae (listItems_at ho rfl ?_)
 refine ae (listUpdate_at ho rfl ?_ (by (refine af hz (af d7 ?_));lia) (cS _))
 refine ae (seqEpoch_at ho1 rfl ?_)
 refine ae (wpAny_newTuple ?_ (by show vs.length<=_;refine af d7 ?_;lia))
 refine ae (wpAny_newList ?_ (cS _))
 refine bz ?_
 have ho2:(((s.heap.update D (eZ λ Z=>(#[]:Array av))).push (ig "tuple" vs.toArray 0)).push (ig "list" #[] 0)).get? D=some (ig "list" #[] e1):=ak _ (ak _ ho1)
 have keep2:∀b o,b≠D->s.heap.get? b=some o->(((s.heap.update D (eZ λ Z=>(#[]:Array av))).push (ig "tuple" vs.toArray 0)).push (ig "list" #[] 0)).get? b=some o:=λ b o nb e=>
  ak _ (ak _ ((s1.2 b nb).trans e))
 show aE (ay prog w) A.in1 _ _ E {s with heap:=((s.heap.update D (eZ λ Z=>(#[]:Array av))).push (ig "tuple" vs.toArray 0)).push (ig "list" #[] 0)}
 generalize ((s.heap.update D (eZ λ Z=>(#[]:Array av))).push (ig "tuple" vs.toArray 0)).push (ig "list" #[] 0)=h2 at*
 dsimp only
 have hn2:vs.toArray.size<2:=by exact af hz hl
 refine af (if_pos hn2) (af (if_pos hn2) ?_)
 refine ae (ah ?_)
 refine ae (ah (a:=((),zj general' (vs.toArray.zip vs.toArray) #[] 7 none)) ?_)
 refine ae (seqEpoch_at ho2 rfl ?_)
 have hout:(arrOf (zj general' (vs.toArray.zip vs.toArray) #[] 7 none)).map (·.2)=vs.toArray:=by
  show (vs.toArray.zip vs.toArray).map (·.2)=vs.toArray
  apply DH.mp
  simp [List.map_snd_zip]
 have hf:failedOf (zj general' (vs.toArray.zip vs.toArray) #[] 7 none)=none:=rfl
 dsimp only
 refine af hout ?_
 have s2:=dL h2 D (eZ λ Z=>vs.toArray)
 obtain ⟨c2,hc2⟩:∃c2,(h2.update D (eZ λ Z=>vs.toArray)).get? D=some (ig "list" vs.toArray c2):=⟨_,get?_update_seq ho2 λ Z=>vs.toArray⟩
 refine ae (listUpdate_at ho2 rfl ?_ (cS _) (by (refine af hz (af d7 ?_));lia))
 simp only [bne_self_eq_false,ch,if_false]
 exact ah ⟨_,rfl,h _ c2 (λ b o nb e=>(s2.2 b nb).trans (keep2 b o nb e)) hc2⟩
theorem A_:∀p,U_ p:=bB P_
end jA
section
variable {prog:cQ}
theorem jA {prog w A s D vs Q}:jA.S_ prog w A s D vs Q:=jA.A_ (prog,w,A,s,D,vs,Q)
end
theorem vp {α:Type} {f:α->Int}:∀{l:List α},¬2<=l.length->isort f l=l
 |[],_=>rfl
 |[a],_=>rfl
 |a::b::l,h=>absurd (by simp) h
section
variable {E:av->ax->Prop}
theorem CI {α:Type} {L0:List α} {f:α->Int} {g:α->V} {κ:tf} {tk c0:Nat} (lk:uK cx H s.heap L) (I:cb cx H s.heap) (n:s.heap.Ns L m)
  (F:Fr cx.base L h1 m) (N:DE cx.base L h1 ((D,ig "list" vs.toArray c0)::allNews cx.base s.heap L)) (hlt:∀q∈allNews cx.base s.heap L,q.1<D) (hbD:cx.base.objs.size<=D)
  (rs:VRels cx s.heap (L0.map g) vs) (h3:L0.length<=3) (nd:(L0.map f).Nodup)
  (hk:2<=L0.length->∀(s':ax) (Q:tf->ax->Prop) (E:av->ax->Prop),bP s.heap s'.heap->Q κ s'->aE (ay cx.prog cx.w) A.in1 (Fq vs.toArray) Q E s')
  (hc:∀(s':ax),bP s.heap s'.heap->∀i j,i<L0.length->j<L0.length->i≠j->∀C:Bool->ax->Prop,C (decide (fAt L0 f i<fAt L0 f j)) s'->xb cx.prog cx.w A.in1 κ vs i j C s')
  (q:∀c,H c=none->Q (.ref c) (H.set c (.list ((isort f L0).map g)))):
  aE (ay cx.prog cx.w) A (call (.builtin "list.sort") [.ref D]) (λ Z s'=>bN cx H s Q (.ref D) s') E {s with heap:=h1,toks:=tk}:=by
 have hl:vs.length=L0.length:=by (exact af rs.len (af (ag _) rfl))
 have nD:=N _ (dD ..)
 have neq:∀p∈allNews cx.base s.heap L,p.1≠D:=λ p hp=>dM (hlt p hp)
 have hD0:s.heap.get? D=none:=by
  cases e:s.heap.get? D with
  |none=>rfl
  |some o=>
   by_cases hb:(cx.base.get? D)=none
   ·have:(D,o)∈allNews cx.base s.heap L:=fN.mpr ⟨e,nD.2.1,hb⟩
    exact absurd rfl (neq _ this)
   ·exact absurd nD.2.2 hb
 have fe:∀(h':cM) (tk' c:Nat) (us:List V) (ws:List av),(∀b o,b≠L->s.heap.get? b=some o->h'.get? b=some o)->rU s.heap h' L->h'.get? D=some (ig "list" ws.toArray c)->VRels cx s.heap us ws->us=(isort f L0).map g->bN cx H s Q (.ref D) {s with heap:=h',toks:=tk'}:=by
  intro h' tk' c us ws _ k hD rw_ hus
  have st:=k.step (P:=fc) (H:=H) lk.ns
  have I':=k.inv I lk
  subst hus
  exact ⟨.ref D,H.set D _,q _ (I.free hD0).1,lS,I'.take (λ Z Z Z e=>by cases e) (I.free hD0) hbD ⟨ws.toArray,c,hD,VRels.mono st.imm _ rw_⟩,st.take (λ Z Z Z e=>by cases e) hD0,rfl,rfl,rfl⟩
 have kl:∀{h':cM} {o:xQ},Fr cx.base L h' m->DE cx.base L h' ((D,o)::allNews cx.base s.heap L)->rU s.heap h' L:=λ F' N'=>oK I n F' N' λ p hp=>.tail _ hp
 by_cases h2:2<=L0.length
 ·refine gJ (Fa (f:=f) g h2 h3 nd) λ a1 a2 a3=>?_
  have hlen:vs.length=L0.length:=hl
  refine kat_lsort (s:={s with heap:=h1,toks:=tk}) (its:=vs.toArray) (vs:=vs) F N (UpdF.head neq) (by simp) (by lia) (by lia) λ e1 h' F' N'=>?_
  have ki:bP s.heap h':=(kl F' N').step (P:=fc) (H:=H) lk.ns|>.imm
  refine hk h2 _ _ _ ki ?_
  refine af hl ?_
  refine rP (hc _ ki) _ a1 (KasFin.intro F' N' (UpdF.head neq) λ h'' c F'' N''=>?_)
  have k'':=kl F'' N''
  refine fe h'' tk c ((isort f L0).map g) _ (λ b o nb e=>k''.all b o nb e) k'' (N'' _ (dD ..)).1 ?_ rfl
  refine af a3 ?_
  have:∀ix:List Nat,(∀i∈ix,i<L0.length)->VRels cx s.heap (ix.map λ i=>(L0.map g).getD i .none) (ix.map λ i=>vs.getD i bQ):=by
   intro ix
   induction ix with
   |nil=>intro _;exact .nil
   |cons i ix ih=>
    intro hi
    have h0:=hi i (dD ..)
    refine .cons ?_ (ih λ j hj=>hi j (dQ _ hj))
    have e:(L0.map g)[i]?=some ((L0.map g).getD i .none):=by
     have:i<(L0.map g).length:=by exact af (ag _) h0
     refine af (aJ) (af (an this) ?_);rfl
    refine aL (rs.get e) λ v hv rv=>?_
    have e2:vs.getD i bQ=v:=by (refine af (aJ) (af hv ?_));rfl
    show VRel cx s.heap ((L0.map g).getD i .none) (vs.getD i bQ)
    exact af e2 rv
  exact this _ a2
 ·refine jA (s:={s with heap:=h1,toks:=tk}) nD.1 (by lia) λ h' c hk' hD'=>?_
  have F':Fr cx.base L h' m:=⟨let ⟨o,es,ep,e,r⟩:=F.ns;⟨o,es,ep,hk' _ _ (λ z=>nD.2.1 z.symm) e,r⟩,λ b o e=>hk' _ _ (λ z=>by rw [z,nD.2.2] at e;exact bH e) (F.keep b o e),F.above⟩
  have N':DE cx.base L h' ((D,ig "list" vs.toArray c)::allNews cx.base s.heap L):=λ p hp=>by
   rcases aY.mp hp with rfl|hp
   ·exact ⟨hD',nD.2⟩
   ·have:=N p (dQ _ hp)
    exact ⟨hk' _ _ (neq p hp) this.1,this.2⟩
  have k':=kl F' N'
  refine fe h' tk c (L0.map g) vs (λ b o nb e=>k'.all b o nb e) k' hD' rs ?_
  exact af (vp h2) rfl
end
inductive mN (h:cM) (d:aI) (es:Array fU) (ep:Nat):Prop
 |mk (o) (h1:h.get? d=some o) (h2:o.ExactDict) (h3:o.data=.dict es ep):mN h d es ep
theorem mN.keep {d es ep} (x:mN h d es ep) (k:∀o,h.get? d=some o->h'.get? d=some o):mN h' d es ep:=let ⟨o,a,r,t⟩:=x;⟨o,k o a,r,t⟩
theorem mN.typeIs {s:ax} {d es ep} (x:mN s.heap d es ep):s.TypeIs (.ref d) "dict":=let ⟨o,a,b,_⟩:=x;⟨o,a,b.1⟩
section
variable {E:av->ax->Prop}
theorem De (hd:(d==fo)=false) (hm:mN s.heap d es ep)
  (q:Q (.ref s.heap.objs.size) {s with heap:=s.heap.push {cls:=.type "dict_keyiterator",data:=.fields #[.ref d,.int 0 0,.int es.size 0,.int ep 0]}}):aE (ay prog w) A (xX (.ref d)) Q E s:=by
 have hT:=hm.typeIs
 obtain ⟨o,ho,hc,hdat⟩:=hm
 refine wpAny_pyIter_slot hT uV (gL uV hT PySem.F.entry_dict_iter ?_ (PySem.F.args_dict_iter_1 _))
 unfold jb.«dict.__iter__» Builtin.Dict.dictSlotNone Builtin.Dict.showsAll
 refine ae (ae (DW hT ?_))
 refine ah (ae (ah (a:=d) ?_))
 rw [if_neg (by rw [hd];exact oQ)]
 refine ae (ah ?_)
 refine ae (IE ho hdat (ae (wpAny_dictEpoch ho hdat ?_)))
 refine ae (cX (ah ⟨_,rfl,"dict_keyiterator",_,⟨_,bt _ rfl,rfl⟩,gF.lookup,?_⟩))
 simpa [iL] using q
end
namespace kM
def S_ (prog w A E s it d i ep es Q):=∀(hh:A.handled=none) (hit:s.heap.IsKeyIter it d i es.size ep) (hm:mN s.heap d es ep) (q:match es[i]? with
   |some e=>∀h',h'.IsKeyIter it d (i+1) es.size ep->dk it s.heap h'->Q (some e.key) {s with heap:=h'}
   |none=>∀h',Heap.ExtBut it s.heap h'->Q none {s with heap:=h'}),aE (ay prog w) A (uS (.ref it)) Q E s
def U_:=UV λ prog w A=>UV λ E s it=>UV λ d i ep=>UU λ es=>S_ prog w A E s it d i ep es
def t_:=dr (by have:=qf;have:=p5;have:=vU;infer_instance) U_
def prog:=t_.1
def w:=t_.2.1
def A:=t_.2.2.1
def E:=t_.2.2.2.1
def s:=t_.2.2.2.2.1
def it:=t_.2.2.2.2.2.1
def s1_:=t_.2.2.2.2.2.2
def d:=s1_.1
def i:=s1_.2.1
def ep:=s1_.2.2.1
def es:=s1_.2.2.2.1
def Q:=s1_.2.2.2.2
theorem P_:S_ prog w A E s it d i ep es Q:=by
 intro hh hit hm q
 have hT:=hit.typeIs
 refine cI hit λ oi hoi hci hdi=>?_
 obtain ⟨od,hod,hcd,hdd⟩:=hm
 have nI:(aR d==bQ)≠true:=oQ
 unfold uS
 refine ae (wpAny_attempt (mG (name:=aa "__next__") hT gF
  (gL gF hT PySem.F.entry_dict_keyiterator_next ?_ (PySem.F.args_dict_keyiterator_next_1 _))))
 refine ae (ah ?_)
 refine ae (ae (ae ?_))
 refine jT hT (ah ?_)
 refine ae (wpAny_fieldsOf hoi hdi ?_)
 have hown:D3 "dict_keyiterator"=false:=by decide
 rw [hown]
 show aE _ _ (if (aR d==bQ)=true then _ else _) _ _ s
 refine af (if_neg nI) ?_
 refine ae (ah (a:=d) (ae (IE hod hdd ?_)))
 rw [if_neg (by simp)]
 refine ae (ah (a:=d) (ae (wpAny_dictEpoch hod hdd ?_)))
 rw [if_neg (by simp)]
 refine ah ?_
 dsimp only
 refine af (if_neg (by lia)) (af (cJ _) ?_)
 cases he:es[i]? with
 |some e=>
  rw [he] at q
  dsimp only at q⊢
  have hit':(s.heap.update it (cz (·.setIfInBounds 1 (iL ((i:Int)+1))))).IsKeyIter it d (i+1) es.size ep:=
   ⟨_,co _ hoi (fO (dJ hdi _)),(Obj.cls_mapFields ..).trans hci,by refine af (dJ hdi _) ?_;simp [iL]⟩
  refine ae (ae (jT hT (ah ?_)))
  refine ae (D4 hT ?_)
  show aE _ _ (setField (.ref it) 1 (iL ((i:Int)+1))>>=_) _ _ s
  refine ae (gC hoi hdi (by simp) ?_)
  refine ae (bz ?_)
  refine ae (D4 (s:={s with heap:=s.heap.update it (cz (·.setIfInBounds 1 (iL ((i:Int)+1))))}) hit'.typeIs ?_)
  show aE _ _ (pure e.key) _ _ _
  exact ah (ah ⟨_,rfl,ah (q _ hit' (dL ..))⟩)
 |none=>
  rw [he] at q
  dsimp only at q⊢
  refine ae (ae (jT hT (ah ?_)))
  show aE _ _ (setField (.ref it) 0 .none>>=_) _ _ s
  refine ae (gC hoi hdi (by simp) ?_)
  refine ae ?_
  delta newExc newTuple
  refine ae (cX ?_ (by size_fits))
  refine ae (m:=firstArgMember _ _) (lP (a:=bQ) (by first|rfl|(simp only [firstArgMember];rfl)) ?_)
  refine cX ?_ (by size_fits)
  delta raiseNew
  refine ae (wpAny_handled ?_)
  refine af (show A.in1.handled=none from hh) ?_
  refine ae (ah (wpAny_throw ?_))
  refine ae (wpAny_isInstance (T:="StopIteration") (b:=true) ⟨_,bt _ rfl,rfl⟩ isSubtype_stop ?_)
  exact ah (q _ (((dL ..).extBut.push _).push _))
theorem A_:∀p,U_ p:=bB P_
end kM
section
variable {prog:cQ}
theorem kM {prog w A E s it d i ep es Q}:kM.S_ prog w A E s it d i ep es Q:=kM.A_ (prog,w,A,E,s,it,d,i,ep,es,Q)
theorem AH (hh:A.handled=none) (I d:aI) (hne:d≠I) (es:Array fU) (ep:Nat):
  Walks prog w A I [I,d] [I] es.size (λ i v=>∃e,es[i]?=some e/\v=e.key) (λ i h=>h.IsKeyIter I d i es.size ep/\mN h d es ep) where
 sub:=λ b hb=>by simp at hb;simp [hb]
 frame:=λ Z Z Z st hk=>⟨st.1.at λ o e=>hk I (by simp) o e,st.2.keep λ o e=>hk d (by simp) o e⟩
 item:=λ i s Q E hi st hQ=>by
  refine kM hh st.1 st.2 ?_
  refine af (ue hi) ?_
  exact λ h' hit' hs'=>hQ _ h' s.toks ⟨_,ue hi,rfl⟩ ⟨hit',st.2.keep λ o e=>(hs'.2 d hne).trans e⟩ λ b o hb e=>hs'.extBut b o (λ h=>hb (by simp [h])) e
 done:=λ s Q E st hQ=>by
  refine kM hh st.1 st.2 ?_
  refine af (wX (bW _)) ?_
  exact λ h' he'=>hQ h' s.toks λ b o hb e=>he' b o (λ h=>hb (by simp [h])) e
 self:=λ Z Z Z Z st hQ=>wpAny_pyIter_keyiter st.1 hQ
theorem ER (lo:(d==fo)=false):KdlSrc prog w "dict" d d es.size (λ i v=>∃e,es[i]?=some e/\v=e.key) (λ h=>mN h d es ep) where
 type:=λ Z hm=>hm.typeIs
 there:=λ Z hm=>let ⟨_,e,_,_⟩:=hm;⟨bx e,bx e⟩
 keep:=λ Z Z hm hk=>hm.keep λ o e=>hk d (.inl rfl) o e
 notList:=by decide
 notTuple:=by decide
 hint:=λ Z Z Z Z hm hq=>kdl_hint_dict hm.typeIs hq
 iter:=λ Z Z hh hm=>⟨_,_,(λ Z Z hq=>De lo hm hq),AH hh _ d (dM (let ⟨_,e,_,_⟩:=hm;bx e)) es ep,⟨⟨_,bt _ rfl,rfl,rfl⟩,hm.keep λ o e=>ak _ e⟩⟩
end
section
variable {cx:Cx} {s:ax} {E:av->ax->Prop}
theorem qE (h:Q (.bool (decide (a<b))) s):aE (ay prog w) A (u9 .Lt (.int a t) (.int b u)) Q E s:=
 PyProof.Rows.lt_int h
theorem tq (hn:a≠b) (h:Q false s):aE (ay prog w) A (eqBool (.int a t) (.int b u)) Q E s:=
 wpAny_eqBool_int (by exact af (show (a==b)=false from beq_eq_false_iff_ne.mpr hn) h)
inductive mM (cx:Cx) (h:cM) (x:dX) (b:aI):Prop
 |mk (bs:Array av) (p:aI) (ps:Array av) (t u:Tok) (h1:ja h b bs) (h2:bs.toList=[.ref p]) (h3:ja h p ps) (h4:ps.toList=[.int x.first t,.int x.last u]):mM cx h x b
theorem xM (r:VRel cx s.heap x.box v):∃b,v=.ref b/\mM cx s.heap x b:=by
 unfold dX.box at r
 refine cu (fz r) λ b bs r1_ hb rb=>?_
 subst r1_
 refine aL (gV rb) λ pv hpv rp=>(cu (fz rp) λ p ps r1_ hp rps=>?_)
 subst r1_
 refine cu (lp rps) λ v1 v2 hv r1 r2=>(bu (cj r1) λ t r1_=>?_)
 subst r1_
 refine bu (cj r2) λ u r1_=>?_
 subst r1_
 exact ⟨b,rfl,bs,p,ps,t,u,hb,hpv,hp,hv⟩
theorem wE {x:dX} (hp:ja s.heap p ps) (e:ps.toList=[.int x.first t,.int x.last u]):lu (f8 cx.prog cx.w) s.heap [x.first,x.last] p:=by
 obtain ⟨a,ha,k⟩:=mv (cx:=cx) (s:=s) (k:=[x.first,x.last]) (jD hp (by refine af e ?_;exact .cons dq (.one dq)))
 cases ha;exact k
theorem HA (hx:mM cx s.heap x b) (hy:mM cx s.heap y c) (hn:x.first≠y.first) (hu:A.units+10<mH) (h:Q (.bool (decide (x.first<y.first))) s):
  aE (ay cx.prog cx.w) A (u9 .Lt (.ref b) (.ref c)) Q E s:=by
 obtain ⟨bs,p,ps,t,u,h1,h2,h3,h4⟩:=hx
 obtain ⟨cs,q,qs,t',u',g1,g2,g3,g4⟩:=hy
 have e1:A.in1.units<=A.units+2:=by show A.units+_<=_;lia
 refine wI (p:=.ref p) (q:=.ref q) (r:=decide (x.first<y.first)) h1 g1 (by refine af h2 ?_;rfl) (by refine af g2 ?_;rfl) (by lia) (λ Q' E' hq=>?_) (λ Q' E' hq=>?_) h
 ·refine wpAny_eqBool_tuple (by lia) (wE h3 h4) (wE g3 g4) ?_
  exact af (decide_eq_false (λ z=>hn (by injection z))) hq
 ·refine wI (p:=.int x.first t) (q:=.int y.first t') (r:=decide (x.first<y.first)) h3 g3 (by refine af h4 ?_;rfl) (by refine af g4 ?_;rfl) (by lia) (λ Q' E' hq=>tq hn hq) (λ Q' E' hq=>qE hq) hq
end
section
variable {cx:Cx}
theorem mM.keep (k:bP h h'):mM cx h x b->mM cx h' x b:=λ ⟨bs,p,ps,t,u,h1,h2,h3,h4⟩=>⟨bs,p,ps,t,u,IsTup.keepI k h1,h2,IsTup.keepI k h3,h4⟩
theorem m7:∀{ls:List dX} {vs:List av},VRels cx h (ls.map dX.v) vs->∃fs:List aI,fs.length=ls.length/\∀(i:Nat) (x:dX),ls[i]?=some x->∃(b a:aI) (xs:Array av) (rest:List av),fs[i]?=some b/\vs[i]?=some (aR a)/\ja h a xs/\xs.toList=aR b::rest/\VRel cx h x.box (.ref b)
 |[],vs,r=>⟨[],rfl,λ i x e=>by simp at e⟩
 |l::ls,vs,r=>by
  rw [bj] at r
  refine cu r.cons_inv λ v vs' r1_ r1 r2=>?_
  subst r1_
  refine aL (m7 r2) λ fs h1 h2=>(cu (fz r1) λ a xs r1_ ht rx=>?_)
  subst r1_
  refine cu rx.cons_inv λ bv rest hx rb Z=>(fZ (fz (us:=[.tuple [.int l.first,.int l.last]]) rb) λ b bs r1_ Z=>?_)
  subst r1_
  refine ⟨b::fs,by (exact af aP (af aP (af h1 rfl))),λ i x e=>?_⟩
  cases i with
  |zero=>
   simp at e;subst e
   exact ⟨b,a,xs,rest,rfl,rfl,ht,hx,rb⟩
  |succ i=>
   refine iF (h2 i x (by simpa using e)) λ b' a' xs' t1_=>(cI t1_ λ rest' g1 g2 g3=>?_)
   exact ⟨b',a',xs',rest',by simpa using g1,by simpa using g2,g3⟩
theorem ur {f:Nat->av}:∀{vs:List av} (k:Nat),(∀(i:Nat) (v:av),vs[i]?=some v->∃(a:aI) (xs:Array av) (rest:List av),v=aR a/\ja h a xs/\xs.toList=f (k+i)::rest)->KatTups h vs ((bF vs.length).map λ i=>f (k+i))
 |[],k,_=>KatTups.nil
 |v::vs,k,hh=>by
  refine iZ (hh 0 v rfl) λ a xs rest r1_ w2_ hx=>?_
  subst r1_
  refine cI w2_ λ o ho hc t1_=>(bu t1_ λ n hd=>?_)
  refine af aP (af List.range_succ_eq_map (af bj (af cD ?_)))
  refine KatTups.cons ho hc hd (by (refine af (iP (cU)) (af hx ?_));rfl) ?_
  have:=ur (h:=h) (f:=f) (vs:=vs) (k+1) λ i w e=>by
   exact iZ (hh (i+1) w (by simpa using e)) λ a xs rest e1 e2 e3=>⟨a,xs,rest,e1,e2,by refine af e3 ?_;congr 2;lia⟩
  have e:((λ i=>f (k+i))∘nF)=λ i=>f (k+1+i):=by
   funext i;show f (k+(i+1))=_;congr 1;lia
  exact af e this
end
section
variable {E:av->ax->Prop}
theorem tL (hx:mM cx h x b):∃as,Reads h (.ref b) (.tuple [.tuple [.int x.first,.int x.last]]) as:=by
 obtain ⟨bs,p,ps,t,u,⟨o,h1,h1c,n,h1d⟩,h2,⟨o2,h3,h3c,n2,h3d⟩,h4⟩:=hx
 have e1:bs=[aR p].toArray:=by (exact af h2.symm rfl)
 have e2:ps=[lE x.first t,.int x.last u].toArray:=by (exact af h4.symm rfl)
 subst e1 e2
 exact ⟨_,.tuple h1 h1c h1d (.cons (.tuple h3 h3c h3d (.cons (.int _ _) (.cons (.int _ _) .nil))) .nil)⟩
theorem EC (hx:mM cx s.heap x b) (hy:mM cx s.heap y c) (hn:x.first≠y.first) (hu:A.units+10<mH) (h:Q false s):
  aE (ay cx.prog cx.w) A (eqBool (.ref b) (.ref c)) Q E s:=by
 refine bu (tL hx) λ as ra=>(bu (tL hy) λ bs rb=>(PySem.SeqAt.eqBoolOverData _ _ _ _ _ _ _ _ _ _ _ _ ra rb (by simp [aT,fK]) (by simp [aT,fK]) ?_ ?_))
 ·have:min (eL (.tuple [.tuple [.int x.first,.int x.last]])) (eL (.tuple [.tuple [.int y.first,.int y.last]]))<=5:=by
   simp [eL,jj]
  lia
 ·have:zb (.tuple [.tuple [.int x.first,.int x.last]]) (.tuple [.tuple [.int y.first,.int y.last]])=false:=by
   simp [zb,PyData.eqvAll,hn]
  exact af this h
theorem zp {ls:List dX} {Q:tf->ax->Prop} (r:VRels cx s0 (ls.map dX.v) vs) (k:bP s0 s.heap) (h2:2<=ls.length) (q:Q (IF (cO "tuple" !=cO "tuple")) s):aE (ay cx.prog cx.w) A (Fq vs.toArray) Q E s:=by
 have r:=VRels.mono k _ r
 refine aL (m7 r) λ fs h1 h=>?_
 have hl:vs.length=ls.length:=by (exact af r.len (af (ag _) rfl))
 have hb:∀i,i<ls.length->∃x,ls[i]?=some x:=λ i hi=>⟨_,an hi⟩
 refine kat_kind (fs:=(bF vs.length).map λ i=>aR (fs.getD (0+i) 0)) (ur (f:=λ i=>aR (fs.getD i 0)) 0 λ i v e=>?_) (by (refine af (ag _) (af bO ?_));lia) (λ v hv=>?_) (by decide) q
 ·have hi:i<ls.length:=by refine af hl.symm ?_;exact (aN.mp e).1
  refine bu (hb i hi) λ x hx=>(AJ (h i x hx) λ b a xs rest g1 g2 g3 t1_=>(bw t1_ λ g4 Z=>?_))
  rw [e] at g2;(have g2:=ac g2;subst g2)
  refine ⟨a,xs,rest,rfl,g3,?_⟩
  refine af g4 ?_
  have:fs.getD (0+i) 0=b:=by (refine af (ym _) (af (aJ) (af g1 ?_)));rfl
  exact af this rfl
 ·refine aL (bC.mp hv) λ i hi r1_=>?_
  subst r1_
  have hi:=ca.mp hi
  refine bu (hb i (by lia)) λ x hx=>(AJ (h i x hx) λ b a xs rest g1 g2 g3 t1_=>(bw t1_ λ g4 g5=>?_))
  have:fs.getD (0+i) 0=b:=by (refine af (ym _) (af (aJ) (af g1 ?_)));rfl
  refine af this ?_
  refine aL (xM g5) λ b' e w1_=>?_
  obtain ⟨bs,p,ps,t,u,⟨o,ho,hc,_⟩,_⟩:=w1_
  cases e
  refine af hc.symm ?_
  exact (pB ho).andThen .now
end
namespace lV
def S_ (cx s A ls vs i j C):=∀{s0:cM} (r:VRels cx s0 (ls.map dX.v) vs) (k:bP s0 s.heap) (nd:(ls.map dX.first).Nodup) (hu:A.units+20<mH) (hi:i<ls.length) (hj:j<ls.length) (hij:i≠j) (q:C (decide (fAt ls dX.first i<fAt ls dX.first j)) s),xb cx.prog cx.w A (IF (cO "tuple" !=cO "tuple")) vs i j C s
def U_:=UV λ cx s A=>UV λ ls vs i=>UU λ j=>S_ cx s A ls vs i j
def t_:=dr (by have:=qf;have:=p5;have:=ti;infer_instance) U_
def cx:=t_.1
def s:=t_.2.1
def A:=t_.2.2.1
def ls:=t_.2.2.2.1
def vs:=t_.2.2.2.2.1
def i:=t_.2.2.2.2.2.1
def s1_:=t_.2.2.2.2.2.2
def j:=s1_.1
def C:=s1_.2
theorem P_:S_ cx s A ls vs i j C:=by
 intro s0 r k nd hu hi hj hij q
 have r:=VRels.mono k _ r
 refine aL (m7 r) λ fs h1 h=>(AJ (h i _ (an hi)) λ b a xs rest g1 g2 g3 t1_=>?_)
 refine bw t1_ λ g4 g5=>?_
 refine AJ (h j _ (an hj)) λ c d ys rest2 k1 k2 k3 t1_=>?_
 refine bw t1_ λ k4 k5=>?_
 have fi:fAt ls dX.first i=(ls[i]).first:=by unfold fAt;(refine af (aJ) (af (aF) (af (an hi) ?_)));rfl
 have fj:fAt ls dX.first j=(ls[j]).first:=by unfold fAt;(refine af (aJ) (af (aF) (af (an hj) ?_)));rfl
 rw [fi,fj] at q
 have hn:(ls[i]).first≠(ls[j]).first:=by
  have P:=uW.mp nd
  rcases DS hij with h|h
  ·have:=P i j (by exact af (ag _) hi) (by exact af (ag _) hj) h
   simpa using this
  ·have:=P j i (by exact af (ag _) hj) (by exact af (ag _) hi) h
   exact λ e=>this (by simpa using e.symm)
 refine aL (xM g5) λ b' e1 hb=>?_
 cases e1
 refine aL (xM k5) λ c' e2 hc=>?_
 cases e2
 unfold xb
 have ei:vs.getD i bQ=.ref a:=by (refine af (aJ) (af g2 ?_));rfl
 have ej:vs.getD j bQ=.ref d:=by (refine af (aJ) (af k2 ?_));rfl
 refine af ei (af ej ?_)
 refine cI g3 λ o ho hoc t1_=>(bu t1_ λ n hod=>?_)
 refine cI k3 λ o2 ho2 hoc2 t1_=>(bu t1_ λ n2 hod2=>?_)
 refine kat_lt ho hod ho2 hod2 ?_
 refine af g4 (af k4 (af cL ?_))
 refine kat_cons (EC hb hc hn (by lia) (kat_no ?_))
 exact kat_one _ _ (HA hb hc hn (by lia) q)
theorem A_:∀p,U_ p:=bB P_
end lV
section
variable {cx:Cx}
theorem lV {cx s A ls vs i j C}:lV.S_ cx s A ls vs i j C:=lV.A_ (cx,s,A,ls,vs,i,j,C)
end
section
variable {cx:Cx}
noncomputable def key1 (k:Int):V:=.tuple [.int k]
theorem qj {ks:List Int} (r:VRels cx h (ks.map key1) vs) {i:Nat} (e:ks[i]?=some k):∃(a:aI) (xs:Array av) (t:Tok),vs[i]?=some (aR a)/\ja h a xs/\xs.toList=[lE k t]:=by
 obtain ⟨v,hv,rv⟩:=r.get (i:=i) (u:=key1 k) (by (refine af (aF) (af e ?_));rfl)
 refine cu (fz rv) λ a xs r1_ ht rx=>?_
 subst r1_
 refine aL (gV rx) λ w hw rw_=>(bu (cj rw_) λ t r1_=>?_)
 subst r1_
 exact ⟨a,xs,t,hv,ht,hw⟩
end
namespace kB
def S_ (cx:Cx) (s:ax) (ks:List Int) (vs):=∀{A:dy} {E:av->ax->Prop} {Q:tf->ax->Prop} {s0:cM} (r:VRels cx s0 (ks.map key1) vs) (k:bP s0 s.heap) (h2:2<=ks.length) (q:Q (IF (cO "int" !=cO "tuple")) s),aE (ay cx.prog cx.w) A (Fq vs.toArray) Q E s
def U_:=UV λ cx s ks=>S_ cx s ks
def t_:=dr (by have:=p5;have:=ti;infer_instance) U_
def cx:=t_.1
def s:=t_.2.1
def ks:=t_.2.2.1
def vs:=t_.2.2.2
theorem P_:S_ cx s ks vs:=by
 intro A E Q s0 r k h2 q
 have r:=VRels.mono k _ r
 have hl:vs.length=ks.length:=by (exact af r.len (af (ag _) rfl))
 obtain ⟨tk,htk⟩:∃tk:Nat->Tok,∀i (hi:i<ks.length),∃(a:aI) (xs:Array av),vs[i]?=some (aR a)/\ja s.heap a xs/\xs.toList=[lE (ks.getD i 0) (tk i)]:=by
  refine ⟨λ i=>if hi:i<ks.length then (qj r (an hi)).choose_spec.choose_spec.choose else 0,λ i hi=>?_⟩
  have:=(qj r (an hi)).choose_spec.choose_spec.choose_spec
  refine ⟨_,_,this.1,this.2.1,?_⟩
  dsimp only
  refine af (dif_pos hi) ?_
  have e:ks.getD i 0=ks[i]:=by (refine af (aJ) (af (an hi) ?_));rfl
  exact af e this.2.2
 refine kat_kind (fs:=(bF vs.length).map λ i=>lE (ks.getD (0+i) 0) (tk (0+i))) (ur (f:=λ i=>lE (ks.getD i 0) (tk i)) 0 λ i v e=>?_) (by (refine af (ag _) (af bO ?_));lia) (λ v hv=>?_) (by decide) q
 ·have hi:i<ks.length:=by refine af hl.symm ?_;exact (aN.mp e).1
  refine cu (htk i hi) λ a xs g2 g3 g4=>?_
  rw [e] at g2;(have g2:=ac g2;subst g2)
  exact ⟨a,xs,[],rfl,g3,by (exact af g4 (af (ym _) rfl))⟩
 ·refine aL (bC.mp hv) λ i hi r1_=>?_
  subst r1_
  exact .now
theorem A_:∀p,U_ p:=bB P_
end kB
section
variable {E:av->ax->Prop}
theorem kB {cx s ks vs}:kB.S_ cx s ks vs:=kB.A_ (cx,s,ks,vs)
theorem Cu (r:VRels cx s0 (ks.map key1) vs) (k:bP s0 s.heap) (nd:(ks.map λ k=>k).Nodup) (hi:i<ks.length) (hj:j<ks.length) (hij:i≠j) (q:C (decide (fAt ks (λ k=>k) i<fAt ks (λ k=>k) j)) s):
  xb cx.prog cx.w A (IF (cO "int" !=cO "tuple")) vs i j C s:=by
 have r:=VRels.mono k _ r
 refine iZ (qj r (an hi)) λ a xs t g2 g3 g4=>?_
 refine iZ (qj r (an hj)) λ d ys u k2 k3 k4=>?_
 have fi:fAt ks (λ k=>k) i=ks[i]:=by unfold fAt;(refine af (aJ) (af (aF) (af (an hi) ?_)));rfl
 have fj:fAt ks (λ k=>k) j=ks[j]:=by unfold fAt;(refine af (aJ) (af (aF) (af (an hj) ?_)));rfl
 rw [fi,fj] at q
 have hn:ks[i]≠ks[j]:=by
  have P:=uW.mp nd
  rcases DS hij with h|h
  ·have:=P i j (by exact af (ag _) hi) (by exact af (ag _) hj) h
   simpa using this
  ·have:=P j i (by exact af (ag _) hj) (by exact af (ag _) hi) h
   exact λ e=>this (by simpa using e.symm)
 unfold xb
 have ei:vs.getD i bQ=.ref a:=by (refine af (aJ) (af g2 ?_));rfl
 have ej:vs.getD j bQ=.ref d:=by (refine af (aJ) (af k2 ?_));rfl
 refine af ei (af ej ?_)
 refine cI g3 λ o ho hoc t1_=>(bu t1_ λ n hod=>?_)
 refine cI k3 λ o2 ho2 hoc2 t1_=>(bu t1_ λ n2 hod2=>?_)
 refine kat_lt ho hod ho2 hod2 ?_
 refine af g4 (af k4 (af cL ?_))
 exact kat_cons (tq hn (kat_no (oneLt_int q)))
theorem rq {α:Type} {L0:List α} {f:α->Int} {g:α->V} {κ:tf} (lk:uK cx H s.heap L) (I:cb cx H s.heap) (n:s.heap.Ns L m) (hu:A.units+100<mH)
  (F:Fr cx.base L h1 m) (N:DE cx.base L h1 ((D,listOf vs.toArray 0)::allNews cx.base s.heap L)) (hlt:∀q∈allNews cx.base s.heap L,q.1<D) (hbD:cx.base.objs.size<=D)
  (rs:VRels cx s.heap (L0.map g) vs) (h3:L0.length<=3) (nd:(L0.map f).Nodup)
  (hk:2<=L0.length->∀(B:dy) (s':ax) (Q:tf->ax->Prop) (E:av->ax->Prop),bP s.heap s'.heap->Q κ s'->aE (ay cx.prog cx.w) B (Fq vs.toArray) Q E s')
  (hc:∀(B:dy) (s':ax),B.units+20<mH->bP s.heap s'.heap->∀i j,i<L0.length->j<L0.length->i≠j->∀C:Bool->ax->Prop,C (decide (fAt L0 f i<fAt L0 f j)) s'->xb cx.prog cx.w B κ vs i j C s')
  (q:∀c,H c=none->Q (.ref c) (H.set c (.list ((isort f L0).map g)))):
  aE (ay cx.prog cx.w) A (call (.builtin "list.sort") [.ref D]) (λ Z s'=>bN cx H s Q (.ref D) s') E {s with heap:=h1,toks:=tk}:=by
 have e1:A.in1.units<=A.units+2:=by show A.units+_<=_;lia
 exact CI (c0:=0) lk I n F N hlt hbD rs h3 nd (λ h2 s' Q E k z=>hk h2 _ s' Q E k z) (λ s' k=>hc _ s' (by lia) k) q
end
section
variable {cx:Cx}
theorem Cy (hk:lu (f8 cx.prog cx.w) h [k] a):VRel cx h (key1 k) (.ref a):=by
 refine kf hk λ o aB n ho hc hd hi=>?_
 clear hk
 have:∃t,aB.toList=[lE k t]:=by
  generalize aB.toList=l at hi
  cases hi with
  |cons h1 h2=>
   cases h2
   refine bu (Value.isInt_shape h1) λ t r1_=>?_
   subst r1_
   exact ⟨t,rfl⟩
 refine bu this λ t e=>?_
 clear this
 exact jD ⟨o,ho,hc,n,hd⟩ (by refine af e ?_;exact .one dq)
theorem tt:∀{es:List (Int×V)} {xs:List (List Int×aI×av)},TRel cx h (es.map λ p=>([p.1],p.2)) xs->VRels cx h ((es.map (·.1)).map key1) (xs.map λ x=>aR x.2.1)
 |[],xs,r=>by
  have r:TRel cx h [] xs:=r
  subst r;exact .nil
 |(k,u)::es,xs,r=>by
  have r:TRel cx h (([k],u)::es.map λ p=>([p.1],p.2)) xs:=r
  refine kf r λ a v xs' r1_ hk hv hr=>?_
  clear r
  subst r1_
  exact .cons (Cy hk) (tt hr)
theorem Ay (hsys:fo<cx.base.objs.size) (ha:cx.addr (.bi "sorted")=.builtin "sorted"):CallOk cx tb0 (.bi "sorted"):=by
 intro A H s us vs Q X am st lk I r q
 refine af ha ?_
 replace q:qy us H Q X:=q
 revert r
 refine rM (λ a q=>?_) q
 ·intro r
  refine aL (gV r) λ v r1_ rv=>?_
  subst r1_
  have:=df rv;subst this
  refine bu lk λ L lk_=>?_
  clear lk
  revert lk_;intro lk
  refine bu lk.ns λ m n=>?_
  have F:=wc I lk n
  have N:DE cx.base L s.heap (allNews cx.base s.heap L):=lb
  have hu:=am.units
  have e1:A.in1.units<=A.units+2:=by show A.units+_<=_;lia
  rcases q with ⟨ls,e,nd,h3,q⟩|⟨es,e,nd,h3,q⟩
  ·refine fZ (I.own _ _ e) λ aB nn ho rs=>?_
   have hz:aB.toList.length=ls.length:=by (exact af rs.len (af (ag _) rfl))
   refine Calls.call_function_entry kind_sorted plain_sorted entry_sorted (args_sorted1 _) ?_
   unfold jb.«sorted»
   refine ae (m:=checkCount "sorted" 1 1 _) (ah ?_)
   refine ae (collect_list (vs:=aB.toList) ⟨_,ho,rfl,nn,rfl⟩ ?_ (by (refine af hz (af d7 ?_));exact ao ‹_› (by decide)))
   have hk:∀b o,s.heap.get? b=some o->((s.heap.push (ig "list" #[] 0)).update s.heap.objs.size (eZ (·++aB.toList.toArray))).get? b=some o:=λ b o q=>by
    have hlt:b<s.heap.objs.size:=bx q
    refine af (Heap.get?_update_ne _ _ _ _ (dM hlt)) ?_
    exact ak _ q
   generalize (s.heap.push (ig "list" #[] 0)).update s.heap.objs.size (eZ (·++aB.toList.toArray))=h' at*
   refine ae (wpAny_newList ?_ (by rw [hz,d7];exact ao ‹_› (by decide)))
   have hLh:L<h'.objs.size:=(n.keeps hk).lt
   have key:=λ (E:av->ax->Prop)=>rq (s:=s) (A:=A.in1) (E:=E) (D:=h'.objs.size) (L0:=ls) (f:=dX.first) (g:=dX.v) (tk:=s.toks) lk I n (by lia) ((F.keeps hk).push _) (News.push (F.keeps hk) (λ p hp=>⟨hk _ _ (N p hp).1,(N p hp).2⟩) _ rfl)
    (λ q hq=>bx (hk _ _ (N q hq).1)) (ao lk.above (fB hLh)) rs h3 nd (λ h2 B s' Q E k z=>zp rs k h2 z) (λ B s' hb k i j hi hj hij C z=>lV rs k nd hb hi hj hij z) q
   refine ae (bz (aq (key _) (λ Z s' x=>?_) λ Z Z e=>e))
   exact ah ⟨_,rfl,x⟩
  ·obtain ⟨xs,hm,tr⟩:∃xs,s.heap.DictOfH (qa (f8 cx.prog cx.w)) a xs/\TRel cx s.heap (es.map λ p=>([p.1],p.2)) xs:=by
    rcases e with ⟨e,rfl⟩|e
    ·exact bu (I.own _ _ e) λ n e'=>⟨[],⟨_,#[],n,e',⟨rfl,rfl,rfl⟩,rfl,rfl,λ Z hx=>by simp at hx,ir⟩,by rfl⟩
    ·exact I.own _ _ e
   have hlo:(a==fo)=false:=by
    rcases e with ⟨e,_⟩|e<;>exact lT hsys I e
   refine uf hm λ o ents ep ho hx hd hents t1_=>(bw t1_ λ Z Z=>?_)
   clear hm t1_
   have hle:ents.size=es.length:=by
    have e1:=congrArg kW hents
    have e2:=qD tr
    simp at e1 e2
    lia
   refine kdu_sorted (ER (es:=ents) (ep:=ep) hlo) am.handled F N ⟨o,ho,hx,hd⟩ (by (refine af hle (af d7 ?_));exact ao ‹_› (by decide)) λ D h' tk vs F' N' hlt hlen hP=>?_
   have hvs:vs=xs.map λ x=>aR x.2.1:=by
    refine DN λ j=>?_
    have e3:ents[j]?=(xs[j]?).map (entryOfKey (qa (f8 cx.prog cx.w))):=by rw [<-cU,hents,aF]
    cases hj:vs[j]? with
    |none=>
     have:vs.length<=j:=List.getElem?_eq_none_iff.mp hj
     have:ents[j]?=none:=wX (by lia)
     rw [this] at e3
     rw [aF]
     cases hx:xs[j]? with
     |none=>rfl
     |some x=>rw [hx] at e3;cases e3
    |some v=>
     refine aL (hP j v hj) λ en h1 r1_=>?_
     subst r1_
     rw [h1] at e3
     rw [aF]
     cases hx:xs[j]? with
     |none=>rw [hx] at e3;cases e3
     |some x=>rw [hx] at e3;cases e3;rfl
   have rs:VRels cx s.heap ((es.map (·.1)).map key1) vs:=by refine af hvs ?_;exact tt tr
   have haD:a<D:=hlt (a,o) (fN.mpr ⟨ho,λ z=>?_,?_⟩)
   ·have nd':((es.map (·.1)).map λ k=>k).Nodup:=by exact af (ID _) nd
    have hb:cx.base.objs.size<=D:=ao (I.old a (by rcases e with ⟨e,_⟩|e<;>exact fq e)) (fB haD)
    exact rq (s:=s) (A:=A.in1) (D:=D) (L0:=es.map λ p:Int×V=>p.1) (f:=λ k:Int=>k) (g:=key1) (tk:=tk) lk I n (by lia) F' N' hlt hb rs (by exact af (ag _) h3) nd'
     (λ h2 B s' Q E k z=>kB rs k h2 z) (λ B s' hb k i j hi hj hij C z=>Cu rs k nd' hi hj hij z) q
   ·subst z
    rcases e with ⟨e,_⟩|e<;>exact fq e lk.free
   ·cases z:cx.base.get? a with
    |none=>rfl
    |some o2=>
     have:=I.old a (by rcases e with ⟨e,_⟩|e<;>exact fq e)
     exact absurd (bx z) (du.mpr this)
end
theorem Kk (h:one0 l=true):∃v,l=[v]/\int0 v=true:=by
 cases l with
 |nil=>exact bS h
 |cons v r=>exact ⟨v,congrArg (v::·) (yF (ar h)),al h⟩
theorem GY (X:cx.K.In cx.base) (ha:cx.addr f=.ref a) (h:fnChk1 gl cx.K a [x,y,z,u] nm t body=true) (hb:stOf cx.K a=some (emSs nm body t)) (hd:dflt0 cx.K a=true):z4 cx gl f [x,y,z,u] nm [.int 0] body:=by
 refine aL (tQ hd) λ fd e h1=>(aL (tQ h1) λ xs e1 h2=>(aL (Kk h2) λ v e2 h3=>(bu (HN h3) λ tk r1_=>?_)))
 subst r1_
 refine iZ (ED e1) λ T o n e3 e4 e5=>(FT X ha h hb (.one (dq (t:=tk))) λ fd' e' p vs s k hl=>?_)
 (have e_:=ac (e.symm.trans e');subst e_)
 exact aL (vy (ds:=[.int 0 tk]) p hl) λ k' k1 k2=>(BindsTo.of_defaults e3 (k _ _ (X _ _ e4)) e5 k1 (k2 (some xs) e2))
structure qW (w:f7) (base:cM) (K:gk):Prop where
 X:K.In base
 chk:chk0 K=true
 txt:txt0 K=exp0
 sys:fo<base.objs.size
 mg:∃mg mb,base.Ns di mg/\base.Ns lC mb/\∀x:aw,x≠"__name__"->mb x=sV x
 nolimit:base.NoLimit
noncomputable abbrev cx0 (p:cQ) (w:f7) (base:cM) (K:gk):Cx:=⟨p,w,base,K,addr0,fld0⟩
section
variable {p:cQ}
theorem Eg:∀q∈flds,addr0 (.cls q.1)=.ref (cA q.1):=ai rfl<|ai rfl<|ai rfl<|ai rfl<|ai rfl<|λ Z h=>by cases h
theorem yS:∀q∈mths,addr0 (.cls q.1)=.ref (cA q.1)/\addr0 (.user q.2.2)=.ref (uA q.2.2):=ai ⟨rfl,rfl⟩<|ai ⟨rfl,rfl⟩<|ai ⟨rfl,rfl⟩<|ai ⟨rfl,rfl⟩<|ai ⟨rfl,rfl⟩<|λ Z h=>by cases h
theorem wh:∀q∈inits,addr0 (.cls q.1)=.ref (cA q.1)/\addr0 (.user q.2)=.ref (uA q.2):=ai ⟨rfl,rfl⟩<|ai ⟨rfl,rfl⟩<|ai ⟨rfl,rfl⟩<|ai ⟨rfl,rfl⟩<|ai ⟨rfl,rfl⟩<|λ Z h=>by cases h
theorem y0 (h:(o.map aR).getD .none=.ref a):o=some a:=by
 cases o with
 |none=>cases h
 |some b=>cases h;rfl
theorem wr (o:Option aI):sQ ((o.map aR).getD .none)=true:=by cases o<;>rfl
end
namespace qI
def S_ (K n):=∀(h:fldChk K=true) {c:Fn} (hn:fld0 c n=true),∃C,addr0 c=.ref C/\plainGet K C n=true/\uP K C=true/\cR K (.ref C) n=some none/\cR K (.ref C) "__setattr__"=some (some (.builtin "object.__setattr__"))/\plainOver K C=true
def U_:=UU λ K=>S_ K
def t_:=dr (by infer_instance) U_
def K:=t_.1
def n:=t_.2
theorem P_:S_ K n:=by
 intro h c hn
 cases c with
 |cls k=>
  have hm:n∈fldOf k:=by unfold fld0 at hn;simpa using hn
  unfold fldOf at hm
  cases e:flds.lookup k with
  |none=>rw [e] at hm;cases hm
  |some l=>
   rw [e] at hm
   have hl:=Mine.lookup_mem e
   have:=bl.mp h _ hl
   simp only [bG,beq_iff_eq,bl] at this
   refine nX this λ g1 g2 g3 g4=>?_
   exact ⟨cA k,Eg _ hl,(g4 n hm).1,g1,(g4 n hm).2,g2,g3⟩
 |_=>cases hn
theorem A_:∀p,U_ p:=bB P_
end qI
section
variable {K:gk}
theorem qI {K n}:qI.S_ K n:=qI.A_ (K,n)
theorem He (h:mthChk K C n f=true):cR K (.ref C) "__getattribute__"=some (some (.builtin "object.__getattribute__"))/\cR K (.ref C) "__getattr__"=some none/\cR K (.ref C) n=some (some (.ref f))/\pt K (.ref f)=some (.type "function"):=by
 unfold mthChk at h
 simpa only [bG,beq_iff_eq] using h
theorem HB (h:iniChk K C f=true):makesIn K C=true/\cR K (.ref C) "__init__"=some (some (.ref f))/\pt K (.ref f)=some (.type "function"):=by
 unfold iniChk at h
 simpa only [bG,beq_iff_eq] using h
end
namespace kb
def S_ (p w base K):=∀(T:qW w base K),gT (cx0 p w base K) tb0 gl0
def U_:=UV λ p w base=>S_ p w base
def t_:=dr (by have:=vU;infer_instance) U_
def p:=t_.1
def w:=t_.2.1
def base:=t_.2.2.1
def K:=t_.2.2.2
theorem P_:S_ p w base K:=by
 intro T
 have h:=T.chk
 unfold chk0 at h
 simp only [bG] at h
 refine HL h λ Z hg hk hf ht Z=>?_
 unfold tabChk at ht
 simp only [bG] at ht
 refine bw ht λ hmt hit=>?_
 unfold keepChk at hk
 simp only [bG,bl] at hk
 refine {X:=T.X,sys:=T.sys,hand:=λ f=>?_,fld:=λ c n hn=>qI hf hn,mg:=T.mg,nolimit:=T.nolimit,glob:=λ x f hx=>?_,keep:=λ f=>?_,tfld:=λ Z Z=>rfl,meth:=λ c n f hm=>?_,bi:=λ id hid=>?_,init:=λ c f hi=>?_}
 ·show sQ (addr0 f)=true
  cases f with
  |user n=>exact wr _
  |cls n=>exact wr _
  |ty n=>rfl
  |bi id=>
   show sQ (if biA.contains id then gE id else bQ)=true
   split
   ·rename_i e
    have e:id∈biA:=by simpa using e
    unfold biA at e
    simp only [aY,f9,or_false] at e
    rcases e with rfl|rfl|rfl|rfl|rfl|rfl|rfl|rfl|rfl|rfl<;>decide+kernel
   ·rfl
 ·have:=bl.mp hg _ (Mine.lookup_mem hx)
  simpa only [jt,bG,beq_iff_eq,bne_iff_ne,ne_eq] using this
 ·show uR K (addr0 f)=true\/_
  cases f with
  |user n=>
   cases e:userA.lookup n with
   |none=>exact .inr λ a z=>by have z:=y0 z;rw [e] at z;cases z
   |some a=>refine .inl ?_;show uR K (((userA.lookup n).map aR).getD .none)=true;refine af e ?_;exact hk.1 _ (Mine.lookup_mem e)
  |cls n=>
   cases e:clsA.lookup n with
   |none=>exact .inr λ a z=>by have z:=y0 z;rw [e] at z;cases z
   |some a=>refine .inl ?_;show uR K (((clsA.lookup n).map aR).getD .none)=true;refine af e ?_;exact hk.2 _ (Mine.lookup_mem e)
  |ty n=>exact .inr λ a z=>by cases z
  |bi id=>
   refine .inr λ a z=>?_
   have z:(if biA.contains id then gE id else .none)=.ref a:=z
   split at z<;>cases z
 ·cases c with
  |cls k=>
   refine aL (aH.1 hm) λ m e z=>?_
   have hb:=List.find?_some e
   have hmem:=List.mem_of_find?_eq_some e
   rw [bG] at hb
   have e1:=eq_of_beq hb.1
   have e2:=eq_of_beq hb.2
   subst e1 e2 z
   exact ⟨_,_,(yS _ hmem).1,(yS _ hmem).2,He (bl.1 hmt _ hmem)⟩
  |_=>cases hm
 ·simp only [aY,f9,or_false] at hid
  rcases hid with rfl|rfl|rfl|rfl<;>rfl
 ·cases c with
  |cls k=>
   refine aL (aH.1 hi) λ m e z=>?_
   subst z
   have hmem:=Mine.lookup_mem e
   exact ⟨_,_,(wh _ hmem).1,(wh _ hmem).2,HB (bl.1 hit _ hmem)⟩
  |_=>cases hi
theorem A_:∀p,U_ p:=bB P_
end kb
section
variable {p:cQ}
theorem kb {p w base K}:kb.S_ p w base K:=kb.A_ (p,w,base,K)
end
namespace o6
def S_ (p w base K):=∀(T:qW w base K),um (cx0 p w base K) gl0 65 [52]
def U_:=UV λ p w base=>S_ p w base
def t_:=dr (by have:=vU;infer_instance) U_
def p:=t_.1
def w:=t_.2.1
def base:=t_.2.2.1
def K:=t_.2.2.2
theorem P_:S_ p w base K:=by
 intro T
 have h:=ar (ar (ar (ar (ar T.chk))))
 have h1:=ar h
 have h2:=ar (ar (ar h1))
 have h3:=ar (ar (ar h2))
 have h4:=ar (ar (ar h3))
 refine ⟨rfl,⟨?_,by decide,by decide,by decide,by decide⟩,eq_of_beq (al h1),eq_of_beq (al (ar h1)),⟨49,rfl,eq_of_beq (al (ar (ar h1))),eq_of_beq (al h2)⟩,eq_of_beq (al (ar h2)),eq_of_beq (al (ar (ar h2))),eq_of_beq (al h3),eq_of_beq (al (ar h3)),eq_of_beq (al (ar (ar h3))),al h4,rfl,FZ T.X rfl (al (ar h4)) (congrArg (·.2.1) T.txt) (ar (ar h4))⟩
 refine aL (tQ (al h)) λ w1_ e q=>?_
 obtain ⟨o,cd⟩:=w1_
 refine bw (Hi e) λ e1 e2=>?_
 have q1:=eq_of_beq (al q)
 have q2:=eq_of_beq (al (ar q))
 have q3:=nt (al (ar (ar q)))
 have q4:=al (ar (ar (ar q)))
 have q5:=eq_of_beq (ar (ar (ar (ar q))))
 obtain ⟨c,dd,dt,sl⟩:=o
 obtain ⟨nm,bs,mro,ns,qn,hdd,sn,sub,ab,col,del⟩:=cd
 cases q1;cases q2;cases q3;cases q4;cases e2
 have z:K.lookup 65=some ⟨_,_,_,excSl sl⟩:=e1.trans (congrArg (λ s=>some (HW _ _ _ s)) q5)
 exact ⟨nm,qn,ns,bs,sn,sub,ab,col,dd,_,_,_,_,_,T.X _ _ z⟩
theorem A_:∀p,U_ p:=bB P_
end o6
section
variable {p:cQ}
theorem o6 {p w base K}:o6.S_ p w base K:=o6.A_ (p,w,base,K)
end
theorem t5 {c g:Fn} (h:init0 c=some g):∃k,g=.user k:=by
 cases c with
 |cls k=>obtain ⟨m,-,z⟩:=aH.1 h;exact ⟨m,z.symm⟩
 |_=>cases h
theorem NH:∀e∈ents,VC e.2.1 (lvl0 (.user e.1)) e.2.2.2.1 e.2.2.2.2.1 [] e.2.2.2.2.2/\addr0 (.user e.1)=.ref e.2.2.1:=
 ai ⟨N5,rfl⟩<|ai ⟨Mc,rfl⟩<|ai ⟨M8,rfl⟩<|ai ⟨Mh,rfl⟩<|ai ⟨Me,rfl⟩<|ai ⟨MD,rfl⟩<|ai ⟨M9,rfl⟩<|ai ⟨MK,rfl⟩<|ai ⟨Mf,rfl⟩<|ai ⟨MU,rfl⟩<|ai ⟨ND,rfl⟩<|ai ⟨Mr,rfl⟩<|ai ⟨Nj,rfl⟩<|ai ⟨LP,rfl⟩<|ai ⟨LW,rfl⟩<|ai ⟨L9,rfl⟩<|ai ⟨Mz,rfl⟩<|ai ⟨NC,rfl⟩<|ai ⟨NB,rfl⟩<|ai ⟨Ms,rfl⟩<|ai ⟨MA,rfl⟩<|ai ⟨Na,rfl⟩<|ai ⟨MG,rfl⟩<|ai ⟨L5,rfl⟩<|ai ⟨MJ,rfl⟩<|ai ⟨NF,rfl⟩<|ai ⟨Nh,rfl⟩<|ai ⟨Nr,rfl⟩<|ai ⟨Nf,rfl⟩<|ai ⟨MQ,rfl⟩<|ai ⟨Nc,rfl⟩<|ai ⟨Np,rfl⟩<|ai ⟨Mp,rfl⟩<|ai ⟨Nd,rfl⟩<|ai ⟨L4,rfl⟩<|ai ⟨L7,rfl⟩<|ai ⟨Mv,rfl⟩<|ai ⟨MN,rfl⟩<|ai ⟨MF,rfl⟩<|ai ⟨MY,rfl⟩<|ai ⟨L2,rfl⟩<|ai ⟨MC,rfl⟩<|ai ⟨Ni,rfl⟩<|ai ⟨LS,rfl⟩<|ai ⟨NG,rfl⟩<|ai ⟨Nw,rfl⟩<|ai ⟨MR,rfl⟩<|ai ⟨LL,rfl⟩<|ai ⟨Mm,rfl⟩<|ai ⟨Nn,rfl⟩<|ai ⟨MM,rfl⟩<|ai ⟨ME,rfl⟩<|λ Z h=>by cases h
section
variable {p:cQ} {w:f7} {base:cM} {K:gk}
theorem vX (T:qW w base K) {k:Nat} {sp:cB} (h:users0.lookup k=some sp):∃ps nm ds body,z4 (cx0 p w base K) gl0 (.user k) ps nm ds body/\VC sp (lvl0 (.user k)) ps nm ds body:=by
 have hc:=al T.chk
 have h:=lookup_mem (l:=(42,Ef)::ents.map λ e=>(e.1,e.2.1)) h
 rcases aY.1 h with e|h
 ·cases e;exact ⟨_,_,_,_,GY T.X rfl (al hc) (congrArg (·.1) T.txt) (al (ar hc)),LZ⟩
 ·refine aL (bC.1 h) λ e he z=>?_
  cases z
  have q:=bl.1 (ar (ar hc)) e he
  have z:ents.map (λ e=>stOf K e.2.2.1)=ents.map λ e=>some (emSs e.2.2.2.2.1 e.2.2.2.2.2 (tr0 e.1)):=congrArg (·.2.2) T.txt
  exact ⟨_,_,_,_,FZ T.X (NH e he).2 (al q) (List.map_inj_left.1 z e he) (ar q),(NH e he).1⟩
theorem Ds (T:qW w base K) {A:dy} {lv:Nat} {au:i4} (am:Bt A lv) (hfr:∃outer,A.frames=some (au::outer)):K9 (cx0 p w base K) tb0 gl0 A lv au:=
 ⟨λ ie hg hs=>l8 (kb T) (o6 T) am ie hg hs,λ ie hg hi hl hj hw hd hne hcp=>rI (kb T) (o6 T) hfr ie hg hi hl hj hw hd hne hcp⟩
theorem oh (T:qW w base K):∀(n:Nat) (f:Fn),lvl0 f<n->CallOk (cx0 p w base K) tb0 f/\((∃k,f=.user k)->CodeOk (cx0 p w base K) tb0 f)
 |0,_,h=>absurd h (GG _)
 |n+1,f,h=>by
  have no:spec0 f=gw->CallOk (cx0 p w base K) tb0 f/\((∃k,f=.user k)->CodeOk (cx0 p w base K) tb0 f):=λ e=>
   ⟨λ A H s us vs Q X Z Z Z Z Z q=>by have q:spec0 f us H Q X:=q;rw [e] at q;exact q.elim,λ Z A H s us vs Q X Z Z Z Z Z q=>by have q:spec0 f us H Q X:=q;rw [e] at q;exact q.elim⟩
  cases f with
  |user k=>
   cases e:users0.lookup k with
   |none=>exact no (by show (users0.lookup k).getD gw=gw;refine af e ?_;rfl)
   |some sp=>
    refine iF (vX (p:=p) T e) λ ps nm ds t1_=>(aL t1_ λ body hf vc=>?_)
    have hs:tb0.spec (.user k)=sp:=by show (users0.lookup k).getD gw=sp;refine af e ?_;rfl
    have c:CodeOk (cx0 p w base K) tb0 (.user k):=EZ (kb T) B8 (λ A au am hfr=>Ds T am hfr) hf (λ g hg=>(oh T n g (cG hg (la h))).1)
     (λ c g hi hg=>(oh T n g (cG hg (la h))).2 (by
      exact t5 hi)) (λ us H Q X q=>vc us H Q X (by rw [hs] at q;exact q))
    exact ⟨c.call,λ Z=>c⟩
  |cls k=>exact no rfl
  |bi id=>
   refine ⟨?_,λ ⟨k,z⟩=>by cases z⟩
   cases e:bis0.lookup id with
   |none=>exact (no (by show (bis0.lookup id).getD gw=gw;refine af e ?_;rfl)).1
   |some sp=>
    have hall:∀x∈bis0,CallOk (cx0 p w base K) tb0 (.bi x.1):=ai (HC rfl)<|ai (Ay T.sys rfl)<|ai (Ar rfl rfl)<|ai (Hk rfl)<|ai (HD rfl)<|ai (zv rfl)<|ai (Al rfl)<|ai (Hx T.sys rfl)<|ai (AA T.sys rfl)<|λ Z h=>by cases h
    exact hall _ (lookup_mem e)
  |ty id=>
   refine ⟨?_,λ ⟨k,z⟩=>by cases z⟩
   cases e:tys0.lookup id with
   |none=>exact (no (by show (tys0.lookup id).getD gw=gw;refine af e ?_;rfl)).1
   |some sp=>
    have hall:∀x∈tys0,CallOk (cx0 p w base K) tb0 (.ty x.1):=ai (Cb rfl)<|ai (CF rfl)<|ai (GX rfl)<|ai (B7 rfl)<|ai (Es rfl)<|λ Z h=>by cases h
    exact hall _ (lookup_mem e)
end
theorem Ej (w:f7) (os:iz):∃s₁,topRun fX pw0 w 11 (some (.ref 6)) (12+(1+(5400+2))) ⟨iS w.params,#[],HY,boot_toks,os⟩ (IA pw0)=some s₁/\
  ((BC (eg pw0.main.body) (iS w.params) s₁.heap&&yb pw0 s₁.heap&&Fk s₁&&Fl (iS w.params) s₁.heap),openSeen view0 loose0 (eg pw0.main.body) xt0 true s₁,(chk0 (eQ s₁.heap),txt0 (eQ s₁.heap)))=(true,openGood view0 loose0,(true,exp0)):=by
 obtain ⟨⟨f,sT,c,pos⟩,h1,h2⟩:=gM.mp (AX w os)
 obtain ⟨s₁,h3,h4⟩:=aH.mp h2
 have h5:=EO w os
 unfold sN at h5
 rw [h1,k9,h3,qt] at h5
 have h8:(chk0 (eQ s₁.heap),txt0 (eQ s₁.heap))=(true,exp0):=ac h5
 obtain ⟨ef,g4⟩:=wY h4
 obtain ⟨ec,g5⟩:=wY g4
 obtain ⟨h6,h7⟩:=wY g5
 have ef:f=.next:=ef
 have ec:c=c0:=ec
 subst ef ec
 have seg:=segRun_of h1
 have fe:topRun fX pw0 w 11 (some (.ref 6)) (5400+2) (st0 w os).abs (restOf (mJ pw0++[]) env0 c0 q0 [yc q0])=some s₁:=piece_app seg (piece_nil h3)
 rw [dZ] at fe
 exact ⟨s₁,go_top (GK w os) (piece_block (BE w os) fe),by rw [h8];exact GB h6 (GB h7 rfl)⟩
theorem KU:LeftO pw0 view0 loose0 xt0 (λ s=>(chk0 (eQ s.heap),txt0 (eQ s.heap))) (λ Z=>(true,exp0)) 10104:=
 D9 (boot_open Jp (by decide) Hr) Jb Ej (by decide)
noncomputable abbrev row0:OpenRow:=eU.row
noncomputable def dk0:DefRec×List (aw×Expr):=match defOf view0 (aa "law") with
 |some x=>x
 |none=>(⟨aa "",{posonlyargs:=[],args:=[],vararg:=none,kwonlyargs:=[],kw_defaults:=[],kwarg:=none,defaults:=[]},[],pw0.main.scope,q0⟩,[])
theorem KH:defOf view0 (aa "law")=some dk0:=by kernel_rfl
theorem Hu:pw0.theDef (aa "law")=some (dk0.1.params,dk0.1.body,dk0.1.scope):=by kernel_rfl
theorem Ku:kwWritten? dk0.1.params.kwonlyargs dk0.1.params.kw_defaults=some dk0.2:=by kernel_rfl
theorem Mj:dk0.1.params.args.map (·.arg)=[aa "script"]:=by kernel_rfl
theorem Jv:dk0.1.name=aa "law":=by kernel_rfl
section
variable {w:f7} {K:gk}
theorem CR {cx:Cx} {h:cM} {vs:List av} {ns:List Int} (hI:IntsAre vs ns):VRels cx h (ns.map .int) vs:=by
 induction hI with
 |nil=>exact .nil
 |cons n t _ ih=>exact .cons dq ih
theorem BY {s:ax} {l:aI} {vs:List av} {ns:List Int} (T:qW w s.heap K) (hl:s.heap.IsList l vs.toArray) (hI:IntsAre vs ns) (hn:ns.length<=1000) {Q E:av->ax->Prop}
  (k:∀s':ax,(∀b o,s.heap.get? b=some o->s'.heap.get? b=some o)->s'.os=s.os->s'.gens=s.gens->Q (.bool true) s'):aE (ay pw0 w) callerA (call (.ref 776) [.ref l]) Q E s:=by
 have G:=kb (p:=pw0) T
 have hlaw:users0.lookup 90=some zS:=rfl
 obtain ⟨ps,nm,ds,body,hf,vc⟩:=vX (p:=pw0) T hlaw
 have I:cb (cx0 pw0 w s.heap K) (λ Z=>none) s.heap:=⟨λ Z Z e=>e,λ a n=>absurd ⟨rfl,λ Z Z Z e=>by cases e⟩ n,λ Z Z e=>(nomatch e),λ Z Z Z Z e=>(nomatch e)⟩
 have q:zS [.flist (ns.map .int)] (λ Z=>none) (λ u Z=>u=.bool true) (λ Z Z=>False):=⟨ns,rfl,hn,rfl⟩
 obtain ⟨hlen,wp⟩:=vc _ _ _ _ q
 have r:VRels (cx0 pw0 w s.heap K) s.heap [.flist (ns.map .int)] [.ref l]:=.one (by unfold VRel;exact ⟨l,vs.toArray,rfl,hl,CR hI⟩)
 have st:iC (cx0 pw0 w s.heap K) callerA (λ Z=>none) s.heap:=⟨[],rfl,λ e h=>by cases h⟩
 refine iK (jE (cx:=cx0 pw0 w s.heap K) (l:=8) G hf ⟨rfl,by decide,by decide⟩ st (bW _) I r hlen λ au b s1 ⟨t,hb,hchk⟩ hfr F1 st1 I1 S1 M1 k1 ab am1=>?_)
 subst hb
 refine aq (xK ⟨G,λ g hg=>(oh T 8 g hg).1,λ c g hi hg=>(oh T 8 g hg).2 (by
   exact t5 hi),am1⟩ (Ds T am1 hfr) body hchk _ s1 _ _ _ _ F1 st1 I1 wp) (λ fl s2 h2=>?_) λ e s2 h2=>?_
 ·cases fl with
  |next=>
   obtain ⟨ρ',H',⟨H2,sub,q'⟩,_⟩:=h2
   cases q'
  |ret v=>
   obtain ⟨u,H',⟨H2,sub,q'⟩,rv,I',S',M'⟩:=h2
   subst q'
   rw [mA rv]
   have M:=M1.trans M'
   exact k s2 I'.base M.2.1 M.1
  |brk=>exact h2.elim
  |cont=>exact h2.elim
 ·obtain ⟨why,H',⟨H2,sub,q'⟩,_⟩:=h2
  exact q'.elim
end
theorem Lo:eU.Holds:=by
 refine holds_law MP λ sd=>?_
 refine holds_open (r:=row0) (q:=view0) (loose:=loose0) (Xt:=xt0) (XP:=XL view0 []) (Yf:=λ s=>(chk0 (eQ s.heap),txt0 (eQ s.heap))) (Ya:=λ Z=>(true,exp0)) (YP:=λ Z h=>∃K:gk,K.In h/\(chk0 K,txt0 K)=(true,exp0)) (N:=10104) (d:=dk0.1) (kwd:=dk0.2)
  KU (λ w s e=>⟨_,AF _,e⟩) (λ w h h' ⟨K,x,c⟩ k=>⟨K,x.keeps k,c⟩) (λ s e=>xl_of s (zk.mp e).1) XL.keeps KH Hu Ku
  (λ s e=>recFacts_of (zk.mp e).2) (by rfl) sd (by kernel_rfl) ⟨rfl,rfl,rfl,rfl,rfl,by decide+kernel⟩ ?hw ?hc
 case hw=>exact ⟨[.list []],by decide+kernel,by decide+kernel⟩
 case hc=>
  intro w s₀ s₁ mg mb G Y fa o pm cd doc dV kV ho hd hcd hD hmg hg args vals as hpre hlay hrd hwl hlo
  obtain ⟨K,X,hK⟩:=Y
  have T:qW w s₁.heap K:=⟨X,congrArg (·.1) hK,congrArg (·.2) hK,G.low,⟨mg,mb,G.T.g,G.T.b,G.T.builtins⟩,G.T.nolimit⟩
  have hfa:fa=776:=by
   have hgl:=al (ar T.chk)
   have:=bl.mp hgl (aa "law",.user 90) (by decide)
   rw [Jv] at hmg
   simp only [jt,bG,beq_iff_eq,bne_iff_ne,ne_eq] at this
   rcases this with e|⟨e,_⟩
   ·have z:=mg_of X G.T.g e
    rw [hmg] at z
    cases z;rfl
   ·have z:=mg_none_of X G.T.g e
    rw [hmg] at z;cases z
  subst hfa
  set_option tactic.hygienic true in wrow_args hpre hlay hrd hwl hlo
  rename_i ns hsh hl0 hlb hr1 hl2 as1 w7 l vs0 as3 hL ra w1 r0 hI hr hcond htr
  refine aq (BY T hL hI (by lia) (Q:=λ v s'=>GoodWG row0.claim (classAt s₀.heap) (ExcName.means s₀.heap) [ofPy (Ia (a7 PyData.int ns))] s₁ (Except.ok (Flow.ret v)) s') (E:=λ Z Z=>False) λ s' hk hos hgn=>?_) (λ Z Z z=>z) λ Z Z z=>z.elim
  refine GoodW.toG ⟨.inl ⟨_,_,[],rfl,λ Z=>rfl,ReadsW.bool true,?_,λ Z=>⟨ir,λ Z hm=>(nomatch hm)⟩⟩,hk,hos,hgn.trans hg⟩
  first|rfl|wrow_post
end
end Mine
theorem PySem.Challenge.cw_pf0355_01_holds : PySem.Challenge.rw_pf0355_01.Holds :=
 Mine.Lo
end
