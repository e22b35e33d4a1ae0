import PyProof.Rows.All
import Wide.All
import OpenK.AllK
import Wide.FinOn
import PySem.Builtin.Int.W1All
import PyProof.Claim2
import Lean
import PySem.Challenge.RW_xm0539_01
set_option Elab.async false
set_option maxRecDepth 1000000
set_option bootstrap.genMatcherCode false
set_option linter.all false
set_option genInjectivity false
set_option genSizeOf false
set_option genCtorIdx false
set_option tactic.hygienic true
namespace Mine.Internal
open Array renaming any_toList->a7o,forIn_toList->a7n,getElem?_toList->AC,length_toList->Sw,mem_toList_iff->Ds,toList_append->a7m,toList_push->Dr
open Bool renaming and_comm->a7l,and_eq_true->eB,and_eq_true_iff->gJ,and_false->wg,and_true->uV,decide_or->a7k,eq_false_iff->AB,eq_iff_iff->gu,false_and->Dq,false_ne_true->eS,false_or->we,not_eq_true'->nI,not_not->Sv,not_true->Su,or_assoc->a7j,or_eq_true->rh,or_false->sE,or_true->m5,true_and->wc,true_or->Ss
open Classical renaming byContradiction->Ir
open Decidable renaming byContradiction->a7i,em->a7h
open Eq renaming ndrec->Sr,symm->jg
open False renaming elim->tL
open ForInStep renaming yield->uU
open Iff renaming rfl->Iq,trans->Sq
open Int renaming add_comm->So,add_le_add->a7g,add_le_add_left->a7f,add_le_add_right->AA,add_sub_cancel->xZ,ediv_one->a7e,eq_ofNat_of_zero_le->Ip,fmod_eq_emod_of_nonneg->Sn,le_add_one->a7d,le_antisymm->a7c,le_of_eq->Az,le_of_lt->uT,le_refl->Ay,le_trans->jW,lt_add_one_of_le->a7b,lt_of_le_of_lt->Sm,lt_of_lt_of_le->Sl,natCast_nonneg->dI,ne_of_gt->Dp,neg_nonpos_of_nonneg->a7a,not_le->Do,not_lt->rg,ofNat_inj->Ax,ofNat_le->iH,ofNat_lt->jH,ofNat_sub->xY,sub_add_cancel->a68,sub_le_sub_right->a67,sub_neg->a66,toNat->cY,toNat_le->a65,toNat_lt->Dn,toNat_natCast->Sk,toNat_of_nonneg->a64,toNat_of_nonpos->a63,zero_add->Sj
open Int.ofNat renaming inj->gI
open List renaming Nodup->cg,all_cons->Aw,all_eq_true->gf,all_map->a62,any_cons->sD,any_eq_false->uS,any_eq_true->iG,any_map->Si,append_assoc->gc,append_nil->jG,cons->Sh,cons_ne_nil->Dm,countP_eq_length_filter->Av,countP_mono_left->Sg,drop_drop->a61,drop_nil->a60,eq_nil_iff_forall_not_mem->Sf,exists_cons_of_ne_nil->Sc,exists_mem_of_ne_nil->Dl,ext_getElem?->a6Z,filter->Dk,filterMap_cons->Sb,filter_append->a6Y,filter_congr->Io,filter_cons->jf,filter_eq_nil_iff->Sa,filter_eq_self->Au,filter_filter->a6X,filter_map->R9,filter_sublist->Im,find?_cons->R8,findIdx?_cons->Il,findIdx?_eq_none_iff->R7,findIdx?_eq_some_iff_getElem->a6W,foldl->v9,foldl_append->v8,foldl_cons->R6,forIn_cons->Dj,getElem?_append_left->xX,getElem?_append_right->v7,getElem?_eq_getElem->kN,getElem?_eq_some_iff->jV,getElem?_map->nH,getElem?_nil->R5,getElem?_of_mem->Ik,getElem?_set->a6V,getElem?_set_ne->a6U,getElem_inj->R4,getElem_map->a6T,getElem_mem->As,isEmpty_iff->a6S,length->O,length_append->eK,length_cons->kq,length_drop->Ar,length_eq_zero_iff->xW,length_filter_le->k9,length_map->ba,length_nil->a6R,length_pos_iff->Di,length_range->Ij,length_reverse->uR,length_take->xV,length_take_le->a6Q,lookup->R3,lookup_append->Ii,lookup_cons->oN,map_append->d9,map_congr_left->R2,map_cons->lG,map_eq_nil_iff->lF,map_id->Ih,map_map->kM,map_nil->Ig,map_reverse->a6O,map_set->a6N,map_take->a6M,mem_append->fQ,mem_append_left->jF,mem_append_right->gA,mem_cons->cf,mem_cons_of_mem->bK,mem_cons_self->aZ,mem_filter->cG,mem_flatMap->a6L,mem_iff_getElem?->Ie,mem_map->bp,mem_map_of_mem->dU,mem_of_getElem?->pG,mem_of_mem_drop->Ic,mem_of_mem_take->a6K,mem_range->eJ,mem_reverse->uQ,mem_singleton->d8,modify_nil->a6J,nodup_append->kL,nodup_cons->fh,nodup_nil->Aq,nodup_range->a6I,not_mem_nil->jU,of_mem_zip->R1,pairwise_cons->re,pairwise_map->Ib,pairwise_singleton->Ia,perm_middle->Ap,range->cO,replicate->R0,reverse->gZ,reverse_cons->H9,reverse_reverse->H8,size_toArray->a6H,tail_drop->a6F,take_append_drop->xU,take_nil->a6E,toList_toArray->a6D,zip_append->H7
open List.Pairwise renaming imp_of_mem->a7Q,nil->a7P,of_map->a7O
open List.cons renaming inj->oO
open Nat renaming add_assoc->oM,add_comm->qk,add_le_add->jT,add_le_add_left->jq,add_le_add_right->oK,add_left_cancel->H6,add_lt_add_left->qj,add_lt_of_lt_sub->RZ,add_right_cancel->RY,add_right_comm->RX,add_sub_cancel->a6C,add_sub_cancel'->H5,add_sub_cancel_left->uP,add_sub_of_le->Ao,and_comm->a6B,and_le_left->H4,and_le_right->Dh,and_one_is_mod->a6A,and_or_distrib_right->a6z,and_zero->sC,beq->fk,ble->eA,ble_eq->kn,ble_eq_true_of_le->a6y,blt->gq,eq_of_beq_eq_true->uO,eq_of_testBit_eq->km,exists_eq_add_of_le'->a6w,land->nG,le_add_left->jE,le_add_right->fA,le_antisymm->v6,le_of_add_le_add_left->a6v,le_of_ble_eq_true->bU,le_of_eq->gG,le_of_lt->je,le_of_lt_succ->sz,le_of_not_lt->lE,le_of_succ_le->a6u,le_of_succ_le_succ->H3,le_refl->ce,le_sub_one_of_lt->RW,le_succ->gR,le_succ_of_le->rd,le_trans->aV,le_zero->a6t,lt_add_of_pos_right->xT,lt_add_one->a6s,lt_irrefl->kK,lt_of_le_of_lt->gQ,lt_of_le_of_ne->RV,lt_of_lt_of_le->eR,lt_of_not_le->m4,lt_one_iff->a6r,lt_or_ge->tK,lt_succ_iff_lt_or_eq->xS,lt_succ_of_lt->tJ,lt_succ_self->lY,lt_trans->m3,max_le->An,min_assoc->Am,min_comm->a6q,min_eq_left->pF,min_eq_right->v5,min_le_left->uM,min_le_right->xR,mod_add_div->a6p,mod_eq_of_lt->a6o,mod_lt->xQ,mul_le_mul_left->rc,ne_of_gt->rb,ne_of_lt->hZ,not_le->sy,not_le_of_lt->RT,not_lt->fw,not_lt_of_le->a6n,not_lt_zero->Dg,one_pos->RS,or_assoc->xP,or_lt_two_pow->mG,or_zero->n7,pos_of_ne_zero->RQ,pow_le_pow_right->RP,pow_lt_pow_right->tI,shiftLeft_eq->a6m,shiftRight_eq_div_pow->H2,sub->RO,sub_add_cancel->tH,sub_eq_of_eq_add->a6l,sub_eq_zero_iff_le->RN,sub_eq_zero_of_le->H1,sub_le->pE,sub_le_iff_le_add->RM,sub_lt->RK,sub_self->v4,sub_sub_self->RJ,succ_le_of_lt->a6k,succ_le_succ->jS,succ_ne_self->RI,succ_ne_zero->RH,succ_pos->sx,testBit->aQ,testBit_and->ra,testBit_eq_decide_div_mod_eq->a6j,testBit_lt_two_pow->jR,testBit_or->fD,testBit_succ->RG,testBit_two_pow->jD,testBit_zero->RF,two_pos->De,zero_add->n6,zero_and->a6i,zero_le->jQ,zero_lt_succ->RE,zero_or->qh,zero_testBit->lX
open Nat.le renaming intro->uN
open Nat.succ renaming inj->Df
open Ne renaming symm->q7
open Option renaming bind_eq_some_iff->a6h,bind_some->a6g,isSome->dA,isSome_iff_exists->v0,map_eq_some_iff->H0,map_some->a6f,some->a6e
open Option.some renaming inj->fg
open Prod renaming ext->Al,fst->HZ
open Prod.mk renaming inj->HY,injEq->Ak
open PyProof.Rows renaming Call_Name->RD,IntsAre->Dc,reads_int_inv->RC,reads_str_inv->RB,slot_tuple_getitem->HX,subscriptTail->HW
open PyProof renaming noPylong_of_log2->a6b
open PySem.AfterImport renaming of_importEnds->a7N,unique->a7M
open PySem renaming Around->nZ,DictEntry->kj,NameKind->vZ,Operator->Rk,Params->fM,Program->Ad,PyData->HP,Reads->xO,ReadsAll->uK,Result->uJ,Scope->uI,Shared->bT,Value->aL,World->cR,allTrue->z4,assign->C5,attributeBase->C4,backTo->nE,behindInMarks->HG,bindName->HF,boolOp->C3,builtinsNs->tG,cLine->ie,cStatics->tF,call->iE,call_meets->HE,cellOf->HD,cellsFrom->Rf,codeAny->z0,compareOp->xL,denote->zZ,dictGet->C2,dictSet->HB,eqIsQuiet_byValue->a5I,evalArgs->Rd,evalEach->Rc,evalPairs->HA,execs->pB,fitsIndex_of->Rb,foldedSetIterable->Hz,getItem->xJ,globalOf->C1,importedModules->a5G,intKind->tE,letOwnedTupleGo->C0,list_getitem_lookup->Hy,mainGlobals->lB,mainNs->tD,markedBehindIn_of_false->a5E,model->hW,moduleCode->Q9,newBodyFrame->Q8,notedBy->zY,numAt->CZ,pyHash->CY,pyIter->Hx,seqIndex_of->Q7,setItem->zX,sizeLine->Q6,slicePick->zW,slot_dict_contains->Q5,slot_dict_getitem->Q4,slot_dict_setitem->a5B,slot_list_setitem->a5A,spliced->qY,starEach->kf,swappedStores->zV,swapsWith->Hw,swapsWithSole->CX,sysModules->Q3,table->zU,truthy->Hv,typeOf->xI,wpAny->cA,wpAny_Assign_stores->Hu,wpAny_bind->aW,wpAny_call->Q2,wpAny_callSpecial?_slot->Ht,wpAny_call_entry->vX,wpAny_comprehension_free->a5y,wpAny_dictEntries->Q1,wpAny_execs_nil->a5x,wpAny_field->Q0,wpAny_getItem_list_slice->a5w,wpAny_holding->jC,wpAny_letTemporaryGo->a5v,wpAny_mono->ff,wpAny_newList->Hs,wpAny_newObj_type->zT,wpAny_notOrdered_dict->a5t,wpAny_pure->bQ,wpAny_pyHash_int->a5s,wpAny_pyHash_str->a5r,wpAny_pyIter_list->a5q,wpAny_pyIter_listiter->a5p,wpAny_pyNext_list_end->a5o,wpAny_pyNext_list_item->a5n,wpAny_rule->zS,wpAny_sequenceKey->Hr,wpAny_specialOf->QZ,wpAny_standAt->qf,wpAny_truthy_bool->QY,wpAny_updateDictKeys->QX,wpCode_iff_wp->Hq
open PySem.Around renaming in1_units->uL
open PySem.Builtin.Dict renaming missedRemoval->Rz,takeOut->Ry
open PySem.Builtin.List renaming listSubscript?->a7L
open PySem.Builtin.Range renaming rangeFitsLong->a7K,rangeSize->Rx,small->a6a
open PySem.Builtin.Slice renaming sliceAdjust->a59,sliceApplied->a7J,slicePlaces->Rv
open PySem.Builtin.Tuple renaming tupleExact->Ru,tupleHashOf->a58,tupleItemsOf->a57
open PySem.Calls renaming Name_function_global->Rt,loadGlobal_global->a56
open PySem.Expr renaming Name->HV
open PySem.F renaming args_list_append_2->a55,entry_list_append->a54,plainAttrs_dict->a53,plainAttrs_list->Rr,slot_dict_get->a52,slot_dict_pop->a51,slot_list_append->Rq,slot_list_insert->a50,slot_list_pop->a5Z
open PySem.Heap renaming ExtBut->Aj,SameBut->qZ,get?_push_of_some->jd,get?_push_size->mZ,get?_update_self->Ai,isNs->Ah,lt_size->iF,nsKeys->Rp,nsMap->HT,size_push->oJ
open PySem.Heap.IsSliceOf renaming new->a7I
open PySem.Heap.Ns renaming of_isNs->HU
open PySem.Heap.SameBut renaming refl->a7H,update->sw
open PySem.IsL renaming new->Db,update->C9
open PySem.IsRange renaming new->a5X
open PySem.IsT renaming new->HR
open PySem.KeyKind renaming is_eq_decide->a5W
open PySem.NameKind renaming cell->Ro,free->C8
open PySem.Obj renaming data_mapDict->a5V,data_mapDictKeys->Ag,isFreed->a5U,isFreed_of_dict->HQ,mapDictKeys->Af,mapSeq->Ae,putName->Rn
open PySem.PyData renaming keyHash->Ac,strOk->HO
open PySem.Reads renaming unique->a5T
open PySem.Sem renaming wp->nF,wp_bind'->Ab,wp_mono->Aa,wp_onRaise->a5S
open PySem.SeqAt renaming EqAt->a5R,eqAt_reads->Rj,noMix->xN,noMixAll->a5Q
open PySem.Str renaming ofString->cv
open PySem.TablesWhole renaming holds->a5P,wProgram->a5O
open PySem.Value renaming builtin->Ri
open PySem.W.Looks renaming of_pure->Rh
open PySem.W.R renaming allR_eq->z9
open PySem.W renaming behindTheImports->a5M,boot_heap->z8,boot_o_0->gp,boot_o_2->z7,boot_o_3->z6,boot_o_4->f9,boot_o_6->uH,cellAt->HN,dictOf->vY,emptyDict->HM,findIn->qg,hashW_int->Rg,instObj->z5,laidKept->HK,layAllW->HJ,look_both->gn,makesIn->C7,namesBound->HI,readsAllW_cons_inv->a5L,readsAllW_nil_inv->a5K,readsOut->C6,staticsOk->HH,topStub->xM
open Option renaming some->I,none->C
open Bool renaming true->U,false->am
noncomputable def Z.{u}:=@if_neg.{u}
noncomputable def ak.{u}:=@if_pos.{u}
noncomputable def bA:=@decide_eq_true
noncomputable def bR:=@decide_eq_false
noncomputable def Y:=@of_decide_eq_true
noncomputable def dcQ:=@of_decide_eq_false
noncomputable def dT:=@decide_eq_true_iff
noncomputable def be.{u,v}:=@congrArg.{u,v}
def aP{P G:Prop}(h:P)(q:¬P):G:=absurd h q
noncomputable def dV.{u}:=@beq_iff_eq.{u}
noncomputable def jp:=@decide_eq_decide
noncomputable def aE:=trivial
theorem H.{u} {b:Sort u} {a:b}:a=a:=rfl
noncomputable section
open PySem PySem.W PySem.Calls PyProof PyProof.Rows
variable{e z:Type} {a b c x y n m k:Nat} {P D:Prop} {d i:Int}
def cL.{u} {e:Type u} {a:e} (h:C=I a):P:=nomatch h
def l7.{u} {e:Type u} {a:e} (h:I a=C):P:=nomatch h
def dj(h:am=U):P:=nomatch h
def mI(h:U=am):P:=nomatch h
def Dz.{u} {e:Type u} {a} {l:List e} (h:[]=a::l):P:=nomatch h
def Iy.{u} {e:Type u} {a} {l:List e} (h:a::l=[]):P:=nomatch h
class inductive F2 {e z:Type} (R:e->z->Prop):List e->List z->Prop
 |nil:F2 R [] []
 |cons {a:e} {b:z} {as:List e} {bs:List z}:R a b->F2 R as bs->F2 R (a::as) (b::bs)
def F2.aT{a b}(f:F2 R a b):O a=O b:=by
 induction f with
 |nil=>rfl
 |cons _ _ c=>exact be (·+1) c
def F2.fX{a b}(f:∀x y,R x y->S x y)(g:F2 R a b):F2 S a b:=by
 induction g with
 |nil=>exact .nil
 |cons x _ c=>exact .cons (f _ _ x) c
def F2.append{a c b d}(f:F2 R a b)(k:F2 R c d):F2 R (a++c)<|b++d:=by
 induction f with
 |nil=>exact k
 |cons x _ e=>exact .cons x e
def F2.h{a b}(f:F2 R a b):∀x∈a,∃y∈b,R x y:=by
 induction f with
 |nil=>exactλg f=>nomatch f
 |cons r _ c=>
  intro x hx;rcases cf.mp hx with rfl|hx;.exact⟨_,aZ,r⟩
  .obtain⟨y,d,e⟩:=c x hx;exact⟨y,bK _ d,e⟩
def F2.j{a b}(f:F2 R a b):∀y∈b,∃x∈a,R x y:=by
 induction f with
 |nil=>exactλg f=>nomatch f
 |cons r _ c=>
  intro x hx;rcases cf.mp hx with rfl|hx;.exact⟨_,aZ,r⟩
  .obtain⟨y,d,e⟩:=c x hx;exact⟨y,bK _ d,e⟩
@[elab_as_elim]
def ay{e:Sort u}{b:e}{motive:e->Prop}{a:e}(h:a=b)(p:motive b):motive a:=h▸p
@[elab_as_elim]
def aO{e:Sort u}{b:e}{motive:e->Prop}{a:e}(h:b=a)(p:motive b):motive a:=h▸p
def bY(h:p/\q)(k:p->q->D):D:=k h.1 h.2
def gl(h:p/\q/\r)(k:p->q->r->D):D:=k h.1 h.2.1 h.2.2
def mm(h:p/\q/\r/\s)(k:p->q->r->s->D):D:=k h.1 h.2.1 h.2.2.1 h.2.2.2
def o7(h:p/\q/\r/\s/\t)(k:p->q->r->s->t->D):D:=k h.1 h.2.1 h.2.2.1 h.2.2.2.1 h.2.2.2.2
def FQ(h:p/\q/\r/\s/\t/\v)(k:p->q->r->s->t->v->D):D:=k h.1 h.2.1 h.2.2.1 h.2.2.2.1 h.2.2.2.2.1 h.2.2.2.2.2
def bc.{f} {e:Sort f} {p:e->Prop} (h:∃x,p x) (k:∀x,p x->D):D:=h.elim k
theorem aA.{f} {e:Sort f} {p q:e->Prop} (h:∃x,p x/\q x) (k:∀x,p x->q x->D):D:=h.elim λx h=>k x h.1 h.2
theorem eW.{f} {e:Sort f} {p q r:e->Prop} (h:∃x,p x/\q x/\r x) (k:∀x,p x->q x->r x->D):D:=h.elim λx h=>k x h.1 h.2.1 h.2.2
theorem vA.{f} {e:Sort f} {p q r s:e->Prop} (h:∃x,p x/\q x/\r x/\s x) (k:∀x,p x->q x->r x->s x->D):D:=h.elim λx h=>k x h.1 h.2.1 h.2.2.1 h.2.2.2
theorem FP.{f} {e:Sort f} {p q r s t:e->Prop} (h:∃x,p x/\q x/\r x/\s x/\t x) (k:∀x,p x->q x->r x->s x->t x->D):D:=h.elim λx h=>k x h.1 h.2.1 h.2.2.1 h.2.2.2.1 h.2.2.2.2
theorem j16.{f} {e:Sort f} {p q r s t v:e->Prop} (h:∃x,p x/\q x/\r x/\s x/\t x/\v x) (k:∀x,p x->q x->r x->s x->t x->v x->D):D:=h.elim λx h=>k x h.1 h.2.1 h.2.2.1 h.2.2.2.1 h.2.2.2.2.1 h.2.2.2.2.2
theorem FO.{f,g} {e:Sort f} {z:Sort g} {p:e->z->Prop} (h:∃x,∃y,p x y) (k:∀x y,p x y->D):D:=h.elim λx h=>h.elim λy h=>k x y h
theorem gk.{f,g} {e:Sort f} {z:Sort g} {p q:e->z->Prop} (h:∃x,∃y,p x y/\q x y) (k:∀x y,p x y->q x y->D):D:=h.elim λx h=>h.elim λy h=>k x y h.1 h.2
theorem gy.{f,g} {e:Sort f} {z:Sort g} {p q r:e->z->Prop} (h:∃x,∃y,p x y/\q x y/\r x y) (k:∀x y,p x y->q x y->r x y->D):D:=h.elim λx h=>h.elim λy h=>k x y h.1 h.2.1 h.2.2
theorem o6.{f,g} {e:Sort f} {z:Sort g} {p q r s:e->z->Prop} (h:∃x,∃y,p x y/\q x y/\r x y/\s x y) (k:∀x y,p x y->q x y->r x y->s x y->D):D:=h.elim λx h=>h.elim λy h=>k x y h.1 h.2.1 h.2.2.1 h.2.2.2
theorem FM.{f,g} {e:Sort f} {z:Sort g} {p q r s t:e->z->Prop} (h:∃x,∃y,p x y/\q x y/\r x y/\s x y/\t x y) (k:∀x y,p x y->q x y->r x y->s x y->t x y->D):D:=h.elim λx h=>h.elim λy h=>k x y h.1 h.2.1 h.2.2.1 h.2.2.2.1 h.2.2.2.2
theorem rT.{f,g} {e:Sort f} {z:Sort g} {p q r s t v:e->z->Prop} (h:∃x,∃y,p x y/\q x y/\r x y/\s x y/\t x y/\v x y) (k:∀x y,p x y->q x y->r x y->s x y->t x y->v x y->D):D:=h.elim λx h=>h.elim λy h=>k x y h.1 h.2.1 h.2.2.1 h.2.2.2.1 h.2.2.2.2.1 h.2.2.2.2.2
theorem Z2.{g,j,l} {e:Sort g} {z:Sort j} {o:Sort l} {p:e->z->o->Prop} (h:∃x,∃y,∃f,p x y f) (k:∀x y f,p x y f->D):D:=h.elim λx h=>h.elim λy h=>h.elim λf h=>k x y f h
theorem B1.{g,j,l} {e:Sort g} {z:Sort j} {o:Sort l} {p q:e->z->o->Prop} (h:∃x,∃y,∃f,p x y f/\q x y f) (k:∀x y f,p x y f->q x y f->D):D:=h.elim λx h=>h.elim λy h=>h.elim λf h=>k x y f h.1 h.2
theorem ox.{g,j,l} {e:Sort g} {z:Sort j} {o:Sort l} {p q r:e->z->o->Prop} (h:∃x,∃y,∃f,p x y f/\q x y f/\r x y f) (k:∀x y f,p x y f->q x y f->r x y f->D):D:=h.elim λx h=>h.elim λy h=>h.elim λf h=>k x y f h.1 h.2.1 h.2.2
theorem rS.{g,j,l} {e:Sort g} {z:Sort j} {o:Sort l} {p q r s:e->z->o->Prop} (h:∃x,∃y,∃f,p x y f/\q x y f/\r x y f/\s x y f) (k:∀x y f,p x y f->q x y f->r x y f->s x y f->D):D:=h.elim λx h=>h.elim λy h=>h.elim λf h=>k x y f h.1 h.2.1 h.2.2.1 h.2.2.2
theorem NV.{g,j,l} {e:Sort g} {z:Sort j} {o:Sort l} {p q r s t:e->z->o->Prop} (h:∃x,∃y,∃f,p x y f/\q x y f/\r x y f/\s x y f/\t x y f) (k:∀x y f,p x y f->q x y f->r x y f->s x y f->t x y f->D):D:=h.elim λx h=>h.elim λy h=>h.elim λf h=>k x y f h.1 h.2.1 h.2.2.1 h.2.2.2.1 h.2.2.2.2
theorem y5.{g,j,l} {e:Sort g} {z:Sort j} {o:Sort l} {p q r s t v:e->z->o->Prop} (h:∃x,∃y,∃f,p x y f/\q x y f/\r x y f/\s x y f/\t x y f/\v x y f) (k:∀x y f,p x y f->q x y f->r x y f->s x y f->t x y f->v x y f->D):D:=h.elim λx h=>h.elim λy h=>h.elim λf h=>k x y f h.1 h.2.1 h.2.2.1 h.2.2.2.1 h.2.2.2.2.1 h.2.2.2.2.2
theorem j41.{g,j,l,o} {e:Sort g} {z:Sort j} {q:Sort l} {r:Sort o} {p:e->z->q->r->Prop} (h:∃x,∃y,∃f,∃u,p x y f u) (k:∀x y f u,p x y f u->D):D:=h.elim λx h=>h.elim λy h=>h.elim λf h=>h.elim λu h=>k x y f u h
theorem qM.{g,j,l,o} {e:Sort g} {z:Sort j} {r:Sort l} {s:Sort o} {p q:e->z->r->s->Prop} (h:∃x,∃y,∃f,∃u,p x y f u/\q x y f u) (k:∀x y f u,p x y f u->q x y f u->D):D:=h.elim λx h=>h.elim λy h=>h.elim λf h=>h.elim λu h=>k x y f u h.1 h.2
theorem nc.{g,j,l,o} {e:Sort g} {z:Sort j} {s:Sort l} {t:Sort o} {p q r:e->z->s->t->Prop} (h:∃x,∃y,∃f,∃u,p x y f u/\q x y f u/\r x y f u) (k:∀x y f u,p x y f u->q x y f u->r x y f u->D):D:=h.elim λx h=>h.elim λy h=>h.elim λf h=>h.elim λu h=>k x y f u h.1 h.2.1 h.2.2
theorem NU.{g,j,l,o} {e:Sort g} {z:Sort j} {t:Sort l} {v:Sort o} {p q r s:e->z->t->v->Prop} (h:∃x,∃y,∃f,∃u,p x y f u/\q x y f u/\r x y f u/\s x y f u) (k:∀x y f u,p x y f u->q x y f u->r x y f u->s x y f u->D):D:=h.elim λx h=>h.elim λy h=>h.elim λf h=>h.elim λu h=>k x y f u h.1 h.2.1 h.2.2.1 h.2.2.2
theorem B0.{g,j,l,o} {e:Sort g} {z:Sort j} {v:Sort l} {A:Sort o} {p q r s t:e->z->v->A->Prop} (h:∃x,∃y,∃f,∃u,p x y f u/\q x y f u/\r x y f u/\s x y f u/\t x y f u) (k:∀x y f u,p x y f u->q x y f u->r x y f u->s x y f u->t x y f u->D):D:=h.elim λx h=>h.elim λy h=>h.elim λf h=>h.elim λu h=>k x y f u h.1 h.2.1 h.2.2.1 h.2.2.2.1 h.2.2.2.2
theorem NT.{g,j,l,o} {e:Sort g} {z:Sort j} {A:Sort l} {B:Sort o} {p q r s t v:e->z->A->B->Prop} (h:∃x,∃y,∃f,∃u,p x y f u/\q x y f u/\r x y f u/\s x y f u/\t x y f u/\v x y f u) (k:∀x y f u,p x y f u->q x y f u->r x y f u->s x y f u->t x y f u->v x y f u->D):D:=h.elim λx h=>h.elim λy h=>h.elim λf h=>h.elim λu h=>k x y f u h.1 h.2.1 h.2.2.1 h.2.2.2.1 h.2.2.2.2.1 h.2.2.2.2.2
def rV{p:Prop}(h:∀D:Prop,(p->D)->D):p:=h p id
def uc(h:a+y<c)(f:eA x y=U):a+x<c:=gQ (jq (bU f) a) h
def MV(h:a+y<=c)(f:eA x y=U):a+x<=c:=aV (jq (bU f) a) h
def oY{d}(h:a<c)(f:eA c d=U):a<d:=eR h<|bU f
def bG{d}(h:a<=c)(f:eA c d=U):a<=d:=aV h<|bU f
def xf{d}(h:a<=c)(f:gq c d=U):a<d:=gQ h<|bU f
def BH{d}(h:a<c)(f:eA c (d+1)=U):a<=d:=sz<|eR h<|bU f
def qJ{d}(h:a<=c)(f:eA (c+x) d=U):a+x<=d:=aV (oK h x)<|bU f
def s6{d}(h:a<=c)(f:eA (x+c) d=U):x+a<=d:=aV (jq h x)<|bU f
def NG{d}(h:a<c)(f:eA (x+c) d=U):x+a<d:=eR (qj h x)<|bU f
def lu(h:n<=c)(f:decide ((c:Int)<=d)=U):(n:Int)<=d:=jW (iH.mpr h)<|Y f
def Ca(h:n<=c)(f:decide ((c:Int)<d)=U):(n:Int)<d:=Sm (iH.mpr h)<|Y f
def zg(f:decide (d<=0)=U):d<=(n:Int):=jW (Y f)<|dI n
def B5(f:decide (d<0)=U):¬(n:Int)=d:=λh=>Do.mpr (Y f)<|aO h<|dI n
def Od(f:decide (d<0)=U):¬d=(n:Int):=λh=>B5 f h.symm
def gm(h:¬n=m):¬(n:Int)=m:=λe=>h<|gI e
def F7(h:¬n=m):¬(m:Int)=n:=λe=>h (gI e).symm
def mi(h:a+(b+c)<=k):a+c+b<=k:=aV (gG<|by rw[oM,qk c b]) h
def Y2(h:a+(b+c)<k):a+c+b<k:=gQ (gG<|by rw[oM,qk c b]) h
def lT:a+c+b=a+(b+c):=by rw[oM,qk c b]
def Bs{d}(h:a<c)(f:eA c d=U):¬a=d:=λz=>fw.mpr (bU f)<|aO z h
def w6{d}(h:c<=a)(f:gq d c=U):¬a=d:=λz=>sy.mpr (bU f)<|aO z h
def Mb{d}(f:gq d c=U):¬c+a=d:=λz=>sy.mpr (bU f)<|aO z<|fA c a
def MX(k)(h:a<k+1):a<=k:=sz h
def rM(h:a+f<c)(g:eA (x+y) f=U):a+x+y<c:=gQ (aV (gG<|oM a x y)<|jq (bU g) a) h
def zh{a b:Int}(h:i<=a)(f:decide (a<b)=U):i<b:=Sm h<|Y f
def vB{a b:Int}(h:i<=a)(f:decide (a<=b)=U):i<=b:=jW h<|Y f
def Gb{a b:Int}(h:a<=i)(f:decide (b<=a)=U):b<=i:=jW (Y f) h
def rN(h:a+y<c):a<c:=gQ (fA a y) h
def kX(h:a+y<=c):a<=c:=aV (fA a y) h
def vv(h:a+y<c):y<c:=gQ (jE y a) h
def br(h:a+y<=c):y<=c:=aV (jE y a) h
def iq(h:n=m):(n:Int)=m:=be _ h
def EH(f:eA (a+1) c=U)(h:x=a):x<c:=ay h<|bU f
def qG(f:eA (a+1) c=U)(h:p->x<c)(o:x=a\/p):x<c:=o.elim (EH f) h
def Y3(h:a+x+y<c)(f:eA g y=U):a+g<c:=gQ (aV (jq (bU f) a)<|oK (fA a x) y) h
def Fa(h:a+x+r<c)(f:eA (p+q) r=U):a+p+x+q<c:=by
 rw[RX a p x,oM];exact gQ (jq (bU f) _) h
def MA(h:a+k*(n+1)+r<c)(f:eA (p+q) (k+r)=U):a+p+k*n+q<c:=Fa (by rw[Nat.mul_succ,<-oM a,oM] at h;exact h) f
def ES{a}(h:-2^62<=a/\a<=2^62)(f:eA (2^62+1) c=U):a.natAbs<c:=aV (by lia)<|bU f
def Cb(q:m=n)(h:m<=c)(f:decide ((c:Int)<d)=U):(n:Int)<d:=Ca (aO q h) f
def Oc{m:Int}(h:¬0<=i):i+m<m:=Sl (Int.add_lt_add_right (Do.mp h) m)<|Az<|Sj m
def Oh(h:n<=c)(k:-(n:Int)<=i)(f:decide (d<=-(c:Int))=U):d<=i:=jW (Y f)<|jW (Int.neg_le_neg<|iH.mpr h) k
def B8(h:n<=c)(k:i<n)(f:decide ((c:Int)<=d)=U):i<d:=Sl k<|lu h f
def EZ(h:1<=n):(-1:Int)+n=((n-1:Nat):Int):=(So (-1) n).trans (xY h).symm
def EY(h:1<=n):0<=(-1:Int)+n:=EZ h▸dI _
def My(h:1<=n):cY ((-1:Int)+n)=n-1:=(be cY<|EZ h).trans H
def yT{d}(h:a+k<c)(f:b<=k):a+min b d<c:=gQ (jq (aV (uM b d) f) a) h
def JE{d}(f:v<=m)(g:m-v<=d):v+(d-(d-(m-v)))=m:=by rw[RJ g,Ao f]
def ml(h:n<=m)(f:gq (a+k*m+b) c=U):a+k*n+b<c:=gQ (oK (jq (rc k h) a) b)<|bU f
def yP(h:n<=m)(f:eA (a+k*m) c=U):a+k*n<=c:=aV (jq (rc k h) a)<|bU f
def LY{p:Prop}(f:a+b=m)(h:m<a):p:=aP (aO f<|fA a b)<|sy.mpr h
def xe(h:b<=a+1)(f:a+(c+1)<=k):b+c<=k:=aV (oK h c)<|mi f
def yW{d}(j:f<=g+s)(l:g<=d+1):f<=d+(s+1):=aV j<|aV (oK l s)<|gG lT
def Fg(f:b<=a+k)(g:c<=b+k*q):c<=a+k*(q+1):=aV g<|aV (oK f _)<|gG lT
def yV{d}(g:f<=d+k)(j:d+k*(q+1)<=c):f+k*q<=c:=aV (Fg g<|ce _) j
def Fh{d}(h:p<=k)(f:d+k*(q+1)<=c):d+p<=c:=aV (fA _<|k*q)<|yV (jq h d) f
def wW(f:decide (x<16/\y<30)=U)(h:t=x/\b=y):t<16/\b<30:=ay h.1<|ay h.2<|Y f
def D7(g:k<=a)(j:k<=b)(f:a-k=b-k):a=b:=(tH g).symm.trans<|(be (·+k) f).trans<|tH j
def lq{d}(h:c<=a)(f:eA d c=U):¬a<d:=fw.mpr<|aV (bU f) h
def Gc{a b k:Int}(h:i<=a)(f:decide (a+k<=b)=U):i+k<=b:=jW (AA h k)<|Y f
def Z9{k:Int}{d}(h:d+1<=c)(f:s+c<=k):s+1+d<=k:=jW (jW (Az<|(Int.add_assoc ..).trans<|be (s+·)<|So ..)<|a7f (iH.mpr h) s) f
def L0(x):-(-x-1)-1=x:=by rw[Int.neg_sub,a66,So];exact xZ ..
def Ks(h:k<c):c-1-k<c:=gQ (pE ..)<|RK (gQ (jQ _) h) RS
def lb(h:eA a b=U):a<=b:=bU h
def lm{l:List e}(h:O l<=a)(g:eA a b=U):O (l.map f)<=b:=ba f▸aV h (bU g)
def kG{g:z->o}{l:List e}(h:O l<=a)(j:eA a b=U):O ((l.map f).map g)<=b:=lm (lm h<|kn.mpr<|ce a) j
def pw(h:m<=n):2^m<=2^n:=RP (sx 1) h
def dS{P:e->Prop}:∀x∈([]:List e),P x:=λb h=>aP h jU
def jw{P:e->Prop}{a}(h:∀x∈a::l,P x):∀x∈l,P x:=λx m=>h x<|bK _ m
def lM{P:e->Prop}{a}(h:∀x∈a::l,P x):P a:=h a aZ
end
set_option compiler.extract_closed false
open Lean in
local macro_rules (kind:=Lean.Parser.Tactic.rewriteSeq)|s=>if s[3].isNone then return mkNullNode (s[2][1].getSepArgs.map fun r=>.node .none `Lean.Parser.Tactic.refine #[s,Syntax.mkApp (mkIdent (if r[0].isNone then `Mine.Internal.ay else `Mine.Internal.aO)) #[Syntax.mkApp ⟨r[1]⟩ #[⟨.node .none `Lean.Parser.Term.ellipsis #[mkAtom ".."]⟩],⟨.node .none `Lean.Parser.Term.syntheticHole #[s,mkHole s]⟩]]) else Macro.throwUnsupported
noncomputable section
open PySem PySem.W PySem.Calls PyProof PyProof.Rows
variable{z e:Type} {a b c x y n m k:Nat} {P D:Prop} {d i:Int}
end
noncomputable section
open PySem PySem.W PySem.Calls PyProof PyProof.Rows
variable{D β:Type} {c:Bool} {P:fM} {l L L' K:HL} {s z x! d:bT} {m i a:Nat} {prog:Ad} {w:cR} {e:Ctx} {p T:Pos} {ec:AD} {m' h h':Heap} {xs:List WData} {R:WRecords} {cl:Str->Option Addr} {V:List Int} {vs:List aL}
def qS:Code->Sem Fin:=PySem.W.Fast.tw11892475500146522536 PySem.W.Fast.tw14364793385576792824
set_option tactic.hygienic false
def Pm:zZ zU=qS:=by rw[table_eq_tree];unfold qS;rw[<-PySem.W.Fast.te11892475500146522536,<-PySem.W.Fast.te14364793385576792824]
inductive pu(D:Type) where
 |ok (a:D)
 |Cs (e:aL)
abbrev HL:=List<|Nat×Obj
noncomputable def jM:HL->Nat->Option Obj
 |[],_=>C
 |(a,o)::r,b=>match fk a b with|true=>I o|false=>jM r b
noncomputable def oy:HL->Nat->Obj->HL
 |[],_,_=>[]
 |(a,o)::r,b,x=>match fk a b with|true=>(a,x)::r|false=>(a,o)::oy r b x
def uk(a)(o)(r)(b):jM ((a,o)::r) b=if a=b then I o else jM r b:=by
 show(match fk a b with|true=>I o|false=>jM r b)=_;rw[BT.beq_eq];by_cases h:a=b<;>simp[h]
def Oq(l)(b)(x)(c):jM (oy l b x) c=if b=c then(jM l b).map (λg=>x) else jM l c:=by
 induction l with
 |nil=>exact(ite_self _).symm
 |cons q r f=>
  obtain⟨a,o⟩:=q;obtain e:oy ((a,o)::r) b x=if a=b then(a,x)::r else(a,o)::oy r b x:=by
   show(match fk a b with|true=>(a,x)::r|false=>(a,o)::oy r b x)=_;rw[BT.beq_eq];by_cases h:a=b<;>simp[h]
  rw[e,uk,uk];clear e;by_cases h:a=b;.subst h;rw[ak H,uk];by_cases d:a=c<;>simp[d]
  .rw[Z h,Z h,uk,f];by_cases d:b=c;.subst d;rw[Z h,ak H,ak H]
   .rw[Z d,Z d]
abbrev sq(D):=Option<|D×HL×Nat×Nat
noncomputable section
variable(prog:Ad) (w:cR)
abbrev AD:=Ctx->Pos->HL->Nat->Nat->sq uJ
abbrev SH:={D:Type}->Ctx->Sem D->Pos->HL->Nat->Nat->sq (pu D×Pos)
def a0Y(g:AD){D}(rec:Ctx->Sem D->Pos->HL->Nat->Nat->sq (pu D×Pos))(e:Ctx)(t:Sem D)(p:Pos)(l:HL)(m i:Nat):sq<|pu D×Pos:=by
 induction t using Sem.casesOn with
 |pure a=>exact I ((.ok a,p),l,m,i)
 |raise b=>exact I ((.Cs b,p),l,m,i)
 |rule _ k=>exact rec e (k ()) p l m i
 |«at»p' k=>exact rec e (k ()) p' l m i
 |point _ k=>exact rec e (k ()) p l m i
 |load a _ k=>exact(jM l a).bind λo=>rec e (k o) p l m i
 |loadIfAlive a k=>exact(jM l a).bind λo=>rec e (k<|I o) p l m i
 |update a _ f k=>exact(jM l a).bind λo=>cond (f o).isFreed C<|rec e (k ()) p (oy l a<|f o) m i
 |alloc o k=>exact cond o.isFreed C<|rec e (k m) p ((m,o)::l) (m+1) i
 |fresh k=>exact rec e (k i) p l m<|i+1
 |ask k=>exact rec e (k ⟨prog,w.params⟩) p l m i
 |handled own k=>exact rec e (k<|if own then e.own else e.handled) p l m i
 |stack k=>exact rec e (k<|(e.code,p)::e.below) p l m i
 |call c h _ _ k=>exact(g (e.enter c h p) p l m i).bind λr=>rec e (k r.1) p r.2.1 r.2.2.1 r.2.2.2
 |_=>exact C
noncomputable def Pb(g:AD)(e:Ctx)(r:(pu Fin×Pos)×HL×Nat×Nat):sq Result:=match r.1.1 with
 |.Cs b=>I (.error b,r.2)
 |.ok (.done f)=>I (.ok f,r.2)
 |.ok (.again c)=>cond c.quiet (g (e.goto c) r.1.2 r.2.1 r.2.2.1 r.2.2.2) C
noncomputable def vK:Nat->PProd SH AD
 |0=>⟨λb b b b b b=>C,λb b b b b=>C⟩
 |n+1=>⟨λe t p l m i=>a0Y prog w (vK n).2 (vK n).1 e t p l m i,λe p l m i=>((vK n).1 e (qS e.code) p l m i).bind<|Pb (vK n).2 e⟩
def ev(n:Nat){D:Type}(e:Ctx)(t:Sem D)(p:Pos)(l:HL)(m i:Nat):sq<|pu D×Pos:=(vK prog w n).1 e t p l m i
end
def Qh(h:o.bind f=I r):∃x,o=I x/\f x=I r:=a6h.mp h
def PL(h:cond c C o=I r):c=am/\o=I r:=by
 rcases c with _|_;.exact⟨H,h⟩
 .exact cL h
def Bo{P:Prop}(h:C=I r):P:=nomatch h
structure lW(l:HL)(m i:Nat)(s:bT):Prop where
 q:s.heap.objs.size=m
 toks:s.toks=i
 own:∀a o,jM l a=some o->s.heap.get? a=some o
structure mX(l l':HL)(s z:bT):Prop where
 same:∃h tk,z={s with heap:=h,toks:=tk}
 life:z.heap.life=s.heap.life
 cT:∀b o,jM l b=none->s.heap.get? b=some o->z.heap.get? b=some o
 d:∀b o,s.heap.get? b=some o->jM l b=none->jM l' b=none
def mX.B(l)(s):mX l l s s:=⟨⟨s.heap,s.toks,H⟩,H,λb b b e=>e,λb b b e=>e⟩
theorem mX.q(a:mX l j s z)(b:mX j f z x!):mX l f s x!:=by
 obtain⟨⟨h,tk,rfl⟩,i,d,g⟩:=a;obtain⟨⟨h',c,rfl⟩,b2,b3,b4⟩:=b;exact⟨⟨h',c,H⟩,b2.trans i,λb o e q=>b3 b o (g b o q e)<|d b o e q,λb o q e=>b4 b o (d b o e q)<|g b o q e⟩
def Zk(h:Heap)(a)(f):(h.update a f).life=h.life:=by cases h;rfl
def lW.alloc(r:lW l m i s)(f:o.isFreed=am):lW ((m,o)::l) (m+1) i {s with heap:=s.heap.push o}/\mX l ((m,o)::l) s {s with heap:=s.heap.push o}:=by
 obtain hz:=r.q;refine⟨⟨by rw[oJ,hz],r.toks,λa o' e=>?_⟩,⟨⟨_,_,H⟩,Heap.life_push _ _,λb o' c e=>jd _ e,λb o' q e=>?_⟩⟩
 .rw[uk] at e;by_cases h:m=a;.rw[ak h] at e;cases e;subst h;rw[<-hz];exact mZ _ f
  .rw[Z h] at e;exact jd _<|r.own a o' e
 .rw[uk,Z];.exact e
  .rintro rfl;exact kK _<|hz▸(iF q)
def lW.u(r:lW l m i s){a:Nat}{o:Obj}{f:Obj->Obj}(g:jM l a=I o)(j:(f o).isFreed=am):
 lW (oy l a<|f o) m i {s with heap:=s.heap.update a f}/\mX l (oy l a<|f o) s {s with heap:=s.heap.update a f}:=by
 obtain d:=sw ..;refine⟨⟨d.1.trans r.q,r.toks,λb o' q=>?_⟩,⟨⟨_,_,H⟩,Zk _ _ _,λb o' q h=>?_,λb o' h q=>?_⟩⟩
 .rw[Oq] at q;by_cases c:a=b;.subst c;rw[ak H,g] at q;cases q;exact Ai _ (r.own a o g) j
  .rw[Z c] at q;exact(d.2 b<|q7 c).trans<|r.own b o' q
 .by_cases c:b=a;.subst c;rw[g] at q;exact l7 q
  .exact(d.2 b c).trans h
 .rw[Oq];by_cases c:a=b;.subst c;rw[g] at q;exact l7 q
  .rw[Z c];exact q
abbrev Iu(e:Ctx)(t:Sem D)(p:Pos)(o:pu D)(p':Pos)(s z:bT):Prop:=
 ∀(Q:D->Pos->bT->Prop)(b:aL->Pos->bT->Prop),(match o with|.ok a=>Q a p' z|.Cs c=>b c p' z)->nF (hW prog w) e t Q b p s
def pq(prog:Ad)(w:cR){D:Type}(e:Ctx)(t:Sem D)(p:Pos)(l:HL)(m i:Nat)(r:sq<|pu D×Pos):Prop:=
 ∀y,r=I y->∀s,lW l m i s->∃z,lW y.2.1 y.2.2.1 y.2.2.2 z/\mX l y.2.1 s z/\Iu (prog:=prog) (w:=w) e t p y.1.1 y.1.2 s z
def a5h(prog:Ad)(w:cR)(e:Ctx)(p:Pos)(l:HL)(m i:Nat)(r:sq uJ):Prop:=
 ∀y,r=I y->∀s,lW l m i s->∃z,lW y.2.1 y.2.2.1 y.2.2.2 z/\mX l y.2.1 s z/\∀R:uJ->bT->Prop,R y.1 z->wpCode (hW prog w) e R p s
abbrev S1(prog:Ad)(w:cR)(b:SH):Prop:=∀{D:Type}(e:Ctx)(t:Sem D)(p:Pos)(l:HL)(m i:Nat),pq prog w e t p l m i<|b e t p l m i
abbrev S2(prog:Ad)(w:cR)(b:AD):Prop:=∀(e:Ctx)(p:Pos)(l:HL)(m i:Nat),a5h prog w e p l m i<|b e p l m i
def pq.step(g:bT->bT)(n:∀s,lW l m i s->lW l₁ j k (g s)/\mX l l₁ s (g s))(o:∀Q f s,lW l m i s->nF (hW prog w) e u Q f T (g s)->nF (hW prog w) e t Q f p s)(x:pq prog w e u T l₁ j k r):pq prog w e t p l m i r:=
 λy d s R=>eW (x y d _ (n s R).1) λz a b c=>⟨z,a,(n s R).2.q b,λQ f q=>o Q f s R<|c Q f q⟩
def pq.same(f:∀Q b s,lW l m i s->nF (hW prog w) e u Q b T s->nF (hW prog w) e t Q b p s)(x:pq prog w e u T l m i r):pq prog w e t p l m i r:=x.step id (λs R=>⟨R,mX.B _ _⟩) f
def pq.q(x:∀b,o=I b->pq prog w e t p l m i (f b)):pq prog w e t p l m i<|o.bind f:=λy c=>aA (Qh c) λb h=>x b h y
def pq.cond(x:c=am->pq prog w e t p l m i r):pq prog w e t p l m i<|cond c C r:=λy b=>x (PL b).1 y (PL b).2
def a05(k:S2 prog w ec){e:Ctx}{p T:Pos}{l:HL}{x:HL×Nat×Nat}{y:uJ×HL×Nat×Nat}{s d:bT}(r:lW x.1 x.2.1 x.2.2 d)(f:mX l x.1 s d){o:pu Fin}(q:Iu (prog:=prog) (w:=w) e (qS e.code) p o T s d)(h:Pb ec e ((o,T),x)=I y):
 ∃z,lW y.2.1 y.2.2.1 y.2.2.2 z/\mX l y.2.1 s z/\∀R:uJ->bT->Prop,R y.1 z->wpCode (hW prog w) e R p s:=by
 rw[<-Pm] at q;cases o with
 |Cs ex=>exact fg h▸⟨d,r,f,λR' x=>(Hq _ _ _ _ _).mpr<|q _ _ x⟩
 |ok bD=>
  cases bD with
  |done g=>exact fg h▸⟨d,r,f,λR' x=>(Hq _ _ _ _ _).mpr<|q _ _ x⟩
  |again c=>
   have h:cond c.quiet (ec (e.goto c) T x.1 x.2.1 x.2.2) C=I y:=h;cases hq:c.quiet;.rw[hq] at h;exact Bo h
   .rw[hq] at h;exact eW (k _ _ _ _ _ y h d r) λb r₂ i j=>⟨b,r₂,f.q i,λR' x=>(Hq _ _ _ _ _).mpr<|q _ _ ⟨hq,j R' x⟩⟩
def a0X(n):S1 prog w (vK prog w n).1/\S2 prog w (vK prog w n).2:=by
 induction n with
 |zero=>exact⟨λe t p l m i y=>Bo,λe p l m i y h=>Bo h⟩
 |succ n v=>exact⟨(by
  intro D e t p l m i;cases t with
  |pure a=>exactλy h s r=>fg h▸⟨s,r,mX.B _ _,λQ o q=>q⟩
  |raise u=>exactλy h s r=>fg h▸⟨s,r,mX.B _ _,λQ o q=>q⟩
  |rule kz k=>exact(v.1 e (k ()) p l m i).same λQ o s r x=>x
  |«at»T k=>exact(v.1 e (k ()) T l m i).same λQ o s r x=>x
  |point J k=>exact(v.1 e (k ()) p l m i).same λQ o s r x=>x
  |load a rD k=>exact .q λob u=>(v.1 e (k ob) p l m i).same λQ o s r x=>⟨ob,r.own a ob u,x⟩
  |loadIfAlive a k=>exact .q λob u=>(v.1 e (k<|I ob) p l m i).same λQ o s r x=>(r.own a ob u▸x:nF _ e (k<|s.heap.get? a) Q o p s)
  |update a rD f k=>exact .q λob u=>.cond λG=>(v.1 e (k ()) p _ m i).step (λs=>{s with heap:=s.heap.update a f}) (λs r=>r.u u G) λQ o s r x=>⟨(be dA (r.own a ob u):dA (s.heap.get? a)=U),x⟩
  |alloc ob k=>exact .cond λG=>(v.1 e (k m) p _ (m+1) i).step (λs=>{s with heap:=s.heap.push ob}) (λs r=>r.alloc G) λQ o s r x=>Sr (motive:=λj=>nF (hW prog w) e (k j) Q o p {s with heap:=s.heap.push ob}) x r.q.symm
  |fresh k=>exact(v.1 e (k i) p l m<|i+1).step (λs=>{s with toks:=s.toks+1}) (λs r=>⟨⟨r.q,be (·+1) r.toks,r.own⟩,⟨⟨s.heap,s.toks+1,H⟩,H,λC C C u=>u,λC C C u=>u⟩⟩) λQ o s r x=>Sr (motive:=λj=>nF (hW prog w) e (k j) Q o p {s with toks:=s.toks+1}) x r.toks.symm
  |ask k=>exact(v.1 e (k ⟨prog,w.params⟩) p l m i).same λQ o s r x=>x
  |handled own k=>exact(v.1 e (k<|if own then e.own else e.handled) p l m i).same λQ o s r x=>x
  |stack k=>exact(v.1 e (k<|(e.code,p)::e.below) p l m i).same λQ o s r x=>x
  |call c hd g J k=>exact .q λz u y h s r=>eW (v.2 _ _ _ _ _ z u s r) λd r₁ A B=>eW (v.1 e (k z.1) p z.2.1 z.2.2.1 z.2.2.2 y h d r₁) λF a b c=>⟨F,a,A.q b,λQ o x=>B _<|c Q o x⟩
  |_=>exactλy=>Bo),λe p l m i y h s R=>aA (Qh h) λz u k=>eW (v.1 e _ p l m i z u s R) λd r₁ A B=>a05 v.2 r₁ A B k⟩
def Pa(n:Nat){D:Type}(e:Ctx)(t:Sem D)(p:Pos)(l:HL)(m i:Nat)(o:pu D)(p':Pos)(b:HL)(m' f:Nat)(h:ev prog w n e t p l m i=I ((o,p'),b,m',f))(s:bT)(r:lW l m i s):∃z,lW b m' f z/\mX l b s z/\Iu (prog:=prog) (w:=w) e t p o p' s z:=
 (a0X n).1 e t p l m i _ h s r
noncomputable abbrev P0:Program:=PySem.Challenge.pw_xm0539_01
noncomputable def tS(k:Nat):Stmt:=(P0.main.body[k]?).getD<|.Pass default
set_option tactic.hygienic true
noncomputable def yp(st:Stmt):Str×Arguments×List Stmt×Scope:=by
 induction st using Stmt.casesOn with
 |FunctionDef n a b _ _ _ s=>exact(n,a,b,s)
 |ClassDef _ _ _ b=>exact(default,default,b,default)
 |_=>exact(default,default,[],default)
noncomputable def gv(k j:Nat):Stmt:=((yp<|tS k).2.2.1[j]?).getD<|.Pass default
noncomputable def nn:Env:={scope:=P0.main.scope,locals:=3,globals:=3,cells:=[],code:=.ref 13,frame:=I 14}
noncomputable def pJ:Ctx:=⟨.body P0.main.body nn,C,C,[(.builtin "claim.caller" {},default)],C⟩
noncomputable def de(P:fM)(x:Str)(t:Nat)(v:aL):DictEntry:=⟨Ac P x,.str x t,v⟩
noncomputable def Bv(st:Stmt):Str:=(yp st).1
noncomputable def CJ(st:Stmt):Arguments:=(yp st).2.1
noncomputable def a3X(st:Stmt):List Stmt:=(yp st).2.2.1
noncomputable def Vs(st:Stmt):Scope:=(yp st).2.2.2
noncomputable def OR(st:Stmt)(qual:Str)(f b code:aL):Obj:=
 {cls:=.type "function",data:=.func {name:=Bv st,qualname:=qual,params:=CJ st,body:=.stmts<|a3X st,scope:=Vs st,globals:=3,closure:=[],defaults:=b,kwdefaults:=.none,pyModule:=f,code,builtins:=0}}
noncomputable def vo:Obj:=⟨.type "code",C,.fields #[.str "<module>" 182,.str "<module>" 183,.str "/claim/cut.py" 184,.int 1 0,.int 0 0,.int 0 0,.int 0 0,.int 0 0,.ref 11,.bool am,.int 181 0,.ref 12,.none,.none,.none,.none,.int 185 0,.int 1 0,.str "/claim/cut.py" 186],#[]⟩
noncomputable def vn:Obj:=⟨.type "frame",C,.plain,#[I<|.ref 13,I<|.ref 3,I<|.ref 3,C,I<|.str "__main__" 164,C,I<|.ref 0]⟩
noncomputable def Vk(as:List Nat)(r:sq<|pu D×Pos):Option<|pu D×List (Option Obj)×Nat×Nat:=r.map λx=>(x.1.1,as.map<|jM x.2.1,x.2.2)
def lU(X:HL)(r:sq<|pu D×Pos)(o:pu D)(m i:Nat):Prop:=Vk (X.map (·.1)) r=I (o,X.map λp=>I p.2,m,i)
noncomputable def rf(n:Nat):Value:=bif fk n 0 then .none else .ref n
noncomputable def cd(n q:Str)(t:Nat)(g j k:Int)(r:Nat)(b:Bool)(s x y f u v:Nat):Obj:=⟨.type "code",C,.fields #[.str n t,.str q<|t+1,.str "/claim/cut.py"<|t+2,.int g 0,.int j 0,.int 0 0,.int 0 0,.int k 0,.ref r,.bool b,.int 181 0,.ref s,rf x,rf y,rf f,rf u,.int v 0,.int g 0,.str "/claim/cut.py"<|v+1],#[]⟩
noncomputable def f1(a:Nat)(st:Stmt)(q:Str)(t:Nat)(g j:Int)(r s x y b u v:Nat)(m f:aL)(K:Frag):Frag:=(a,cd (Bv st) q t g j 3 r U s x y b u v)::(a+1,OR st q m f<|.ref a)::K
noncomputable def f0(a k t:Nat)(g j:Int)(r s x y b u v:Nat)(m f:aL)(K:Frag):Frag:=f1 a (tS k) (Bv<|tS k) t g j r s x y b u v m f K
noncomputable def tu(l:List aL):Obj:=⟨.type "tuple",C,.seq l.toArray 0,#[]⟩
noncomputable def hI(P:fM)(x:Str)(t:Nat)(v:Int)(K:List kj):List DictEntry:=de P x t (.int v<|t-1)::K
noncomputable def hR(P:fM)(x:Str)(t v:Nat)(K:List kj):List DictEntry:=de P x t (.ref v)::K
noncomputable def hD(P:fM)(x:Str)(t:Nat)(v:aL)(K:List kj):List DictEntry:=de P x t v::K
noncomputable def k0(a:Nat)(o:Obj)(K:Frag):Frag:=(a,o)::K
noncomputable def XH:List (Nat×Nat)->List Value:=List.rec [] λp b r=>.int p.1 0::.int 0 0::.ref p.2::r
noncomputable abbrev YK:Value:=(.str "__main__" 164)
noncomputable abbrev ET:Value:=(.str "kindkeep.diags" 194)
noncomputable abbrev jx:Value:=(.str "kindkeep.types" 283)
noncomputable abbrev BA:Value:=(.str "kindkeep.typeops" 653)
noncomputable abbrev hO:Value:=(.str "kindkeep.guess" 692)
noncomputable abbrev ir:Value:=(.str "kindkeep.settle" 1090)
noncomputable abbrev kE:Value:=(.str "kindkeep.hosts" 1358)
noncomputable abbrev iO:Value:=(.str "law_xm0539_01" 1592)
noncomputable def vu(P:fM)(nm:aL):List DictEntry:=
 hD P "__name__" 165 nm<|
 hD P "__doc__" 166 .none<|
 hD P "__package__" 167 .none<|
 hD P "__loader__" 168 (.builtin "__main__.__loader__#opaque")<|
 hD P "__spec__" 169 .none<|
 hR P "__annotations__" 170 6<|
 hR P "__builtins__" 171 4<|
 hD P "__file__" 173 (.str "/claim/cut.py" 172)<|
 hD P "__cached__" 174 .none<|
 hR P "_wall" 193 21<|
 hR P "KeepError" 226 39<|
 hR P "TooDeep" 255 60<|
 hR P "HostFault" 282 80<|
 hI P "Y_KEY" 286 1<|
 hI P "Y_BOOL" 288 2<|
 hI P "Y_STR" 290 3<|
 hI P "Y_NUM" 292 4<|
 hI P "Y_ENUM" 294 5<|
 hI P "Y_UNION" 296 6<|
 hI P "Y_INTER" 298 7<|
 hI P "Y_OBJ" 300 8<|
 hI P "Y_REF" 302 9<|
 hI P "Y_PARAM" 304 10<|
 hI P "Y_ARRAY" 306 11<|
 hI P "Y_TUPLE" 308 12<|
 hI P "Y_SIG" 310 13<|
 hI P "Y_KEYOF" 312 14<|
 hI P "Y_INDEX" 314 15<|
 hI P "Y_COND" 316 16<|
 hI P "Y_MAPPED" 318 17<|
 hI P "Y_TPL" 320 18<|
 hI P "ANY" 322 0<|
 hI P "UNKNOWN" 324 1<|
 hI P "NEVER" 326 2<|
 hI P "VOID" 328 3<|
 hI P "UNDEF" 330 4<|
 hI P "NULLT" 332 5<|
 hI P "STRING" 334 6<|
 hI P "NUMBER" 336 7<|
 hI P "FALSE_T" 338 8<|
 hI P "TRUE_T" 340 9<|
 hI P "OBJECTT" 342 10<|
 hI P "EMPTY" 344 11<|
 hI P "BOOLEAN" 346 12<|
 hI P "ERR" 348 13<|
 hI P "FRESH_F" 350 14<|
 hI P "FRESH_T" 352 15<|
 hI P "FAM_OTHER" 354 0<|
 hI P "FAM_STR" 356 1<|
 hI P "FAM_NUM" 358 2<|
 hI P "FAM_BOOL" 360 3<|
 hI P "FAM_NULL" 362 4<|
 hI P "FAM_UNDEF" 364 5<|
 hI P "FAM_VOID" 366 6<|
 hI P "FAM_OBJ" 368 7<|
 hI P "MAX_UNION" 370 400<|
 hR P "FIRST_ROWS" 392 105<|
 hR P "LITERAL_ROWS" 393 106<|
 hR P "MARKED_ROWS" 394 107<|
 hR P "OBJECT_ROWS" 395 108<|
 hR P "KEY_FAMILIES" 402 109<|
 hR P "TypeTable" 457 140<|
 hR P "kind_of" 465 151<|
 hR P "str_type" 475 159<|
 hR P "num_type" 485 167<|
 hR P "member_type" 500 175<|
 hR P "new_param" 515 183<|
 hR P "parts_of" 524 190<|
 hR P "whole_of_row" 532 197<|
 hR P "regular_twin" 541 204<|
 hR P "join_bools" 548 211<|
 hR P "stays_beside" 557 218<|
 hR P "top_of" 565 225<|
 hR P "union" 571 230<|
 hR P "is_literal" 579 237<|
 hR P "is_fresh" 588 244<|
 hR P "regular_one" 596 251<|
 hR P "regular" 602 256<|
 hR P "enum_type" 608 261<|
 hR P "whole_of" 618 268<|
 hR P "base_of_literal" 624 273<|
 hR P "common_family" 630 278<|
 hR P "meet_family" 641 285<|
 hR P "family" 652 292<|
 hR P "value_holds" 664 299<|
 hR P "units_fit" 677 306<|
 hR P "widen_one" 685 313<|
 hR P "widen_literal" 691 318<|
 hI P "PR_PLAIN" 695 0<|
 hI P "PR_NAKED" 697 1<|
 hI P "PR_MAPPED" 699 2<|
 hI P "PR_KEYED" 701 4<|
 hI P "PR_RETURN" 703 16<|
 hI P "PR_KEYOF" 705 32<|
 hI P "PR_MOST" 707 1024<|
 hD P "PR_CIRCLE" 710 (.int (-1) 709)<|
 hD P "SLOT" 713 (.int (-2) 712)<|
 hD P "MARK" 715 (.str "?" 714)<|
 hI P "MOST_LEVEL" 717 12<|
 hI P "MOST_DEEP" 719 40<|
 hI P "MOST_STEPS" 721 20000<|
 hI P "MOST_BRANCHES" 723 3<|
 hR P "ONCE_ROWS" 724 319<|
 hR P "Meeter" 781 355<|
 hR P "Guessing" 876 397<|
 hR P "is_asked" 886 408<|
 hR P "holds_primitive" 900 416<|
 hR P "keeps_literals" 908 423<|
 hR P "holds_mark" 917 430<|
 hR P "holds_own" 923 435<|
 hR P "at_top" 936 443<|
 hR P "begin_wanted" 946 450<|
 hR P "put_wanted" 957 457<|
 hR P "put_candidate" 963 462<|
 hR P "put_silent" 973 469<|
 hR P "infer_from" 983 476<|
 hR P "infer_target" 994 483<|
 hR P "infer_once" 1007 490<|
 hR P "is_naked" 1016 497<|
 hR P "same_or_literal" 1026 504<|
 hR P "same_part" 1036 511<|
 hR P "same_maker" 1047 518<|
 hR P "take_matches" 1053 523<|
 hR P "source_parts" 1059 528<|
 hR P "infer_union" 1065 533<|
 hR P "reached_by" 1077 540<|
 hR P "infer_parts" 1083 545<|
 hR P "met_naked" 1089 550<|
 hI P "MOST_SETTLING" 1093 60<|
 hR P "without_nullish" 1099 555<|
 hR P "nullish_of" 1110 562<|
 hR P "of_one_whole" 1121 569<|
 hR P "leftmost_top" 1131 576<|
 hR P "common_super" 1137 581<|
 hR P "common_sub" 1147 588<|
 hR P "best_priority" 1159 595<|
 hR P "kept_kinds" 1165 600<|
 hR P "lies_under" 1176 607<|
 hR P "reduced_union" 1182 612<|
 hR P "settle_is_written" 1192 619<|
 hR P "join_fresh" 1198 624<|
 hR P "stored" 1209 631<|
 hR P "regular_literals" 1219 638<|
 hR P "widens" 1227 645<|
 hR P "joined_kinds" 1234 652<|
 hR P "co_answer" 1240 657<|
 hR P "contra_answer" 1249 664<|
 hR P "settle_all_fit" 1259 671<|
 hR P "leaning_pids" 1270 678<|
 hR P "co_wins" 1282 685<|
 hR P "both_answers" 1294 692<|
 hR P "wanted_answers" 1304 699<|
 hR P "with_answers" 1314 706<|
 hR P "default_answer" 1323 713<|
 hR P "by_want_alone" 1331 720<|
 hR P "within_bound" 1337 725<|
 hR P "settle_one" 1348 732<|
 hR P "answers_of" 1357 739<|
 hI P "MOST_ROUNDS" 1361 200<|
 hI P "MOST_SHAPES" 1363 40<|
 hR P "Thin" 1549 882<|
 hR P "RefHost" 1591 917<|
 hI P "_law_ANY" 1595 8192<|
 hI P "_law_UNKNOWN" 1597 4096<|
 hR P "_law_HEARD" 1614 920<|
 hR P "_law_BESIDE" 1622 921<|
 hR P "_law_take" 1632 928<|
 hR P "_law_sum" 1639 935<|
 hR P "_law_plain" 1646 942<|
 hR P "_law_wide" 1653 949<|
 hR P "_law_whole" 1660 956<|
 hR P "_law_lies" 1669 963<|
 hR P "_law_best" 1675 968<|
 hR P "_law_at" 1686 975<|
 hR P "_law_low" 1696 982<|
 hR P "_law_highest" 1702 987<|
 hR P "_law_common" 1708 992<|
 hR P "_law_keeps" 1716 999<|
 hR P "_law_wins" 1722 1004<|
 hR P "_law_two" 1728 1009<|
 hR P "_law_named" 1737 1016<|
 hR P "_law_reply" 1754 1023<|
 hR P "_law_replies" 1764 1030<|
 hR P "_law_term" 1776 1037<|
 hR P "_law_world" 1782 1042<|
 hR P "_law_hearing" 1796 1049<|
 hR P "_law_hear" 1813 1056<|
 hR P "_law_atom" 1822 1063<|
 hR P "_law_type" 1828 1068<|
 hR P "_law_laid" 1844 1075<|
 hR P "_law_guess" 1850 1080<|
 hR P "_law_told" 1865 1087<|
 hR P "_law_wished" 1880 1094<|
 hR P "law" 1886 1099<|[]
noncomputable def vl:List Value:=XH [(1,20),(5,27),(10,48),(15,68),(69,115),(95,150),(97,158),(99,166),(101,174),(107,182),(113,189),(120,196),(129,203),(134,210),(138,217),(142,224),(147,229),(164,236),(166,243),(169,250),(173,255),(177,260),(182,267),(190,272),(192,277),(196,284),(205,291),(223,298),(228,305),(238,312),(242,317),(260,325),(277,365),(329,407),(337,415),(354,422),(358,429),(363,434),(369,442),(383,449),(390,456),(403,461),(433,468),(438,475),(453,482),(466,489),(488,496),(491,503),(499,510),(506,517),(514,522),(526,527),(528,532),(542,539),(550,544),(570,549),(581,554),(583,561),(590,568),(599,575),(605,580),(619,587),(627,594),(634,599),(636,606),(644,611),(650,618),(653,623),(659,630),(665,637),(670,644),(674,651),(676,656),(688,663),(694,670),(699,677),(707,684),(717,691),(729,698),(738,705),(744,712),(752,719),(754,724),(767,731),(787,738),(795,745),(857,892),(872,927),(877,934),(885,941),(887,948),(889,955),(891,962),(897,967),(899,974),(905,981),(913,986),(922,991),(937,998),(939,1003),(948,1008),(973,1015),(977,1022),(999,1029),(1004,1036),(1009,1041),(1018,1048),(1031,1055),(1046,1062),(1051,1067),(1053,1074),(1071,1079),(1085,1086),(1096,1093),(1107,1098)]
noncomputable def UT(P:fM):Obj:=⟨.none,C,.dict #[] 0,#[]⟩
noncomputable def YY(P:fM):Obj:=⟨.type "dict",C,.dict ((vu P<|.str "__main__" 164).take 9).toArray 9,#[]⟩
noncomputable def XR:Obj:=⟨.none,C,.fields (vl.take 0).toArray,#[]⟩
noncomputable def wJ(P:fM):Obj:=⟨.none,C,.dict #[de P "type.__subclasses__.Exception.0" 223<|.int 39 0,de P "type.__subclasses__.Exception.n" 224<|.int 1 0] 2,#[]⟩
noncomputable def YX(P:fM):Obj:=⟨.type "dict",C,.dict ((vu P<|.str "kindkeep.types" 283).take 60).toArray 60,#[]⟩
noncomputable def XQ:Obj:=⟨.none,C,.fields (vl.take 12).toArray,#[]⟩
noncomputable def US(P:fM):Obj:=wJ P
noncomputable def YW(P:fM):Obj:=⟨.type "dict",C,.dict ((vu P<|.str "kindkeep.types" 283).take 61).toArray 61,#[]⟩
noncomputable def XP:Obj:=⟨.none,C,.fields (vl.take 12).toArray,#[]⟩
noncomputable def UQ(P:fM):Obj:=wJ P
noncomputable def YV(P:fM):Obj:=⟨.type "dict",C,.dict ((vu P<|.str "kindkeep.guess" 692).take 88).toArray 88,#[]⟩
noncomputable def XO:Obj:=⟨.none,C,.fields (vl.take 93).toArray,#[]⟩
noncomputable def UP(P:fM):Obj:=wJ P
noncomputable def YU(P:fM):Obj:=⟨.type "dict",C,.dict ((vu P<|.str "kindkeep.guess" 692).take 128).toArray 128,#[]⟩
noncomputable def XN:Obj:=⟨.none,C,.fields (vl.take 168).toArray,#[]⟩
noncomputable def UO(P:fM):Obj:=wJ P
noncomputable def YT(P:fM):Obj:=⟨.type "dict",C,.dict ((vu P<|.str "kindkeep.hosts" 1358).take 162).toArray 162,#[]⟩
noncomputable def XM:Obj:=⟨.none,C,.fields (vl.take 261).toArray,#[]⟩
noncomputable def iX(P:fM):Obj:=wJ P
noncomputable def i7(P:fM):Obj:=⟨.type "dict",C,.dict ((vu P<|.str "law_xm0539_01" 1592).take 194).toArray 194,#[]⟩
noncomputable def XK:Obj:=⟨.none,C,.fields (vl.take 345).toArray,#[]⟩
noncomputable def SF(P:fM):Frag:=
 f0 20 0 187 1 1 15 16 0 17 18 19 191 YK .none<|
 k0 27 (cd (cv "KeepError") (cv "KeepError") 198 5 0 0 25 am 26 0 0 0 0 201)<|
 k0 29 (tu [.str "" 208])<|
 f1 35 (gv 2 0) "KeepError.__init__" 209 7 2 30 31 0 32 33 34 214 ET (.ref 29)<|
 k0 38 ⟨.type "dict",C,.dict #[de P "__module__" 203<|.str "kindkeep.diags" 194,de P "__firstlineno__" 207<|.int 5 206,de P "__init__" 216<|.ref 36,de P "__static_attributes__" 219<|.ref 37,de P "__weakref__" 221<|.ref 40,de P "__doc__" 222 .none] 3,#[]⟩<|
 k0 39 ⟨.type "type",C,.cls ⟨cv "KeepError",[.type "Exception"],[.ref 39,.type "Exception",.type "BaseException",.type "object"],38,cv "KeepError",U,[],[.ref 60,.ref 80],am,C,am⟩,#[I<|.ref 22,C,I<|.str "KeepError" 196,I<|.str "KeepError" 204,I<|.builtin "Exception.__new__",I<|.bool U]⟩<|
 k0 40 ⟨.type "getset_descriptor",C,.fields #[.str "__weakref__" 220,.ref 39,.builtin "ExceptionGroup.__weakref__",.none],#[]⟩<|
 k0 48 (cd (cv "TooDeep") (cv "TooDeep") 229 10 0 0 46 am 47 0 0 0 0 232)<|
 k0 50 (tu [.int 2589 239,.str "" 240])<|
 f1 56 (gv 3 0) "TooDeep.__init__" 241 12 3 51 52 0 53 54 55 247 ET (.ref 50)<|
 k0 59 ⟨.type "dict",C,.dict #[de P "__module__" 234<|.str "kindkeep.diags" 194,de P "__firstlineno__" 238<|.int 10 237,de P "__init__" 249<|.ref 57,de P "__static_attributes__" 252<|.ref 58,de P "__doc__" 253 .none] 2,#[]⟩<|
 k0 60 ⟨.type "type",C,.cls ⟨cv "TooDeep",[.ref 39],[.ref 60,.ref 39,.type "Exception",.type "BaseException",.type "object"],59,cv "TooDeep",U,[],[],am,C,am⟩,#[I<|.ref 43,C,I<|.str "TooDeep" 227,I<|.str "TooDeep" 235,I<|.builtin "Exception.__new__",I<|.bool U]⟩<|
 k0 68 (cd (cv "HostFault") (cv "HostFault") 258 15 0 0 66 am 67 0 0 0 0 261)<|
 k0 70 (tu [.str "" 268])<|
 f1 76 (gv 4 0) "HostFault.__init__" 269 17 2 71 72 0 73 74 75 274 ET (.ref 70)<|
 k0 79 ⟨.type "dict",C,.dict #[de P "__module__" 263<|.str "kindkeep.diags" 194,de P "__firstlineno__" 267<|.int 15 266,de P "__init__" 276<|.ref 77,de P "__static_attributes__" 279<|.ref 78,de P "__doc__" 280 .none] 2,#[]⟩<|
 k0 80 ⟨.type "type",C,.cls ⟨cv "HostFault",[.ref 39],[.ref 80,.ref 39,.type "Exception",.type "BaseException",.type "object"],79,cv "HostFault",U,[],[],am,C,am⟩,#[I<|.ref 63,C,I<|.str "HostFault" 256,I<|.str "HostFault" 264,I<|.builtin "Exception.__new__",I<|.bool U]⟩<|
 k0 83 (tu [.int 1 285,.str "any" 371])<|
 k0 84 (tu [.int 1 285,.str "unknown" 372])<|
 k0 85 (tu [.int 1 285,.str "never" 373])<|
 k0 86 (tu [.int 1 285,.str "void" 374])<|
 k0 87 (tu [.int 1 285,.str "undefined" 375])<|
 k0 88 (tu [.int 1 285,.str "null" 376])<|
 k0 89 (tu [.int 1 285,.str "string" 377])<|
 k0 90 (tu [.int 1 285,.str "number" 378])<|
 k0 91 (tu [.int 2 287,.int 0 379,.int 0 380])<|
 k0 92 (tu [.int 2 287,.int 1 381,.int 0 382])<|
 k0 93 (tu [.int 1 285,.str "object" 383])<|
 k0 94 (tu [])<|
 k0 95 (tu [])<|
 k0 96 (tu [])<|
 k0 97 (tu [])<|
 k0 98 (tu [])<|
 k0 99 (tu [.int 8 299,.ref 94,.ref 95,.ref 96,.ref 97,.ref 98,.int 0 384])<|
 k0 100 (tu [.int 8 385,.int 9 386])<|
 k0 101 (tu [.int 6 295,.ref 100])<|
 k0 102 (tu [.int 1 285,.str "error" 387])<|
 k0 103 (tu [.int 2 287,.int 0 388,.int 1 389])<|
 k0 104 (tu [.int 2 287,.int 1 390,.int 1 391])<|
 k0 105 (tu [.ref 83,.ref 84,.ref 85,.ref 86,.ref 87,.ref 88,.ref 89,.ref 90,.ref 91,.ref 92,.ref 93,.ref 99,.ref 101,.ref 102,.ref 103,.ref 104])<|
 k0 106 (tu [.int 2 287,.int 3 289,.int 4 291,.int 5 293])<|
 k0 107 (tu [.int 2 287,.int 3 289,.int 4 291,.int 5 293,.int 8 299])<|
 k0 108 (tu [.int 8 299,.int 9 301,.int 11 305,.int 12 307,.int 13 309])<|[]
noncomputable def SD(P:fM):Frag:=
 k0 109 ⟨.type "dict",C,.dict #[⟨3,.int 3 327,.int 6 365⟩,⟨4,.int 4 329,.int 5 363⟩,⟨5,.int 5 331,.int 4 361⟩,⟨6,.int 6 333,.int 1 355⟩,⟨7,.int 7 335,.int 2 357⟩,⟨10,.int 10 341,.int 7 367⟩] 6,#[]⟩<|[]
noncomputable def SA(P:fM):Frag:=
 k0 115 (cd (cv "TypeTable") (cv "TypeTable") 405 69 0 0 113 am 114 0 0 0 0 408)<|
 f1 122 (gv 54 0) "TypeTable.__init__" 415 71 1 117 118 0 119 120 121 420 jx .none<|
 f1 129 (gv 54 1) "TypeTable.row" 423 85 2 124 125 0 126 127 128 428 jx .none<|
 f1 136 (gv 54 2) "TypeTable.put" 431 88 2 131 132 0 133 134 135 437 jx .none<|
 k0 139 ⟨.type "dict",C,.dict #[de P "__module__" 410<|.str "kindkeep.types" 283,de P "__firstlineno__" 414<|.int 69 413,de P "__init__" 422<|.ref 123,de P "row" 430<|.ref 130,de P "put" 439<|.ref 137,de P "__static_attributes__" 450<|.ref 138,de P "__dict__" 452<|.ref 141,de P "__weakref__" 454<|.ref 142,de P "__doc__" 455 .none] 4,#[]⟩<|
 k0 140 ⟨.type "type",C,.cls ⟨cv "TypeTable",[.type "object"],[.ref 140,.type "object"],139,cv "TypeTable",U,[],[],am,C,am⟩,#[C,C,I<|.str "TypeTable" 403,I<|.str "TypeTable" 411,I<|.builtin "object.__new__",I<|.bool U]⟩<|
 k0 141 ⟨.type "getset_descriptor",C,.fields #[.str "__dict__" 451,.ref 140,.builtin "function.__dict__",.builtin "function.__dict__#set"],#[]⟩<|
 k0 142 ⟨.type "getset_descriptor",C,.fields #[.str "__weakref__" 453,.ref 140,.builtin "ExceptionGroup.__weakref__",.none],#[]⟩<|
 f0 150 55 458 95 2 145 146 0 147 148 149 463 jx .none<|
 k0 152 (tu [.int 0 466])<|
 f0 158 56 467 97 3 153 154 0 155 156 157 473 jx (.ref 152)<|
 k0 160 (tu [.int 0 476])<|
 f0 166 57 477 99 3 161 162 0 163 164 165 483 jx (.ref 160)<|
 k0 168 (tu [.int 0 486])<|
 f0 174 58 487 101 5 169 170 0 171 172 173 498 jx (.ref 168)<|
 k0 176 (tu [.int (-1) 502,.int (-1) 504])<|
 f0 182 59 505 107 4 177 178 0 179 180 181 513 jx (.ref 176)<|
 f0 189 60 516 113 2 184 185 0 186 187 188 522 jx .none<|
 f0 196 61 525 120 1 191 192 0 193 194 195 530 jx .none<|
 f0 203 62 533 129 2 198 199 0 200 201 202 539 jx .none<|
 f0 210 63 542 134 1 205 206 0 207 208 209 546 jx .none<|
 f0 217 64 549 138 3 212 213 0 214 215 216 555 jx .none<|
 f0 224 65 558 142 1 219 220 0 221 222 223 563 jx .none<|
 f0 229 66 566 147 2 226 227 0 0 0 228 569 jx .none<|
 f0 236 67 572 164 2 231 232 0 233 234 235 577 jx .none<|
 f0 243 68 580 166 2 238 239 0 240 241 242 586 jx .none<|
 f0 250 69 589 169 2 245 246 0 247 248 249 594 jx .none<|
 f0 255 70 597 173 2 252 253 0 0 0 254 600 jx .none<|
 f0 260 71 603 177 2 257 258 0 0 0 259 606 jx .none<|
 f0 267 72 609 182 2 262 263 0 264 265 266 616 jx .none<|
 f0 272 73 619 190 2 269 270 0 0 0 271 622 jx .none<|
 f0 277 74 625 192 2 274 275 0 0 0 276 628 jx .none<|
 f0 284 75 631 196 2 279 280 0 281 282 283 639 jx .none<|
 f0 291 76 642 205 2 286 287 0 288 289 290 650 jx .none<|
 f0 298 78 655 223 3 293 294 0 295 296 297 662 BA .none<|
 f0 305 79 665 228 3 300 301 0 302 303 304 675 BA .none<|
 f0 312 80 678 238 2 307 308 0 309 310 311 683 BA .none<|
 f0 317 81 686 242 2 314 315 0 0 0 316 689 BA .none<|[]
noncomputable def Sz(P:fM):Frag:=
 k0 319 (tu [.int 8 299,.int 9 301,.int 12 307,.int 16 315,.int 17 317])<|
 k0 325 (cd (cv "Meeter") (cv "Meeter") 727 260 0 0 323 am 324 0 0 0 0 730)<|
 f1 332 (gv 98 0) "Meeter.meet" 737 262 3 327 328 0 329 330 331 743 hO .none<|
 f1 337 (gv 98 1) "Meeter.params" 746 265 3 334 335 0 0 0 336 749 hO .none<|
 f1 344 (gv 98 2) "Meeter.put" 752 268 4 339 340 0 341 342 343 762 hO .none<|
 f1 351 (gv 98 3) "Meeter.store" 765 275 3 346 347 0 348 349 350 771 hO .none<|
 k0 354 ⟨.type "dict",C,.dict #[de P "__module__" 732<|.str "kindkeep.guess" 692,de P "__firstlineno__" 736<|.int 260 735,de P "meet" 745<|.ref 333,de P "params" 751<|.ref 338,de P "put" 764<|.ref 345,de P "store" 773<|.ref 352,de P "__static_attributes__" 774<|.ref 353,de P "__dict__" 776<|.ref 356,de P "__weakref__" 778<|.ref 357,de P "__doc__" 779 .none] 4,#[]⟩<|
 k0 355 ⟨.type "type",C,.cls ⟨cv "Meeter",[.type "object"],[.ref 355,.type "object"],354,cv "Meeter",U,[],[],am,C,am⟩,#[C,C,I<|.str "Meeter" 725,I<|.str "Meeter" 733,I<|.builtin "object.__new__",I<|.bool U]⟩<|
 k0 356 ⟨.type "getset_descriptor",C,.fields #[.str "__dict__" 775,.ref 355,.builtin "function.__dict__",.builtin "function.__dict__#set"],#[]⟩<|
 k0 357 ⟨.type "getset_descriptor",C,.fields #[.str "__weakref__" 777,.ref 355,.builtin "ExceptionGroup.__weakref__",.none],#[]⟩<|
 k0 365 (cd (cv "Guessing") (cv "Guessing") 784 277 0 0 363 am 364 0 0 0 0 787)<|
 f1 372 (gv 99 0) "Guessing.__init__" 794 279 3 367 368 0 369 370 371 800 hO .none<|
 f1 379 (gv 99 1) "Guessing.go" 803 317 4 374 375 0 376 377 378 810 hO .none<|
 f1 386 (gv 99 2) "Guessing.deeper" 813 320 4 381 382 0 383 384 385 820 hO .none<|
 f1 393 (gv 99 3) "Guessing.turn" 823 325 4 388 389 0 390 391 392 830 hO .none<|
 k0 396 ⟨.type "dict",C,.dict #[de P "__module__" 789<|.str "kindkeep.guess" 692,de P "__firstlineno__" 793<|.int 277 792,de P "__init__" 802<|.ref 373,de P "go" 812<|.ref 380,de P "deeper" 822<|.ref 387,de P "turn" 832<|.ref 394,de P "__static_attributes__" 869<|.ref 395,de P "__dict__" 871<|.ref 398,de P "__weakref__" 873<|.ref 399,de P "__doc__" 874 .none] 4,#[]⟩<|
 k0 397 ⟨.type "type",C,.cls ⟨cv "Guessing",[.type "object"],[.ref 397,.type "object"],396,cv "Guessing",U,[],[],am,C,am⟩,#[C,C,I<|.str "Guessing" 782,I<|.str "Guessing" 790,I<|.builtin "object.__new__",I<|.bool U]⟩<|
 k0 398 ⟨.type "getset_descriptor",C,.fields #[.str "__dict__" 870,.ref 397,.builtin "function.__dict__",.builtin "function.__dict__#set"],#[]⟩<|
 k0 399 ⟨.type "getset_descriptor",C,.fields #[.str "__weakref__" 872,.ref 397,.builtin "ExceptionGroup.__weakref__",.none],#[]⟩<|
 f0 407 100 877 329 2 402 403 0 404 405 406 884 hO .none<|
 k0 409 (tu [.int 0 887])<|
 f0 415 101 888 337 3 410 411 0 412 413 414 898 hO (.ref 409)<|
 f0 422 102 901 354 2 417 418 0 419 420 421 906 hO .none<|
 f0 429 103 909 358 2 424 425 0 426 427 428 915 hO .none<|
 f0 434 104 918 363 2 431 432 0 0 0 433 921 hO .none<|
 k0 436 (tu [.int 0 924])<|
 f0 442 105 925 369 4 437 438 0 439 440 441 934 hO (.ref 436)<|
 f0 449 106 937 383 3 444 445 0 446 447 448 944 hO .none<|
 f0 456 107 947 390 4 451 452 0 453 454 455 955 hO .none<|
 f0 461 108 958 403 4 458 459 0 0 0 460 961 hO .none<|
 f0 468 109 964 433 3 463 464 0 465 466 467 971 hO .none<|
 f0 475 110 974 438 4 470 471 0 472 473 474 981 hO .none<|
 f0 482 111 984 453 4 477 478 0 479 480 481 992 hO .none<|
 f0 489 112 995 466 4 484 485 0 486 487 488 1005 hO .none<|
 f0 496 113 1008 488 2 491 492 0 493 494 495 1014 hO .none<|
 f0 503 114 1017 491 3 498 499 0 500 501 502 1024 hO .none<|
 f0 510 115 1027 499 3 505 506 0 507 508 509 1034 hO .none<|
 f0 517 116 1037 506 3 512 513 0 514 515 516 1045 hO .none<|
 f0 522 117 1048 514 5 519 520 0 0 0 521 1051 hO .none<|
 f0 527 118 1054 526 2 524 525 0 0 0 526 1057 hO .none<|
 f0 532 119 1060 528 4 529 530 0 0 0 531 1063 hO .none<|
 f0 539 120 1066 542 4 534 535 0 536 537 538 1075 hO .none<|
 f0 544 121 1078 550 4 541 542 0 0 0 543 1081 hO .none<|
 f0 549 122 1084 570 2 546 547 0 0 0 548 1087 hO .none<|[]
noncomputable def Sy(P:fM):Frag:=
 f0 554 125 1094 581 2 551 552 0 0 0 553 1097 ir .none<|
 f0 561 126 1100 583 2 556 557 0 558 559 560 1108 ir .none<|
 f0 568 127 1111 590 2 563 564 0 565 566 567 1119 ir .none<|
 f0 575 128 1122 599 2 570 571 0 572 573 574 1129 ir .none<|
 f0 580 129 1132 605 2 577 578 0 0 0 579 1135 ir .none<|
 f0 587 130 1138 619 2 582 583 0 584 585 586 1145 ir .none<|
 f0 594 131 1148 627 2 589 590 0 591 592 593 1157 ir .none<|
 f0 599 132 1160 634 3 596 597 0 0 0 598 1163 ir .none<|
 f0 606 133 1166 636 4 601 602 0 603 604 605 1174 ir .none<|
 f0 611 134 1177 644 2 608 609 0 0 0 610 1180 ir .none<|
 f0 618 135 1183 650 3 613 614 0 615 616 617 1190 ir .none<|
 f0 623 136 1193 653 3 620 621 0 0 0 622 1196 ir .none<|
 f0 630 137 1199 659 2 625 626 0 627 628 629 1207 ir .none<|
 f0 637 138 1210 665 2 632 633 0 634 635 636 1217 ir .none<|
 f0 644 139 1220 670 2 639 640 0 641 642 643 1225 ir .none<|
 f0 651 140 1228 674 1 646 647 0 648 649 650 1232 ir .none<|
 f0 656 141 1235 676 4 653 654 0 0 0 655 1238 ir .none<|
 f0 663 142 1241 688 3 658 659 0 660 661 662 1247 ir .none<|
 f0 670 143 1250 694 3 665 666 0 667 668 669 1257 ir .none<|
 f0 677 144 1260 699 2 672 673 0 674 675 676 1268 ir .none<|
 f0 684 145 1271 707 4 679 680 0 681 682 683 1280 ir .none<|
 f0 691 146 1283 717 2 686 687 0 688 689 690 1292 ir .none<|
 f0 698 147 1295 729 2 693 694 0 695 696 697 1302 ir .none<|
 f0 705 148 1305 738 2 700 701 0 702 703 704 1312 ir .none<|
 f0 712 149 1315 744 2 707 708 0 709 710 711 1321 ir .none<|
 f0 719 150 1324 752 2 714 715 0 716 717 718 1329 ir .none<|
 f0 724 151 1332 754 4 721 722 0 0 0 723 1335 ir .none<|
 f0 731 152 1338 767 2 726 727 0 728 729 730 1346 ir .none<|
 f0 738 153 1349 787 1 733 734 0 735 736 737 1355 ir .none<|
 k0 745 (cd (cv "Thin") (cv "Thin") 1366 795 0 0 743 am 744 0 0 0 0 1369)<|
 f1 752 (gv 157 0) "Thin.__init__" 1376 797 2 747 748 0 749 750 751 1381 kE .none<|
 f1 759 (gv 157 1) "Thin.force" 1384 804 2 754 755 0 756 757 758 1389 kE .none<|
 f1 766 (gv 157 2) "Thin.put_deferred" 1392 807 2 761 762 0 763 764 765 1397 kE .none<|
 f1 773 (gv 157 3) "Thin.put_cond" 1400 810 3 768 769 0 770 771 772 1406 kE .none<|
 f1 780 (gv 157 4) "Thin.lay_row" 1409 813 3 775 776 0 777 778 779 1415 kE .none<|
 f1 787 (gv 157 5) "Thin.bound" 1418 816 2 782 783 0 784 785 786 1423 kE .none<|
 f1 794 (gv 157 6) "Thin.shape" 1426 819 2 789 790 0 791 792 793 1431 kE .none<|
 f1 801 (gv 157 7) "Thin.fits" 1434 822 3 796 797 0 798 799 800 1440 kE .none<|
 f1 808 (gv 157 8) "Thin.lies" 1443 825 3 803 804 0 805 806 807 1449 kE .none<|
 f1 815 (gv 157 9) "Thin.infers" 1452 828 4 810 811 0 812 813 814 1459 kE .none<|
 f1 822 (gv 157 10) "Thin.tpl_fits" 1462 831 3 817 818 0 819 820 821 1468 kE .none<|
 f1 829 (gv 157 11) "Thin.shape_fits" 1471 834 3 824 825 0 826 827 828 1477 kE .none<|
 f1 836 (gv 157 12) "Thin.put_in" 1480 837 3 831 832 0 833 834 835 1486 kE .none<|
 f1 843 (gv 157 13) "Thin.own_sig" 1489 840 3 838 839 0 840 841 842 1495 kE .none<|
 f1 850 (gv 157 14) "Thin.forget" 1498 843 1 845 846 0 847 848 849 1502 kE .none<|
 f1 857 (gv 157 15) "Thin.list_prop" 1505 846 3 852 853 0 854 855 856 1511 kE .none<|
 f1 864 (gv 157 16) "Thin.list_index" 1514 849 2 859 860 0 861 862 863 1519 kE .none<|
 f1 871 (gv 157 17) "Thin.elem_met" 1522 852 2 866 867 0 868 869 870 1527 kE .none<|
 f1 878 (gv 157 18) "Thin.error_class" 1530 855 1 873 874 0 875 876 877 1534 kE .none<|
 k0 881 ⟨.type "dict",C,.dict #[de P "__module__" 1371<|.str "kindkeep.hosts" 1358,de P "__firstlineno__" 1375<|.int 795 1374,de P "__init__" 1383<|.ref 753,de P "force" 1391<|.ref 760,de P "put_deferred" 1399<|.ref 767,de P "put_cond" 1408<|.ref 774,de P "lay_row" 1417<|.ref 781,de P "bound" 1425<|.ref 788,de P "shape" 1433<|.ref 795,de P "fits" 1442<|.ref 802,de P "lies" 1451<|.ref 809,de P "infers" 1461<|.ref 816,de P "tpl_fits" 1470<|.ref 823,de P "shape_fits" 1479<|.ref 830,de P "put_in" 1488<|.ref 837,de P "own_sig" 1497<|.ref 844,de P "forget" 1504<|.ref 851,de P "list_prop" 1513<|.ref 858,de P "list_index" 1521<|.ref 865,de P "elem_met" 1529<|.ref 872,de P "error_class" 1536<|.ref 879,de P "__static_attributes__" 1542<|.ref 880,de P "__dict__" 1544<|.ref 883,de P "__weakref__" 1546<|.ref 884,de P "__doc__" 1547 .none] 4,#[]⟩<|
 k0 882 ⟨.type "type",C,.cls ⟨cv "Thin",[.type "object"],[.ref 882,.type "object"],881,cv "Thin",U,[],[.ref 917],am,C,am⟩,#[C,C,I<|.str "Thin" 1364,I<|.str "Thin" 1372,I<|.builtin "object.__new__",I<|.bool U]⟩<|
 k0 883 ⟨.type "getset_descriptor",C,.fields #[.str "__dict__" 1543,.ref 882,.builtin "function.__dict__",.builtin "function.__dict__#set"],#[]⟩<|
 k0 884 ⟨.type "getset_descriptor",C,.fields #[.str "__weakref__" 1545,.ref 882,.builtin "ExceptionGroup.__weakref__",.none],#[]⟩<|
 k0 892 (cd (cv "RefHost") (cv "RefHost") 1552 857 0 0 890 am 891 0 0 0 0 1555)<|
 f1 899 (gv 158 0) "RefHost.shape" 1562 859 2 894 895 0 896 897 898 1567 kE .none<|
 f1 906 (gv 158 1) "RefHost.fits" 1570 862 3 901 902 0 903 904 905 1576 kE .none<|
 f1 913 (gv 158 2) "RefHost.lies" 1579 865 3 908 909 0 910 911 912 1585 kE .none<|
 k0 916 ⟨.type "dict",C,.dict #[de P "__module__" 1557<|.str "kindkeep.hosts" 1358,de P "__firstlineno__" 1561<|.int 857 1560,de P "shape" 1569<|.ref 900,de P "fits" 1578<|.ref 907,de P "lies" 1587<|.ref 914,de P "__static_attributes__" 1588<|.ref 915,de P "__doc__" 1589 .none] 2,#[]⟩<|
 k0 917 ⟨.type "type",C,.cls ⟨cv "RefHost",[.ref 882],[.ref 917,.ref 882,.type "object"],916,cv "RefHost",U,[],[],am,C,am⟩,#[I<|.ref 887,C,I<|.str "RefHost" 1550,I<|.str "RefHost" 1558,I<|.builtin "object.__new__",I<|.bool U]⟩<|[]
noncomputable def Sx(P:fM):Frag:=
 k0 920 (tu [.int 16 1598,.int 64 1599,.int 1 1600,.int 512 1601,.int 48 1602,.int 256 1603,.int 80 1604,.int 32 1605,.int 1026 1606,.int 4 1607,.int 0 1608,.int 2064 1609,.int 8192 1610,.int 4096 1611,.int 130 1612,.int 3072 1613])<|
 k0 921 (tu [.int 0 1615,.int 0 1616,.int 0 1617,.int 1 1618,.int 256 1619,.int 5 1620,.int 2050 1621])<|
 f0 927 164 1623 872 2 922 923 0 924 925 926 1630 iO .none<|
 f0 934 165 1633 877 1 929 930 0 931 932 933 1637 iO .none<|
 f0 941 166 1640 885 1 936 937 0 938 939 940 1644 iO .none<|
 f0 948 167 1647 887 1 943 944 0 945 946 947 1651 iO .none<|
 f0 955 168 1654 889 1 950 951 0 952 953 954 1658 iO .none<|
 f0 962 169 1661 891 2 957 958 0 959 960 961 1667 iO .none<|
 f0 967 170 1670 897 2 964 965 0 0 0 966 1673 iO .none<|
 f0 974 171 1676 899 3 969 970 0 971 972 973 1684 iO .none<|
 f0 981 172 1687 905 2 976 977 0 978 979 980 1694 iO .none<|
 f0 986 173 1697 913 1 983 984 0 0 0 985 1700 iO .none<|
 f0 991 174 1703 922 1 988 989 0 0 0 990 1706 iO .none<|
 f0 998 175 1709 937 2 993 994 0 995 996 997 1714 iO .none<|
 f0 1003 176 1717 939 4 1000 1001 0 0 0 1002 1720 iO .none<|
 f0 1008 177 1723 948 2 1005 1006 0 0 0 1007 1726 iO .none<|
 f0 1015 178 1729 973 3 1010 1011 0 1012 1013 1014 1735 iO .none<|
 f0 1022 179 1738 977 3 1017 1018 0 1019 1020 1021 1752 iO .none<|
 f0 1029 180 1755 999 2 1024 1025 0 1026 1027 1028 1762 iO .none<|
 f0 1036 181 1765 1004 4 1031 1032 0 1033 1034 1035 1774 iO .none<|
 f0 1041 182 1777 1009 1 1038 1039 0 0 0 1040 1780 iO .none<|
 f0 1048 183 1783 1018 2 1043 1044 0 1045 1046 1047 1794 iO .none<|
 f0 1055 184 1797 1031 2 1050 1051 0 1052 1053 1054 1811 iO .none<|
 f0 1062 185 1814 1046 2 1057 1058 0 1059 1060 1061 1820 iO .none<|
 f0 1067 186 1823 1051 3 1064 1065 0 0 0 1066 1826 iO .none<|
 f0 1074 187 1829 1053 3 1069 1070 0 1071 1072 1073 1842 iO .none<|
 f0 1079 188 1845 1071 5 1076 1077 0 0 0 1078 1848 iO .none<|
 f0 1086 189 1851 1085 4 1081 1082 0 1083 1084 1085 1863 iO .none<|
 f0 1093 190 1866 1096 3 1088 1089 0 1090 1091 1092 1878 iO .none<|
 f0 1098 191 1881 1107 1 1095 1096 0 0 0 1097 1884 iO .none<|[]
noncomputable def CW(P:fM):HL:=[(3,YY P),(2,UT P),(12,XR),(0,gp P),(4,f9 P),(6,uH P),(13,vo),(14,vn)]
noncomputable def QW(P:fM):HL:=[(3,YX P),(2,wJ P),(12,XQ),(0,gp P),(4,f9 P),(6,uH P),(13,vo),(14,vn)]
noncomputable def QV(P:fM):HL:=[(3,YW P),(2,US P),(12,XP),(0,gp P),(4,f9 P),(6,uH P),(13,vo),(14,vn)]
noncomputable def QU(P:fM):HL:=[(3,YV P),(2,UQ P),(12,XO),(0,gp P),(4,f9 P),(6,uH P),(13,vo),(14,vn)]
noncomputable def QT(P:fM):HL:=[(3,YU P),(2,UP P),(12,XN),(0,gp P),(4,f9 P),(6,uH P),(13,vo),(14,vn)]
noncomputable def QS(P:fM):HL:=[(3,YT P),(2,UO P),(12,XM),(0,gp P),(4,f9 P),(6,uH P),(13,vo),(14,vn)]
noncomputable def vW(P:fM):HL:=[(3,i7 P),(2,iX P),(12,XK),(0,gp P),(4,f9 P),(6,uH P),(13,vo),(14,vn)]
noncomputable def Lz:List Stmt:=(P0.main.body.drop 0).take 53
def a3t(w:cR)(p:Pos):lU (QW (w).params++SF (w).params) (ev P0 (w) 30000 pJ (qS<|.block Lz nn) p (CW (w).params) 15 187) (.ok<|.done .next) 109 396:=by
 unfold lU;kernel_rfl
noncomputable def Ly:List Stmt:=(P0.main.body.drop 53).take 1
noncomputable def Lx:List Stmt:=(P0.main.body.drop 54).take 29
def a3s(w:cR)(p:Pos):lU (QU (w).params++SA (w).params) (ev P0 (w) 30000 pJ (qS<|.block Lx nn) p (QV (w).params) 110 403) (.ok<|.done .next) 319 694:=by
 unfold lU;kernel_rfl
noncomputable def Lw:List Stmt:=(P0.main.body.drop 83).take 40
def a3r(w:cR)(p:Pos):lU (QT (w).params++Sz (w).params) (ev P0 (w) 30000 pJ (qS<|.block Lw nn) p (QU (w).params) 319 694) (.ok<|.done .next) 551 1090:=by
 unfold lU;kernel_rfl
noncomputable def Lv:List Stmt:=(P0.main.body.drop 123).take 36
def a3q(w:cR)(p:Pos):lU (QS (w).params++Sy (w).params) (ev P0 (w) 30000 pJ (qS<|.block Lv nn) p (QT (w).params) 551 1090) (.ok<|.done .next) 920 1592:=by
 unfold lU;kernel_rfl
noncomputable def Lu:List Stmt:=(P0.main.body.drop 159).take 33
def a3p(w:cR)(p:Pos):lU (vW (w).params++Sx (w).params) (ev P0 (w) 30000 pJ (qS<|.block Lu nn) p (QS (w).params) 920 1592) (.ok<|.done .next) 1100 1887:=by
 unfold lU;kernel_rfl
noncomputable def LB(P:fM):HL:=[(0,gp P),(1,boot_o_1 P),(2,z7 P),(3,z6 P),(4,f9 P),(5,boot_o_5 P),(6,uH P),(7,boot_o_7 P),(8,boot_o_8 P),(9,boot_o_9 P),(10,boot_o_10 P)]
noncomputable def A6:Sem<|aL×Addr:=do
 let code<-Q9 P0.main
 let frame<-Q8 code tD tD
 pure (code,frame)
noncomputable def tM:Ctx:=⟨.builtin "claim.caller" {},C,C,[],C⟩
def a3o(w:cR)(p:Pos):lU (CW w.params) (ev P0 w 200 tM A6 p (LB w.params) 11 181) (.ok (.ref 13,14)) 15 187:=by
 unfold lU;kernel_rfl
def Ui:P0.main.body=Lz++(Ly++(Lx++(Lw++(Lv++Lu)))):=by kernel_rfl
def a7y:a5M P0=P0.main.body:=by kernel_rfl
def a7x:(hasAnns P0.main.body,interactive nn,docOf P0.main.body)=(am,am,C):=by kernel_rfl
set_option tactic.hygienic false
def SR(t:Sem D):∀p s,nF M e t (λj j j=>False) (λj j j=>False) p s->False:=by
 induction t with
 |pure a=>intro p s h;simpa using h
 |raise b=>intro p s h;simpa using h
 |unsupported w=>intro p s h;simpa using h
 |finish b=>intro p s h;simpa using h
 |rule kz k i=>intro p s h;exact i _ _ _ h
 |«at»q k i=>intro p s h;exact i _ _ _ h
 |load a rD k i=>intro p s h;refine aA h λo j h=>?_;exact i _ _ _ h
 |update a rD f k i=>intro p s h;exact i _ _ _ h.2
 |alloc o k i=>intro p s h;exact i _ _ _ h
 |loadIfAlive a k i=>intro p s h;exact i _ _ _ h
 |point l k i=>intro p s h;exact i _ _ _ h
 |register a k i=>intro p s h;exact h
 |fresh k i=>intro p s h;exact i _ _ _ h
 |ask k i=>intro p s h;exact i _ _ _ h
 |choose tT n k i=>intro p s h;exact i _ _ _ h.2
 |os q l k i=>intro p s h;exact i _ _ _ h
 |call c hd g l k i=>intro p s h;refine gk h λr z j h=>?_;exact i _ _ _ h
 |handled o k i=>intro p s h;exact i _ _ _ h
 |newGen c k i=>intro p s h;exact i _ _ _ h
 |genState g k i=>intro p s h;refine aA h λst j h=>?_;exact i _ _ _ h
 |resume g r l k i=>intro p s h;refine gk h λr z j h=>?_;exact i _ _ _ h
 |yield v g l k i=>intro p s h;simpa using h
 |stack k i=>intro p s h;exact i _ _ _ h
 |fork c k i=>intro p s h;simpa using h
 |thread k i=>intro p s h;exact i _ _ _ h
 |await a t d l k i=>intro p s h;simpa using h
def m9(h:jM l a=I o):(a,o)∈l:=by
 induction l with
 |nil=>exact cL h
 |cons y r b=>
  rw[uk] at h;by_cases q:y.1=a;.rw[ak q] at h;cases h;subst q;exact List.Mem.head _
  .rw[Z q] at h;exact List.Mem.tail _<|b h
def Oo:jM l a=C↔a∉l.map (·.1):=by
 induction l with
 |nil=>exact⟨λ_=>jU,λ_=>H⟩
 |cons y r b=>
  rw[uk];by_cases q:y.1=a;.simp[q]
  .rw[Z q,b] at⊢;simp[q7 q]
def pI(X:HL)(h:Heap):Prop:=∀q∈X,h.get? q.1=I q.2
def Gl(h:lU X r o m i):
 ∃p l,r=I ((o,p),l,m,i)/\∀q∈X,jM l q.1=I q.2:=by
 obtain⟨⟨⟨o',p⟩,l,m',d⟩,e,b⟩:=H0.mp h;simp only[Ak] at b;clear h;obtain⟨rfl,e1,rfl,rfl⟩:=b;refine⟨p,l,e,λq hq=>?_⟩;obtain this:∀(X:HL),X.map (λq=>jM l q.1)=X.map (λp=>I p.2)->∀q∈X,jM l q.1=I q.2:=by
  intro X;induction X with
  |nil=>intro _ q hq;cases hq
  |cons y X c=>
   intro e q hq;simp only[lG,List.cons.injEq] at e;rcases cf.mp hq with rfl|hq;.exact e.1
   .exact c e.2 q hq
 refine this X ?_ q hq;rw[<-e1,kM];rfl
structure xH(L:HL)(s z:bT):Prop where
 same:∃h tk,z={s with heap:=h,toks:=tk}
 life:z.heap.life=s.heap.life
 cT:∀b o,jM L b=none->s.heap.get? b=some o->z.heap.get? b=some o
structure At(L:HL)(m i:Nat)(s:bT):Prop where
 q:s.heap.objs.size=m
 toks:s.toks=i
 has:pI L s.heap
def At.W6(x:At L m i s):lW L m i s:=⟨x.q,x.toks,λa o e=>x.has (a,o)<|m9 e⟩
abbrev yb(w:cR)(stmts:List Stmt)(p:Pos)(s:bT)(p':Pos)(z:bT):Prop:=
 nF (hW P0 w) pJ (pB stmts nn) (λf c d=>f=.next/\c=p'/\d=z) (λb b b=>False) p s
inductive Ck(w:cR)(L L' K:HL)(m' i':Nat)(st:List Stmt)(p:Pos)(s:bT):Prop
 |mk {p':Pos} {z:bT}:At L' m' i' z->pI K z.heap->xH L s z->yb w st p s p' z->Ck w L L' K m' i' st p s
def wC{stmts:List Stmt}{m' k n:Nat}(h:lU (L'++K) (ev P0 w n pJ (qS<|.block stmts nn) p L m i) (.ok<|.done .next) m' k){s:bT}(r:At L m i s):Ck w L L' K m' k stmts p s:=by
 refine gk (Gl h) λp' l e t=>eW (Pa n pJ _ p L m i _ p' l m' k e s r.W6) λz j f q=>.mk (p':=p') ⟨j.q,j.toks,λa o=>j.own _ _<|t a<|jF _ o⟩ (λa o=>j.own _ _<|t a<|gA _ o) ⟨f.same,f.life,f.cT⟩ ?_;obtain q:=jg Pm▸q;obtain b:nF (hW P0 w) pJ (do return .done (<-(pB stmts nn).onRaise (λx=>do noteFrame x nn;theTreesLotGoes x)):Sem Fin) (λbD c d=>bD=.done .next/\c=p'/\d=z) (λg g g=>False) p s:=
  q (λbD c d=>bD=.done .next/\c=p'/\d=z) (λg g g=>False) ⟨H,H,H⟩
 rw[Ab,a5S] at b;exact Aa _ _ _ (λf c d x=>⟨by have:=x.1;injection this,x.2⟩) (λe c d=>SR _ _ _) _ _ b
def a0o{a b}(x:yb w a p s p' z)(y:yb w b p' z g x!):yb w (a++b) p s g x!:=by
 obtain key:∀a p s,yb w a p s p' z->yb w (a++b) p s g x!:=by
  intro a;induction a with
  |nil=>
   intro p s x;obtain⟨_,rfl,rfl⟩:=x;exact y
  |cons st a l=>
   intro p s x;have k:nF (hW P0 w) pJ (do match<-exec st nn with|.next=>pB a nn|f=>pure f:Sem Flow) (λf i j=>f=.next/\i=p'/\j=z) (λd d d=>False) p s:=x;show nF (hW P0 w) pJ (do match<-exec st nn with|.next=>pB (a++b) nn|f=>pure f:Sem Flow) _ _ p s;rw[Ab] at k⊢;refine Aa _ _ _ (λf i j c=>?_) (λd d d c=>c) _ _ k;cases f with
   |next=>exact l i j c
   |brk=>exact aP c.1 λe=>by cases e
   |cont=>exact aP c.1 λe=>by cases e
   |ret v=>exact aP c.1 λe=>by cases e
 exact key a p s x
def KF(P:fM):Frag:=SF P++(SD P++(SA P++(Sz P++(Sy P++Sx P))))
def Hp(b:(L.map (·.1))=[3,2,12,0,4,6,13,14]){a:Nat}(f:a∉[3,2,12,0,4,6,13,14]):jM L a=none:=Oo.mpr<|ay b f
def pI.gU(x:pI K s.heap)(g:K.all (λq=>eA 15 q.1)=U)(j:(L.map (·.1))=[3,2,12,0,4,6,13,14])(f:xH L s z):pI K z.heap:=λq hq=>by
 refine f.cT _ _ (Hp j λb=>?_)<|x q hq;simp only[cf,jU,or_false] at b;exact sy.mpr (qG H (qG H<|qG H<|qG H<|qG H<|qG H<|qG H<|EH H) b)<|bU<|gf.mp g q hq
noncomputable abbrev zo:List Nat:=[3,2,12,0,4,6,13,14]
theorem xH.q(g:L.map (·.1)=zo)(f:L'.map (·.1)=zo)(a:xH L s z)(b:xH L' z x!):xH L s x!:=by
 obtain⟨⟨h,tk,rfl⟩,d,i⟩:=a;obtain⟨⟨h',c,rfl⟩,b2,b3⟩:=b;exact⟨⟨h',c,H⟩,b2.trans d,λb o q e=>b3 b o (Hp f λj=>Oo.mp q<|ay g j)<|i b o q e⟩
def Ck.andThen{m' st}(j:(K.all λq=>eA 15 q.1)=U)(k:L.map (·.1)=zo)(b:L'.map (·.1)=zo)(c:Ck w L L' K m i st p s)(next:∀p' z,At L' m i z->Ck w L' f n m' o g p' z):Ck w L f (K++n) m' o (st++g) p s:=by
 obtain⟨e,l,r,t⟩:=c;obtain⟨u,v,d,x⟩:=next _ _ e;exact⟨u,λq hq=>(fQ.mp hq).elim (l.gU j b d q)<|v q,r.q k b d,a0o t x⟩
def TU(w)(p)(s)(x:At (CW w.params) 15 187 s):Ck w (CW w.params) (vW w.params) (KF w.params) 1100 1887 P0.main.body p s:=by
 rw[Ui];exact Ck.andThen ((by kernel_rfl)) H H (wC (a3t w p) x) λb m c=>Ck.andThen ((by kernel_rfl)) H H (wC (byRow2 "special-get-raises" (P:=λw=>lU (QV w.params++SD w.params) (ev P0 w 30000 pJ (qS<|.block Ly nn) b (QW w.params) 109 396) (.ok<|.done .next) 110 403) (λw=>(by
  unfold lU;kernel_rfl)) (λw=>(by
   unfold lU;kernel_rfl)) w) c) λd n e=>Ck.andThen ((by kernel_rfl)) H H (wC (a3s w d) e) λf o g=>
  Ck.andThen ((by kernel_rfl)) H H (wC (a3r w f) g) λi q j=>Ck.andThen ((by kernel_rfl)) H H (wC (a3q w i) j) λk r l=>wC (a3p w k) l
set_option tactic.hygienic true
def XF(w):(ev P0 w 200 tM A6 default (LB w.params) 11 181).map (λx=>x.1.2)=I default:=by kernel_rfl
def X8:opening P0=plainProg P0.main.scope.names:=by kernel_rfl
def a0P(s):fenceModules? P0 s=I s:=by kernel_rfl
def G1(w:cR):(z8 w.params).objs=((LB w.params).map (·.2)).toArray:=by kernel_rfl
def a3V(P):(z8 P).life.registered=[]/\(z8 P).life.counting=false:=⟨by kernel_rfl,by kernel_rfl⟩
def a3W(P):((LB P).all λq=>!q.2.isFreed)=true:=by kernel_rfl
def vG(w:cR):pI (LB w.params)<|z8 w.params:=by
 intro q hq;have b:=gf.mp (a3W w.params) q hq;obtain e:(z8 w.params).objs[q.1]?=I q.2:=by
  simp only[LB,cf,jU,or_false] at hq;rcases hq with rfl|rfl|rfl|rfl|rfl|rfl|rfl|rfl|rfl|rfl|rfl<;>rfl
 unfold Heap.get?;rw[e];obtain⟨a,⟨c,d,dt,sl⟩⟩:=q;clear hq e;cases dt<;>first|rfl|(simp[a5U] at b)
structure a5g(w:cR)(s:bT):Prop where
 main:pI (vW w.params) s.heap
 c:pI (KF w.params) s.heap
 q:s.heap.objs.size=1100
 gens:s.gens=#[]
 asleep:s.asleep
def Vt(a:∃h tk,z={s with heap:=h,toks:=tk})(b:∃h tk,x!={z with heap:=h,toks:=tk}):∃h tk,x!={s with heap:=h,toks:=tk}:=by
 refine FO a λh tk c=>?_;clear a;subst c;obtain⟨h',d,rfl⟩:=b;exact⟨h',d,H⟩
inductive QD(w:cR)(s₀:bT):Prop
 |mk {d:bT}:pI (vW w.params++KF w.params) d.heap->d.heap.objs.size=1100->(∃h tk,d={s₀ with heap:=h,toks:=tk})->d.heap.life=s₀.heap.life->
  (∀b o,b∉[0,2,3,4,6]->s₀.heap.get? b=some o->d.heap.get? b=some o)->
  nF (hW P0 w) tM (xM P0).cur (λbD p s=>bD=.done (.ret .none)/\p=default/\s=d) (λζ ζ ζ=>False) default s₀->QD w s₀
def LS(P:fM):HL:=(LB P).filter λq=>![0,2,3,4,6].contains q.1
def a3n(w)(p):lU (LS w.params) (ev P0 w 200 tM A6 p (LB w.params) 11 181) (.ok (.ref 13,14)) 15 187:=by
 unfold lU;kernel_rfl
def Za:∀b,b<11->b∉[0,2,3,4,6]->b∉zo:=Y H
def UD(w)(s₀)(r:s₀.heap=z8 w.params)(ht:s₀.toks=boot_toks):QD w s₀:=by
 refine gk (Gl<|a3o w default) λp' l e E=>?_;obtain y:=XF w;obtain y:=e▸y;obtain rfl:p'=default:=by simpa using y
 refine eW (Pa 200 tM A6 default _ 11 181 _ _ _ 15 187 e s₀ ⟨by rw[r,G1];rfl,ht.trans (by kernel_rfl),λa o e=>by rw[r];exact vG w (a,o)<|m9 e⟩) λz v f q=>?_;obtain⟨j,k,g,t⟩:=TU w default z ⟨v.q,v.toks,λa F=>v.own _ _<|E a F⟩;rename_i T d;refine .mk (λq hq=>(fQ.mp hq).elim (j.has q)<|k q) j.q (Vt f.same g.same) (g.life.trans f.life) (λb o n m=>gk (Gl<|a3n w default) λG l2 J A=>g.cT b o (Hp H<|Za b (by
  have:=iF m;obtain this:=(r ..)▸this;obtain this:=(G1 ..)▸this;exact this) n) (v.own b o<|((be (λx=>x.2.1) (fg<|J.symm.trans e):l2=l))▸A (b,o) (cG.mpr ⟨((by
   obtain n:b<11:=by
    have:=iF<|r▸m;rw[G1] at this;simpa[LB] using this
   obtain all:∀b,b<11->∃o,(b,o)∈LB w.params:=by
    intro b n;rcases((Y rfl:∀b<11,b=0\/b=1\/b=2\/b=3\/b=4\/b=5\/b=6\/b=7\/b=8\/b=9\/b=10) b n) with rfl|rfl|rfl|rfl|rfl|rfl|rfl|rfl|rfl|rfl|rfl<;>exact⟨_,m9 rfl⟩
   refine bc (all b n) λo' u=>?_;cases ((r▸m)▸(vG w _ u));exact u)),by
  rw[nI];exact AB.mpr λc=>n<|List.contains_iff_mem.mp c⟩))) ?_
 obtain c:=q (λx p s=>x=(.ref 13,14)/\p=default/\s=z) (λi i i=>False) ⟨H,H,H⟩;have D:nF (hW P0 w) tM (do let code<-Q9 P0.main;let frame<-Q8 code tD tD;pure (code,frame):Sem<|aL×Addr) (λx p s=>x=(.ref 13,14)/\p=default/\s=z) (λi i i=>False) default s₀:=c;show nF (hW P0 w) tM (do
  let code<-Q9 P0.main
  let frame<-Q8 code tD tD
  let _<-run (.body (a5M P0) {scope:=P0.main.scope,locals:=tD,globals:=tD,cells:=[],code,frame:=I frame})
  ret .none:Sem Fin) _ _ _ _
 rw[Ab] at D⊢;refine Aa _ _ _ (λcode L sc B=>?_) (λi i i x=>x) _ _ D;rw[Ab] at B⊢;refine Aa _ _ _ (λframe M N K=>?_) (λi i i x=>x) _ _ B;clear j k g c B;obtain⟨C,rfl,rfl⟩:=K;obtain⟨rfl,rfl⟩:=HY C;apply (Hq _ _ _ _ _).mpr;rw[Ab,Ab,a5S];refine Aa _ _ _ (λO G P x=>?_) (λi i i x=>x.elim) _ _ t;obtain⟨rfl,rfl,rfl⟩:=x;exact⟨H,H,H⟩
def UC(w:cR)(s₀:bT)(o:s₀.gens=#[])(hz:s₀.asleep){d:bT}(q:∃h tk,d={s₀ with heap:=h,toks:=tk})(h:nF (hW P0 w) tM (xM P0).cur (λbD p s=>bD=.done (.ret .none)/\p=default/\s=d) (λf f f=>False) default s₀):
 ∃n t,schedN (zZ zU) P0 w n (.single s₀<|xM P0)=.running (.single d t)/\through t=true:=by
 obtain c:d.gens=#[]:=by obtain⟨h,tk,rfl⟩:=q;exact o
 obtain⟨n,z,σ,p',leaf,l,g,y,_⟩:=wp_reaches_first h;clear o q;rcases y with⟨a,rfl,rfl,rfl,rfl⟩|⟨e,_,A⟩
 .obtain rfl:=Shared.eq_of_forget_eq g c;obtain⟨m,r,E,u,_⟩:=(wp_iff_halts (xM P0).cur (λr z=>r=.ok (.ret .none)) default s₀).mp
   (Aa _ _ _ (λbD p s x=>by
    obtain⟨rfl,rfl,rfl⟩:=x;exact⟨H,by rw[c];exact(a7o ..).symm.trans H⟩) (λf f f x=>x.elim) _ _ h)
  exact eW (runNI_real (zZ zU) P0 w u<|outcomeOf_ends r) λB i f C=>⟨n,_,(schedN_eq_runN (zZ zU) P0 w s₀ (xM P0) hz ⟨C,(by
   intro k j v;obtain a:=runN_mono (zZ zU) P0 w m k s₀ (xM P0) _ B i;obtain b:=runN_mono (zZ zU) P0 w k m s₀ (xM P0) _ j v;rw[qk,b] at a;injection a with D _
   clear h c l g u i v b;cases r<;>simp[outcomeOf] at D)⟩ n).trans (be Run.lift l),H⟩
 .exact A.elim
noncomputable def ip(b f g j:Obj):Heap:={objs:=#[b,default,f,g,j]}
set_option tactic.hygienic false
def Bx(b f g o4)(j:b.isFreed=am)(k:f.isFreed=am)(q:g.isFreed=am)(h4:o4.isFreed=am):
 (ip b f g o4).get? 0=I b/\(ip b f g o4).get? 2=I f/\(ip b f g o4).get? 3=I g/\(ip b f g o4).get? 4=I o4:=by
 obtain key:∀o n,(ip b f g o4).objs[n]?=I o->o.isFreed=am->(ip b f g o4).get? n=I o:=by
  intro o n e i;unfold Heap.get?;rw[e];obtain⟨c,d,dt,sl⟩:=o;clear e;cases dt<;>first|rfl|(simp[a5U] at i)
 exact⟨key _ _ H j,key _ _ H k,key _ _ H q,key _ _ H h4⟩
def a04(P):HH [] (ip (gp P) (z7 P) (z6 P)<|f9 P) (ip (gp P) (iX P) (i7 P)<|f9 P)=true:=by kernel_rfl
def a1c(P):(ip (gp P) (iX P) (i7 P)<|f9 P).accountedOkI []=true:=by kernel_rfl
def a06(P):HI P0 (ip (gp P) (iX P) (i7 P)<|f9 P)=true:=by kernel_rfl
def a07(P):HK (ip (gp P) (z7 P) (z6 P)<|f9 P) (ip (gp P) (iX P) (i7 P)<|f9 P)=true:=by kernel_rfl
def a1b(P):(ip (gp P) (iX P) (i7 P)<|f9 P).bltView=bltViewBooted:=by kernel_rfl
def a1a(P):(ip (gp P) (iX P) (i7 P)<|f9 P).isNs tG=true:=by kernel_rfl
def a09(P):C1 (ip (gp P) (iX P) (i7 P)<|f9 P) "__builtins__"=I (.ref 4):=by kernel_rfl
def a08(P):(f9 P).cls=.type "module"/\(f9 P).dict=I builtinsNs:=⟨by kernel_rfl,by kernel_rfl⟩
def Gz(P):(gp P).isFreed=am/\(z7 P).isFreed=am/\(z6 P).isFreed=am/\(f9 P).isFreed=am/\(iX P).isFreed=am/\(i7 P).isFreed=false:=
 ⟨by kernel_rfl,by kernel_rfl,by kernel_rfl,by kernel_rfl,by kernel_rfl,by kernel_rfl⟩
def Y5{m}(b:h.get? tF=m.get? tF)(f:h'.get? tF=m'.get? tF)(x:HH [] m m'=U):HH [] h h'=true:=by
 delta HH Ah Rp HT;rw[b,f];exact x
def Zd{m:Heap}(b:h.get? tF=m.get? tF)(x:m.accountedOkI []=U):h.accountedOkI []=true:=by
 delta Heap.accountedOkI Ah Rp HT;rw[b];exact x
def Y8{m}(b:h.get? lB=m.get? lB)(x:HI P0 m=U):HI P0 h=true:=by
 delta HI Ah Rp;rw[b];exact x
def Y9{m}(b:h.get? lB=m.get? lB)(f:h'.get? lB=m'.get? lB)(x:HK m m'=U):HK h h'=true:=by
 delta HK Ah HT;rw[b,f];exact x
def Zc{m:Heap}(b:h.get? tG=m.get? tG)(x:m.bltView=bltViewBooted):h.bltView=bltViewBooted:=by
 delta Heap.bltView Heap.nsPairs;rw[b];exact x
def MC{m:Heap}{a:Addr}(b:h.get? a=m.get? a)(x:m.isNs a=U):h.isNs a=true:=by
 delta Ah;rw[b];exact x
def MD{m}(b:h.get? tD=m.get? tD)(x:C1 m n=v):C1 h n=v:=by
 delta C1;rw[b];exact x
def Jj(w):(∃s,AfterRun (opening P0) w s)/\∀s,AfterRun (opening P0) w s->∃s₀,fenceModules? P0 s=I s₀/\s₀.gens=#[]/\∃d,TopRan P0 w s₀ d/\a5g w d:=by
 obtain r:=boot_open (N:=600) X8 (by kernel_rfl) a0P w;refine aA (H0.mp r) λs₀ O C=>?_;simp only[Ak] at C;refine mm C λj k Z t=>aA (a6h.mp O) λs y hf=>?_;obtain y:=jg table_eq_tree▸y;have A:=a7N y;refine⟨⟨s,A⟩,λz D=>?_⟩;clear O C y;obtain rfl:=a7M D A;have m:=k;have hz:s₀.asleep:=by
  unfold Shared.asleep;rw[j];exact a3V w.params
 obtain@⟨d,f,E,c,i,n,F⟩:=UD w s₀ j t;have u:d.gens=#[]:=by obtain⟨h,tk,rfl⟩:=c;exact m
 refine FQ (Gz w.params) λf0 f2 f3 G P Q=>mm (Bx (gp w.params) (z7 w.params) (z6 w.params) (f9 w.params) f0 f2 f3 G) λa0 R S a4=>mm (Bx (gp w.params) (iX w.params) (i7 w.params) (f9 w.params) f0 P Q G) λb0 b2 b3 b4=>?_;obtain c0:s₀.heap.get? 0=I (gp w.params):=by rw[j];exact vG w (0,_)<|m9 H
 obtain T:s₀.heap.get? 2=I (z7 w.params):=by rw[j];exact vG w (2,_)<|m9 (l:=LB w.params) H
 obtain U:s₀.heap.get? 3=I (z6 w.params):=by rw[j];exact vG w (3,_)<|m9 (l:=LB w.params) H
 obtain c4:s₀.heap.get? 4=I (f9 w.params):=by rw[j];exact vG w (4,_)<|m9 (l:=LB w.params) H
 obtain c6:s₀.heap.get? 6=I (uH w.params):=by rw[j];exact vG w (6,_)<|m9 H
 have ly:=λa o e=>f (a,o)<|jF _<|m9 e;have J:=ly 0 _ H;obtain K:=ly 2 _ H;have B:=ly 3 _ H;have L:=Y8 (B.trans b3.symm)<|a06 w.params;obtain V:=Y9 (U.trans S.symm) (B.trans b3.symm)<|a07 w.params;obtain W:=Zc (J.trans b0.symm)<|a1b w.params;obtain p:=MC (J.trans b0.symm)<|a1a w.params;obtain X:=MD (B.trans b3.symm)<|a09 w.params;obtain v:=(gJ.mp L).1;refine⟨s₀,hf,m,d,⟨UC w s₀ m hz c F,i,?_,λb o e Y=>?_,Heap.accountedI_of_ok<|Zd (K.trans b2.symm)<|a1c w.params,statics_of_ok<|Y5 (T.trans R.symm) (K.trans b2.symm)<|a04 w.params,Pin.keysAreStrs_of v,λx hx=>(Pin.builtinOf_eq p x).trans<|Heap.of_bltView p W x hx,⟨4,_,X,ly 4 _ H,a08 w.params⟩,?_,names_of_bound L,laid_of_kept V⟩,⟨λq hq=>f q<|jF _ hq,λq hq=>f q<|gA _ hq,E,u,(Shared.asleep_of_life i hz)⟩⟩;.clear G P Q a0 R S a4 b0 b2 b3 b4 T U ly K B L V W p X v;obtain⟨h,tk,rfl⟩:=c;exact Shared.rest_eq H
 .by_cases r:b∈[0,2,3,4,6]
  .simp only[cf,jU,or_false] at r;rcases r with rfl|rfl|rfl|rfl|rfl;.obtain e:=c0▸e;rw[<-e];exact J
   .exact aP (.inr<|.inl H) Y
   .exact aP (.inl H) Y
   .rw[c4] at e;rw[<-e];exact(ly 4 _ H)
   .rw[c6] at e;rw[<-e];exact(ly 6 _ H)
  .exact n b o r e
 .intro g M;obtain M:=u▸M;simp at M
def Dv(b:List aL)(V:List Int):Prop:=F2 (λv n=>∃t,v=.int n t) b V
def QR:Prop:=∀(w:cR)(s:bT)(a:Addr)(c:Array aL)(V:List Int),pI (vW w.params) s.heap->pI (KF w.params) s.heap->1100<=s.heap.objs.size->s.gens=#[]->
 IsL s.heap a c 0->1100<=a->Dv c.toList V->O V<=63->
 cA (hW P0 w) callerA (iE (.ref 1099) [.ref a])
  (λv z=>v=.bool U/\(∃h tk,z={s with heap:=h,toks:=tk})/\∀b o,s.heap.get? b=I o->z.heap.get? b=I o) (λd d=>False) s
noncomputable abbrev iM:OpenLaw:=PySem.Challenge.rw_xm0539_01
set_option tactic.hygienic true
def Ua:Bv (tS 191)="law"/\(CJ<|tS 191).defaults=[]/\(CJ<|tS 191).kwonlyargs=[]/\(CJ<|tS 191).kw_defaults=[]:=⟨by kernel_rfl,by kernel_rfl,by kernel_rfl,by kernel_rfl⟩
def Um:P0.tablesWhole=true:=by
 refine(?_:a5O a5P P0=U);unfold a5O a5P;rw[PySem.W.Fast.te15985051520779696433,PySem.W.Fast.te6116379765354995101];kernel_rfl
def a4e:P0.bare:=⟨H,H,H,H,H,Um⟩
def Mq(P):C1 (ip (gp P) (iX P) (i7 P)<|f9 P) "law"=I (.ref 1099)/\(ip (gp P) (iX P) (i7 P)<|f9 P).isNs lB=true:=⟨by kernel_rfl,by kernel_rfl⟩
def Nx(P):jM (KF P) 1099=I (OR (tS 191) "law" (.str "law_xm0539_01" 1592) .none<|.ref 1098):=by kernel_rfl
def Ln:iM.row.toRowW.promised:=⟨[.list []],by decide+kernel,by decide+kernel⟩
def g_:WShape.hasItems [] xs .int=U->∃V:List Int,xs=V.map .int:=by
 induction xs with
 |nil=>exactλc=>⟨[],H⟩
 |cons x xs b=>exactλh=>bc (b (gJ.mp h).2) λV e=>bc (hasW_int (gJ.mp h).1) λi q=>⟨i::V,e▸q▸H⟩
def a4V(h:iM.row.toRowW.claim.pre args=U):∃xs,args=[.list xs]/\(∃V:List Int,xs=V.map .int)/\O xs<=63:=
 bY (pre_splitW h) λf g=>gy (hasAllW_cons f) λd r e i h4=>aA (hasW_list i) λxs q j=>by
  have c:=e.trans<|congr (be Sh q)<|hasAllW_nil h4;exact⟨xs,c,g_ j,iH.mp<|rg.mp λq=>eS<|(be (λb=>WTm.holds [] (.and (.not<|.lit<|.bool b)<|.lit<|.bool U) {args:=[.list xs]})<|bA q).symm.trans<|(be (λl=>WTm.holds [] (.and (.not<|.lt (.lit<|.int 63)<|.len<|.arg 0)<|.lit<|.bool U) {args:=l}) c).symm.trans g⟩
def j_:∀{f as},ReadsAllW R cl h f (V.map .int) as->Dv f V:=by
 induction V with
 |nil=>exactλx=>(a5K x).1▸.nil
 |cons n V c=>exactλx=>NU (a5L x) λv vs a b e d g i=>aA (readsW_int_inv g) λt j d=>e▸j▸.cons ⟨t,H⟩ (c i)
def ZJ(h:HJ R cl P ord [.list xs] s=I (vs,d)):
 ∃a b,vs=[.ref a]/\d.heap.get? a=I {cls:=.type "list",data:=.seq b}:=by
 rw[HJ,layW] at h;rcases q:HJ R cl P ord xs s with _|r;.rw[q] at h;exact cL h
 .rw[q] at h;obtain⟨rfl,rfl⟩:=HY<|fg h;exact⟨_,_,H,mZ _ H⟩
def ZH{ord:List kj->List kj}(h:HJ R cl P ord [.list xs] s=I (vs,d)){a:Addr}{o:Obj}{b:Array aL}{n:Nat}(j:vs=[.ref a])(ho:d.heap.get? a=I o)(hd:o.data=.seq b n):IsL d.heap a b 0:=by
 refine gk (ZJ h) λa' e c g=>?_;rw[j] at c;obtain c:a=a':=by injection c with f;injection f
 subst c;obtain i:=fg<|ho.symm.trans g;subst i;injection hd with f k
 subst f;exact g
inductive QK(h:Heap)(vs:List aL)(as:List Addr)(V:List Int):Prop
 |mk {a:Addr} {o:Obj} {vals:Array aL} {n:Nat}:vs=[.ref a]->h.get? a=some o->o.data=.seq vals n->Dv vals.toList V->a∈as->QK h vs as V
def Xf(f:ReadsAllW R cl h vs [.list<|V.map .int] as):QK h vs as V:=
 NU (a5L f) λv c r s e d g b=>by
  obtain⟨l,o,i,n,t,j,k,u,m,p,q⟩:=readsW_list_open g;exact .mk (e.trans<|congr (be Sh j) (a5K b).1) k m (j_ p)<|d▸q▸jF _ aZ
set_option maxHeartbeats 1000000 in
def a7F(F:iM.wellSaid=U)(call:QR):iM.Holds:=by
 refine holds_law F λW=>⟨W,Ln,⟨⟨a4e,(by kernel_rfl),H⟩,Ln.imp λargs h=>⟨h.1,(gJ.mp h.2).1⟩,λw=>⟨(Jj w).1,λz M=>rV λb N=>?_⟩⟩⟩;obtain⟨s₀,X,O,s,Y,p⟩:=(Jj w).2 z M;refine N<|FQ (Gz w.params) λf0 f2 f3 Z g2 g3=>mm (Bx (gp w.params) (iX w.params) (i7 w.params) (f9 w.params) f0 g2 g3 Z) λb0 b2 b3 b4=>?_;obtain Q:=p.main (3,_)<|m9 H;have S:=MD (Q.trans b3.symm) (Mq w.params).1;have D:=MC (Q.trans b3.symm) (Mq w.params).2;refine⟨s₀,X,O,s,Y,?_,dS,dS,?_⟩
 .intro n hn;obtain⟨_,rfl⟩:iM.row.pinned=U/\n=iM.row.name:=by simpa using hn
  refine mm Ua λh0 h3 h4 h5=>⟨1099,_,_,_,_,_,S,p.c _<|m9<|Nx w.params,H,(by kernel_rfl),h0,H,H,H,H,H,H,H,.inl ⟨h3,H⟩,[],by rfl,.inl ⟨H,H⟩⟩
 .refine ClaimW.callFrom_of_specG p.asleep p.gens λargs j u ord k=>rV λb N=>?_;obtain⟨xs,rfl,⟨V,rfl⟩,y⟩:=a4V j;obtain⟨⟨vs,d⟩,i⟩:=v0.mp (layAllW_isSome (R:=[]) (λc hc=>(nomatch hc)) _ iM.row.toRowW.args s (pre_splitW j).1);obtain keeps:=layAllW_keeps _ _ _ i;obtain r:=layAllW_rest _ _ _ i;refine N<|eW (reads_layAllW k _ _ _ i u d.heap λA A e=>e) λas B t lP=>?_;obtain L:Laid [] w s d [.list<|V.map .int] vs as:=⟨⟨ord,k,i⟩,B,t,lP,keeps,r.1.trans p.gens,r.2.2.1⟩;refine⟨vs,d,i,?_⟩;obtain⟨E,ho,hd,I,l⟩:=Xf B;rename_i a o J n;obtain m:1100<=a:=by rw[<-p.q];exact(t.2.2 a l).1
  obtain K:=(HU D).keeps keeps;obtain T:=ZH i E ho hd;obtain C:=call w d a J V (λq hq=>keeps _ _<|p.main q hq) (λq hq=>keeps _ _<|p.c q hq) (je<|gQ m (t.2.2 a l).2) (r.1.trans p.gens) T m I (by simpa using y);clear j u k keeps B t lP ho hd I l m y T;subst E;refine aW<|wpAny_nsGet K<|(((Pin.globalOf_eq D "law").symm.trans S))▸aW (ff C (λv s2 hv=>?_) λA A x=>x.elim);obtain⟨rfl,⟨h2,P,rfl⟩,hk⟩:=hv;refine bQ ⟨_,H,?_⟩;obtain g:GoodWG iM.row.toRowW.claim (classAt s.heap) (ExcName.means s.heap) [.list<|V.map .int] d (.ok<|.ret<|.bool U) {d with heap:=h2,toks:=P}:=
   ⟨.inl ⟨.bool U,.bool U,[],H,λA=>H,ReadsW.bool U,by kernel_rfl,λA=>⟨.nil,dS⟩⟩,.of_keep hk,H,.of_eq<|r.1.trans p.gens⟩
  obtain f:=g.laid (c:=iM.row.toRowW.claim) H H (λA A=>ident_freeW H H H _ _) L;exact⟨f.1,f.2.1,f.2.2,λq=>dj q⟩
open PySem.W.Fast PySem.W
set_option tactic.hygienic false
theorem WS:C6 iM.row.prog iM.row.prog.main.body "vars"=false:=by rw[te13343964577679436407];kernel_rfl
theorem WW:C6 iM.row.prog iM.row.prog.main.body "dir"=false:=by rw[te13343964577679436407];kernel_rfl
theorem WV:C6 iM.row.prog iM.row.prog.main.body "locals"=false:=by rw[te13343964577679436407];kernel_rfl
def a0O{D:Type}{p:D->Bool}{a b c:D}(f:p a=am)(g:p b=am)(j:p c=am):Dk p [a,b,c]=[]:=by simp[f,g,j]
def WU:Dk (C6 iM.row.prog iM.row.prog.main.body) ["vars","dir","locals"]=[]:=a0O WS WW WV
theorem WT:(!(a5G iM.row.prog.main.body).all cThrough.contains)=false:=by rw[z9,te5923862056798008813,te3471404346716756564,sDec_eq,te17691160309236699985];kernel_rfl
theorem Vo:noRoadLSs {strict:=!(a5G iM.row.prog.main.body).all cThrough.contains,foot:=C,bare:=Dk (C6 iM.row.prog iM.row.prog.main.body) ["vars","dir","locals"]} iM.row.prog.main.body=true:=by
 rw[WU,WT,te8326940854005059898];kernel_rfl
theorem Vq:(namesMeet iM.row.prog iM.row.prog.main.body λ_ n=>attrL n)=true:=by
 rw[te17119622794617984870,te17868728402115742887];kernel_rfl
theorem Vm:looksOpen iM.row.prog=true:=by
 refine gn (gn (gn (gn (gn ?_ ?_) ?_) ?_) ?_) ?_;.rw[te11788848310118352699];kernel_rfl
 .rw[te9807087744658564304,te12862048085361865435];kernel_rfl
 .rw[te8377067652309620493];kernel_rfl
 .rw[z9,te18344453789297297638,te3471404346716756564,sDec_eq,te14412699480532031325];kernel_rfl
 .exact Vo
 .exact Vq
theorem Vp:iM.row.partSaid=true:=by
 refine gn (gn (gn (gn (gn (gn (gn (gn (gn (gn (gn (gn (gn Vm ?_) ?_) ?_) ?_)<|bA ?_) ?_) ?_) ?_) ?_) ?_) ?_) ?_) ?_
 case refine_5=>exact Aq
 all_goals kernel_rfl
theorem Vn:iM.row.wellSaid=true:=by
 refine gn (gn Vp ?_) ?_;.rw[te18344453789297297638,te3471404346716756564,sDec_eq];kernel_rfl
 .rw[te3471404346716756564,sDec_eq,te12749700546528644094];kernel_rfl
theorem a7w:iM.wellSaid=true:=by
 refine gn (gn (gn (gn (gn (gn (gn (gn (gn (gn (gn (gn (gn (gn (gn (gn (gn (gn Vn ?_) ?_) ?_) ?_) ?_) ?_) ?_) ?_) ?_) ?_) ?_) ?_) ?_) ?_) ?_) ?_) ?_) ?_;.kernel_rfl
 .rw[te10501279942588096481];kernel_rfl
 .rw[te8179353310426384613];kernel_rfl
 .kernel_rfl
 .kernel_rfl
 .rw[te8326940854005059898,te797321630700447069,te9572597257264208301];kernel_rfl
 .rw[te9558739934217749035];kernel_rfl
 .rw[te16286561074155671207];kernel_rfl
 .rw[z9,sDec_eq];kernel_rfl
 .rw[z9,te797321630700447069,named_eq,sDec_eq,te6984425678791042302];kernel_rfl
 .kernel_rfl
 .rw[z9,te17095254045102204799,te12879404354523853263,te6984425678791042302,te482687673346738481,sDec_eq];kernel_rfl
 .rw[te17119622794617984870,te3471404346716756564,sDec_eq,te9572597257264208301];kernel_rfl
 .rw[te3471404346716756564,sDec_eq,te10792542408131684335];kernel_rfl
 .rw[te7723801398212525404,sDec_eq,te10792542408131684335];kernel_rfl
 .rw[z9,te10792542408131684335,named_eq];kernel_rfl
 .rw[te17119622794617984870,te3471404346716756564,sDec_eq,te10792542408131684335];kernel_rfl
 .rw[te17119622794617984870,sDec_eq];kernel_rfl
structure a7 where
 t:Nat
 n:Nat
 deriving DecidableEq
set_option genInjectivity true in
inductive AV where
 |q
 |j
 |e (b:Bool)
 |a (i:Int)
 |f (s:Str)
 |B (vs:List AV)
 |r (vs:List AV)
 |g (c:Nat) (es:List<|AV×AV)
 |d (l:a7)
noncomputable def AV.ctorIdx(t:AV):Nat:=AV.casesOn (motive_1:=λb=>Nat) t 0 1 (λb=>2) (λb=>3) (λb=>4) (λb=>5) (λb=>6) (λb b=>7) λb=>8
end
noncomputable section
open PySem PySem.W PySem.Calls PyProof PyProof.Rows
variable{f:AV->AV->Bool} {P:Prop}
noncomputable def sh:AV->Nat×Int×Option Str×List AV×List AV
 |.q=>(0,0,C,[],[])
 |.j=>(1,0,C,[],[])
 |.e b=>(2,cond b 1 0,C,[],[])
 |.a i=>(3,i,C,[],[])
 |.f s=>(4,0,I s,[],[])
 |.B l=>(5,0,C,l,[])
 |.r l=>(6,0,C,l,[])
 |.g c es=>(7,c,C,es.map (·.1),es.map (·.2))
 |.d l=>(8,l.t,I ⟨#[l.n]⟩,[],[])
noncomputable def un(p:Nat×Int×Option Str×List AV×List AV):AV:=
 [.q,.j,.e<|p.2.1==1,.a p.2.1,.f<|p.2.2.1.getD ⟨#[]⟩,.B p.2.2.2.1,.r p.2.2.2.1,.g (cY p.2.1)<|p.2.2.2.1.zip p.2.2.2.2,.d ⟨cY p.2.1,(p.2.2.1.getD ⟨#[]⟩).cps.toList.head!⟩].getD p.1 .q
set_option tactic.hygienic false
def I8(a):un (sh a)=a:=by
 induction a using AV.casesOn
 case e=>cases b<;>rfl
 case g=>exact be (AV.g c)<|(be (λq:List AV×List AV=>q.1.zip q.2) List.unzip_eq_map.symm).trans<|List.zip_unzip es
 all_goals rfl
noncomputable def Cq(f:AV->AV->Bool):List AV->List AV->Bool
 |[],[]=>U
 |a::r,b::s=>f a b&&Cq f r s
 |_,_=>am
def zu(f:AV->AV->Bool)(a b:AV):Bool:=
 decide ((sh a).1=(sh b).1)&&(decide ((sh a).2.1=(sh b).2.1)&&(decide ((sh a).2.2.1=(sh b).2.2.1)&&(Cq f (sh a).2.2.2.1 (sh b).2.2.2.1&&Cq f (sh a).2.2.2.2 (sh b).2.2.2.2)))
def fe:AV->AV->Bool:=zu<|zu<|zu<|zu λb b=>am
noncomputable def PQ(a:AV):Int:=match a with
 |.a i=>i
 |.f s=>(s.cps.toList.foldl (λ(a c:Nat)=>31*a+c) 1000:Nat)
 |.B l=>-1-O l
 |_=>-99
def PP(a:AV):List Int:=match a with
 |.B l=>l.map PQ
 |x=>[PQ x]
def O6(c:∀{a b},f a b=U->a=b):∀{a b},Cq f a b=U->a=b:=by
 intro a;induction a with
 |nil=>
  intro b h;rcases b with _|⟨_,_⟩;.rfl
  .exact dj h
 |cons x r d=>
  intro b h;rcases b with _|⟨y,s⟩;.exact dj h
  .rw[c (gJ.mp h).1,d (gJ.mp h).2]
def Cp(c:∀{a b},f a b=U->a=b){a b}(h:zu f a b=U):a=b:=by
 obtain⟨d,h⟩:=gJ.mp h;obtain⟨h4,e⟩:=gJ.mp (gJ.mp (gJ.mp h).2).2;rw[<-I8 a,<-I8 b];exact be un<|Al (Y d)<|Al (Y (gJ.mp h).1)<|Al (Y (gJ.mp (gJ.mp h).2).1)<|Al (O6 c h4)<|O6 c e
def O5{a b:AV}(h:fe a b=U):a=b:=Cp (Cp<|Cp<|Cp λ{_ _} h=>aP h eS) h
instance:DecidableEq AV:=λa b=>if h:fe a b=U then isTrue (O5 h) else if h:PP a≠PP b then isFalse λe=>h (be _ e) else Classical.propDecidable<|a=b
inductive eE where
 |b (vs:List AV)
 |a (c:Nat) (es:List<|AV×AV)
 |d (c:Nat) (fs:List<|Nat×AV)
noncomputable def eE.ctorIdx(t:eE):Nat:=eE.casesOn t (λb=>0) (λb b=>1) λb b=>2
def av:=a7->Option eE
abbrev dc:av->Prop:=λb=>True
noncomputable def av.u(σ:av)(l:a7)(o:eE):av:=λb=>if b=l then I o else σ b
noncomputable def av.r(σ:av)(l:a7):av:=λb=>if b=l then C else σ b
inductive vV(u:Type) where|add|sub|mul|fdiv|e|a|b|c|d
noncomputable def vV.ctorIdx{u}(o:vV u):Nat:=vV.casesOn o 0 1 2 3 4 5 6 7 8
abbrev Op:=vV Nat
inductive Dx(u:Type) where|eq|ne|lt|le|gt|ge|a|b|B2|d
noncomputable def Dx.ctorIdx{u}(o:Dx u):Nat:=Dx.casesOn o 0 1 2 3 4 5 6 7 8 9
abbrev Cm:=Dx Nat
inductive Tg where|B (i:Nat)|a (is:List Nat)
inductive PE where
 |N
 |k (v:AV)
 |g (v:AV)
 |v (i:Nat)
 |q (o:Op) (a b:PE)
 |h (o:Cm) (a b:PE)
 |u (a b:PE)
 |y (a b:PE)
 |K (a:PE)
 |F (a:PE)
 |s (a:PE)
 |D (t a b:PE)
 |p (e:PE) (f:Nat)
 |n (e i:PE)
 |u5 (e b:PE)
 |xr (e a:PE)
 |B (es:List PE)
 |r (es:List PE)
 |zB (c:Nat) (ks es:List PE)
 |L (t:Nat) (es:List PE)
 |w (t c:Nat)
 |z (tg:Tg) (it:PE) (c:Option PE) (e:PE)
 |xv (t:Nat) (tg:Tg) (it:PE) (c:Option PE) (e:PE)
 |M (es:List PE)
 |j (f:Nat) (es:List PE)
 |A (o:PE) (m:Nat) (es:List PE)
 |new (c t:Nat) (es:List PE)
 |aT (e:PE)
 |tuple (e:PE)
 |sorted (e:PE)
 |By (e:PE)
 |S (d k x:PE)
 |P (d k x:PE)
 |A9 (l i:PE)
 |append (l x:PE)
 |ze (l i x:PE)
inductive PS where
 |N
 |g (i:Nat) (e:PE)
 |n (is:List Nat) (e:PE)
 |j (o:PE) (f:Nat) (e:PE)
 |p (o:PE) (f:Nat) (op:Op) (e:PE)
 |m (o k e:PE)
 |d (t:PE) (a b:List PS)
 |h (tg:Tg) (it:PE) (body:List PS)
 |c (e:PE)
 |l (e:PE)
 |u (i:Nat)
structure FD where
 na:Nat
 a:List AV
 nl:Nat
 body:List PS
noncomputable def dg:List AV->Nat->AV
 |[],_=>.q
 |a::_,0=>a
 |_::r,n+1=>dg r n
noncomputable def ci:List AV->Nat->AV->List AV
 |[],_,_=>[]
 |_::r,0,v=>v::r
 |a::r,n+1,v=>a::ci r n v
noncomputable def lK:List AV->List Nat->List AV->List AV
 |L,i::is,v::vs=>lK (ci L i v) is vs
 |L,_,_=>L
noncomputable def dL:List (AV×AV)->AV->Option AV
 |[],_=>.none
 |(k,v)::r,x=>if k=x then I v else dL r x
noncomputable def mV:List (AV×AV)->AV->AV->List (AV×AV)
 |[],x,y=>[(x,y)]
 |(k,v)::r,x,y=>if k=x then(k,y)::r else(k,v)::mV r x y
noncomputable def oB:List (AV×AV)->AV->List (AV×AV)
 |[],_=>[]
 |(k,v)::r,x=>if k=x then r else(k,v)::oB r x
noncomputable def ut:List (Nat×AV)->Nat->Option AV
 |[],_=>.none
 |(k,v)::r,x=>if k=x then I v else ut r x
noncomputable def oA:List (Nat×AV)->Nat->AV->List (Nat×AV)
 |[],x,y=>[(x,y)]
 |(k,v)::r,x,y=>if k=x then(k,y)::r else(k,v)::oA r x y
noncomputable def iL(σ:av):AV->Option (List AV)
 |.B vs=>I vs
 |.r vs=>I vs
 |.d l=>match σ l with|some (.b vs)=>I vs|_=>.none
 |_=>.none
noncomputable def jy(σ:av):AV->Option (List<|AV×AV)
 |.g _ es=>I es
 |.d l=>match σ l with|some (.a _ es)=>I es|_=>.none
 |_=>.none
noncomputable def jO(σ:av):AV->Nat
 |.g c _=>c
 |.d l=>match σ l with|some (.a c _)=>c|_=>0
 |_=>0
noncomputable abbrev aR:Nat:=1048576
def yY(σ:av)(x:AV):Prop:=match iL σ x with
 |some vs=>O vs<=aR
 |.none=>match jy σ x with|some es=>O es<=aR|.none=>True
noncomputable def wD(σ:av):AV->Option Bool
 |.j=>I am
 |.e b=>I b
 |.a i=>I<|decide<|i≠0
 |.B vs=>I<|decide<|vs≠[]
 |.r vs=>I<|decide<|vs≠[]
 |.g 0 es=>I<|decide<|es≠[]
 |.d l=>match σ l with|some (.b vs)=>I (decide<|vs≠[])|some (.a 0 es)=>I (decide<|es≠[])|_=>.none
 |_=>.none
noncomputable def oC:Nat->AV->Bool
 |_,.j=>U
 |_,.e _=>U
 |_,.a _=>U
 |_,.f x=>HO x
 |n+1,.B xs=>xs.all<|oC n
 |_,_=>am
mutual
noncomputable def ky:AV->HP
 |.e b=>.bool b
 |.a i=>.int i
 |.f x=>.str x
 |.B ks=>.tuple<|nM ks
 |.r ks=>.list<|nM ks
 |_=>.none
noncomputable def nM:List AV->List HP
 |[]=>[]
 |k::r=>ky k::nM r
end
def lR(x y:AV):Bool:=oC 8 x&&oC 8 y&&xN (ky x) (ky y)
noncomputable def y4:AV->Bool
 |.a _=>U
 |.f x=>HO x
 |_=>am
def BY:AV->Bool
 |.a _=>U
 |.f x=>HO x
 |.B xs=>xs.all y4
 |_=>am
def dK(c:Nat)(k:AV):Bool:=match k with
 |.a _=>c==0
 |.f _=>c==1
 |.B x=>c==2&&x.all BY
 |_=>am
noncomputable def o8(n:Nat)(i:Int):Option Nat:=if 0<=i then(if i<n then I (cY i) else .none) else if 0<=i+n then I (cY<|i+n) else .none
noncomputable def cut(n:Nat)(i:Int):Nat:=if 0<=i then min (cY i) n else cY<|i+n
def small(i:Int):Prop:=-(2^62)<=i/\i<=2^62
noncomputable def mn:List AV->Option (List Int)
 |[]=>I []
 |.a i::r=>(mn r).map (i::·)
 |_=>.none
noncomputable def uf(x:Int):List Int->List Int
 |[]=>[x]
 |y::r=>if x<=y then x::y::r else y::uf x r
noncomputable def rU:List Int->List Int
 |[]=>[]
 |x::r=>uf x<|rU r
noncomputable def yQ:List Int->Option Int
 |[]=>.none
 |x::r=>I<|r.foldl (λa b=>if b<a then b else a) x
noncomputable def kU(a:Int):Nat->List AV
 |0=>[]
 |n+1=>.a a::kU (a+1) n
noncomputable def wV(a:Int):Nat->List AV
 |0=>[]
 |n+1=>.a a::wV (a-1) n
noncomputable section
variable(σ:av)
def iW(x:AV)(K:AV->Prop):Prop:=match x with|.q=>False|x=>K x
def c7(x:AV)(K:Bool->Prop):Prop:=match wD σ x with|some b=>yY σ x/\K b|.none=>False
def jX(x:AV)(K:List AV->Prop):Prop:=match iL σ x with|some b=>K b|.none=>False
def pK(x:AV)(K:List (AV×AV)->Prop):Prop:=match jy σ x with|some b=>K b|.none=>False
def jr(o:Op)(x y:AV)(K:AV->Prop):Prop:=match x with
 |.a a=>match y with
  |.a b=>match o with
   |.add=>K<|.a<|a+b
   |.sub=>K<|.a<|a-b
   |.mul=>small a/\small b/\K (.a<|a*b)
   |.fdiv=>small a/\small b/\b≠0/\K (.a<|a.fdiv b)
   |.e=>b≠0/\K (.a<|a.fmod b)
   |.a=>K<|.a<|PySem.Builtin.bitAnd a b
   |.b=>K<|.a<|PySem.Builtin.bitOr a b
   |.c=>small a/\0<=b/\b<=64/\K (.a<|a*2^cY b)
   |.d=>0<=b/\K (.a<|a.fdiv<|2^cY b)
  |_=>False
 |.B u=>match y with
  |.B v=>match o with|.add=>u≠[]/\v≠[]/\O u+O v<=aR/\K (.B<|u++v)|_=>False
  |_=>False
 |.q=>False|.j=>False|.e _=>False|.f _=>False|.g _ _=>False
 |.r _=>match o with|.add=>(match y with|.B _=>False|_=>jX σ x λu=>jX σ y λv=>O u+O v<=aR/\K (.r<|u++v))|_=>False
 |.d _=>match o with|.add=>(match y with|.B _=>False|_=>jX σ x λu=>jX σ y λv=>O u+O v<=aR/\K (.r<|u++v))|_=>False
noncomputable def BE:AV->Option (List AV)
 |.r vs=>I vs
 |.d l=>match σ l with|some (.b vs)=>I vs|_=>.none
 |_=>.none
def wR(v b:AV):Prop:=(v=b/\oC 8 v=U)\/∃us,BE σ v=I us/\BE σ b=I us/\us.all (oC 7)=U
def SV(es b:List<|AV×AV)(K:Bool->Prop):Prop:=O es=O b/\(∀p∈es,∃c,dL b p.1=I c/\wR σ p.2 c)/\K U
def sG(x y:AV)(K:Bool->Prop):Prop:=match jy σ x with
 |some es=>jO σ x=0/\jO σ y=0/\pK σ y λb=>SV σ es b K
 |.none=>lR x y=U/\K (decide<|x=y)
def rj(x y:AV)(K:Bool->Prop):Prop:=match iL σ y with
 |some vs=>(∀v∈vs,lR v x=U)/\K (decide<|x∈vs)
 |.none=>match jy σ y with
  |some es=>dK (jO σ y) x=U/\K (dA<|dL es x)
  |.none=>False
noncomputable def isNone:AV->Bool|.j=>U|_=>am
def eZ(o:Cm)(x y:AV)(K:AV->Prop):Prop:=match o with
 |.eq=>sG σ x y λb=>K<|.e b
 |.ne=>sG σ x y λb=>K<|.e<|!b
 |.lt=>match x with|.a a=>(match y with|.a b=>K (.e<|decide<|a<b)|_=>False)|_=>False
 |.le=>match x with|.a a=>(match y with|.a b=>K (.e<|decide<|a<=b)|_=>False)|_=>False
 |.gt=>match x with|.a a=>(match y with|.a b=>K (.e<|decide<|b<a)|_=>False)|_=>False
 |.ge=>match x with|.a a=>(match y with|.a b=>K (.e<|decide<|b<=a)|_=>False)|_=>False
 |.a=>rj σ x y λb=>K<|.e b
 |.b=>rj σ x y λb=>K<|.e<|!b
 |.B2=>match y with|.j=>K (.e<|isNone x)|_=>False
 |.d=>match y with|.j=>K (.e<|!isNone x)|_=>False
def gL(x y:AV)(K:AV->Prop):Prop:=match iL σ x with
 |some vs=>O vs<=aR/\match y with
  |.a i=>(match o8 (O vs) i with|some j=>(match vs[j]? with|some v=>K v|.none=>False)|.none=>False)
  |_=>False
 |.none=>match jy σ x with
  |some es=>dK (jO σ x) y=U/\(match dL es y with|some v=>K v|.none=>False)
  |.none=>match x with
   |.f s=>(match y with|.a i=>0<=i/\i<=1000/\(match s.cps[cY i]? with|some c=>K (.f ⟨#[c]⟩)|.none=>False)|_=>False)
   |_=>False
def wy(x y:AV)(K:AV->Prop):Prop:=match y with
 |.a i=>match x with
  |.B vs=>i=-1/\2<=O vs/\O vs<=aR/\K (.B<|vs.take<|O vs-1)
  |.r vs=>0<=i/\O vs<=aR/\K (.r<|vs.take<|cY i)
  |.d l=>(match σ l with|some (.b vs)=>0<=i/\O vs<=aR/\K (.r<|vs.take<|cY i)|_=>False)
  |_=>False
 |_=>False
def u4(x y:AV)(K:AV->Prop):Prop:=match y with
 |.a i=>match x with
  |.r vs=>0<=i/\O vs<=aR/\K (.r<|vs.drop<|cY i)
  |.d l=>(match σ l with|some (.b vs)=>0<=i/\O vs<=aR/\K (.r<|vs.drop<|cY i)|_=>False)
  |_=>False
 |_=>False
def oe(x:AV)(f:Nat)(K:AV->Prop):Prop:=match x with
 |.d l=>(match σ l with|some (.d _ fs)=>(match ut fs f with|some v=>K v|.none=>False)|_=>False)
 |_=>False
def oQ(x:AV)(f:Nat)(v:AV)(K:av->Prop):Prop:=match x with
 |.d l=>(match σ l with|some (.d c fs)=>O fs<=100/\K (σ.u l<|.d c<|oA fs f v)|_=>False)
 |_=>False
def l8(x y v:AV)(K:av->Prop):Prop:=match x with
 |.d l=>(match σ l with
  |some (.b vs)=>(match y with|.a i=>0<=i/\i<O vs/\O vs<=aR/\K (σ.u l<|.b<|vs.set (cY i) v)|_=>False)
  |some (.a c es)=>dK c y=U/\O es<=aR/\K (σ.u l<|.a c<|mV es y v)
  |_=>False)
 |_=>False
def mJ(x:AV)(K:a7->List AV->Prop):Prop:=match x with
 |.d l=>(match σ l with|some (.b vs)=>O vs<=aR/\K l vs|_=>False)
 |_=>False
def ye(x:AV)(K:List Int->Prop):Prop:=match mn (match x with|.r vs=>vs|_=>[.j]) with|some b=>K b|.none=>False
def yd(x:AV)(K:List Int->Prop):Prop:=pK σ x λes=>match mn (es.map (·.1)) with|some b=>K b|.none=>False
noncomputable def ly(x:AV):Bool:=match x with
 |.d l=>(match σ l with|some (.b _)=>U|_=>am)
 |_=>am
def ul(x:AV):Bool:=dA<|jy σ x
noncomputable def FY:AV->Bool|.a _=>U|_=>am
def ma(x:AV)(K:List AV->(av->Prop)->Prop):Prop:=match x with
 |.B vs=>K vs λb=>True
 |.r vs=>K vs λb=>True
 |.d l=>(match σ l with
  |some (.b vs)=>K vs λJ=>J l=I (.b vs)
  |some (.a 0 [])=>K [] λb=>True
  |_=>False)
 |_=>False
def DC(es:List AV)(K:List AV->Prop):Prop:=match es with
 |[.a n]=>-1000<=n/\n<=1000/\K (kU 0<|cY n)
 |[.a a,.a b,.a c]=>c=-1/\b=-1/\-1<=a/\a<=1000/\K (wV a<|cY<|a+1)
 |_=>False
def qr(n:Nat):Prop:=∀t,σ ⟨t,n⟩=.none
end
def p9(L:List AV)(tg:Tg)(x:AV)(K:List AV->Prop):Prop:=match tg with
 |.B i=>K<|ci L i x
 |.a is=>match x with|.B vs=>O vs=O is/\K (lK L is vs)|_=>False
noncomputable def cu(body:List AV->av->(Option AV->List AV->av->Prop)->Prop)(tg:Tg)(ok:av->Prop):List AV->List AV->av->(Option AV->List AV->av->Prop)->Prop
 |[],L,σ,K=>K .none L σ
 |x::xs,L,σ,K=>p9 L tg x λd=>body d σ λr c b=>match r with
  |.none=>ok b/\cu body tg ok xs c b K
  |some v=>K (I v) c b
noncomputable def iJ(ji cM:List AV->av->(AV->av->Prop)->Prop)(tg:Tg)(ok:av->Prop)(L:List AV):List AV->av->(List AV->av->Prop)->Prop
 |[],σ,K=>K [] σ
 |x::xs,σ,K=>p9 L tg x λg=>ji g σ λb d=>c7 d b λc=>
  if c then cM g d λv e=>ok e/\iJ ji cM tg ok L xs e λvs f=>K (v::vs) f
  else ok d/\iJ ji cM tg ok L xs d K
noncomputable def MT:Nat->Nat->Option Nat
 |0,m=>if m=7 then I 1 else .none
 |1,m=>if m=1 then I 29 else if m=4 then I 28 else if m=9 then I 30 else .none
 |2,m=>if m=0 then I 82 else if m=2 then I 83 else if m=3 then I 81 else if m=5 then I 84 else .none
 |3,m=>if m=6 then I 24 else if m=7 then I 25 else if m=8 then I 26 else .none
 |_,_=>.none
noncomputable def IT:Nat->Option Nat
 |0=>I 0
 |1=>I 27
 |2=>I 80
 |_=>.none
def yc(σ:av)(x:AV)(m:Nat)(k:Nat->a7->Prop):Prop:=match x with
 |.d l=>(match σ l with
  |some (.d c _)=>(match MT c m with|some f=>k f l|.none=>False)
  |_=>False)
 |_=>False
def IG(x:AV)(K:AV->Prop):Prop:=match x with|.a i=>K (.a<|-i-1)|_=>False
def AK(σ:av)(d k x:AV)(K:AV->av->Prop):Prop:=match d with
 |.d l=>(match σ l with|some (.a c es)=>O es<=aR/\dK c k=U/\K ((dL es k).getD x) (σ.u l<|.a c<|oB es k)|_=>False)
 |_=>False
def IF(σ:av)(l i:AV)(K:AV->av->Prop):Prop:=mJ σ l λa vs=>match i with
 |.a i=>0<=i/\(match vs[cY i]? with|some v=>K v (σ.u a<|.b<|vs.eraseIdx<|cY i)|.none=>False)
 |_=>False
abbrev nJ:=Nat->List AV->av->(AV->av->Prop)->Prop
noncomputable section
variable(d:nJ)
mutual
noncomputable def a6:PE->List AV->av->(AV->av->Prop)->Prop
 |.N,_,_,_=>False
 |.k v,_,σ,K=>K v σ
 |.g v,_,σ,K=>K v σ
 |.v i,L,σ,K=>iW (dg L i) λx=>K x σ
 |.q o a b,L,σ,K=>a6 a L σ λx j=>a6 b L j λy p=>jr p o x y λr=>K r p
 |.h o a b,L,σ,K=>a6 a L σ λx j=>a6 b L j λy p=>eZ p o x y λr=>K r p
 |.u a b,L,σ,K=>a6 a L σ λx j=>c7 j x λc=>if c then a6 b L j K else K x j
 |.y a b,L,σ,K=>a6 a L σ λx j=>c7 j x λc=>if c then K x j else a6 b L j K
 |.K a,L,σ,K=>a6 a L σ λx j=>c7 j x λc=>K (.e<|!c) j
 |.F a,L,σ,K=>a6 a L σ λx j=>match x with|.a i=>K (.a<|-i) j|_=>False
 |.s a,L,σ,K=>a6 a L σ λx j=>IG x λv=>K v j
 |.D t a b,L,σ,K=>a6 t L σ λx j=>c7 j x λc=>if c then a6 a L j K else a6 b L j K
 |.p e f,L,σ,K=>a6 e L σ λx j=>oe j x f λv=>K v j
 |.n e i,L,σ,K=>a6 e L σ λx j=>a6 i L j λy p=>gL p x y λv=>K v p
 |.u5 e i,L,σ,K=>a6 e L σ λx j=>a6 i L j λy p=>wy p x y λv=>K v p
 |.xr e i,L,σ,K=>a6 e L σ λx j=>a6 i L j λy p=>u4 p x y λv=>K v p
 |.B es,L,σ,K=>kt es L σ λvs j=>K (.B vs) j
 |.r es,L,σ,K=>kt es L σ λvs j=>K (.r vs) j
 |.zB c ks es,L,σ,K=>kt ks L σ λks j=>kt es L j λvs p=>ks.length=vs.length/\ks.Nodup/\ks.all (dK c)=U/\K (.g c<|ks.zip vs) p
 |.L t es,L,σ,K=>kt es L σ λvs j=>∀n,qr j n->K (.d ⟨t,n⟩) (j.u ⟨t,n⟩<|.b vs)
 |.w t c,_,σ,K=>∀n,qr σ n->K (.d ⟨t,n⟩) (σ.u ⟨t,n⟩<|.a c [])
 |.z tg it c e,L,σ,K=>a6 it L σ λx j=>ma j x λxs ok=>xs.length<=aR/\iJ (n8 c) (a6 e) tg ok L xs j λvs p=>K (.r vs) p
 |.xv t tg it c e,L,σ,K=>a6 it L σ λx j=>ma j x λxs ok=>xs.length<=aR/\iJ (n8 c) (a6 e) tg ok L xs j λvs p=>∀n,qr p n->K (.d ⟨t,n⟩) (p.u ⟨t,n⟩<|.b vs)
 |.M es,L,σ,K=>kt es L σ λvs j=>DC vs λxs=>K (.B xs) j
 |.j f es,L,σ,K=>kt es L σ λvs j=>d f vs j K
 |.A o m es,L,σ,K=>a6 o L σ λx j=>yc j x m λf l=>kt es L j λvs p=>d f (.d l::vs) p K
 |.new c t es,L,σ,K=>kt es L σ λvs j=>∀n,qr j n->match IT c with
  |some f=>d f (.d ⟨t,n⟩::vs) (j.u ⟨t,n⟩<|.d c []) λr p=>r=.j/\K (.d ⟨t,n⟩) p
  |.none=>vs=[]/\K (.d ⟨t,n⟩) (j.u ⟨t,n⟩<|.d c [])
 |.aT e,L,σ,K=>a6 e L σ λx j=>jX j x λvs=>vs.length<=aR/\K (.a vs.length) j
 |.tuple e,L,σ,K=>a6 e L σ λx j=>match x with|.B _=>False|_=>jX j x λvs=>vs.length<=aR/\K (.B vs) j
 |.sorted e,L,σ,K=>a6 e L σ λx j=>jO j x=0/\yd j x λis=>is.length<64/\K (.r<|(rU is).map .a) j
 |.By e,L,σ,K=>a6 e L σ λx j=>ye x λis=>is.length<=aR/\match yQ is with|some m=>K (.a m) j|.none=>False
 |.S g k x,L,σ,K=>a6 g L σ λg j=>ul j g=U/\a6 k L j λk p=>a6 x L p λx q=>pK q g λes=>dK (jO q g) k=U/\K ((dL es k).getD x) q
 |.P g k x,L,σ,K=>a6 g L σ λg j=>ul j g=U/\a6 k L j λk p=>a6 x L p λx q=>AK q g k x K
 |.A9 l i,L,σ,K=>a6 l L σ λl j=>ly j l=U/\a6 i L j λi p=>IF p l i K
 |.append l x,L,σ,K=>a6 l L σ λl j=>ly j l=U/\a6 x L j λx p=>mJ p l λa vs=>K .j<|p.u a<|.b<|vs++[x]
 |.ze l i x,L,σ,K=>a6 l L σ λl j=>ly j l=U/\a6 i L j λi p=>a6 x L p λx q=>mJ q l λa vs=>match i with
  |.a i=>0<=i/\i<=vs.length/\K .j (q.u a<|.b<|vs.take i.toNat++x::vs.drop i.toNat)
  |_=>False
noncomputable def kt:List PE->List AV->av->(List AV->av->Prop)->Prop
 |[],_,σ,K=>K [] σ
 |e::r,L,σ,K=>a6 e L σ λv b=>kt r L b λvs c=>K (v::vs) c
noncomputable def n8:Option PE->List AV->av->(AV->av->Prop)->Prop
 |.none,_,σ,K=>K (.e U) σ
 |some e,L,σ,K=>a6 e L σ K
end
mutual
noncomputable def IE:PS->List AV->av->(Option AV->List AV->av->Prop)->Prop
 |.N,_,_,_=>False
 |.g i e,L,σ,K=>a6 d e L σ λv g=>K .none (ci L i v) g
 |.n is e,L,σ,K=>a6 d e L σ λv g=>p9 L (.a is) v λp=>K .none p g
 |.j o f e,L,σ,K=>a6 d e L σ λv g=>a6 d o L g λx j=>oQ j x f v λm=>K .none L m
 |.p o f q e,L,σ,K=>a6 d o L σ λx g=>oe g x f λio=>FY io=U/\a6 d e L g λv j=>jr j q io v λr=>oQ j x f r λm=>K .none L m
 |.m o k e,L,σ,K=>a6 d e L σ λv g=>a6 d o L g λx j=>a6 d k L j λy m=>l8 m x y v λn=>K .none L n
 |.d t a b,L,σ,K=>a6 d t L σ λx g=>c7 g x λc=>if c then ch a L g K else ch b L g K
 |.h tg it body,L,σ,K=>a6 d it L σ λx g=>ma g x λxs ok=>xs.length<=aR/\cu (ch body) tg ok xs L g K
 |.c e,L,σ,K=>a6 d e L σ λv g=>K (I v) L g
 |.l e,L,σ,K=>a6 d e L σ λv g=>(match v with|.B _=>False|.r _=>False|.g _ _=>False|.d _=>False|_=>True)/\K .none L g
 |.u i,L,σ,K=>match dg L i with
  |.d l=>(match σ l with
   |some (.b vs)=>K .none (ci L i<|.r vs)<|σ.r l
   |some (.a c es)=>K .none (ci L i<|.g c es)<|σ.r l
   |_=>False)
  |_=>False
noncomputable def ch:List PS->List AV->av->(Option AV->List AV->av->Prop)->Prop
 |[],L,σ,K=>K .none L σ
 |s::r,L,σ,K=>IE s L σ λx c b=>match x with|.none=>ch r c b K|some v=>K (I v) c b
end
end
noncomputable def enter(d:FD)(vs:List AV):List AV:=
 let xs:=vs++d.a.drop (O d.a-(d.na-O vs))
 xs++R0 (d.nl-O xs) .q
noncomputable section
variable(d:Nat->Option FD)
noncomputable def AL:Nat->nJ
 |0,_,_,_,_=>False
 |n+1,f,vs,σ,K=>match d f with
  |some b=>O vs<=b.na/\b.na-O vs<=O b.a/\ch (AL n) b.body (enter b vs) σ λr e c=>K (r.getD .j) c
  |.none=>False
end
inductive Ev(P:Prop):Type
 |g
 |c (h:P)
noncomputable def Ev.r:Ev P->Bool
 |.g=>am
 |.c _=>U
def Ev.S{e:Ev P}(h:e.r=U):P:=by
 cases e with
 |g=>exact dj h
 |c p=>exact p
def Ev.B(b)(f:b=U->Ev P):Ev P:=Bool.rec (motive:=λc=>(c=U->Ev P)->Ev P) (λd=>.g) (λf=>f H) b f
def Ev.q(e:Ev P)(f:P->Ev Q):Ev Q:=Ev.rec (motive:=λb=>Ev Q) .g f e
def Ev.CK(a b:Ev P):Ev P:=Ev.rec (motive:=λc=>Ev P) b (λh=>.c h) a
noncomputable section
variable{m:Expr->Type} (d:∀e,m e) (e:Expr)
@[elab_as_elim] noncomputable def LO(f:∀o l p,m<|.BoolOp o l p):m e:=by induction e using Expr.casesOn<;>first|apply f|apply d
@[elab_as_elim] noncomputable def Yj(f:∀l o r p,m<|.BinOp l o r p):m e:=by induction e using Expr.casesOn<;>first|apply f|apply d
@[elab_as_elim] noncomputable def EJ(f:∀o x p,m<|.UnaryOp o x p):m e:=by induction e using Expr.casesOn<;>first|apply f|apply d
@[elab_as_elim] noncomputable def Ye(f:∀t a b p,m<|.IfExp t a b p):m e:=by induction e using Expr.casesOn<;>first|apply f|apply d
@[elab_as_elim] noncomputable def LL(f:∀k v p,m<|.Dict k v p):m e:=by induction e using Expr.casesOn<;>first|apply f|apply d
@[elab_as_elim] noncomputable def Bf(f:∀x g s p,m<|.ListComp x g s p):m e:=by induction e using Expr.casesOn<;>first|apply f|apply d
@[elab_as_elim] noncomputable def Yi(f:∀l o r p,m<|.Compare l o r p):m e:=by induction e using Expr.casesOn<;>first|apply f|apply d
@[elab_as_elim] noncomputable def LN(f:∀g a k p,m<|.Call g a k p):m e:=by induction e using Expr.casesOn<;>first|apply f|apply d
@[elab_as_elim] noncomputable def LM(f:∀c k p,m<|.Constant c k p):m e:=by induction e using Expr.casesOn<;>first|apply f|apply d
@[elab_as_elim] noncomputable def Bh(f:∀o s p,m<|.Attribute o s p):m e:=by induction e using Expr.casesOn<;>first|apply f|apply d
@[elab_as_elim] noncomputable def Bd(f:∀o s p,m<|.Subscript o s p):m e:=by induction e using Expr.casesOn<;>first|apply f|apply d
@[elab_as_elim] noncomputable def pU(f:∀x p,m<|.Name x p):m e:=by induction e using Expr.casesOn<;>first|apply f|apply d
@[elab_as_elim] noncomputable def LK(f:∀l p,m<|.List l p):m e:=by induction e using Expr.casesOn<;>first|apply f|apply d
@[elab_as_elim] noncomputable def yH(f:∀l k p,m<|.Tuple l k p):m e:=by induction e using Expr.casesOn<;>first|apply f|apply d
@[elab_as_elim] noncomputable def LJ(f:∀a b c p,m<|.Slice a b c p):m e:=by induction e using Expr.casesOn<;>first|apply f|apply d
end
noncomputable section
variable{e:Type} {m:List e->Type} (d:∀l,m l) (l:List e)
@[elab_as_elim] noncomputable def oW(f:m []):m l:=List.casesOn l f λb b=>d _
@[elab_as_elim] noncomputable def rF(f:∀x r,m<|x::r):m l:=List.casesOn l (d _) f
@[elab_as_elim] def qH(f:∀x,m [x]):m l:=rF d l λx r=>oW (m:=λr=>m<|x::r) (λb=>d _) r<|f x
@[elab_as_elim] def Bj(f:∀x y,m [x,y]):m l:=rF d l λx r=>qH (m:=λr=>m<|x::r) (λb=>d _) r<|f x
end
noncomputable section
variable{m:Expr->Type} (d:∀e,m e) (e:Expr)
@[elab_as_elim] def Bg(f:∀s q a p,m<|.Call (.Name s q) a [] p):m e:=LN d e λg a k p=>pU (m:=λg=>m<|.Call g a k p) (λb=>d _) g λs q=>oW (m:=λk=>m<|.Call (.Name s q) a k p) (λb=>d _) k<|f s q a p
@[elab_as_elim] def EK(f:∀o s q a p,m<|.Call (.Attribute o s q) a [] p):m e:=LN d e λg a k p=>Bh (m:=λg=>m<|.Call g a k p) (λb=>d _) g λo s q=>oW (m:=λk=>m<|.Call (.Attribute o s q) a k p) (λb=>d _) k<|f o s q a p
@[elab_as_elim] def Yh(f:∀l o r p,m<|.Compare l [o] [r] p):m e:=Yi d e λl os b p=>qH (m:=λos=>m<|.Compare l os b p) (λc=>d _) os λo=>qH (m:=λb=>m<|.Compare l [o] b p) (λc=>d _) b λr=>f l o r p
end
noncomputable section
variable{m:Stmt->Type} (d:∀e,m e) (e:Stmt)
@[elab_as_elim] noncomputable def Yc(f:∀v p,m<|.Return v p):m e:=by induction e using Stmt.casesOn<;>first|apply f|apply d
@[elab_as_elim] noncomputable def Bi(f:∀t v p,m<|.Assign t v p):m e:=by induction e using Stmt.casesOn<;>first|apply f|apply d
@[elab_as_elim] noncomputable def Yk(f:∀t o v p,m<|.AugAssign t o v p):m e:=by induction e using Stmt.casesOn<;>first|apply f|apply d
@[elab_as_elim] noncomputable def Yf(f:∀t i b o p,m<|.For t i b o p):m e:=by induction e using Stmt.casesOn<;>first|apply f|apply d
@[elab_as_elim] noncomputable def Yd(f:∀t a b p,m<|.If t a b p):m e:=by induction e using Stmt.casesOn<;>first|apply f|apply d
@[elab_as_elim] noncomputable def Yg(f:∀x p,m<|.Expr x p):m e:=by induction e using Stmt.casesOn<;>first|apply f|apply d
end
noncomputable def nO{P:b->Prop}(e):Ev<|P e:=.g
structure Gh where
 ρ:a7->Addr
 μ:a7->Addr
 j:Addr->Prop
 N:Nat
end
noncomputable section
open PySem PySem.W PySem.Calls PyProof PyProof.Rows
variable{g g' C_:Gh} {h h' B_:Heap} {w:cR} {σ σ':av} {X D_:Addr->Prop} {a sl d it E!:Addr} {b:Bool} {o:Obj} {α β:Type} {s₀ s:bT} {K P:AV->av->Prop} {v f u kv:aL} {tk:Tok} {A:nZ} {vs z_ z!:List aL} {p pos p' B!:Pos} {xs us r L ws:List AV} {i n j c C':Nat} {x k y:AV} {l:List Str} {z:Array aL} {E_ Q:aL->bT->Prop} {m:Str->Option aL} {as:List Addr} {es:List (AV×AV)} {D:List kj} {A!:List (Int×aL)} {ns is:List Int} {acc:List (Str×Addr)} {fs:List (Nat×AV)} {env:Env} {cx:Cx} {A_ x!:Expr} {T:String} {Kb:Bool->av->Prop} {rest:List (Sem aL)} {N ok:av->Prop} {Kx:Bool->AV->av->Prop} {e:Sem aL} {D!:List (Str×aL)->(Str->Option aL)->Str->Option aL} {M:Model} {y_ sc:List (Str×vZ)} {fd:FuncData} {y! C!:List Expr} {V:List (Str×Nat)} {B':Str} {tg:Tg} {y':uI}
set_option tactic.hygienic false
mutual
noncomputable def Jn:AV->WData
 |.e b=>.bool b
 |.a i=>.int i
 |.f x=>.str x
 |.B ks=>.tuple<|DN ks
 |_=>.none
noncomputable def DN:List AV->List WData
 |[]=>[]
 |k::r=>Jn k::DN r
end
def mr(w:cR)(k:AV):Int:=hashW w.params<|Jn k
noncomputable section
variable(w:cR) (g:Gh) (h:Heap)
mutual
noncomputable def aG:AV->aL->Prop
 |.q,_=>False
 |.j,v=>v=.none
 |.e b,v=>v=.bool b
 |.a i,v=>∃t,v=.int i t
 |.f x,v=>∃t,v=.str x t
 |.B vs,v=>∃a z,v=.ref a/\g.j a/\IsT h a z 0/\aI vs z.toList
 |.r vs,v=>∃a z n,v=.ref a/\g.j a/\IsL h a z n/\aI vs z.toList
 |.g c es,v=>∃a o D n,v=.ref a/\g.j a/\(a==Q3)=am/\h.get? a=I o/\o.ExactDict/\o.data=.dict D n/\eY c es D.toList/\(es.map (·.1)).Nodup
 |.d l,v=>v=.ref (g.ρ l)/\l.n<g.N
noncomputable def aI:List AV->List aL->Prop
 |[],vs=>vs=[]
 |x::r,vs=>∃v b,vs=v::b/\aG x v/\aI r b
noncomputable def eY:Nat->List (AV×AV)->List kj->Prop
 |_,[],es=>es=[]
 |c,(k,v)::r,es=>∃e b,es=e::b/\aG k e.key/\e.hash=mr w k/\dK c k=U/\aG v e.val/\eY c r b
end
end
structure du(g:Gh)(h:Heap)(g':Gh)(h':Heap):Prop where
 j:∀a,g.j a->g'.j a
 ρ:∀l,l.n<g.N->g'.ρ l=g.ρ l
 μ:∀l,l.n<g.N->g'.μ l=g.μ l
 N:g.N<=g'.N
 cT:∀a o,g.j a->h.get? a=some o->h'.get? a=some o
def du.B(g)(h):du g h g h:=⟨λb x=>x,λb b=>H,λb b=>H,ce _,λb b b e=>e⟩
def du.q(a:du g h g' h')(b:du g' h' C_ B_):du g h C_ B_:=
 ⟨λx y=>b.j x<|a.j x y,λl c=>(b.ρ l<|eR c a.N).trans<|a.ρ l c,λl c=>(b.μ l<|eR c a.N).trans<|a.μ l c,aV a.N b.N,
  λx o d e=>b.cT x o (a.j x d)<|a.cT x o d e⟩
def aG.F(X:du g h g' h')(x):∀v,aG w g h x v->aG w g' h' x v:=AV.rec (motive_2:=λx=>∀v,aI w g h x v->aI w g' h' x v) (motive_3:=λx=>∀c v,eY w g h c x v->eY w g' h' c x v) (motive_4:=λp=>(∀v,aG w g h p.1 v->aG w g' h' p.1 v)/\∀v,aG w g h p.2 v->aG w g' h' p.2 v)
 (λd e=>e) (λd e=>e) (λd d e=>e) (λd d e=>e) (λd d e=>e) (λvs i v e=>o6 e λa l e1 f e3 e4=>⟨a,l,e1,X.j a f,X.cT a _ f e3,i _ e4⟩) (λvs i v e=>rS e λa l n e1 f e3 e4=>⟨a,l,n,e1,X.j a f,X.cT a _ f e3,i _ e4⟩) (λc es i v e=>NT e λa o l n e1 f e3 e4 j e6=>⟨a,o,l,n,e1,X.j a f,e3,X.cT a o f e4,j,e6.1,i _ _ e6.2.1,e6.2.2⟩) (λl v e=>⟨aO ((X.ρ l e.2).symm) e.1,eR e.2 X.N⟩) (λd e=>e) (λx r a b v e=>gy e λu us e1 f e3=>⟨u,us,e1,a _ f,b _ e3⟩) (λd d e=>e) (λp r a b c v e=>rT e λu us e1 f e3 e4 j e6=>⟨u,us,e1,a.1 _ f,e3,e4,a.2 _ j,b _ _ e6⟩) (λd d a b=>⟨a,b⟩) x
theorem aI.F(X:du g h g' h')(x):∀v,aI w g h x v->aI w g' h' x v:=by
 induction x with
 |nil=>exactλf e=>e
 |cons x r c=>exactλv e=>gy e λa b e1 d e3=>⟨a,b,e1,aG.F X x a d,c b e3⟩
theorem eY.F(X:du g h g' h')(c)(x):∀v,eY w g h c x v->eY w g' h' c x v:=by
 induction x with
 |nil=>exactλj e=>e
 |cons x r d=>exactλv e=>rT e λa b e1 f e3 e4 i e6=>⟨a,b,e1,aG.F X x.1 _ f,e3,e4,aG.F X x.2 _ i,d b e6⟩
noncomputable def GB:List String:=["rows","index","decls","bounds","defaults","names","origins","renamed","shaping","putting","tab","host","pids","co","contra","fixed","ret","ret_contra","told","top","hints","stands","written","literal","fallen","meeter","result","returns","rules","watch","slot","turned","both","level","deep","best","cuts","steps","low","ranks","asked","seen","late","found","settling","road","fixing","most_rounds","most_deep","lib"]
def f8(i:Nat):Str:=cv<|GB[i]?.getD ""
noncomputable section
variable(w:cR) (g:Gh) (h:Heap)
noncomputable def iU:List (Nat×AV)->List kj->Prop
 |[],es=>es=[]
 |(f,v)::r,es=>∃e b t,es=e::b/\e.key=.str (f8 f) t/\e.hash=Ac w.params (f8 f)/\f<50/\aG w g h v e.val/\iU r b
noncomputable def iR:Nat->Addr
 |0=>140
 |1=>397
 |2=>917
 |_=>355
def mY(l:a7):eE->Prop
 |.b vs=>g.ρ l=g.μ l/\∃z n,IsL h (g.μ l) z n/\aI w g h vs z.toList
 |.a c es=>g.ρ l=g.μ l/\∃o D n,h.get? (g.μ l)=I o/\o.ExactDict/\o.data=.dict D n/\eY w g h c es D.toList/\cg (es.map (·.1))
 |.d c fs=>g.j (g.ρ l)/\h.get? (g.ρ l)=I (z5 (iR c)<|g.μ l)/\c<4/\∃D n,h.get? (g.μ l)=I (vY D n)/\iU w g h fs D/\cg (fs.map (·.1))
end
theorem iU.F(X:du g h g' h')(x):∀v,iU w g h x v->iU w g' h' x v:=by
 induction x with
 |nil=>exactλi e=>e
 |cons x r c=>exactλv e=>y5 e λa b t e1 d e3 e4 f e6=>⟨a,b,t,e1,d,e3,e4,aG.F X x.2 _ f,c b e6⟩
theorem mY.F(X:du g h g' h'){l}(t:l.n<g.N)(q:∀o,h.get? (g.μ l)=I o->h'.get? (g.μ l)=I o)(o)(e:mY w g h l o):mY w g' h' l o:=by
 obtain m:=(X.μ l t).symm;obtain r:=(X.ρ l t).symm;induction o using eE.casesOn with
 |b vs=>exact⟨aO r<|e.1.trans m,gk e.2 λz n e1 e4=>⟨z,n,aO m<|q _ e1,aI.F X _ _ e4⟩⟩
 |a c es=>exact⟨aO r<|e.1.trans m,NV e.2 λo z n e1 d e3 e4 b=>⟨o,z,n,aO m<|q _ e1,d,e3,eY.F X _ _ _ e4,b⟩⟩
 |d c fs=>exact⟨aO r<|X.j _ e.1,aO r<|aO m<|X.cT _ _ e.1 e.2.1,e.2.2.1,gy e.2.2.2 λD n e3 e4 b=>⟨D,n,aO m<|q _ e3,iU.F X _ _ e4,b⟩⟩
def BF(P):((vW P).all (λq=>gq q.1 1100)&&(KF P).all (λq=>gq q.1 1100))=true:=by kernel_rfl
structure gS(w:cR)(h:Heap):Prop where
 main:pI (vW w.params) h
 c:pI (KF w.params) h
 q:1100<=h.objs.size
noncomputable def B3(es:Array kj):Bool:=es.all λe=>match e.key with|.int _ _=>U|_=>am
def c!(p:Addr×Obj):Bool:=match p.2.cls with
 |.type n=>n=="tuple"||(n=="dict"&&match p.2.data with|.dict es _=>B3 es|_=>am)
 |_=>am
def QF(w:cR)(a:Addr):Prop:=∃o,(a,o)∈KF w.params/\c! (a,o)=U
structure aD(w:cR)(g:Gh)(σ:av)(h:Heap):Prop where
 c:gS w h
 i:∀l o,σ l=some o->mY w g h l o
 f:∀l o,σ l=some o->l.n<g.N
 inj:∀l l',σ l≠.none->σ l'≠.none->g.μ l=g.μ l'->l=l'
 e:∀l,σ l≠.none->¬g.j (g.μ l)
 B:∀l,σ l≠.none->1100<=g.μ l
 d:∀a,g.j a->∃o,h.get? a=some o
 j:∀a,QF w a->g.j a
def Wr(g:Gh)(σ:av)(a:Addr):Prop:=∃l,σ l≠.none/\a=g.μ l
structure Tr(X:Addr->Prop)(g:Gh)(σ:av)(h:Heap)(g':Gh)(σ':av)(h':Heap):Prop where
 cT:∀b o,h.get? b=some o->¬Wr g σ b->¬X b->h'.get? b=some o
 j:∀a,g.j a->g'.j a
 ρ:∀l,l.n<g.N->g'.ρ l=g.ρ l
 μ:∀l,l.n<g.N->g'.μ l=g.μ l
 N:g.N<=g'.N
 c:∀l,σ' l≠.none->l.n<g.N->σ l≠.none
 new:∀l,σ' l≠.none->g.N<=l.n->h.get? (g'.μ l)=none
 e:∀a,g'.j a->g.j a\/h.get? a=none\/Wr g σ a
 d:∀b o,h.get? b=some o->∃o',h'.get? b=some o'
def Tr.B(X)(a0:aD w g σ h):Tr X g σ h g σ h:=
 ⟨λb b e b b=>e,λb x=>x,λb b=>H,λb b=>H,ce _,λb e b=>e,λl e c=>by
  rcases q:σ l with _|o;.exact aP q e
  .exact aP (a0.f l o q)<|fw.mpr c,λb x=>.inl x,λb o e=>⟨o,e⟩⟩
def Tr.F(a0:aD w g σ h)(hX:∀a,g.j a->¬X a)(T:Tr X g σ h g' σ' h'):du g h g' h':=
 ⟨T.j,T.ρ,T.μ,T.N,λa o b e=>T.cT a o e (λc=>aA c λl d f=>a0.e l d<|aO f b)<|hX a b⟩
structure fL(g:Gh)(σ:av)(h:Heap)(a:Addr):Prop where
 c:∃o,h.get? a=some o
 j:¬g.j a
 wr:¬Wr g σ a
def Tr.wr(T:Tr X g σ h g' σ' h'){b:Addr}{o:Obj}(e:h.get? b=I o)(hw:¬Wr g σ b):¬Wr g' σ' b:=λf=>aA f λl c d=>by
 rcases tK l.n g.N with q|q;.exact hw ⟨l,T.c l c q,by rw[d,T.μ l q]⟩
 .have:=T.new l c q;obtain this:=jg d▸this;obtain this:=e▸this;exact l7 this
def Tr.R(T:Tr X g σ h g' σ' h'){a:Addr}(p:fL g σ h a)(hX:¬X a):fL g' σ' h' a:=by
 refine bc p.c λo e=>⟨⟨o,T.cT a o e p.wr hX⟩,λb=>?_,T.wr e p.wr⟩;rcases T.e a b with q|q|q;.exact p.j q
 .rw[e] at q;exact l7 q
 .exact p.wr q
def Tr.S(T:Tr X g σ h g' σ' h'){a:Addr}(p:fL g σ h a)(hX:¬X a){o:Obj}(e:h.get? a=I o):h'.get? a=I o:=T.cT a o e p.wr hX
def Tr.OA(T:Tr X g σ h g' σ' h'){b}(e:h'.get? b=C):h.get? b=none:=by
 rcases q:h.get? b with _|o;.rfl
 .refine bc (T.d b o q) λo' z=>?_;obtain z:=e▸z;exact cL z
theorem Tr.q(T:Tr X g σ h g' σ' h')(T':Tr X g' σ' h' C_ a0 B_):Tr X g σ h C_ a0 B_:=by
 refine⟨λb o e d f=>T'.cT b o (T.cT b o e d f) (T.wr e d) f,λa x=>T'.j a<|T.j a x,λl c=>(T'.ρ l<|eR c T.N).trans<|T.ρ l c,
  λl c=>(T'.μ l<|eR c T.N).trans<|T.μ l c,aV T.N T'.N,λl e c=>T.c l (T'.c l e<|eR c T.N) c,λl e c=>?_,λa x=>?_,
  λb o e=>bc (T.d b o e) λo' i=>T'.d b o' i⟩
 .rcases tK l.n g'.N with q|q;.rw[T'.μ l q];exact T.new l (T'.c l e q) c
  .exact T.OA<|T'.new l e q
 .rcases T'.e a x with q|q|⟨l,c,rfl⟩;.exact T.e a q
  .exact .inr<|.inl<|T.OA q
  .rcases((λl e=>by
  rcases tK l.n g.N with q|q;.exact .inl ⟨q,T.c l e q⟩
  .exact .inr (T.new l e q):∀l,σ' l≠.none->l.n<g.N/\σ l≠.none\/h.get? (g'.μ l)=C)) l c with⟨j,k⟩|q
   .exact .inr<|.inr ⟨l,k,T.μ l j⟩
   .exact .inr<|.inl q
def Tr.of(a0:∀a,X a->D_ a)(T:Tr X g σ h g' σ' h'):Tr D_ g σ h g' σ' h':=
 ⟨λb o e c d=>T.cT b o e c λx=>d<|a0 b x,T.j,T.ρ,T.μ,T.N,T.c,T.new,T.e,T.d⟩
def gS.gU(B:gS w h)(R:h.objs.size<=h'.objs.size)(k:∀b o,b<1100->h.get? b=I o->h'.get? b=I o):gS w h':=
 ⟨λq hq=>k _ _ (by have:=BF w.params;rw[eB] at this;exact bU<|gf.mp this.1 q hq)<|B.main q hq,
  λq hq=>k _ _ (by have:=BF w.params;rw[eB] at this;exact bU<|gf.mp this.2 q hq)<|B.c q hq,aV B.q R⟩
theorem rn(σ:av)(l)(o)(l'):(σ.u l o) l'=if l'=l then I o else σ l':=rfl
theorem GO(σ:av)(l)(l'):(σ.r l) l'=if l'=l then C else σ l':=rfl
def aD.cI(t:aD w g σ h){l}(hl:σ l≠.none):l.n<g.N:=by
 rcases e:σ l with _|o;.exact aP e hl
 .exact t.f l o e
def aD.yO(t:aD w g σ h){l}(hl:σ l≠.none):∃o,h.get? (g.μ l)=I o:=by
 rcases e:σ l with _|o;.exact aP e hl
 .have:=t.i l o e;cases o with
  |b vs=>obtain⟨_,z,n,e1,_⟩:=this;exact⟨_,e1⟩
  |a c vs=>obtain⟨_,o,z,n,e1,_⟩:=this;exact⟨o,e1⟩
  |d c fs=>obtain⟨_,_,_,D,n,e3,_⟩:=this;exact⟨_,e3⟩
def aD.DB(t:aD w g σ h){a:Addr}(hl:Wr g σ a):∃o,h.get? a=I o:=by
 obtain⟨l,hl,rfl⟩:=hl;exact t.yO hl
theorem aD.F(t:aD w g σ h)(hs:h.objs.size<=h'.objs.size)(k:∀b o,h.get? b=I o->(Wr g σ b\/g.j b\/b<1100)->h'.get? b=I o):aD w g σ h':=by
 refine⟨t.c.gU hs λb o f e=>k b o e<|.inr<|.inr f,λl o e=>mY.F ⟨λc x=>x,λc c=>H,λc c=>H,ce _,λa o d e=>k a o e<|.inr<|.inl d⟩ (t.f l o e) (λo' i=>k _ o' i<|.inl ⟨l,ay e λz=>(l7 z),H⟩) o<|t.i l o e,
  t.f,t.inj,t.e,t.B,λa d=>?_,t.j⟩
 obtain⟨o,e⟩:=t.d a d;exact⟨o,k a o e<|.inr<|.inl d⟩
def aD.AR(t:aD w g σ h)(k:∀b o,h.get? b=I o->¬X b->h'.get? b=I o)(kx:∀b o,h.get? b=I o->X b->∃o',h'.get? b=I o'):Tr X g σ h g σ h':=
 ⟨λb o e c=>k b o e,λc x=>x,λc c=>H,λc c=>H,ce _,λc e c=>e,λl e f=>aP (t.cI e)<|fw.mpr f,λc x=>.inl x,
  λb o e=>by
   by_cases d:X b;.exact kx b o e d
   .exact⟨o,k b o e d⟩⟩
def aD.rB(t:aD w g σ h)(o):aD w g σ (h.push o)/\Tr X g σ h g σ (h.push o):=
 ⟨t.F (by rw[oJ];exact gR _) λb o' e c=>jd _ e,t.AR (λb o' e c=>jd _ e) λb o' e c=>⟨o',jd _ e⟩⟩
def yu{b}(t:qZ a h h')(B:h'.get? a=I F)(e:h.get? b=I o):∃o',h'.get? b=I o':=by
 by_cases q:b=a;.subst q;exact⟨F,B⟩
 .exact⟨o,(t.2 b q).trans e⟩
def aD.private(t:aD w g σ h){a:Addr}(hp:fL g σ h a)(a0:1100<=a)(hs:qZ a h h')(ha:∃oa,h'.get? a=I oa)(hX:X a):aD w g σ h'/\Tr X g σ h g σ h':=by
 obtain⟨oa,ha⟩:=ha;refine⟨t.F (gG hs.1.symm) λb o e c=>(hs.2 b ?_).trans e,t.AR (λb o e c=>(hs.2 b λq=>c<|ay q hX).trans e) λb o e d=>yu hs ha e⟩;rintro rfl;rcases c with q|q|q;.exact hp.wr q
 .exact hp.j q
 .exact aP q<|fw.mpr a0
def fL.same{b}(q:fL g σ h a)(B:qZ b h h')(t:∃o,h'.get? b=I o):fL g σ h' a:=bc q.c λo e=>bc t λob t=>⟨yu B t e,q.j,q.wr⟩
def aD.ww(t:aD w g σ h){l o}(hl:σ l=I o)(hs:qZ (g.μ l) h h')(ho:mY w g h' l o'):aD w g (σ.u l o') h'/\Tr X g σ h g (σ.u l o') h':=by
 have j:σ l≠.none:=by rw[hl];exact l7
 have dm:∀f,(σ.u l o') f≠.none->σ f≠.none:=λf e=>by
  rw[rn] at e;by_cases q:f=l;.subst q;exact j
  .rw[Z q] at e;exact e
 have m:∃oo,h'.get? (g.μ l)=I oo:=by
  cases o' with
  |b vs=>obtain⟨_,z,n,e1,_⟩:=ho;exact⟨_,e1⟩
  |a c vs=>obtain⟨_,o,z,n,e1,_⟩:=ho;exact⟨o,e1⟩
  |d c fs=>obtain⟨_,_,_,D,n,e3,_⟩:=ho;exact⟨_,e3⟩
 obtain⟨oo,m⟩:=m;have E_:du g h g h':=⟨λi x=>x,λi i=>H,λi i=>H,ce _,λa o r e=>(hs.2 a λq=>t.e l j<|q▸r).trans e⟩;refine⟨⟨t.c.gU (gG hs.1.symm) λb o s e=>(hs.2 b λq=>aP s<|fw.mpr<|ay q<|t.B l j).trans e,λf k e=>?_,λf k e=>?_,λa b p s=>t.inj a b (dm a p)<|dm b s,
  λa p=>t.e a<|dm a p,λa p=>t.B a<|dm a p,λa r=>?_,t.j⟩,
  ⟨λb o e u i=>(hs.2 b λq=>u ⟨l,j,q⟩).trans e,λi x=>x,λi i=>H,λi i=>H,ce _,λf e i=>dm f e,λf e v=>aP (t.cI<|dm f e)<|fw.mpr v,λi x=>.inl x,
   λb o=>yu hs m⟩⟩
 .rw[rn] at e;by_cases q:f=l;.subst q;rw[ak H] at e;cases e;exact ho
  .rw[Z q] at e;refine mY.F E_ (t.f f k e) (λy A=>(hs.2 _ λd=>q<|t.inj f l (ay e l7) j d).trans A) k<|t.i f k e
 .rw[rn] at e;by_cases q:f=l;.subst q;exact t.f _ _ hl
  .rw[Z q] at e;exact t.f _ _ e
 .obtain⟨o,e⟩:=t.d a r;exact⟨o,E_.cT a o r e⟩
def aD.GG(t:aD w g σ h){l}(a0:σ l≠.none)(hs:qZ (g.μ l) h h'):du g h g h':=
 ⟨λb x=>x,λb b=>H,λb b=>H,ce _,λa o c e=>(hs.2 a λq=>t.e l a0<|aO q c).trans e⟩
noncomputable def Gh.F(g:Gh)(a:Addr):Gh:={g with j:=λb=>g.j b\/b=a}
def aD.zr(t:aD w g σ h):¬Wr g σ h.objs.size/\¬g.j h.objs.size:=by
 refine⟨λb=>?_,λc=>?_⟩;.obtain⟨o,e⟩:=t.DB b;exact kK _<|iF e
 .obtain⟨o,e⟩:=t.d _ c;exact kK _<|iF e
def aD.R(t:aD w g σ h)(o)(hf:o.isFreed=am):
 aD w (g.F h.objs.size) σ (h.push o)/\Tr X g σ h (g.F h.objs.size) σ (h.push o)/\du g h (g.F h.objs.size) (h.push o):=by
 obtain E_:du g h (g.F h.objs.size)<|h.push o:=⟨λc x=>.inl x,λc c=>H,λc c=>H,ce _,λa o' c e=>jd _ e⟩;refine⟨⟨t.c.gU (by rw[oJ];exact gR _) λb o' c e=>jd _ e,λl o' e=>mY.F E_ (t.f l o' e) (λf i=>jd _ i) o'<|t.i l o' e,
  t.f,t.inj,λl d hz=>?_,t.B,λa hz=>?_,λa j=>.inl<|t.j a j⟩,⟨λb o' e c c=>jd _ e,λc x=>.inl x,λc c=>H,λc c=>H,ce _,λc e c=>e,
  λl e k=>aP (t.cI e)<|fw.mpr k,λa hz=>?_,λb o' e=>⟨o',jd _ e⟩⟩,E_⟩
 .rcases hz with q|q;.exact t.e l d q
  .exact t.zr.1 ⟨l,d,q.symm⟩
 .rcases hz with q|rfl;.refine bc (t.d a q) λo' e=>?_;exact⟨o',jd _ e⟩
  .exact⟨o,mZ _ hf⟩
 .rcases hz with q|rfl;.exact .inl q
  .refine .inr<|.inl ?_;rcases e:h.get? h.objs.size with _|o';.rfl
   .exact aP (iF e)<|kK _
noncomputable def Gh.laid(g:Gh)(l:a7)(a m:Addr):Gh:={ρ:=λb=>if b=l then a else g.ρ b,μ:=λb=>if b=l then m else g.μ b,j:=g.j,N:=g.N+1}
def aD.Fv(t:aD w g σ h){l:a7}(hn:l.n=g.N){a:Addr}{o:eE}(hs:h.objs.size<=h'.objs.size)(k:∀b o,h.get? b=I o->h'.get? b=I o){m:Addr}(hm:h.get? m=C)(a1:1100<=m){th:Addr->Prop}(a0:∀b,th b->h.get? b=C/\b≠m/\∃o,h'.get? b=I o)(ho:mY w {g.laid l a m with j:=λb=>g.j b\/th b} h' l o):
 aD w {g.laid l a m with j:=λb=>g.j b\/th b} (σ.u l o) h'/\Tr X g σ h {g.laid l a m with j:=λb=>g.j b\/th b} (σ.u l o) h'/\du g h {g.laid l a m with j:=λb=>g.j b\/th b} h':=by
 have f:∀l',l'.n<g.N->l'≠l:=λl' d e=>by subst e;obtain d:=hn▸d;exact kK _ d
 have E_:du g h {g.laid l a m with j:=λb=>g.j b\/th b} h':=⟨λu x=>.inl x,λl' d=>Z<|f l' d,λl' d=>Z<|f l' d,gR _,λb o' u=>k b o'⟩;have j:∀l',σ l'≠.none->(g.laid l a m).μ l'=g.μ l':=λl' d=>Z<|f l'<|t.cI d;have c:(g.laid l a m).μ l=m:=ak H;have n:∀l',(σ.u l o) l'≠.none->l'=l\/(l'≠l/\σ l'≠.none):=λl' e=>by
  rw[rn] at e;by_cases q:l'=l;.exact .inl q
  .rw[Z q] at e;exact .inr ⟨q,e⟩
 have apart:∀l',σ l'≠.none->g.μ l'≠m:=λl' d e=>by refine bc (t.yO d) λo' i=>?_;rw[e,hm] at i;exact cL i
 refine⟨⟨t.c.gU hs λb o' u=>k b o',λl' o' e=>?_,λl' o' e=>?_,λl₁ l₂ v y e=>?_,λl' e hz=>?_,λl' e=>?_,λb hz=>?_,λa A=>.inl<|t.j a A⟩,
  ⟨λb o' e u u=>k b o' e,λu x=>.inl x,λl' d=>Z<|f l' d,λl' d=>Z<|f l' d,gR _,λl' e d=>?_,λl' e d=>?_,λb hz=>?_,λb o' e=>⟨o',k b o' e⟩⟩,E_⟩
 .rw[rn] at e;by_cases q:l'=l;.subst q;rw[ak H] at e;cases e;exact ho
  .rw[Z q] at e;exact mY.F E_ (t.f l' o' e) (k _) o'<|t.i l' o' e
 .rw[rn] at e;by_cases q:l'=l;.subst q;rw[hn];exact lY _
  .rw[Z q] at e;exact tJ<|t.f l' o' e
 .clear hs ho f E_;rcases n l₁ v with rfl|⟨B,p⟩<;>rcases n l₂ y with rfl|⟨D,r⟩
  .rfl
  .exfalso;apply apart l₂ r;rw[c,j l₂ r] at e;exact e.symm
  .exfalso;apply apart l₁ p;have i:=e;obtain i:=c▸i;obtain i:=(j l₁ p)▸i;exact i
  .rw[j l₁ p,j l₂ r] at e;exact t.inj _ _ p r e
 .have s:=hz;clear hs ho f E_ apart;rcases n l' e with rfl|⟨_,q⟩
  .rw[c] at s;rcases s with z|z;.refine bc (t.d _ z) λo' i=>?_;rw[hm] at i;exact cL i
   .exact(a0 _ z).2.1 H
  .rw[j l' q] at s;rcases s with z|z;.exact t.e l' q z
   .refine bc (t.yO q) λo' i=>?_;rw[(a0 _ z).1] at i;exact cL i
 .rcases n l' e with rfl|⟨_,q⟩;.rw[c];exact a1
  .rw[j l' q];exact t.B l' q
 .rcases hz with z|z;.refine bc (t.d b z) λo' e=>?_;exact⟨o',k b o' e⟩
  .exact(a0 b z).2.2
 .rcases n l' e with rfl|⟨_,q⟩;.obtain d:=hn▸d;exact aP d (kK _)
  .exact q
 .rcases n l' e with rfl|⟨_,q⟩;.rw[c];exact hm
  .exact aP (t.cI q)<|fw.mpr d
 .rcases hz with z|z;.exact .inl z
  .exact .inr<|.inl (a0 b z).1
def aD.Cn(t:aD w g σ h){l o}(hl:σ l=I o):aD w (g.F<|g.μ l) (σ.r l) h/\Tr X g σ h (g.F<|g.μ l) (σ.r l) h/\du g h (g.F<|g.μ l) h:=by
 have i:σ l≠.none:=by rw[hl];exact l7
 have E_:du g h (g.F<|g.μ l) h:=⟨λc x=>.inl x,λc c=>H,λc c=>H,ce _,λc c c e=>e⟩;have dm:∀d,(σ.r l) d≠.none->d≠l/\σ d≠.none:=λd e=>by
  rw[GO] at e;by_cases q:d=l;.rw[ak q] at e;exact aP H e
  .rw[Z q] at e;exact⟨q,e⟩
 refine⟨⟨t.c,λd o' e=>?_,λd o' e=>?_,λa b f j=>t.inj a b (dm a f).2 (dm b j).2,λa f hz=>?_,λa f=>t.B a (dm a f).2,λa hz=>?_,λa f=>.inl<|t.j a f⟩,
  ⟨λc c e c c=>e,λc x=>.inl x,λc c=>H,λc c=>H,ce _,λd e c=>(dm d e).2,λd e k=>aP (t.cI (dm d e).2)<|fw.mpr k,λa hz=>?_,λc o e=>⟨o,e⟩⟩,E_⟩
 .rw[GO] at e;by_cases q:d=l;.rw[ak q] at e;exact cL e
  .rw[Z q] at e;exact mY.F E_ (t.f d o' e) (λc m=>m) o'<|t.i d o' e
 .rw[GO] at e;by_cases q:d=l;.rw[ak q] at e;exact cL e
  .rw[Z q] at e;exact t.f d o' e
 .rcases hz with z|z;.exact t.e a (dm a f).2 z
  .exact(dm a f).1<|t.inj a l (dm a f).2 i z
 .rcases hz with z|rfl;.exact t.d a z
  .exact t.yO i
 .rcases hz with z|rfl;.exact .inl z
  .exact .inr<|.inr ⟨l,i,H⟩
abbrev MM(w:cR):Model:=hW P0 w
abbrev NX:Addr->Prop:=λb=>False
@[reducible] noncomputable def cy(s₀:bT)(h:Heap)(t:Tok):Shared:={s₀ with heap:=h,toks:=t}
structure sp(n:Nat)(A:nZ):Prop where
 handled:A.handled=none
 depth:A.depth+4*n+20<1000
 units:A.units+10*n+60<9900
inductive cK(w:cR)(X:Addr->Prop)(g:Gh)(σ:av)(h:Heap)(s₀:bT)(R:β->α->Gh->Heap->Prop)(K:β->av->Prop)(v:α)(s':bT):Prop
 |mk (b:β) (σ':av) (g':Gh) (h':Heap) (tk':Tok):s'=cy s₀ h' tk'->K b σ'->R b v g' h'->aD w g' σ' h'->Tr X g σ h g' σ' h'->cK w X g σ h s₀ R K v s'
def Run(w:cR)(A:nZ)(s₀:bT)(X:Addr->Prop)(g:Gh)(σ:av)(h:Heap)(t:Sem α)(R:β->α->Gh->Heap->Prop)(K:β->av->Prop):Prop:=
 ∀tk,cA (MM w) A t (cK w X g σ h s₀ R K) (λb b=>False) (cy s₀ h tk)
def cK.t{R:β->α->Gh->Heap->Prop}{K:β->av->Prop}{v:α}{b:β}(F:aD w g σ h)(S:K b σ)(hR:R b v g h):cK w X g σ h s₀ R K v<|cy s₀ h tk:=
 ⟨b,σ,g,h,tk,H,S,hR,F,Tr.B X F⟩
theorem cK.q{R:β->α->Gh->Heap->Prop}{K:β->av->Prop}{v:α}(T:Tr X g σ h g' σ' h')(d:cK w X g' σ' h' s₀ R K v s):cK w X g σ h s₀ R K v s:=by
 obtain⟨b,c,j,l,f,e,k,r,i,t⟩:=d;exact⟨b,c,j,l,f,e,k,r,i,T.q t⟩
def Run.pure{R:β->α->Gh->Heap->Prop}{K:β->av->Prop}{v:α}{b:β}(t:aD w g σ h)(S:K b σ)(hR:R b v g h):Run w A s₀ X g σ h (pure v) R K:=
 λc=>bQ (cK.t t S hR)
def Run.fX{R R':β->α->Gh->Heap->Prop}{K K':β->av->Prop}{t:Sem α}(r:Run w A s₀ X g σ h t R K)(S:∀b σ,K b σ->K' b σ)(hR:∀b v g h,R b v g h->R' b v g h):Run w A s₀ X g σ h t R' K':=
 λtk=>ff (r tk) (λv m⟨b,c,f,j,d,e,k,r,i,t⟩=>⟨b,c,f,j,d,e,S _ _ k,hR _ _ _ _ r,i,t⟩) λl l x=>x
theorem Run.q{K:β->av->Prop}{f:α->Sem S}(r:Run w A s₀ X g σ h t R K)(k:∀b v g' σ' h',K b σ'->R b v g' h'->aD w g' σ' h'->Tr X g σ h g' σ' h'->Run w A s₀ X g' σ' h' (f v) R' K'):Run w A s₀ X g σ h (t>>=f) R' K':=
 λtk=>aW (ff (r tk) (λv m⟨b,c,n,o,j,e,p,q,i,t⟩=>by
  subst e;exact ff (k b v n c o p q i t j) (λv m d=>d.q t) λl l x=>x) λl l x=>x)
def Run.F{R:β->α->Gh->Heap->Prop}{K:β->av->Prop}{t:Sem α}(r:Run w A s₀ X g σ h t R K):Run w A s₀ X g σ h (holding vs t) R K:=
 λtk=>jC (r tk)
def Run.B{R:β->α->Gh->Heap->Prop}{K:β->av->Prop}{t:PUnit->Sem α}(r:Run w A s₀ X g σ h (t ⟨⟩) R K):Run w A s₀ X g σ h (standAt p>>=t) R K:=
 λtk=>aW (qf<|r tk)
def Run.operate{R:β->aL->Gh->Heap->Prop}{K:β->av->Prop}{t:Sem aL}(r:Run w A s₀ X g σ h t R K):Run w A s₀ X g σ h (operate vs t) R K:=
 λtk=>wpAny_operate' (r tk)
abbrev VR(w:cR):AV->aL->Gh->Heap->Prop:=λa v g h=>aG w g h a v
abbrev si(w:cR):List AV->List aL->Gh->Heap->Prop:=λa v g h=>aI w g h a v
abbrev BR:Bool->Bool->Gh->Heap->Prop:=λb c d d=>b=c
def Tr.t(a0:aD w g σ h){g':Gh}{σ':av}{h':Heap}(T:Tr NX g σ h g' σ' h'):du g h g' h':=T.F a0 λb b x=>x
noncomputable def Bc:Op->Rk
 |.add=>.Add|.sub=>.Sub|.mul=>.Mult|.fdiv=>.FloorDiv|.e=>.Mod|.a=>.BitAnd|.b=>.BitOr|.c=>.LShift|.d=>.RShift
def aI.iy{vs xs}(e:aI w g h vs xs):O vs=O xs:=by
 induction vs generalizing xs with
 |nil=>exact ay e H
 |cons y r b=>exact gy e λv c d i f=>ay d<|be (·+1)<|b f
def aI.S{vs xs}(e:aI w g h vs xs)(q:vs[i]?=I x):∃v,xs[i]?=I v/\aG w g h x v:=by
 induction vs generalizing xs i with
 |nil=>exact cL q
 |cons y r b=>
  refine gy e λv c d e1 f=>ay d ?_;induction i using Nat.casesOn with
  |zero=>exact aO (fg q) ⟨v,H,e1⟩
  |succ j=>exact(b f q:)
def aI.Ci{vs xs}(e:aI w g h vs xs)(q:xs[i]?=I v):∃x,vs[i]?=I x/\aG w g h x v:=
 aA (aI.S e<|kN (aI.iy e▸(jV.mp q).1:i<O vs)) λu b r=>⟨_,kN _,aO (fg<|b.symm.trans q) r⟩
def aI.append{vs xs}(e:aI w g h vs xs)(f:aI w g h us q):aI w g h (vs++us)<|xs++q:=by
 induction vs generalizing xs with
 |nil=>rw[show xs=[] from e];exact f
 |cons y r b=>exact gy e λv c d e1 i=>ay d ⟨v,_,H,e1,b i⟩
def aI.yl{vs xs}(n)(e:aI w g h vs xs):aI w g h (vs.take n)<|xs.take n:=by
 induction vs generalizing xs n with
 |nil=>rw[show xs=[] from e,a6E,a6E];rfl
 |cons y r b=>
  induction n using Nat.casesOn with
  |zero=>rfl
  |succ n=>exact gy e λv c d e1 f=>ay d ⟨v,_,H,e1,b n f⟩
def aI.r0{vs xs}(n)(e:aI w g h vs xs):aI w g h (vs.drop n)<|xs.drop n:=by
 induction vs generalizing xs n with
 |nil=>rw[show xs=[] from e,a60,a60];rfl
 |cons y r b=>
  induction n using Nat.casesOn with
  |zero=>exact e
  |succ n=>exact gy e λv c d e1 f=>ay d<|b n f
def aI.set{vs xs}(e:aI w g h vs xs)(f:aG w g h x v):aI w g h (vs.set i x)<|xs.set i v:=by
 induction vs generalizing xs i with
 |nil=>rw[show xs=[] from e];rfl
 |cons y r d=>
  refine gy e λk b l e1 c=>ay l ?_;induction i using Nat.casesOn with
  |zero=>exact⟨v,b,H,f,c⟩
  |succ j=>exact⟨k,_,H,e1,d c⟩
def aI.eraseIdx{vs xs}(e:aI w g h vs xs):aI w g h (vs.eraseIdx i)<|xs.eraseIdx i:=by
 induction vs generalizing xs i with
 |nil=>rw[show xs=[] from e];rfl
 |cons y r c=>
  refine gy e λd f k e1 b=>ay k ?_;induction i using Nat.casesOn with
  |zero=>exact b
  |succ j=>exact⟨d,_,H,e1,c b⟩
def aI.B(e:aG w g h x v):aI w g h [x] [v]:=⟨v,[],H,e,by rfl⟩
def aI.cons(e1:aG w g h x v)(t:aI w g h r q):aI w g h (x::r)<|v::q:=⟨v,q,H,e1,t⟩
def MB{o l vs}(q:iL (λt=>o) (.d l)=I vs):o=I (.b vs):=by
 induction o using Option.casesOn with
 |none=>exact cL q
 |some o=>induction o using eE.casesOn<;>first|cases q;rfl|exact cL q
def wQ(t:aD w g σ h){x:AV}{v:aL}{vs:List AV}(e:aG w g h x v)(q:iL σ x=I vs):∃a z n,v=.ref a/\(IsT h a z n\/IsL h a z n)/\aI w g h vs z.toList:=by
 induction x using AV.casesOn with
 |B us=>cases q;exact o6 e λa z e1 b e3 e4=>⟨a,z,0,e1,.inl e3,e4⟩
 |r us=>cases q;exact rS e λa z n e1 b e3 e4=>⟨a,z,n,e1,.inr e3,e4⟩
 |d l=>exact bY (t.i l _<|MB (l:=l) q) λc d=>gk d λz n e1 f=>⟨g.ρ l,z,n,e.1,.inr<|ay c e1,f⟩
 |_=>exact cL q
def IsT.B(x:IsT h a z n):IsTup h a z:=⟨_,x,H,n,H⟩
def Jf(vs:List AV){z:Array aL}(e:aI w g h vs z.toList):(!z.isEmpty)=decide (vs≠[]):=by
 have:=aI.iy e;induction vs using List.casesOn with
 |nil=>
  simp[Array.size_eq_zero_iff.mp<|by simpa using this.symm]
 |cons x r=>
  obtain c:z.size≠0:=by intro b;simp at this;exact RH _<|this.trans b
  simp[Array.isEmpty,c]
def Eh(t:aD w g σ h){x:AV}{v:aL}{vs:List AV}{Kb:Bool->av->Prop}(e:aG w g h x v)(q:iL σ x=I vs)(F:O vs<=aR)(B:Kb (decide<|vs≠[]) σ):
 Run w A s₀ NX g σ h (Hv v) BR Kb:=by
 refine ox (wQ t e q) λa z n c e1 d=>?_;subst c;obtain b:(z.size:Int)<2^63:=by have:=aI.iy d;simp at this;exact Cb this F H
 intro tk;rcases e1 with e1|e1;.exact truthy_tuple (IsT.B e1) b<|cK.t t B (Jf vs d).symm
 .exact wpAny_truthy_list e1.isList b<|cK.t t B (Jf vs d).symm
def VX(t:aD w g σ h){x:AV}{v:aL}{vs:List AV}(e:aG w g h x v)(q:iL σ x=I vs)(B:O vs<=aR)(F:K (.a<|O vs) σ):
 Run w A s₀ NX g σ h (iE (.builtin "len") [v]) (VR w) K:=by
 refine ox (wQ t e q) λa z n d e1 f=>?_;subst d;obtain b:O vs=z.size:=by have:=aI.iy f;simpa using this
 obtain c:=b▸F;intro tk;rcases e1 with e1|e1;.exact PyProof.Rows.len_tuple (IsT.B e1) (Cb b B H)<|cK.t t c<|⟨_,H⟩
 .exact call_len_list e1.isList (Cb b B H)<|cK.t t c<|⟨_,H⟩
def q!{i:Int}(e:o8 n i=I j):seqIndex? i n=I j/\j<n/\-(n:Int)<=i/\i<n:=by
 unfold o8 at e;unfold seqIndex?;by_cases c:0<=i
 .rw[ak c] at e;by_cases b:i<n;.rw[ak b] at e;cases e;have d:=rg.mpr c;simp only[d,if_false];rw[ak<|gJ.mpr ⟨bA c,bA b⟩];exact⟨H,(Dn c).mpr b,jW (a7a<|dI n) c,b⟩
  .rw[Z b] at e;exact cL e
 .rw[Z c] at e;by_cases b:0<=i+n;.rw[ak b] at e;cases e;have d:=Do.mp c;simp only[d,if_true];rw[ak<|gJ.mpr ⟨bA b,bA<|Oc c⟩];exact⟨H,(Dn b).mpr<|Oc c,Int.le_of_sub_nonneg<|ay (a66 ..) b,Sl d<|Y H⟩
  .rw[Z b] at e;exact cL e
def my(q:n<=aR):n<=sizeLine:=by unfold Q6;exact bG q H
def cK.B(hI:aD w g' σ' h')(F:Tr X g σ h g' σ' h')(S:K x σ')(hR:R x v g' h'):
 cK w X g σ h s₀ R K v (cy s₀ h' tk):=⟨x,σ',g',h',tk,H,S,hR,hI,F⟩
def aD.fresh(a0:aD w g σ h):qr σ g.N:=λt=>by
 rcases e:σ ⟨t,g.N⟩ with _|o;.rfl
 .exact aP (a0.f _ o e)<|kK _
theorem aD.q(t:aD w g σ h):1100<=h.objs.size:=t.c.q
def Heap.Yp(h:Heap):h.get? h.objs.size=none:=by
 rcases e:h.get? h.objs.size with _|o;.rfl
 .exact aP (iF e)<|kK _
def aD.Nq(a0:aD w g σ h)(t){o}(hf:ob.isFreed=am)(ho:∀g',du g h g' (h.push ob)->g'.ρ ⟨t,g.N⟩=h.objs.size->g'.μ ⟨t,g.N⟩=h.objs.size->mY w g' (h.push ob) ⟨t,g.N⟩ o):
 ∃g',aD w g' (σ.u ⟨t,g.N⟩ o) (h.push ob)/\Tr X g σ h g' (σ.u ⟨t,g.N⟩ o) (h.push ob)/\du g h g' (h.push ob)/\g'.ρ ⟨t,g.N⟩=h.objs.size/\g.N<g'.N:=by
 have k:∀b o',h.get? b=I o'->(h.push ob).get? b=I o':=λb o' e=>jd _ e;have f:∀d:a7,d.n<g.N->d≠⟨t,g.N⟩:=λd i e=>by subst e;exact kK _ i
 refine⟨{g.laid ⟨t,g.N⟩ h.objs.size h.objs.size with j:=λb=>g.j b\/False},?_⟩;obtain⟨a,b,c⟩:=a0.Fv H (by rw[oJ];exact gR _) k (Heap.Yp h) a0.q (th:=λj=>False) (λj x=>x.elim)
  (ho _ ⟨λj x=>.inl x,λd i=>Z<|f d i,λd i=>Z<|f d i,gR _,λb o' j=>k b o'⟩ (ak H)<|ak H)
 exact⟨a,b,c,ak H,lY _⟩
def VP(q:aD w g σ h){vs z}(e:aI w g h vs z)(B:O vs<=aR)(F:∀n,qr σ n->K (.d ⟨t,n⟩) (σ.u ⟨t,n⟩<|.b vs)):
 Run w A s₀ NX g σ h (newList z) (VR w) K:=by
 intro tk;obtain⟨g',c,T,E_,d,f⟩:=q.Nq t (o:=.b vs) H
  (λg' E_ i b=>⟨i.trans b.symm,z.toArray,0,by rw[b];exact Db _ _,by simpa using aI.F E_ _ _ e⟩)
 exact Hs (cK.B c T (F g.N q.fresh) ⟨by rw[d],f⟩)<|my<|aO (aI.iy e) B
def VQ(q:aD w g σ h){t c:Nat}(B:∀n,qr σ n->K (.d ⟨t,n⟩) (σ.u ⟨t,n⟩<|.a c [])):Run w A s₀ NX g σ h newDict (VR w) K:=by
 intro tk;obtain⟨g',d,T,E_,e,f⟩:=q.Nq t (o:=.a c []) (ob:={cls:=.type "dict",data:=.dict #[]}) H
  (λg' E_ i b=>⟨i.trans b.symm,_,#[],0,by rw[b];exact mZ _ H,⟨H,H,H⟩,H,by rfl,Aq⟩)
 exact(by
  exact zT<|cK.B d T (B g.N q.fresh)<|⟨by rw[e],f⟩)
def vy(q:aD w g σ h){l:a7}{v:aL}{vs:List AV}(e:aG w g h (.d l) v)(t:σ l=I (.b vs)):v=.ref (g.μ l)/\∃z n,IsL h (g.μ l) z n/\aI w g h vs z.toList:=by
 obtain⟨b,z,n,e1,c⟩:=q.i l _ t;exact⟨by rw[e.1,b],z,n,e1,c⟩
def AH(q:aD w g σ h){l:a7}{vs us:List AV}{h':Heap}{z:Array aL}{n:Nat}(t:σ l=I (.b vs))(B:qZ (g.μ l) h h')(hi:IsL h' (g.μ l) z n)(e:aI w g h us z.toList):
 aD w g (σ.u l<|.b us) h'/\Tr NX g σ h g (σ.u l<|.b us) h'/\du g h g h':=by
 have E_:=q.GG (ay t l7) B;exact bY (q.i l _ t) λc d=>bY (q.ww (o':=.b us) t B ⟨c,z,n,hi,aI.F E_ _ _ e⟩) λa b=>⟨a,b,E_⟩
def Wv(q:aD w g σ h){l:a7}{v y:aL}{vs:List AV}{x:AV}(e:aG w g h (.d l) v)(t:σ l=I (.b vs))(B:O vs<=aR)(F:aG w g h x y)(R:K .j<|σ.u l<|.b<|vs++[x]):
 Run w A s₀ NX g σ h (iE (.builtin "list.append") [v,y]) (VR w) K:=by
 intro tk;obtain⟨rfl,z,n,hi,b⟩:=vy q e t;exact gl (AH q t (sw h (g.μ l)<|Ae λxs=>xs.push y) (C9 hi _)<|by rw[Dr];exact aI.append b<|aI.B F) λc T d=>HE Rq ⟨_,hi,H⟩ a54 (a55 _ _) (PySem.list_append (g.μ l) z n y<|my (by have:=aI.iy b;simp at this;exact(aO this B))) ⟨hi,cK.B c T R<|by rfl⟩
def VM(q:aD w g σ h){l:a7}{v:aL}{vs:List AV}{x:AV}{i:Int}{u:Tok}(e:aG w g h (.d l) v)(B:σ l=I (.b vs))(R:O vs<=aR)(t:0<=i)(S:vs[cY i]?=I x)(hK:K x<|σ.u l<|.b<|vs.eraseIdx<|cY i):
 Run w A s₀ NX g σ h (iE (.builtin "list.pop") [v,.int i u]) (VR w) K:=by
 intro tk;obtain⟨rfl,z,n,hi,f⟩:=vy q e B;obtain b:O vs=z.size:=by have:=aI.iy f;simpa using this
 refine aA (aI.S f S) λval j c=>?_;obtain d:=(jV.mp S).1;exact gl (AH q B (sw h (g.μ l)<|Ae λxs=>xs.eraseIdxIfInBounds<|cY i) (C9 hi _)<|ay ((show((λxs:Array aL=>xs.eraseIdxIfInBounds<|cY i) z).toList=z.toList.eraseIdx (cY i) from by
  simp)) (aI.eraseIdx f)) λk T E_=>HE a5Z ⟨_,hi,H⟩ F.entry_list_pop (F.args_list_pop_2 _ _) (MeetsSeq.list_pop_at (g.μ l) z n i u (cY i) val (Rb t<|B8 R ((Dn t).mp d) H) (Q7 t<|b▸(Dn t).mp d) (aO AC j)<|my<|(aO b R)) ⟨hi,cK.B k T hK<|aG.F E_ _ _ c⟩
def VZ(q:aD w g σ h){l:a7}{v y:aL}{vs:List AV}{x:AV}{i:Int}{u:Tok}(e:aG w g h (.d l) v)(B:σ l=I (.b vs))(R:O vs<=aR)(S:0<=i)(t:i<=O vs)(ey:aG w g h x y)(hK:K .j<|σ.u l<|.b<|vs.take (cY i)++x::vs.drop (cY i)):
 Run w A s₀ NX g σ h (iE (.builtin "list.insert") [v,.int i u,y]) (VR w) K:=by
 intro tk;obtain⟨rfl,z,n,hi,c⟩:=vy q e B;have b:O vs=z.size:=by have:=aI.iy c;simpa using this
 obtain⟨d,T,E_⟩:=AH q B
  (sw h (g.μ l) (Ae λxs=>have k:=if i<0 then cY (i+(xs.size:Int)) else min (cY i) xs.size;(xs.extract 0 k).push y++xs.extract k)) (C9 hi _)
  (by rw[(show((λxs:Array aL=>have k:=if i<0 then cY (i+(xs.size:Int)) else min (cY i) xs.size;(xs.extract 0 k).push y++xs.extract k) z).toList=z.toList.take (cY i)++y::z.toList.drop (cY i) from by
  simp only[rg.mpr S,if_false,pF<|b▸a65.mpr t];simp;exact List.take_of_length_le<|by simp)];exact aI.append (aI.yl _ c)<|aI.cons ey<|aI.r0 _ c)
 exact HE a50 ⟨_,hi,H⟩ F.entry_list_insert (F.args_list_insert_3 _ _ _) (AutoSeq1.list_insert_list_int_val_1 (g.μ l) z n i u y (by rw[Rb S<|(Sm t<|Ca R H)];decide)<|my<|(aO b R)) ⟨hi,cK.B d T hK<|by rfl⟩
def SX{l}{k:Int}{Q}(B:IsL s.heap l z n)(F:0<=k)(q:k<2^63)(S:k<z.size)(R:Q () {s with heap:=s.heap.update l<|Ae (·.setIfInBounds (cY k) v)}):
 cA (MM w) A (zX (.ref l) (.int k t) v) Q E_ s:=by
 obtain b:=B.isList;unfold zX;try with_reducible apply jC
 first|refine aW (bQ ?_)|skip
 refine aW<|Hr b.typeIs (Y H)<|aW (Ht b.typeIs a5A
  (vX a5A b.typeIs PySem.entry_list_setitem ?_ (PySem.args_list_setitem _ _ _)))
 show cA _ _ (a7L (.int k t)>>=_) _ _ s;refine aW<|wpAny_listSubscript_int (Rb F q) ?_;clear q;obtain⟨j,rfl⟩:=Ip F;refine aW<|aW<|wpAny_seqItemAt B H<|bQ<|ay ((Array.getElem?_eq_getElem<|jH.mp S))<|aW<|wpAny_setSeqItemAt B H ?_;first
  |exact aW<|bQ<|bQ ⟨.none,H,bQ R⟩
  |exact bQ ⟨.none,H,bQ R⟩
abbrev UR:Unit->Unit->Gh->Heap->Prop:=λb b b b=>True
def VJ(q:aD w g σ h){l:a7}{v y:aL}{vs:List AV}{x:AV}{i:Int}{u:Tok}{K:Unit->av->Prop}(e:aG w g h (.d l) v)(B:σ l=I (.b vs))(F:O vs<=aR)(R:0<=i)(t:i<O vs)(S:aG w g h x y)(hK:K ()<|σ.u l<|.b<|vs.set (cY i) x):Run w A s₀ NX g σ h (zX v (.int i u) y) UR K:=by
 intro tk;obtain⟨rfl,z,n,hi,b⟩:=vy q e B;exact gl (AH q B (sw h (g.μ l)<|Ae (·.setIfInBounds (cY i) y)) (C9 hi _)<|by simpa using aI.set b S) λc T E_=>SX hi R (B8 F t H) (((by have:=aI.iy b;simpa using this)▸t)) ⟨(),_,g,_,tk,H,hK,aE,c,T⟩
def ue(q:aD w g σ h){x:AV}{u:List AV}{a:aL}(R:aG w g h x a)(S:∀t,x≠.B t)(F:iL σ x=I u):∃B z n,a=.ref B/\IsL h B z n/\aI w g h u z.toList:=by
 induction x using AV.casesOn with
 |B t=>exact aP H<|S t
 |r us=>cases F;exact rS R λB z n e1 e e3 e4=>⟨B,z,n,e1,e3,e4⟩
 |d l=>exact bY (q.i l _<|MB (l:=l) F) λb c=>gk c λz n e1 d=>⟨g.ρ l,z,n,R.1,ay b e1,d⟩
 |_=>exact cL F
def Kv(q:aD w g σ h){l u st:aL}{K:Unit->av->Prop}(t:K () σ):
 Run w A s₀ NX g σ h (newFields "slice" [l,u,st]) (λ(_:Unit) v B h=>∃sl,v=.ref sl/\h.IsSliceOf sl l u st) K:=λtk=>bY (q.rB {cls:=.type "slice",data:=.fields #[l,u,st]}) λb T=>zT ⟨(),σ,g,_,tk,H,t,⟨_,H,a7I ..⟩,b,T⟩
def VW(B:aD w g σ h){x:AV}{vs:List AV}{v:aL}{i:Int}{t:Tok}{sl:Addr}(e:aG w g h x v)(S:∀F,x≠.B F)(q:iL σ x=I vs)(hs:h.IsSliceOf sl (.int i t) .none .none)(R:0<=i)(hl:O vs<=aR)(hK:K (.r<|vs.drop<|cY i) σ):Run w A s₀ NX g σ h (xJ v<|.ref sl) (VR w) K:=by
 refineλtk=>ox (ue B e S q) λa z n c e1 f=>?_
 subst c;have b:O vs=z.size:=by have:=aI.iy f;simpa using this
 refine bc (Ip R) λj d=>?_;clear R;subst d;refine gl (B.R {cls:=.type "list",data:=.seq<|zW z (I j) C C} H) λk T E_=>a5w e1.isList hs (.int _ _) .none .none (by simp) (cK.B k T hK ⟨_,zW z (I j) C C,0,H,.inr H,Db _ _,?_⟩)<|my<|aO b hl;obtain l:(zW z (I (j:Int)) C C).toList=z.toList.drop j:=by rw[slicePick_from']
 rw[l];exact(aI.F E_ _ _<|aI.r0 j f)
def a5a(n:Nat)(q:1<=n):a59 C (I (-1:Int)) 1 n=(0,((n-1:Nat):Int)):=by
 unfold a59;simp only[if_true];congr 1;exact(Int.max_eq_left<|EY q).trans<|EZ q
def XJ(n):Rv 0 ((n:Nat):Int) 1=n:=by
 unfold Rv;obtain b:(1:Int)>0:=dI _;simp only[b,if_true,a7e];split<;>first|exact(be cY<|a68 ..).trans H|exact(Nat.eq_zero_of_not_pos λp=>aP (jH.mpr p)<|by assumption).symm
def U1{u Q}(q:s.heap.IsSliceOf sl .none (.int (-1) u) .none)(t:1<=n)(h:Q (0,1,n-1) s):
 cA (MM w) A (a7J (.ref sl)<|pure n) Q E_ s:=by
 refine eW (id q) λos b d c=>aW<|aW<|Q0 b c (x:=.none) H<|aW<|Q0 b c (x:=.int (-1) u) H<|aW<|Q0 b c (x:=.none) H<|bQ<|aW<|slicePart_none<|aW<|slicePart_none<|aW<|slicePart_int<|aW<|bQ ?_;rw[a5a n t];show cA _ _ (pure ((0:Int),(1:Int),Rv 0 (((n-1:Nat):Nat):Int) 1)) _ _ s;rw[XJ];exact bQ h
def XT(xs:Array aL)(k):((cO k).filterMap λ(j:Nat)=>xs[cY<|(0:Int)+j*1]?).toArray=(xs.toList.take k).toArray:=by
 obtain e:(λ(j:Nat)=>xs[cY<|(0:Int)+j*1]?)=λj=>xs[0+j]?:=by
  funext j;obtain this:cY ((0:Int)+j*1)=0+j:=qk _ _;rw[this]
 rw[e];have:=pick_run xs 0 k;rw[List.filterMap_map] at this;rw[this,List.drop_zero]
def a0u{u}(ht:IsTup s.heap t z)(B:s.heap.IsSliceOf sl .none (.int (-1) u) .none)(F:1<=z.size)(h:Q (.ref s.heap.objs.size) {s with heap:=s.heap.push {cls:=.type "tuple",data:=.seq (z.toList.take<|z.size-1).toArray}})(q:z.size<=Q6):cA (MM w) A (xJ (.ref t)<|.ref sl) Q E_ s:=by
 obtain b:sizeOk<|.seq (z.toList.take<|z.size-1).toArray:=by
  show(z.toList.take<|z.size-1).toArray.size<=Q6;rw[a6H,xV];exact aV (xR _ _) q
 refine eW (id B) λos c d e=>?_;unfold xJ;try with_reducible apply jC
 first|refine aW (bQ ?_)|skip
 refine aW<|Hr ht.typeIs (Y H)<|aW (Ht ht.typeIs HX
  (vX HX ht.typeIs entry_tuple_getitem ?_ (args_tuple_getitem _ _)))
 show cA _ _ (a57 (.ref t)>>=_) _ _ s;refine aW<|tupleItemsOf_ ht<|aW<|wpAny_typeOf ⟨os,c,d⟩<|aW<|U1 B F ?_;show cA _ _ (if((0:Int)==0&&(1:Int)==1&&(z.size-1)==z.size)=U then _ else _) _ _ s;rw[Z (by
  rw[beq_eq_false_iff_ne.mpr<|hZ<|RK F RS];simp),XT z] at⊢
 first
  |exact aW<|zT (bQ ⟨_,H,bQ h⟩) b
  |exact aW (m:=Ru _)<|zT (aW<|bQ<|bQ ⟨_,H,bQ h⟩) b
  |exact aW<|aW (m:=Ru _)<|zT (bQ<|bQ ⟨_,H,bQ h⟩) b
  |exact aW<|aW (m:=Ru _)<|zT (bQ ⟨_,H,bQ h⟩) b
class inductive Dt (b:Bool):Nat->List AV->Prop
 |nil {n:Nat}:Dt b n []
 |rG {n:Nat} {r:List AV}:b=am->Dt b n r->Dt b n (.j::r)
 |r7 {n:Nat} {r:List AV} (c:Bool):b=am->Dt b n r->Dt b n (.e c::r)
 |int {n:Nat} {r:List AV} (i:Int):Dt b n r->Dt b n (.a i::r)
 |str {n:Nat} {r:List AV} {x:Str}:HO x=U->Dt b n r->Dt b n (.f x::r)
 |B {n:Nat} {r xs:List AV}:Dt b n xs->Dt b (n+1) r->Dt b (n+1) (.B xs::r)
mutual
noncomputable def Yl:HP->AV
 |.bool b=>.e b
 |.int i=>.a i
 |.str x=>.f x
 |.tuple ps=>.B<|Bk ps
 |_=>.j
noncomputable def Bk:List HP->List AV
 |[]=>[]
 |p::r=>Yl p::Bk r
end
def Cw{p}(t:∀x,p x=U->∀r,Dt b n r->Dt b n (x::r))(q:xs.all p=U):Dt b n xs:=by
 induction xs with
 |nil=>exact .nil
 |cons x r h=>exact t x (gJ.mp q).1 r<|h (gJ.mp q).2
def oC.dt(n):∀x,oC n x=U->∀r,Dt am n r->Dt am n (x::r):=by
 induction n with
 |zero=>exactλx d r h=>by induction x using AV.casesOn<;>first|exact .rG H h|exact .r7 _ H h|exact .int _ h|exact .str d h|exact(eS d).elim
 |succ n b=>exactλx d r h=>by induction x using AV.casesOn<;>first|exact .rG H h|exact .r7 _ H h|exact .int _ h|exact .str d h|exact .B (Cw b d) h|exact(eS d).elim
def y4.dt(x)(q:y4 x=U)(r)(h:Dt U n r):Dt U n<|x::r:=by
 induction x using AV.casesOn<;>first|exact .int _ h|exact .str q h|exact(eS q).elim
theorem BY.dt(x)(q:BY x=U)(r)(h:Dt U (n+1) r):Dt U (n+1)<|x::r:=by
 induction x using AV.casesOn<;>first|exact .int _ h|exact .str q h|exact .B (Cw y4.dt q) h|exact(eS q).elim
def qL.B(q:dK 2 x=U):∃xs,x=.B xs/\Dt U (n+1) xs:=by
 induction x using AV.casesOn<;>first|exact⟨_,H,Cw BY.dt q⟩|exact(eS q).elim
def qL.dt(q:dK 2 x=U):Dt U (n+2) [x]:=aA (qL.B q) λb e d=>ay e<|.B d .nil
def Dt.CD(d:Dt b n xs):PyData.canLayAll0 (nM xs)=U/\PyData.depthAll (nM xs)<=n:=by
 induction d with
 |nil=>exact⟨H,jQ _⟩
 |rG _ _ c=>exact⟨c.1,An.mpr ⟨jQ _,c.2⟩⟩
 |r7 _ _ _ c=>exact⟨c.1,An.mpr ⟨jQ _,c.2⟩⟩
 |int _ _ c=>exact⟨c.1,An.mpr ⟨jQ _,c.2⟩⟩
 |str q _ c=>exact⟨gJ.mpr ⟨q,c.1⟩,An.mpr ⟨jQ _,c.2⟩⟩
 |B _ _ e f=>exact⟨gJ.mpr ⟨e.1,f.1⟩,An.mpr ⟨jS e.2,f.2⟩⟩
def Dt.t(d:Dt b n [x]):(ky x).canLay0=U/\(ky x).depth<=n:=⟨(gJ.mp d.CD.1).1,(An.mp d.CD.2).1⟩
def Dt.zF(d:Dt b n xs):Bk (nM xs)=xs:=by
 induction d with
 |nil=>rfl
 |rG _ _ c=>exact be _ c
 |r7 _ _ _ c=>exact be _ c
 |int _ _ c=>exact be _ c
 |str _ _ c=>exact be _ c
 |B _ _ e f=>exact congr (be (λa b=>AV.B a::b) e) f
def Dt.inj{c m}(d:Dt b n [x])(q:Dt c m [y])(e:ky x=ky y):x=y:=(oO<|d.zF.symm.trans<|(be (λp=>Bk [p]) e).trans q.zF).1
def Dt.eqv{c m}(d:Dt b n [x])(F:Dt c m [y])(q:xN (ky x) (ky y)=U):PyData.eqv (ky x) (ky y)=decide (x=y):=by
 rw[<-SeqAt.same_eq_eqv _ _ q,gu,dT,PyProof.Rows.same_iff] at⊢;exact⟨d.inj F,λe=>ay e H⟩
def Dt.reads(d:Dt b n xs):∀{vs},aI w g h xs vs->∃as,uK h vs (nM xs) as:=by
 induction d with
 |nil=>exactλe=>⟨[],ay e .nil⟩
 |rG _ _ k=>exactλe=>gy e λv vs f e1 j=>bc (k j) λas r=>⟨[]++as,ay f<|.cons (ay e1 .none) r⟩
 |r7 c _ _ k=>exactλe=>gy e λv vs f e1 j=>bc (k j) λas r=>⟨[]++as,ay f<|.cons (ay e1<|.bool c) r⟩
 |int i _ k=>exactλe=>gy e λv vs f e1 j=>bc e1 λt q=>bc (k j) λas r=>⟨[]++as,ay f<|.cons (ay q<|.int i t) r⟩
 |str _ _ k=>exactλe=>gy e λv vs f e1 j=>bc e1 λt q=>bc (k j) λas r=>⟨[]++as,ay f<|.cons (ay q<|.str _ t) r⟩
 |B _ _ m o=>exactλe=>gy e λv vs f e1 j=>o6 e1 λa l f1 x p s=>bc (m s) λbs u=>bc (o j) λas r=>⟨bs++as,ay f<|.cons (ay f1<|.tuple p H H u) r⟩
def Dt.j3(d:Dt b n [x])(e:aG w g h x v):∃as,xO h v (ky x) as:=bc (d.reads ⟨v,[],H,e,H⟩) λas r=>by
 cases r with
 |cons a _=>exact⟨_,a⟩
def lR.out(q:lR x y=U):Dt am 8 [x]/\Dt am 8 [y]/\xN (ky x) (ky y)=true:=by
 obtain q:=gJ.mp q;obtain p:=gJ.mp q.1;exact⟨oC.dt 8 x p.1 _ .nil,oC.dt 8 y p.2 _ .nil,q.2⟩
def lR.F(q:lR x y=U)(e:aG w g s.heap x u)(f:aG w g s.heap y v)(t:A.units+8<ie):a5R A s u v<|decide<|x=y:=
 gl (lR.out q) λd b q=>bc (d.j3 e) λas c=>bc (b.j3 f) λbs i=>d.eqv b q▸Rj _ _ A s u v as bs c i d.t.1 b.t.1 (yT t d.t.2)
def Wi(t:aD w g σ h)(q:lR x y=U)(e:aG w g h x u)(f:aG w g h y v)(B:A.units+8<ie)(F:K (.e<|decide<|x=y) σ):
 Run w A s₀ NX g σ h (xL .Eq u v) (VR w) K:=λtk=>
 gl (lR.out q) λd b q=>bc (d.j3 e) λas c=>bc (b.j3 f) λbs i=>SeqAt.compareEq_reads c i d.t.1 b.t.1 (yT B d.t.2) (d.eqv b q▸cK.t t F (by rfl))
def VT(t:aD w g σ h)(q:lR x y=U)(e:aG w g h x u)(f:aG w g h y v)(B:A.units+8<ie)(F:K (.e<|!decide (x=y)) σ):
 Run w A s₀ NX g σ h (xL .NotEq u v) (VR w) K:=λtk=>
 gl (lR.out q) λd b q=>bc (d.j3 e) λas c=>bc (b.j3 f) λbs i=>SeqAt.compareNe_reads c i d.t.1 b.t.1 (yT B d.t.2) (d.eqv b q▸cK.t t F (by rfl))
def pS{d}(r:uK h vs (d::t) as):∃v q bs cs,vs=v::q/\xO h v d bs/\uK h q t cs:=by
 cases r with
 |cons a b=>exact⟨_,_,_,_,H,a,b⟩
def Ex(r:uK h vs [] as):vs=[]:=by cases r;rfl
def A4(r:xO h v (.tuple ps) as):∃a o l n,v=.ref a/\h.get? a=I o/\o.cls=.type "tuple"/\o.data=.seq l n/\uK h l.toList ps as:=by
 cases r with
 |tuple b c d h4=>exact⟨_,_,_,_,H,b,c,d,h4⟩
def Dt.cT(q:∀a o l n,h.get? a=I o->o.data=.seq l n->h'.get? a=I o)(d:Dt b n xs):∀{vs as},uK h vs (nM xs) as->∃as,uK h' vs (nM xs) as:=by
 induction d with
 |nil=>exactλr=>⟨[],ay (Ex r) .nil⟩
 |rG _ _ g=>exactλr=>nc (pS r) λv vs bs cs e a r=>bc (g r) λcs r=>⟨[]++cs,ay e<|.cons (ay ((reads_none_inv a).1) .none) r⟩
 |r7 c _ _ g=>exactλr=>nc (pS r) λv vs bs cs e a r=>bc (g r) λcs r=>⟨[]++cs,ay e<|.cons ((reads_bool_inv a).1▸.bool c) r⟩
 |int i _ g=>exactλr=>nc (pS r) λv vs bs cs e a r=>aA (RC a) λt f k=>bc (g r) λcs r=>⟨[]++cs,ay e<|.cons (ay f<|.int i t) r⟩
 |str _ _ g=>exactλr=>nc (pS r) λv vs bs cs e a r=>aA (RB a) λt f k=>bc (g r) λcs r=>⟨[]++cs,ay e<|.cons (ay f<|.str _ t) r⟩
 |B _ _ m p=>exactλr=>nc (pS r) λv vs bs cs e a r=>B0 (A4 a) λad o l n f1 s u j x=>bc (m x) λbs y=>bc (p r) λcs r=>⟨bs++cs,ay e<|.cons (ay f1<|.tuple (q _ _ _ _ s j) u j y) r⟩
def Dt.mx(d:Dt U n xs):∀{m q},Dt U m q->a5Q (nM xs) (nM q)=true:=by
 induction d with
 |nil=>exactλb=>by induction b using Dt.casesOn<;>rfl
 |rG h=>exact mI h
 |r7 _ h=>exact mI h
 |int i _ c=>exactλb=>by induction b using Dt.casesOn<;>first|rfl|(exact c<|by assumption)|(cases ‹U=am›)
 |str _ _ c=>exactλb=>by induction b using Dt.casesOn<;>first|rfl|(exact c<|by assumption)|(cases ‹U=am›)
 |B _ _ f e=>
  exactλb=>by
   induction b using Dt.casesOn with
   |nil=>rfl
   |rG h=>exact mI h
   |r7 _ h=>exact mI h
   |int _ d=>exact e d
   |str _ d=>exact e d
   |B a d=>exact gJ.mpr ⟨f a,e d⟩
def Dt.lO(q:∀a o l n,h.get? a=I o->o.data=.seq l n->h'.get? a=I o)(d:Dt b n [x])(r:xO h v (ky x) as):∃as,xO h' v (ky x) as:=bc (d.cT q<|.cons r .nil) λas r=>nc (pS r) λc c bs c e a c=>⟨bs,ay ((oO e).1) a⟩
noncomputable abbrev Cg:aL->Array Int->Sem (ForInStep<|Array Int):=λx r=>do let h<-CY x;pure PUnit.unit;pure<|uU<|r.push h
def Gk{l a b Q}(F:∀{Q},Q t {s with toks:=s.toks+a}->cA (MM w) A (CY v) Q E_ s)(R:∀{b Q},(∀B,B.toList=b.toList++l->Q B {s with toks:=s.toks+a+c})->cA (MM w) A (forIn vs b Cg) Q E_ {s with toks:=s.toks+a})(q:∀B,B.toList=b.toList++(t::l)->Q B {s with toks:=s.toks+(a+c)}):cA (MM w) A (forIn (v::vs) b Cg) Q E_ s:=by
 rw[Dj];refine aW<|aW<|F<|aW<|bQ<|bQ ?_;exact R λB d=>oM ..▸q B (d.trans<|by rw[Dr,gc];rfl)
def Ow{l Q}(e1:s.heap.get? a=I o)(B:o.cls=.type "tuple")(e3:o.data=.seq l n)(R:A.units<ie)(S:∀{Q},(∀t,t.toList=(#[]:Array Int).toList++zs->Q t {s with toks:=s.toks+dr})->cA (MM w) A.in1 (forIn l.toList #[] Cg) Q E_ s)(q:Q (reduceHash<|a58 zs) {s with toks:=s.toks+(dr+1)}):cA (MM w) A (CY<|.ref a) Q E_ s:=by
 refine pyHash_slot ⟨_,e1,B⟩ F.slot_tuple_hash F.entry_tuple_hash (F.args_tuple_hash_1 _) (beq_builtin_none _) (.inr R) ?_;show cA _ _ (a57 (.ref a)>>=_) _ _ s;refine aW<|wpAny_tupleItemsOf e1 e3<|aW ?_;rw[<-a7n];refine S λb c=>?_;show cA _ _ (retInt<|a58 b.toList) _ _ _;rw[c];exact aW<|wpAny_mkInt<|bQ ⟨_,_,H,q⟩
def Dt.hash(w)(d:Dt U n xs):∃F,∀{A E_ s b Q vs as},uK s.heap vs (nM xs) as->A.units+n<ie->
 (∀R,R.toList=b.toList++hashesW w.params (DN xs)->Q R {s with toks:=s.toks+F})->cA (MM w) A (forIn vs b Cg) Q E_ s:=by
 induction d with
 |nil=>exact⟨0,λr m q=>Ex r▸bQ (q _ (jG _).symm)⟩
 |rG h=>exact mI h
 |r7 _ h=>exact mI h
 |int i _ c=>exact bc c λF c=>⟨1+F,λr g q=>nc (pS r) λv vs bs cs e a r=>aA (RC a) λt f m=>e▸Gk (λq=>ay f<|a5s<|aO (Rg w.params i) q) (λq=>c r g q) q⟩
 |str _ _ c=>exact bc c λF c=>⟨1+F,λr g q=>nc (pS r) λv vs bs cs e a r=>aA (RB a) λt f m=>e▸Gk (λq=>ay f<|a5r q) (λq=>c r g q) q⟩
 |B _ _ j k=>exact bc j λp j=>bc k λu k=>⟨p+1+u,λr g q=>nc (pS r) λv vs bs cs e a r=>B0 (A4 a) λad o l n f1 x y z B=>ay e<|Gk (λq=>ay f1<|Ow x y z (rN g) (λq=>j B (Y2 g) q) q) (λq=>k r g q) q⟩
def Dt.quiet(d:Dt U n xs):∀{vs as},uK s.heap vs (nM xs) as->∀v∈vs,∀{A Q},Q U s->cA (MM w) A (eqIsQuiet n v) Q E_ s:=by
 obtain ar:∀{P:aL->Prop}{v vs us},us=v::vs->P v->(∀u∈vs,P u)->∀u∈us,P u:=by
  intro P v vs us e a b u c;rcases cf.mp (e▸c) with z|z;.rw[z];exact a
  .exact b u z
 induction d with
 |nil=>exactλr v B=>nomatch Ex r▸B
 |rG h=>exact mI h
 |r7 _ h=>exact mI h
 |int i _ g=>exactλr=>nc (pS r) λv vs bs cs e a r=>aA (RC a) λt f p=>ar e (λq=>by rw[f,a5I _ H];exact bQ q)<|g r
 |str _ _ g=>exactλr=>nc (pS r) λv vs bs cs e a r=>aA (RB a) λt f p=>ar e (λq=>by rw[f,a5I _ H];exact bQ q)<|g r
 |@B n _ _ _ _ D G=>
  refineλr=>nc (pS r) λv vs bs cs e a r=>B0 (A4 a) λad o l k f1 j x I J=>ar e (λ{A Q} q=>?_) (G r)
  rw[f1];unfold eqIsQuiet;refine aW<|QZ ⟨_,j,x⟩ F.slot_tuple_eq.lookup<|aW<|wpAny_isInstance ⟨_,j,x⟩ isSubtype_tuple_tuple<|aW<|wpAny_seqItems j I<|aW ?_;rw[<-a7n];refine wpAny_forIn_list _ (λrest r m=>r.1=C/\m=s/\∀v∈rest,v∈l.toList) _ ?_ ?_ _ _ ⟨H,H,λp h=>h⟩;.rintro v rest r m ⟨_,e,y⟩;cases e;exact aW<|D J v (lM y)<|bQ ⟨H,H,λu c=>y u<|bK _ c⟩
  .rintro⟨L,M⟩ m ⟨K,e,_⟩;cases K;exact ay e<|bQ q
def KR(h:Heap)(k:AV)(v:aL):Prop:=dK 2 k=U/\∃as,xO h v (ky k) as
def FG(w:cR)(k:AV):∃t,∀{A:nZ}{E_:aL->bT->Prop}{s:bT}{a:Addr}{Q:Int->bT->Prop},A.units+16<ie->KR s.heap k (.ref a)->Q (mr w k) {s with toks:=s.toks+t}->cA (MM w) A (CY<|.ref a) Q E_ s:=by
 by_cases q:dK 2 k=U;.refine aA (qL.B (n:=0) q) λxs e d=>bc (d.hash w) λt c=>⟨t+1,λb x q=>bc x.2 λas r=>?_⟩;rw[e] at r q;refine B0 (A4 r) λad o l n f1 f g i j=>?_;cases f1;exact Ow f g i (rN b) (λq=>c j (uc (y:=15) (rM b H) H) q) q
 .exact⟨0,λm x=>aP x.1 q⟩
def Ha(w:cR):HeapKind P0 w AV where
 is h k a:=KR h k (.ref a)
 hash k:=mr w k
 draws k:=(FG w k).choose
 room A:=A.units+16<ie
 inj:=λc f=>(qL.dt (n:=0) c.1).inj (qL.dt (n:=0) f.1) (bc c.2 λi j=>bc f.2 λi m=>(a5T j _ _ m).1)
 keeps:=λ{h h' k a d o es v} x ho hd t=>⟨x.1,bc x.2 λi r=>(qL.dt (n:=0) x.1).lO (λb o' l n e u=>by
  refine(t.2 b ?_).trans e;rintro rfl;cases e.symm.trans ho;cases hd.symm.trans u) r⟩
 pyHash:=λ{A E_ s k a Q} p g hq=>(FG w k).choose_spec p g hq
 eqBool:=λ{A E_ s x y a b Q} p c f hq=>bc c.2 λas j=>bc f.2 λbs m=>by
  have d:=qL.dt (n:=6) c.1;have q:=qL.dt (n:=6) f.1;apply Rj _ _ A s (.ref a) (.ref b) as bs j m d.t.1 q.t.1 (yT p<|bG d.t.2 H) P0 w E_ Q;rw[d.eqv q (gJ.mp<|d.mx q).1];exact hq
 quiet:=λ{A E_ s k a Q} g hq=>bc g.2 λi r=>(qL.dt (n:=6) g.1).quiet (.cons r .nil) _ aZ hq
def aG.kr(q:dK 2 k=U)(e:aG w g h k v):(∃a,v=.ref a)/\KR h k v:=⟨aA (qL.B (n:=0) q) λxs f b=>o6 (f▸e:aG w g h (.B xs) v) λa b f b b b=>⟨a,f⟩,q,(qL.dt (n:=0) q).j3 e⟩
def eY.iy(e:eY w g h c es D):O es=O D:=by
 induction es generalizing D with
 |nil=>exact ay e H
 |cons p r f=>exact rT e λa b i d d d d j=>ay i<|be (·+1)<|f j
def eY.S(e:eY w g h c es D){i:Nat}{p:AV×AV}(q:es[i]?=I p):∃e,D[i]?=I e/\aG w g h p.1 e.key/\e.hash=mr w p.1/\dK c p.1=U/\aG w g h p.2 e.val:=by
 induction es generalizing D i with
 |nil=>exact cL q
 |cons x r d=>
  refine rT e λa b f e1 k e3 e4 l=>f▸?_;induction i using Nat.casesOn with
  |zero=>exact aO (fg q) ⟨a,H,e1,k,e3,e4⟩
  |succ j=>exact d l q
def eY.Ci(R:eY w g h c es D){i:Nat}{e:kj}(q:D[i]?=I e):∃p,es[i]?=I p/\aG w g h p.1 e.key/\e.hash=mr w p.1/\dK c p.1=U/\aG w g h p.2 e.val:=by
 obtain hi:=eY.iy R▸(jV.mp q).1;exact aA (eY.S R<|kN hi) λd b r=>⟨_,kN hi,aO (fg<|b.symm.trans q) r⟩
def iQ(es:List<|AV×AV)(k:AV):Option Nat:=es.findIdx? λp=>decide<|p.1=k
def aG.BX{i:Int}(e:aG w g h (.a i) v):(tE P0 w).is i v=true:=bc e λt f=>ay f<|intKind_is P0 w i t
def aG.FH{i:Str}(e:aG w g h (.f i) v):(strKind P0 w).is i v=true:=bc e λt f=>ay f<|strKind_is P0 w i t
def FI(q:dK 0 k=U):∃i,k=.a i:=by
 induction k using AV.casesOn<;>first|exact⟨_,H⟩|exact(eS q).elim
def NM(q:dK 1 k=U):∃i,k=.f i:=by
 induction k using AV.casesOn<;>first|exact⟨_,H⟩|exact(eS q).elim
def NL(q:dK c k=U):(c=0/\∃i,k=.a i)\/(c=1/\∃i,k=.f i)\/(c=2/\dK 2 k=U):=by
 induction k using AV.casesOn with
 |a i=>exact .inl ⟨eq_of_beq q,i,H⟩
 |f i=>exact .inr<|.inl ⟨eq_of_beq q,i,H⟩
 |B xs=>exact .inr<|.inr ⟨eq_of_beq (gJ.mp q).1,aO (eq_of_beq (gJ.mp q).1) q⟩
 |_=>exact(eS q).elim
def a0K{P:aL->Bool}(e:eY w g h c es D)(q:∀{k v},dK c k=U->aG w g h k v->P v=decide (k=x)):(D.findIdx? λe=>P e.key)=iQ es x:=by
 induction es generalizing D with
 |nil=>exact ay e H
 |cons p r d=>
  refine rT e λa b f e1 j e3 e4 i=>ay f ?_;unfold iQ;rw[Il,Il,q e3 e1,d i];rfl
def b!{i}(q:dK 0 k=U)(e:aG w g h k v):(tE P0 w).is i v=decide (k=.a i):=bc (FI q) λj f=>by
 subst f;rw[a5W e.BX i];exact jp.mpr ⟨λz=>ay z H,λz=>by cases z;rfl⟩
def b_{i:Str}(q:dK 1 k=U)(e:aG w g h k v):(strKind P0 w).is i v=decide (k=.f i):=bc (NM q) λj f=>by
 subst f;rw[a5W e.FH i];exact jp.mpr ⟨λz=>ay z H,λz=>by cases z;rfl⟩
def TO(e:eY w g h 2 es D):∃xs:List<|AV×Addr×aL,D=xs.map (entryOfKey<|Ha w)/\xs.map (·.1)=es.map (·.1)/\∀x∈xs,(Ha w).is h x.1 x.2.1:=by
 induction es generalizing D with
 |nil=>exact⟨[],e,H,dS⟩
 |cons p r d=>
  refine rT e λa b f e1 i e3 e4 j=>eW (d j) λxs k l m=>bY (aG.kr e3 e1) λc n=>bc c λad c=>⟨(p.1,ad,a.val)::xs,?_,be (p.1::·) l,λx hx=>?_⟩;.rw[f,k];exact be (·::_)<|by unfold entryOfKey;rw[<-c];exact be (λz=>DictEntry.mk z a.key a.val) i
  .rcases cf.mp hx with z|hx;.rw[z];exact(c▸n:KR h p.1<|.ref ad)
   .exact m x hx
def NI(q:k∉es.map (·.1)):iQ es k=none:=
 R7.mpr λp b=>bR λz=>q (aO z<|bp.mpr ⟨p,b,H⟩)
def ZM(t:cg<|es.map (·.1))(q:(es.map (·.1))[j]?=I k):iQ es k=I j:=by
 obtain b:=ba (f:=(·.1)) (as:=es)▸(jV.mp q).1;obtain at_:∀i(hi:i<O es),(es.map (·.1))[i]?=I es[i].1:=λi hi=>by rw[nH,kN hi];rfl
 exact a6W.mpr ⟨b,bA<|fg<|(at_ j b).symm.trans q,λi hi z=>hZ hi<|(List.getElem?_inj (ba (f:=(·.1)) (as:=es)▸m3 hi b) t).mp<|(at_ i<|m3 hi b).trans<|(ay (Y z) q.symm)⟩
def Qt(a:Array α)(p:α->Bool):a.findIdx? p=a.toList.findIdx? p:=by
 rw[<-List.findIdx?_toArray]
def O4{t:Type}[DecidableEq t]{knd:KeyKind P0 w t}{x:t}{s:bT}{E_:aL->bT->Prop}{Q:Option Nat->bT->Prop}{D:Array kj}{n:Nat}{d:Addr}{o:Obj}{kv:aL}(ho:s.heap.get? d=I o)(hd:o.data=.dict D n)(R:eY w g s.heap c es D.toList)(B:knd.is x kv=U)(F:mr w k=knd.hash x)(S:∀{q v},dK c q=U->aG w g s.heap q v->knd.is x v=decide (q=k))(hK:∀{q v},dK c q=U->aG w g s.heap q v->∃y,knd.is y v=U/\mr w q=knd.hash y)(hq:Q (iQ es k) s):cA (MM w) A (dictFind d kv<|mr w k) Q E_ s:=by
 rw[F];apply wpAny_dictFind_of B ho hd λe b=>bc (Ie.mp<|Ds.mpr b) λj f=>FP (eY.Ci R f) λp i l m r i=>aA (hK r l) λy u z=>⟨y,u,m.trans z⟩;rw[Qt,a0K R S];exact hq
def Cf(i:Int):mr w (.a i)=(tE P0 w).hash i:=(Rg ..).trans H
def CB{Q D}(S:A.units+16<ie)(ho:s.heap.get? d=I o)(hd:o.data=.dict D n)(R:eY w g s.heap c es D.toList)(B:cg<|es.map (·.1))(F:dK c k=U)(t:aG w g s.heap k kv)(hq:Q (iQ es k) s):cA (MM w) A (dictFind d kv<|mr w k) Q E_ s:=by
 rcases NL F with⟨rfl,i,rfl⟩|⟨rfl,i,rfl⟩|⟨rfl,_⟩;.exact O4 ho hd R t.BX (Cf i) b! (λq e=>bc (FI q) λj f=>⟨j,(f▸e:aG w g s.heap (.a j) _).BX,ay f<|Cf j⟩) hq
 .exact O4 ho hd R t.FH H b_ (λq e=>bc (NM q) λj f=>⟨j,(f▸e:aG w g s.heap (.f j) _).FH,ay f H⟩) hq
 .refine eW (TO R) λaJ m b r=>bY (aG.kr F t) λu kr=>bc u λad f=>?_;subst f;exact wpAny_dictFind_heap (knd:=Ha w) S kr ho hd m r (ay b B) (λl=>aO (NI<|aO b<|not_mem_keys_of_get l) hq) λj p v=>aO (ZM (j:=j) B<|by rw[<-b,nH,v];rfl) hq
def keyHash{Q}(F:A.units+16<ie)(B:dK c k=U)(q:aG w g s.heap k kv)(hq:∀tk,Q (mr w k) {s with toks:=tk}):
 cA (MM w) A (CY kv) Q E_ s:=by
 rcases NL B with⟨rfl,i,rfl⟩|⟨rfl,i,rfl⟩|⟨rfl,_⟩;.exact bc q λt f=>ay f<|a5s<|(Cf i▸hq (s.toks+1):Q ((tE P0 w).hash i) {s with toks:=s.toks+1})
 .exact bc q λt f=>ay f<|a5r<|hq _
 .exact bY (aG.kr B q) λb kr=>bc b λad f=>ay f<|bc (FG w k) λe d=>d F (aO f kr)<|hq _
def NJ(p)(x)(r):iQ (p::r) x=if p.1=x then I 0 else(iQ r x).map (·+1):=by
 unfold iQ;rw[Il];by_cases q:p.1=x;.rw[ak q,ak<|bA q]
 .rw[Z q,Z λz=>q<|Y z]
def FF{p r}(q:iQ (p::r) x=I j):p.1=x/\j=0\/¬p.1=x/\∃i,j=i+1/\iQ r x=I i:=by
 rw[NJ] at q;by_cases z:p.1=x;.exact .inl ⟨z,(fg<|(ak z).symm.trans q).symm⟩
 .exact .inr ⟨z,aA (H0.mp<|(Z z).symm.trans q) λi a b=>⟨i,b.symm,a⟩⟩
def xg{p r}(q:iQ (p::r) x=C):¬p.1=x/\iQ r x=none:=by
 rw[NJ] at q;by_cases z:p.1=x;.exact nomatch(ak z).symm.trans q
 .exact⟨z,Option.map_eq_none_iff.mp<|(Z z).symm.trans q⟩
def a1f(q:iQ es x=I j):dL es x=(es[j]?).map (·.2):=by
 induction es generalizing j with
 |nil=>exact cL q
 |cons p r b=>
  rcases FF q with⟨z,e⟩|⟨z,i,e,h⟩;.exact(ak z).trans<|ay e H
  .exact(Z z).trans<|ay e<|b h
def zy(es)(x):dL es x=(iQ es x).bind λj=>(es[j]?).map (·.2):=by
 rcases e:iQ es x with _|j
 .induction es with
  |nil=>rfl
  |cons p r b=>exact(Z (xg e).1).trans<|b (xg e).2
 .exact a1f e
def Pf(y)(q:iQ es x=I j):mV es x y=es.modify j λp=>(p.1,y):=by
 induction es generalizing j with
 |nil=>exact cL q
 |cons p r b=>
  rcases FF q with⟨z,e⟩|⟨z,i,e,h⟩;.exact(ak z).trans<|ay e H
  .exact(Z z).trans<|ay e<|be (p::·)<|b h
def Pg(y)(q:iQ es x=C):mV es x y=es++[(x,y)]:=by
 induction es with
 |nil=>rfl
 |cons p r b=>exact(Z (xg q).1).trans<|be (p::·)<|b (xg q).2
def Pp(q:iQ es x=I j):oB es x=es.eraseIdx j:=by
 induction es generalizing j with
 |nil=>exact cL q
 |cons p r b=>
  rcases FF q with⟨z,e⟩|⟨z,i,e,h⟩;.exact(ak z).trans<|ay e H
  .exact(Z z).trans<|ay e<|be (p::·)<|b h
def Pq(q:iQ es x=C):oB es x=es:=by
 induction es with
 |nil=>rfl
 |cons p r b=>exact(Z (xg q).1).trans<|be (p::·)<|b (xg q).2
def BW(q:iQ es x=I j):j<O es:=(a6W.mp q).1
def ZN(q:iQ es x=C):x∉es.map (·.1):=by
 unfold iQ at q;rw[R7] at q
 refineλz=>aA (bp.mp z) λp c b=>?_
 subst b;simpa using q p c
def eY.modify(e:eY w g h c es D)(f:aG w g h y v):eY w g h c (es.modify j λp=>(p.1,y))<|D.modify j λe=>{e with val:=v}:=by
 induction es generalizing D j with
 |nil=>exact ay e<|by rw[a6J,a6J];rfl
 |cons p r l=>
  refine rT e λa b m e1 d e3 e4 k=>ay m ?_;induction j using Nat.casesOn with
  |zero=>exact⟨_,b,H,e1,d,e3,f,k⟩
  |succ i=>exact⟨a,_,H,e1,d,e3,e4,l k⟩
def eY.rB(e:eY w g h c es D)(k:dK c x=U)(f1:aG w g h x kv)(q:aG w g h y v):eY w g h c (es++[(x,y)])<|D++[⟨mr w x,kv,v⟩]:=by
 induction es generalizing D with
 |nil=>rw[show D=[] from e];exact⟨⟨mr w x,kv,v⟩,[],H,f1,H,k,q,H⟩
 |cons p r d=>exact rT e λa b f e1 i e3 e4 j=>ay f ⟨a,_,H,e1,i,e3,e4,d j⟩
def eY.erase(e:eY w g h c es D):eY w g h c (es.eraseIdx j)<|D.eraseIdx j:=by
 induction es generalizing D j with
 |nil=>exact ay e H
 |cons p r f=>
  refine rT e λa b k e1 l e3 e4 d=>ay k ?_;induction j using Nat.casesOn with
  |zero=>exact d
  |succ i=>exact⟨a,_,H,e1,l,e3,e4,f d⟩
structure oP(w:cR)(g:Gh)(h:Heap)(a:Addr)(c:Nat)(es:List<|AV×AV)(D:Array kj)(n:Nat)(o:Obj):Prop where
 S:h.get? a=some o
 exact:o.ExactDict
 d:o.data=.dict D n
 f:eY w g h c es D.toList
 q:(es.map (·.1)).Nodup
 e:(a==Q3)=false
def oP.typeIs{D}(t:oP w g h a c es D n o)(tk):(cy s₀ h tk).TypeIs (.ref a) "dict":=⟨o,t.S,t.exact.1⟩
def oP.Yy{D}(t:oP w g h a c es D n o):∀b,Value.ref a=.ref b->∃ob,h.get? b=I ob/\ob.dict=none:=λb e=>by cases e;exact⟨o,t.S,t.exact.2.1⟩
def zx(q:aD w g σ h){l:a7}{v:aL}{c:Nat}{es:List<|AV×AV}(e:aG w g h (.d l) v)(t:σ l=I (.a c es)):v=.ref (g.μ l)/\∃D n o,oP w g h (g.μ l) c es D n o:=by
 refine bY (q.i l _ t) λb d=>⟨aO b e.1,NV d λo D n e1 f e3 e4 i=>⟨D,n,o,e1,f,e3,e4,i,beq_eq_false_iff_ne.mpr<|rb<|eR (Y H)<|q.B l λz=>nomatch t.symm.trans z⟩⟩
def YQ{l}(q:jy σ (.d l)=I es):∃c,σ l=I (.a c es)/\jO σ (.d l)=c:=by
 unfold jy at q;unfold jO;dsimp only at q⊢;generalize σ l=o at q⊢;induction o using Option.casesOn with
 |none=>exact cL q
 |some o=>
  induction o using eE.casesOn with
  |a c us=>cases q;exact⟨c,H,H⟩
  |_=>exact cL q
def sX(t:aD w g σ h){x:AV}{v:aL}{es:List<|AV×AV}(e:aG w g h x v)(q:jy σ x=I es):∃a D n o,v=.ref a/\oP w g h a (jO σ x) es D n o:=by
 induction x using AV.casesOn with
 |g c us=>
  cases q;exact NT e λa o D n f1 r i j k d=>⟨a,D,n,o,f1,j,k,d.1,d.2.1,d.2.2,i⟩
 |d l=>exact aA (YQ q) λc m f=>bY (zx t e m) λp b=>Z2 b λD n o b=>⟨_,D,n,o,p,ay f b⟩
 |_=>exact cL q
def GN{Q D}(t:A.units+16<ie)(q:oP w g h a c es D n o)(B:dK c k=U)(F:aG w g h k kv)(hq:∀r tk,(match dL es k with|some y=>∃v,r=I v/\aG w g h y v|.none=>r=C)->Q r (cy s₀ h tk)):cA (MM w) A (C2 a kv) Q E_<|cy s₀ h tk:=by
 unfold C2;try with_reducible apply jC
 refine aW<|keyHash t B F λtk=>aW<|CB (s:=cy s₀ h tk) t q.S q.d q.f q.q B F ?_;rcases e:iQ es k with _|j;.exact bQ<|((zy ..)▸hq) C tk<|by rw[e];rfl
 .refine FP (eY.S q.f<|kN<|BW e) λi b f f f d=>aW<|Q1 q.S q.d<|bQ<|(e▸((zy ..)▸hq)) _ tk ?_;simp only[a6g,kN<|BW e,a6f];rw[<-AC,b];exact⟨_,H,d⟩
def Wc(t:aD w g σ h)(B:A.units+20<ie)(e:aG w g h x v)(q:jy σ x=I es)(F:dK (jO σ x) k=U)(R:aG w g h k kv){f}(ho:(S=.In/\f=id)\/(S=.NotIn/\f=not))(hK:K (.e<|f<|dA<|dL es k) σ):Run w A s₀ NX g σ h (xL S kv v) (VR w) K:=by
 refineλtk=>qM (sX t e q) λa D n o m c=>?_
 subst m;obtain l:=c.typeIs tk;obtain key:cA (MM w) A (contains (.ref a) kv) (λb p=>b=dA (dL es k)/\∃d,p=cy s₀ h d) (λi i=>False)<|cy s₀ h tk:=by
  unfold contains;try with_reducible apply jC
  refine aW<|QZ l Q5.lookup<|aW (wpAny_callSpecialUnlessNone?_slot l Q5
   (vX Q5 l PySem.entry_dict_contains ?_ (PySem.args_dict_contains _ _)))
  show cA _ _ (C2 a kv>>=_) _ _ _;refine aW (GN (by simp only[uL];exact rM B H) c F R λr d j=>?_);rcases C:dL es k with _|y;.rw[C] at j;subst j;exact aW<|wpAny_pendingKey_other c.e<|bQ ⟨_,H,QY ⟨H,d,H⟩⟩
  .rw[C] at j;refine aA j λE s i=>?_;clear B F R c l j;subst s;exact bQ ⟨_,H,QY ⟨H,d,H⟩⟩
 rcases ho with⟨rfl,rfl⟩|⟨rfl,rfl⟩;.exact aW<|ff key (λb p⟨u,d,z⟩=>by subst u z;exact bQ<|cK.t t hK<|by rfl) λi i x=>x
 .exact aW<|ff key (λb p⟨u,d,z⟩=>by subst u z;exact bQ<|cK.t t hK<|by rfl) λi i x=>x
def Wf(t:aD w g σ h)(B:A.units+20<ie){x k y:AV}{v kv:aL}{es:List<|AV×AV}(e:aG w g h x v)(q:jy σ x=I es)(F:dK (jO σ x) k=U)(R:aG w g h k kv)(S:dL es k=I y)(hK:K y σ):
 Run w A s₀ NX g σ h (xJ v kv) (VR w) K:=by
 refineλtk=>qM (sX t e q) λa D n o c b=>?_
 clear e q;subst c;have d:=b.typeIs (s₀:=s₀) tk;unfold xJ;try with_reducible apply jC
 refine aW<|Hr d (Y H)<|aW (Ht d Q4
  (vX Q4 d PySem.entry_dict_getitem ?_ (PySem.args_dict_getitem _ _)))
 show cA _ _ (C2 a kv>>=_) _ _ _;refine aW (GN (by simp only[uL];exact rM B H) b F R λr i f=>?_);rw[S] at f;obtain⟨j,rfl,l⟩:=f;exact bQ ⟨j,H,bQ<|cK.t t hK l⟩
def Wl(t:aD w g σ h)(hu:A.units+20<ie){x k B:AV}{v kv S:aL}{es:List<|AV×AV}(e:aG w g h x v)(q:jy σ x=I es)(hk:dK (jO σ x) k=U)(ek:aG w g h k kv)(ez:aG w g h B S)(R:K ((dL es k).getD B) σ):
 Run w A s₀ NX g σ h (iE (.builtin "dict.get") [v,kv,S]) (VR w) K:=by
 refineλtk=>qM (sX t e q) λa D n o d b=>?_
 subst d;refine vX a52 (b.typeIs tk) F.entry_dict_get ?_ (F.args_dict_get_3 _ _ _);show cA _ _ (C2 a kv>>=_) _ _ _;refine aW (GN (by simp only[uL];exact rM hu H) b hk ek λr i c=>?_);rcases f:dL es k with _|y;.rw[f] at c R;subst c;exact aW<|wpAny_missed_other b.e<|bQ ⟨S,H,cK.t t R ez⟩
 .rw[f] at c R;obtain⟨j,rfl,l⟩:=c;exact bQ ⟨j,H,cK.t t R l⟩
def AI(q:aD w g σ h){l:a7}{c:Nat}{es us:List<|AV×AV}{h':Heap}{o:Obj}{D:Array kj}{n:Nat}(t:σ l=I (.a c es))(B:qZ (g.μ l) h h')(ho:h'.get? (g.μ l)=I o)(F:o.ExactDict)(hd:o.data=.dict D n)(e:eY w g h c us D.toList)(R:cg<|us.map (·.1)):aD w g (σ.u l<|.a c us) h'/\Tr NX g σ h g (σ.u l<|.a c us) h'/\du g h g h':=by
 have E_:=q.GG (ay t l7) B;exact bY (q.i l _ t) λd f=>bY (q.ww (o':=.a c us) t B ⟨d,o,D,n,ho,F,hd,eY.F E_ _ _ _ e,R⟩) λa b=>⟨a,b,E_⟩
def VK(t:aD w g σ h)(hu:A.units+20<ie){l:a7}{c:Nat}{k y:AV}{v kv B:aL}{es:List<|AV×AV}{K:Unit->av->Prop}(e:aG w g h (.d l) v)(hl:σ l=I (.a c es))(F:O es<=aR)(R:dK c k=U)(S:aG w g h k kv)(ey:aG w g h y B)(hK:K ()<|σ.u l<|.a c<|mV es k y):Run w A s₀ NX g σ h (zX v kv B) UR K:=by
 intro tk;obtain⟨rfl,D,n,o,d⟩:=zx t e hl;obtain f:=d.typeIs tk;obtain m:D.size=O es:=by have:=eY.iy d.f;simp at this;exact this.symm
 unfold zX;try with_reducible apply jC
 refine aW<|Hr f (Y H)<|aW (Ht f a5B
  (vX a5B f PySem.entry_dict_setitem (aW<|a5t f ?_)<|PySem.args_dict_setitem _ _ _))
 show cA _ _ (HB (g.μ l) kv B>>=_) _ _ _;apply aW;unfold HB;try with_reducible refine jC ?_
 refine aW (keyHash (by simp only[uL];exact rM hu H) R S λtk=>?_);unfold dictSetHashed;try with_reducible refine jC ?_
 refine aW (CB (s:=cy s₀ h tk) (by simp only[uL];exact rM hu H) d.S d.d d.f d.q R S ?_);clear hu f;rcases q:iQ es k with _|j
 .obtain⟨r,T,_⟩:=AI t (us:=mV es k y) hl (sw h (g.μ l)<|Af (·.push ⟨mr w k,kv,B⟩))
   (Ai _ d.S<|HQ<|Ag d.d _) (d.exact.mapDictKeys _) (Ag d.d _)
   (by rw[Pg y q,Dr];exact eY.rB d.f R S ey)
   (by
    rw[Pg y q,d9,kL] at⊢;refine⟨d.q,by simp,?_⟩;intro a C b u;simp only[lG,Ig,d8] at u;clear R S;subst u
    exactλz=>(ZN q)<|aO z C)
  exact aW<|zS<|QX d.S d.d (hz:=by rw[m];exact my F)<|bQ ⟨.none,H,bQ ⟨(),_,g,_,tk,H,hK,aE,r,T⟩⟩
 .obtain⟨r,T,_⟩:=AI t (us:=mV es k y) hl (sw h (g.μ l)<|Obj.mapDict (·.modify j λe=>{e with val:=B}))
   (Ai _ d.S<|HQ<|a5V d.d _) (d.exact.mapDict _) (a5V d.d _)
   (by rw[Pf y q,show((λx:Array kj=>x.modify j λe=>{e with val:=B}) D).toList=D.toList.modify j λe=>{e with val:=B} from by simp];exact eY.modify d.f ey)
   (by
    rw[Pf y q];rw[(show(es.modify j λp=>(p.1,y)).map (·.1)=es.map (·.1) from by
     apply a6Z;intro i;simp only[nH,List.getElem?_modify];cases es[i]?<;>simp<;>split<;>rfl)];exact d.q)
  exact aW<|zS<|aW<|wpAny_updateDict d.S d.d (wpAny_point<|bQ ⟨.none,H,bQ ⟨(),_,g,_,tk,H,hK,aE,r,T⟩⟩)<|by simp
def Wk(t:aD w g σ h)(hu:A.units+20<ie){l:a7}{c:Nat}{k B:AV}{v kv S:aL}{es:List<|AV×AV}(e:aG w g h (.d l) v)(hl:σ l=I (.a c es))(a0:O es<=aR)(hk:dK c k=U)(ek:aG w g h k kv)(ez:aG w g h B S)(R:K ((dL es k).getD B)<|σ.u l<|.a c<|oB es k):Run w A s₀ NX g σ h (iE (.builtin "dict.pop") [v,kv,S]) (VR w) K:=by
 intro tk;obtain⟨rfl,D,n,o,b⟩:=zx t e hl;have m:D.size=O es:=by have:=eY.iy b.f;simp at this;exact this.symm
 have out:∀tk,cA (MM w) A.in1 (Ry (g.μ l) kv) (λr p=>match r with
  |some en=>∃y,dL es k=I y/\∃h' d,p=cy s₀ h' d/\aD w g (σ.u l<|.a c<|oB es k) h'/\Tr NX g σ h g (σ.u l<|.a c<|oB es k) h'/\aG w g h' y en.val
  |.none=>dL es k=.none/\∃d,p=cy s₀ h d) (λi i=>False) (cy s₀ h tk):=λtk=>by
  unfold Ry;try with_reducible apply jC
  refine aW (keyHash (by simp only[uL];exact rM hu H) hk ek λtk=>aW<|CB (s:=cy s₀ h tk) (by simp only[uL];exact rM hu H) b.S b.d b.f b.q hk ek ?_);rcases q:iQ es k with _|j;.exact bQ ⟨by rw[zy,q];rfl,tk,H⟩
  .obtain J:=BW q;refine FP (eY.S b.f<|kN J) λen L i i i M=>?_;obtain⟨u,T,V⟩:=AI t (us:=oB es k) hl (sw h (g.μ l)<|Af (·.eraseIdxIfInBounds j))
    (Ai _ b.S<|HQ<|Ag b.d _) (b.exact.mapDictKeys _) (Ag b.d _)
    (by rw[Pp q,(show((λx:Array kj=>x.eraseIdxIfInBounds j) D).toList=D.toList.eraseIdx j from by
    simp)];exact eY.erase b.f)
    (Pp q▸List.Nodup.sublist ((List.eraseIdx_sublist es j).map _) b.q)
   refine aW<|Q1 b.S b.d<|(((show D[j]?=I en from by rw[<-AC];exact L)))▸aW (QX b.S b.d (hz:=by rw[m];exact my a0) (bQ ⟨(es[j]).2,by rw[zy,q];simp[kN J],_,tk,H,u,T,aG.F V _ _ M⟩) (by
    rw[Array.eraseIdxIfInBounds,dif_pos<|(ay m J)];simp;exact fA _ 2))
 have absent:∀d,dL es k=.none->cA (MM w) A.in1 (do
  if(C:Option kj).isNone then Rz (g.μ l) kv
  match(C:Option kj),I S with
  |some e,_=>letGo [e.key] [e.val];ret e.val
  |none,I x=>rule "dict.pop.default";ret x
  |none,C=>raiseNew<|<-newExc (.type "KeyError") [kv])
  (λbD p=>∃v,bD=.done (.ret v)/\cK w NX g σ h s₀ (VR w) K v p) (λi i=>False) (cy s₀ h d):=λd E=>by
  refine bY ((λE=>by
  obtain q:iQ es k=none:=by
   rcases q:iQ es k with _|j;.rfl
   .rw[zy,q] at E;simp[kN<|BW q] at E
  refine gl (AI t (us:=oB es k) hl ⟨H,λi i=>H⟩ b.S b.exact b.d (by rw[Pq q];exact b.f)<|by rw[Pq q];exact b.q) λu T i=>⟨u,T⟩) E) λu T=>?_
  obtain R:=E▸R;apply aW;unfold Rz;rw[Z<|b.e▸eS];exact bQ<|aW<|zS<|bQ ⟨S,H,cK.B u T R ez⟩
 have f:∀d,cA (MM w) A.in1 (do
  let io<-Ry (g.μ l) kv
  if io.isNone then Rz (g.μ l) kv
  match io,I S with
  |some e,_=>letGo [e.key] [e.val];ret e.val
  |none,I x=>rule "dict.pop.default";ret x
  |none,C=>rule "dict.pop.keyerror";raiseNew<|<-newExc (.type "KeyError") [kv])
  (λbD p=>∃v,bD=.done (.ret v)/\cK w NX g σ h s₀ (VR w) K v p) (λi i=>False) (cy s₀ h d):=λd=>by
  refine aW<|ff (out d) (λr p P=>?_) λi i x=>x;rcases r with _|en;.obtain⟨E,G,rfl⟩:=P;exact absent G E
  .obtain⟨y,W,h',G,rfl,u,T,X⟩:=P;obtain R:=W▸R;exact aW<|wpAny_letGo<|bQ ⟨en.val,H,cK.B u T R X⟩
 refine vX a51 (b.typeIs tk) F.entry_dict_pop (aW<|aW<|a5t (b.typeIs tk)<|bQ ?_)<|F.args_dict_pop_3 _ _ _;dsimp only;by_cases Q:dA (keyPart kv)=U;.rw[ak Q];exact aW<|bQ<|f _
 .rw[Z Q];refine aW<|Q1 (s:=cy s₀ h tk) b.S b.d<|aW<|bQ ?_;by_cases N:D.isEmpty=U;.rw[ak N];refine aW<|zS<|aW<|bQ<|absent _ ?_;have:=xW.mp (by rw[<-m];simpa using N);rw[this];rfl
  .rw[Z N];exact f _
def aG.B(q:lR x y=U)(e:aG w g h x v)(f:aG w g h y v):x=y:=
 gl (lR.out q) λd b j=>bc (d.j3 e) λas c=>bc (b.j3 f) λbs i=>d.inj b (a5T c _ _ i).1
set_option tactic.hygienic true
open Classical in
def Wb(t:aD w g σ h)(S:A.units+20<ie){x y:AV}{v R:aL}{vs:List AV}(e:aG w g h x v)(q:iL σ x=I vs)(ok:∀B∈vs,lR B y=U)(ey:aG w g h y R){f:Bool->Bool}{F:CmpOp}(ho:(F=.In/\f=id)\/(F=.NotIn/\f=not))(hK:K (.e<|f<|decide<|y∈vs) σ):Run w A s₀ NX g σ h (xL F R v) (VR w) K:=by
 refineλtk=>ox (wQ t e q) λa z n ev e1 k=>?_
 have at_:=λu c=>
  bc (Ie.mp<|Ds.mpr c) λi hi=>aA (aI.Ci k hi) λB hz d=>
   have j:=ok B<|pG hz
   (jp.mpr ⟨λe=>aO e d,aG.B j d⟩:decide (B=y)=decide (aG w g h y u))▸lR.F (A:=A.in1) (s:=cy s₀ h tk) j d ey (by simp only[uL];exact rM S H)
 have any:=gu.mpr<|Array.any_eq_true'.trans (Sq
  ⟨λq=>aA q λu c hd=>bc (Ie.mp<|Ds.mpr c) λi hi=>aA (aI.Ci k hi) λB hz d=>aO (aG.B (ok B<|pG hz) d<|Y hd)<|pG hz,
   λj=>bc (Ie.mp j) λi hi=>aA (aI.S k hi) λu c d=>⟨u,Ds.mp<|pG c,bA d⟩⟩ dT.symm)
 have bD:∀b,b=f (decide<|y∈vs)->cK w NX g σ h s₀ (VR w) K (.bool b) (cy s₀ h tk):=λb l=>ay l<|cK.t t hK H;subst ev;rcases ho with⟨rfl,rfl⟩|⟨rfl,rfl⟩
 .rcases e1 with e1|e1;.exact SeqAt.in_tupleAt _ ⟨_,e1,H,n,H⟩ at_ (bD _ any)
  .exact SeqAt.in_listAt _ e1.isList at_<|bD _ any
 .rcases e1 with e1|e1;.exact SeqAt.notIn_tupleAt _ ⟨_,e1,H,n,H⟩ at_ (bD _<|by rw[any])
  .exact SeqAt.notIn_listAt _ e1.isList at_<|bD _<|by rw[any]
def i!(e:eY w g h 0 es D):∃A!,(∀e∈D,∃k,(tE P0 w).is k e.key=U/\e.hash=(tE P0 w).hash k)/\Pairs (tE P0 w) D A!/\
 A!.map (λp=>AV.a p.1)=es.map (·.1)/\aI w g h (es.map (·.2)) (A!.map (·.2)):=by
 induction es generalizing D with
 |nil=>exact⟨[],ay e ⟨dS,.nil,H,H⟩⟩
 |cons p r d=>
  refine rT e λa b j e1 l e3 e4 m=>vA (d m) λA! n o q x4=>bc (FI e3) λi f=>?_;have c:=(f▸e1:aG w g h (.a i) a.key).BX;refine⟨(i,a.val)::A!,ay j ⟨λe he=>?_,.cons c H o,congr (be Sh f.symm) q,aI.cons e4 x4⟩⟩;rcases cf.mp he with z|he;.exact⟨i,ay z c,ay z<|l.trans<|ay f<|Cf i⟩
  .exact n e he
def To{i}(e:A!.map (λp=>AV.a p.1)=es.map (·.1))(f:aI w g h (es.map (·.2))<|A!.map (·.2))(q:dL es (.a i)=I y):∃v,valueAt A! i=I v/\aG w g h y v:=by
 induction es generalizing A! with
 |nil=>exact cL q
 |cons p r b=>
  induction A! using List.casesOn with
  |nil=>exact Dz e
  |cons a A!=>
   refine bY (oO e) λe1 c=>gy f λd j f0 f1 k=>bY (oO f0) λl m=>?_;unfold valueAt;rw[R8];by_cases z:a.1=i;.rw[bA z];exact⟨a.2,H,fg ((ak<|e1.symm.trans<|be AV.a z).symm.trans q)▸@ay _ d (aG w g h p.2) a.2 l f1⟩
   .rw[bR z];exact b c (ay m k)<|(Z λy=>z<|AV.a.inj<|e1.trans y).symm.trans q
def oP.dictOf{D}(t:oP w g h a 0 es D n o)(tk):∃A!,(cy s₀ h tk).heap.DictOf (tE P0 w) a A!/\A!.map (λp=>AV.a p.1)=es.map (·.1)/\aI w g h (es.map (·.2)) (A!.map (·.2)):=by
 refine vA (i! t.f) λA! d f c x4=>⟨A!,⟨o,D,n,t.S,t.exact,t.d,λe i=>d e<|Ds.mpr i,f,?_⟩,c,x4⟩;have:=t.q;rw[<-c] at this;obtain j:A!.map (λp=>AV.a p.1)=(A!.map (·.1)).map AV.a:=by rw[kM];rfl
 rw[j] at this;exact(Ib.mp this).imp λb e=>b<|by rw[e]
def Lh(t:aD w g σ h)(d:Dt am 7 us)(q:BE σ x=I us)(e:aG w g h x u):∃as,xO h u (.list<|nM us) as:=ox (ue t e (λb c=>by subst c;exact cL q) (by
 induction x using AV.casesOn<;>first|exact q|exact cL q)) λa z n f e1 i=>bc (d.reads i) λas r=>⟨a::as,ay f<|.list e1 H H r⟩
def wR.F(t:aD w g σ h){x y:AV}{u v:aL}{tk:Tok}(q:wR σ x y)(e:aG w g h x u)(f:aG w g h y v)(B:A.units+8<ie):a5R A (cy s₀ h tk) u v true:=by
 obtain key:=λ{p} b i c d=>bc b λas b=>bc i λbs i=>SeqAt.eqv_refl p c▸Rj _ _ A _ u v as bs b i c c (yT B d);rcases q with⟨z,d⟩|⟨us,j,k,d⟩;.have d:=oC.dt 8 x d _ .nil;exact key (d.j3 e) (d.j3<|ay z f) d.t.1 d.t.2
 .have d:=Cw (oC.dt 7) d;exact key (Lh t d j e) (Lh t d k f) d.CD.1<|jS d.CD.2
def u_(t:aD w g σ h)(hu:A.units+8<ie)(b1:S.map (λp=>AV.a p.1)=B.map (·.1))(b2:aI w g h (B.map (·.2))<|S.map (·.2))(e:F.map (λp=>AV.a p.1)=es.map (·.1))(f:aI w g h (es.map (·.2))<|F.map (·.2))(q:∀p∈es,∃R,dL B p.1=I R/\wR σ p.2 R):KeqHits A (cy s₀ h tk) S F true:=by
 induction es generalizing F with
 |nil=>exact ay (lF.mp e) .nil
 |cons p r b=>
  induction F using List.casesOn with
  |nil=>exact Dz e
  |cons a F=>
   exact bY (oO e) λe1 c=>gy f λR d f0 f1 i=>bY (oO f0) λj k=>aA (q p aZ) λy l m=>aA (To b1 b2<|(be (dL B) e1).trans l) λu n o=>KeqHits.hit n (wR.F t m (@ay _ R (aG w g h p.2) a.2 j f1) o hu)<|b c (ay k i) λp s=>q p<|bK _ s
def N8(x)(l):(uf x l).Perm<|x::l:=by
 induction l with
 |nil=>exact .refl _
 |cons y r b=>
  show List.Perm (if x<=y then x::y::r else y::uf x r) _;by_cases z:x<=y;.rw[ak z]
  .rw[Z z];exact(b.cons y).trans<|.swap x y r
def a!(l):(rU l).Perm l:=by
 induction l with
 |nil=>exact .refl _
 |cons x r b=>exact(N8 x<|rU r).trans<|b.cons x
def k_(x)(l)(h:l.Pairwise (·<=·)):(uf x l).Pairwise (·<=·):=by
 induction l with
 |nil=>exact Ia ..
 |cons y r c=>
  refine bY (re.mp h) λb d=>?_;show List.Pairwise _<|if x<=y then x::y::r else y::uf x r;by_cases q:x<=y;.rw[ak q];exact re.mpr ⟨λz hz=>(cf.mp hz).elim (λe=>ay e q) λhz=>jW q<|b z hz,h⟩
  .rw[Z q];exact re.mpr ⟨λz hz=>(cf.mp<|(N8 x r).mem_iff.mp hz).elim (λe=>ay e<|uT<|Do.mp q)<|b z,c d⟩
def a_(l):(rU l).Pairwise (·<=·):=by
 induction l with
 |nil=>exact .nil
 |cons x r b=>exact k_ x _ b
def gS.LD(B:gS w h)(k:∀b o,h.get? b=I o->h'.get? b=I o):gS w h':=
 ⟨λq hq=>k _ _<|B.main q hq,λq hq=>k _ _<|B.c q hq,a6k<|iF<|k _ _<|B.c _<|m9<|Nx w.params⟩
def aD.OO(t:aD w g σ h)(k:∀b o,h.get? b=I o->h'.get? b=I o){a:Addr}(ha:h.get? a=C){o:Obj}(ho:h'.get? a=I o):
 aD w (g.F a) σ h'/\Tr X g σ h (g.F a) σ h'/\du g h (g.F a) h':=by
 have E_:du g h (g.F a) h':=⟨λc x=>.inl x,λc c=>H,λc c=>H,ce _,λa o' c=>k a o'⟩;refine⟨⟨t.c.LD k,λl o' e=>mY.F E_ (t.f l o' e) (k _) o'<|t.i l o' e,
  t.f,t.inj,λl d hz=>?_,t.B,λb hz=>?_,λa ha=>.inl<|t.j a ha⟩,⟨λb o' e c c=>k b o' e,λc x=>.inl x,λc c=>H,λc c=>H,ce _,λc e c=>e,
  λl e f=>aP (t.cI e)<|fw.mpr f,λb hz=>?_,λb o' e=>⟨o',k b o' e⟩⟩,E_⟩
 .rcases hz with q|q;.exact t.e l d q
  .obtain⟨o',e⟩:=t.yO d;have i:g.μ l=a:=q;rw[i,ha] at e;exact cL e
 .rcases hz with q|rfl;.obtain⟨o',e⟩:=t.d b q;exact⟨o',k b o' e⟩
  .exact⟨o,ho⟩
 .rcases hz with q|rfl;.exact .inl q
  .exact .inr<|.inl ha
def aD.S(t:aD w g σ h)(k:∀b o,h.get? b=I o->h'.get? b=I o):aD w g σ h'/\Tr X g σ h g σ h':=⟨⟨t.c.LD k,λl o e=>mY.F ⟨λc x=>x,λc c=>H,λc c=>H,ce _,λa o d=>k a o⟩ (t.f l o e) (k _) o<|t.i l o e,t.f,t.inj,t.e,t.B,λa d=>bc (t.d a d) λo e=>⟨o,k a o e⟩,t.j⟩,t.AR (λb o e c=>k b o e) λb o e c=>⟨o,k b o e⟩⟩
def f_(e:Dc vs ns):aI w g h (ns.map .a) vs:=by
 induction e with
 |nil=>rfl
 |cons n t _ b=>exact aI.cons ⟨t,H⟩ b
def FZ(q:mn (x::r)=I is):∃i js,x=.a i/\is=i::js/\mn r=I js:=by
 induction x using AV.casesOn with
 |a i=>exact aA (H0.mp q) λjs a b=>⟨i,js,H,b.symm,a⟩
 |_=>exact cL q
def K8(q:mn xs=I is)(e:aI w g h xs vs):Dc vs is:=by
 induction xs generalizing is vs with
 |nil=>rw[show vs=[] from e,<-fg q];exact .nil
 |cons x r b=>exact gy (FZ q) λi k f1 c d=>gy e λv us f e1 j=>bc (f1▸e1:aG w g h (.a i) v) λt e3=>by rw[f,c,e3];exact .cons i t<|b d j
def g!{l}(q:mn l=I is):O l=O is:=by
 induction l generalizing is with
 |nil=>rw[<-fg q];rfl
 |cons x r b=>exact gy (FZ q) λi e f c d=>ay c<|be (·+1)<|b d
def h_{acc}(B:O acc=O A!)(F:∀(j:Nat) v,acc[j]?=I v->∃k x,A![j]?=I (k,x)/\(tE P0 w).is k v=U)(q:mn (A!.map λp=>AV.a p.1)=I is):Dc acc is:=by
 induction A! generalizing acc is with
 |nil=>rw[xW.mp B,<-fg q];exact .nil
 |cons p r b=>
  induction acc using List.casesOn with
  |nil=>cases B
  |cons u acc=>
   exact gy (FZ q) λi m f1 c d=>gk (F 0 u H) λk x e f=>bc (Value.isInt_shape f:∃t,u=.int k t) λt g=>by rw[g,((be (·.1)<|fg e).symm.trans (AV.a.inj f1):k=i),c];exact .cons i t<|b (Df B) (λj v l=>F (j+1) v l) d
def UY(ho:s.heap.get? q=I (seqObj "list" vs.toArray 0))(hI:Dc vs ns)(B:O vs<64)(h:∀out t,Dc out.toList t->t.Perm ns->t.Pairwise (·<=·)->Q .none {s with heap:=sortedHeap s.heap q vs out}):cA (MM w) A (iE (.builtin "list.sort") [.ref q]) Q E_ s:=
 vX slot_list_sort ⟨_,ho,H⟩ entry_list_sort (list_sort_tree ho hI B λout t b c d=>⟨_,H,h out t b c d⟩) (args_list_sort _)
def VI(t:aD w g σ h)(R:A.handled=C){x:AV}{v:aL}{es:List<|AV×AV}{is:List Int}(e:aG w g h x v)(q:jy σ x=I es)(cx:jO σ x=0)(F:mn (es.map (·.1))=I is)(B:O is<64)(S:K (.r<|(rU is).map .a) σ):Run w A s₀ NX g σ h (iE (.builtin "sorted") [v]) (VR w) K:=by
 refineλtk=>qM (sX t e q) λa D n o p c=>?_
 subst p;refine eW ((cx▸c).dictOf (s₀:=s₀) tk) λA! J z X=>?_;obtain⟨Y,r⟩:=J.dictAt;obtain i:=ba ..▸g! (z.symm▸F);refine call_function_entry kind_sorted plain_sorted entry_sorted (args_sorted1 _)<|aW<|bQ<|aW<|kdu_collect (kdl_dict (cx▸c).e) R r (my<|BH (aO i.symm B) H) λd s acc u f=>?_;obtain k:O acc.toList=O is:=by rw[Sw,f.1,i]
 refine aW<|Hs ?_ (my<|BH (k.symm▸B) H);obtain ho:(d.push {cls:=.type "list",data:=.seq acc.toList.toArray}).get? d.objs.size=I (seqObj "list" acc.toList.toArray 0):=mZ _ H;refine aW<|jC<|UY ho (h_ f.1 (λj v L=>f.2 j v<|aO AC L)<|z.symm▸F) ((k▸B)) λout M N P Q=>?_;obtain U:=((P.trans (a! is).symm).eq_of_pairwise (λy y y y=>a7c) Q<|a_ is);subst U;obtain⟨V,l⟩:=sortedHeap_at ho;exact gl (t.OO (λb o' G=>by
  obtain m:=iF<|u b o' G;rw[sortedHeap_old (hZ m)<|by rw[oJ];exact tJ m];exact jd _<|u b o' G) (by
  rcases q:h.get? d.objs.size with _|o';.rfl
  .exact aP (iF<|u _ _ q)<|kK _) l) λW T E_=>bQ ⟨_,H,cK.B W T S ⟨_,out,V,H,.inr H,l,f_ N⟩⟩
def YD(r)(b:Int):(r.foldl (λa b=>if b<a then b else a) b∈b::r)/\∀z∈b::r,r.foldl (λa b=>if b<a then b else a) b<=z:=by
 induction r generalizing b with
 |nil=>exact⟨aZ,λz hz=>d8.mp hz▸Ay _⟩
 |cons c r j=>
  obtain f:((if c<b then c else b)<=b/\(if c<b then c else b)<=c)/\((if c<b then c else b)=b\/(if c<b then c else b)=c):=by
   by_cases q:c<b;.rw[ak q];exact⟨⟨uT q,Ay _⟩,.inr H⟩
   .rw[Z q];exact⟨⟨Ay _,rg.mp q⟩,.inl H⟩
  show v9 _ (if c<b then c else b) r∈_/\∀z∈_,v9 _ (if c<b then c else b) r<=z;generalize(if c<b then c else b)=d at f;exact bY (j d) λk g=>⟨(cf.mp k).elim (λe=>f.2.elim (λz=>ay (e.trans z) aZ) λz=>e.trans z▸bK _ aZ) λi=>bK _<|bK _ i,λz hz=>(cf.mp hz).elim (λe=>ay e<|jW (lM g) f.1.1) λhz=>(cf.mp hz).elim (λe=>ay e<|jW (lM g) f.1.2) λhz=>g z<|bK _ hz⟩
noncomputable def GZ(K:Frag)(E!:Addr):Bool:=
 qg K (.ref E!) "__getattribute__"==I (I<|.builtin "object.__getattribute__")&&(qg K (.ref E!) "__getattr__"==I C&&(qg K (.ref E!) "__setattr__"==I (I<|.builtin "object.__setattr__")&&
  (plainOver K E!&&(clsIn K E!).any (·.hasDict))))
def OS(K:Frag)(E!:Addr):Bool:=GB.all λn=>qg K (.ref E!) (cv n)==I C
set_option tactic.hygienic false
def a3k(P):(GZ (KF P) 917&&OS (KF P) 917)=true:=by kernel_rfl
def PV(P)(c):(GZ (KF P) (iR c)&&OS (KF P) (iR c))=true:=by
 match c with
 |0=>exact(by kernel_rfl)
 |1=>exact(by kernel_rfl)
 |2=>exact a3k P
 |_+3=>exact(by kernel_rfl)
def a0E:∀i j,i<50->j<50->f8 i=f8 j->i=j:=by
 obtain h:((cO 50).all λi=>(cO 50).all λj=>!(f8 i==f8 j)||(i==j))=true:=by decide+kernel
 intro i j hi c e;obtain b:=gf.mp (gf.mp h i<|eJ.mpr hi) j<|eJ.mpr c;obtain b:=e▸b;simpa using b
def gS.t(B:gS w h):(KF w.params).In h:=λa o e=>B.c (a,o) (by
 generalize KF w.params=K at e;induction K with
 |nil=>exact cL e
 |cons p r b=>
  rw[oN] at e;rcases q:a==p.1 with _|_;.rw[q] at e;exact bK _<|b e
  .rw[q] at e;exact dV.mp q▸aO (fg e) aZ)
def F5(q:aD w g σ h){l:a7}{v:aL}{c:Nat}{fs:List<|Nat×AV}(e:aG w g h (.d l) v)(t:σ l=I (.d c fs)):
 v=.ref (g.ρ l)/\g.j (g.ρ l)/\∃D n,InstAt h (g.ρ l) (z5 (iR c)<|g.μ l) (iR c) (I<|vY D n)/\iU w g h fs D/\cg (fs.map (·.1))/\c<4:=
 mm (q.i l _ t) λb e1 d f=>gy f λD n e3 e4 i=>⟨e.1,b,D,n,⟨e1,H,H,e3⟩,e4,i,d⟩
def NK{f k}(e:v=.str (f8 k) t)(q:k<50)(B:f<50):v.isStr (f8 f)=decide (k=f):=by
 rw[e];by_cases z:k=f;.rw[z,bA H];exact beq_self_eq_true _
 .rw[bR z];exact beq_eq_false_iff_ne.mpr λw=>z<|a0E k f q B w
def iU.a0L{f}(e:iU w g h fs D)(S:f<50)(q:ut fs f=I y):∃R,D.find? (·.key.isStr<|f8 f)=I R/\aG w g h y R.val:=by
 induction fs generalizing D with
 |nil=>exact cL q
 |cons p r c=>
  refine y5 e λa b t d e1 j e3 e4 i=>ay d ?_;rw[R8,NK e1 e3 S];by_cases z:p.1=f;.rw[bA z];exact⟨a,H,aO (fg<|(ak z).symm.trans q) e4⟩
  .rw[bR z];exact c i<|(Z z).symm.trans q
def aG.a0g(e:aG w g h y v):handedIn v=true:=by
 induction y using AV.casesOn with
 |q=>exact e.elim
 |j=>exact ay e H
 |e b=>exact ay e H
 |a i=>exact bc e λd e=>ay e H
 |f i=>exact bc e λd e=>ay e H
 |B l=>exact gk e λd d e d=>ay e H
 |r l=>exact B1 e λd d d e d=>ay e H
 |g c l=>exact qM e λd d d d e d=>ay e H
 |d l=>exact ay e.1 H
def OT(P)(c){f}(q:f<50):qg (KF P) (.ref<|iR c) (f8 f)=I none:=dV.mp<|gf.mp ((gJ.mp<|PV P c).2) (GB[f]?.getD "") (by
 rw[kN q];exact As q)
def GY(P)(c):qg (KF P) (.ref<|iR c) "__getattribute__"=I (I<|.builtin "object.__getattribute__")/\qg (KF P) (.ref<|iR c) "__getattr__"=I C/\
 qg (KF P) (.ref<|iR c) "__setattr__"=I (I<|.builtin "object.__setattr__")/\plainOver (KF P) (iR c)=U/\(clsIn (KF P)<|iR c).any (·.hasDict)=true:=by
 have:=(gJ.mp<|PV P c).1;unfold GZ at this;simp only[eB] at this;exact o7 this λa b f d e=>⟨dV.mp a,dV.mp b,dV.mp f,d,e⟩
def KA(q:aD w g σ h){l:a7}{v:aL}{c:Nat}{fs:List<|Nat×AV}{f:Nat}{y:AV}{ex:Bool}(e:aG w g h (.d l) v)(B:σ l=I (.d c fs))(t:f<50)(R:ut fs f=I y)(S:K y σ):
 Run w A s₀ NX g σ h (getAttr v (f8 f) ex) (VR w) K:=by
 refineλtk=>rV λb i=>?_
 obtain⟨rfl,_,D,n,j,D!,_,_⟩:=F5 q e B;exact i<|aA (iU.a0L D! t R) λr k d=>o7 (GY w.params c) λm s u x o=>aA (any_some o) λcd p hd=>get_value q.c.t j m (by
  unfold findObj;rw[p,OT w.params c t,a6g];unfold PySem.W.ownOf;rw[hd];show Option.bind (match D.toArray.toList.find? _ with|some e=>_|none=>_) _=_;rw[k];rfl) (aG.a0g d) (cK.t q S d)
def a0w{f}:(oA fs f y).map (·.1)=if f∈fs.map (·.1) then fs.map (·.1) else fs.map (·.1)++[f]:=by
 induction fs with
 |nil=>exact(Z jU).symm
 |cons p r b=>
  show(if p.1=f then(p.1,y)::r else p::oA r f y).map (·.1)=_;by_cases z:p.1=f;.rw[ak z,ak<|aO z aZ];rfl
  .rw[Z z,lG,b];by_cases q:f∈r.map (·.1);.rw[ak q,ak<|bK _ q];rfl
   .rw[Z q,Z λm=>(cf.mp m).elim (λe=>z e.symm) q];rfl
def Xy(P:fM)(D:List kj)(f:Nat)(t:Tok)(v:aL)(o:Option Nat):List DictEntry:=o.rec (D++[⟨Ac P<|f8 f,.str (f8 f) t,v⟩]) λi=>D.modify i λe=>{e with val:=v}
def iU.B{f}(e:iU w g h fs D)(q:f<50)(R:aG w g h y v):iU w g h (oA fs f y)<|Xy w.params D f t v<|D.findIdx? (·.key.isStr<|f8 f):=by
 induction fs generalizing D with
 |nil=>rw[show D=[] from e];exact⟨_,[],t,H,H,H,q,R,H⟩
 |cons p r c=>
  refine y5 e λa b d l e1 j e3 e4 k=>ay l ?_;show iU w g h (if p.1=f then(p.1,y)::r else p::oA r f y) _;rw[Il,NK e1 e3 q];by_cases z:p.1=f;.rw[ak z,bA z];exact⟨_,b,d,H,e1,j,e3,R,k⟩
  .rw[Z z,bR z];obtain c:=c k;generalize b.findIdx? (·.key.isStr<|f8 f)=o at c⊢;induction o using Option.casesOn with
   |none=>exact⟨a,_,d,H,e1,j,e3,e4,c⟩
   |some i=>exact⟨a,_,d,H,e1,j,e3,e4,c⟩
def iU.strs(e:iU w g h fs D):D.any (·.refKey)=false:=by
 induction fs generalizing D with
 |nil=>exact ay e H
 |cons p r d=>exact y5 e λa b j f e1 c c c i=>by rw[f,sD,d i,sE];unfold DictEntry.refKey;rw[e1]
def iU.aT(e:iU w g h fs D):O fs=O D:=by
 induction fs generalizing D with
 |nil=>exact ay e H
 |cons p r d=>exact y5 e λa b j f c c c c i=>ay f<|be (·+1)<|d i
def Kw{f:Nat}(B:aD w g σ h){l:a7}{v R:aL}{c:Nat}{K:Unit->av->Prop}(e:aG w g h (.d l) v)(hl:σ l=I (.d c fs))(hf:f<50)(S:O fs<=100)(ey:aG w g h y R)(hK:K ()<|σ.u l<|.d c<|oA fs f y):Run w A s₀ NX g σ h (setAttr v (f8 f) R) UR K:=by
 refineλtk=>rV λd V=>?_
 obtain⟨rfl,m,D,n,p,D!,P,C⟩:=F5 B e hl;refine V<|o7 (GY w.params c) λp1 p2 W X Y=>aA (any_some Y) λcd hc hd=>?_;obtain j:=p.dict;refine set_plain B.c.t p W<|osa_open (s:=cy s₀ h<|tk+1) B.c.t p X (by
  unfold takerIn;rw[OT w.params c hf];rfl) λb=>?_
 obtain r:∃k x,Rn (f8 f) (Ac w.params<|f8 f) (.str (f8 f)<|tk+1) R (vY D n)=vY k x/\iU w g h (oA fs f y) k/\O k<=O D+1:=by
  rw[Obj.putName_eq];obtain J:=iU.B (t:=tk+1) D! hf ey;unfold Obj.putNameByArray vY;dsimp only;rw[Qt];generalize D.findIdx? (·.key.isStr<|f8 f)=o at J⊢;induction o using Option.casesOn with
  |none=>exact⟨D++[_],n+1,by simp,J,by simp⟩
  |some i=>exact⟨D.modify i λe=>{e with val:=R},n,by simp,J,by simp⟩
 refine gy r λk x u L M=>?_;obtain Q:=sw h (g.μ l)<|Rn (f8 f) (Ac w.params<|f8 f) (.str (f8 f)<|tk+1) R;obtain U:(h.update (g.μ l)<|Rn (f8 f) (Ac w.params<|f8 f) (.str (f8 f)<|tk+1) R).get? (g.μ l)=I (vY k x):=by
  rw[<-u];exact Ai _ j<|by rw[u];rfl
 obtain E_:=B.GG (ay hl l7) Q;obtain⟨I',T⟩:=B.ww (o':=.d c<|oA fs f y) hl Q ⟨m,E_.cT _ _ m p.at_,C,k,x,U,iU.F E_ _ _ L,(by
  rw[a0w];by_cases q:f∈fs.map (·.1);.rw[ak q];exact P
  .rw[Z q];exact kL.mpr ⟨P,fh.mpr ⟨jU,.nil⟩,λa ha b hb z=>q<|d8.mp hb▸z▸ha⟩)⟩
 refine aW<|bQ<|aW<|aW<|wpAny_loadPart p.at_<|aW<|(looks_clsIn B.c.t hc).here ?_;rw[hd];refine bQ<|aW<|bQ<|aW<|aW<|aW<|wpAny_askSetting<|bQ<|aW<|wpAny_mkText<|aW<|wpAny_loadPart j ?_;dsimp only;obtain N:(!D.toArray.any (·.key.isStr<|f8 f)&&D.toArray.any (·.refKey))=false:=by
  obtain this:D.toArray.any (·.refKey)=false:=by rw[<-a7o,a6D];exact iU.strs D!
  rw[this,wg]
 rw[aRefKeyMayBeTheName_at,N];exact wpAny_updatePart j<|aW<|wpAny_lookBehind U (pastItsLine_dict<|by rw[a6H,sizeLine_eq];exact aV M<|jS<|bG (aO (iU.aT D!) S) H)<|bQ ⟨(),_,g,_,_,H,hK,aE,I',T⟩
structure Cx where
 a:List (Str×vZ)
 V:List (Str×Nat)
def OV(w:cR)(g:Gh)(h:Heap)(x:AV)(o:Option aL):Prop:=x=.q\/∃v,o=I v/\aG w g h x v
structure FR(w:cR)(g:Gh)(σ:av)(h:Heap)(env:Env)(cx:Cx)(L:List AV):Prop where
 e:env.scope.kind=.function
 j:env.scope.names=cx.a
 f:env.globals=lB
 n:env.builtins=tG
 eX:1100<=env.locals
 R:fL g σ h env.locals
 d:∃m,h.Ns env.locals m/\∀x i,cx.V.lookup x=some i->cx.a.lookup x=some .local->OV w g h (dg L i) (m x)
 a:∀x i,cx.V.lookup x=some i->cx.a.lookup x=some .cell\/cx.a.lookup x=some .free->∃c o,env.cells.lookup x=some c/\h.IsCell c o/\OV w g h (dg L i) o/\fL g σ h c/\1100<=c
 apart:∀x y c,env.cells.lookup x=some c->env.cells.lookup y=some c->x=y
 vm:∀x c,env.cells.lookup x=some c->c≠env.locals
 ex:∀x c,env.cells.lookup x=some c->∃o,h.get? c=some o
theorem OV.F(E_:du g h g' h'){x:AV}{o:Option aL}(e:OV w g h x o):OV w g' h' x o:=e.elim .inl λc=>aA c λv a b=>.inr ⟨v,a,aG.F E_ _ _ b⟩
theorem FR.q(D!:FR w g σ h env cx L)(t:aD w g σ h)(T:Tr NX g σ h g' σ' h'):FR w g' σ' h' env cx L:=by
 have E_:=T.t t;have j:=λ{a:Addr}(p:fL g σ h a)=>T.R p λz=>z;have k:=λ{a:Addr} p{o:Obj}(e:h.get? a=I o)=>T.S p (λz=>z) e;refine⟨D!.e,D!.j,D!.f,D!.n,D!.eX,j D!.R,aA D!.d λm l n=>⟨m,l.at λo=>k D!.R,λx i b d=>OV.F E_<|n x i b d⟩,λx i b d=>?_,D!.apart,D!.vm,λx c e=>bc (D!.ex x c e) λo ho=>T.d c o ho⟩;obtain⟨c,o,q,⟨r,s,f⟩,u,h4,v⟩:=D!.a x i b d;exact⟨c,o,q,⟨r,k h4 s,f⟩,OV.F E_ u,j h4,v⟩
theorem FR.kindOf(D!:FR w g σ h env cx L)(x):env.kindOf x=cx.a.lookup x:=by
 unfold Env.kindOf;rw[<-D!.j]
def VF(D!:FR w g σ h env cx L)(q:aD w g σ h){x:Str}{i:Nat}{p:Pos}(t:cx.V.lookup x=I i)(hs:cx.a.lookup x=I .local\/cx.a.lookup x=I .cell\/cx.a.lookup x=I .free)(hd:(x==("__debug__":Str))=am)(S:(x==("__classdict__":Str))=am)(B:dg L i≠.q)(R:K (dg L i) σ):Run w A s₀ NX g σ h (eval (.Name x p) env) (VR w) K:=by
 refineλtk=>wpAny_Name ?_ hd
 have b:=D!.kindOf x;rcases hs with hs|hs|hs
 .obtain⟨m,k,l⟩:=D!.d;rcases l x i t hs with z|⟨v,e,r⟩;.exact aP z B
  .exact wpAny_loadName_local D!.e (b.trans hs) k e<|cK.t q R r
 .obtain⟨c,o,d,f,j,_⟩:=D!.a x i t<|.inl hs;rcases j with z|⟨v,e,r⟩;.exact aP z B
  .subst e;exact wpAny_loadName_cell D!.e (b.trans hs) d f<|cK.t q R r
 .obtain⟨c,o,d,f,j,_⟩:=D!.a x i t<|.inr hs;rcases j with z|⟨v,e,r⟩;.exact aP z B
  .subst e;exact wpAny_loadName_free D!.e (b.trans hs) d f (cK.t q R r) S
def Mp(P):(ip (gp P) (iX P) (i7 P)<|f9 P).isNs lB=U/\(ip (gp P) (iX P) (i7 P)<|f9 P).isNs tG=true:=⟨by kernel_rfl,by kernel_rfl⟩
noncomputable abbrev ki(i:Int):PE:=.k<|.a i
noncomputable abbrev V0:PE:=.v 0
noncomputable abbrev V1:PE:=.v 1
noncomputable abbrev V2:PE:=.v 2
noncomputable abbrev V3:PE:=.v 3
noncomputable abbrev V4:PE:=.v 4
noncomputable abbrev V5:PE:=.v 5
noncomputable abbrev V6:PE:=.v 6
noncomputable abbrev V7:PE:=.v 7
noncomputable abbrev V8:PE:=.v 8
noncomputable abbrev V9:PE:=.v 9
noncomputable abbrev iB:PE:=.v 10
noncomputable abbrev jP:PE:=.v 11
noncomputable abbrev k7:PE:=.v 12
abbrev N0:PE:=ki 0
abbrev N1:PE:=ki 1
abbrev N2:PE:=ki 2
abbrev N3:PE:=ki 3
abbrev N4:PE:=ki 4
noncomputable abbrev gi(i:Int):PE:=.g<|.a i
noncomputable abbrev kT:PE:=.k<|.e U
noncomputable abbrev kF:PE:=.k<|.e am
noncomputable def VD:Str:=cv "N"
noncomputable def Kr:Str:=cv "TUV"
noncomputable def Kq:Str:=cv "ab"
noncomputable def Kp:Str:=cv "any"
noncomputable def oT:Str:=cv "bounds"
noncomputable def j1:Str:=cv "count"
noncomputable def qD:Str:=cv "defaults"
noncomputable def VC:Str:=cv "error"
noncomputable def mf:Str:=cv "logs"
noncomputable def AY:Str:=cv "never"
noncomputable def Ko:Str:=cv "null"
noncomputable def Km:Str:=cv "number"
noncomputable def VB:Str:=cv "object"
noncomputable def Kl:Str:=cv "string"
noncomputable def pQ:Str:=cv "top"
noncomputable def Kk:Str:=cv "undefined"
noncomputable def Kj:Str:=cv "unknown"
noncomputable def Vz:Str:=cv "void"
def Cj:AV:=(AV.B [AV.B [AV.a 1,AV.f Kp],AV.B [AV.a 1,AV.f Kj],AV.B [AV.a 1,AV.f AY],AV.B [AV.a 1,AV.f Vz],AV.B [AV.a 1,AV.f Kk],AV.B [AV.a 1,AV.f Ko],AV.B [AV.a 1,AV.f Kl],AV.B [AV.a 1,AV.f Km],AV.B [AV.a 2,AV.a 0,AV.a 0],AV.B [AV.a 2,AV.a 1,AV.a 0],AV.B [AV.a 1,AV.f VB],AV.B [AV.a 8,AV.B [],AV.B [],AV.B [],AV.B [],AV.B [],AV.a 0],AV.B [AV.a 6,AV.B [AV.a 8,AV.a 9]],AV.B [AV.a 1,AV.f VC],AV.B [AV.a 2,AV.a 0,AV.a 1],AV.B [AV.a 2,AV.a 1,AV.a 1]])
noncomputable def Gw:AV:=(AV.B [AV.a 2,AV.a 3,AV.a 4,AV.a 5,AV.a 8])
noncomputable def OI:AV:=(AV.B [AV.a 2,AV.a 3,AV.a 4,AV.a 5])
noncomputable def OJ:AV:=(AV.g 0 [((AV.a 3),(AV.a 6)),((AV.a 4),(AV.a 5)),((AV.a 5),(AV.a 4)),((AV.a 6),(AV.a 1)),((AV.a 7),(AV.a 2)),((AV.a 10),(AV.a 7))])
noncomputable def OH:AV:=(AV.B [AV.a 8,AV.a 9,AV.a 11,AV.a 12,AV.a 13])
noncomputable def OF:AV:=(AV.B [AV.a 16,AV.a 64,AV.a 1,AV.a 512,AV.a 48,AV.a 256,AV.a 80,AV.a 32,AV.a 1026,AV.a 4,AV.a 0,AV.a 2064,AV.a 8192,AV.a 4096,AV.a 130,AV.a 3072])
noncomputable def OG:AV:=(AV.B [AV.a 0,AV.a 0,AV.a 0,AV.a 1,AV.a 256,AV.a 5,AV.a 2050])
abbrev Fu:List PS:=[.l<|.A V0 7 [V1]]
def PH:FD:=⟨1,[],2,
 [.j V0 0<|.L 10 [],
  .j V0 1 (.w 11 2),
  .j V0 2 (.r [.k AV.j]),
  .j V0 3 (.L 12 []),
  .j V0 4 (.L 13 []),
  .j V0 5 (.L 14 []),
  .j V0 6 (.w 15 0),
  .j V0 7 (.w 16 0),
  .j V0 8 N0,
  .j V0 9 N0,
  .h (.B 1) (.g Cj)
   Fu]⟩
def PG:FD:=⟨2,[],3,
 [.d (.h .a V1<|.p V0 1)
  [.c<|.n (.p V0 1) V1]
  [],
  .g 2 (.aT<|.p V0 0),
  .l (.append (.p V0 0) V1),
  .m (.p V0 1) V1 V2,
  .c V2]⟩
def PA:FD:=⟨2,[],2,
 [.c<|.n (.n (.p V0 0) V1) N0]⟩
def a1u:FD:=⟨3,[AV.a 0],3,
 [.c<|.A V0 7 [.B [gi 3,V1,V2]]]⟩
def a1K:FD:=⟨3,[AV.a 0],3,
 [.c<|.A V0 7 [.B [gi 4,V1,V2]]]⟩
def a1M:FD:=⟨4,[AV.a<|-1,AV.a<|-1],5,
 [.g 4<|.aT<|.p V0 3,
  .l (.append (.p V0 3) V2),
  .l (.append (.p V0 4) V3),
  .l (.append (.p V0 5) V1),
  .c (.A V0 7 [.B [gi 10,V4]])]⟩
def Pz:FD:=⟨2,[],3,
 [.d (.h .eq V1<|gi 2)
  [.c<|.B []]
  [],
  .g 2 (.n (.p V0 0) V1),
  .d (.h .eq (.n V2 N0)<|gi 6)
   [.c<|.n V2 N1]
   [],
  .c (.B [V1])]⟩
def Ps:FD:=⟨1,[],2,
 [.g 1<|.n V0 N0,
  .d (.y (.h .eq V1<|gi 3)<|.h .eq V1<|gi 18)
   [.c<|gi 6]
   [],
  .d (.h .eq V1<|gi 4)
   [.c<|gi 7]
   [],
  .d (.h .eq V1<|gi 5)
   [.c .N]
   [],
  .c (.F N1)]⟩
def Py:FD:=⟨2,[],3,
 [.g 2<|.n (.p V0 0) V1,
  .d (.u (.h .a (.n V2 N0)<|.g Gw)<|.h .eq (.n V2<|.F N1) N1)
   [.c<|.S (.p V0 1) (.q .add (.u5 V2<|.F N1)<|.B [N0])<|.F N1]
   [],
  .c (.F N1)]⟩
def PB:FD:=⟨1,[],1,
 [.d (.u (.y (.h .a (gi 8) V0)<|.h .a (gi 14) V0)<|.y (.h .a (gi 9) V0)<|.h .a (gi 15) V0)
  [.m V0 (gi 8) N1,
   .m V0 (gi 9) N1]
  []]⟩
def Px:FD:=⟨3,[],3,
 [.d (.h .a (.j 8 [V0,V2]) V1)
  [.c kF]
  [],
  .c (.h .b (.j 7 [.n (.p V0 0) V2]) V1)]⟩
def a1s:FD:=⟨1,[],2,
 [.h (.B 1) (.B [gi 0,gi 13,gi 1])
  [.d (.h .a V1 V0)
   [.c V1]
   []],
  .c (.F N1)]⟩
abbrev Fs:List PS:=[.m V2 V4 N1]
abbrev Ft:List PS:=[.h (.B 4) (.j 6 [V0,V3]) Fs]
def a1r:FD:=⟨2,[],8,
 [.g 2<|.w 17 0,
  .h (.B 3) V1
   Ft,
  .u 2,
  .g 5 (.j 11 [V2]),
  .d (.h .ge V5 N0)
   [.c V5]
   [],
  .l (.j 9 [V2]),
  .g 6 (.z (.B 7) (.sorted V2) (I<|.j 10 [V0,V2,V7]) V7),
  .d (.K V6)
   [.c<|gi 2]
   [],
  .d (.h .eq (.aT V6) N1)
   [.c<|.n V6 N0]
   [],
  .d (.h .gt (.aT V6)<|gi 400)
   [.N]
   [],
  .c (.A V0 7 [.B [gi 6,.tuple V6]])]⟩
def PC:FD:=⟨2,[],2,
 [.c<|.h .a (.n (.n (.p V0 0) V1) N0)<|.g OI]⟩
def GR:FD:=⟨2,[],3,
 [.g 2<|.n (.p V0 0) V1,
  .c (.u (.h .a (.n V2 N0)<|.g Gw)<|.h .eq (.n V2<|.F N1) N1)]⟩
def GQ:FD:=⟨2,[],2,
 [.d (.j 14 [V0,V1])
  [.c<|.A V0 7 [.q .add (.u5 (.n (.p V0 0) V1)<|.F N1)<|.B [N0]]]
  [],
  .c V1]⟩
def a1E:FD:=⟨2,[],3,
 [.d (.h .eq (.j 2 [V0,V1])<|gi 6)
  [.c<|.j 12 [V0,.z (.B 2) (.j 6 [V0,V1]) C<|.j 15 [V0,V2]]]
  [],
  .c (.j 15 [V0,V1])]⟩
def Pu:FD:=⟨2,[],4,
 [.g 2<|.n (.p V0 0) V1,
  .d (.h .eq (.n V2 N0)<|gi 2)
   [.c<|gi 12]
   [],
  .d (.h .eq (.n V2 N0)<|gi 5)
   [.N]
   [],
  .g 3 (.j 7 [V2]),
  .c (.D (.h .ge V3 N0) V3 V1)]⟩
def a2h:FD:=⟨2,[],3,
 [.c<|.j 12 [V0,.z (.B 2) (.j 6 [V0,V1]) C<|.j 17 [V0,V2]]]⟩
def a16:FD:=⟨2,[],5,
 [.g 2<|.n (.p V0 0) V1,
  .g 3 (.n V2 N0),
  .d (.h .eq V3<|gi 1)
   [.c<|.S (.g OJ) V1<|gi 0]
   [],
  .d (.h .eq V3<|gi 2)
   [.c<|gi 3]
   [],
  .d (.h .a V3<|.g OH)
   [.c<|gi 7]
   [],
  .d (.h .eq V3<|gi 6)
   [.N]
   [],
  .d (.h .eq V3<|gi 7)
   [.N]
   [],
  .g 4 (.j 7 [V2]),
  .d (.h .lt V4 N0)
   [.c<|gi 0]
   [],
  .c (.D (.h .eq V4<|gi 6) (gi 1)<|gi 2)]⟩
def Pw:FD:=⟨3,[],4,
 [.d (.h .ne (.n V1 N0)<|gi 5)
  [.c kF]
  [],
  .N,
  .N]⟩
abbrev M7:List PS:=[.g 5<|.n (.p V0 0) V4,.g 6<|.y (.h .a V4 V3)<|.y (.h .a (.j 7 [V5]) V3)<|.j 20 [V0,V5,V3],.d (.u (.K V6)<|.K<|.u (.h .eq V4<|gi 4)<|.h .a (gi 3) V3) [.c kF] []]
def a1q:FD:=⟨3,[],7,
 [.d (.y (.h .eq V2<|gi 0)<|.y (.h .eq V2<|gi 1)<|.h .eq V2<|gi 13)
  [.c kT]
  [],
  .g 3 (.j 6 [V0,.j 16 [V0,V2]]),
  .h (.B 4) (.j 6 [V0,.j 16 [V0,V1]])
   M7,
  .c kT]⟩
def Pr:FD:=⟨2,[],2,
 [.d (.u (.j 13 [V0,V1])<|.j 14 [V0,V1])
  [.c<|.j 17 [V0,V1]]
  [],
  .c V1]⟩
def a1o:FD:=⟨2,[],3,
 [.c<|.j 12 [V0,.z (.B 2) (.j 6 [V0,V1]) C<|.j 22 [V0,V2]]]⟩
def a2Q:FD:=⟨3,[],4,
 [.c<|.z (.B 3) (.j 6 [V1,V2]) (I<|.h .eq (.n (.n (.p V1 0) V3) N0)<|gi 10)<|.n (.n (.p V1 0) V3) N1]⟩
abbrev Fl:List PS:=[.g 6<|.n (.p (.p V1 10) 0) V5,.l<|.append V4<|.D (.h .eq (.n V6 N0)<|gi 10) (.S V3 (.n V6 N1) V5) V5]
def a2P:FD:=⟨4,[],7,
 [.g 4<|.L 18 [],
  .h (.B 5) (.j 6 [.p V1 10,V2])
   Fl,
  .u 4,
  .c (.j 12 [.p V1 10,V4])]⟩
def a2O:FD:=⟨3,[],3,
 [.c V2]⟩
def PJ:FD:=⟨3,[],3,
 [.j V0 11 V1,
  .j V0 12 (.tuple V2),
  .j V0 13 (.w 19 0),
  .j V0 14 (.w 20 0),
  .j V0 15 (.w 21 0),
  .j V0 16 (.w 22 0),
  .j V0 17 (.w 23 0),
  .j V0 18 (.w 24 0),
  .j V0 19 (.F N1),
  .j V0 20 (.w 25 0),
  .j V0 21 (.w 26 0),
  .j V0 22 (.w 27 2),
  .j V0 23 kF,
  .j V0 24 (.w 28 0),
  .j V0 25 (.new 3 29 []),
  .j V0 26 (.F N1),
  .j V0 27 (.F N1),
  .j V0 28 (.w 30 0),
  .j V0 29 (.tuple V2),
  .j V0 30 (.F N1),
  .j V0 31 N0,
  .j V0 32 N0,
  .j V0 33 N0,
  .j V0 34 N0,
  .j V0 35 (gi 1024),
  .j V0 36 N0,
  .j V0 37 N0,
  .j V0 38 (.w 31 0),
  .j V0 39 (.w 32 0),
  .j V0 40 (.w 33 0),
  .j V0 41 (.w 34 2),
  .j V0 42 (.w 35 2),
  .j V0 43 (.w 36 0),
  .j V0 44 N0,
  .j V0 45 (.L 37 []),
  .j V0 46 (.w 38 0)]⟩
def a2S:FD:=⟨4,[],4,
 [.l<|.j 40 [V0,V1,V2,V3]]⟩
def a2T:FD:=⟨4,[],4,
 [.p V0 33 .add N1,
  .l (.j 40 [V0,V1,V2,V3]),
  .p V0 33 .sub N1]⟩
def a2R:FD:=⟨4,[],4,
 [.j V0 31<|.q .sub N1<|.p V0 31,
  .l (.A V0 1 [V1,V2,V3]),
  .j V0 31 (.q .sub N1<|.p V0 31)]⟩
abbrev M2:List PS:=[.d (.h .a V3<|.p V0 29) [.g 2 kT] []]
def a1W:FD:=⟨2,[],4,
 [.d (.h .b V1<|.p V0 40)
  [.g 2 kF,
   .h (.B 3) (.A (.p V0 25) 6 [.p (.p V0 11) 10,V1])
    M2,
   .m (.p V0 40) V1 V2]
  [],
  .c (.n (.p V0 40) V1)]⟩
abbrev M1:List PS:=[.d (.j 32 [V0,V4,.q .add V2 N1]) [.c kT] []]
def PD:FD:=⟨3,[AV.a 0],7,
 [.g 1<|.A V0 3 [V1],
  .g 3 (.n (.p (.p V0 10) 0) V1),
  .d (.h .gt V2<|gi 12)
   [.c kF]
   [],
  .d (.y (.h .eq (.n V3 N0)<|gi 6)<|.h .eq (.n V3 N0)<|gi 7)
   [.h (.B 4) (.n V3 N1)
    M1,
    .c kF]
   [],
  .d (.y (.h .eq (.n V3 N0)<|gi 14)<|.h .eq (.n V3 N0)<|gi 18)
   [.c kT]
   [],
  .d (.y (.h .eq (.n V3 N0)<|gi 16)<|.y (.h .eq (.n V3 N0)<|gi 15)<|.h .eq (.n V3 N0)<|gi 10)
   [.g 5<|.A V0 0 [V1],
    .c (.u (.h .ne V5 V1)<|.j 32 [V0,V5,.q .add V2 N1])]
   [],
  .g 6 (.j 19 [.p V0 10,V1]),
  .c (.u (.h .ne V6<|gi 7)<|.h .ne V6<|gi 0)]⟩
def a1S:FD:=⟨2,[],2,
 [.d (.y (.h .lt V1 N0)<|.h .lt (.n (.p (.p (.p V0 11) 10) 3) V1) N0)
  [.c kF]
  [],
  .c (.j 32 [.p V0 11,.A (.p V0 11) 3 [.n (.p (.p (.p V0 11) 10) 3) V1]])]⟩
def a15:FD:=⟨2,[],3,
 [.h (.B 2) (.A (.p V0 25) 6 [.p (.p V0 11) 10,V1])
  [.N],
  .c kF]⟩
def a11:FD:=⟨2,[],5,
 [.g 2<|.z (.B 4) (.p V0 21) C<|.n (.n (.p (.p (.p V0 11) 10) 0)<|.n (.p V0 21) V4) N1,
  .h (.B 3) (.D V2 (.A (.p V0 25) 6 [.p (.p V0 11) 10,V1])<|.B [])
   [.d (.h .a V3 V2)
    [.c kT]
    []],
  .c kF]⟩
abbrev M0:List PS:=[.d (.j 36 [V0,V5,V2,V3]) [.c kT] []]
def PF:FD:=⟨4,[AV.a 0],6,
 [.d (.h .lt V1 N0)
  [.c kF]
  [],
  .g 4 (.n (.p (.p V0 10) 0)<|.A V0 3 [V1]),
  .d (.h .eq (.n V4 N0)<|gi 10)
   [.c<|.h .eq (.n V4 N1) V2]
   [],
  .d (.y (.h .eq (.n V4 N0)<|gi 6)<|.h .eq (.n V4 N0)<|gi 7)
   [.h (.B 5) (.n V4 N1)
    M0,
    .c kF]
   [],
  .d (.u (.h .eq (.n V4 N0)<|gi 16)<|.h .lt V3<|gi 3)
   [.N]
   [],
  .c kF]⟩
def a2g:FD:=⟨3,[],4,
 [.g 3<|.S (.p V0 18) V1<|gi 1024,
  .d (.h .lt V2 V3)
   [.m (.p V0 18) V1 V2,
    .l (.P (.p V0 16) V1<|.k AV.j),
    .l (.P (.p V0 17) V1<|.k AV.j)]
   [],
  .c (.h .le V2 V3)]⟩
def a1H:FD:=⟨4,[],5,
 [.d (.h .eq V2<|gi 1)
  [.c<|.k AV.j]
  [],
  .d (.j 34 [V0,V2])
   [.N]
   [.d (.K<|.j 37 [V0,V1,V3])
    [.c<|.k AV.j]
    [.d (.u (.p V0 31)<|.K<|.p V0 32)
     [.N,
      .N]
     [.g 4<|.p V0 16,
      .m (.p V0 16) V1 (.D (.h .a V1 V4) (.j 12 [.p (.p V0 11) 10,.B [.n V4 V1,V2]]) V2)]]]]⟩
def a1I:FD:=⟨4,[],5,
 [.d (.h .b V1<|.p V0 12)
  [.c<|.k AV.j]
  [],
  .d (.h .lt V3<|.p V0 35)
   [.j V0 35 V3]
   [],
  .d (.h .a V1<|.p V0 15)
   [.c<|.k AV.j]
   [],
  .j V0 43 (.w 39 0),
  .d (.q .a V3<|gi 16)
   [.l<|.j 38 [V0,V1,V2,V3],
    .c (.k AV.j)]
   [],
  .d (.j 35 [V0,V2])
   [.c<|.k AV.j]
   [],
  .d (.h .lt V3<|.S (.p V0 39) V1<|gi 1024)
   [.m (.p V0 39) V1 V3,
    .l (.P (.p V0 38) V1<|.k AV.j)]
   [],
  .d (.h .gt (.p V0 33) N0)
   [.d (.K<|.j 36 [.p V0 11,.p V0 19,V1])
    [.m (.p V0 38) V1 N1]
    [],
    .d (.K<|.j 33 [V0,V1])
     [.g 2<|.j 23 [.p (.p V0 11) 10,V2]]
     []]
   [],
  .g 4 (.D (.u (.p V0 31)<|.K<|.p V0 32) (.p V0 14)<|.p V0 13),
  .d (.h .b V1 V4)
   [.m V4 V1<|.L 40 []]
   [],
  .d (.u (.p V0 23)<|.u (.h .eq (.p V0 33) N0) .N)
   [.m (.p V0 22) (.B [V1,V2]) N1]
   [.d (.K<|.p V0 23)
    [.l<|.P (.p V0 22) (.B [V1,V2])<|.k AV.j]
    []],
  .d (.h .b (.B [V2,V3])<|.n V4 V1)
   [.l<|.append (.n V4 V1)<|.B [V2,V3]]
   []]⟩
def a10:FD:=⟨4,[],4,
 [.d (.y (.h .lt V1 N0)<|.K<|.j 31 [V0,V2])
  [.c<|.k AV.j]
  [],
  .d (.h .eq V2<|.p V0 30)
   [.l<|.j 39 [V0,gi<|-2,V1,V3],
    .c (.k AV.j)]
   [],
  .p V0 37 .add N1,
  .d (.y (.h .gt (.p V0 33)<|gi 12)<|.y (.h .ge (.p V0 34)<|gi 40)<|.h .gt (.p V0 37)<|gi 20000)
   [.p V0 36 .add N1,
    .c (.k AV.j)]
   [],
  .d (.h .eq (.p V0 34) N0)
   [.j V0 19<|.D (.h .eq (.p V0 33) N0) V2<|.F N1]
   [],
  .p V0 34 .add N1,
  .l (.j 41 [V0,.A (.p V0 11) 3 [V1],.A (.p V0 11) 3 [V2],V3]),
  .p V0 34 .sub N1]⟩
def a1Y:FD:=⟨4,[],5,
 [.g 4<|.n (.p (.p (.p V0 11) 10) 0) V2,
  .d (.h .eq (.n V4 N0)<|gi 10)
   [.l<|.j 39 [V0,.n V4 N1,V1,V3]]
   [.d (.h .eq V1<|gi 13)
    [.N]
    [.d (.h .eq (.n V4 N0)<|gi 6)
     [.l<|.j 48 [V0,V1,V2,V3]]
     [.d (.h .a (.n V4 N0)<|.p V0 28)
      [.N]
      []]]]]⟩
def a1V:FD:=⟨2,[],3,
 [.g 2<|.n (.p (.p (.p V0 11) 10) 0) V1,
  .c (.y (.h .eq V1<|.p V0 30)<|.u (.h .eq (.n V2 N0)<|gi 10)<|.h .a (.n V2 N1)<|.p V0 12)]⟩
def a1B:FD:=⟨3,[],4,
 [.g 1<|.j 16 [V0,V1],
  .d (.h .eq V1 V2)
   [.c kT]
   [],
  .g 3 (.j 2 [V0,V1]),
  .d (.h .eq V2<|gi 6)
   [.c<|.y (.h .eq V3<|gi 3)<|.u (.h .eq V3<|gi 5)<|.h .eq (.j 19 [V0,V1])<|gi 1]
   [],
  .c (.u (.h .eq V2<|gi 7)<|.y (.h .eq V3<|gi 4)<|.u (.h .eq V3<|gi 5)<|.h .eq (.j 19 [V0,V1])<|gi 2)]⟩
def a1A:FD:=⟨3,[],4,
 [.g 3<|.p (.p V0 11) 10,
  .d (.j 43 [V3,V1,V2])
   [.c kT]
   [],
  .d (.y (.h .ne (.j 19 [V3,V1])<|gi 7)<|.y (.h .ne (.j 19 [V3,V2])<|gi 7)<|.j 31 [V0,V2])
   [.c kF]
   [],
  .c (.u (.A (.p V0 11) 5 [V1,V2])<|.A (.p V0 11) 5 [V2,V1])]⟩
def a1C:FD:=⟨3,[],5,
 [.g 3<|.n (.p V0 0) V1,
  .g 4 (.n (.p V0 0) V2),
  .d (.h .ne (.n V3 N0)<|.n V4 N0)
   [.c kF]
   [],
  .d (.h .eq (.n V3 N0)<|gi 9)
   [.c<|.h .eq (.n V3 N1)<|.n V4 N1]
   [],
  .c (.u (.h .eq (.n V3 N0)<|gi 11)<|.h .eq (.n V3 N2)<|.n V4 N2)]⟩
def a1t:FD:=⟨5,[],13,
 [.g 5<|.p (.p V0 11) 10,
  .g 6 (.w 41 0),
  .g 7 (.w 42 0),
  .h (.B 8) V2
   [.h (.B 9) V1
    [.g 10<|.D V3 (.j 45 [V5,V9,V8])<|.j 44 [V0,V9,V8],
     .d iB
      [.l<|.A V0 4 [V9,V8,V4],
       .m V6 V9 N1,
       .m V7 V8 N1]
      []]],
  .u 6,
  .u 7,
  .c (.B [.z (.B 11) V1 (I<|.h .b jP V6) jP,.z (.B 12) V2 (I<|.h .b k7 V7) k7])]⟩
def a1w:FD:=⟨2,[],3,
 [.c<|.D (.h .eq V1<|gi 2) (.r [gi 2])<|.z (.B 2) (.j 6 [V0,V1]) C V2]⟩
def a1X:FD:=⟨4,[],8,
 [.g 4<|.p (.p V0 11) 10,
  .g 5 (.j 47 [V4,V1]),
  .g 6 (.z (.B 7) (.j 6 [V4,V2]) C V7),
  .n [5,6] (.j 46 [V0,V5,V6,kF,V3]),
  .n [5,6] (.j 46 [V0,V5,V6,kT,V3]),
  .d (.K V6)
   [.c<|.k AV.j]
   [],
  .d (.K V5)
   [.l<|.A V0 4 [V1,.j 12 [V4,V6],.q .b V3<|gi 1]]
   [.d (.h .eq (.aT V6) N1)
    [.l<|.A V0 4 [.j 12 [V4,V5],.n V6 N0,V3]]
    [.l<|.j 50 [V0,V5,V6,V3]]]]⟩
def a1G:FD:=⟨4,[],6,
 [.g 4<|.p V0 35,
  .j V0 35 (gi 1024),
  .l (.A V0 4 [V1,V2,V3]),
  .g 5 (.p V0 35),
  .d (.h .lt V4<|.p V0 35)
   [.j V0 35 V4]
   [],
  .c V5]⟩
abbrev MZ:List PS:=[.g 8<|.j 49 [V0,V7,V6,V3],.d (.h .eq V8 V3) [.m V4 V7 N1] [.d (.h .eq V8<|gi<|-1) [.g 5 kT] []]]
abbrev MY:List PS:=[.l<|.A V0 4 [.j 12 [.p (.p V0 11) 10,V1],V6,.q .b V3<|gi 1]]
def a1Z:FD:=⟨4,[],13,
 [.g 4<|.w 43 0,
  .g 5 kF,
  .h (.B 6) V2
   [.d (.K<|.j 42 [V0,V6])
    [.h (.B 7) V1
     MZ]
    []],
  .u 4,
  .g 9 (.z (.B 11) V2 (I<|.j 42 [V0,jP]) jP),
  .g 10 (.z (.B 12) V1 (I<|.h .b k7 V4) k7),
  .d (.u (.h .eq (.aT V9) N1)<|.u iB<|.K V5)
   [.l<|.A V0 4 [.j 12 [.p (.p V0 11) 10,iB],.n V9 N0,V3],
    .c (.k AV.j)]
   [],
  .d (.K V9)
   [.N]
   [],
  .h (.B 6) V9
   MY]⟩
def a1k:FD:=⟨2,[],3,
 [.c<|.j 12 [V0,.z (.B 2) (.j 6 [V0,V1]) (I<|.u (.h .ne V2<|gi 4)<|.h .ne V2<|gi 5) V2]]⟩
abbrev Np:List PS:=[.d (.y (.h .eq V4<|gi 4)<|.h .eq V4<|gi 5) [.l<|.append V2 V4] []]
def a1L:FD:=⟨2,[],5,
 [.g 2<|.L 44 [],
  .h (.B 3) V1
   [.h (.B 4) (.j 6 [V0,V3])
    Np],
  .u 2,
  .c V2]⟩
abbrev No:List PS:=[.d (.h .ne V3<|gi 2) [.g 4<|.j 18 [V0,V3],.d (.y (.h .eq V4 V3)<|.u (.h .ge V2 N0)<|.h .ne V4 V2) [.c kF] [],.g 2 V4] []]
def a1J:FD:=⟨2,[],5,
 [.g 2<|.F N1,
  .h (.B 3) V1
   No,
  .c kT]⟩
def a1O:FD:=⟨2,[],4,
 [.g 2<|.n V1 N0,
  .h (.B 3) (.xr V1 N1)
   [.d (.u (.h .ne V3 V2)<|.A V0 5 [V2,V3])
    [.g 2 V3]
    []],
  .c V2]⟩
def a19:FD:=⟨2,[],6,
 [.d (.K V1)
  [.c<|gi 2]
  [],
  .d (.h .a (gi 13) V1)
   [.c<|gi 13]
   [],
  .d (.h .eq (.aT V1) N1)
   [.c<|.n V1 N0]
   [],
  .g 2 (.p V0 10),
  .g 3 (.z (.B 5) V1 C<|.j 51 [V2,V5]),
  .d (.j 53 [V2,V3])
   [.g 4<|.j 12 [V2,V3]]
   [.g 4<|.j 54 [V0,V3]],
  .c (.j 12 [V2,.q .add (.r [V4])<|.j 52 [V2,V1]])]⟩
def a2a:FD:=⟨2,[],4,
 [.d (.K V1)
  [.c<|gi 1]
  [],
  .g 2 (.n V1 N0),
  .h (.B 3) (.xr V1 N1)
   [.d (.u (.h .ne V3 V2)<|.A V0 5 [V3,V2])
    [.g 2 V3]
    []],
  .c V2]⟩
abbrev Nn:List PS:=[.d (.h .lt V5 V2) [.g 2 V5] []]
def a2f:FD:=⟨2,[],6,
 [.g 2<|gi 1024,
  .h (.B 3) (.B [.p V0 13,.p V0 14])
   [.h (.a [4,5]) (.S V3 V1<|.r [])
    Nn],
  .c V2]⟩
def a1R:FD:=⟨3,[],5,
 [.c<|.z (.a [3,4]) (.S V0 V1<|.r []) (I<|.h .eq V4 V2) V3]⟩
abbrev Nl:List PS:=[.d (.u (.h .ne V4 V2)<|.A V0 5 [V1,.n V3 V4]) [.d (.y (.h .lt V4 V2)<|.K<|.A V0 5 [.n V3 V4,V1]) [.c kT] []] []]
def a1N:FD:=⟨4,[],5,
 [.d (.u (.h .eq (.j 2 [.p V0 10,V1])<|gi 8)<|.j 14 [.p V0 10,V1])
  [.c<|.h .a V1<|.u5 V3 V2]
  [],
  .h (.B 4) (.M [.aT V3])
   Nl,
  .c kF]⟩
abbrev Nk:List PS:=[.d (.j 59 [V0,.n V2 V3,V3,V2]) [.l<|.A9 V2 V3] []]
def a1F:FD:=⟨2,[],5,
 [.g 2<|.xv 45 (.B 4) V1 C V4,
  .h (.B 3) (.M [.q .sub (.aT V1) N1,.F N1,.F N1])
   Nk,
  .u 2,
  .c (.j 12 [.p V0 10,V2])]⟩
def a1y:FD:=⟨3,[],4,
 [.g 3<|.p (.p V0 11) 10,
  .c (.y (.h .a (.B [V1,V2])<|.p V0 22)<|.u (.h .eq (.j 2 [V3,V2])<|gi 8)<|.j 14 [V3,V2])]⟩
def a1U:FD:=⟨3,[],7,
 [.g 3<|.z (.B 5) V2 (I<|.j 61 [V0,V1,V5]) V5,
  .d (.y (.K V3)<|.h .lt (.aT V2) N2)
   [.c V2]
   [],
  .g 4 (.z (.B 6) V2 (I<|.h .b V6 V3) V6),
  .c (.q .add V4<|.r [.j 60 [.p V0 11,V3]])]⟩
def a1v:FD:=⟨2,[],5,
 [.g 2<|.p (.p V0 11) 10,
  .g 3 (.L 46 []),
  .h (.B 4) (.j 6 [V2,V1])
   [.l<|.append V3<|.D (.j 13 [V2,V4]) V4<|.A (.p V0 25) 8 [V2,V4]],
  .u 3,
  .c (.j 12 [V2,V3])]⟩
def a1D:FD:=⟨2,[],4,
 [.g 2<|.L 47 [],
  .h (.B 3) (.j 6 [V0,V1])
   [.l<|.append V2<|.D (.j 13 [V0,V3]) (.j 16 [V0,V3]) V3],
  .u 2,
  .c (.j 12 [V0,V2])]⟩
def a1n:FD:=⟨2,[],2,
 [.d (.h .a V1<|.p V0 38)
  [.c kF]
  [],
  .c (.y (.h .a V1<|.p V0 46)<|.K<|.j 36 [.p V0 11,.p V0 26,V1])]⟩
def a1T:FD:=⟨1,[],1,
 [.c<|.u (.h .lt V0<|gi 1024)<|.h .ne (.q .a V0<|.q .b (.q .b (gi 4)<|gi 16)<|gi 32) N0]⟩
def a2c:FD:=⟨4,[],7,
 [.d (.K V2)
  [.c<|.F N1]
  [],
  .g 4 (.p (.p V0 11) 10),
  .g 2 (.j 62 [V0,V1,V2]),
  .d (.j 33 [V0,V1])
   [.g 2<|.z (.B 5) V2 C<|.j 64 [V4,V5]]
   [.d (.j 65 [V0,V1])
    [.g 2<|.z (.B 6) V2 C<|.j 23 [V4,V6]]
    []],
  .d (.j 66 [V3])
   [.c<|.j 63 [V0,.j 60 [.p V0 11,V2]]]
   [],
  .c (.j 63 [V0,.j 55 [.p V0 11,V2]])]⟩
def a18:FD:=⟨3,[],3,
 [.d (.K V1)
  [.c<|.F N1]
  [],
  .d (.j 66 [V2])
   [.N]
   [],
  .c (.j 56 [.p V0 11,V1])]⟩
abbrev Nj:List PS:=[.d (.K<|.A V0 2 [V3,V2]) [.c kF] []]
def a1z:FD:=⟨3,[],4,
 [.h (.B 3) V1
  Nj,
  .c kT]⟩
abbrev Ni:List PS:=[.d (.u (.h .ge V4 N0)<|.h .ge (.n (.p V2 3) V4) N0) [.d (.h .eq (.n (.p V2 0)<|.A (.p V0 11) 3 [.n (.p V2 3) V4])<|.B [gi 10,V1]) [.l<|.append V3 V4] []] []]
def a1P:FD:=⟨2,[],5,
 [.g 2<|.p (.p V0 11) 10,
  .g 3 (.L 48 [V1]),
  .h (.B 4) (.p V0 12)
   Ni,
  .u 3,
  .c V3]⟩
abbrev Nh:List PS:=[.d (.K<|.A (.p V0 11) 2 [V2,V4]) [.c kF] []]
abbrev Ng:List PS:=[.d (.K<|.j 69 [.p V0 11,.j 58 [.p V0 13,V5,.j 57 [V0,V5]],V2]) [.c kF] []]
def a2b:FD:=⟨4,[],6,
 [.d (.h .a V2<|.B [gi 2,gi 0,gi 13])
  [.c kF]
  [],
  .h (.B 4) V3
   Nh,
  .h (.B 5) (.j 70 [V0,V1])
   Ng,
  .c kT]⟩
def a2e:FD:=⟨2,[],6,
 [.g 2<|.j 57 [V0,V1],
  .d (.j 76 [V0,V1])
   [.c<|.j 73 [V0,V1]]
   [],
  .g 3 (.j 58 [.p V0 14,V1,V2]),
  .g 4 (.j 67 [V0,V1,.j 58 [.p V0 13,V1,V2],V2]),
  .g 5 (.j 68 [V0,V3,V2]),
  .d (.h .lt V4 N0)
   [.c<|.B [V5,.F N1]]
   [],
  .d (.y (.h .lt V5 N0)<|.j 71 [V0,V1,V4,V3])
   [.c<|.B [V4,V5]]
   [],
  .c (.B [V5,V4])]⟩
def a1p:FD:=⟨2,[],4,
 [.g 2<|.S (.p V0 16) V1<|.F N1,
  .g 3 (.S (.p V0 17) V1<|.F N1),
  .d (.h .lt V2 N0)
   [.c<|.B [V3,.F N1]]
   [],
  .g 2 (.j 63 [V0,V2]),
  .d (.y (.h .lt V3 N0)<|.u (.h .b V2<|.B [gi 2,gi 0,gi 13])<|.A (.p V0 11) 2 [V2,V3])
   [.c<|.B [V2,V3]]
   [],
  .c (.B [V3,V2])]⟩
def a1m:FD:=⟨2,[],4,
 [.g 2<|.w 49 0,
  .h (.B 3) (.A (.p V0 25) 6 [.p (.p V0 11) 10,V1])
   [.d (.h .a V3<|.p V0 12)
    [.m V2 V3<|.j 78 [V0,V3]]
    []],
  .u 2,
  .c (.D V2 (.A (.p V0 25) 7 [.p V0 11,V1,V2]) V1)]⟩
def a17:FD:=⟨2,[],3,
 [.g 2<|.p (.p V0 11) 10,
  .d (.u (.h .ge V1 N0)<|.h .ge (.n (.p V2 4) V1) N0)
   [.c<|.j 74 [V0,.n (.p V2 4) V1]]
   [],
  .d (.u (.h .ge V1 N0)<|.u (.h .ge (.n (.p V2 3) V1) N0)<|.h .ne (.n (.p V2 3) V1)<|gi 0)
   [.m (.p V0 24) V1<|gi 1,
    .c (.j 74 [V0,.n (.p V2 3) V1])]
   [],
  .c (gi 1)]⟩
def a2d:FD:=⟨2,[],2,
 [.c<|.h .gt (.j 57 [V0,V1])<|.S (.p V0 18) V1<|gi 1024]⟩
def a1l:FD:=⟨4,[],7,
 [.d (.y (.h .lt V1 N0)<|.y (.h .lt (.n (.p (.p (.p V0 11) 10) 3) V1) N0)<|.h .eq V2<|gi 13)
  [.c V2]
  [],
  .g 4 (.j 74 [V0,.n (.p (.p (.p V0 11) 10) 3) V1]),
  .d (.A (.p V0 11) 2 [V2,V4])
   [.c V2]
   [],
  .d (.j 76 [V0,V1])
   [.g 5<|.z (.B 6) (.j 6 [.p (.p V0 11) 10,V2]) (I<|.A (.p V0 11) 2 [V6,V4]) V6,
    .d V5
     [.c<|.j 12 [.p (.p V0 11) 10,V5]]
     []]
   [],
  .d (.u (.h .ge V3 N0)<|.A (.p V0 11) 2 [V3,V4])
   [.c V3]
   [],
  .c V4]⟩
def a1x:FD:=⟨2,[],5,
 [.d (.h .a V1<|.p V0 15)
  [.c<|.n (.p V0 15) V1]
  [],
  .d (.h .a V1<|.p V0 43)
   [.c<|.n (.p V0 43) V1]
   [],
  .d (.h .ge (.p V0 44)<|gi 60)
   [.N]
   [],
  .p V0 44 .add N1,
  .m (.p V0 43) V1 (gi 1),
  .l (.P (.p V0 24) V1<|.k AV.j),
  .n [2,3] (.j 72 [V0,V1]),
  .d (.h .lt V2 N0)
   [.g 2<|.j 75 [V0,V1]]
   [],
  .m (.p V0 43) V1 V2,
  .g 4 (.D (.h .a V1<|.p V0 24) V2<|.j 77 [V0,V1,V2,V3]),
  .d (.u (.h .ne V4 V2)<|.h .ne V4 V3)
   [.m (.p V0 24) V1 V2]
   [],
  .m (.p V0 43) V1 V4,
  .p V0 44 .sub N1,
  .c V4]⟩
abbrev Nf:List PS:=[.m V1 V2<|.j 78 [V0,V2]]
def a2i:FD:=⟨1,[],3,
 [.g 1<|.w 50 0,
  .h (.B 2) (.p V0 12)
   Nf,
  .u 1,
  .c V1]⟩
def PI:FD:=⟨2,[],2,
 [.j V0 10 V1,
  .j V0 34 N0,
  .j V0 47 (gi 200),
  .j V0 48 (gi 40),
  .j V0 49 (.k AV.j)]⟩
def a2K:FD:=⟨2,[],2,
 [.c V1]⟩
def a2L:FD:=⟨2,[],2,
 [.c V1]⟩
def a2N:FD:=⟨3,[],3,
 [.c<|.j 21 [.p V0 10,V1,V2]]⟩
def a2M:FD:=⟨3,[],3,
 [.c<|.j 21 [.p V0 10,V1,V2]]⟩
def a2s:FD:=⟨2,[],4,
 [.g 2<|.n V0 N0,
  .m V0 N0 (.q .add V2 N1),
  .g 3 (.aT<|.n V0 N1),
  .c (.q .e (.q .add (.n (.n V0 N1)<|.q .e V2 V3)<|.q .mul (.q .fdiv V2 V3)<|.q .add V2 N3) V1)]⟩
def a2t:FD:=⟨1,[],1,
 [.d (.q .a V0<|ki 12288)
  [.c<|.D (.q .a V0<|gi 8192) (gi 8192)<|gi 4096]
  [],
  .d (.q .a V0<|ki 256)
   [.g 0<|.q .a V0<|.s<|ki 51]
   [],
  .d (.q .a V0<|ki 512)
   [.g 0<|.q .a V0<|.s<|ki 204]
   [],
  .c (.q .a V0<|.s<|.q .c (.q .a V0<|ki 15) N4)]⟩
def a2w:FD:=⟨1,[],1,
 [.c<|.j 86 [.q .b (.q .a V0<|.s<|ki 240)<|.q .a (.q .d V0 N4)<|ki 15]]⟩
def a2m:FD:=⟨1,[],1,
 [.c<|.j 86 [.q .b (.q .b (.q .a V0<|.s<|ki 240)<|.D (.q .a V0<|ki 48) (ki 256) N0)<|.D (.q .a V0<|ki 192) (ki 512) N0]]⟩
def a2n:FD:=⟨1,[],1,
 [.c<|.j 86 [.q .b (.q .b (.q .a V0<|.s<|ki 255)<|.D (.q .a V0<|ki 51) (ki 256) N0)<|.D (.q .a V0<|ki 204) (ki 512) N0]]⟩
def a2z:FD:=⟨2,[],3,
 [.d (.q .a V1<|ki 12288)
  [.c kT]
  [],
  .g 2 (.j 87 [V1]),
  .g 2 (.q .b (.q .b V2<|.D (.q .a V2<|ki 256) N3 N0)<|.D (.q .a V2<|ki 512) (ki 12) N0),
  .c (.h .eq (.q .a (.j 87 [V0])<|.s V2) N0)]⟩
def a2H:FD:=⟨2,[],3,
 [.c<|.By<|.q .add (.z (.B 2) V0 (I<|.h .eq (.h .eq (.n V2 N2) N2) V1)<|.n V2 N1)<|.r [gi 1024]]⟩
abbrev Fq:List PS:=[.d (.u (.h .eq (.n V4 N1) V1)<|.u (.h .eq (.n V4 N2) V2)<|.h .b (.n V4 N0) V3) [.l<|.append V3<|.n V4 N0] []]
def a2J:FD:=⟨3,[],5,
 [.g 3<|.L 51 [],
  .h (.B 4) V0
   Fq,
  .u 3,
  .c V3]⟩
abbrev Fp:List PS:=[.d (.h .ne (.n V3 N2) N2) [.g 2<|.y V2<|.h .eq (.n V3 N1) V1,.d (.u V2<|.n V3 N3) [.c kT] []] []]
def a2y:FD:=⟨2,[],4,
 [.g 2 kF,
  .h (.B 3) V0
   Fp,
  .c kF]⟩
abbrev Nd:List PS:=[.d (.h .b kT<|.z (.B 5) V1 C<|.j 90 [V2,V5]) [.g 1<|.q .add (.z (.B 6) V1 (I<|.K<|.j 90 [V6,V2]) V6)<|.r [V2]] []]
def a2C:FD:=⟨1,[],7,
 [.g 1<|.r [],
  .h (.B 2) V0
   Nd,
  .g 3 N0,
  .h (.B 4) V1
   [.g 3<|.q .b V3 V4],
  .c (.j 86 [V3])]⟩
abbrev Nc:List PS:=[.d (.j 90 [V5,V2]) [.g 5 V2] []]
def a2G:FD:=⟨1,[],9,
 [.d (.h .eq (.aT V0) N1)
  [.c<|.n V0 N0]
  [],
  .g 1 N0,
  .h (.B 2) V0
   [.g 1<|.q .b V1 V2],
  .g 3 (.z (.B 6) V0 C<|.q .a V6<|.s<|ki 3072),
  .g 4 (.z (.B 7) V3 (I<|.h .ne V7 N0) V7),
  .d (.h .b kF<|.z (.B 8) V4 C<|.u (.h .ne (.j 89 [V8]) V8)<|.h .eq (.j 89 [V8])<|.j 89 [.n V4 N0])
   [.c<|.j 86 [V1]]
   [],
  .g 5 (.n V3 N0),
  .h (.B 2) (.xr V3 N1)
   Nc,
  .c (.j 86 [.q .b V5<|.q .a V1<|ki 3072])]⟩
def a2B:FD:=⟨2,[],2,
 [.c<|.u (.h .d (.n (.n V0<|.k<|AV.f oT) V1)<|.k AV.j)<|.h .ne (.n (.n (.n V0<|.k<|AV.f oT) V1) N0) N0]⟩
abbrev Fo:List PS:=[.d (.y (.h .eq V4 V1)<|.h .eq (.n (.n V0<|.k<|AV.f oT) V4)<|.B [N0,V1]) [.g 5<|.n (.n V0<|.k<|AV.f mf) V4,.d (.h .a kF<|.z (.B 7) (.j 92 [V5,.j 91 [V5,kF],N0]) C<|.j 90 [V7,V2]) [.c kF] []] []]
def a2l:FD:=⟨4,[],8,
 [.d (.y (.h .eq V2 N0)<|.y (.h .eq V2<|gi 8192)<|.h .a kF<|.z (.B 6) V3 C<|.j 90 [V2,V6])
  [.c kF]
  [],
  .h (.B 4) (.M [.n V0<|.k<|AV.f j1])
   Fo,
  .c kT]⟩
abbrev Nb:List PS:=[.d (.y (.h .lt V8 N0)<|.j 90 [V6,V8]) [.g 8 V6] []]
def a2p:FD:=⟨2,[],13,
 [.g 2<|.n (.n V0<|.k<|AV.f mf) V1,
  .g 3 (.j 91 [V2,kF]),
  .g 4 (.j 91 [V2,kT]),
  .d (.h .gt V3 V4)
   [.g 5 N0,
    .h (.B 6) (.j 92 [V2,V4,N2])
     [.g 5<|.q .b V5 V6],
    .c (.B [.j 86 [V5],.F N1,kT])]
   [],
  .g 7 (.j 92 [V2,V3,N1]),
  .g 8 (.F N1),
  .h (.B 6) V7
   Nb,
  .g 9 (.j 92 [V2,V3,N0]),
  .d (.h .eq (.aT V9) N0)
   [.c<|.B [V8,.F N1,kF]]
   [],
  .d (.j 96 [V0,V1])
   [.g 9<|.z (.B 11) V9 C<|.j 87 [jP]]
   [.d (.u (.h .b V1<|.n V0<|.k<|AV.f pQ)<|.K<|.j 93 [V2,V3])
    [.g 9<|.z (.B 12) V9 C<|.j 88 [k7]]
    []],
  .g 10 (.D (.q .a V3<|gi 4) (.j 94 [V9])<|.j 95 [V9]),
  .d (.y (.h .lt V8 N0)<|.j 97 [V0,V1,iB,V7])
   [.c<|.B [iB,V8,kF]]
   [],
  .c (.B [V8,iB,kF])]⟩
def a2x:FD:=⟨3,[],3,
 [.d (.h .lt (.n V2 N1) N0)
  [.c<|.n V2 N0]
  [],
  .c (.j 86 [.q .b (.n V2 N0)<|.j 100 [V0,V1,.n V2 N1]])]⟩
abbrev BK:List PS:=[.d (.u V5<|.u (.q .a (.q .d V3 V9) N1)<|.j 90 [.q .c N1 V9,V7]) [.g 8<|.q .b V8<|.q .c N1 V9] []]
def a2u:FD:=⟨3,[],11,
 [.d (.h .a V2 V1)
  [.c<|.n V1 V2]
  [],
  .m V1 V2 (gi 4096),
  .n [3,4,5] (.j 98 [V0,V2]),
  .g 6 (.n (.n V0<|.k<|AV.f oT) V2),
  .d (.u (.h .lt V3 N0)<|.h .d (.n (.n V0<|.k<|AV.f qD) V2)<|.k AV.j)
   [.g 3<|.j 99 [V0,V1,.n (.n V0<|.k<|AV.f qD) V2]]
   [.d (.h .lt V3 N0)
    [.m V1 V2<|.D (.h .B2 V6<|.k AV.j) (gi 4096)<|.j 99 [V0,V1,V6],
     .c (.n V1 V2)]
    []],
  .m V1 V2 V3,
  .d (.h .d V6<|.k AV.j)
   [.g 7<|.j 99 [V0,V1,V6],
    .d (.K<|.j 90 [V3,V7])
     [.g 8 N0,
      .h (.B 9) (.M [ki 14])
       BK,
      .g 10 (.D (.u (.h .ge V4 N0)<|.j 90 [V4,V7]) V4 V7),
      .m V1 V2 (.D (.h .gt V8 N0) V8 iB)]
     []]
   [],
  .c (.n V1 V2)]⟩
abbrev Na:List PS:=[.l<|.j 100 [V0,V2,V3]]
def a2v:FD:=⟨2,[],4,
 [.g 2<|.w 52 0,
  .h (.B 3) V1
   Na,
  .u 2,
  .c V2]⟩
def a2r:FD:=⟨4,[],6,
 [.n [4,5]<|.n V3<|.j 85 [V0,.aT V3],
  .d (.h .lt V4 N0)
   [.c<|.k AV.j]
   [],
  .c (.B [V4,.D V5 (.q .e (.q .add V2 N1) V1)<|.F N1])]⟩
abbrev M9:List PS:=[.l<|.append V2<|.j 102 [V0,V1,V4,.B [.B [.F N1,N0],.B [ki 5,N0],.B [ki 256,N0],.B [N0,N1],.B [N1,N1],.B [ki 3072,N0],.B [.F N1,N0]]],.l<|.append V3<|.j 102 [V0,V1,V4,.B [.B [.F N1,N0],.B [.F N1,N0],.B [N1,N0],.B [ki 64,N0],.B [N0,N1]]]]
def a2j:FD:=⟨1,[],7,
 [.g 1<|.n (.B [N2,N3,N1])<|.j 85 [V0,N3],
  .g 2 (.L 53 []),
  .g 3 (.L 54 []),
  .h (.B 4) (.M [V1])
   M9,
  .u 2,
  .u 3,
  .g 5 (.n (.B [.B [],.B [N0],.B [N0,N1,N2]])<|.j 85 [V0,N3]),
  .c (.zB 1 [.k<|AV.f j1,.k<|AV.f oT,.k<|AV.f qD,.k<|AV.f pQ,.k<|AV.f mf] [V1,V2,V3,V5,.z (.B 6) (.M [V1]) C<|.L 55 []])]⟩
def a2D:FD:=⟨2,[],8,
 [.g 2<|.n (.g OF)<|.j 85 [V0,ki 16],
  .g 3 (.n (.g OG)<|.j 85 [V0,ki 7]),
  .g 4 (.j 85 [V0,V1]),
  .g 5 (.L 56 [V4]),
  .d (.u (.h .gt V1 N1)<|.h .eq (.j 85 [V0,N4]) N3)
   [.l<|.append V5<|.q .e (.q .add V4 N1) V1]
   [],
  .u 5,
  .g 6 (.j 85 [V0,N4]),
  .d (.h .eq V6 N3)
   [.g 7<|.n (.B [gi 0,gi 0,gi 2])<|.j 85 [V0,N3]]
   [.g 7<|.n (.B [gi 0,gi 0,gi 4,gi 16,gi 2])<|.j 85 [V0,ki 5]],
  .c (.B [V2,V3,V5,V6,V7])]⟩
def a2E:FD:=⟨2,[],11,
 [.n [2,3,4,5,6] V1,
  .g 7 (.q .b (.q .b V3<|.D (.q .a V3<|ki 256) (ki 51) N0)<|.q .c (.q .a V3<|ki 15) N4),
  .g 8 (.q .a V2<|.s V7),
  .d (.y (.h .gt (.aT V4) N1)<|.u (.h .eq V8 N0)<|.h .ne V2 N0)
   [.g 6<|.q .b V6<|gi 1]
   [],
  .d (.h .eq V8 N0)
   [.g 8 V2]
   [],
  .h (.B 9) V4
   [.d (.q .a V6<|gi 16)
    [.d (.h .ne V8<|gi 4096)
     [.l<|.append (.n (.n V0<|.k<|AV.f mf) V9)<|.B [V8,V6,N2,kF]]
     []]
    [.g 10<|.D (.u (.h .gt V5 N1)<|.K<|.j 96 [V0,V9]) (.j 88 [V8]) V8,
     .l (.append (.n (.n V0<|.k<|AV.f mf) V9)<|.B [iB,V6,.D (.h .eq V5 N3) N1 N0,.h .gt V5 N1])]]]⟩
def a2I:FD:=⟨2,[],3,
 [.d (.h .lt V1<|ki 8)
  [.g 2<|.q .a V1 N3,
   .c (.D (.h .lt V2 N2) (.j 3 [V0,.n (.k<|AV.f Kq) V2,.q .d V1 N2])<|.j 4 [V0,.q .sub V2 N1,.q .d V1 N2])]
  [],
  .c (.n (.B [gi 6,gi 7,gi 5,gi 4,gi 1,gi 0])<|.q .sub V1<|ki 8)]⟩
def a2o:FD:=⟨3,[],4,
 [.c<|.j 12 [V0,.q .add (.z (.B 3) (.M [ki 14]) (I<|.q .a (.q .d V1 V3) N1)<|.j 106 [V0,V3]) V2]]⟩
abbrev M8:List PS:=[.d (.h .lt V5<|ki 8) [.l<|.j 106 [V3,V5]] [.d (.h .lt V5<|.q .add (ki 8)<|.n V0<|.k<|AV.f j1) [.m V4 (.q .sub V5<|ki 8)<|.j 5 [V3,.n (.k<|AV.f Kr)<|.q .sub V5<|ki 8,.F N1,.F N1]] [.l<|.j 4 [V3,.q .add (ki 20) V5,N0]]]]
def a2A:FD:=⟨3,[],10,
 [.g 3<|.new 0 57 [],
  .d V2
   [.l<|.j 5 [V3,.k<|AV.f VD,.F N1,.F N1]]
   [],
  .g 4 (.w 58 0),
  .h (.B 5) V1
   M8,
  .u 4,
  .h (.B 6) (.M [.n V0<|.k<|AV.f j1])
   [.g 7<|.n (.n (.p V3 0)<|.n V4 V6) N1,
    .h (.a [8,9]) (.B [.B [.p V3 3,.n (.n V0<|.k<|AV.f oT) V6],.B [.p V3 4,.n (.n V0<|.k<|AV.f qD) V6]])
     [.d (.h .d V9<|.k AV.j)
      [.m V8 V7<|.j 107 [V3,.n V9 N0,.D (.h .lt (.n V9 N1) N0) (.r [])<|.r [.n V4<|.n V9 N1]]]
      []]],
  .c (.B [V3,V4])]⟩
abbrev M6:List PS:=[.g 11<|.j 107 [V1,V6,.r []],.g 12<|.j 107 [V1,V7,.z (.B 15) V8 C<|.n V2<|.v 15],.d (.h .lt V9 N2) [.l<|.j 40 [V5,jP,k7,iB]] [.d (.h .eq V9 N2) [.l<|.A V5 1 [jP,k7,iB]] [.l<|.A V5 9 [jP,k7,iB]]]]
def a2F:FD:=⟨5,[],16,
 [.g 5<|.new 1 59 [.new 2 60 [V1],.z (.B 13) V3 C<|.n (.n (.p V1 0)<|.n V2<|.v 13) N1],
  .d (.h .gt (.aT<|.n V0<|.k<|AV.f pQ) N0)
   [.j V5 26<|.j 12 [V1,.z (.B 14) (.n V0<|.k<|AV.f pQ) (I<|.h .lt (.v 14)<|.n V0<|.k<|AV.f j1)<|.n V2<|.v 14]]
   [],
  .h (.a [6,7,8,9,10]) V4
   M6,
  .c V5]⟩
abbrev M5:List PS:=[.g 8<|.B [.j 107 [V1,.n V7 N0,.r []],.n V7 N1],.d (.u (.h .eq (.n V7 N2) V3)<|.h .b V8 V6) [.l<|.append V6 V8] []]
def a2q:FD:=⟨4,[],9,
 [.g 4<|.w 61 0,
  .h (.B 5) (.M [.n V0<|.k<|AV.f j1])
   [.g 6<|.L 62 [],
    .h (.B 7) (.n (.n V0<|.k<|AV.f mf) V5)
     M5,
    .u 6,
    .d (.h .gt (.aT V6) N0)
     [.m V4 (.n (.n (.p V1 0)<|.n V2 V5) N1) V6]
     []],
  .u 4,
  .c V4]⟩
abbrev Zq:List PS:=[.g 7<|.q .b V7 V8]
abbrev M4:List PS:=[.g 5<|.n (.n V0<|.k<|AV.f mf) V4,.g 6<|.j 91 [V5,kT],.d (.h .lt V6<|gi 1024) [.g 7 N0,.h (.B 8) (.j 92 [V5,V6,N2]) Zq,.m V3 (.n (.n (.p V1 0)<|.n V2 V4) N1)<|.j 107 [V1,.j 86 [V7],.r []]] []]
def a2k:FD:=⟨3,[],9,
 [.g 3<|.w 63 0,
  .h (.B 4) (.M [.n V0<|.k<|AV.f j1])
   M4,
  .u 3,
  .c V3]⟩
abbrev Fn:List PS:=[.l<|.append V4<|.j 104 [V2,.n V3<|.k<|AV.f j1],.l<|.j 105 [V3,.n V4<|.F N1]]
abbrev Fm:List PS:=[.l<|.ze V6 (.j 85 [V2,.q .add V7 N1]) V7]
abbrev M3:List PS:=[.m (.v 16) (.n (.n (.p jP 0)<|.n k7<|.v 17) N1)<|.j 107 [jP,.n (.v 15)<|.v 17,.r []]]
def a1Q:FD:=⟨1,[],23,
 [.g 1<|.z (.B 19) (.u5 V0<|ki 48) C<|.q .e (.v 19)<|ki 999983,
  .d (.h .eq (.aT V1) N0)
   [.g 1<|.r [N0,N3,N0,N3,N0,N0,N0,N0,N0,N0,N0,N0,N0,N1,N0,N1,N0,N0,N0,N0,N0,N1,N2,N3,N4,ki 5,ki 6,ki 7,ki 8,ki 8,ki 10,N1]]
   [],
  .g 2 (.L 64 [N0,V1]),
  .g 3 (.j 103 [V2]),
  .g 4 (.L 65 []),
  .h (.B 5) (.M [.q .add N2<|.j 85 [V2,N4]])
   Fn,
  .u 4,
  .g 6 (.L 66 []),
  .h (.B 7) (.M [ki 12])
   Fm,
  .u 6,
  .g 8 (.z (.B 20) (.M [.n V3<|.k<|AV.f j1]) C<|.v 20),
  .g 9 (.z (.B 21) (.M [.n V3<|.k<|AV.f j1]) C<|.q .sub (.q .sub (.n V3<|.k<|AV.f j1) N1)<|.v 21),
  .d (.h .eq (.j 85 [V2,N2]) N1)
   [.n [8,9]<|.B [V9,V8]]
   [],
  .h (.B 10) (.M [N2])
   [.n [11,12]<|.j 108 [V3,.D (.h .eq iB N0) V6<|.z (.B 22) (.M [ki 12]) C<|.n V6<|.q .sub (ki 11)<|.v 22,.h .eq iB N1],
    .g 13 (.D (.h .eq iB N0) V8 V9),
    .g 14 (.j 109 [V3,jP,k7,.v 13,V4]),
    .d (.y (.h .ne (.p (.v 14) 13)<|.j 110 [V3,jP,k7,N0])<|.h .ne (.p (.v 14) 14)<|.j 110 [V3,jP,k7,N1])
     [.c kF]
     [],
    .d (.h .ne (.p (.v 14) 16)<|.j 111 [V3,jP,k7])
     [.c kF]
     [],
    .g 15 (.j 101 [V3,.v 13]),
    .g 16 (.w 67 0),
    .h (.B 17) (.v 13)
     M3,
    .u 16,
    .d (.h .ne (.j 79 [.v 14])<|.v 16)
     [.c kF]
     [],
    .j (.v 14) 43 (.w 68 0),
    .g 18 (.D (.h .eq iB N0) V9 V8),
    .g 15 (.j 101 [V3,.v 18]),
    .h (.B 17) (.v 18)
     [.d (.h .ne (.j 78 [.v 14,.n (.n (.p jP 0)<|.n k7<|.v 17) N1])<|.j 107 [jP,.n (.v 15)<|.v 17,.r []])
      [.c kF]
      []]],
  .c kT]⟩
def O7:List FD:=[PH,PG,PA,a1u,a1K,a1M,Pz,Ps,Py,PB,Px,a1s,a1r,PC,GR,GQ,a1E,Pu,a2h,a16,Pw,a1q,Pr,a1o,a2Q,a2P,a2O,PJ,a2S,a2T,a2R,a1W,PD,a1S,a15,a11,PF,a2g,a1H,a1I,a10,a1Y,a1V,a1B,a1A,a1C,a1t,a1w,a1X,a1G,a1Z,a1k,a1L,a1J,a1O,a19,a2a,a2f,a1R,a1N,a1F,a1y,a1U,a1v,a1D,a1n,a1T,a2c,a18,a1z,a1P,a2b,a2e,a1p,a1m,a17,a2d,a1l,a1x,a2i,PI,a2K,a2L,a2N,a2M,a2s,a2t,a2w,a2m,a2n,a2z,a2H,a2J,a2y,a2C,a2G,a2B,a2l,a2p,a2x,a2u,a2v,a2r,a2j,a2D,a2E,a2I,a2o,a2A,a2F,a2q,a2k,a1Q]
def GT:List<|String×AV:=[("FIRST_ROWS",Cj),("Y_STR",(AV.a 3)),("Y_NUM",(AV.a 4)),("Y_PARAM",(AV.a 10)),("NEVER",(AV.a 2)),("Y_UNION",(AV.a 6)),("Y_TPL",(AV.a 18)),("STRING",(AV.a 6)),("NUMBER",(AV.a 7)),("Y_ENUM",(AV.a 5)),("MARKED_ROWS",Gw),("FALSE_T",(AV.a 8)),("FRESH_F",(AV.a 14)),("TRUE_T",(AV.a 9)),("FRESH_T",(AV.a 15)),("ANY",(AV.a 0)),("ERR",(AV.a 13)),("UNKNOWN",(AV.a 1)),("MAX_UNION",(AV.a 400)),("LITERAL_ROWS",OI),("Y_BOOL",(AV.a 2)),("BOOLEAN",(AV.a 12)),("Y_KEY",(AV.a 1)),("KEY_FAMILIES",OJ),("FAM_OTHER",(AV.a 0)),("FAM_BOOL",(AV.a 3)),("OBJECT_ROWS",OH),("FAM_OBJ",(AV.a 7)),("Y_INTER",(AV.a 7)),("FAM_STR",(AV.a 1)),("FAM_NUM",(AV.a 2)),("UNDEF",(AV.a 4)),("VOID",(AV.a 3)),("PR_MOST",(AV.a 1024)),("MOST_LEVEL",(AV.a 12)),("Y_KEYOF",(AV.a 14)),("Y_COND",(AV.a 16)),("Y_INDEX",(AV.a 15)),("MOST_BRANCHES",(AV.a 3)),("PR_RETURN",(AV.a 16)),("SLOT",(AV.a<|-2)),("MOST_DEEP",(AV.a 40)),("MOST_STEPS",(AV.a 20000)),("Y_REF",(AV.a 9)),("Y_ARRAY",(AV.a 11)),("PR_NAKED",(AV.a 1)),("PR_CIRCLE",(AV.a<|-1)),("NULLT",(AV.a 5)),("Y_OBJ",(AV.a 8)),("PR_KEYED",(AV.a 4)),("PR_KEYOF",(AV.a 32)),("MOST_SETTLING",(AV.a 60)),("MOST_ROUNDS",(AV.a 200)),("MOST_SHAPES",(AV.a 40)),("_law_ANY",(AV.a 8192)),("_law_UNKNOWN",(AV.a 4096)),("_law_HEARD",OF),("_law_BESIDE",OG),("PR_PLAIN",(AV.a 0)),("PR_MAPPED",(AV.a 2))]
def FN(i:Nat):Option FD:=O7[i]?
def vx{K:Frag}(e:K.lookup a=I o):(a,o)∈K:=by
 induction K with
 |nil=>exact cL e
 |cons p r b=>
  rw[oN] at e;rcases q:a==p.1 with _|_;.rw[q] at e;exact bK _<|b e
  .rw[q] at e;cases e;rw[dV.mp q];exact aZ
noncomputable section
variable(w:cR)
def VS(x:AV)(v:aL):Prop:=∀g σ h,aD w g σ h->aG w g h x v
def zN(x:List AV)(v:List aL):Prop:=∀g σ h,aD w g σ h->aI w g h x v
def AE(x:List<|AV×AV)(v:List kj):Prop:=∀g σ h,aD w g σ h->eY w g h 0 x v
variable{w}
def Tj{i j:Int}{t:Tok}(e:decide (i=j)=U):VS w (.a i)<|.int j t:=λb b b b=>by cases Y e;exact⟨_,H⟩
def Th{i j:Str}{t:Tok}(e:decide (i=j)=U):VS w (.f i)<|.str j t:=λb b b b=>by cases Y e;exact⟨_,H⟩
def Tm{i j:Bool}(e:(i==j)=U):VS w (.e i)<|.bool j:=λb b b b=>by cases dV.mp e;exact H
def Ti:VS w .j .none:=λb b b b=>by rfl
def Tf{a:Addr}{n:String}{z:Array aL}{vs:List AV}(e:(KF w.params).lookup a=I ⟨.type n,C,.seq z 0,⟨[]⟩⟩)(q:(n=="tuple")=U)(t:zN w vs z.toList):VS w (.B vs)<|.ref a:=λg σ h b=>by
 cases dV.mp q;exact⟨a,z,H,b.j a ⟨_,vx e,H⟩,b.c.c _<|vx e,t g σ h b⟩
def Tl{a:Addr}{n:String}{D:Array kj}{m c:Nat}{es:List<|AV×AV}(e:(KF w.params).lookup a=I ⟨.type n,C,.dict D m,⟨[]⟩⟩)(q:(n=="dict")=U)(t:B3 D=U)(B:(c==0)=U)(F:gq 1 a=U)(R:decide (cg<|es.map (·.1))=U)(S:AE w es D.toList):VS w (.g c es)<|.ref a:=λg σ h b=>by
 cases dV.mp q;cases dV.mp B;refine⟨a,_,D,m,H,b.j a ⟨_,vx e,?_⟩,?_,b.c.c _<|vx e,⟨H,H,H⟩,H,S g σ h b,Y R⟩;.show(("dict":String)=="tuple"||("dict"=="dict"&&B3 D))=U;rw[t];rfl
 .rw[beq_eq_false_iff_ne] at⊢;exact rb<|Nat.blt_eq.mp F
def Td:zN w [] []:=λb b b b=>by rfl
def Te{x:AV}{v:aL}{r:List AV}{vs:List aL}(e:VS w x v)(q:zN w r vs):zN w (x::r)<|v::vs:=λg σ h b=>aI.cons (e g σ h b)<|q g σ h b
def a0Z:AE w [] []:=λb b b b=>by rfl
def a00{i:Int}{y:AV}{e:kj}{r:List<|AV×AV}{vs:List kj}(q:decide (e.hash=hashInt i)=U)(t:VS w (.a i) e.key)(B:VS w y e.val)(F:AE w r vs):AE w ((.a i,y)::r)<|e::vs:=λg σ h b=>by
 exact⟨e,vs,H,t g σ h b,by rw[Y q];exact(Rg ..).symm,H,B g σ h b,F g σ h b⟩
variable(w)
mutual
noncomputable def vE:(x:AV)->(v:aL)->Ev (VS w x v)
 |.a i,v=>match v with|.int j _=>.B (decide<|i=j) λe=>.c (Tj e)|_=>.g
 |.f i,v=>match v with|.str j _=>.B (decide<|i=j) λe=>.c (Th e)|_=>.g
 |.e i,v=>match v with|.bool j=>.B (i==j) λe=>.c (Tm e)|_=>.g
 |.j,v=>match v with|.none=>.c Ti|_=>.g
 |.B vs,v=>match v with
  |.ref a=>(match h:(KF w.params).lookup a with
   |some ⟨.type n,C,.seq z 0,⟨[]⟩⟩=>.B (n=="tuple") λq=>(DJ vs z.toList).q λb=>.c<|Tf h q b
   |_=>.g)
  |_=>.g
 |.g c es,v=>match v with
  |.ref a=>(match h:(KF w.params).lookup a with
   |some ⟨.type n,C,.dict D m,⟨[]⟩⟩=>.B (n=="dict") λq=>.B (B3 D) λd=>.B (c==0) λf=>.B (gq 1 a) λg=>.B (decide<|(es.map (·.1)).Nodup) λk=>(Pd es D.toList).q λb=>.c<|Tl h q d f g k b
   |_=>.g)
  |_=>.g
 |_,_=>.g
noncomputable def DJ:(x:List AV)->(v:List aL)->Ev (zN w x v)
 |[],vs=>match vs with|[]=>.c Td|_=>.g
 |x::r,vs=>match vs with|v::b=>(vE x v).q λe=>(DJ r b).q λq=>.c (Te e q)|[]=>.g
noncomputable def Pd:(x:List<|AV×AV)->(v:List kj)->Ev (AE w x v)
 |[],vs=>match vs with|[]=>.c a0Z|_=>.g
 |(.a i,y)::r,vs=>match vs with|e::b=>.B (decide<|e.hash=hashInt i) λq=>(vE (.a i) e.key).q λc=>(vE y e.val).q λd=>(Pd r b).q λf=>.c (a00 q c d f)|[]=>.g
 |_::_,_=>.g
end
def a7s(p:String×AV):Prop:=∃v,(ip (gp w.params) (iX w.params) (i7 w.params)<|f9 w.params).nsMap lB (cv p.1)=I v/\VS w p.2 v
def gE(p:String×AV):Ev<|a7s w p:=
 match h:(ip (gp w.params) (iX w.params) (i7 w.params)<|f9 w.params).nsMap lB (cv p.1) with
 |some v=>(vE w p.2 v).q λq=>.c ⟨v,h,q⟩
 |none=>.g
def a0v:(GT.all λp=>(gE w p).r)=true:=by kernel_rfl
end
def gS.at3(B:gS w h):h.get? 3=I (i7 w.params):=B.main (3,_)<|m9 H
def gS.at0(B:gS w h):h.get? 0=I (gp w.params):=B.main (0,_)<|m9 H
def gS.zJ(B:gS w h):h.get? 2=I (iX w.params):=B.main (2,_)<|m9 H
def gS.w8(B:gS w h)(a)(R:a=0\/a=2\/a=3):h.get? a=(ip (gp w.params) (iX w.params) (i7 w.params)<|f9 w.params).get? a:=by
 refine FQ (Gz w.params) λf0 e f b c d=>mm (Bx (gp w.params) (iX w.params) (i7 w.params) (f9 w.params) f0 c d b) λb0 b2 b3 b4=>?_;rcases R with rfl|rfl|rfl;.rw[B.at0,b0]
 .rw[B.zJ,b2]
 .rw[B.at3,b3]
def gS.nsMap(B:gS w h)(a)(R:a=0\/a=2\/a=3)(n):h.nsMap a n=(ip (gp w.params) (iX w.params) (i7 w.params)<|f9 w.params).nsMap a n:=by
 unfold HT;rw[B.w8 a R]
def gS.isNs(B:gS w h)(a)(R:a=0\/a=2\/a=3):h.isNs a=(ip (gp w.params) (iX w.params) (i7 w.params)<|f9 w.params).isNs a:=by
 unfold Ah;rw[B.w8 a R]
def JJ(P):(ip (gp P) (iX P) (i7 P)<|f9 P).isNs tF=U/\(ip (gp P) (iX P) (i7 P)<|f9 P).nsMap tF "sys.recursionlimit"=none:=⟨by kernel_rfl,by kernel_rfl⟩
def gS.mainNs(B:gS w h):h.Ns lB<|h.nsMap lB:=HU<|(B.isNs lB<|.inr<|.inr H).trans (Mp w.params).1
def gS.a3Z(B:gS w h):h.Ns tG<|h.nsMap tG:=HU<|(B.isNs tG<|.inl H).trans (Mp w.params).2
def gS.Yx(B:gS w h):h.NoLimit:=⟨_,HU<|(B.isNs tF<|.inr<|.inl H).trans (JJ w.params).1,(B.nsMap tF (.inr<|.inl H) _).trans (JJ w.params).2⟩
def We(D!:FR w g σ h env cx L)(q:aD w g σ h){n:String}{v:AV}{p:Pos}(t:cx.a.lookup (cv n)=I .globalImplicit)(B:(n,v)∈GT)(hd:(cv n==("__debug__":Str))=am)(R:K v σ):
 Run w A s₀ NX g σ h (eval (.Name (cv n) p) env) (VR w) K:=by
 intro tk;obtain⟨u,b,c⟩:=Ev.S<|gf.mp (a0v w) (n,v) B;rw[<-q.c.nsMap lB (.inr<|.inr H)] at b;refine Rt D!.e ((D!.kindOf _).trans t) (a56 ?_ b (cK.t q R<|c g σ h q)) hd;rw[D!.f];exact q.c.mainNs
def a3Y(P):([("len",Ri "len"),("sorted",.builtin "sorted"),("min",.builtin "min"),("tuple",.type "tuple"),("range",.type "range")]:List<|String×aL).all (λp=>
 (ip (gp P) (iX P) (i7 P)<|f9 P).nsMap lB (cv p.1)==C&&(ip (gp P) (iX P) (i7 P)<|f9 P).nsMap tG (cv p.1)==I p.2)=true:=by kernel_rfl
def a0r(L):∀j,O L<=j->dg L j=.q:=by
 induction L with
 |nil=>exactλj c=>by cases j<;>rfl
 |cons a r b=>
  intro j h;cases j with
  |zero=>cases h
  |succ j=>exact b j<|H3 h
def xq(L):∀i j y,dg (ci L i y) j=if j=i then(if i<O L then y else .q) else dg L j:=by
 induction L with
 |nil=>
  refineλi j y=>(?_:dg [] j=_)
  split;.exact(a0r [] j<|jQ _).trans (Z<|Dg i).symm
  .rfl
 |cons a r b=>
  intro i j y;cases i with
  |zero=>
   cases j with
   |zero=>exact((ak H).trans<|ak<|RE _).symm
   |succ j=>exact(Z<|RH j).symm
  |succ i=>
   cases j with
   |zero=>exact(Z (RH i).symm).symm
   |succ j=>
    apply (b i j y).trans;simp only[kq,Nat.add_right_cancel_iff,Nat.add_lt_add_iff_right];rfl
def FX(env:Env)(a:Addr):Prop:=a=env.locals\/∃x,env.cells.lookup x=I a
structure Cx.Ok(cx:Cx):Prop where
 slots:∀x y i,cx.V.lookup x=some i->cx.V.lookup y=some i->x=y
def AW(D!:FR w g σ h env cx L)(t:aD w g σ h)(ok:cx.Ok){x:Str}{i:Nat}{y:AV}{v:aL}{tk:Tok}{Q:Unit->bT->Prop}{E_:aL->bT->Prop}(B:cx.V.lookup x=I i)(hs:cx.a.lookup x=I .local\/cx.a.lookup x=I .cell)(ey:aG w g h y v)(R:X env.locals)(S:∀c,cx.a.lookup x=I .cell->env.cells.lookup x=I c->X c)(hQ:∀h' a0,du g h g h'->FR w g σ h' env cx (ci L i y)->aD w g σ h'->Tr X g σ h g σ h'->Q () (cy s₀ h' a0)):cA (MM w) A (HF env x v) Q E_<|cy s₀ h tk:=by
 apply wpAny_bindName;have s:∀{h':Heap},du g h g h'->OV w g h' (if i<O L then y else .q) (I v):=λ{h'} E_=>by
  split;.exact .inr ⟨v,H,aG.F E_ _ _ ey⟩
  .exact .inl H
 have step:∀{a:Addr}{h':Heap},fL g σ h a->1100<=a->X a->qZ a h h'->(∃W,h'.get? a=I W)->aD w g σ h'/\Tr X g σ h g σ h'/\du g h g h':=λ{a h'} p lo fx hs Y=>by
  exact bY (t.private p lo hs Y fx) λu T=>⟨u,T,⟨λn x=>x,λn n=>H,λn n=>H,ce _,λb o hf e=>(hs.2 b λq=>p.j<|aO q hf).trans e⟩⟩
 rcases hs with hs|hs
 .refine aA D!.d λm K M=>wpAny_storeName_local ((D!.kindOf x).trans hs) K (λh' C d=>B1 (id C) λon n n l n=>gl (step D!.R D!.eX R d ⟨on,l⟩) λu T E_=>hQ h' (tk+1) E_ ⟨D!.e,D!.j,D!.f,D!.n,D!.eX,D!.R.same d ⟨on,l⟩,⟨_,C,λz j f hz=>?_⟩,λz j f hz=>?_,D!.apart,D!.vm,λx c e=>bc (D!.ex x c e) λo=>yu d l⟩ u T) (by rw[D!.e];rfl)
  .rw[xq];by_cases q:z=x;.subst q;rw[ak (by rw[B] at f;exact(fg f).symm),ak H];exact s E_
   .rw[Z (λc:j=i=>q<|ok.slots z x i (aO c f) B),Z q];exact OV.F E_<|M z j f hz
  .refine FM (D!.a z j f hz) λc o r N P h4 G=>⟨c,o,r,N.sameBut d<|D!.vm z c r,?_,h4.same d ⟨on,l⟩,G⟩;rw[xq,Z (λq:j=i=>(λq=>by subst q;rw[hs] at hz;rcases hz with hz|hz<;>cases hz)<|ok.slots z x i (aO q f) B)];exact OV.F E_ P
 .refine FM (D!.a x i B<|.inl hs) λc o r N P h4 G=>wpAny_storeName_cell D!.e ((D!.kindOf x).trans hs) r N λh' D d=>aA (id D) λJ k n=>gl (step h4 G (S c hs r) d ⟨J,k⟩) λu T E_=>hQ h' tk E_ ⟨D!.e,D!.j,D!.f,D!.n,D!.eX,D!.R.same d ⟨J,k⟩,?_,λz j f hz=>?_,D!.apart,D!.vm,λx c e=>bc (D!.ex x c e) λo=>yu d k⟩ u T;.refine aA D!.d λm K M=>⟨m,K.sameBut d λq=>D!.vm x c r q.symm,λz j f hz=>?_⟩;rw[xq,Z (λq:j=i=>(λq=>by subst q;rw[hs] at hz;cases hz)<|ok.slots z x i (q▸f) B)];exact OV.F E_ (M z j f hz)
  .rw[xq];by_cases q:z=x;.subst q;rw[ak<|by rw[B] at f;exact(fg f).symm];exact⟨c,I v,r,D,s E_,h4.same d ⟨J,k⟩,G⟩
   .refine FM (D!.a z j f hz) λU o' V k2 k3 k4 k5=>⟨U,o',V,k2.sameBut d (λe:U=c=>q<|D!.apart z x c (aO e V) r),?_,k4.same d ⟨J,k⟩,k5⟩;rw[Z (λe:j=i=>q<|ok.slots z x i (aO e f) B)];exact OV.F E_ k3
def Ku(t:aD w g σ h){x:AV}{v:aL}{es:List<|AV×AV}{Kb:Bool->av->Prop}(e:aG w g h x v)(q:jy σ x=I es)(c0:jO σ x=0)(B:O es<=aR)(F:Kb (decide<|es≠[]) σ):
 Run w A s₀ NX g σ h (Hv v) BR Kb:=by
 refineλtk=>qM (sX t e q) λa D n o d b=>?_
 clear e q;subst d;rw[c0] at b;refine eW (b.dictOf (s₀:=s₀) tk) λA! f i j=>?_;obtain c:O A!=O es:=by have:=be O i;simpa using this
 refine wpAny_truthy_dict b.e f (Cb c.symm B H)<|cK.t t F ?_;clear t c0 B F b f i j;rcases es with _|⟨_,_⟩;.cases A! with|nil=>rfl|cons _ _=>simp at c
 .cases A! with|nil=>simp at c|cons _ _=>rfl
theorem TP{o l K}(q:c7 (λt=>o) (.d l) K):(∃vs,o=I (.b vs)/\yY (λt=>o) (.d l)/\K (decide<|vs≠[]))\/∃es,o=I (.a 0 es)/\yY (λt=>o) (.d l)/\K (decide<|es≠[]):=by
 cases o with
 |none=>exact q.elim
 |some o=>
  induction o using eE.casesOn
  case b=>exact .inl ⟨_,H,q⟩
  case d=>exact q.elim
  case a=>induction c using Nat.casesOn<;>first|exact .inr ⟨_,H,q⟩|exact q.elim
def yw(B:aD w g σ h){x:AV}{v:aL}{Kb:Bool->av->Prop}(e:aG w g h x v)(F:c7 σ x λb=>Kb b σ):Run w A s₀ NX g σ h (Hv v) BR Kb:=by
 induction x using AV.casesOn with
 |q=>exact F.elim
 |j=>subst e;exactλtk=>truthy_none<|cK.t B F.2 H
 |e b=>subst e;exactλtk=>QY<|cK.t B F.2 H
 |a i=>
  refine bc e λt e=>ay e λtk=>PyProof.Rows.truthy_int<|cK.t B F.2 (?_:decide (i≠0)=(i !=0));by_cases z:i=0<;>simp[z]
 |f s=>exact F.elim
 |B vs=>exact Eh B e H F.1 F.2
 |r vs=>exact Eh B e H F.1 F.2
 |g c es=>
  rcases c with _|c;.exact Ku B e H H F.1 F.2
  .exact F.elim
 |d l=>
  refine(TP (l:=l) F).elim (λq=>eW q λvs f d j=>?_) λq=>eW q λes f d j=>?_
  .have hq:=be (λo=>iL (λk=>o)<|.d l) f;exact Eh B e hq ((by
    unfold yY at d;obtain d:=hq▸d;exact d)) j
  .have m:=be (λo=>jy (λk=>o)<|.d l) f;exact Ku B e m (be (λo=>jO (λk=>o)<|.d l) f) ((by
    unfold yY at d;obtain d:=(be (λo=>iL (λk=>o)<|.d l) f)▸d;obtain d:=m▸d;exact d)) j
noncomputable def qV:Cm->CmpOp
 |.eq=>.Eq|.ne=>.NotEq|.lt=>.Lt|.le=>.LtE|.gt=>.Gt|.ge=>.GtE|.a=>.In|.b=>.NotIn|.B2=>.Is|.d=>.IsNot
def ID{K}(h:jX σ x K):∃vs,iL σ x=I vs/\K vs:=by
 unfold jX at h;rcases q:iL σ x with _|vs;.obtain h:=q▸h;exact h.elim
 .obtain h:=q▸h;exact⟨vs,H,h⟩
def a39{o K}(B:(∃u,x=.r u)\/∃l,x=.d l)(t:jr σ o x y K):o=.add/\(∀q,x≠.B q)/\(∀q,y≠.B q)/\jX σ x λu=>jX σ y λv=>O u+O v<=aR/\K (.r<|u++v):=by
 rcases B with⟨u,rfl⟩|⟨l,rfl⟩<;>(induction o using vV.casesOn<;>first|exact t.elim|exact⟨rfl,(λq c=>nomatch c),(by induction y using AV.casesOn<;>first|exact t.elim|exactλq c=>nomatch c),by induction y using AV.casesOn<;>first|exact t|exact t.elim⟩)
theorem Wq{o}(q:aD w g σ h)(ex:aG w g h x u)(F:aG w g h y v)(B:jr σ o x y λr=>K r σ):Run w A s₀ NX g σ h (binaryOp (Bc o) u v) (VR w) K:=by
 have fS:((∃u,x=.r u)\/∃l,x=.d l)->Run w A s₀ NX g σ h (binaryOp (Bc o) u v) (VR w) K:=λS=>mm (a39 S B) λe U V j=>e▸aA (ID j) λus W G=>aA (ID G) λvs Y k=>(λtk=>ox (ue q ex U W) λZ z n e e3 e4=>ox (ue q F V Y) λab c n2 J L m=>e▸J▸gl (q.R {cls:=.type "list",data:=.seq<|z++c} H) λM T E_=>
  P.add_list e3 L (cK.B M T k.2 ⟨_,z++c,0,H,.inr H,Db _ _,by rw[a7m];exact aI.F E_ _ _<|aI.append e4 m⟩) (my<|aV (gG (congr (be (·+·)<|aI.iy e4)<|aI.iy m).symm) k.1))
 induction x using AV.casesOn with
 |a a=>
  induction y using AV.casesOn with
  |a b=>exact bc ex λt e=>bc F λt' J=>e▸J▸(by
   intro tk;have bD:∀i(p s:Tok),K (.a i) σ->cK w NX g σ h s₀ (VR w) K (.int i p) (cy s₀ h s):=λi p s d=>cK.t q d<|⟨_,H⟩;induction o using vV.casesOn;.exact add_int<|bD _ _ _ B
   .exact sub_int<|bD _ _ _ B
   .exact gl B λC R d=>mul_int (bD _ _ _ d)<|IntMulOk.of_left<|intBits_le<|by unfold small at C;exact ES C H
   .obtain⟨_,⟨N,Q⟩,D,d⟩:=B;exact floordiv_int D (bD _ _ _ d)<|Or.inl<|a6b (by
     by_cases hz:b.natAbs=0;.exact aP (Int.natAbs_eq_zero.mp hz) D
     .exact oY (((Nat.log2_lt hz).mpr (ES ⟨N,Q⟩ H):b.natAbs.log2<63)) H)
   .exact mod_int' B.1<|bD _ _ _ B.2
   .exact and_int<|bD _ _ _ B
   .exact or_int<|bD _ _ _ B
   .exact mm B λC D j d=>lshift_int_small D (vB j H) (by unfold small at C;exact ES C H)<|bD _ _ _ d
   .exact rshift_int B.1<|bD _ _ _ B.2)
  |_=>exact B.elim
 |B us=>
  induction y using AV.casesOn with
  |B vs=>induction o using vV.casesOn<;>first|exact B.elim|exact(by
   refineλtk=>o6 ex λZ z f R e3 e4=>?_
   subst f;refine o6 F λab c f R L m=>?_;clear F;subst f;obtain l1:=aI.iy e4;have l2:=aI.iy m;simp only[Sw] at l1 l2;refine gl (q.R (X:=NX) {cls:=.type "tuple",data:=.seq<|z++c} H) λM T E_=>?_;obtain ne:∀vs(xs:Array aL),vs≠[]->O vs=xs.size->¬xs.isEmpty=true:=λvs xs j G k=>by
    rw[Array.isEmpty_iff_size_eq_zero] at k;exact j<|xW.mp<|G.trans k
   exact P.add_tuple e3 L (ne _ _ B.1 l1) (ne _ _ B.2.1 l2) (cK.B M T B.2.2.2 ⟨_,z++c,H,.inr H,HR _ _,by rw[a7m];exact aI.F E_ _ _<|aI.append e4 m⟩)<|my<|aO l1<|aO l2 B.2.2.1)
  |_=>exact B.elim
 |r us=>exact fS<|.inl ⟨_,H⟩
 |d l=>exact fS<|.inr ⟨_,H⟩
 |_=>exact B.elim
def KD(t:aD w g σ h)(F:A.units+20<ie){x y:AV}{u v:aL}{b:Bool->Bool}{S:CmpOp}(ho:(S=.Eq/\b=id)\/(S=.NotEq/\b=not))(ex:aG w g h x u)(R:aG w g h y v)(B:sG σ x y λr=>K (.e<|b r) σ):
 Run w A s₀ NX g σ h (xL S u v) (VR w) K:=by
 unfold sG at B;rcases q:jy σ x with _|es
 .rw[q] at B;rcases ho with⟨rfl,rfl⟩|⟨rfl,rfl⟩;.exact Wi t B.1 ex R (uc F H) B.2
  .exact VT t B.1 ex R (uc F H) B.2
 .refine gl (q▸B) λm n c=>?_;unfold pK at c;rcases i:jy σ y with _|es';.obtain c:=i▸c;exact c.elim
  .obtain c:=i▸c
   refineλtk=>qM (sX t ex q) λs z C D f D1=>?_
   clear ex q;subst f;refine qM (sX t R i) λE G J L f D2=>?_;clear R i;subst f;obtain D1:=m▸D1;obtain D2:=n▸D2;refine eW (D1.dictOf (s₀:=s₀) tk) λj k l o=>eW (D2.dictOf (s₀:=s₀) tk) λkb l1 l2 p=>?_;obtain d:O j=O kb->KeqHits A.in1 (cy s₀ h tk) kb j true:=λM=>u_ t (by simp only[uL];exact rM F H) l2 p l o c.2.1;obtain e:O j=O kb:=by
    obtain a:=be O l;obtain b:=be O l2;simp at a b;exact a.trans<|c.1.trans b.symm
   rcases ho with⟨rfl,rfl⟩|⟨rfl,rfl⟩;.apply keq_eq D1.e D2.e k l1 (rN F) d;rw[e];simp only[beq_self_eq_true];exact cK.t t c.2.2<|by rfl
   .apply keq_ne D1.e D2.e k l1 (rN F) d;rw[e];simp only[beq_self_eq_true,wc];exact cK.t t c.2.2<|by rfl
def Ky(t:aD w g σ h)(R:A.units+20<ie){x y:AV}{u v:aL}{b:Bool->Bool}{F:CmpOp}(ho:(F=.In/\b=id)\/(F=.NotIn/\b=not))(ex:aG w g h x u)(S:aG w g h y v)(B:rj σ x y λr=>K (.e<|b r) σ):
 Run w A s₀ NX g σ h (xL F u v) (VR w) K:=by
 unfold rj at B;rcases q:iL σ y with _|vs
 .rw[q] at B;rcases c:jy σ y with _|es;.obtain B:=c▸B;exact B.elim
  .rw[c] at B;exact Wc t R S c B.1 ex ho B.2
 .rw[q] at B;exact Wb t R S q B.1 ex ho B.2
def aG.isNone(e:aG w g h x u):(u==.none)=isNone x:=by
 induction x using AV.casesOn;.exact e.elim
 .subst e;rfl
 .subst e;rfl
 .obtain⟨t,rfl⟩:=e;rfl
 .obtain⟨t,rfl⟩:=e;rfl
 .obtain⟨a,_,rfl,_⟩:=e;rfl
 .obtain⟨a,_,_,rfl,_⟩:=e;rfl
 .refine qM e λa b b b c b=>?_;subst c;rfl
 .obtain⟨rfl,_⟩:=e;rfl
def AP{P:Int->Int->Prop}(q:match x with|.a a=>(match y with|.a b=>P a b|_=>False)|_=>False)(ex:aG w g h x u)(F:aG w g h y v):∃a b t B,u=.int a t/\v=.int b B/\P a b:=by
 induction x using AV.casesOn<;>try exact q.elim
 induction y using AV.casesOn<;>try exact q.elim
 obtain⟨t,rfl⟩:=ex;obtain⟨B,rfl⟩:=F;exact⟨_,_,t,B,H,H,q⟩
def KE{o}(q:aD w g σ h)(R:A.units+20<ie)(ex:aG w g h x u)(F:aG w g h y v)(B:eZ σ o x y λr=>K r σ):Run w A s₀ NX g σ h (xL (qV o) u v) (VR w) K:=by
 obtain bD:∀b tk,K (.e b) σ->cK w NX g σ h s₀ (VR w) K (.bool b) (cy s₀ h tk):=λb tk i=>cK.t q i (by rfl);cases o with
 |eq=>exact KD q R (.inl ⟨H,H⟩) ex F B
 |ne=>exact KD q R (.inr ⟨H,H⟩) ex F B
 |lt=>refine nc (AP B ex F) λa b t f c d e=>?_;subst c;subst d;exactλtk=>lt_int<|bD _ _ e
 |le=>refine nc (AP B ex F) λa b t f c d e=>?_;subst c;subst d;exactλtk=>le_int<|bD _ _ e
 |gt=>refine nc (AP B ex F) λa b t f c d e=>?_;subst c;subst d;exactλtk=>gt_int<|bD _ _ e
 |ge=>refine nc (AP B ex F) λa b t f c d e=>?_;subst c;subst d;exactλtk=>ge_int<|bD _ _ e
 |a=>exact Ky q R (.inl ⟨H,H⟩) ex F B
 |b=>exact Ky q R (.inr ⟨H,H⟩) ex F B
 |B2=>
  induction y using AV.casesOn<;>try exact B.elim
  subst F
  refineλtk=>is_none_gen ?_
  rw[aG.isNone ex];exact bD _ _ B
 |d=>
  induction y using AV.casesOn<;>try exact B.elim
  obtain rfl:=F
  refineλtk=>isnot_none_gen ?_
  rw[aG.isNone ex];exact bD _ _ B
set_option tactic.hygienic true
def Uy(q)(o i):∃t,subscripted q am o i=operate t (xJ o i):=by
 induction q using Expr.casesOn
 case Slice a b c p=>induction c using Option.casesOn<;>exact⟨_,H⟩
 all_goals exact⟨_,H⟩
def tX{o i id}(t:∀tk,(cy s₀ h tk).TypeIs o T)(B:typeLookup (.type T) "__getitem__"=pure (I<|.builtin id))(r:Run w A s₀ NX g σ h (xJ o i) (VR w) K):
 Run w A s₀ NX g σ h (HW A_ q o i) (VR w) K:=by
 refineλtk=>bc (Uy q o i) λd e=>aW (aW<|QZ (t tk) B<|bQ<|aW ?_)
 rw[e];exact wpAny_operating<|ff (r tk) (λr c b=>aW<|a5v<|bQ b) λf f x=>x
def a1e:typeLookup (.type "dict") "__getitem__"=pure (I<|.builtin "dict.__getitem__"):=Q4.lookup
def N7{P:Int->Prop}(h:match y with|.a i=>P i|_=>False):∃i,y=.a i/\P i:=by
 induction y using AV.casesOn<;>first|exact h.elim|exact⟨_,H,h⟩
def UF{P:Str->Prop}(h:match y with|.f i=>P i|_=>False):∃i,y=.f i/\P i:=by
 induction y using AV.casesOn<;>first|exact h.elim|exact⟨_,H,h⟩
inductive CO(σ:av)(x y:AV)(K:AV->Prop):Prop
 |seq {vs:List AV} {i:Int} {j:Nat} {z:AV}:iL σ x=some vs->y=.a i->vs.length<=aR->o8 vs.length i=some j->vs[j]?=some z->K z->CO σ x y K
 |map {es:List<|AV×AV} {z:AV}:jy σ x=some es->dK (jO σ x) y=true->dL es y=some z->K z->CO σ x y K
 |str {s:Str} {i:Int} {c:Nat}:x=.f s->y=.a i->0<=i->i<=1000->s.cps[i.toNat]?=some c->K (.f ⟨#[c]⟩)->CO σ x y K
def Ux{K}:gL σ x y K->CO σ x y K:=by
 unfold gL;cases q:iL σ x with
 |some vs=>
  refineλb=>aA (N7 b.2) λi d=>?_
  cases e1:o8 (O vs) i with
  |none=>exact tL
  |some j=>
   refine(?_:(match vs[j]? with|some v=>K v|.none=>False)->_);cases f:vs[j]? with
   |none=>exact tL
   |some z=>exact .seq q d b.1 e1 f
 |none=>
  cases g:jy σ x with
  |some es=>
   refineλb=>bY b λk=>?_
   cases e:dL es y with
   |none=>exact tL
   |some z=>exact .map g k e
  |none=>
   refineλb=>aA (UF b) λs ex h=>aA (N7 h) λi d h=>gl h λl m=>?_
   cases e:s.cps[cY i]? with
   |none=>exact tL
   |some c=>exact .str ex d l m e
theorem VH(B:aD w g σ h)(hu:A.units+20<ie){A_ S:Expr}{x y:AV}{u v:aL}(ex:aG w g h x u)(ey:aG w g h y v)(R:gL σ x y λr=>K r σ):Run w A s₀ NX g σ h (HW A_ S u v) (VR w) K:=by
 cases Ux R with
 |@seq vs i j b q e C m Q R=>
  exact bc (e▸ey:aG w g h (.a i) v) λt ev=>ev▸ox (wQ B ex q) λa z n e3 e1 X=>have r:=(by
   refine ox (wQ B ex q) λa z n G e1 J=>?_;subst G;have k:O vs=z.size:=by have:=aI.iy J;simpa using this
   refine mm (q! m) λl U E h4=>aA (aI.S J Q) λval T L=>?_;have p:z[j]?=I val:=by rw[<-AC];exact T
   rw[k] at l E h4 C;intro tk;clear m Q J k U T;rcases e1 with e1|e1;.exact P.getItem_tuple e1 (Oh C E H) (B8 C h4 H) l p<|cK.t B R L
   .by_cases f:i<0
    .have:j=cY (i+z.size):=by rw[seqIndex_neg f E] at l;exact(fg l).symm
     subst this;exact wpAny_getItem_list_neg e1.isList f E (Oh C E H) p<|cK.t B R L
    .have:j=cY i:=by rw[Q7 (rg.mp f) h4] at l;exact(fg l).symm
     subst this;exact wpAny_getItem_list e1.isList (rg.mp f) (B8 C h4 H) p<|cK.t B R L)
   e1.elim (λe1=>tX (λtk=>e3▸⟨_,e1,H⟩) HX.lookup r) λe1=>tX (λtk=>e3▸⟨_,e1,H⟩) Hy r
 |map q V m R=>exact qM (sX B ex q) λa D n o e d=>tX (λtk=>ay e<|d.typeIs tk) a1e<|Wf B hu ex q V ey m R
 |@str s i c e W M l m R=>exact bc (e▸ex:aG w g h (.f s) u) λt ev=>bc (W▸ey:aG w g h (.a i) v) λY N=>ev▸N▸(by
  refine tX (λtk=>typeIs_str _ s t) F.slot_str_getitem.lookup λtk=>P.getItem_str ?_ ?_ (cK.t B R (⟨_,H⟩:aG w g h (.f ⟨#[c]⟩) _));.simp;exact⟨Gb M H,zh l H⟩
  .rw[Q7 M<|(Dn M).mp (Array.getElem?_eq_some_iff.mp m).1];exact m)
def CS(w:cR)(v:AV)(c:Const):Prop:=∀{A:nZ}{s₀:bT}{g σ h env k p}{K:AV->av->Prop},aD w g σ h->K v σ->Run w A s₀ NX g σ h (eval (.Constant c k p) env) (VR w) K
def cE(w):(v:AV)->(c:Const)->Ev (CS w v c)
 |.j,c=>match c with|.none=>.c (λf g i=>bQ<|cK.t f g<|by rfl)|_=>.g
 |.e b,c=>match c with|.bool d=>.B (b==d) λe=>.c ((λf g i=>by cases dV.mp e;exact bQ<|cK.t f g<|by rfl))|_=>.g
 |.a b,c=>match c with|.int d=>.B (decide<|b=d) λe=>.c ((λf g i=>by cases Y e;exact wpAny_Constant_int<|cK.t f g<|⟨_,H⟩))|_=>.g
 |.f b,c=>match c with|.str d=>.B (decide<|b=d) λe=>.c ((λf g i=>by cases Y e;exact Constant_str<|cK.t f g<|⟨_,H⟩))|_=>.g
 |_,_=>.g
def a21{o l i K}(q:u4 (λt=>o) (.d l) (.a i) K):∃vs,o=I (.b vs)/\0<=i/\O vs<=aR/\K (.r<|vs.drop<|cY i):=by
 cases o with
 |none=>exact q.elim
 |some o=>induction o using eE.casesOn<;>first|exact⟨_,H,q⟩|exact q.elim
def a2Z{o l i K}(q:wy (λt=>o) (.d l) (.a i) K):∃vs,o=I (.b vs)/\0<=i/\O vs<=aR/\K (.r<|vs.take<|cY i):=by
 cases o with
 |none=>exact q.elim
 |some o=>induction o using eE.casesOn<;>first|exact⟨_,H,q⟩|exact q.elim
def a20{K}(t:u4 σ x y K):∃i vs,y=.a i/\(∀q,x≠.B q)/\iL σ x=I vs/\0<=i/\O vs<=aR/\K (.r<|vs.drop<|cY i):=by
 induction y using AV.casesOn<;>try exact t.elim
 induction x using AV.casesOn
 case r=>exact⟨_,_,H,(λq c=>nomatch c),H,t⟩
 case d l=>exact aA (a21 (l:=l) t) λvs e h=>⟨_,vs,H,(λq c=>nomatch c),be (λo=>iL (λb=>o)<|.d l) e,h⟩
 all_goals exact t.elim
def a2Y{K}(t:wy σ x y K):(∃i vs,y=.a i/\(∀q,x≠.B q)/\iL σ x=I vs/\0<=i/\O vs<=aR/\K (.r<|vs.take<|cY i))\/∃vs,x=.B vs/\y=.a (-1)/\2<=O vs/\O vs<=aR/\K (.B<|vs.take<|O vs-1):=by
 induction y using AV.casesOn<;>try exact t.elim
 induction x using AV.casesOn
 case B=>exact .inr ⟨_,H,be AV.a t.1,t.2⟩
 case r=>exact .inl ⟨_,_,H,(λq c=>nomatch c),H,t⟩
 case d l=>exact .inl<|aA (a2Z (l:=l) t) λvs e h=>⟨_,vs,H,(λq c=>nomatch c),be (λo=>iL (λb=>o)<|.d l) e,h⟩
 all_goals exact t.elim
def Wm(B:aD w g σ h){A_ F:Expr}{x y:AV}{u v:aL}{sl:Addr}(ex:aG w g h x u)(S:aG w g h y v)(hs:h.IsSliceOf sl .none v .none)(R:wy σ x y λr=>K r σ):Run w A s₀ NX g σ h (HW A_ F u<|.ref sl) (VR w) K:=by
 rcases a2Y R with R|⟨vs,rfl,rfl,s,D,G⟩
 .exact o6 R λi vs e o q R=>bc (e▸S:aG w g h (.a i) v) λt ev=>ox (ue B ex o q) λa z n d e1 p=>tX (λtk=>ay d ⟨_,e1,H⟩) Hy<|(by
   refineλtk=>ox (ue B ex o q) λa z n f e1 c=>?_
   subst f;refine bc (Ip R.1) λj k=>?_;subst k;refine gl (B.R {cls:=.type "list",data:=.seq<|zW z C (I j) C} H) λl T E_=>a5w e1.isList (ev▸hs) .none (.int _ _) .none (by simp) (cK.B l T R.2.2 ⟨_,zW z C (I j) C,0,H,.inr H,Db _ _,?_⟩) (my<|((by have:=aI.iy c;simpa using this)▸R.2.1));obtain J:(zW z C (I j) C).toList=z.toList.take j:=by rw[slicePick_upto']
   rw[J];exact(aI.F E_ _ _<|aI.yl j c))
 .exact bc S λt ev=>have r:=(by
   refineλtk=>o6 ex λa z m p e1 c=>?_
   subst m;have b:O vs=z.size:=by have:=aI.iy c;simpa using this
   refine gl (B.R {cls:=.type "tuple",data:=.seq (z.toList.take<|z.size-1).toArray} H) λl T E_=>a0u (IsT.B e1) (aO ev hs) (b▸je s) (cK.B l T G ⟨_,_,H,.inr H,HR _ _,?_⟩)<|my<|b▸D;rw[b];exact aI.F E_ _ _<|aI.yl _ c)
   ox (wQ B ex H) λa z n d e1 p=>e1.elim (λe1=>tX (λtk=>d▸⟨_,e1,H⟩) HX.lookup r) λe1=>tX (λtk=>d▸⟨_,e1,H⟩) Hy r
def Wn(B:aD w g σ h){A_ F:Expr}{x y:AV}{u v:aL}{sl:Addr}(ex:aG w g h x u)(S:aG w g h y v)(hs:h.IsSliceOf sl v .none .none)(R:u4 σ x y λr=>K r σ):Run w A s₀ NX g σ h (HW A_ F u<|.ref sl) (VR w) K:=
 o6 (a20 R) λi vs e b q R=>bc (e▸S:aG w g h (.a i) v) λt ev=>
  ox (ue B ex b q) λa z n c e1 d=>tX (λtk=>ay c ⟨_,e1,H⟩) Hy (VW B ex b q (aO ev hs) R.1 R.2.1 R.2.2)
set_option tactic.hygienic false
def Wu(q:aD w g σ h){e:Expr}{rest:List Expr}{pos:Pos}{P:AV->av->Prop}{K:List AV->av->Prop}(S:kf (e::rest) env=(am,eval e env)::kf rest env)(r:Run w A s₀ NX g σ h (eval e env) (VR w) P)(k:∀x v B t F,P x t->aG w B F x v->aD w B t F->Tr NX g σ h B t F->Run w A s₀ NX B t F (qY<|nE pos<|kf rest env) (si w) λxs R=>K (x::xs) R):
 Run w A s₀ NX g σ h (qY<|nE pos<|kf (e::rest) env) (si w) K:=by
 refineλtk=>spliced_more (ff (r tk) (λv s d=>?_) λo o x=>x) S
 obtain⟨x,t,B,F,i,rfl,z,u,b,c⟩:=d;refine ff (k x v B t F z u b c i) (λvs y d=>?_) λo o x=>x;obtain⟨xs,R,l,m,j,rfl,C,p,n,f⟩:=d;exact⟨x::xs,R,l,m,j,H,C,aI.cons (aG.F (f.t b) _ _ u) p,n,c.q f⟩
def Qk{l}(t:∀p∈l,p.1=am)(p)(h:p∈nE pos l):p.1=false:=aA (bp.mp h) λq hq e=>(be HZ e).symm.trans<|t q hq
def a0W{Q l}(t:∀p∈l,p.1=am)(h:cA (MM w) A (qY l) (λvs q=>Q ⟨vs,[]⟩ q) E_ s):cA (MM w) A (Rd f U l []) Q E_ s:=by
 cases l with
 |nil=>exact(aW<|ff h (λvs q d=>aW<|bQ<|jC<|aW<|bQ<|aW<|bQ<|bQ d) λc c x=>x)
 |cons p r=>exact Sr (motive:=λb=>cA (MM w) A (qY<|(b,p.2)::r) (λvs q=>Q ⟨vs,[]⟩ q) E_ s->cA (MM w) A (Rd f U ((b,p.2)::r) []) Q E_ s) evalArgs_plain (t p aZ).symm h
def KC{es P}(q:∀p∈kf es env,p.1=am)(r:Run w A s₀ NX g σ h (qY<|nE pos<|kf es env) (si w) P):
 Run w A s₀ NX g σ h (Rd f U (nE pos<|kf es env) []) (λxs a g h=>a.kw=[]/\aI w g h xs a.pos) P:=by
 refineλtk=>a0W (Qk q) (ff (r tk) (λvs s d=>?_) λn n x=>x)
 obtain⟨xs,b,i,j,c,e,o,m,k,l⟩:=d;exact⟨xs,b,i,j,c,e,o,⟨H,m⟩,k,l⟩
noncomputable def YI:List String:=["bound","deeper","fits","force","go","lies","params","put","store","turn"]
def vq(i:Nat):Str:=cv<|YI[i]?.getD ""
def YH:((cO 10).all λi=>(cO 50).all λj=>!(f8 j==vq i))=true:=by decide+kernel
theorem iU.Mh{n}(q:∀j,j<50->(f8 j==n)=am):∀{fs D},iU w g h fs D->D.find? (·.key.isStr n)=C
 |[],D,e=>by subst e;rfl
 |(k,u)::r,D,e=>by
  refine rV λc d=>?_;obtain⟨a,b,i,rfl,e1,l,e3,e4,f⟩:=e;apply d;rw[R8];obtain this:a.key.isStr n=false:=by rw[e1];exact q k e3
  rw[this];exact iU.Mh q f
def YS(P):(C7 (KF P) 140&&(C7 (KF P) 397&&(C7 (KF P) 917&&C7 (KF P) 355)))=true:=by kernel_rfl
def Mo(P)(c):C7 (KF P) (iR c)=true:=by
 obtain h:=YS P;simp only[eB] at h
 match c with
 |0=>exact h.1
 |1=>exact h.2.1
 |2=>exact h.2.2.1
 |_+3=>exact h.2.2.2
set_option tactic.hygienic true
def Kz{Q a b}(r:Run w A s₀ NX g σ h t BR Kb)(k:∀c B q F,Kb c q->aD w B q F->Tr NX g σ h B q F->Run w A s₀ NX B q F (if c=U then a else b) R Q):Run w A s₀ NX g σ h (t>>=λc=>if c=U then a else b) R Q:=
 r.q λb v B q F e hR d T=>by
  have:=hR;subst this;exact k b B q F e d T
def Ww{x y}(r:Run w A s₀ NX g σ h x (VR w) λv t=>c7 t v λc=>if c=U then N t else K v t)(k:∀B t F,N t->aD w B t F->Tr NX g σ h B t F->Run w A s₀ NX B t F (C3 pos .And<|y::rest) (VR w) K):Run w A s₀ NX g σ h (C3 pos .And<|x::y::rest) (VR w) K:=by
 refine r.q λb v B t F f hR d T=>Run.B<|Run.q (Run.F<|yw d hR (Kb:=λc e=>e=t/\if c=U then N t else K b t) ?_) λc p l e m i j n o=>?_
 .unfold c7 at f⊢;rcases q:wD t b with _|c;.obtain f:=q▸f;exact f.elim
  .obtain f:=q▸f;exact⟨f.1,H,f.2⟩
 .have:=j;clear r f j;subst this;obtain⟨rfl,i⟩:=i;rcases c with _|_;.exact Run.pure n i (aG.F (o.t d) _ _ hR)
  .exact k _ _ _ i n<|T.q o
def VO{x y}(r:Run w A s₀ NX g σ h x (VR w) λv t=>c7 t v λc=>if c=U then K v t else N t)(k:∀B t F,N t->aD w B t F->Tr NX g σ h B t F->Run w A s₀ NX B t F (C3 pos .Or<|y::rest) (VR w) K):Run w A s₀ NX g σ h (C3 pos .Or<|x::y::rest) (VR w) K:=by
 refine r.q λb v B t F f hR d T=>Run.B<|Run.q (Run.F<|yw d hR (Kb:=λc e=>e=t/\if c=U then K b t else N t) ?_) λc p l e m i j n o=>?_
 .unfold c7 at f⊢;rcases q:wD t b with _|c;.obtain f:=q▸f;exact f.elim
  .obtain f:=q▸f;exact⟨f.1,H,f.2⟩
 .have:=j;clear r f j;subst this;obtain⟨rfl,i⟩:=i;rcases c with _|_;.exact k _ _ _ i n (T.q o)
  .exact Run.pure n i<|aG.F (o.t d) _ _ hR
def Wp{o l r}(S:HG (qV o) r=am)(hu:A.units+20<ie)(rl:Run w A s₀ NX g σ h (eval l env) (VR w) P)(k:∀x B t F,P x t->aD w B t F->Tr NX g σ h B t F->Run w A s₀ NX B t F (eval r env) (VR w) λy R=>eZ R o x y λq=>K q R):Run w A s₀ NX g σ h (eval (.Compare l [qV o] [r] pos) env) (VR w) K:=by
 rw[arm_eval_Compare,(show markedEach [qV o] [r] (Rc [r] env)=[eval r env] from by
  show[markedBehindIn (qV o) r<|eval r env]=_;rw[a5E S])]
 exact rl.q λx u B t F n hR b c=>Run.q (Run.F<|k x B t F n b c) λy v j R m f i d e=>Run.B<|Run.operate<|KE d hu (aG.F (e.t b) _ _ hR) i f
def TK(Kx:Bool->AV->av->Prop)(c:Bool)(σ:av):Prop:=∃x,wD σ x=I c/\Kx c x σ
def TK.B(h:c7 σ x λc=>Kx c x σ):c7 σ x λc=>TK Kx c σ:=by
 unfold c7 at h⊢;rcases q:wD σ x with _|c;.obtain h:=q▸h;exact h.elim
 .obtain h:=q▸h;exact⟨h.1,x,q,h.2⟩
def TK.F{K c}(q:wD σ x=I c)(h:c7 σ x K):K c:=by
 unfold c7 at h;exact(q▸h).2
def VG{o l r}(S:HG (qV o) r=am)(hu:A.units+20<ie)(rl:Run w A s₀ NX g σ h (eval l env) (VR w) P)(k:∀x F t R,P x t->aD w F t R->Tr NX g σ h F t R->Run w A s₀ NX F t R (eval r env) (VR w) λy B=>eZ B o x y λq=>c7 B q λb=>Kx b q B):Run w A s₀ NX g σ h (isTrue (.Compare l [qV o] [r] pos) env e) BR<|TK Kx:=by
 obtain m:markedEach [qV o] [r] (Rc [r] env)=[eval r env]:=by
  show[markedBehindIn (qV o) r<|eval r env]=_;rw[a5E S]
 rw[arm_isTrue_Compare,m];exact rl.q λx u F t R K hR c d=>Run.q (Run.F<|k x F t R K c d) λy v E B G n p f i=>Run.B<|Run.q (Run.operate<|KE f hu (aG.F (i.t c) _ _ hR) p n) λq L H s I C D j J=>Run.F<|yw j D<|TK.B C
def VY{x}(r:Run w A s₀ NX g σ h (isTrue x env<|eval x env) BR λb q=>Kb (!b) q):Run w A s₀ NX g σ h (isTrue (.UnaryOp .Not x pos) env e) BR Kb:=r.q λb v d q f i hR c T=>by
 have:=hR;subst this;exact Run.pure c i H
def KJ{x rest}(r:Run w A s₀ NX g σ h (isTrue x env<|eval x env) BR λc q=>if c=U then N q else Kb am q)(k:∀t q B,N q->aD w t q B->Tr NX g σ h t q B->Run w A s₀ NX t q B (z4 .And rest env) BR Kb):Run w A s₀ NX g σ h (z4 .And (x::rest) env) BR Kb:=by
 refine r.q λb v t q B e hR d T=>?_;have:=hR;clear r hR;subst this;rcases b with _|_;.exact Run.pure d e H
 .exact k _ _ _ e d T
def KH{x rest}(r:Run w A s₀ NX g σ h (isTrue x env<|eval x env) BR λc q=>if c=U then Kb U q else N q)(k:∀t q B,N q->aD w t q B->Tr NX g σ h t q B->Run w A s₀ NX t q B (z4 .Or rest env) BR Kb):Run w A s₀ NX g σ h (z4 .Or (x::rest) env) BR Kb:=by
 refine r.q λb v t q B e hR d T=>?_;have:=hR;clear r hR;subst this;rcases b with _|_;.exact k _ _ _ e d T
 .exact Run.pure d e H
def KI(q:aD w g σ h)(t:Kb (B==.And) σ):Run w A s₀ NX g σ h (z4 B [] env) BR Kb:=Run.pure q t H
def Qn{f}{l:a7}{K:AV->Prop}(h:oe σ (.d l) f K):∃c fs y,σ l=I (.d c fs)/\ut fs f=I y/\K y:=by
 revert h;refine(?_:oe (λ_=>σ l) (.d l) f K->_);rcases σ l with _|o;.exact tL
 .induction o using eE.casesOn<;>try exact tL
  rename_i c fs;refine(?_:(match ut fs f with|some v=>K v|.none=>False)->_);rcases b:ut fs f with _|y;.exact tL
  .exactλh=>⟨c,fs,y,H,b,h⟩
def WL{o f}(B:∀t,C4 o (f8 f) env t=t)(F:f<50)(r:Run w A s₀ NX g σ h (eval o env) (VR w) λx q=>oe q x f λv=>K v q):Run w A s₀ NX g σ h (eval (.Attribute o (f8 f) pos) env) (VR w) K:=by
 rw[arm_eval_Attribute,B];refine r.q λb v m q n e hR d T=>Run.B ?_;induction b using AV.casesOn<;>try exact e.elim
 rename_i l;obtain⟨c,fs,y,u,z,e⟩:=Qn e;exact Run.q (Run.F<|KA d hR u F z e) λc D p i s j k C E tk=>aW<|a5v<|bQ<|cK.t C j k
abbrev QG(w:cR)(S:Addr->aL->Heap->Prop):AV->aL->Gh->Heap->Prop:=λy sl g h=>∃a b,sl=.ref a/\aG w g h y b/\S a b h
def Wx{a b}(rl:Run w A s₀ NX g σ h (eval a env) (VR w) P)(k:∀x F B S,P x B->aD w F B S->Tr NX g σ h F B S->Run w A s₀ NX F B S (eval b env) (VR w) λy t=>wy t x y λq=>K q t):Run w A s₀ NX g σ h (eval (.Subscript a (.Slice C (I b) C p') pos) env) (VR w) K:=by
 refine rl.q λx u F B S N hR i p=>Run.q (R:=QG w λa M h=>h.IsSliceOf a .none M .none) (K:=λy t=>wy t x y λq=>K q t) (Run.F ?_) λy v r t s l m e f=>Run.B ?_
 .refineλtk=>aW (bQ<|aW<|jC<|ff (k x F B S N i p tk) (λv O d=>?_) λJ J x=>x)
  obtain⟨y,t,r,s,n,rfl,l,m,e,f⟩:=d;refine aW<|jC<|bQ<|ff (Kv e (K:=λJ c=>c=t) H n) (λT O d=>?_) λJ J x=>x;obtain⟨_,c,D,E,o,rfl,rfl,⟨sl,rfl,e1⟩,G,j⟩:=d;exact⟨y,c,D,E,o,H,l,⟨sl,v,H,aG.F (j.t e) _ _ m,e1⟩,G,f.q j⟩
 .refine gy m λsl M L e1 Q=>?_;subst L;exact Wm e (aG.F (f.t i) _ _ hR) e1 Q l
def WB{a b}(rl:Run w A s₀ NX g σ h (eval a env) (VR w) P)(k:∀x F B S,P x B->aD w F B S->Tr NX g σ h F B S->Run w A s₀ NX F B S (eval b env) (VR w) λy t=>u4 t x y λq=>K q t):Run w A s₀ NX g σ h (eval (.Subscript a (.Slice (I b) C C p') pos) env) (VR w) K:=by
 refine rl.q λx u F B S N hR i p=>Run.q (R:=QG w λa M h=>h.IsSliceOf a M .none .none) (K:=λy t=>u4 t x y λq=>K q t) (Run.F ?_) λy v r t s l m e f=>Run.B ?_
 .refineλtk=>aW (ff (k x F B S N i p tk) (λv O d=>?_) λJ J x=>x)
  obtain⟨y,t,r,s,n,rfl,l,m,e,f⟩:=d;refine aW<|jC<|bQ<|aW<|jC<|bQ<|ff (Kv e (K:=λJ c=>c=t) H n) (λT O d=>?_) λJ J x=>x;obtain⟨_,c,D,E,o,rfl,rfl,⟨sl,rfl,e1⟩,G,j⟩:=d;exact⟨y,c,D,E,o,H,l,⟨sl,v,H,aG.F (j.t e) _ _ m,e1⟩,G,f.q j⟩
 .refine gy m λsl M L e1 Q=>?_;subst L;exact Wn e (aG.F (f.t i) _ _ hR) e1 Q l
def Zf{v:List α}{n}(h:n∉l):(l.zip v).lookup n=none:=
 List.lookup_eq_none_iff.mpr λp b=>bne_iff_ne.mpr λe=>h (ay e<|(R1 b).1)
def ME{v:List α}{n}(h:n∈l)(q:O l<=O v):dA ((l.zip v).lookup n)=true:=
 List.lookup_isSome_iff.mpr (aA (bp.mp<|Eq.mpr (be (n∈·)<|List.map_fst_zip q) h) λp b e=>⟨p,b,dV.mpr e.symm⟩)
set_option tactic.hygienic false
def a0M{D!:Str->Option α}:∀{v},cg l->O l=O v->(∀n∈l,D! n=(l.zip v).lookup n)->l.filterMap (λn=>(D! n).map (n,·))=l.zip v:=by
 induction l with
 |nil=>exactλc c c=>H
 |cons k r i=>
  intro v d f g;cases v with
  |nil=>cases f
  |cons a v=>
   rw[Sb,(g k aZ).trans (oN.trans (by rw[beq_self_eq_true]):(((k,a)::r.zip v).lookup k)=I a)];refine be ((k,a)::·)<|i (fh.mp d).2 (Df f) λn b=>(g n<|bK _ b).trans ?_;show R3 n ((k,a)::r.zip v)=_;rw[oN,beq_eq_false_iff_ne.mpr (λe:n=k=>(fh.mp d).1<|aO e b)]
noncomputable def tt(m:Nat)(z_ z!:List aL):List Value:=z_++z!.drop (O z!-(m-O z_))
def a4X{N M d:Nat}(h:d<=N+M)(k:M<=d):N-(N+M-d)=d-M:=by
 obtain⟨e,rfl⟩:=Nat.exists_eq_add_of_le k;rw[uP,qk N M,Nat.add_sub_add_left,RJ<|a6v<|qk N M▸h]
def a4W{N M d:Nat}(k:M<=d):N+M-d-N=0:=H1<|Nat.sub_le_of_le_add<|jq k N
def a3R{y_:List Str}(F:cg y_)(t:z_.length<=y_.length)(q:y_.length-z_.length<=z!.length)(B:z!.length<=y_.length){n}:
 ((y_.zip z_).lookup n).or (((y_.drop<|y_.length-z!.length).zip z!).lookup n)=(y_.zip<|tt y_.length z_ z!).lookup n:=by
 obtain⟨N,M,rfl,b⟩:∃N M,y_=N++M/\N.length=z_.length:=⟨y_.take z_.length,y_.drop z_.length,(xU ..).symm,by rw[xV];exact pF t⟩;obtain e1:(N++M).zip z_=N.zip z_:=by
  have:=H7 (r₁:=M) (r₂:=([]:List aL)) b;obtain this:=(jG ..)▸this;rw[this];simp
 rw[e1,H7 b,Ii];by_cases c:n∈N;.refine bc (v0.mp<|ME c<|gG b) λx d=>?_;rw[d];rfl
 .obtain q:=(eK ..)▸q;obtain q:=jg (b ..)▸q;obtain q:=(uP ..)▸q;rw[eK];obtain f:N.length+M.length-z_.length=M.length:=by rw[<-b,uP]
  rw[((show(N++M).drop (N.length+M.length-z!.length)=N.drop (N.length+M.length-z!.length)++M from by
   rw[List.drop_append];rw[a4W q];rfl)),f]
  obtain hz:=H7 ((show(N.drop<|N.length+M.length-z!.length).length=(z!.take<|z!.length-M.length).length from by rw[Ar,xV,pF<|pE ..];exact a4X (eK▸B) q));rw[<-((xU ..).symm)] at hz;rw[hz,Ii,Zf λe=>c<|Ic e,Option.none_or]
def S0(f)(t:∀n d slots,f (n,d) slots=if(slots.lookup n).isNone=U then pure (.yield<|slots++[(n,d)]) else pure<|.yield slots)(l slots:List<|Str×aL)(Q)(h:∀r,(∀n,r.lookup n=(slots.lookup n).or (l.lookup n))->Q r s):cA M A (forIn l slots f) Q E_ s:=by
 induction l generalizing slots with
 |nil=>exact bQ<|h slots λn=>Option.or_none.symm
 |cons p r e=>
  rw[Dj,t p.1 p.2] at⊢;by_cases q:(slots.lookup p.1).isNone=U;.rw[ak q];refine aW<|bQ<|e _ λb c=>h b λn=>(c n).trans ?_;rw[Ii,Option.or_assoc,oN,oN];cases n==p.1<;>rfl
  .rw[Z q];refine aW<|bQ<|e _ λb c=>h b λn=>(c n).trans ?_;rw[oN (k:=p.1)];cases g:n==p.1;.rfl
   .rw[dV.mp g];cases i:slots.lookup p.1;.rw[i] at q;exact aP H q
    .rfl
def DE{c}[Decidable c]{a b}{Q:α->bT->Prop}(q:¬c)(t:cA M A b Q E_ s):cA M A (if c then a else b) Q E_ s:=by rw[Z q];exact t
def II{b:β}{f:α->β->Sem (ForInStep β)}{Q:β->bT->Prop}(h:Q b s):cA M A (forIn ([]:List α) b f) Q E_ s:=bQ h
def Yq{y_:List Str}(q:z_.length<=y_.length)(t:y_.length-z_.length<=z!.length)(B:z!.length<=y_.length):
 ((y_.take<|y_.length-(z!.drop<|z!.length-y_.length).length).filter λn=>((y_.zip z_).lookup n).isNone)=[]:=by
 rw[((show z!.drop (z!.length-y_.length)=z! from by rw[H1 B];rfl)),Sa] at⊢;intro n b;rw[((show y_.zip z_=(y_.take z_.length).zip z_ from by
  have:=H7 (r₁:=y_.drop z_.length) (r₂:=([]:List aL))<|ay xV<|pF q;rw[xU,jG] at this;rw[this,List.zip_nil_right,jG])),Option.isNone_eq_false_iff.mpr<|ME (List.take_subset_take_left _ (Nat.sub_le_iff_le_add'.mpr<|RM.mp t) b)<|xV▸uM ..]
 exact eS
def a3S{m}(q:O z_<=m)(t:m-O z_<=O z!):O (tt m z_ z!)=m:=by
 rw[eK,Ar];exact JE q t
def S3{y! Q}(F:fd.params=⟨[],y!,C,[],[],C,C!⟩)(q:cg<|y!.map (·.arg))(hd:∀Q,(∀r,(r.getD #[]).toList=z!->Q r s)->cA M A (seqItems? fd.defaults) Q E_ s)(t:O z_<=O y!)(B:O y!-O z_<=O z!)(R:O z!<=O y!)(S:Q ((y!.map (·.arg)).zip<|tt (O y!) z_ z!) s):cA M A (bindArgs fd ⟨z_,[]⟩) Q E_ s:=by
 have e1:O (y!.map (·.arg))=O y!:=ba ..;have l1:=e1▸t;have l2:=e1▸B;have c:=e1▸R;unfold bindArgs;rw[F];refine aW<|II<|aW<|hd _ λr f=>DE ?_ (DE ?_ (aW<|S0 _ (λn d slots=>H) _ _ _ λslots b=>aW<|II<|DE eS<|bQ ?_));.rw[bR<|fw.mpr l1];exact eS
 .rw[f,Yq l1 l2 c];exact eS
 .obtain b:=f▸b;obtain g:z!.drop (O z!-O (y!.map (·.arg)))=z!:=by rw[H1 c];rfl
  obtain b:=g▸b;obtain e:(y!.map (·.arg)).filterMap (λn=>(slots.lookup n).map (n,·))=(y!.map (·.arg)).zip (tt (O y!) z_ z!):=a0M q (by rw[a3S t B,e1]) λn i=>by
   rw[b n,a3R q l1 l2 c,e1]
  obtain z:=e▸S;simpa using z
def a7t(w:cR)(g:Gh)(h:Heap):Option AV->Flow->Prop
 |.none,b=>b=.next
 |some v,b=>∃u,b=.ret u/\aG w g h v u
inductive qt(w:cR)(env:Env)(cx:Cx)(g:Gh)(σ:av)(h:Heap)(s₀:bT)(K:Option AV->List AV->av->Prop)(fl:Flow)(s':bT):Prop
 |mk (r:Option AV) (L':List AV) (σ':av) (g':Gh) (h':Heap) (tk':Tok):s'=cy s₀ h' tk'->K r L' σ'->a7t w g' h' r fl->FR w g' σ' h' env cx L'->aD w g' σ' h'->Tr (FX env) g σ h g' σ' h'->du g h g' h'->qt w env cx g σ h s₀ K fl s'
def lV(w:cR)(A:nZ)(s₀:bT)(env:Env)(cx:Cx)(g:Gh)(σ:av)(h:Heap)(t:Sem Flow)(K:Option AV->List AV->av->Prop):Prop:=
 ∀tk,cA (MM w) A t (qt w env cx g σ h s₀ K) (λb b=>False) (cy s₀ h tk)
def Tr.r0(T:Tr D_ g σ h g' σ' h')(hX:∀a o,h.get? a=I o->D_ a->X a):Tr X g σ h g' σ' h':=
 ⟨λb o e c d=>T.cT b o e c λy=>d<|hX b o e y,T.j,T.ρ,T.μ,T.N,T.c,T.new,T.e,T.d⟩
def td(q:h.objs.size<=a):h.get? a=none:=by
 rcases e:h.get? a with _|o;.rfl
 .exact aP (iF e)<|fw.mpr q
def a36{x:Str}(B:∀m,D! [] m x=m x)(S:∀n v r m,∃t,D! ((n,v)::r) m x=D! r t x/\(x≠n->t x=m x)/\(x=n->t x=I v)){l:List Str}{v:List aL}{m:Str->Option aL}(R:x∉l):D! (l.zip v) m x=m x:=by
 induction l generalizing v m with
 |nil=>exact B m
 |cons k r b=>
  cases v with
  |nil=>exact B m
  |cons a v=>exact eW (S k a (r.zip v) m) λt e q c=>e.trans<|(b λz=>R<|bK _ z).trans<|q λz=>R<|ay z aZ
def Qi{x:Str}(S:∀m,D! [] m x=m x)(B:∀n v r m,∃t,D! ((n,v)::r) m x=D! r t x/\(x≠n->t x=m x)/\(x=n->t x=I v)){l:List Str}{v:List aL}{m:Str->Option aL}{i:Nat}{y:aL}(R:cg l)(e:l[i]?=I x)(q:v[i]?=I y):D! (l.zip v) m x=I y:=by
 induction l generalizing v m i with
 |nil=>exact nomatch R5.symm.trans e
 |cons k r b=>
  cases v with
  |nil=>exact nomatch R5.symm.trans q
  |cons a v=>
   refine eW (B k a (r.zip v) m) λt c p s=>c.trans ?_;cases i with
   |zero=>exact(a36 S B λz=>(fh.mp R).1<|ay (fg e) z).trans<|(s (fg e).symm).trans q
   |succ i=>exact b (fh.mp R).2 e q
def Mi{v}{p:Str×α}(h:p∈l.zip v):p.1∈l:=(R1 h).1
def PY{x}(h:(x,Ro)∈y_\/dA (acc.lookup x)=U):dA ((Rf n y_ acc).lookup x)=true:=by
 induction y_ generalizing n acc with
 |nil=>exact h.elim (λh=>(jU h).elim) id
 |cons p r b=>
  show dA ((if p.2==.cell then Rf (n+1) r ((p.1,n)::acc) else Rf n r acc).lookup x)=U;by_cases q:(p.2==Ro)=U
  .rw[ak q];refine b<|(a7h<|x=p.1).elim (λe=>.inr ?_) λe=>h.elim (λh=>.inl<|(cf.mp h).resolve_left λz=>e<|be HZ z) λh=>.inr ?_;.rw[oN,dV.mpr e];rfl
   .rw[oN,beq_eq_false_iff_ne.mpr e];exact h
  .rw[Z q];exact b<|h.elim (λh=>.inl<|(cf.mp h).resolve_left λz=>q<|dV.mpr (be Prod.snd z).symm) .inr
def a0s(L):∀i,dg L i=(L[i]?).getD .q:=by
 induction L with
 |nil=>exactλi=>by cases i<;>rfl
 |cons a r b=>exactλi=>by cases i with
  |zero=>rfl
  |succ i=>exact b i
def a0t(e:dg (xs++R0 n .q) i=x):x=.q\/xs[i]?=I x:=by
 rw[a0s] at e;rcases tK i (O xs) with q|q;.rw[xX q,kN q] at e;exact .inr<|by rw[kN q,<-e];rfl
 .rw[v7 q] at e;refine .inl ?_;rw[<-e];rcases z:(R0 n AV.q)[i-O xs]? with _|y;.rfl
  .exact List.eq_of_mem_replicate<|pG z
noncomputable def wY(sc:List<|Str×vZ)(V:List<|Str×Nat):Nat->List Str->Bool
 |_,[]=>U
 |i,x::r=>V.lookup x==I i&&((sc.lookup x==I .local||sc.lookup x==I .cell)&&wY sc V (i+1) r)
def Iw(w:cR)(c:aL)(q:Str):Prop:=∀h,gS w h->h.CodeRec c q
def a3b{vs x}(ho:(KF w.params).lookup a=I o)(F:o.data=.fields vs)(R:vs[1]?=I (.str x t))(e:(x==q)=U):Iw w (.ref a) q:=λh B=>
 ⟨a,o,vs,t,H,B.c _<|vx ho,F,by rw[R,dV.mp e]⟩
def a3c(w)(c)(q):Ev<|Iw w c q:=match c with
 |.ref a=>(match ho:(KF w.params).lookup a with
  |some o=>(match b:o.data with
   |.fields vs=>(match d:(vs[1]?:Option aL) with
    |some (.str x _)=>.B (x==q) λe=>.c<|a3b ho b d e
    |_=>.g)
   |_=>.g)
  |none=>.g)
 |_=>.g
structure a7u(w:cR)(g:Gh)(h:Heap)(d:List AV)(v:aL)(dv:List aL):Prop where
 sO:aI w g h d dv
 S:∀{A:nZ}{E_:aL->bT->Prop}{s:bT},s.heap=h->∀Q:Option (Array aL)->bT->Prop,(∀r,(r.getD #[]).toList=dv->Q r s)->cA (MM w) A (seqItems? v) Q E_ s
def SJ(w:cR)(d:List AV)(v:aL):Prop:=∀g σ h,aD w g σ h->∃b:List aL,a7u w g h d v b
def a1g(w)(d)(v):Ev<|SJ w d v:=match v with
 |.none=>(match d with|[]=>.c (λc c c c=>⟨[],by rfl,λc c f=>bQ<|f C H⟩)|_=>.g)
 |.ref a=>(match ho:(KF w.params).lookup a with
  |some o=>(match i:o.data with|.seq z _=>(DJ w d z.toList).q λe=>.c ((λg σ h b=>
   ⟨z.toList,e g σ h b,λj c f=>wpAny_seqItems (ay j<|b.c.c _<|vx ho) i<|f _ H⟩))|_=>.g)
  |none=>.g)
 |_=>.g
structure SM(w:cR)(fd:FuncData)(d:FD)(V:List<|Str×Nat)(y!:List Arg):Prop where
 aT:y!.length=d.na
 nd:(y!.map (·.arg)).Nodup
 wZ:wY fd.scope.names V 0 (y!.map (·.arg))=true
 a:SJ w d.a fd.defaults
 c:d.a.length<=d.na
 code:Iw w fd.code fd.qualname
 slots:(V.map (·.2)).Nodup
 own:(V.all λp=>fd.scope.names.lookup p.1==some .local||fd.scope.names.lookup p.1==some .cell)=true
 e:fd.scope.kind=.function
 a23:fd.scope.isCoroutine=false
 gen:fd.scope.isGenerator=false
 clo:fd.closure=[]
 f:fd.globals=3
 n:fd.builtins=0
def a3u(w)(fd)(d)(V)(y!):Ev<|SM w fd d V y!:=
 .B (O y!==d.na) λe1=>.B (decide<|cg<|y!.map (·.arg)) λg=>.B (wY fd.scope.names V 0<|y!.map (·.arg)) λe3=>(a1g w d.a fd.defaults).q λe4=>.B (eA (O d.a) d.na) λi=>(a3c w fd.code fd.qualname).q λe6=>.B (decide<|cg<|V.map (·.2)) λj=>
 .B (V.all λp=>fd.scope.names.lookup p.1==I .local||fd.scope.names.lookup p.1==I .cell) λk=>.B (fd.scope.kind==.function) λl=>.B (fd.scope.isCoroutine==am) λb=>.B (fd.scope.isGenerator==am) λc=>.B fd.closure.isEmpty λCv=>.B (fd.globals==3) λe=>.B (fd.builtins==0) λf=>
 .c ⟨dV.mp e1,Y g,e3,e4,bU i,e6,Y j,k,dV.mp l,dV.mp b,dV.mp c,a6S.mp Cv,dV.mp e,dV.mp f⟩
def D6(h:cg<|V.map (·.2)):(Cx.mk sc V).Ok:=⟨λx y i d e=>by
 obtain b:=mem_of_lookup d;obtain c:=mem_of_lookup e;clear d e;induction V with
 |nil=>nomatch b
 |cons p r g=>
  refine bY (fh.mp (by simpa using h:cg<|p.2::r.map (·.2))) λf j=>?_;clear h;rcases cf.mp b with e1|e1<;>rcases cf.mp c with e2|e2
  .clear b c;cases e1;cases e2;rfl
  .clear b c;cases e1;exact aP (dU e2) f
  .clear b c;cases e2;exact aP (dU e1) f
  .exact g j e1 e2⟩
def wY.F{x}(h:wY sc V i l=U)(e:l[j]?=I x):V.lookup x=I (i+j)/\(sc.lookup x=I .local\/sc.lookup x=I .cell):=by
 induction l generalizing i j with
 |nil=>exact nomatch R5.symm.trans e
 |cons k r c=>
  refine bY (gJ.mp h) λd b=>bY (gJ.mp b) λb f=>?_;cases j with
  |zero=>exact fg e▸⟨dV.mp d,(Bool.or_eq_true_iff.mp b).imp dV.mp dV.mp⟩
  |succ j=>exact aO lT<|c f e
def Ret(Q:aL->bT->Prop)(r:uJ)(q:bT):Prop:=match r with
 |.ok (.ret v)=>Q v q
 |_=>False
def xG(w:cR)(A:nZ)(s₀:bT)(g:Gh)(σ:av)(h:Heap)(f:aL)(z_:List aL)(K:AV->av->Prop):Prop:=
 ∀tk,z0 (MM w) A (.call f ⟨z_,[]⟩) (Ret<|cK w NX g σ h s₀ (VR w) K) (cy s₀ h tk)
def xG.run(r:xG w A s₀ g σ h f z_ K):Run w A s₀ NX g σ h (iE f z_) (VR w) K:=λtk=>
 Q2 (codeAny_mono (r tk) λr b z=>by
  cases r with
  |error=>exact z.elim
  |ok f=>induction f using Flow.casesOn<;>first|exact z|exact z.elim)
def Wj{d y! vs}(t:aD w g σ h)(Rl:A.depth<recursionLimit)(Rm:∀env,sp n<|A.deeper env)(ho:(a,o)∈KF w.params)(hd:o.data=.func fd)(hp:fd.params=⟨[],y!,C,[],[],C,C!⟩)(R:SM w fd d V y!)(hb:fd.body=.stmts body)(e:aI w g h vs z_)(h1:O vs<=d.na)(h2:d.na-O vs<=O d.a)(k:∀A' env B,sp n A'->FR w g σ B env ⟨fd.scope.names,V⟩ (enter d vs)->aD w g σ B->lV w A' s₀ env ⟨fd.scope.names,V⟩ g σ B (pB body env) λr F S=>K (r.getD .j) S):
 xG w A s₀ g σ h (.ref a) z_ K:=by
 have G:=R.aT;have Y:=R.nd;obtain⟨dv,e2,a0⟩:=R.a g σ h t;have j:=aI.iy e;have s:=aI.iy e2;obtain L:aI w g h (vs++d.a.drop (O d.a-(d.na-O vs)))<|tt y!.length z_ dv:=by
  unfold tt;rw[<-j,<-s,G];exact aI.append e<|aI.r0 _ e2
 refineλtk=>codeAny_call_function Rl (t.c.c _ ho) hd R.a23 R.gen hb (R.code h t.c) (S3 hp Y (a0 H) (G.symm▸j▸h1) (G.symm▸j▸s▸h2) (G.symm▸s▸R.c) ?_)
 rw[R.clo];have wZ:∀{i:Nat}{x:Str},(y!.map (·.arg))[i]?=I x->V.lookup x=I i/\(fd.scope.names.lookup x=I .local\/fd.scope.names.lookup x=I .cell):=λ{i x} f=>by
  have:=wY.F R.wZ f
  rwa [n6] at this
 refine wpAny_newFunctionEnv_cells R.e (λx f=>?_) λenv M a3 p=>?_
 .obtain⟨i,hi⟩:=Ik<|Mi f;rcases(wZ hi).2 with q|q;.exact .inl q
  .exact .inr ⟨q,PY<|.inl<|mem_of_lookup q⟩
 .refine gk p.done λB E a1 U=>?_;subst a1;obtain D:=t.F (je<|gQ p.toInCall.fresh p.toInCall.ns.lt) λb o e F=>U b o e;have cj:=p.toInCall.fresh;have jn:∀{b:Addr},h.objs.size<=b->(∃o,B.get? b=I o)->fL g σ B b:=λ{b} hb ht=>⟨ht,λhf=>by
   obtain⟨o,N⟩:=t.d _ hf;exact aP (iF N)<|fw.mpr hb,λhw=>by
   obtain⟨o,N⟩:=t.DB hw;exact aP (iF N)<|fw.mpr hb⟩
  have HN:∀x c,env.cells.lookup x=I c->B.IsCell c (bindC env.kindOf ((y!.map (·.arg)).zip<|tt y!.length z_ dv) (λF=>C) x)/\env.locals<c:=λx c f=>⟨p.cell x c f,p.above x c<|mem_of_lookup f⟩;obtain l:env.scope=fd.scope:=by rw[M];rfl
  have val:∀{x:Str}{i:Nat},V.lookup x=I i->dg (enter d vs) i=.q\/((y!.map (·.arg))[i]?=I x/\∃v,(tt y!.length z_ dv)[i]?=I v/\aG w g B (dg (enter d vs) i) v):=λ{x i} f=>by
   rcases a0t rfl with q|q;.exact .inl q
   .refine .inr<|aA (aI.S L q) λv W rv=>?_;have hi:i<O (y!.map (·.arg)):=by
     rw[ba];exact aV ((jV.mp W).1)<|gG<|by unfold tt;simp;exact JE (G.symm▸j▸h1)<|G.symm▸j▸aO s h2
    obtain hn:=kN hi;exact⟨by rw[hn,(D6 (sc:=fd.scope.names) R.slots).slots _ _ i f (wZ hn).1],v,W,aG.F ⟨λF x=>x,λF F=>H,λF F=>H,ce _,λa o F=>U a o⟩ _ _ rv⟩
  have P:env.kindOf=λx=>fd.scope.names.lookup x:=by rw[M];rfl
  refine⟨D.c.Yx,codeAny_func<|ff (k (A.deeper env) env B (Rm env) (by
   refine⟨by rw[l];exact R.e,by rw[l],by rw[M];exact R.f,by rw[M];exact R.n,aV t.c.q cj,jn cj ?_,⟨_,p.toInCall.ns,λx i f hl=>?_⟩,λx i f hl=>?_,λx y c f hy=>name_of_addr p.apart (mem_of_lookup f)<|mem_of_lookup hy,λx c f=>?_,λx c f=>aA ((HN x c f).1) λoc e F=>⟨oc,e⟩⟩;.refine B1 p.toInCall.ns λo F F N F=>?_;exact⟨o,N⟩
   .rcases val f with q|⟨q1,v,q2,q3⟩;.exact .inl q
    .exact .inr ⟨v,(Qi (λF=>H) (λn v r m=>⟨_,H,λz=>by split<;>first|exact Z z|rfl,λz=>by rw[ak<|aO z<|ay P hl];exact ak z⟩) Y q1 q2),q3⟩
   .have Q:fd.scope.names.lookup x=I .cell:=by
     rcases hl with q|q;.exact q
     .have:=gf.mp R.own (x,i)<|mem_of_lookup f;simp[q] at this
    refine bc (v0.mp<|(by
     rw[M];exact PY<|.inl<|mem_of_lookup Q)) λc R=>bY (HN x c R) λk1 k2=>aA (id k1) λoc a2 F=>⟨c,_,R,k1,?_,jn (je<|gQ cj k2) ⟨oc,a2⟩,aV t.c.q<|je<|gQ cj k2⟩
    rcases val f with q|⟨q1,v,q2,q3⟩;.exact .inl q
    .exact .inr ⟨v,(Qi (λF=>H) (λn v r m=>⟨_,H,λz=>by split<;>first|exact Z z|rfl,λz=>by rw[Z<|z▸(by rw[P];simp only[Q];decide)];exact ak z⟩) Y q1 q2),q3⟩
   .exact rb<|p.above x c<|mem_of_lookup f) D E) (λfl s' hd=>?_) λF F z=>z.elim⟩
  obtain⟨r,L',σ',g',h',T,rfl,hK,X,_,I',T',_⟩:=hd;have T2:=((t.AR (λb o e F=>U b o e) λb o e F=>⟨o,U b o e⟩).q T').r0 λb ob L f=>by
   rcases f with q|⟨x,q⟩;.obtain L:=q▸L;exact kK _<|eR (iF L) cj
   .exact kK _<|eR (iF L)<|je<|gQ cj (HN x b q).2
  rcases r with _|v;.subst X;exact⟨_,σ',g',h',T,H,hK,by rfl,I',T2⟩
  .refine aA X λu X W=>?_;subst X;exact⟨_,σ',g',h',T,H,hK,W,I',T2⟩
noncomputable abbrev AU(E!:Addr)(z_:List aL):Code:=.builtin "type.__call__" ⟨.ref E!::z_,[]⟩
set_option tactic.hygienic true
def Uk(E!)(z_):(AU E! z_).weight=1/\(AU E! z_).cUnits=1:=⟨by kernel_rfl,by kernel_rfl⟩
def aD.OP(t:aD w g σ h):∀t',σ ⟨t',g.N⟩=.none:=λt'=>by
 rcases e:σ ⟨t',g.N⟩ with _|o;.rfl
 .exact aP (t.f _ o e)<|kK _
def VV{vs}(q:aD w g σ h)(hc:c<4)(hi:qg (KF w.params) (.ref<|iR c) "__init__"=I (I<|.ref fI))(hf:typeIn (KF w.params) (.ref fI)=I (.type "function"))(e:aI w g h vs z_)(k:∀B R,aI w B R vs z_->aG w B R (.d ⟨t,g.N⟩) (.ref<|h.objs.size+1)->aD w B (σ.u ⟨t,g.N⟩<|.d c []) R->
 xG w (A.under<|AU (iR c) z_) s₀ B (σ.u ⟨t,g.N⟩<|.d c []) R (.ref fI) (.ref (h.objs.size+1)::z_) λr S=>r=.j/\K (.d ⟨t,g.N⟩) S):
 Run w A s₀ NX g σ h (iE (.ref<|iR c) z_) (VR w) K:=by
 refineλtk=>Q2 ?_
 have D!:=q.c.t
 let i:Heap:=(h.push HM).push<|z5 (iR c) h.objs.size
 have u:i.get? (h.objs.size+1)=I (z5 (iR c) h.objs.size):=by rw[<-(oJ ..)];exact mZ _ H
 let l:a7:=⟨t,g.N⟩
 let m:Gh:={g.laid l (h.objs.size+1) h.objs.size with j:=λb=>g.j b\/b=h.objs.size+1}
 have j:m.ρ l=h.objs.size+1:=ak H;have v:m.μ l=h.objs.size:=ak H;obtain⟨x,y,C⟩:=q.Fv H (o:=.d c []) (h':=i) (ay (((show i.objs.size=h.objs.size+2 from by show((h.push HM).push _).objs.size=_;rw[oJ,oJ ..])))<|fA _ 2) (λb o e=>jd _<|jd _ e) (td<|ce _) q.c.q
  (th:=λb=>b=h.objs.size+1) (λb D=>by subst D;exact⟨td<|gR _,RI _,_,u⟩)
  (by
   refine⟨.inr j,?_,hc,[],0,?_,?_,Aq⟩;.rw[j,v];exact u
   .rw[v];exact(jd _<|mZ _ H)
   .rfl)
 refine make_core (makes_of D!<|Mo w.params c) (looks_findIn D! hi) (λd=>bind_fn D! d hf) (.inl H) (codeAny_mono (k m i (aI.F C _ _ e) ⟨by rw[j],lY _⟩ x tk) λr M z=>?_);cases r with
 |error=>exact z.elim
 |ok f=>
  induction f using Flow.casesOn<;>try exact z.elim
  obtain⟨b,n,E,G,p,rfl,⟨rfl,J⟩,hR,L,s⟩:=z;obtain rfl:=hR;exact⟨H,⟨.d l,n,E,G,p,H,J,⟨by rw[s.ρ l<|lY _,j],eR (lY _) s.N⟩,L,y.q s⟩⟩
noncomputable def SG:List Nat:=[123,137,151,159,167,183,190,197,204,211,218,225,230,237,244,251,256,268,273,292,299,306,313,318,338,345,352,373,380,387,394,408,416,423,430,435,443,450,457,462,476,483,497,504,511,518,523,528,533,540,545,555,562,569,576,581,588,595,600,607,612,619,624,631,638,645,652,657,664,671,678,685,692,699,706,713,720,725,732,739,753,760,788,907,914,928,935,942,949,956,963,968,975,982,987,992,999,1004,1009,1016,1023,1030,1037,1042,1049,1056,1063,1068,1075,1080,1087,1094,1099]
def FA(f:Nat):Addr:=SG[f]?.getD 0
noncomputable def CN:List String:=["TypeTable","Guessing","RefHost","Meeter"]
def rH(f:Nat):Str:=((KF {strHash:=λb=>0,shareClass:=id,mergeTok:=id,idOf:=λb=>0,idOfShared:=λb b=>0,followText:=λb=>U,idOfImm:=λb=>0}).lookup<|FA f).elim default λo=>match o.data with|.func d=>d.qualname|_=>default
noncomputable def Cz(x:Str):Bool:=x.cps.contains 46
abbrev w8(P:fM):Heap:=ip (gp P) (iX P) (i7 P)<|f9 P
def a0D(P:fM):Bool:=(cO 113).all λf=>Cz (rH f)||(w8 P).nsMap lB (rH f)==I (.ref<|FA f)
set_option tactic.hygienic false
def a0C(P):a0D P=true:=by kernel_rfl
def a3j(P:fM):Bool:=(cO 4).all λc=>(w8 P).nsMap lB (cv<|CN[c]?.getD "")==I (.ref<|iR c)
def a3i(P):a3j P=true:=by kernel_rfl
def YJ(P:fM):Bool:=(cO 4).all λc=>(cO 10).all λm=>match MT c m with
 |some f=>qg (KF P) (.ref<|iR c) (vq m)==I (I<|.ref<|FA f)&&typeIn (KF P) (.ref<|FA f)==I (.type "function")
 |.none=>U
def YG(P):YJ P=true:=by kernel_rfl
def n_(P:fM):Bool:=(cO 4).all λc=>match IT c with
 |some f=>qg (KF P) (.ref<|iR c) "__init__"==I (I<|.ref<|FA f)&&typeIn (KF P) (.ref<|FA f)==I (.type "function")
 |.none=>qg (KF P) (.ref<|iR c) "__init__"==I (I<|.builtin "object.__init__")
def m_(P):n_ P=true:=by kernel_rfl
def l6(w:cR)(f:aL):Prop:=∀h,(KF w.params).In h->∃k,(k=Keeper.frame\/k=Keeper.machine\/k=Keeper.boundFrame)/\Looks (MM w) h (keeperOf f) k
def l6.builtin{id}:l6 w<|.builtin id:=λb b=>⟨.machine,.inr<|.inl H,Rh H⟩
def l6.I9{id}:l6 w<|.type id:=λb b=>⟨.machine,.inr<|.inl H,Rh H⟩
def FK(P:fM):Bool:=SG.all (λa=>keepIn (KF P)<|.ref a)&&(cO 4).all λc=>keepIn (KF P)<|.ref<|iR c
def NQ(P):FK P=true:=by kernel_rfl
def l6.q{f}(t:f<113):l6 w<|.ref<|FA f:=λh X=>by
 have:=NQ w.params;unfold FK at this;rw[eB] at this;refine keeps_K (gf.mp this.1 _ ?_) h X;unfold FA;rw[kN t];exact As t
def l6.cls(t:c<4):l6 w<|.ref<|iR c:=λh X=>by
 have:=NQ w.params;unfold FK at this;rw[eB] at this;exact keeps_K (gf.mp this.2 _<|eJ.mpr t) h X
noncomputable def gV:List Expr->Bool
 |[]=>U
 |e::r=>e.ctorIdx !=22&&gV r
def EN:∀{es},gV es=U->kf es env=es.map λe=>(am,eval e env):=by
 intro es;induction es with
 |nil=>
  exactλc=>H
 |cons e r b=>
  intro h;cases e<;>first|(cases h;done)|exact be (_::·)<|b h
def G8{l}(h:∀p∈l,p.1=am):(nE pos l).any (·.1)=false:=uS.mpr λp b=>AB.mp<|Qk h p b
def AZ{es P}(q:aD w g σ h)(R:gV es=U)(S:l6 w f)(ef:aI w g h fx first)(r:Run w A s₀ NX g σ h (qY<|nE pos<|kf es env) (si w) P)(k:∀xs vs B t F,P xs t->aI w B F fx first->aI w B F xs vs->aD w B t F->Tr NX g σ h B t F->Run w A s₀ NX B t F (iE f<|first++vs) (VR w) K):
 Run w A s₀ NX g σ h (callWith pos f first (nE pos<|kf es env) []) (VR w) K:=by
 intro tk;have n:=EN (env:=env) R;have j:∀p∈kf es env,p.1=false:=λp R=>by
  rw[n] at R;obtain⟨e,_,rfl⟩:=bp.mp R;rfl
 refine callWith_of (by rw[G8 j];rfl) S<|ff (KC j r tk) (λa m d=>?_) λl l x=>x;obtain⟨xs,t,B,F,i,rfl,S,⟨o,s⟩,c,b⟩:=d;refine⟨c.c.t,?_⟩;rw[o];exact ff (k xs a.pos B t F S (aI.F (b.t q) _ _ ef) s c b i) (λv u d=>d.q b) λl l x=>x
def IH(D!:FR w g σ h env cx L)(q:aD w g σ h){n:Str}{u:aL}{p:Pos}{tk:Tok}{Q:aL->bT->Prop}{E_:aL->bT->Prop}(t:cx.a.lookup n=I .globalImplicit)(B:∀P,(w8 P).nsMap lB n=I u)(hd:(n==("__debug__":Str))=am)(R:Q u<|cy s₀ h tk):cA (MM w) A (eval (.Name n p) env) Q E_<|cy s₀ h tk:=by
 refine Rt D!.e ((D!.kindOf _).trans t) (a56 ?_ ((q.c.nsMap lB (.inr<|.inr H) n).trans<|B w.params) R) hd;rw[D!.f];exact q.c.mainNs
def SY(D!:FR w g σ h env cx L)(q:aD w g σ h){n:String}{u:aL}{p:Pos}{tk:Tok}{Q:aL->bT->Prop}{E_:aL->bT->Prop}(t:cx.a.lookup (cv n)=I .globalImplicit)(B:(n,u)∈[("len",Ri "len"),("sorted",.builtin "sorted"),("min",.builtin "min"),("tuple",.type "tuple"),("range",.type "range")])(hd:(cv n==("__debug__":Str))=am)(R:Q u<|cy s₀ h tk):cA (MM w) A (eval (.Name (cv n) p) env) Q E_<|cy s₀ h tk:=by
 obtain b:=gf.mp (a3Y w.params) _ B;simp only[eB,dV] at b;refine Rt D!.e ((D!.kindOf _).trans t) (loadGlobal_builtin ?_ ((q.c.nsMap lB (.inr<|.inr H) _).trans b.1) ?_ ((q.c.nsMap tG (.inl H) _).trans b.2) R) hd;.rw[D!.f];exact q.c.mainNs
 .rw[D!.n];exact q.c.a3Z
def IJ{o}(B:C4 o B' env (eval o env)=eval o env)(hn:O y!<30)(R:gV y!=U)(F:(B!.endLine==pos.line)=U)(h:cA M A (eval o env) (λS q=>∀pl,cA M A (getMethod S B' pl) (λp t=>cA M A (callWith pos p.1 p.2 (nE pos<|kf y! env) []) Q E_ t) E_ q) E_ s):
 cA M A (eval (.Call (.Attribute o B' B!) y! [] pos) env) Q E_ s:=by
 rw[arm_eval_Call,B];refine aW<|ff h (λS q c=>aW<|qf ?_) λf f e=>e;obtain b:methodCallForm (O y!+O ([]:List Keyword)) (nE pos<|kf y! env) (backToKw pos<|keywordEach [] env)=true:=by
  unfold methodCallForm;obtain j:(nE pos<|kf y! env).all (!·.1)=true:=by
   have:=G8 (pos:=pos)<|(λp i=>by
  rw[EN R] at i;refine aA (bp.mp i) λe f g=>?_;subst g;rfl:∀p∈kf y! env,p.1=am)
   simpa using this
  rw[j];show(U&&(U&&decide (O y!+0+0<30)))=U;simpa using hn
 unfold methodCall;rw[b];exact aW<|jC<|ff (c _) (λp t d=>aW<|wpAny_of_eq (by unfold methodCallPos;simp[F]) d) λf f e=>e
def WH{o m P0}(a1:C4 o (vq m) env (eval o env)=eval o env)(hn:O y!<30)(a3:gV y!=U)(a2:(B!.endLine==pos.line)=U)(hm:m<10)(ro:Run w A s₀ NX g σ h (eval o env) (VR w) P0)(k:∀x v B q R,P0 x q->aG w B R x v->aD w B q R->Tr NX g σ h B q R->∃l c fs f,x=.d l/\q l=I (.d c fs)/\c<4/\MT c m=I f/\f<113/\
 ∃P,Run w A s₀ NX B q R (qY<|nE pos<|kf y! env) (si w) P/\
 ∀xs vs S t a0,P xs t->aI w S a0 (.d l::xs) vs->aD w S t a0->Run w A s₀ NX S t a0 (iE (.ref<|FA f) vs) (VR w) K):
 Run w A s₀ NX g σ h (eval (.Call (.Attribute o (vq m) B!) y! [] pos) env) (VR w) K:=by
 refineλtk=>IJ a1 hn a3 a2 (ff (ro tk) (λv z d=>?_) λs s x=>x)
 obtain⟨x,q,B,R,p,rfl,E,hR,b,i⟩:=d;intro pl;obtain⟨l,c,fs,f,rfl,G,J,u,L,P,M,N⟩:=k x v B q R E hR b i;have e:=gf.mp (gf.mp (YG w.params) c<|eJ.mpr J) m<|eJ.mpr hm;rw[u] at e;simp only[eB,dV] at e;obtain⟨rfl,_,D,n,Q,D!,_,_⟩:=F5 b hR G;obtain⟨T,V,Y,p4,p5⟩:=GY w.params c;refine method_fn b.c.t Q T V e.1 e.2 ?_ (ff (AZ (fx:=[.d l]) b a3 (l6.q L) (aI.cons hR H) M (λxs vs S t a0 y e1 W r C=>N xs _ S t a0 y (aI.append e1 W) r) p) (λv s' d=>d.q i) λs s x=>x);show(lookIn (vq m)<|vY D n).map (·.isSome)=I am;unfold lookIn vY;dsimp only[a6D];rw[iU.Mh (λj X=>by
  simpa using(gf.mp (gf.mp YH m<|eJ.mpr hm) j<|eJ.mpr X)) D!,Z<|by rw[iU.strs D!];decide]
 rfl
def WI(D!:FR w g σ h env cx L)(q:aD w g σ h){f:Nat}{p:Pos}{y!:List Expr}{P:List AV->av->Prop}(hf:f<113)(S:Cz (rH f)=am)(hs:cx.a.lookup (rH f)=I .globalImplicit)(hd:(rH f==("__debug__":Str))=am)(a0:gV y!=U)(r:Run w A s₀ NX g σ h (qY<|nE pos<|kf y! env) (si w) P)(k:∀xs vs B t R,P xs t->aI w B R xs vs->aD w B t R->Run w A s₀ NX B t R (iE (.ref<|FA f) vs) (VR w) K):
 Run w A s₀ NX g σ h (eval (.Call (.Name (rH f) p) y! [] pos) env) (VR w) K:=by
 refineλtk=>RD H (IH D! q hs (λP=>?_) hd<|AZ (fx:=[]) q a0 (l6.q hf) H r (λxs vs B t R c d e b d=>k xs vs B t R c e b) tk)
 have:=gf.mp (a0C P) f<|eJ.mpr hf;rw[S] at this;exact dV.mp this
def WJ(D!:FR w g σ h env cx L)(q:aD w g σ h){c:Nat}{p:Pos}{y!:List Expr}{P:List AV->av->Prop}(hc:c<4)(hs:cx.a.lookup (cv<|CN[c]?.getD "")=I .globalImplicit)(hd:(cv (CN[c]?.getD "")==("__debug__":Str))=am)(S:gV y!=U)(r:Run w A s₀ NX g σ h (qY<|nE pos<|kf y! env) (si w) P)(k:∀xs vs B t R,P xs t->aI w B R xs vs->aD w B t R->Run w A s₀ NX B t R (iE (.ref<|iR c) vs) (VR w) K):
 Run w A s₀ NX g σ h (eval (.Call (.Name (cv<|CN[c]?.getD "") p) y! [] pos) env) (VR w) K:=λtk=>RD H (IH D! q hs (λP=>dV.mp<|gf.mp (a3i P) c<|eJ.mpr hc) hd<|AZ (fx:=[]) q S (l6.cls hc) H r (λxs vs B t R d e f b e=>k xs vs B t R d f b) tk)
set_option tactic.hygienic true
def WK{o id P0}(a0:C4 o B' env (eval o env)=eval o env)(hn:O y!<30)(a2:gV y!=U)(a1:(B!.endLine==pos.line)=U)(pa:PlainAttrs T)(a3:Slot T B' id)(a4:xI (.builtin id)=pure (.type "method_descriptor"))(ro:Run w A s₀ NX g σ h (eval o env) (VR w) P0)(k:∀x v F q t,P0 x q->aG w F t x v->aD w F q t->Tr NX g σ h F q t->(∀tk,(cy s₀ t tk).TypeIs v T)/\(∀a,v=.ref a->∃ob,t.get? a=I ob/\ob.dict=C)/\
 ∃P,Run w A s₀ NX F q t (qY<|nE pos<|kf y! env) (si w) P/\
 ∀xs vs R B S,P xs B->aI w R S (x::xs) vs->aD w R B S->Run w A s₀ NX R B S (iE (.builtin id) vs) (VR w) K):
 Run w A s₀ NX g σ h (eval (.Call (.Attribute o B' B!) y! [] pos) env) (VR w) K:=by
 refineλtk=>IJ a0 hn a2 a1 (ff (ro tk) (λv l d=>?_) λi i x=>x)
 obtain⟨x,q,F,t,b,rfl,n,hR,c,e⟩:=d;intro pl;obtain⟨p,hd,P,r,s⟩:=k x v F q t n hR c e;exact getMethod_builtin (p b) pa a3 a4 hd<|ff (AZ (fx:=[x]) c a2 l6.builtin (aI.cons hR<|by rfl) r (λxs vs R B S j e1 u f m=>s xs _ R B S j (aI.append e1 u) f) b) (λv y d=>d.q e) λi i x=>x
def Ox{l o}(h:σ l=o):ly σ (.d l)=ly (λ_=>o) (.d l):=be (λo=>ly (λ_=>o)<|.d l) h
def wx{l o D!}(h:σ l=o)(q:mJ σ (.d l) D!):mJ (λ_=>o) (.d l) D!:=(be (λo=>mJ (λ_=>o) (.d l) D!) h).mp q
def Gm(t:aD w g σ h){x:AV}{v:aL}(e:aG w g h x v)(q:ly σ x=U):(∀tk,(cy s₀ h tk).TypeIs v "list")/\(∀a,v=.ref a->∃ob,h.get? a=I ob/\ob.dict=C):=by
 induction x using AV.casesOn<;>try exact dj q
 rename_i l;rcases c:σ l with _|o;.exact dj<|(Ox c).symm.trans q
 .obtain q:=(Ox c).symm.trans q;induction o using eE.casesOn<;>try exact dj q
  refine rV λb d=>?_;obtain⟨rfl,z,n,hi,_⟩:=vy t e c;exact d ⟨λtk=>⟨_,hi,H⟩,λa f=>by cases f;exact⟨_,hi,H⟩⟩
def Oy(t:aD w g σ h){x:AV}{v:aL}(e:aG w g h x v)(q:ul σ x=U):(∀tk,(cy s₀ h tk).TypeIs v "dict")/\(∀a,v=.ref a->∃ob,h.get? a=I ob/\ob.dict=C):=by
 refine bc (v0.mp q) λes q=>qM (sX t e q) λa D n o c b=>?_;clear t e q;subst c;exact⟨b.typeIs,b.Yy⟩
def aI.un(e:aI w g h [x] vs):∃v,vs=[v]/\aG w g h x v:=by
 refine gy e λv r b e1 c=>?_;clear e;subst b;subst c;exact⟨v,H,e1⟩
def aI.fS(e:aI w g h [x,y] vs):∃v u,vs=[v,u]/\aG w g h x v/\aG w g h y u:=by
 refine gy e λv r b e1 d=>?_;clear e;subst b;refine aA d.un λu c e3=>?_;clear d;subst c;exact⟨v,u,H,e1,e3⟩
def aI.wF(e:aI w g h [x,y,q] vs):∃v u t,vs=[v,u,t]/\aG w g h x v/\aG w g h y u/\aG w g h q t:=by
 refine gy e λv r b e1 c=>?_;clear e;subst b;refine gy c.fS λu t b e3 e4=>?_;clear c;subst b;exact⟨v,u,t,H,e1,e3,e4⟩
def a3E(q:aD w g σ h){x y:AV}{vs:List aL}(e:aI w g h [x,y] vs)(t:mJ σ x λa xs=>K .j<|σ.u a<|.b<|xs++[y]):Run w A s₀ NX g σ h (iE (.builtin "list.append") vs) (VR w) K:=by
 refine gy e.fS λv u b e1 d=>?_;clear e;subst b;induction x using AV.casesOn<;>try exact t.elim
 rename_i l;rcases c:σ l with _|o;.exact(wx c t).elim
 .obtain t:=wx c t;induction o using eE.casesOn<;>try exact t.elim
  exact Wv q e1 c t.1 d t.2
def a3z(q:aD w g σ h){x y:AV}{vs:List aL}(B:mJ σ x λa xs=>match y with
 |.a i=>0<=i/\(match xs[cY i]? with|some v=>K v (σ.u a<|.b<|xs.eraseIdx<|cY i)|.none=>False)
 |_=>False)(e:aI w g h [x,y] vs):Run w A s₀ NX g σ h (iE (.builtin "list.pop") vs) (VR w) K:=by
 refine gy e.fS λv u c e1 f=>?_;clear e;subst c;induction x using AV.casesOn<;>try exact B.elim
 rename_i l;rcases d:σ l with _|o;.exact(wx d B).elim
 .obtain B:=wx d B;induction o using eE.casesOn<;>try exact B.elim
  rename_i xs;induction y using AV.casesOn<;>try exact B.2.elim
  rename_i i m;obtain⟨t,rfl⟩:=f;refine gl B λj k b=>?_;rcases hz:xs[cY i]? with _|z;.rw[hz] at b;exact b.elim
  .rw[hz] at b;exact VM q e1 d j k hz b
def a3C(q:aD w g σ h){x y B:AV}{vs:List aL}(F:mJ σ x λa xs=>match y with
 |.a i=>0<=i/\i<=O xs/\K .j (σ.u a<|.b<|xs.take (cY i)++B::xs.drop (cY i))
 |_=>False)(e:aI w g h [x,y,B] vs):Run w A s₀ NX g σ h (iE (.builtin "list.insert") vs) (VR w) K:=by
 refine rS e.wF λv u t b e1 d e3=>?_;clear e;subst b;induction x using AV.casesOn<;>try exact F.elim
 rename_i l;rcases c:σ l with _|o;.exact(wx c F).elim
 .obtain F:=wx c F;induction o using eE.casesOn<;>try exact F.elim
  induction y using AV.casesOn<;>try exact F.2.elim
  obtain⟨t,rfl⟩:=d;exact VZ q e1 c F.1 F.2.1 F.2.2.1 e3 F.2.2.2
def a3D(B:aD w g σ h)(S:A.units+20<ie){x y F:AV}{vs:List aL}(e:aI w g h [x,y,F] vs)(R:pK σ x λes=>dK (jO σ x) y=U/\K ((dL es y).getD F) σ):
 Run w A s₀ NX g σ h (iE (.builtin "dict.get") vs) (VR w) K:=by
 refine rS e.wF λv u t b e1 c e3=>?_;clear e;subst b;unfold pK at R;rcases q:jy σ x with _|es;.obtain R:=q▸R;exact R.elim
 .obtain R:=q▸R;exact Wl B S e1 q R.1 c e3 R.2
def a3y(q:aD w g σ h)(R:A.units+20<ie){x y B:AV}{vs:List aL}(F:match x with
 |.d l=>(match σ l with|some (.a c es)=>O es<=aR/\dK c y=U/\K ((dL es y).getD B) (σ.u l<|.a c<|oB es y)|_=>False)
 |_=>False)(e:aI w g h [x,y,B] vs):Run w A s₀ NX g σ h (iE (.builtin "dict.pop") vs) (VR w) K:=by
 refine rS e.wF λv u t b e1 f e3=>?_;clear e;subst b;induction x using AV.casesOn<;>try exact F.elim
 rename_i l;rcases d:σ l with _|o;.dsimp only at F;rw[d] at F;exact F.elim
 .dsimp only at F;rw[d] at F;induction o using eE.casesOn<;>try exact F.elim
  exact Wk q R e1 d F.1 F.2.1 f e3 F.2.2
def TE:xI (.builtin "list.append")=pure (.type "method_descriptor"):=by kernel_rfl
def TB:xI (.builtin "list.pop")=pure (.type "method_descriptor"):=by kernel_rfl
def TC:xI (.builtin "list.insert")=pure (.type "method_descriptor"):=by kernel_rfl
def TD:xI (.builtin "dict.get")=pure (.type "method_descriptor"):=by kernel_rfl
def TA:xI (.builtin "dict.pop")=pure (.type "method_descriptor"):=by kernel_rfl
noncomputable def uw:List<|String×aL:=[("len",Ri "len"),("sorted",.builtin "sorted"),("min",.builtin "min"),("tuple",.type "tuple"),("range",.type "range")]
def KO(D!:FR w g σ h env cx L)(q:aD w g σ h){n:String}{u:aL}{p:Pos}{y!:List Expr}{P:List AV->av->Prop}{R:AV->aL->Gh->Heap->Prop}(hm:(n,u)∈uw)(hs:cx.a.lookup (cv n)=I .globalImplicit)(hd:(cv n==("__debug__":Str))=am)(a0:gV y!=U)(r:Run w A s₀ NX g σ h (qY<|nE pos<|kf y! env) (si w) P)(k:∀xs vs B t S,P xs t->aI w B S xs vs->aD w B t S->Run w A s₀ NX B t S (iE u vs) R K):
 Run w A s₀ NX g σ h (eval (.Call (.Name (cv n) p) y! [] pos) env) R K:=by
 intro tk;obtain l:l6 w u:=by
  unfold uw at hm;simp only[cf,Ak,jU,or_false] at hm;rcases hm with⟨_,rfl⟩|⟨_,rfl⟩|⟨_,rfl⟩|⟨_,rfl⟩|⟨_,rfl⟩;.exact l6.builtin
  .exact l6.builtin
  .exact l6.builtin
  .exact l6.I9
  .exact l6.I9
 refine RD H<|SY D! q hs hm hd ?_;have f:∀p∈kf y! env,p.1=false:=λp o=>by
  rw[EN a0] at o;refine aA (bp.mp o) λe j m=>?_;subst m;rfl
 refine callWith_of (by rw[G8 f];rfl) l<|ff (KC f r tk) (λa s d=>?_) λj j x=>x;obtain⟨xs,t,B,S,c,rfl,l,⟨y,z⟩,b,i⟩:=d;refine⟨b.c.t,?_⟩;rw[y];exact ff (k xs a.pos B t S l z b c) (λv C d=>d.q i) λj j x=>x
def a3B(t:aD w g σ h){x:AV}{vs:List aL}(e:aI w g h [x] vs)(B:jX σ x λus=>O us<=aR/\K (.a<|O us) σ):Run w A s₀ NX g σ h (iE (.builtin "len") vs) (VR w) K:=by
 refine aA e.un λv b e1=>?_;clear e;subst b;unfold jX at B;rcases q:iL σ x with _|us;.obtain B:=q▸B;exact B.elim
 .obtain B:=q▸B;exact VX t e1 q B.1 B.2
def a3v(t:aD w g σ h){x:AV}{vs:List aL}(B:match x with|.B _=>False|_=>jX σ x λus=>O us<=aR/\K (.B us) σ)(e:aI w g h [x] vs):Run w A s₀ NX g σ h (iE (.type "tuple") vs) (VR w) K:=by
 refine aA e.un λv f e1=>?_;clear e;subst f;have k:∀z,x≠.B z:=λz hz=>by subst hz;exact B
 have c:jX σ x λus=>us.length<=aR/\K (.B us) σ:=by
  induction x using AV.casesOn<;>first|exact B|exact aP H<|k _
 unfold jX at c;rcases q:iL σ x with _|us;.obtain c:=q▸c;exact c.elim
 .obtain c:=q▸c;exact(by
   refineλtk=>ox (ue t e1 k q) λa z n i j l=>?_
   subst i;exact call_tuple_list j.isList (λd m=>gl (t.OO (λb o e1=>jd _<|m b o e1) (by
    rcases q:h.get? d.objs.size with _|o';.rfl
    .exact aP (iF<|m _ _ q)<|kK _) (mZ _ H)) λp T E_=>cK.B p T c.2 ⟨_,z,H,.inr H,HR _ _,aI.F E_ _ _ l⟩) (my<|((by have:=aI.iy l;simpa using this)▸c.1)))
def a3w(t:aD w g σ h)(F:A.handled=C){x:AV}{vs:List aL}(e:aI w g h [x] vs)(B:jO σ x=0/\yd σ x λis=>O is<64/\K (.r<|(rU is).map .a) σ):
 Run w A s₀ NX g σ h (iE (.builtin "sorted") vs) (VR w) K:=by
 refine aA e.un λv b e1=>?_;clear e;subst b;obtain⟨d,B⟩:=B;unfold yd pK at B;rcases q:jy σ x with _|es;.obtain B:=q▸B;exact B.elim
 .rw[q] at B;dsimp only at B;rcases c:mn (es.map (·.1)) with _|is;.obtain B:=c▸B;exact B.elim
  .obtain B:=c▸B;exact VI t F e1 q d c B.1 B.2
def a3A(q:aD w g σ h)(R:A.handled=C){x:AV}{vs:List aL}(e:aI w g h [x] vs)(B:ye x λis=>O is<=aR/\match yQ is with|some m=>K (.a m) σ|.none=>False):
 Run w A s₀ NX g σ h (iE (.builtin "min") vs) (VR w) K:=by
 refine aA e.un λv s e1=>?_;clear e;subst s;unfold ye at B;induction x using AV.casesOn<;>try exact B.elim
 rename_i us;rcases o:mn us with _|is;.obtain B:=o▸B;exact B.elim
 .obtain B:=o▸B;dsimp only at B;rcases p:yQ is with _|m;.obtain B:=p▸B;exact B.2.elim
  .obtain B:=p▸B;exact(by
    refineλtk=>rV λd L=>rS e1 λa z n y U D E=>?_
    subst y;refine L<|bc (K8 o E).allInts.items λxs ex=>?_;have f:is=xs.toList.map (·.1):=by rw[<-(K8 o E).numsOf,<-nums_intItems,<-ex]
    have k:is≠[]:=λc=>by subst c;exact cL p
    have l:0<xs.size:=by
     obtain this:=λc=>k<|xW.mp c;rw[f,ba] at this;exact RQ ‹_›
    refine min_intList R (by rw[<-ex];simpa using D.isList) l λu h' M N P=>?_;obtain⟨t,rfl⟩:=intItems_at N;apply bY (q.S P) λQ T=>cK.B Q T B.2;obtain F:m∈is/\∀z∈is,m<=z:=by
     rcases is with _|⟨b,r⟩;.exact aP H k
     .exact fg p▸YD r b
    obtain S:CZ xs (argBest (λi j=>decide<|CZ xs i<CZ xs j)<|xs.size-1)=m:=by
     refine a7c ?_ ?_;.have:=F.1;rw[f] at this;refine aA (mem_getD this) λj J e1=>?_;rw[ba] at J;rw[<-e1,<-numAt_eq];exact(argBest_lt (CZ xs)<|xs.size-1).2 j<|RW J
     .apply F.2 _;rw[f,numAt_eq];exact getD_mem<|by rw[ba,Sw];exact gQ (argBest_lt (CZ xs)<|xs.size-1).1<|RK l RS
    exact⟨t,by rw[S]⟩)
set_option tactic.hygienic false
def aD.Qz(t:aD w g' σ' h')(p:fL g' σ' h' d)(T:Tr X g σ h g' σ' h')(hd:h.get? d=C):aD w (g'.F d) σ' h'/\Tr X g σ h (g'.F d) σ' h'/\du g' h' (g'.F d) h':=by
 have E_:du g' h' (g'.F d) h':=⟨λc x=>.inl x,λc c=>H,λc c=>H,ce _,λc c c e=>e⟩;refine⟨⟨t.c,λl o e=>mY.F E_ (t.f l o e) (λc i=>i) o<|t.i l o e,t.f,t.inj,λl f hz=>?_,t.B,λb hz=>?_,λa j=>.inl<|t.j a j⟩,
  ⟨T.cT,λa x=>.inl<|T.j a x,T.ρ,T.μ,T.N,T.c,T.new,λa hz=>?_,T.d⟩,E_⟩
 .rcases hz with q|q;.exact t.e l f q
  .exact p.wr ⟨l,f,q.symm⟩
 .rcases hz with q|rfl;.exact t.d b q
  .exact p.c
 .rcases hz with q|rfl;.exact T.e a q
  .exact .inr<|.inl hd
def UH(hu:A.units+20<ie){d:Addr}{c:Nat}(a0:1100<=d){k y:AV}{kv yv:aL}{es:List<|AV×AV}{D:Array kj}{n:Nat}{o:Obj}{tk:Tok}{Q:Unit->bT->Prop}{E_:aL->bT->Prop}(t:aD w g σ h)(p:fL g σ h d)(B:oP w g h d c es D n o)(ek:aG w g h k kv)(ey:aG w g h y yv)(hk:dK c k=U)(F:k∉es.map (·.1))(hl:O es<=aR)(hQ:∀h' R S n' o',aD w g σ h'->fL g σ h' d->oP w g h' d c (es++[(k,y)]) S n' o'->qZ d h h'->du g h g h'->Q () (cy s₀ h' R)):cA (MM w) A (HB d kv yv) Q E_<|cy s₀ h tk:=by
 have f:=sw h d<|Af (·.push ⟨mr w k,kv,yv⟩);have l:(h.update d<|Af (·.push ⟨mr w k,kv,yv⟩)).get? d=I (Af (·.push ⟨mr w k,kv,yv⟩) o):=Ai _ B.S<|HQ<|Ag B.d _;have i:du g h g<|h.update d<|Af (·.push ⟨mr w k,kv,yv⟩):=⟨λj x=>x,λj j=>H,λj j=>H,ce _,λb o m e=>(f.2 b λq=>p.j<|aO q m).trans e⟩;unfold HB;try with_reducible apply jC
 refine aW<|keyHash (uc hu H) hk ek λtk=>?_;unfold dictSetHashed;try with_reducible refine jC ?_
 refine aW<|CB (uc hu H) B.S B.d B.f B.q hk ek ?_;rw[NI F];exact aW<|zS<|QX B.S B.d (hz:=by rw[(show D.size=O es from by have:=eY.iy B.f;simp at this;exact this.symm)];exact my hl)<|(λR=>hQ _ R _ _ _ (t.private p a0 f ⟨_,l⟩ H).1 (p.same f ⟨_,l⟩) ⟨l,B.exact.mapDictKeys _,Ag B.d _,by
  rw[Dr];exact eY.rB (eY.F i _ _ _ B.f) hk (aG.F i _ _ ek)<|aG.F i _ _ ey,by
  rw[d9];exact kL.mpr ⟨B.q,fh.mpr ⟨jU,.nil⟩,λa r b s z=>F<|aO (z.trans (d8.mp s:b=k)) r⟩,B.e⟩ f i) tk
def UI(hu:A.units+20<ie)(S:1100<=d):∀ks B ps{es D n o h tk Q E_},
 aD w g σ h->fL g σ h d->oP w g h d c es D n o->aI w g h ks (ps.map (·.1))->aI w g h B (ps.map (·.2))->ks.all (dK c)=U->cg (es.map (·.1)++ks)->O es+O ks<=aR->
 (∀h' F t R o',aD w g σ h'->fL g σ h' d->oP w g h' d c (es++ks.zip B) t R o'->qZ d h h'->Q ⟨⟩ (cy s₀ h' F))->cA (MM w) A (storeAll d ps) Q E_ (cy s₀ h tk):=by
 intro ks;induction ks with
 |nil=>
  intro B ps es D n o h tk Q E_ b p e f l M m i r;obtain rfl:=lF.mp f;exact bQ<|r h tk D n o b p (by rw[List.zip_nil_left,jG];exact e)<|a7H ..
 |cons k ks T=>
  intro B ps es D n o h tk Q E_ b p e f l M m i r;cases ps with
  |nil=>exact gy f λv s j=>nomatch j
  |cons q ps=>
   cases B with
   |nil=>exact nomatch l
   |cons y B=>
    refine gy f λv s j x z=>gy l λu V N C G=>bY (gJ.mp<|Aw.symm.trans M) λJ K=>?_;unfold storeAll;rw[Dj];refine aW (aW<|UH hu S b p e (show aG w g h k q.1 from(show v=q.1 from(oO j).1.symm)▸x) (show aG w g h y q.2 from(show u=q.2 from(oO N).1.symm)▸C) J (λW=>(kL.mp m).2.2 k W k aZ H) (kX i) λh3 X t R o' Y p' Z hs P=>bQ<|T B ps Y p' Z (aI.F P _ _<|((oO j).2.symm)▸z) (aI.F P _ _<|((oO N).2.symm)▸G) K (by simpa using m) (by simp at i⊢;exact mi i) λh' F t R o' I2 p2 D2 L=>r h' F t R o' I2 p2 ?_ (hs.trans L));simpa using D2
abbrev CV(w:cR)(ks:List AV):List AV->List (aL×aL)->Gh->Heap->Prop:=λb ps g h=>aI w g h ks (ps.map (·.1))/\aI w g h b (ps.map (·.2))
def VN(q:aD w g σ h){k:AV}{ks:List AV}{c:Const}{j:Nat}{p:Pos}{v:Expr}{rest:List<|Sem aL×Sem aL}{P:AV->av->Prop}{K:List AV->av->Prop}(hc:CS w k c)(r:∀B F,aD w B σ F->Tr NX g σ h B σ F->Run w A s₀ NX B σ F (eval v env) (VR w) P)(kk:∀x B t F,P x t->aD w B t F->Tr NX g σ h B t F->Run w A s₀ NX B t F (HA rest) (CV w ks) λys S=>K (x::ys) S):
 Run w A s₀ NX g σ h (HA<|(eval (.Constant c j p) env,do let x<-eval v env;standAt pos;pure x)::rest) (CV w<|k::ks) K:=by
 refine Run.q (hc (K:=λa t=>a=k/\t=σ) q ⟨H,H⟩) λa kv B t F G hR e f=>?_;clear q hc;obtain⟨rfl,rfl⟩:=G;refine Run.q (R:=VR w) (K:=P) (Run.F ?_) λx u i S l y n b d=>?_;.exact(r B F e f).q λx u i S l y n b d=>Run.B<|Run.pure b y n
 exact Run.q (Run.F<|kk x i S l y b<|f.q d) λys ps D z E C o s m=>Run.pure s C ⟨aI.cons (aG.F (m.t b) _ _<|aG.F (d.t e) _ _ hR) o.1,aI.cons (aG.F (m.t b) _ _ n) o.2⟩
def WG(q:aD w g σ h)(hu:A.units+20<ie){P}(S:gN.all (·.isSome)=U)(hl:O gN=O t)(h0:gN≠[])(a0:O gN<=15)(hk:ks.all (dK c)=U)(hn:cg ks)(r:∀B,aD w g σ B->Tr NX g σ h g σ B->Run w A s₀ NX g σ B (HA<|pairTrees gN t env pos) (CV w ks) P)(k:∀R F,P R F->O ks=O R/\O ks<=aR/\K (.g c<|ks.zip R) F):Run w A s₀ NX g σ h (eval (.Dict gN t pos) env) (VR w) K:=by
 refineλtk=>wpAny_Dict_any S hl h0 a0 ?_
 obtain⟨s,i⟩:=q.rB {cls:=.type "dict",data:=.dict #[]};have hd:(h.push {cls:=.type "dict",data:=.dict #[]}).get? h.objs.size=I {cls:=.type "dict",data:=.dict #[]}:=mZ _ H;have G:fL g σ (h.push {cls:=.type "dict",data:=.dict #[]}) h.objs.size:=⟨⟨_,hd⟩,q.zr.2,q.zr.1⟩;refine ff (r _ s i tk) (λps J d=>?_) λL L x=>x;obtain⟨R,b,u,v,E,rfl,N,⟨e1,Q⟩,j,f⟩:=d;obtain⟨q1,T,V⟩:=k R b N;have M:=f.R G λz=>z;have l:=q.c.q;refine UI hu l ks R ps j M ((⟨f.S G (λz=>z) hd,⟨H,H,H⟩,H,H,Aq,by
  rw[beq_eq_false_iff_ne] at⊢;intro e;have:Q3<1100:=Y H;rw[<-e] at this;exact aP this<|fw.mpr l⟩:oP w u v h.objs.size c [] #[] 0 _)) e1 Q hk (by simpa using hn) (by simpa using T) λy m D n o C W p X=>?_
 obtain⟨Z,T4,E4⟩:=C.Qz W ((((i.q f).of λL z=>z.elim).q<|(j.private M l X ⟨_,p.S⟩ H).2).r0 λa ob e z=>by
  subst z;exact aP (iF e)<|kK _) (td<|ce _)
 refine⟨_,b,_,y,m,H,V,?_,Z,T4⟩;exact⟨h.objs.size,o,D,n,H,.inr H,p.e,p.S,p.exact,p.d,eY.F E4 _ _ _ p.f,p.q⟩
noncomputable def yB(x step:Int):Nat->List AV
 |0=>[]
 |n+1=>.a x::yB (x+step) step n
def Xm:∀n a,kU a n=yB a 1 n:=by
 intro n;induction n with
 |zero=>
  exactλc=>H
 |succ n b=>
  exactλa=>be (AV.a a::·) (b<|a+1)
def Xo:∀n a,wV a n=yB a (-1) n:=by
 intro n;induction n with
 |zero=>
  exactλc=>H
 |succ n b=>
  exactλa=>be (AV.a a::·) (b<|a+-1)
inductive qn(w:cR)(g:Gh)(h:Heap)(it:Addr)(xs:List AV)(ok:av->Prop):Prop
 |B {a:Addr} {z:Array aL} {i:Nat}:h.IsTupleIter it a i->g.j a->IsT h a z 0->aI w g h xs (z.toList.drop i)->qn w g h it xs ok
 |r {a:Addr} {z:Array aL} {n i:Nat}:h.IsListIter it a i->g.j a->IsL h a z n->aI w g h xs (z.toList.drop i)->qn w g h it xs ok
 |ref {l:a7} {vs:List AV} {i:Nat}:h.IsListIter it (g.μ l) i->l.n<g.N->(∀σ',ok σ'->σ' l=some (.b vs))->xs=vs.drop i->qn w g h it xs ok
 |tY {x step:Int} {n:Nat}:IsRangeIter h it x (n:Nat) step->xs=yB x step n->qn w g h it xs ok
def pH(w:cR)(g:Gh)(h:Heap)(it:Addr)(xs:List AV)(ok:av->Prop):Prop:=
 qn w g h it xs ok\/(xs=[]/\∃d b,h.IsKeyIter it d 0 0 b/\h.DictAt (tE P0 w) d [] b)
theorem qn.F(s:qn w g h it xs ok)(E_:du g h g' h')(hit:∀o,h.get? it=I o->h'.get? it=I o):qn w g' h' it xs ok:=by
 cases s with
 |B c b d h4=>exact .B (aA c λo e r=>⟨o,hit o e,r⟩) (E_.j _ b) (E_.cT _ _ b d)<|aI.F E_ _ _ h4
 |r c b d h4=>exact .r (aA c λo e r=>⟨o,hit o e,r⟩) (E_.j _ b) (E_.cT _ _ b d)<|aI.F E_ _ _ h4
 |ref c b d h4=>exact .ref (E_.μ _ b▸aA c λo e r=>⟨o,hit o e,r⟩) (eR b E_.N) d h4
 |tY c b=>exact .tY (hit _ c) b
def DH(e:aI w g h (x::xs)<|z.toList.drop i):∃v,z[i]?=I v/\aG w g h x v/\aI w g h xs (z.toList.drop<|i+1):=
 gy e λv c b e1 d=>⟨v,AC.symm.trans<|(be (z.toList[·]?)<|Nat.add_zero i).symm.trans<|List.getElem?_drop.symm.trans<|be (λl=>l[0]?) b,e1,ay (a6F.symm.trans<|be List.tail b) d⟩
def pH.jv(t:aD w g σ h){it:Addr}{x:AV}{xs:List AV}{ok:av->Prop}(s:pH w g h it (x::xs) ok)(p:fL g σ h it)(S:ok σ){tk:Tok}{Q:Option aL->bT->Prop}{E_:aL->bT->Prop}(R:∀v h' a0,qZ it h h'->(∃o,h'.get? it=I o)->aG w g h x v->qn w g h' it xs ok->Q (I v) (cy s₀ h' a0)):cA (MM w) A (pyNext<|.ref it) Q E_<|cy s₀ h tk:=by
 have ext:∀{h'},qZ it h h'->du g h g h':=λ{h'} c=>⟨λj x=>x,λj j=>H,λj j=>H,ce _,λb o C e=>(c.2 b λq=>p.j<|aO q C).trans e⟩;refine s.elim (λs=>?_) λe=>nomatch e.1
 cases s with
 |B k d f h4=>
  exact eW (DH h4) λv m u B=>wpAny_pyNext_tuple_item k ⟨_,f,H,0,H⟩ m λh' hi c=>R v h' tk c (aA hi λo e j=>⟨o,e⟩) u<|.B hi d ((c.2 _ λe=>p.j<|aO e d).trans f)<|aI.F (ext c) _ _ B
 |r k d f h4=>
  exact eW (DH h4) λv m u B=>a5n k ⟨_,f,H,_,H⟩ m λh' hi c=>R v h' tk c (aA hi λo e j=>⟨o,e⟩) u<|.r hi d ((c.2 _ λe=>p.j<|e▸d).trans f)<|aI.F (ext c) _ _ B
 |@ref l vs i k d f h4=>
  exact bY (t.i l _<|f σ S) λD r=>gk r λz n e1 e4=>eW (DH<|ay h4<|aI.r0 i e4) λv m u B=>a5n k ⟨_,e1,H,n,H⟩ m λh' hi c=>
   R v h' tk c (aA hi λo e j=>⟨o,e⟩) u (.ref hi d f<|(be List.tail h4).trans a6F)
 |@tY y step n k d=>
  cases n with
  |zero=>exact nomatch d
  |succ n=>
   refine wpAny_pyNext_range_item k (jH.mpr<|sx _) λh' hi c=>?_;rw[show((n+1:Nat):Int)-1=n from xZ n 1] at hi;exact R (.int y tk) h' (tk+1) c ⟨_,hi⟩ (ay ((oO d).1) ⟨_,H⟩)<|.tY hi (oO d).2
def pH.done(q:aD w g σ h){it:Addr}{ok:av->Prop}(t:A.handled=C)(s:pH w g h it [] ok)(S:ok σ){tk:Tok}{Q:Option aL->bT->Prop}{E_:aL->bT->Prop}(R:∀h' a0,Aj it h h'->Q C (cy s₀ h' a0)):cA (MM w) A (pyNext<|.ref it) Q E_<|cy s₀ h tk:=by
 have b:∀{z:Array aL}{i:Nat},aI w g h [] (z.toList.drop i)->z[i]?=none:=λ{z i} e=>Array.getElem?_eq_none<|List.drop_eq_nil_iff.mp e;refine s.elim (λs=>?_) λe=>gk e.2 λd m k D=>wpAny_pyNext_dict_end t k D H λh'=>R h' tk;cases s with
 |B c j f h4=>exact wpAny_pyNext_tuple_end t c ⟨_,f,H,0,H⟩ (b h4) λh'=>R h' tk
 |r c j f h4=>exact a5o t c ⟨_,f,H,_,H⟩ (b h4) λh'=>R h' tk
 |@ref l vs i c j f h4=>exact bY (q.i l _<|f σ S) λo r=>gk r λz n e1 e4=>a5o t c ⟨_,e1,H,n,H⟩ (b<|ay h4<|aI.r0 i e4) λh'=>R h' tk
 |@tY y step n c j=>
  cases n with
  |zero=>exact wpAny_pyNext_range_end t c (by simp) λh'=>R h' tk
  |succ n=>exact nomatch j
def pH.again(s:pH w g h it xs ok){tk:Tok}{Q:aL->bT->Prop}{E_:aL->bT->Prop}(q:Q (.ref it)<|cy s₀ h tk):cA (MM w) A (Hx<|.ref it) Q E_<|cy s₀ h tk:=by
 rcases s with s|⟨_,d,f,k,D⟩
 .cases s with
  |B b c e h4=>exact wpAny_pyIter_tupleiter b q
  |r b c e h4=>exact a5p b q
  |ref b c e h4=>exact a5p (s:=cy s₀ h tk) b q
  |tY b c=>exact wpAny_pyIter_rangeiter b q
 .exact wpAny_pyIter_keyiter k q
def SW{c:Prop}[Decidable c]{a b:Sem α}{Q:α->bT->Prop}{E_:aL->bT->Prop}{s:bT}(q:¬c)(t:cA (MM w) A b Q E_ s):cA (MM w) A (if c then a else b) Q E_ s:=by rw[Z q];exact t
def a0p(x!)(it v)(p):C0 x! it v=pure ()\/C0 x! it v=C0 (.List [] p) it v:=by
 induction x! using Expr.casesOn<;>first|exact .inl H|exact .inr H
def qn.go(s:qn w g h it xs ok){x!:Expr}{v:aL}{tk:Tok}{Q:Unit->bT->Prop}{E_:aL->bT->Prop}(t:Q ()<|cy s₀ h tk):cA (MM w) A (C0 x! (.ref it) v) Q E_<|cy s₀ h tk:=by
 have key:∃o T vs,h.get? it=I o/\o.cls=.type T/\o.data=.fields vs/\(["enumerate","zip","dict_itemiterator","dict_reverseitemiterator","odict_iterator","itertools.zip_longest","itertools.pairwise"].contains T)=false:=by
  cases s with
  |B b f i h4=>exact eW b λo e c d=>⟨o,_,_,e,c,d,Y H⟩
  |r b f i h4=>exact eW b λo e c d=>⟨o,_,_,e,c,d,Y H⟩
  |ref b f i h4=>exact eW b λo e c d=>⟨o,_,_,e,c,d,Y H⟩
  |tY b f=>exact⟨_,_,_,b,H,H,Y H⟩
 refine rS key λo T vs e c d n=>(a0p x! (.ref it) v x!.pos).elim (λq=>ay q<|bQ t) λq=>ay q ?_;clear q key;cases v<;>first|exact bQ t|skip
 refine aW<|wpAny_load e ?_;rw[c,d];exact SW (ay n eS)<|bQ t
abbrev IR(w:cR):AV->aL->Gh->Heap->Prop:=λx v g h=>aG w g h x v\/∃r a b c t u z n,v=.ref r/\IsRange h r a b c t u z/\a6a a b c=U/\Rx a b c=(n:Nat)/\x=.B (yB a c n)
def IsL.isList(e:IsL h a z n):h.IsList a z:=⟨_,e,H,n,H⟩
def Xz:(h.push {cls:=.type "tuple_iterator",data:=.fields #[.ref t,.int 0 0]}).IsTupleIter h.objs.size t 0:=⟨_,mZ _ H,H,H⟩
def Lm:(h.push {cls:=.type "list_iterator",data:=.fields #[.ref t,.int 0 0]}).IsListIter h.objs.size t 0:=⟨_,mZ _ H,H,H⟩
def a7q(w:cR)(g:Gh)(h:Heap)(s₀:bT)(v:aL)(xs:List AV)(ok:av->Prop):Prop:=
 ∃o,o.isFreed=am/\(∀{A:nZ}{tk:Tok}{Q:aL->bT->Prop}{E_:aL->bT->Prop},Q (.ref h.objs.size) (cy s₀ (h.push o) tk)->cA (MM w) A (Hx v) Q E_ (cy s₀ h tk))/\pH w g (h.push o) h.objs.size xs ok
set_option tactic.hygienic true
def X2{o l K}(q:ma (λt=>o) (.d l) K):(∃vs,o=I (.b vs)/\K vs λσ'=>σ' l=I (.b vs))\/(o=I (.a 0 [])/\K [] λt=>True):=by
 cases o with
 |none=>exact q.elim
 |some o=>
  induction o using eE.casesOn with
  |b vs=>exact .inl ⟨vs,H,q⟩
  |d c fs=>exact q.elim
  |a c es=>
   induction c using Nat.casesOn
   .induction es using List.casesOn;.exact .inr ⟨H,q⟩
    .exact q.elim
   .exact q.elim
def du.rB(g)(h)(o):du g h g<|h.push o:=⟨λc x=>x,λc c=>H,λc c=>H,ce _,λb ob c e=>jd _ e⟩
def Z6(t:aD w g σ h){x:AV}{v:aL}{Kx:List AV->(av->Prop)->Prop}{G:Prop}(e:aG w g h x v)(B:ma σ x Kx)(k:∀xs ok,Kx xs ok->ok σ->a7q w g h s₀ v xs ok->G):G:=by
 induction x using AV.casesOn with
 |B vs=>exact k _ _ B aE<|(o6 e λa z d f it j=>⟨_,H,λ{A tk Q E_} i=>ay d<|wpAny_pyIter_tuple ⟨_,it,H,0,H⟩ i,.inl<|.B Xz f (jd _ it)<|aI.F (.rB ..) _ _ j⟩)
 |r vs=>exact k _ _ B aE<|(rS e λa z n d f it j=>⟨_,H,λ{A tk Q E_} i=>ay d<|a5q (IsL.isList it) i,.inl<|.r Lm f (jd _ it)<|aI.F (.rB ..) _ _ j⟩)
 |d l=>exact(X2 B).elim (λq=>aA q λvs m B=>k _ _ B m<|(by
  obtain⟨rfl,z,n,it,j⟩:=vy t e m;exact⟨_,H,λ{A tk Q E_} i=>a5q (IsL.isList it) i,.inl<|qn.ref Lm e.2 (λy b=>b) H⟩)) λq=>k _ _ q.2 aE<|(by
   obtain⟨rfl,D,n,o,c⟩:=zx t e q.1;refine eW (c.dictOf (s₀:=s₀) 0) λA! r s C=>?_;obtain⟨u,p⟩:=((lF.mp s)▸r).dictAt;exact⟨_,H,λ{A tk Q E_} i=>wpAny_pyIter_dict c.e p i,.inr ⟨H,_,u,⟨_,mZ _ H,H,H⟩,p.push _⟩⟩)
 |_=>exact B.elim
def NY(B:aD w g σ h){x:AV}{v:aL}{Kx:List AV->(av->Prop)->Prop}(e:IR w x v g h)(F:ma σ x Kx):
 ∃o xs ok,Kx xs ok/\ok σ/\o.isFreed=am/\(∀{A:nZ}{tk:Tok}{Q:aL->bT->Prop}{E_:aL->bT->Prop},Q (.ref h.objs.size) (cy s₀ (h.push o) tk)->cA (MM w) A (Hx v) Q E_ (cy s₀ h tk))/\pH w g (h.push o) h.objs.size xs ok:=by
 rcases e with e|⟨r,a,b,c,t,u,z,n,rfl,e1,f,e3,rfl⟩;.exact Z6 B e F λxs ok a b q=>eW q λo c d e=>⟨o,xs,ok,a,b,c,d,e⟩
 .exact⟨_,_,λj=>True,F,aE,H,λ{A tk Q E_} i=>wpAny_pyIter_range e1 f i,.inl<|.tY (aO e3<|mZ _ H) H⟩
def JP{a}(q:-1<=a):Rx a (-1) (-1)=(cY (a+1):Nat):=by
 unfold Rx;simp only[show¬((-1:Int)>0) by decide,if_false];split;.exact(be (·+1)<|(a7e _).trans<|xZ a 1).trans (a64<|AA q 1).symm
 .exact iq (a63<|AA (rg.mp ‹_›) 1).symm
inductive Hm(xs:List AV)(K:List AV->Prop):Prop
 |up {n:Int}:xs=[.a n]->-1000<=n->n<=1000->K (kU 0 n.toNat)->Hm xs K
 |dn {a b c:Int}:xs=[.a a,.a b,.a c]->c=-1->b=-1->-1<=a->a<=1000->K (wV a (a+1).toNat)->Hm xs K
def Xl{K}(h:DC xs K):Hm xs K:=by
 rcases xs with _|⟨x,r⟩;.exact h.elim
 .rcases r with _|⟨y,r⟩
  .induction x using AV.casesOn<;>try exact h.elim
   exact .up H h.1 h.2.1 h.2.2
  .rcases r with _|⟨z,r⟩
   .induction x using AV.casesOn<;>try exact h.elim
    induction y using AV.casesOn<;>exact h.elim
   .rcases r with _|⟨_,_⟩
    .induction x using AV.casesOn<;>try exact h.elim
     induction y using AV.casesOn<;>try exact h.elim
     induction z using AV.casesOn<;>try exact h.elim
     exact .dn H h.1 h.2.1 h.2.2.1 h.2.2.2.1 h.2.2.2.2
    .induction x using AV.casesOn<;>try exact h.elim
     induction y using AV.casesOn<;>try exact h.elim
     induction z using AV.casesOn<;>exact h.elim
def a3x(q:aD w g σ h){xs:List AV}{vs:List aL}(e:aI w g h xs vs)(B:DC xs λus=>K (.B us) σ):Run w A s₀ NX g σ h (iE (.type "range") vs) (IR w) K:=by
 intro tk;rcases Xl B with⟨rfl,k,b,c⟩|⟨rfl,rfl,rfl,b,j,c⟩;.rename_i n;refine aA e.un λv d e1=>?_;subst d;obtain⟨t,rfl⟩:=e1;refine call_range_1 (bY (q.rB {cls:=.type "range",data:=.fields #[.int 0 tk,.int n t,.int 1<|tk+1]}) λf T=>⟨_,σ,g,_,_,H,c,.inr ⟨_,0,n,1,_,_,_,cY n,H,a5X ..,small_one (dI _) (Y H) (Gb k H)<|zh b H,?_,by rw[Xm]⟩,f,T⟩);rw[rangeSize_one];split<;>first|exact(Int.sub_zero n).trans (a64<|uT<|by assumption).symm|exact iq (a63<|rg.mp<|by assumption).symm
 .rename_i a;refine rS e.wF λv u t i e1 l e3=>?_;clear e B;subst i;obtain⟨m,rfl⟩:=e1;obtain⟨o,rfl⟩:=l;obtain⟨p,rfl⟩:=e3;exact call_range_3 (Y H) (bY (q.rB (X:=NX) {cls:=.type "range",data:=.fields #[.int a m,.int (-1) o,.int (-1) p]}) λf T=>⟨_,σ,g,_,_,H,c,.inr ⟨_,a,-1,-1,_,_,_,cY<|a+1,H,a5X ..,(by
   unfold a6a;rw[JP b];simp only[a7K,eB,rh,decide_eq_true_eq,show¬((-1:Int)>0) by decide,if_false];exact⟨⟨⟨⟨⟨Gb b H,zh j H⟩,Y H,Y H⟩,Y H,Y H⟩,zg H,Ca (a65.mpr<|AA j 1) H⟩,.inr ⟨Y H,Y H⟩⟩),JP b,by rw[Xo]⟩,f,T⟩) (Or.inl<|a6b<|by decide+kernel)
noncomputable def ij(cx:Cx)(i:Nat)(x:Str):Bool:=cx.V.lookup x==I i&&(cx.a.lookup x==I .local||cx.a.lookup x==I .cell)
noncomputable def EO:List Expr->List Str
 |[]=>[]
 |e::r=>pU (m:=λb=>List Str) (λb=>[]) e λx b=>x::EO r
def sK(e:Expr):List Str:=pU (m:=λb=>List Str) (λe=>yH (m:=λb=>List Str) (λb=>[]) e λes b b=>EO es) e λx b=>[x]
class inductive vT (cx:Cx):List Nat->List Expr->List Str->Prop
 |nil:vT cx [] [] []
 |cons {i:Nat} {x:Str} {p:Pos} {is:List Nat} {es:List Expr} {xs:List Str}:ij cx i x=U->vT cx is es xs->vT cx (i::is) (.Name x p::es) (x::xs)
inductive Hj(cx:Cx):Tg->Expr->List Str->Prop
 |B {i:Nat} {x:Str} {p:Pos}:ij cx i x=true->Hj cx (.B i) (.Name x p) [x]
 |a {is:List Nat} {es:List Expr} {k:Nat} {p:Pos} {xs:List Str}:vT cx is es xs->is.Nodup->Hj cx (.a is) (.Tuple es k p) xs
noncomputable def Jq(cx):(is:List Nat)->(es:List Expr)->Ev (vT cx is es<|EO es)
 |[],es=>oW nO es<|.c .nil
 |i::is,es=>rF nO es λe r=>pU nO e λx b=>.B (ij cx i x) λh=>(Jq cx is r).q λq=>.c<|.cons h q
def Uh(cx)(tg)(e):Ev<|Hj cx tg e<|sK e:=match tg with
 |.B i=>pU nO e λx b=>.B (ij cx i x) λh=>.c<|.B h
 |.a is=>yH nO e λes b b=>(Jq cx is es).q λh=>.B (decide is.Nodup) λq=>.c<|.a h<|Y q
def qz(cx:Cx)(tg:Tg)(e:Expr):Bool:=(Uh cx tg e).r
def JX(L):∀i j x y,i≠j->ci (ci L i x) j y=ci (ci L j y) i x:=by
 induction L with
 |nil=>exactλb b b b b=>H
 |cons a r c=>
  intro i j x y h;cases i with
  |zero=>
   cases j with
   |zero=>exact aP H h
   |succ j=>rfl
  |succ i=>
   cases j with
   |zero=>rfl
   |succ j=>exact be (a::·)<|c i j x y λe=>h<|be (·+1) e
def Vh(is):∀vs L j y,j∉is->lK (ci L j y) is vs=ci (lK L is vs) j y:=by
 induction is with
 |nil=>exactλvs b b b b=>by cases vs<;>rfl
 |cons i is c=>
  intro vs L j y h;cases vs with
  |nil=>rfl
  |cons v vs=>exact(be (lK · is vs)<|JX L j i y v λe=>h<|ay e aZ).trans<|c vs _ j y λe=>h<|bK _ e
def ij.B{x}(e:ij cx i x=U):cx.V.lookup x=I i/\(cx.a.lookup x=I .local\/cx.a.lookup x=I .cell):=by
 simp only[ij,eB,rh,dV] at e;exact e
def QE(w:cR)(A:nZ)(X:Addr->Prop)(cx:Cx)(env:Env)(p:Nat×(aL->Sem Unit)):Prop:=∃x,ij cx p.1 x=U/\(∀c,cx.a.lookup x=I .cell->env.cells.lookup x=I c->X c)/\∀(v:aL)(s:bT)(Q:Unit->bT->Prop)(E_:aL->bT->Prop),cA (MM w) A (HF env x v) Q E_ s->cA (MM w) A (p.2 v) Q E_ s
def JG(ok:cx.Ok)(ts:List<|Nat×(aL->Sem Unit))(t:X env.locals)(q:∀p∈ts,QE w A X cx env p):
 ∀{L h vs us tk Q E_},FR w g σ h env cx L->aD w g σ h->O ts=O vs->aI w g h vs us->
 (∀h' B,du g h g h'->FR w g σ h' env cx (lK L (ts.map (·.1)) vs)->aD w g σ h'->Tr X g σ h g σ h'->Q () (cy s₀ h' B))->cA (MM w) A (assignInOrder (ts.map (·.2)) us) Q E_ (cy s₀ h tk):=by
 induction ts with
 |nil=>
  intro L h vs us tk Q E_ D! b c e d;cases vs with
  |nil=>
   exact bQ<|d h tk (du.B ..) D! b<|Tr.B _ b
  |cons _ _=>cases c
 |cons p ts l=>
  intro L h vs us tk Q E_ D! b c e d;cases vs with
  |nil=>cases c
  |cons v vs=>
   obtain⟨u,m,rfl,e1,n⟩:=e;obtain⟨x,j,f,o⟩:=lM q;exact aW<|jC<|o u _ _ _<|AW D! b ok (ij.B j).1 (ij.B j).2 e1 t f λJ r k s y z=>l (jw q) s y (by simpa using c) (aI.F k _ _ n) λC i D F2 G H=>d C i (k.q D) F2 G<|z.q H
inductive QC(w:cR)(A:nZ)(X:Addr->Prop)(cx:Cx)(env:Env)(is:List Nat)(es:List Expr):Prop
 |mk (ts:List<|Nat×(aL->Sem Unit)):ts.map (·.1)=is->assignEach es env=ts.map (λp=>(false,p.2))->(∀p∈ts,QE w A X cx env p)->QC w A X cx env is es
def Ue{is es xs}(h:vT cx is es xs)(t:∀x∈xs,∀c,cx.a.lookup x=I .cell->env.cells.lookup x=I c->X c):QC w A X cx env is es:=by
 induction h with
 |nil=>exact .mk [] H H dS
 |@cons i x p is es xs b _ d=>
  obtain⟨ts,e,f,g⟩:=d λy j=>t y<|bK _ j;refine .mk ((i,C5 (.Name x p) env)::ts) (be (i::·) e) ?_ λq hq=>?_;.show(am,C5 (.Name x p) env)::assignEach es env=_;rw[f];rfl
  .rcases cf.mp hq with rfl|hq;.exact⟨x,b,lM t,λv s Q E_ k=>aW<|qf k⟩
   .exact g q hq
def IW(q:aD w g σ h)(B:A.handled=C){vs:List AV}{v:aL}(e:aG w g h (.B vs) v){n:Nat}(F:O vs=n){tk:Tok}{Q:List aL->bT->Prop}{E_:aL->bT->Prop}(R:∀h' t us,du g h g h'->aI w g h' vs us->aD w g σ h'->(∀b o,h.get? b=I o->h'.get? b=I o)->Q us (cy s₀ h' t)):cA (MM w) A (unpackItems v n C) Q E_<|cy s₀ h tk:=by
 refine o6 e λa z i f it j=>?_;subst i;obtain c:n=z.size:=by have:=aI.iy j;simp at this;exact F.symm.trans this
 subst c;refine wpAny_unpackItems_tuple B ⟨_,it,H,0,H⟩ λh' m=>?_;have k:=λb o e=>m b o (hZ<|iF e) e;obtain l:du g h g h':=⟨λd x=>x,λd d=>H,λd d=>H,ce _,λb ob d=>k b ob⟩;exact R h' tk _ l (aI.F l _ _ j) (q.S (X:=NX) k).1 k
def FR.cT(D!:FR w g σ h env cx L)(t:aD w g σ h)(k:∀b o,h.get? b=I o->h'.get? b=I o):FR w g σ h' env cx L:=D!.q t (t.S k).2
def DX(ok:cx.Ok){tg:Tg}{x!:Expr}(ht:qz cx tg x!=U)(hh:A.handled=C)(D!:FR w g σ h env cx L)(t:aD w g σ h){x:AV}{v:aL}(e:aG w g h x v){KL:List AV->Prop}(R:p9 L tg x KL){tk:Tok}(S:X env.locals)(B:∀x∈sK x!,∀c,cx.a.lookup x=I .cell->env.cells.lookup x=I c->X c){Q:Unit->bT->Prop}{E_:aL->bT->Prop}(hQ:∀L' h' a0,KL L'->du g h g h'->FR w g σ h' env cx L'->aD w g σ h'->Tr X g σ h g σ h'->Q () (cy s₀ h' a0)):cA (MM w) A (C5 x! env v) Q E_<|cy s₀ h tk:=by
 generalize b:sK x!=xs at B;have r:=b▸Ev.S ht;clear ht b;cases r with
 |B f=>
  exact aW<|qf<|AW D! t ok (ij.B f).1 (ij.B f).2 e S (B _ aZ) λm d i s k u=>hQ _ m d R i s k u
 |@a is es j p _ f _=>
  cases x<;>try exact R.elim
  rename_i vs;obtain⟨ts,n,y,z⟩:=Ue (w:=w) (A:=A) (X:=X) f B;rw[arm_assign_Tuple,y];refine aW<|qf ?_;unfold unpack;rw[(show(ts.map λp=>(am,p.2)).findIdx? (·.1)=C from by
   rw[R7] at⊢;intro p D;obtain⟨q,_,rfl⟩:=bp.mp D;rfl)]
  have G:((ts.map λp=>(am,p.2)).map (·.2))=ts.map (·.2):=by rw[kM];rfl
  rw[G];have tl:O ts=O is:=by rw[<-n,ba]
  refine aW (jC<|IW t hh e (by rw[ba,tl];exact R.1) λm d us i H k o=>?_);refine JG ok ts S z (D!.cT t o) k (by rw[tl];exact R.1.symm) H λJ l K F2 M N=>?_;rw[n] at F2;exact hQ _ J l R.2 (i.q K) F2 M<|(t.S (X:=X) o).2.q N
def UG(ok:cx.Ok)(hh:A.handled=C)(D!:FR w g σ h env cx L)(q:aD w g σ h){i j:Nat}{a b:Str}(R:i≠j)(ha:ij cx i a=U)(hb:ij cx j b=U){vs:List AV}{v:aL}(e:aG w g h (.B vs) v)(hl:O vs=2){B:List<|aL->Sem Unit}{tk:Tok}{Q:Flow->bT->Prop}{E_:aL->bT->Prop}(hQ:∀h' S,du g h g h'->FR w g σ h' env cx (lK L [i,j] vs)->aD w g σ h'->Tr (FX env) g σ h g σ h'->Q .next (cy s₀ h' S)):cA (MM w) A (assignStores env v (I [a,b]) B) Q E_<|cy s₀ h tk:=by
 refine aW<|zS<|aW<|IW q hh e hl λN m us n o r k=>?_;obtain⟨x,y,rfl⟩:∃x y,vs=[x,y]:=⟨_,_,List.eq_getElem_of_length_eq_two _ hl⟩;obtain⟨u,t,rfl,s,D⟩:=o.fS;refine aW<|JG (X:=FX env) (vs:=[y,x]) ok [(j,HF env b),(i,HF env a)] (.inl H) (λp l=>?_) (D!.cT q k) r H (aI.cons D<|aI.cons s H) λG f J F2 K M=>?_
 .simp only[cf,jU,or_false] at l;rcases l with rfl|rfl;.exact⟨b,hb,λc d e=>.inr ⟨b,e⟩,λd d d d z=>z⟩
  .exact⟨a,ha,λc d e=>.inr ⟨a,e⟩,λd d d d z=>z⟩
 .refine bQ<|hQ G f (n.q J) ?_ K ((q.S k).2.q M);have:lK L [j,i] [y,x]=lK L [i,j] [x,y]:=JX L j i y x<|q7 R;rw[<-this];exact F2
def gS.F(B:gS w h):∃o,h.get? 1099=I o:=bc (v0.mp<|(by kernel_rfl)) λo e=>⟨o,B.c (1099,o)<|m9 e⟩
def gS.nB(B:gS w h){it:Addr}(hit:1100<=it)(R:Aj it h h'):gS w h':=by
 obtain ne:∀q:Addr,q<1100->q≠it:=λq hq e=>by subst e;exact aP hq<|fw.mpr hit
 refine⟨λq hq=>R _ _ (ne _ ?_)<|B.main q hq,λq hq=>R _ _ (ne _ ?_)<|B.c q hq,bc B.F λo e=>iF<|R _ _ (ne _<|Y H) e⟩;.have:=BF w.params;rw[eB] at this;exact bU<|gf.mp this.1 q hq
 .have:=BF w.params;rw[eB] at this;exact bU<|gf.mp this.2 q hq
theorem aD.nB(t:aD w g σ h){it:Addr}(hit:1100<=it)(p:fL g σ h it)(hx:Aj it h h'):aD w g σ h':=by
 have E_:du g h g h':=⟨λb x=>x,λb b=>H,λb b=>H,ce _,λa o c e=>hx a o (λq=>p.j<|aO q c) e⟩;exact⟨t.c.nB hit hx,λl o e=>mY.F E_ (t.f l o e) (λo' d=>hx _ _ (λq=>p.wr ⟨l,ay e λz=>(l7 z),q.symm⟩) d) o<|t.i l o e,t.f,t.inj,t.e,t.B,λa c=>bc (t.d a c) λo e=>⟨o,E_.cT a o c e⟩,t.j⟩
def FR.nB(D!:FR w g σ h env cx L){it:Addr}(p:fL g σ h it)(n1:env.locals≠it)(S:∀x c,env.cells.lookup x=I c->c≠it)(t:Aj it h h'):FR w g σ h' env cx L:=by
 have E_:du g h g h':=⟨λb x=>x,λb b=>H,λb b=>H,ce _,λa o n e=>t a o (λq=>p.j<|aO q n) e⟩;have l:∀{a},a≠it->fL g σ h a->fL g σ h' a:=λ{a} r q=>by
  exact bc q.c λo e=>⟨⟨o,t _ _ r e⟩,q.j,q.wr⟩
 refine⟨D!.e,D!.j,D!.f,D!.n,D!.eX,l n1 D!.R,aA D!.d λm s u=>⟨m,s.at λo=>t _ _ n1,λx i d f=>OV.F E_<|u x i d f⟩,λx i d f=>?_,D!.apart,D!.vm,λx c e=>bc (D!.ex x c e) λo ho=>⟨o,t c o (S x c e) ho⟩⟩;obtain⟨c,o,j,⟨v,y,k⟩,z,h4,A⟩:=D!.a x i d f;exact⟨c,o,j,⟨v,t _ _ (S x c j) y,k⟩,OV.F E_ z,l (S x c j) h4,A⟩
inductive QQ(w:cR)(s₀:bT)(env:Env)(cx:Cx)(B:List AV->av->(Option AV->List AV->av->Prop)->Prop)(tg:Tg)(okp:av->Prop)(K:Option AV->List AV->av->Prop)(it:Addr)(g:Gh)(σ:av)(h:Heap):Nat->bT->Prop
 |mk {xs:List AV} {L':List AV} {σ':av} {g':Gh} {h':Heap} {tk':Tok}:pH w g' h' it xs okp->okp σ'->cu B tg okp xs L' σ' K->FR w g' σ' h' env cx L'->aD w g' σ' h'->fL g' σ' h' it->
  Tr (λa=>FX env a\/a=it) g σ h g' σ' h'->du g h g' h'->QQ w s₀ env cx B tg okp K it g σ h xs.length (cy s₀ h' tk')
def Ze(c1:cx.Ok)(hh:A.handled=C){tg:Tg}{x!:Expr}{body:List Stmt}(ht:qz cx tg x!=U){B:List AV->av->(Option AV->List AV->av->Prop)->Prop}(b9:∀a1 a0 S a4 a5,FR w a1 a0 S env cx a4->aD w a1 a0 S->B a4 a0 a5->lV w A s₀ env cx a1 a0 S (pB body env) a5){it:Addr}{a2:av->Prop}{K:Option AV->List AV->av->Prop}{R:uJ->bT->Prop}(hR:∀f s',qt w env cx g σ h s₀ K f s'->R (.ok f) s')(a8:h.get? it=C)(n1:env.locals≠it)(n2:∀x c,env.cells.lookup x=I c->c≠it)(a9:1100<=it){xs:List AV}{S:Heap}{tk:Tok}(s:pH w g S it xs a2)(a3:a2 σ)(hw:cu B tg a2 xs L σ K)(D!:FR w g σ S env cx L)(t:aD w g σ S)(p:fL g σ S it)(T:Tr (λa=>FX env a\/a=it) g σ h g σ S)(E0:du g h g S):
 z0 (MM w) A (.forLoop x! (.ref it) body [] env) R (cy s₀ S tk):=by
 refine codeAny_forLoop_any (QQ w s₀ env cx B tg a2 K it g σ h) ?_ (O xs) ⟨s,a3,hw,D!,t,p,T,E0⟩;rintro k s' ⟨s,a3,hw,D!,t,p,T,E0⟩;rename_i xs L' σ' g' h' c3;have j:¬FX env it:=λz=>z.elim (λe=>n1 e.symm) λ⟨x,e⟩=>n2 x it e H;cases xs with
 |nil=>
  refine s.done t hh a3 λh2 m n=>a5x<|hR _ _ ?_;have l:∀b o,h.get? b=I o->b≠it:=λb o e q=>by subst q;rw[a8] at e;exact cL e
  refine⟨C,L',σ',g',h2,m,H,hw,H,D!.nB p n1 n2 n,t.nB a9 p n,⟨λb o e hw hX=>n b o (l b o e)<|T.cT b o e hw λz=>z.elim hX<|l b o e,T.j,T.ρ,T.μ,T.N,T.c,T.new,T.e,λb o e=>?_⟩,E0.q ⟨λi x=>x,λi i=>H,λi i=>H,ce _,λa o M e=>n a o (λq=>p.j<|aO q M) e⟩⟩;obtain⟨o',e'⟩:=T.d b o e;exact⟨o',n b o' (l b o e) e'⟩
 |cons x xs=>
  refine s.jv t p a3 λv h2 m D y N s2=>?_;obtain⟨I2,T2⟩:=t.private (X:=λa=>FX env a\/a=it) p a9 D y<|.inr H;have P:du g' h' g' h2:=⟨λi x=>x,λi i=>H,λi i=>H,ce _,λb o M e=>(D.2 b λq=>p.j<|aO q M).trans e⟩;have Q:=p.same D y;refine s2.go<|DX (X:=FX env) c1 ht hh (D!.nB p n1 n2 D.extBut) I2 (aG.F P _ _ N) hw (.inl H) (λx i c i e=>.inr ⟨x,e⟩) λL3 h3 V W Y F3 I3 E=>ff (b9 g' σ' h3 L3 _ F3 I3 W V) (λf s4 d=>?_) λi i z=>z.elim;obtain⟨r,L4,Z,g4,h4,c2,rfl,hK,G,F4,I4,T4,E4⟩:=d;have TT:=(T.q T2).q<|(E.q T4).of λi z=>.inl z;cases r with
  |none=>
   subst G;refine⟨O xs,lY _,.mk (.inl<|(s2.F Y λo=>E.S Q j).F E4 λo e=>T4.S (E.R Q j) j e) hK.1 hK.2 F4 I4 (T4.R (E.R Q j) j) TT<|((E0.q P).q Y).q E4⟩
  |some v=>
   obtain⟨u,G,N⟩:=G;subst G;refine hR _ _ ⟨I v,L4,Z,g4,h4,c2,H,hK,⟨u,H,N⟩,F4,I4,TT.r0 λa o e z=>?_,((E0.q P).q Y).q E4⟩;rcases z with z|z;.exact z
   .subst z;rw[a8] at e;exact cL e
set_option tactic.hygienic false
theorem qt.q{K}(T:Tr (FX env) g σ h g' σ' h')(E_:du g h g' h')(d:qt w env cx g' σ' h' s₀ K F s):qt w env cx g σ h s₀ K F s:=by
 obtain⟨r,j,b,l,m,c,e,k,f,fr,i,t,x⟩:=d;exact⟨r,j,b,l,m,c,e,k,f,fr,i,T.q t,E_.q x⟩
def FR.B(D!:FR w g σ h env cx L):∃o,h.get? env.locals=I o:=D!.R.c
def WE(a3:cx.Ok)(hh:A.handled=C){tg:Tg}{x! iter:Expr}{body:List Stmt}(ht:qz cx tg x!=U)(oy:∀x,Hz iter env x=pure x){B:List AV->av->(Option AV->List AV->av->Prop)->Prop}{K:Option AV->List AV->av->Prop}(a2:∀R t S a0 a1,FR w R t S env cx a0->aD w R t S->B a0 t a1->lV w A s₀ env cx R t S (pB body env) a1)(D!:FR w g σ h env cx L)(q:aD w g σ h)(r:Run w A s₀ NX g σ h (eval iter env) (IR w) λx t=>ma t x λxs ok=>O xs<=aR/\cu B tg ok xs L t K):lV w A s₀ env cx g σ h (exec (.For x! iter body [] pos) env) K:=by
 refineλtk=>wpAny_For (ff (r tk) (λv W d=>rV λi E=>?_) λj j z=>z) oy
 obtain⟨x,J,X,D,M,rfl,n,hR,l,m⟩:=d;obtain⟨o,xs,ok,⟨_,n⟩,p,k,hit,s⟩:=NY l hR n;refine E<|hit ?_;obtain u:∀b ob,D.get? b=I ob->(D.push o).get? b=I ob:=λb ob e=>jd _ e;exact bY (l.S u) λN P=>Ze a3 hh ht a2 (λf Y d=>d.q (m.of λj z=>z.elim)<|m.t q) (td<|ce _) (by
  exact bc (D!.q q m).B λZ e=>hZ<|iF e) (λx c e=>by
  exact bc (D!.ex x c e) λQ T=>bc (m.d c Q T) λV y=>hZ<|iF y) l.c.q s p n ((D!.q q m).cT l u) N ⟨⟨o,mZ _ k⟩,l.zr.2,l.zr.1⟩ P ⟨λj x=>x,λj j=>H,λj j=>H,ce _,λa ob j=>u a ob⟩
def uY(tg:Tg)(L q:List AV):Prop:=∀x(K:List AV->Prop),p9 L tg x K->p9 q tg x K
set_option tactic.hygienic true
def Ec(L):∀i x y,ci (ci L i x) i y=ci L i y:=by
 induction L with
 |nil=>exactλb b b=>H
 |cons a r c=>exactλi x y=>by cases i with
  |zero=>rfl
  |succ i=>exact be (a::·)<|c i x y
def JZ(is):∀vs us L,cg is->O vs=O is->O us=O is->lK (lK L is vs) is us=lK L is us:=by
 induction is with
 |nil=>exactλvs us b b b b=>by cases vs<;>cases us<;>rfl
 |cons i is e=>
  refineλvs us L f c d=>bY (fh.mp f) λg j=>?_
  cases vs with
  |nil=>cases c
  |cons v vs=>
   cases us with
   |nil=>cases d
   |cons u us=>
    refine(?_:lK (ci (lK (ci L i v) is vs) i u) is us=lK (ci L i u) is us);rw[<-Vh is vs (ci L i v) i u g,Ec];exact e vs us _ j (Df c)<|Df d
noncomputable def yk:Tg->Bool
 |.B _=>U
 |.a is=>decide is.Nodup
def a37(R:yk tg=U){L B:List AV}(F:uY tg L B){x:AV}{t:List AV->Prop}(q:p9 L tg x t):p9 B tg x λL'=>t L'/\uY tg L L':=by
 obtain b:=F x λL'=>t L'/\uY tg L L';apply b;clear F b;cases tg with
 |B i=>exact⟨q,λy K h=>by show K<|ci (ci L i x) i y;rw[Ec];exact h⟩
 |a is=>
  induction x using AV.casesOn<;>try exact q.elim
  rename_i vs;refine⟨q.1,q.2,λy K h=>?_⟩;induction y using AV.casesOn<;>try exact h.elim
  rename_i us;refine⟨h.1,?_⟩;rw[JZ is vs us L (Y R) q.1 h.1];exact h.2
def a3d{it acc}(q:Nat->bT->Prop)(a3:∀n s,q n s->cA (hW prog w) A (pyNext it) (λr B=>match r with
 |none=>R (.ok .next) B
 |some v=>cA (hW prog w) A (C0 x! it v) (λt F=>cA (hW prog w) A (C5 x! env v) (λt a0=>
  cA (hW prog w) A (forIn a4 U λc r=>if r=U then do let ok<-isTrue c env (eval c env);pure (uU ok) else pure<|uU r) (λok S=>
   if ok=U then cA (hW prog w) A (eval cM env) (λx a1=>
    cA (hW prog w) A (call (.builtin "list.append") [acc,x]) (λt a2=>∃m,m<n/\q m a2) (zY (hW prog w) A env λe s'=>R (.error e) s') a1) (zY (hW prog w) A env λe s'=>R (.error e) s') S
   else∃m,m<n/\q m S) (zY (hW prog w) A env λe s'=>R (.error e) s') a0) (zY (hW prog w) A env λe s'=>R (.error e) s') F) (zY (hW prog w) A env λe s'=>R (.error e) s') B) (zY (hW prog w) A env λe s'=>R (.error e) s') s)(n)(h:q n s):
 z0 (hW prog w) A (.compLoop (.ListComp cM [⟨x!,iter,a4,0⟩] y' pos) 0 it acc env) R s:=by
 refine codeAny_loop H q (λn s hI=>wpAny_noted ?_) n h;rw[compTurn_list];refine aW<|qf<|aW<|ff (a3 n s hI) (λr B b=>?_) λt t h'=>h';rcases r with _|v;.exact bQ b
 .refine aW<|ff b (λt F f=>aW<|ff f (λt a0 g=>aW<|ff g (λok S d=>?_) λt t h'=>h') λt t h'=>h') λt t h'=>h';rcases ok with _|_;.exact bQ ⟨H,d⟩
  .exact aW<|aW<|ff d (λx a1 i=>aW<|ff i (λt a2 j=>bQ<|bQ ⟨H,j⟩) λt t h'=>h') λt t h'=>h'
inductive SK(w:cR)(s₀:bT)(env:Env)(cx:Cx)(T1 T2:List AV->av->(AV->av->Prop)->Prop)(tg:Tg)(okp:av->Prop)(L:List AV)(K:List AV->av->Prop)(it D:Addr)(g:Gh)(σ:av)(h:Heap):Nat->bT->Prop
 |mk {xs ws Lp:List AV} {σ':av} {g':Gh} {h':Heap} {tk':Tok} {z:Array aL} {n:Nat}:pH w g' h' it xs okp->okp σ'->iJ T1 T2 tg okp L xs σ' (λvs σ₃=>K (ws++vs) σ₃)->uY tg L Lp->FR w g' σ' h' env cx Lp->aD w g' σ' h'->
  fL g' σ' h' it->fL g' σ' h' D->IsL h' D z n->aI w g' h' ws z.toList->ws.length+xs.length<=aR->Tr (λa=>a=env.locals\/a=it\/a=D) g σ h g' σ' h'->du g h g' h'->SK w s₀ env cx T1 T2 tg okp L K it D g σ h xs.length (cy s₀ h' tk')
def a26(d3:cx.Ok)(hh:A.handled=C){tg:Tg}{x! iter cM:Expr}{c1:List Expr}{y':uI}(ht:qz cx tg x!=U)(hn:yk tg=U)(d4:∀x∈sK x!,cx.a.lookup x≠I .cell){T1 T2:List AV->av->(AV->av->Prop)->Prop}(b9:∀a2 a0 S a3 Kb,FR w a2 a0 S env cx a3->aD w a2 a0 S->T1 a3 a0 (λb a4=>c7 a4 b λc=>Kb c a4)->
 Run w A s₀ NX a2 a0 S (forIn c1 U λc r=>if r=U then do let ok<-isTrue c env (eval c env);pure (uU ok) else pure<|uU r) BR Kb)(c2:∀a2 a0 S a3 a9,FR w a2 a0 S env cx a3->aD w a2 a0 S->T2 a3 a0 a9->Run w A s₀ NX a2 a0 S (eval cM env) (VR w) a9){it t:Addr}{a5:av->Prop}{K:List AV->av->Prop}{R:uJ->bT->Prop}(c3:h.get? it=C)(n0:env.locals≠it)(n1:env.locals≠t)(n3:it≠t)(n2:∀x c,env.cells.lookup x=I c->c≠it)(n4:∀x c,env.cells.lookup x=I c->c≠t)(lit:1100<=it)(lD:1100<=t)(hR:∀ws L' σ' g' h' c4 z n,K ws σ'->aD w g' σ' h'->FR w g' σ' h' env cx L'->fL g' σ' h' t->IsL h' t z n->aI w g' h' ws z.toList->O ws<=aR->
 Tr (λa=>a=env.locals\/a=it\/a=t) g σ h g' σ' h'->du g h g' h'->R (.ok .next) (cy s₀ h' c4)){xs:List AV}{S:Heap}{tk:Tok}{Lp:List AV}(s:pH w g S it xs a5)(a8:a5 σ)(hw:iJ T1 T2 tg a5 L xs σ K)(a1:O xs<=aR)(ha:uY tg L Lp)(D!:FR w g σ S env cx Lp)(B:aD w g σ S)(p:fL g σ S it)(pD:fL g σ S t)(iD:IsL S t #[] 0)(T:Tr (λa=>a=env.locals\/a=it\/a=t) g σ h g σ S)(E0:du g h g S):
 z0 (MM w) A (.compLoop (.ListComp cM [⟨x!,iter,c1,0⟩] y' pos) 0 (.ref it) (.ref t) env) R (cy s₀ S tk):=by
 refine a3d (SK w s₀ env cx T1 T2 tg a5 L K it t g σ h) ?_ (O xs) (.mk (ws:=[]) s a8 hw ha D! B p pD iD H (by simpa using a1) T E0);rintro k s' ⟨s,a8,hw,ha,D!,B,p,pD,iD,eD,a1,T,E0⟩;rename_i xs ws Lp σ' g' h' c4 z n;have nX:∀b o,h.get? b=I o->b≠it:=λb o e q=>by subst q;rw[c3] at e;exact cL e
 cases xs with
 |nil=>
  refine s.done B hh a8 λh2 c5 G=>?_;have E2:du g' h' g' h2:=⟨λi x=>x,λi i=>H,λi i=>H,ce _,λa o hf e=>G a o (λq=>p.j<|q▸hf) e⟩;obtain⟨oD,gD⟩:=pD.c;refine hR ws Lp σ' g' h2 c5 z n (aO (jG ws) hw) (B.nB lit p G) (D!.nB p n0 n2 G) ⟨⟨oD,G _ _ (q7 n3) gD⟩,pD.j,pD.wr⟩ (G _ _ (q7 n3) iD) (aI.F E2 _ _ eD) (by simpa using a1) ⟨λb o e hw hX=>G b o (nX b o e)<|T.cT b o e hw hX,T.j,T.ρ,T.μ,T.N,T.c,T.new,T.e,λb o e=>?_⟩<|E0.q E2;obtain⟨o',e'⟩:=T.d b o e;exact⟨o',G b o' (nX b o e) e'⟩
 |cons x xs=>
  refine s.jv B p a8 λv h2 c5 hs M hv s2=>?_;obtain⟨I2,d5⟩:=B.private (X:=λa=>a=env.locals\/a=it\/a=t) p lit hs M<|.inr<|.inl H;have E2:du g' h' g' h2:=⟨λi x=>x,λi i=>H,λi i=>H,ce _,λb o hf e=>(hs.2 b λq=>p.j<|q▸hf).trans e⟩;have p2:=p.same hs M;have c6:=pD.same hs M;have d6:=(hs.2 t<|q7 n3).trans iD;refine s2.go<|DX (X:=λa=>a=env.locals) d3 ht hh (D!.nB p n0 n2 hs.extBut) I2 (aG.F E2 _ _ hv) (a37 hn ha hw) H (λy hy c hc i=>aP hc<|d4 y hy) λL3 h3 d7 N E3 F3 I3 T3=>?_;have p3:=T3.R p2 λe=>n0 e.symm;have c8:=T3.R c6 λe=>n1 e.symm;refine ff (b9 g' σ' h3 L3 _ F3 I3 N.1 d7) (λb s4 d=>?_) λi i f=>f.elim;obtain⟨c,d8,g4,h4,d9,rfl,P,hc,I4,Q⟩:=d;subst hc;have E4:=Q.t I3;have F4:=F3.q I3 Q;have p4:=Q.R p3 λf=>f;have V:=Q.R c8 λf=>f;have c9:=Q.S c8 (λf=>f)<|T3.S c6 (λe=>n1 e.symm) d6;have s4:=(s2.F E3 λo e=>T3.S p2 (λe=>n0 e.symm) e).F E4 λo e=>Q.S p3 (λf=>f) e;have d0:=((T.q d5).q<|T3.of λi f=>.inl f).q<|Q.of λi f=>f.elim;have d1:=((E0.q E2).q E3).q E4;have W:=aI.F ((E2.q E3).q E4) _ _ eD;cases c with
  |false=>
   exact⟨O xs,lY _,.mk (.inl s4) P.1 P.2 N.2 F4 I4 p4 V c9 W (by simp at a1;exact a6u a1) d0 d1⟩
  |true=>
   refine ff (c2 g4 d8 h4 L3 _ F4 I4 P d9) (λu s5 d=>?_) λi i f=>f.elim;obtain⟨y,e2,g5,h5,e5,rfl,⟨d2,e0⟩,ey,I5,Y⟩:=d;have E5:=Y.t I4;have m:=Y.R V λf=>f;have Z:=Y.S V (λf=>f) c9;have l:=sw h5 t<|Ae λxs=>xs.push u;have E:=C9 Z λxs=>xs.push u;obtain⟨I6,T6⟩:=I5.private (X:=λa=>a=env.locals\/a=it\/a=t) m lD l ⟨_,E⟩<|.inr<|.inr H;have E6:du g5 h5 g5 _:=⟨λi x=>x,λi i=>H,λi i=>H,ce _,λb o hf e=>(l.2 b λq=>m.j<|q▸hf).trans e⟩;refine HE Rq ⟨_,Z,H⟩ a54 (a55 _ _) (PySem.list_append t z n u<|my (by have:=aI.iy<|aI.F E5 _ _ W;simp at this;simp at a1;exact aO this<|kX a1)) ⟨Z,⟨xs.length,lY _,.mk (ws:=ws++[y]) (.inl<|(s4.F E5 λo e=>Y.S p4 (λf=>f) e).F E6 λo e=>(l.2 it n3).trans e) d2 ?_ N.2 ((F4.q I4 Y).nB m n1 n4 l.extBut) I6 ((Y.R p4 λf=>f).same l ⟨_,E⟩) (m.same l ⟨_,E⟩) E ?_ (by simp at a1⊢;exact mi a1) ((d0.q<|Y.of λi f=>f.elim).q T6) ((d1.q E5).q E6)⟩⟩;.rw[<-((show(λvs j=>K (ws++(y::vs)) j)=(λvs j=>K ((ws++[y])++vs) j) from by funext vs j;simp))];exact e0
   .rw[Dr];exact aI.append (aI.F E6 _ _<|aI.F E5 _ _ W)<|aI.B<|aG.F E6 _ _ ey
noncomputable def wU(q y_:List<|Str×vZ):List<|Str×vZ:=y_.map λp=>if(p.2==.free&&q.lookup p.1==I .cell)=U then(p.1,.cell) else p
noncomputable def yj:Tg->List Nat
 |.B i=>[i]
 |.a is=>is
def yi(tg:Tg)(x!:Expr):List<|Str×Nat:=(sK x!).zip<|yj tg
def nV(cx:Cx)(tg:Tg)(x!:Expr)(y':uI):Cx:=⟨wU cx.a y'.names,yi tg x!++cx.V.filter λp=>y'.names.lookup p.1==I .free⟩
def to(cx:Cx)(tg:Tg)(x!:Expr)(y':uI):Bool:=
 y'.kind==.function&&(y'.names.all (λp=>p.2 !=.cell)&&(y'.names.all (λp=>p.2 !=.local||y'.names.lookup p.1==I .local)&&
 (y'.names.all (λp=>p.2 !=.free||(dA (cx.V.lookup p.1)&&(cx.a.lookup p.1==I .cell||cx.a.lookup p.1==I .free)))&&
 (decide (cg<|(nV cx tg x! y').V.map (·.2))&&(decide (cg<|cx.V.map (·.1))&&((sK x!).all (λx=>y'.names.lookup x==I .local)&&(qz (nV cx tg x! y') tg x!&&yk tg)))))))
def Eo(q y_)(x):(wU q y_).lookup x=(y_.lookup x).map λk=>if(k==.free&&q.lookup x==I .cell)=U then .cell else k:=by
 induction y_ with
 |nil=>rfl
 |cons p r b=>
  show R3 x ((if(p.2==C8&&q.lookup p.1==I .cell)=U then(p.1,Ro) else(p.1,p.2))::wU q r)=(R3 x<|(p.1,p.2)::r).map _;rw[<-apply_ite (λk=>(p.1,k)),oN,oN];cases c:x==p.1;.exact b
  .rw[dV.mp c];rfl
noncomputable def nA(E_:List<|Str×Addr):List (Str×vZ)->List (Str×Addr)->List (Str×Addr)
 |[],acc=>acc
 |p::r,acc=>if(p.2==.free)=U then(E_.lookup p.1).elim (nA E_ r acc) λc=>nA E_ r ((p.1,c)::acc) else nA E_ r acc
def G0(E_){P:List (Str×vZ)->List (Str×Addr)->List (Str×Addr)->Prop}(B:∀acc,P [] acc acc)(F:∀n r acc d l,E_.lookup n=I d->P r ((n,d)::acc) l->P ((n,.free)::r) acc l)(t:∀n k r acc l,(k=.free->E_.lookup n=C)->P r acc l->P ((n,k)::r) acc l)(y_):∀acc,P y_ acc<|nA E_ y_ acc:=by
 induction y_ with
 |nil=>exact B
 |cons p r b=>
  intro acc;show P ((p.1,p.2)::r) acc<|if(p.2==.free)=U then(E_.lookup p.1).elim (nA E_ r acc) λc=>nA E_ r ((p.1,c)::acc) else nA E_ r acc;by_cases q:(p.2==.free)=U
  .rw[ak q];cases hd:E_.lookup p.1;.exact t p.1 p.2 r acc _ (λf=>hd) (b acc)
   .rw[dV.mp q];exact F p.1 r acc _ _ hd<|b _
  .rw[Z q];exact t p.1 p.2 r acc _ (λe=>aP (dV.mpr e) q)<|b acc
def MH{E_:List<|Str×Addr}{n}(h:∀x c,acc.lookup x=I c->E_.lookup x=I c)(hd:E_.lookup n=I d)(x)(c)(e:((n,d)::acc).lookup x=I c):E_.lookup x=I c:=by
 rw[oN] at e;cases q:x==n;.rw[q] at e;exact h x c e
 .rw[q] at e;rw[dV.mp q];exact hd.trans e
def MG{E_:List<|Str×Addr}{n x:Str}{c:Addr}(t:E_.lookup x=I c)(hd:E_.lookup n=I d)(h:x=n\/acc.lookup x=I c):((n,d)::acc).lookup x=I c:=by
 rw[oN];cases q:x==n;.exact h.elim (λe=>aP e<|beq_eq_false_iff_ne.mp q) id
 .exact hd.symm.trans<|aO (dV.mp q) t
def PX{E_}:(∀x c,acc.lookup x=I c->E_.lookup x=I c)->∀x c,(nA E_ y_ acc).lookup x=I c->E_.lookup x=I c:=
 G0 E_ (P:=λb a l=>(∀x c,a.lookup x=I c->E_.lookup x=I c)->∀x c,l.lookup x=I c->E_.lookup x=I c) (λb h=>h) (λb b b b b hd d h=>d<|MH h hd) (λb b b b b b d=>d) y_ acc
def a3m{E_ x}(q:E_.lookup x=I c):(∀x c,acc.lookup x=I c->E_.lookup x=I c)->(x,C8)∈y_\/acc.lookup x=I c->(nA E_ y_ acc).lookup x=I c:=
 G0 E_ (P:=λns a l=>(∀x c,a.lookup x=I c->E_.lookup x=I c)->(x,C8)∈ns\/a.lookup x=I c->l.lookup x=I c) (λb b h=>h.elim (λh=>(jU h).elim) id)
  (λn b b b b hd f h d=>f (MH h hd)<|d.elim (λd=>(cf.mp d).elim (λe=>.inr<|MG q hd<|.inl<|be HZ e) .inl) λe=>.inr<|MG q hd<|.inr e)
  (λn k b b b hd f h d=>f h<|d.elim (λd=>(cf.mp d).elim (λe=>aP (q.symm.trans<|(be (λp=>E_.lookup p.1) e).trans<|hd (be Prod.snd e).symm) nofun) .inl) .inr) y_ acc
def a3l(f)(t:∀n k cs,f (n,k) cs=if(k==C8)=U then(do let a<-HD env n;pure<|.yield<|(n,a)::cs) else pure<|.yield cs):(∀p∈y_,p.2=.free->dA (env.cells.lookup p.1)=U)->forIn y_ acc f=pure (nA env.cells y_ acc):=
 G0 env.cells (P:=λns a l=>(∀p∈ns,p.2=.free->dA (env.cells.lookup p.1)=U)->forIn ns a f=pure l) (λe e=>H)
  (λn r acc d l hd b h=>by
   rw[Dj,t,ak H,show HD env n=pure d from by unfold HD;rw[hd]];exact b λp c=>h p<|bK _ c)
  (λn k r acc l hd b h=>by
   rw[Dj,t,Z (λq=>by
    have:=h (n,k) aZ<|dV.mp q;rw[hd<|dV.mp q] at this;exact dj this)]
   exact b λp c=>h p<|bK _ c) y_ acc
def PW(h:∀p∈y'.names,p.2=.free->dA (env.cells.lookup p.1)=U):closureFor y' env=pure (nA env.cells y'.names []):=by
 show(forIn y'.names [] (λx cs=>match x with
  |(B',kind)=>if(kind==C8)=U then(do let a<-HD env B';pure<|uU<|(B',a)::cs) else pure<|uU cs)>>=pure)=_
 rw[a3l _ (λn k cs=>H) h,pure_bind]
def DM(L:List AV)(tg:Tg):List AV:=match tg with
 |.B i=>ci L i .q
 |.a is=>lK L is<|is.map λb=>.q
theorem uY.q(t:yk tg=U)(L):uY tg L<|DM L tg:=λx K h=>by
 cases tg with
 |B i=>show K<|ci (ci L i .q) i x;rw[Ec];exact h
 |a is=>
  induction x using AV.casesOn<;>try exact h.elim
  rename_i vs;refine⟨h.1,?_⟩;rw[JZ is _ vs L (Y t) (by simp) h.1];exact h.2
def OD:∀is L j,dg (lK L is<|is.map λq=>AV.q) j=if j∈is then .q else dg L j:=by
 intro is;induction is with
 |nil=>
  intro L j;exact(Z jU).symm
 |cons i is d=>
  intro L j;rw[d,xq];by_cases b:j∈is;.simp[b]
  .by_cases c:j=i;.simp[c]
   .simp[b,c]
def OC(L)(tg)(j):dg (DM L tg) j=if j∈yj tg then .q else dg L j:=by
 cases tg with
 |B i=>exact OD [i] L j
 |a is=>exact OD is L j
def MF(t:cg<|V.map (·.1)){x i}(h:(V.filter q).lookup x=I i):V.lookup x=I i/\q (x,i)=true:=by
 obtain b:=mem_of_lookup h;refine bY (cG.mp b) λc d=>⟨?_,d⟩;clear h b d;induction V with
 |nil=>nomatch c
 |cons p r g=>
  refine bY (fh.mp (by simpa using t:cg<|p.1::r.map (·.1))) λj k=>?_;clear t;rcases cf.mp c with e|e;.cases e;rw[oN,beq_self_eq_true]
  .rw[oN,beq_eq_false_iff_ne.mpr λq=>by subst q;exact j<|dU (f:=(·.1)) e];exact g k e
set_option tactic.hygienic false
def Uf{is es xs}(h:vT cx is es xs):O xs=O is:=by
 induction h with
 |nil=>rfl
 |cons _ _ b=>exact be (·+1) b
def Ug(h:qz cx tg x!=U):O (sK x!)=O (yj tg):=by
 have h:=Ev.S h;cases h with
 |B _=>rfl
 |a h _=>exact Uf h
structure wk(cx:Cx)(tg:Tg)(x!:Expr)(y':uI):Prop where
 e:y'.kind=.function
 Yz:∀x∈y'.names,x.2≠.cell
 d:∀x∈y'.names,x.2=.local->y'.names.lookup x.1=some .local
 free:∀x∈y'.names,x.2=.free->(cx.V.lookup x.1).isSome=true/\(cx.a.lookup x.1=some .cell\/cx.a.lookup x.1=some .free)
 slots:((nV cx tg x! y').V.map (·.2)).Nodup
 gN:(cx.V.map (·.1)).Nodup
 Jr:∀x∈sK x!,y'.names.lookup x=some .local
 Js:qz (nV cx tg x! y') tg x!=true
 nd:yk tg=true
def to.out(q:to cx tg x! y'=U):wk cx tg x! y':=by
 simp only[to,eB] at q;refine⟨dV.mp q.1,λx b=>bne_iff_ne.mp<|gf.mp q.2.1 x b,λx b c=>?_,λx b c=>?_,Y q.2.2.2.2.1,Y q.2.2.2.2.2.1,λx b=>dV.mp<|gf.mp q.2.2.2.2.2.2.1 x b,q.2.2.2.2.2.2.2.1,q.2.2.2.2.2.2.2.2⟩;.have:=gf.mp q.2.2.1 x b;rw[c] at this;simpa using this
 .have:=gf.mp q.2.2.2.1 x b;rw[c] at this;simpa using this
def wk.q(t:wk cx tg x! y')(D!:FR w g σ h env cx L):∀p∈y'.names,p.2=.free->dA (env.cells.lookup p.1)=true:=λp b d=>by
 refine bY (t.free p b d) λf j=>bc (v0.mp f) λi hi=>gk (D!.a p.1 i hi j) λc k e k=>?_;rw[e];rfl
def a27(t:wk cx tg x! y')(D!:FR w g σ h env cx L){E!:Addr}(R:1100<=E!)(S:fL g σ h E!){m:Str->Option aL}(nC:h.Ns E! m)(B:∀x c,env.cells.lookup x=I c->c≠E!):
 FR w g σ h (compEnvC y' (nA env.cells y'.names []) E! env) (nV cx tg x! y') (DM L tg):=by
 have snd:∀x c,(nA env.cells y'.names []).lookup x=I c->env.cells.lookup x=I c:=PX λx c=>cL;have split:∀{x i},(nV cx tg x! y').V.lookup x=I i->(x∈sK x!/\i∈yj tg)\/(cx.V.lookup x=I i/\y'.names.lookup x=I .free):=λ{x i} e=>by
  have f:(yi tg x!++cx.V.filter λp=>y'.names.lookup p.1==I .free).lookup x=I i:=e;rw[Ii] at f;cases q:(yi tg x!).lookup x with
  |some j=>
   rw[q] at f;cases f;exact .inl ⟨Mi<|mem_of_lookup q,(R1<|mem_of_lookup q).2⟩
  |none=>
   rw[q] at f;exact .inr ⟨(MF t.gN f).1,dV.mp (MF t.gN f).2⟩
 have l:∀{x i},cx.V.lookup x=I i->y'.names.lookup x=I .free->i∉yj tg:=λ{x i} e1 r hi=>by
  have u:=t.slots;have n:(nV cx tg x! y').V.map (·.2)=(yi tg x!).map (·.2)++(cx.V.filter λp=>y'.names.lookup p.1==I .free).map (·.2):=d9 ..;rw[n] at u;exact((kL.mp u).2.2) i (by
   unfold yi;rw[List.map_snd_zip];.exact hi
   .rw[Ug t.Js];exact ce _) i (bp.mpr ⟨(x,i),cG.mpr ⟨mem_of_lookup e1,by rw[r];rfl⟩,H⟩) H
 refine⟨t.e,((by
  refine R2 λp D=>?_;simp only[D!.e,D!.kindOf,beq_self_eq_true,uV])),D!.f,D!.n,R,S,⟨m,nC,λx i n s=>?_⟩,λx i n s=>?_,λx y c v z=>D!.apart x y c (snd x c v)<|snd y c z,λx c e=>B x c<|snd x c e,λx c e=>D!.ex x c<|snd x c e⟩
 .rcases split n with⟨k,d⟩|⟨k,d⟩;.rw[OC,ak d];exact .inl H
  .have b:(wU cx.a y'.names).lookup x=I .local:=s;rw[Eo,d] at b;simp only[a6f] at b;split at b<;>cases b
 .rcases split n with⟨k,d⟩|⟨k,d⟩;.exfalso;have b:(wU cx.a y'.names).lookup x=I .cell\/(wU cx.a y'.names).lookup x=I .free:=s;rw[Eo,t.Jr x k] at b;simp at b
  .obtain⟨c,o,e1,r,e3,e4,A⟩:=D!.a x i k (t.free (x,.free) (mem_of_lookup d) H).2;refine⟨c,o,a3m e1 (λx c=>cL)<|.inl<|mem_of_lookup d,r,?_,e4,A⟩;rw[OC,Z<|l k d];exact e3
def aD.a49(a0:aD w g' σ' h')(p:fL g' σ' h' d)(a1:1100<=d)(T:Tr X g σ h g' σ' h')(hd:h.get? d=C)(iD:IsL h' d z n)(e:aI w g' h' ws z.toList):
 aD w (g'.laid ⟨t,g'.N⟩ d d) (σ'.u ⟨t,g'.N⟩<|.b ws) h'/\Tr X g σ h (g'.laid ⟨t,g'.N⟩ d d) (σ'.u ⟨t,g'.N⟩<|.b ws) h'/\du g' h' (g'.laid ⟨t,g'.N⟩ d d) h'/\aG w (g'.laid ⟨t,g'.N⟩ d d) h' (.d ⟨t,g'.N⟩) (.ref d):=by
 let l:a7:=⟨t,g'.N⟩
 let s:=g'.laid l d d
 have k:∀l':a7,l'.n<g'.N->l'≠l:=λl' f e=>by subst e;exact kK _ f
 have E_:du g' h' s h':=⟨λy x=>x,λl' f=>Z<|k l' f,λl' f=>Z<|k l' f,gR _,λb o' y e=>e⟩;have v:s.ρ l=d:=ak H;have r:s.μ l=d:=ak H;have i:∀l',σ' l'≠.none->s.μ l'=g'.μ l':=λl' f=>Z<|k l'<|a0.cI f;have j:∀l',(σ'.u l<|.b ws) l'≠.none->l'=l\/(l'≠l/\σ' l'≠.none):=λl' e=>by
  rw[rn] at e;by_cases q:l'=l;.exact .inl q
  .rw[Z q] at e;exact .inr ⟨q,e⟩
 have apart:∀l',σ' l'≠.none->g'.μ l'≠d:=λl' f e=>p.wr ⟨l',f,e.symm⟩;refine⟨⟨a0.c,λl' o' c=>?_,λl' o' c=>?_,λl₁ l₂ A B c=>?_,λl' c hz=>?_,λl' c=>?_,a0.d,a0.j⟩,
  ⟨T.cT,T.j,λl' f=>(Z<|k l'<|eR f T.N).trans<|T.ρ l' f,λl' f=>(Z<|k l'<|eR f T.N).trans<|T.μ l' f,rd T.N,λl' c f=>?_,λl' c f=>?_,T.e,T.d⟩,E_,⟨by rw[v],lY _⟩⟩
 .rw[rn] at c;by_cases q:l'=l;.subst q;rw[ak H] at c;cases c;refine⟨v.trans r.symm,z,n,?_,aI.F E_ _ _ e⟩;rw[r];exact iD
  .rw[Z q] at c;exact mY.F E_ (a0.f l' o' c) (λD u=>u) o'<|a0.i l' o' c
 .rw[rn] at c;by_cases q:l'=l;.subst q;exact lY _
  .rw[Z q] at c;exact tJ<|a0.f l' o' c
 .rcases j l₁ A with rfl|⟨F,m⟩<;>rcases j l₂ B with rfl|⟨G,o⟩
  .rfl
  .rw[r,i l₂ o] at c;exact aP c.symm<|apart l₂ o
  .rw[r,i l₁ m] at c;exact aP c<|apart l₁ m
  .rw[i l₁ m,i l₂ o] at c;exact a0.inj _ _ m o c
 .rcases j l' c with rfl|⟨_,q⟩;.rw[r] at hz;exact p.j hz
  .rw[i l' q] at hz;exact a0.e l' q hz
 .rcases j l' c with rfl|⟨_,q⟩;.rw[r];exact a1
  .rw[i l' q];exact a0.B l' q
 .rcases j l' c with rfl|⟨_,q⟩;.exact aP (eR f T.N) (kK _)
  .exact T.c l' q f
 .rcases j l' c with rfl|⟨_,q⟩;.rw[r];exact hd
  .rw[i l' q];exact T.new l' q f
def Dy(K:AV->av->Prop)(ws:List AV)(σ:av):Prop:=K (.r ws) σ\/∃t,∀n,qr σ n->K (.d ⟨t,n⟩) (σ.u ⟨t,n⟩<|.b ws)
def Dy.bD(b:Dy K ws σ')(B:aD w g' σ' h')(p:fL g' σ' h' d)(R:1100<=d)(T:Tr X g σ h g' σ' h')(hd:h.get? d=C)(iD:IsL h' d z n)(e:aI w g' h' ws z.toList):
 ∃y S F,K y F/\aD w S F h'/\Tr X g σ h S F h'/\du g' h' S h'/\aG w S h' y (.ref d)/\∀E!,E!≠d->fL g' σ' h' E!->fL S F h' E!:=by
 rcases b with b|⟨t,b⟩;.exact gl (B.Qz p T hd) λk l j=>⟨.r ws,_,σ',b,k,l,j,⟨d,z,n,H,.inr H,iD,aI.F j _ _ e⟩,λE! m f=>⟨f.c,λc=>c.elim f.j m,f.wr⟩⟩
 .refine mm (B.a49 p R T hd iD e) λk l j s=>⟨_,_,_,b g'.N B.OP,k,l,j,s,λE! m f=>⟨f.c,f.j,λu=>aA u λo i r=>?_⟩⟩;rw[rn] at i;by_cases q:o=⟨t,g'.N⟩;.subst q;exact m (r.trans<|ak H)
  .rw[Z q] at i;exact f.wr ⟨o,i,r.trans<|Z q⟩
def w5{a b:Nat}(h:a<b)(q:b<=a):False:=kK _<|eR h q
noncomputable abbrev Jt(q:List Expr)(env:Env):Sem Bool:=forIn q U λc r=>if r=U then do let ok<-isTrue c env (eval c env);pure (uU ok) else pure<|uU r
structure Dw(w:cR)(A:nZ)(s₀:bT)(cx':Cx)(ifs:List Expr)(cM:Expr)(T1 T2:List AV->av->(AV->av->Prop)->Prop):Prop where
 ji:∀env g₁ σ₁ h₁ L₁ Kb,FR w g₁ σ₁ h₁ env cx' L₁->aD w g₁ σ₁ h₁->T1 L₁ σ₁ (λb σ₂=>c7 σ₂ b λc=>Kb c σ₂)->Run w A s₀ NX g₁ σ₁ h₁ (Jt ifs env) BR Kb
 cM:∀env g₁ σ₁ h₁ L₁ K₁,FR w g₁ σ₁ h₁ env cx' L₁->aD w g₁ σ₁ h₁->T2 L₁ σ₁ K₁->Run w A s₀ NX g₁ σ₁ h₁ (eval cM env) (VR w) K₁
def PN(hh:A.handled=C){tg:Tg}{x! iter cM:Expr}{a0:List Expr}{y':uI}(R:wk cx tg x! y'){T1 T2:List AV->av->(AV->av->Prop)->Prop}(t:Dw w A s₀ (nV cx tg x! y') a0 cM T1 T2){K:List AV->av->Prop}{RR:aL->Addr->uJ->bT->Prop}{E_:aL->bT->Prop}(D!:FR w g σ h env cx L)(B:aD w g σ h){x:AV}{v:aL}(hR:IR w x v g h)(hw:ma σ x λxs ok=>O xs<=aR/\iJ T1 T2 tg ok L xs σ K)(hq:∀d E! ws σ' g' h' a1 z n m,K ws σ'->aD w g' σ' h'->fL g' σ' h' d->fL g' σ' h' E!->1100<=d->1100<=E!->d≠E!->h.get? d=C->h.get? E!=C->h'.Ns E! m->IsL h' d z n->aI w g' h' ws z.toList->O ws<=aR->Tr NX g σ h g' σ' h'->du g h g' h'->
 RR (.ref d) E! (.ok .next) (cy s₀ h' a1)){tk:Tok}:
 cA (MM w) A (Hx v) (λit a2=>cA (MM w) A (newList []) (λacc a3=>cA (MM w) A (newFunctionEnv y' env.globals (nA env.cells y'.names []) [] env.qual C .none<|I env) (λS a4=>
  z0 (MM w) A (.compStart (.ListComp cM [⟨x!,iter,a0,0⟩] y' pos) 0 it acc {S with scope:=relabel y' env}) (RR acc S.locals) a4) E_ a3) E_ a2) E_ (cy s₀ h tk):=by
 refine rV λf W=>?_;obtain⟨o,xs,ok,⟨Z,hw⟩,a5,P,hit,s⟩:=NY B hR hw;refine W (hit<|Hs (wpAny_newFunctionEnv R.Yz (by intro y hy;simp at hy) (λj l p=>?_) R.e)<|Y H);dsimp only at l p⊢;generalize hd:(h.push o).objs.size=d at l p⊢;generalize hH:(h.push o).push {cls:=.type "list",data:=.seq ([]:List aL).toArray}=i at l p⊢;have Q:d=h.objs.size+1:=by rw[<-hd,oJ]
 have u:i.objs.size=h.objs.size+2:=by rw[<-hH,oJ,oJ]
 have T:d≠i.objs.size:=by rw[Q,u];exact hZ<|lY _
 have M:h.objs.size≠i.objs.size:=by rw[u];exact hZ<|xT De
 have V:=λb ob e hb=>p.extBut b ob hb<|jd _<|aO hH<|jd _ e;have W:=λb ob e=>V b ob (jd _ e) (λq=>w5 (iF e)<|by rw[q,u];exact fA _ _);obtain gD:=p.extBut _ _ T<|jd _<|aO hH<|aO hd<|mZ _ H;obtain⟨I4,T4⟩:=B.S (X:=λa=>a=i.objs.size\/a=h.objs.size\/a=d) W;obtain eX:∀b,h.objs.size<=b->(∃ob,j.get? b=I ob)->fL g σ j b:=λb hb ht=>⟨ht,λhf=>by
  obtain⟨ob,eo⟩:=B.d _ hf;exact aP (iF eo)<|fw.mpr hb,λhw=>by
  obtain⟨ob,eo⟩:=B.DB hw;exact aP (iF eo)<|fw.mpr hb⟩
 have U:=B.c.q;obtain lC:1100<=i.objs.size:=by rw[u];exact aV U<|fA _ _
 obtain lD:1100<=d:=by rw[Q];exact aV U<|fA _ _
 have below:=λx c e=>by
  exact bc (D!.ex x c e) λoc=>iF
 obtain snd:∀x c,(nA env.cells y'.names []).lookup x=I c->c<h.objs.size:=λx c e=>below x c<|PX (λx c=>cL) x c e;obtain s4:pH w g j h.objs.size xs ok:=by
  rcases s with s|⟨e,dd,ep,⟨a8,e1,r⟩,Dd⟩;.exact .inl<|s.F ⟨λk x=>x,λk k=>H,λk k=>H,ce _,λa ob hf e=>V a ob e (λq=>by
  exact bc (B.d a hf) λoo eo=>w5 (iF eo)<|by rw[q,u];exact fA _ _)⟩ λob e=>V _ ob e M
  .exact .inr ⟨e,dd,ep,⟨a8,V _ _ e1 M,r⟩,gk Dd λoo es e2 r2=>⟨oo,es,V _ _ e2 (λq=>w5 (iF e2)<|by rw[q,u,oJ];exact gR _),r2⟩⟩
 have N:∀tk,z0 (MM w) A (.compLoop (.ListComp cM [⟨x!,iter,a0,0⟩] y' pos) 0 (.ref h.objs.size) (.ref d)<|compEnvC y' (nA env.cells y'.names []) i.objs.size env) (RR (.ref d) i.objs.size)<|cy s₀ j tk:=λtk=>by
  refine a26 (D6 R.slots) hh R.Js R.nd (λy hy=>?_) (t.ji _) (t.cM _) (td<|ce _)
   (q7 M) (q7 T) (Q▸(RI _).symm) (λx c e=>?_) (λx c e=>?_) U lD ?_ s4 a5 hw Z (uY.q R.nd L) (a27 R (D!.cT B W) lC (eX i.objs.size (ay u<|fA _ _)<|by refine B1 (id l) λoc k k e k=>?_;exact⟨oc,e⟩) l (λx c e=>by have:=below x c e;rw[u];exact hZ<|aV this<|fA _ _)) I4 (eX _ (ce _) ⟨o,V _ _ (mZ _ P) M⟩) (eX d (ay Q<|gR _) ⟨_,gD⟩) gD T4 ⟨λk x=>x,λk k=>H,λk k=>H,ce _,λa ob k=>W a ob⟩
  .rw[Eo,R.Jr y hy];simp
  .exact hZ<|snd x c e
  .rw[Q];exact hZ<|aV (snd x c e)<|fA _ _
  .exactλws L' σ' g' h' a1 z n hK I' F' p' i' e' a9 T' X'=>aA F'.d λm' b9 k=>hq d i.objs.size ws σ' g' h' a1 z n m' hK I' p' F'.R lD lC T (td<|ay Q<|gR _) (td<|ay u<|fA _ _) b9 i' e' a9 (T'.r0 λa ob e z=>by
    rcases z with z|z|z;.exact w5 (iF e)<|by rw[z,u];exact fA _ _
    .exact w5 (iF e)<|ay z<|ce _
    .exact w5 (iF e)<|by rw[z,Q];exact fA _ _) X'
 exact codeAny_compStart_list (N _)<|s4.again<|N _
def Tr.nB(T:Tr X g σ h g' σ' h')(hC:h.get? E!=C)(hx:Aj E! h' B_):Tr X g σ h g' σ' B_:=by
 obtain c:∀b o,h.get? b=I o->b≠E!:=λb o e q=>by subst q;obtain e:=hC▸e;exact cL e
 exact⟨λb o e d f=>hx b o (c b o e)<|T.cT b o e d f,T.j,T.ρ,T.μ,T.N,T.c,T.new,T.e,λb o e=>bc (T.d b o e) λo' i=>⟨o',hx b o' (c b o e) i⟩⟩
def fL.O9(p:fL g σ h E!){B_:Heap}(t:Aj E! h B_):du g h g B_:=⟨λb x=>x,λb b=>H,λb b=>H,ce _,λa o c e=>t a o (λq=>p.j<|aO q c) e⟩
def KN(hh:A.handled=C)(oy:∀x,Hz iter env x=pure x)(R:wk cx tg x! y')(q:Dw w A s₀ (nV cx tg x! y') a0 cM S T2)(D!:FR w g σ h env cx L)(t:aD w g σ h)(hK:∀ws σ',KL ws σ'->Dy K ws σ')(r:Run w A s₀ NX g σ h (eval iter env) (IR w) λx B=>ma B x λxs ok=>O xs<=aR/\iJ S T2 tg ok L xs B KL):Run w A s₀ NX g σ h (eval (.ListComp cM [⟨x!,iter,a0,0⟩] y' pos) env) (VR w) K:=by
 refineλtk=>a5y H oy (PW<|R.q D!) R.e R.d (ff (r tk) (λv s1 d=>?_) λp p b=>b)
 obtain⟨x,s,g1,h1,u,rfl,E,hR,G,S⟩:=d;refine PN hh R q (D!.q t S) G hR E λd E! ws σ' g' h' f z n m i M j o ld N c hd P Q T U V T' X'=>⟨m,Q,λB_ W=>?_⟩;have e:=W.extBut;obtain⟨X,Y⟩:=j.c;obtain⟨y,Z,k,l,I3,T3,E3,e3,_⟩:=(hK ws σ' i).bD (M.nB N o e) ⟨⟨X,e _ _ c Y⟩,j.j,j.wr⟩ ld (T'.nB P e) hd (e _ _ c T)<|aI.F (o.O9 e) _ _ U;exact⟨y,k,Z,B_,f,H,l,e3,I3,S.q T3⟩
def Ei{K:Option AV->List AV->av->Prop}(B:cx.Ok){i:Nat}{x:Str}{p:Pos}{A_:Expr}(hx:ij cx i x=U)(R:CX [.Name x p] A_ pos.line env=pure am)(S:zV [.Name x p] A_ env=pure C)(D!:FR w g σ h env cx L)(q:aD w g σ h)(r:Run w A s₀ NX g σ h (eval A_ env) (VR w) λv t=>K C (ci L i v) t):lV w A s₀ env cx g σ h (exec (.Assign [.Name x p] A_ pos) env) K:=by
 refineλtk=>Hu (ff (r tk) (λv G d=>?_) λb b z=>z) R S
 obtain⟨y,f,l,J,m,rfl,n,hR,o,j⟩:=d;exact aW<|qf<|AW (D!.q q j) o B (ij.B hx).1 (ij.B hx).2 hR (.inl H) (λc b e=>.inr ⟨x,e⟩) λs k u F2 D E=>⟨C,_,f,l,s,k,H,n,H,F2,D,(j.of λb z=>z.elim).q E,(j.t q).q u⟩
def KG{KS:Option AV->List AV->av->Prop}(a1:cx.Ok){i:Nat}{y:Str}{p:Pos}(hx:ij cx i y=U)(hh:A.handled=C){tg:Tg}{x! iter cM:Expr}{a0:List Expr}{y':uI}{R:Pos}(a2:Hw (.ListComp cM [⟨x!,iter,a0,0⟩] y' R) (I<|.Name y p) pos.line env=pure U)(oy:∀x,Hz iter env x=pure x)(hc:wk cx tg x! y'){T1 T2:List AV->av->(AV->av->Prop)->Prop}(t:Dw w A s₀ (nV cx tg x! y') a0 cM T1 T2)(D!:FR w g σ h env cx L)(B:aD w g σ h){KL:List AV->av->Prop}(hK:∀ws σ',KL ws σ'->Dy K ws σ')(a3:∀v σ',K v σ'->KS C (ci L i v) σ')(r:Run w A s₀ NX g σ h (eval iter env) (IR w) λx S=>ma S x λxs ok=>O xs<=aR/\iJ T1 T2 tg ok L xs S KL):lV w A s₀ env cx g σ h (exec (.Assign [.Name y p] (.ListComp cM [⟨x!,iter,a0,0⟩] y' R) pos) env) KS:=by
 refineλtk=>aW (qf ?_)
 have:CX [.Name y p] (.ListComp cM [⟨x!,iter,a0,0⟩] y' R) pos.line env=pure true:=a2;rw[this];refine aW<|bQ<|aW<|aW<|a5y H oy (PW<|hc.q D!) hc.e hc.d<|ff (r tk) (λv s1 d=>?_) λl l b=>b;obtain⟨x,W,g1,h1,X,rfl,Y,hR,T,T1⟩:=d;refine PN hh hc t (D!.q B T1) T hR Y λd E! ws σ' g' h' Z z n m s I' pd pC ld lC u hd E nC i' e' a4 T' X'=>?_;obtain⟨v,g2,G,M,I3,V,E3,e3,pp⟩:=(hK ws σ' s).bD I' pd ld T' hd i' e';have N:=D!.q B T1;show cA _ _ (C5 (.Name y p) env<|.ref d) _ _ _;have k:=pp E! (q7 u) pC;have f:¬FX env E!:=λb=>by
  rcases b with b|⟨q,b⟩;.obtain⟨o,e⟩:=N.B;rw[<-b,E] at e;exact cL e
  .obtain⟨o,e⟩:=N.ex q E! b;rw[E] at e;exact cL e
 refine aW<|qf<|AW (N.q T V) I3 a1 (ij.B hx).1 (ij.B hx).2 e3 (.inl H) (λc l e=>.inr ⟨y,e⟩) λh4 P E4 F4 I4 Q=>⟨m,nC.at λo=>Q.S k f,λh5 hs=>?_⟩;have hx:=hs.extBut;have j:=Q.R k f;exact bQ<|bQ ⟨C,_,G,g2,h5,P,H,a3 _ _ M,H,F4.nB j (λe=>f<|.inl e.symm) (λq c e b=>f<|.inr ⟨q,aO b e⟩) hx,I4.nB lC j hx,(T1.of λl b=>b.elim).q<|((V.of λl b=>b.elim).q Q).nB E hx,(((T1.t B).q X').q E3).q<|E4.q<|j.O9 hx⟩
set_option tactic.hygienic true
def Run.after{R:β->α->Gh->Heap->Prop}{P:β->av->Prop}{t:Sem α}{Q:α->bT->Prop}(r:Run w A s₀ NX g σ h t R P)(k:∀b v a1 S a0,P b S->R b v a1 a0->aD w a1 S a0->Tr NX g σ h a1 S a0->∀tk,Q v<|cy s₀ a0 tk):∀tk,cA (MM w) A t Q (λζ ζ=>False)<|cy s₀ h tk:=λtk=>
 ff (r tk) (λv j⟨b,S,a1,a0,c,e,i,hR,d,f⟩=>by subst e;exact k b v a1 S a0 i hR d f c) λζ ζ z=>z
def qt.B(D!:FR w g σ h env cx L)(t:aD w g σ h)(T:Tr NX g σ h g' σ' h')(R:aD w g' σ' h'){K:Option AV->List AV->av->Prop}(S:K C L σ'){tk:Tok}:qt w env cx g σ h s₀ K .next<|cy s₀ h' tk:=
 ⟨C,L,σ',g',h',tk,H,S,H,D!.q t T,R,T.of λb z=>z.elim,T.t t⟩
def Wz(D!:FR w g σ h env cx L)(q:aD w g σ h){e:Expr}{K:Option AV->List AV->av->Prop}(r:Run w A s₀ NX g σ h (eval e env) (VR w) λv t=>K (I v) L t):lV w A s₀ env cx g σ h (exec (.Return (I e) pos) env) K:=λtk=>
 wpAny_Return_some (r.after (λb v f t i k hR j c d=>⟨I b,L,t,f,i,d,H,k,⟨v,H,hR⟩,D!.q q c,j,c.of λl z=>z.elim,c.t q⟩) tk)
def Wy(D!:FR w g σ h env cx L)(q:aD w g σ h){K:Option AV->List AV->av->Prop}(t:K (I .j) L σ):lV w A s₀ env cx g σ h (exec (.Return C pos) env) K:=λtk=>
 wpAny_Return_none ⟨I .j,L,σ,g,h,tk,H,t,⟨.none,H,by rfl⟩,D!,q,Tr.B _ q,du.B ..⟩
def WA(D!:FR w g σ h env cx L)(q:aD w g σ h){t:Expr}{a b:List Stmt}{Kb:Bool->av->Prop}{K:Option AV->List AV->av->Prop}(r:Run w A s₀ NX g σ h (isTrue t env<|eval t env) BR Kb)(k:∀(c:Bool) R B S,Kb c B->FR w R B S env cx L->aD w R B S->lV w A s₀ env cx R B S (if c=U then pB a env else pB b env) K):lV w A s₀ env cx g σ h (exec (.If t a b pos) env) K:=by
 refineλtk=>aW (qf<|aW<|r.after (λc v R B S m hR j e i=>?_) tk)
 subst hR;exact ff (k c R B S m (D!.q q e) j i) (λf s d=>d.q (e.of λl z=>z.elim)<|e.t q) λl l z=>z
def Wg(D!:FR w g σ h env cx L)(q:aD w g σ h){K:Option AV->List AV->av->Prop}(t:K C L σ):lV w A s₀ env cx g σ h (pB [] env) K:=λtk=>
 a5x ⟨C,L,σ,g,h,tk,H,t,H,D!,q,Tr.B _ q,du.B ..⟩
def Wh{st:Stmt}{rest:List Stmt}{P K:Option AV->List AV->av->Prop}(r:lV w A s₀ env cx g σ h (exec st env) P)(R:∀v F σ',P (I v) F σ'->K (I v) F σ')(k:∀F t q B,P C F q->FR w t q B env cx F->aD w t q B->lV w A s₀ env cx t q B (pB rest env) K):lV w A s₀ env cx g σ h (pB (st::rest) env) K:=by
 refineλtk=>wpAny_execs_cons (ff (r tk) (λf s d=>?_) λe e z=>z)
 obtain⟨x,F,σ',g',h',b,rfl,i,c,j,l,T',m⟩:=d;rcases x with _|v;.subst c;exact ff (k F g' σ' h' i j l b) (λf s d=>d.q T' m) λe e z=>z
 .refine aA c λu c n=>?_;subst c;exact⟨I v,F,σ',g',h',b,H,R v F σ' i,⟨u,H,n⟩,j,l,T',m⟩
def Ut{o:Expr}{f:Str}:CX [.Attribute o f p] A_ C' env=pure false:=by cases A_<;>rfl
def Uv{o:Expr}{f:Str}:zV [.Attribute o f p] A_ env=pure none:=by cases A_<;>rfl
def Ur{o i:Expr}:CX [.Subscript o i p] A_ C' env=pure false:=by cases A_<;>rfl
def Uu{o i:Expr}:zV [.Subscript o i p] A_ env=pure none:=by cases A_<;>rfl
def Jz{es:List Expr}{k:Nat}:CX [.Tuple es k p] A_ C' env=pure false:=by cases A_<;>rfl
def VL(D!:FR w g σ h env cx L)(q:aD w g σ h)(hu:A.units+20<ie){o i A_:Expr}{ap:Pos}{P:AV->av->Prop}{P2:AV->AV->av->Prop}{K:Option AV->List AV->av->Prop}(rv:Run w A s₀ NX g σ h (eval A_ env) (VR w) P)(ro:∀v R B S,P v B->aD w R B S->Tr NX g σ h R B S->Run w A s₀ NX R B S (eval o env) (VR w) (P2 v))(ri:∀v x R B S,P2 v x B->aD w R B S->Tr NX g σ h R B S->Run w A s₀ NX R B S (eval i env) (VR w) λy a1=>l8 a1 x y v λa0=>K C L a0):
 lV w A s₀ env cx g σ h (exec (.Assign [.Subscript o i ap] A_ pos) env) K:=by
 refineλtk=>Hu (rv.after (λv u R B S V hR e f j=>aW<|jC<|(ro v R B S V e f).after (λx Y z a1 D E G d k m=>aW<|jC<|(ri v x z a1 D E d<|f.q k).after (λy Z H a0 J b M p n r=>aW<|qf<|aW<|jC ?_) m) j) tk) Ur Uu
 obtain ex:=aG.F (n.t d) _ _ G;obtain ev:=aG.F (n.t d) _ _<|aG.F (k.t e) _ _ hR;obtain bD:Run w A s₀ NX H a0 J (zX Y Z u) UR λQ=>K C L:=by
  unfold l8 at b;clear rv ro ri tk V hR e j E G d m;induction x using AV.casesOn<;>try exact b.elim
  rename_i l;dsimp only at b;rcases s:a0 l with _|ob;.rw[s] at b;exact b.elim
  .cases ob with
   |b vs=>
    rw[s] at b;induction y using AV.casesOn<;>try exact b.elim
    obtain⟨t,rfl⟩:=M;exact VJ p ex s b.2.2.1 b.1 b.2.1 ev b.2.2.2
   |a c es=>
    rw[s] at b;exact VK p hu ex s b.2.1 b.1 M ev b.2.2
   |d c fs=>rw[s] at b;exact b.elim
 refine bD.after (λQ Q W T X hK Q N O U=>?_) r;exact wpAny_release<|qt.B D! q (((f.q k).q n).q O) N hK
def Wa(q:aD w g σ h){o:Op}{B:Rk}(ho:(o=.add/\B=.Add)\/(o=.sub/\B=.Sub)){a:Int}{y:AV}{t:Tok}{v:aL}(R:aG w g h y v){K:AV->av->Prop}(F:jr σ o (.a a) y λr=>K r σ):
 Run w A s₀ NX g σ h (inplaceOp B (.int a t) v) (VR w) K:=by
 intro tk;induction y using AV.casesOn<;>try exact F.elim
 obtain⟨u,rfl⟩:=R;rcases ho with⟨rfl,rfl⟩|⟨rfl,rfl⟩;.exact PyProof.Rows.iadd_int<|cK.t q F<|⟨_,H⟩
 .exact PyProof.Rows.isub_int<|cK.t q F<|⟨_,H⟩
def Ws(D!:FR w g σ h env cx L)(q:aD w g σ h){o A_:Expr}{f:Nat}{ap:Pos}{ob:Op}{op:Rk}{P:AV->av->Prop}{P2:AV->AV->av->Prop}{K:Option AV->List AV->av->Prop}(ho:(ob=.add/\op=.Add)\/(ob=.sub/\op=.Sub))(hf:f<50)(ro:Run w A s₀ NX g σ h (eval o env) (VR w) λx B=>oe B x f λio=>FY io=U/\P2 x io B)(rv:∀x io S B a0,P2 x io B->aD w S B a0->Tr NX g σ h S B a0->Run w A s₀ NX S B a0 (eval A_ env) (VR w) λv R=>jr R ob io v λr=>oQ R x f r λa1=>K C L a1):
 lV w A s₀ env cx g σ h (exec (.AugAssign (.Attribute o (f8 f) ap) op A_ pos) env) K:=by
 refineλtk=>wpAny_AugAssign_AttributeAny (ro.after (λx u S B a0 O hR j k D=>?_) tk)
 induction x using AV.casesOn<;>try exact O.elim
 rename_i l;obtain⟨c,fs,io,hl,hg,O⟩:=Qn O;refine(KA (K:=λy σ'=>y=io/\σ'=B) j hR hl hf hg ⟨H,H⟩).after (λy v Q R T Y Z m e E=>?_) D;obtain⟨rfl,rfl⟩:=Y;refine(rv _ _ Q R T O.2 m<|k.q e).after (λz vz a8 a1 a9 a2 a3 n p G=>?_) E;induction y using AV.casesOn<;>try exact(Bool.noConfusion O.1)
 obtain⟨t,rfl⟩:=Z;refine(Wa n ho a3 (K:=λr d=>oQ d (.d l) f r λi=>K C L i) a2).after (λr vr b9 d c1 b a4 V s M=>?_) G;unfold oQ at b;rcases N:d l with _|ob4;.dsimp only at b;rw[N] at b;exact b.elim
 .dsimp only at b;rw[N] at b;induction ob4 using eE.casesOn<;>try exact b.elim
  exact(Kw V (aG.F (s.t n) _ _<|aG.F (p.t m) _ _<|aG.F (e.t j) _ _ hR) N hf b.1 a4 b.2).after (λζ ζ c2 i c3 Y ζ W X a5=>qt.B D! q ((((k.q e).q p).q s).q X) W Y) M
end
noncomputable section
open PySem PySem.W PySem.Calls PyProof PyProof.Rows
variable{n k i f t z_:Nat} {A:nZ} {w:cR} {d:Cx} {a b el:PE} {x y o z e y_ D:Expr} {pos p' ap q p px y!:Pos} {v:AV} {c:Option PE} {s:Str} {op:BoolOp} {r V y':List Expr} {es:List PE} {x!:List (Option Expr)} {vs L:List AV} {g:Gh} {σ:av} {h:Heap} {T:uI} {tg:Tg} {env:Env} {ss:List Stmt}
noncomputable def zd(j:Expr):Bool:=j.ctorIdx==16
noncomputable def za(j:Expr):Bool:=j.ctorIdx==7
noncomputable def zb(j:Expr):Bool:=j.ctorIdx==8||(j.ctorIdx==9||j.ctorIdx==10)
noncomputable def GP(x:Str):Bool:=x==("__debug__":Str)
structure uF(n:Nat)(A:nZ):Prop where
 handled:A.handled=none
 depth:A.depth+4*n+17<1000
 units:A.units+10*n+53<9900
set_option tactic.hygienic false
def sp.call(r:sp n A):uF n A:=⟨r.handled,by have:=r.depth;exact uc this H,by have:=r.units;exact uc this H⟩
def sp.B(r:sp n A)(l)(m):uF n<|A.under<|AU l m:=by
 refine bY (Uk l m) λb c=>⟨r.handled,?_,?_⟩;.rw[b];have:=r.depth;exact Fa this H
 .rw[c];have:=r.units;exact Fa this H
def uF.enter(r:uF (n+1) A)(env):sp n<|A.deeper env:=
 ⟨r.handled,by have:=r.depth;show A.depth+1+4*n+20<1000;exact MA this H,by have:=r.units;show A.units+3+10*n+60<9900;exact MA this H⟩
def uF.cI(r:uF n A):A.depth<recursionLimit:=by have:=r.depth;unfold recursionLimit;exact rN<|rN this
def sp.j(r:sp n A):A.units+20<cLine:=by have:=r.units;unfold ie;exact Y3 this H
abbrev WC(n:Nat):nJ:=AL FN n
def HC(w:cR)(n:Nat):Prop:=∀f A s₀ g σ h vs b K,f<113->uF n A->aD w g σ h->aI w g h vs b->WC n f vs σ K->xG w A s₀ g σ h (.ref<|FA f) b K
structure Pt(w:cR)(n:Nat)(d:Cx) where
 A:nZ
 s₀:bT
 env:Env
 g:Gh
 σ:av
 h:Heap
 L:List AV
 room:sp n A
 fr:FR w g σ h env d L
 s:aD w g σ h
abbrev Pt.run{l m:Type}(p:Pt w n d)(t:Sem l)(R:m->l->Gh->Heap->Prop)(K:m->av->Prop):Prop:=Run w p.A p.s₀ NX p.g p.σ p.h t R K
noncomputable abbrev Pt.j(p:Pt w n d)(M:aD w m l u)(N:Tr NX p.g p.σ p.h m l u):Pt w n d:=⟨p.A,p.s₀,p.env,m,l,u,p.L,p.room,p.fr.q p.s N,M⟩
noncomputable section
variable(w:cR) (n:Nat) (cx:Cx)
def SE(a:PE)(d:Expr):Prop:=∀(p:Pt w n cx) K,a6 (WC n) a p.L p.σ K->p.run (eval d p.env) (VR w) K
def ST(a:PE)(d:Expr):Prop:=∀(p:Pt w n cx)(f:Bool->AV->av->Prop),a6 (WC n) a p.L p.σ (λx b=>c7 b x λc=>f c x b)->p.run (isTrue d p.env<|eval d p.env) BR (TK f)
def SI(a:PE)(d:Expr):Prop:=∀(p:Pt w n cx) K,a6 (WC n) a p.L p.σ K->p.run (eval d p.env) (IR w) K
structure BB(a:PE)(x:Expr):Prop where
 e:SE w n cx a x
 t:ST w n cx a x
def SL(es:List PE)(V:List Expr):Prop:=∀(p:Pt w n cx) K(pos:Pos),kt (WC n) es p.L p.σ K->p.run (qY<|nE pos<|kf V p.env) (si w) λvs σ=>O vs=O es/\K vs σ
def SP(ks:List AV)(es:List PE)(x!:List<|Option Expr)(V:List Expr):Prop:=∀(p:Pt w n cx) K(pos:Pos),kt (WC n) es p.L p.σ K->p.run (HA<|pairTrees x! V p.env pos) (CV w ks) K
def SO(c:Option PE)(es:List Expr):Prop:=∀(p:Pt w n cx)(d:Bool->AV->av->Prop),n8 (WC n) c p.L p.σ (λx b=>c7 b x λc=>d c x b)->p.run (Jt es p.env) BR (TK d)
end
theorem BB.B(j:SE w n d a x)(l:∀env m,isTrue x env m=(do let v<-m;standAt x.pos;holding [v]<|Hv v)):BB w n d a x:=⟨j,λp o i=>(by
 rw[l p.env<|eval x p.env];exact(j p _ i).q λb v f e g k hR c T=>Run.B<|Run.F<|yw c hR<|TK.B k)⟩
def a4k:BB w n d .N x:=⟨λb b h=>h.elim,λb b h=>h.elim⟩
def b_k{c}(h:CS w v c):BB w n d (.k v)<|.Constant c k pos:=BB.B (λp b=>h p.s) λb b=>H
def Gx(d:Cx)(v:AV)(x:Str):Bool:=d.a.lookup x==I .globalImplicit&&(GP x==am&&GT.any λp=>decide (cv p.1=x)&&fe p.2 v)
def b_g(j:Gx d v s=U):BB w n d (.g v)<|.Name s pos:=BB.B (λp c f=>by
 simp only[Gx,eB,dV,iG,decide_eq_true_eq] at j;refine rV λb e=>?_;obtain⟨g,i,⟨nm,u⟩,hq,k,h4⟩:=j;apply e;clear e;cases O5 h4;subst k;exact We p.fr p.s g hq i f) λc c=>H
def DI(d:Cx)(i:Nat)(x:Str):Bool:=d.V.lookup x==I i&&((d.a.lookup x==I .local||(d.a.lookup x==I .cell||d.a.lookup x==I .free))&&(GP x==am&&(x==("__classdict__":Str))==am))
def IC{x K}(h:iW x K):x≠.q/\K x:=by induction x using AV.casesOn<;>first|exact h.elim|exact⟨λe=>(nomatch e),h⟩
def b_v(j:DI d i s=U):BB w n d (.v i)<|.Name s pos:=BB.B (λp b c=>by
 simp only[DI,eB,rh,dV] at j;exact VF p.fr p.s j.1 j.2.1 j.2.2.1 j.2.2.2 (IC c).1 (IC c).2) λb b=>H
def a4G{o op}(h:decide (op=Bc o)=U)(B:BB w n d a x)(F:BB w n d b y):BB w n d (.q o a b)<|.BinOp x op y pos:=by
 cases Y h;exact BB.B (λp g C=>((B.e p _ C).q λx u i e j D hR c f=>Run.q (Run.F<|(λg g g g E k l=>F.e (p.j k l) _ E) x i e j D c f) λy v z r A s t m q=>Run.B<|Run.operate<|Wq m (aG.F (q.t c) _ _ hR) t s)) λg g=>H
def a4E{o op}(h:decide (op=qV o)=U)(j:HG op y=am)(l:BB w n d a x)(m:BB w n d b y):BB w n d (.h o a b)<|.Compare x [op] [y] pos:=by
 cases Y h;exact⟨λp f g=>Wp j p.room.j (l.e p _ g) λf f f f i c e=>m.e (p.j c e) _ i,
  λp f g=>VG j p.room.j (l.e p _ g) λf f f f i c e=>m.e (p.j c e) _ i⟩
structure wm(w:cR)(n:Nat)(d:Cx)(op:BoolOp)(b:PE)(pos:Pos)(y:Expr)(r:List Expr):Prop where
 e:∀(p:Pt w n d) K,a6 (WC n) b p.L p.σ K->p.run (C3 pos op<|eval y p.env::Rc r p.env) (VR w) K
 t:∀(p:Pt w n d)(Kx:Bool->AV->av->Prop),a6 (WC n) b p.L p.σ (λx σ₁=>c7 σ₁ x λc=>Kx c x σ₁)->p.run (z4 op (y::r) p.env) BR (TK Kx)
def wm.B(h:op=.And\/op=.Or)(u:BB w n d b y):wm w n d op b pos y []:=
 ⟨u.e,λp o q=>by
  rcases h with rfl|rfl;.exact KJ (N:=TK o U) ((u.t p o q).fX (λc f i=>by cases c<;>exact i) λj j j j e=>e) λk f l i g m=>KI g i
  .exact KH (N:=TK o am) ((u.t p o q).fX (λc f i=>by cases c<;>exact i) λj j j j e=>e) λk f l i g m=>KI g i⟩
def wm.more(j:BB w n d b<|.BoolOp op (y::z::r) pos):wm w n d op b pos y<|z::r:=
 ⟨λp K c=>by have:=j.e p K c;rw[arm_eval_BoolOp,arm_evalEach_cons] at this;exact this,λp e c=>by have:=j.t p e c;rw[arm_isTrue_BoolOp] at this;exact this⟩
def a4J(u:BB w n d a x)(B:wm w n d .And b pos y r):BB w n d (.u a b)<|.BoolOp .And (x::y::r) pos:=
 ⟨λp K m=>by
  exact Ww (u.e p _ m) λj j j o g i=>B.e (p.j g i) K o,
  λp k m=>by
   refine KJ (N:=λf=>a6 (WC n) b p.L f λx f=>c7 f x λc=>k c x f) ((u.t p (λc x f=>if c=U then a6 (WC n) b p.L f λx f=>c7 f x λc=>k c x f else c7 f x λc=>k c x f) m).fX (λc q l=>aA l λv s l=>?_) λj j j j e=>e) λj j j o g i=>B.t (p.j g i) k o;induction c using Bool.casesOn with
   |true=>exact l
   |false=>exact⟨v,s,TK.F s l⟩⟩
def a4o(u:BB w n d a x)(B:wm w n d .Or b pos y r):BB w n d (.y a b)<|.BoolOp .Or (x::y::r) pos:=
 ⟨λp K m=>by
  exact VO (u.e p _ m) λj j j o g i=>B.e (p.j g i) K o,
  λp k m=>by
   refine KH (N:=λf=>a6 (WC n) b p.L f λx f=>c7 f x λc=>k c x f) ((u.t p (λc x f=>if c=U then c7 f x λc=>k c x f else a6 (WC n) b p.L f λx f=>c7 f x λc=>k c x f) m).fX (λc q l=>aA l λv s l=>?_) λj j j j e=>e) λj j j o g i=>B.t (p.j g i) k o;induction c using Bool.casesOn with
   |true=>exact⟨v,s,TK.F s l⟩
   |false=>exact l⟩
def a4p(B:BB w n d a x):BB w n d (.K a)<|.UnaryOp .Not x pos:=
 ⟨λp j s=>(by
  refine(B.e p _ s).q λb v y i z A hR f T=>Run.B<|Run.F λtk=>not_value<|ff (yw f hR A tk) (λv F g=>?_) λj j x=>x;obtain⟨c,k,m,o,l,rfl,t,u,q,r⟩:=g;subst u;exact⟨_,k,m,o,l,H,t,by rfl,q,r⟩),λp C s=>VY<|Run.fX (B.t p (λc j i=>c7 i (.e<|!c) λg=>C g (.e<|!c) i) s) (λc j D=>aA D λj j E=>⟨.e<|!c,H,E.2⟩) λj j j j e=>e⟩
def a4t(l:BB w n d a x):BB w n d (.F a)<|.UnaryOp .USub x pos:=BB.B (λp f k=>(by
 refine(l.e p _ k).q λb v g e i j hR c T=>Run.B<|Run.F ?_;induction b using AV.casesOn<;>try exact j.elim
 obtain⟨t,rfl⟩:=hR
 exactλtk=>PyProof.Rows.neg_int<|cK.t c j<|⟨_,H⟩)) λf f=>H
def a4z(l:BB w n d a x):BB w n d (.s a)<|.UnaryOp .Invert x pos:=BB.B (λp f k=>(by
 refine(l.e p _ k).q λb v g e i j hR c T=>Run.B<|Run.F ?_;induction b using AV.casesOn<;>try exact j.elim
 obtain⟨t,rfl⟩:=hR
 exactλtk=>PyProof.Rows.invert_int<|cK.t c j<|⟨_,H⟩)) λf f=>H
def a4y{c}(m:BB w n d a x)(u:BB w n d b y)(B:BB w n d c z):BB w n d (.D a b c)<|.IfExp x y z pos:=
 ⟨λp K l=>by
  have r:=m.t p (λt j e=>if t=U then a6 (WC n) b p.L e K else a6 (WC n) c p.L e K) l;refine Kz r λt j j j i f g=>?_;obtain⟨_,_,i⟩:=i;induction t using Bool.casesOn with
  |true=>exact u.e (p.j f g) K i
  |false=>exact B.e (p.j f g) K i,
  λp k l=>by
   have r:=m.t p (λt j e=>if t=U then a6 (WC n) b p.L e (λx e=>c7 e x λc=>k c x e) else a6 (WC n) c p.L e λx e=>c7 e x λc=>k c x e) l;refine Kz r λt j j j i f g=>?_;obtain⟨_,_,i⟩:=i;induction t using Bool.casesOn with
   |true=>exact u.t (p.j f g) k i
   |false=>exact B.t (p.j f g) k i⟩
def Hb(h:(zd o==am)=U)(n)(env)(m):C4 o n env m=m:=by
 cases o<;>first|rfl|(cases h;done)
def yt(h:(za iter==am)=U)(env):∀x,Hz iter env x=pure x:=λx=>by
 cases iter<;>first|rfl|(cases h;done)
def a4H(j:decide (s=f8 f)=U)(l:gq f 50=U)(m:(zd x==am)=U)(u:BB w n d a x):BB w n d (.p a f)<|.Attribute x s pos:=by
 cases Y j;exact BB.B (λp b c=>WL (Hb m _ p.env) (bU l)<|u.e p _ c) λb b=>H
def a4j(B:BB w n d a x)(F:BB w n d b y):BB w n d (.n a b)<|.Subscript x y pos:=
 BB.B (λp g A=>((B.e p _ A).q λx u i e j C hR c f=>Run.q (Run.F<|(λg g g g D k l=>F.e (p.j k l) _ D) x i e j C c f) λy v t q z r s m o=>Run.B<|VH m p.room.j (aG.F (o.t c) _ _ hR) s r)) λg g=>H
def a4g(j:BB w n d a x)(l:BB w n d b y):BB w n d (.u5 a b)<|.Subscript x (.Slice C (I y) C p') pos:=
 BB.B (λp c g=>Wx (j.e p _ g) λc c c c i e f=>l.e (p.j e f) _ i) λc c=>H
def a4C(j:BB w n d a x)(l:BB w n d b y):BB w n d (.xr a b)<|.Subscript x (.Slice (I y) C C p') pos:=
 BB.B (λp c g=>WB (j.e p _ g) λc c c c i e f=>l.e (p.j e f) _ i) λc c=>H
def SL.nil:SL w n d [] []:=λp b b c=>(λb=>spliced_none<|cK.t p.s ⟨H,c⟩<|by rfl)
def Yu(h:gV [j]=U)(env):kf (j::r) env=(am,eval j env)::kf r env:=by
 cases j<;>first|(cases h;done)|rfl
def SL.cons(j:gV [x]=U)(l:BB w n d a x)(m:SL w n d es V):SL w n d (a::es)<|x::V:=λp K pos i=>
 Wu p.s (Yu j p.env) (l.e p _ i) λv b b b b k b c f=>(m (p.j c f) _ pos k).fX (λb b g=>⟨be (·+1) g.1,g.2⟩) λb b b b e=>e
def SP.nil:SP w n d [] [] [] []:=λp b b c=>(Run.pure p.s c ⟨by rfl,by rfl⟩)
def SP.cons{k c}(l:CS w k c)(m:BB w n d a x)(u:SP w n d ks es x! V):SP w n d (k::ks) (a::es) (I (.Constant c j p')::x!)<|x::V:=λp K pos g=>
 VN p.s l (λf f b e=>m.e (p.j b e) _ g) λv f f f i b e=>u (p.j b e) _ pos i
def Fi(h:eA k 100=U)(j:O vs=k):O vs<=aR:=by rw[j];exact bG (bU h) H
def a4i(l:eA (O es) 100=U)(h:SL w n d es V):BB w n d (.B es)<|.Tuple V k pos:=BB.B (λp K m=>by
 exact Run.B<|(h p (λvs σ=>K (.B vs) σ) _ m).q λvs items f e g i hR c j=>(λtk=>gl (c.R {cls:=.type "tuple",data:=.seq items.toArray} H) λo T b=>wpAny_newTuple (cK.B o T i.2 ⟨_,items.toArray,H,.inr H,HR _ _,by simpa using aI.F b _ _ hR⟩)<|my<|aO (aI.iy hR)<|Fi l i.1)) λq q=>H
def a4w(l:eA (O es) 100=U)(h:SL w n d es V):BB w n d (.r es)<|.List V pos:=BB.B (λp K k=>by
 exact Run.B<|(h p (λvs σ=>K (.r vs) σ) _ k).q λvs items f e g i hR c j=>(λtk=>gl (c.R {cls:=.type "list",data:=.seq items.toArray} H) λm T b=>Hs (cK.B m T i.2 ⟨_,items.toArray,0,H,.inr H,Db _ _,by simpa using aI.F b _ _ hR⟩)<|my<|aO (aI.iy hR)<|Fi l i.1)) λo o=>H
def a4q(j:eA (O es) 100=U)(h:SL w n d es V):BB w n d (.L t es)<|.List V pos:=BB.B (λp K k=>by
 exact Run.B<|(h p (λvs σ=>∀n,qr σ n->K (.d ⟨t,n⟩) (σ.u ⟨t,n⟩<|.b vs)) _ k).q λvs items e c f g hR b i=>VP b hR (Fi j g.1) g.2) λl l=>H
def a4r{c}:BB w n d (.w t c)<|.Dict [] [] pos:=BB.B (λp K b=>by
 exact Run.B<|VQ p.s b) λe e=>H
noncomputable def rQ:List PE->List AV
 |[]=>[]
 |p::r=>(match p with|.k v=>v|_=>.q)::rQ r
def KV(ks:List PE):Prop:=∀{b:nJ}{L:List AV}{σ:av}{K:List AV->av->Prop},kt b ks L σ K->K (rQ ks) σ
noncomputable def Mu:(ks:List PE)->Ev (KV ks)
 |[]=>.c λc=>c
 |p::r=>match p with
  |.k v=>(Mu r).q λh=>.c λ{b L σ K} c=>h (K:=λvs σ=>K (v::vs) σ) c
  |_=>.g
def a4D{c}(l:KV ks)(m:SP w n d (rQ ks) es x! V)(u:x!.all (·.isSome)=U)(B:(O x!==O V)=U)(F:eA (O x!) 15=U)(j:(x!.isEmpty==am)=U)(M:(rQ ks).all (dK c)=U)(N:decide (cg<|rQ ks)=U)(P:eA (O<|rQ ks) 15=U):
 BB w n d (.zB c ks es) (.Dict x! V pos):=BB.B (λp K o=>WG p.s p.room.j u (dV.mp B) (λe=>by obtain j:=e▸j;exact dj j) (bU F) M (Y N) (λi b f=>m (p.j b f) _ pos<|l o)
  λq g k=>⟨k.1,bG (bU P) H,k.2.2.2⟩) λi i=>H
set_option tactic.hygienic true
def VU{K c}(j:aD w g σ h)(u:c<4)(hi:qg (KF w.params) (.ref<|iR c) "__init__"=I (I<|.builtin "object.__init__"))(B:K (.d ⟨t,g.N⟩)<|σ.u ⟨t,g.N⟩<|.d c []):
 Run w A s₀ NX g σ h (iE (.ref<|iR c) []) (VR w) K:=by
 refineλtk=>Q2 ?_
 let i:Heap:=(h.push HM).push<|z5 (iR c) h.objs.size
 have p:∀b o,h.get? b=I o->i.get? b=I o:=λb o e=>jd _<|jd _ e;have k:i.get? (h.objs.size+1)=I (z5 (iR c) h.objs.size):=by rw[<-(oJ ..)];exact mZ _ H
 let l:a7:=⟨t,g.N⟩
 let m:Gh:={g.laid l (h.objs.size+1) h.objs.size with j:=λb=>g.j b\/b=h.objs.size+1}
 have n:m.ρ l=h.objs.size+1:=ak H;have q:m.μ l=h.objs.size:=ak H;obtain⟨r,s,x⟩:=j.Fv H (o:=.d c []) (ay (((show i.objs.size=h.objs.size+2 from by show((h.push HM).push _).objs.size=_;rw[oJ,oJ ..])))<|fA _ 2) p (td<|ce _) j.c.q
  (th:=λb=>b=h.objs.size+1) (λb v=>by subst v;exact⟨td<|gR _,RI _,_,k⟩)
  (by
   refine⟨.inr n,?_,u,[],0,?_,?_,Aq⟩;.rw[n,q];exact k
   .rw[q];exact(jd _<|mZ _ H)
   .rfl)
 have d:=makes_of (M:=MM w) j.c.t<|Mo w.params c;exact make_core d (looks_findIn j.c.t hi) (λf=>Rh<|oi_bind f) (.inr ⟨H,H⟩)<|codeAny_call_builtin oi_plain entry_oi<|@check_slot (MM w) _ _ _ "object.__init__" "object" "__init__" (.ref<|h.objs.size+1) [] [] _ oi_kind oi_split (((Looks.ld k).andThen .now).andThen<|d.top.keeps p) (oi_args<|.ref<|h.objs.size+1) (bQ<|And.intro rfl ⟨.d l,_,m,i,tk,H,B,⟨by rw[n],lY _⟩,r,s⟩)
def oq(d:Cx)(x:Str):Bool:=d.a.lookup x==I .globalImplicit&&GP x==am
def t7{x}(h:oq d x=U):d.a.lookup x=I .globalImplicit:=dV.mp (gJ.mp h).1
def Bq{x}(h:oq d x=U):(x==("__debug__":Str))=false:=dV.mp (gJ.mp h).2
def mP(o:Expr)(ap pos:Pos)(args:List Expr):Bool:=zd o==am&&(gq args.length 30&&(gV args&&ap.endLine==pos.line))
structure a5j(o:Expr)(ap pos:Pos)(args:List Expr):Prop where
 call:(zd o==false)=true
 aT:args.length<30
 JK:gV args=true
 line:(ap.endLine==pos.line)=true
def mP.out(h:mP o ap pos args=U):a5j o ap pos args:=by
 simp only[mP,eB] at h;exact⟨h.1,bU h.2.1,h.2.2.1,h.2.2.2⟩
def zL(vs:List AV)(K:AV->Prop):Prop:=match vs with|[x]=>K x|_=>False
def zK(vs:List AV)(K:AV->AV->Prop):Prop:=match vs with|[x,y]=>K x y|_=>False
def zL.out{K}(h:zL vs K):∃x,vs=[x]/\K x:=match vs,h with|[x],h=>⟨x,H,h⟩
def zK.out{K}(h:zK vs K):∃x y,vs=[x,y]/\K x y:=match vs,h with|[x,y],h=>⟨x,y,H,h⟩
def SI.B(h:BB w n d a x):SI w n d a x:=λp K c=>(h.e p K c).fX (λb b k=>k) λb b b b r=>.inl r
def a4F(m:HC w n)(j:gq f 113=U)(u:Cz (rH f)=am)(B:decide (s=rH f)=U)(l:oq d s=U)(F:gV V=U)(h:SL w n d es V):BB w n d (.j f es)<|.Call (.Name s q) V [] pos:=by
 cases Y B;exact BB.B (λp K i=>WI p.fr p.s (bU j) u (t7 l) (Bq l) F (h p _ _ i) λxs vs c b e k hR g=>(m f p.A p.s₀ c b e xs vs K (bU j) p.room.call g hR k.2).run) λo o=>H
def a5k:((cO 4).all λc=>(cO 10).all λm=>match MT c m with|some f=>gq f 113|.none=>U)=true:=by decide+kernel
def YF{m}{l:a7}{k:Nat->a7->Prop}(h:yc σ (.d l) m k):∃c fs f,σ l=I (.d c fs)/\MT c m=I f/\k f l:=by
 revert h;refine(?_:yc (λ_=>σ l) (.d l) m k->_);rcases σ l with _|o;.exact tL
 .induction o using eE.casesOn<;>try exact tL
  rename_i c fs;refine(?_:(match MT c m with|some f=>k f l|.none=>False)->_);rcases b:MT c m with _|f;.exact tL
  .exactλh=>⟨c,fs,f,H,b,h⟩
def a4v(N:HC w n)(B:gq m 10=U)(F:decide (s=vq m)=U)(j:mP x ap pos V=U)(M:BB w n d a x)(h:SL w n d es V):BB w n d (.A a m es)<|.Call (.Attribute x s ap) V [] pos:=by
 cases Y F;obtain j:=mP.out j;refine BB.B (λp K C=>WH (Hb j.call _ p.env _) j.aT j.JK j.line (bU B) (M.e p _ C) λx v D z E b hR e i=>?_) λy y=>H;clear F j M C hR;induction x using AV.casesOn<;>try exact b.elim
 rename_i l;obtain⟨c,fs,f,G,k,b⟩:=YF b;have o:c<4:=by
  exact mm (e.i l _ G) λy y q y=>q
 have I:f<113:=by
  have:=gf.mp (gf.mp a5k c<|eJ.mpr o) m<|eJ.mpr<|bU B;obtain this:=k▸this;exact bU this
 exact⟨l,c,fs,f,H,G,o,k,I,_,h (p.j e i) _ _ b,λxs vs r g t J A u=>(N f p.A p.s₀ r g t _ vs K I p.room.call u A J.2).run⟩
def a7r:((cO 4).all λc=>match IT c with|some f=>gq f 113|.none=>c==3)=true:=by decide+kernel
def a4s(B:HC w n){c t:Nat}(j:gq c 4=U)(F:decide (s=cv (CN[c]?.getD ""))=U)(u:oq d s=U)(M:gV V=U)(h:SL w n d es V):BB w n d (.new c t es)<|.Call (.Name s q) V [] pos:=by
 cases Y F;have j:=bU j;refine BB.B (λp K x=>WJ p.fr p.s j (t7 u) (Bq u) M (h p _ _ x) λxs vs k r v i hR e=>?_) λy y=>H;have i:=i.2 k.N e.OP;have b:=gf.mp (m_ w.params) c<|eJ.mpr j;obtain g:=gf.mp a7r c<|eJ.mpr j;rcases hi:IT c with _|f;.rw[hi] at i b g;obtain⟨rfl,z⟩:=i;subst hR;exact VU e j (dV.mp b) z
 .rw[hi] at i b g;simp only[eB,dV] at b;exact VV e j b.1 b.2 hR λl m e1 A o=>B f _ p.s₀ l _ m _ _ _ (bU g) (p.room.B _ _) o (aI.cons A e1) i
def CG{Q:av->AV->(AV->Prop)->Prop}(M:(nm,u)∈uw)(N:∀{L σ K},a6 (WC n) b L σ K->a6 (WC n) a L σ λx j=>Q j x λv=>K v j)(go:∀(p:Pt w n d){K x vs l j m},aI w l m [x] vs->aD w l j m->Q j x (λv=>K v j)->Run w p.A p.s₀ NX l j m (iE u vs) (VR w) K)(P:decide (s=cv nm)=U)(B:oq d s=U)(F:gV [x]=U)(R:BB w n d a x):BB w n d b<|.Call (.Name s q) [x] [] pos:=by
 cases Y P;refine BB.B (λp K e=>KO p.fr p.s M (t7 B) (Bq B) F (SL.cons F R SL.nil p (λvs j=>zL vs λx=>Q j x λv=>K v j) _<|N e) λxs vs l j m f hR c=>?_) λg g=>H;obtain⟨x,rfl,i⟩:=f.2.out;exact go p hR c i
def zG{id}{j:av->AV->Prop}{Q:AV->List AV->av->(AV->av->Prop)->Prop}(R:PlainAttrs l)(N:Slot l name id)(P:xI (.builtin id)=pure (.type "method_descriptor"))(S:∀{g σ h x v s₀},aD w g σ h->aG w g h x v->j σ x->(∀tk,(cy s₀ h tk).TypeIs v l)/\(∀a,v=.ref a->∃ob,h.get? a=I ob/\ob.dict=C))(X:∀{L σ K},a6 (WC n) b L σ K->a6 (WC n) a L σ λx m=>j m x/\kt (WC n) es L m λvs F=>Q x vs F K)(go:∀(p:Pt w n d){K x xs vs u m B},aI w u B (x::xs) vs->aD w u m B->Q x xs m K->Run w p.A p.s₀ NX u m B (iE (.builtin id) vs) (VR w) K)(h1:decide (s=name)=U)(M:mP x ap pos V=U)(ha:BB w n d a x)(h:SL w n d es V):BB w n d b<|.Call (.Attribute x s ap) V [] pos:=by
 cases Y h1;have M:=mP.out M;exact BB.B (λp K t=>WK (Hb M.call _ p.env _) M.aT M.JK M.line R N P (ha.e p _<|X t) λy v u m B e hR c f=>
  let q:=S c hR e.1
  ⟨q.1,q.2,_,h (p.j c f) _ _ e.2,λxs vs o F r z k i=>go p k i z.2⟩) λA A=>H
def a4x(j:decide (s=cv "len")=U)(l:oq d s=U)(m:gV [x]=U)(u:BB w n d a x):BB w n d (.aT a)<|.Call (.Name s q) [x] [] pos:=
 CG (Q:=λσ x K=>jX σ x λus=>O us<=aR/\K (.a<|O us)) (by unfold uw;simp) (λe=>e) (λb b b b b b b hR c=>a3B c hR) j l m u
def a4h(j:decide (s=cv "tuple")=U)(l:oq d s=U)(m:gV [x]=U)(u:BB w n d a x):BB w n d (.tuple a)<|.Call (.Name s q) [x] [] pos:=
 CG (Q:=λσ x K=>match x with|.B _=>False|_=>jX σ x λus=>O us<=aR/\K (.B us)) (by unfold uw;simp) (λe=>e) (λb b b b b b b hR c f=>a3v c f hR) j l m u
def a4l(j:decide (s=cv "sorted")=U)(l:oq d s=U)(m:gV [x]=U)(u:BB w n d a x):BB w n d (.sorted a)<|.Call (.Name s q) [x] [] pos:=
 CG (Q:=λσ x K=>jO σ x=0/\yd σ x λis=>O is<64/\K (.r<|(rU is).map .a)) (by unfold uw;simp) (λe=>e) (λp b b b b b b hR c=>a3w c p.room.handled hR) j l m u
def a4u(j:decide (s=cv "min")=U)(l:oq d s=U)(u:gV [x]=U)(B:BB w n d a x):BB w n d (.By a)<|.Call (.Name s q) [x] [] pos:=
 CG (Q:=λσ x K=>ye x λis=>O is<=aR/\match yQ is with|some m=>K (.a m)|.none=>False) (by unfold uw;simp) (λe=>e) (λp b b b b b b hR c=>a3A c p.room.handled hR) j l u B
def a4B{c}(m:decide (s=("get":Str))=U)(u:mP x ap pos V=U)(B:BB w n d a x)(h:SL w n d [b,c] V):BB w n d (.S a b c)<|.Call (.Attribute x s ap) V [] pos:=
 zG (Q:=λf vs σ K=>zK vs λk x=>pK σ f λes=>dK (jO σ f) k=U/\K ((dL es k).getD x) σ) a53 a52 TD (λg e q=>Oy g e q) (λo=>o)
  (λp i i i i i i i hR j r=>by refine gk r.out λi i l hq=>?_;subst l;exact a3D j p.room.j hR hq) m u B h
def a4m{c}(u:decide (s=("pop":Str))=U)(B:mP x ap pos V=U)(F:BB w n d a x)(h:SL w n d [b,c] V):BB w n d (.P a b c)<|.Call (.Attribute x s ap) V [] pos:=
 zG (Q:=λf vs σ K=>zK vs λk x=>match f with|.d l=>(match σ l with|some (.a c es)=>O es<=aR/\dK c k=U/\K ((dL es k).getD x) (σ.u l<|.a c<|oB es k)|_=>False)|_=>False) a53 a51 TA (λg e q=>Oy g e q) (λo=>o)
  (λp i i i i i i i hR j r=>by refine gk r.out λi i m hq=>?_;subst m;exact a3y j p.room.j hq hR) u B F h
def a4n(m:decide (s=("pop":Str))=U)(u:mP x ap pos V=U)(B:BB w n d a x)(h:SL w n d [b] V):BB w n d (.A9 a b)<|.Call (.Attribute x s ap) V [] pos:=
 zG (Q:=λl vs σ K=>zL vs λi=>mJ σ l λa xs=>match i with|.a i=>0<=i/\(match xs[cY i]? with|some v=>K v (σ.u a<|.b<|xs.eraseIdx<|cY i)|.none=>False)|_=>False) Rr a5Z TB (λc e q=>Gm c e q) (λk=>k)
  (λp f f f f f f f hR g o=>by refine aA o.out λf j hq=>?_;subst j;exact a3z g hq hR) m u B h
def a4I(j:decide (s=("append":Str))=U)(m:mP x ap pos V=U)(u:BB w n d a x)(h:SL w n d [b] V):BB w n d (.append a b)<|.Call (.Attribute x s ap) V [] pos:=
 zG (Q:=λl vs σ K=>zL vs λx=>mJ σ l λa xs=>K .j<|σ.u a<|.b<|xs++[x]) Rr Rq TE (λc e q=>Gm c e q) (λk=>k)
  (λp f f f f f f f hR g o=>by refine aA o.out λf i hq=>?_;subst i;exact a3E g hR hq) j m u h
def a4A{c}(m:decide (s=("insert":Str))=U)(u:mP x ap pos V=U)(B:BB w n d a x)(h:SL w n d [b,c] V):BB w n d (.ze a b c)<|.Call (.Attribute x s ap) V [] pos:=
 zG (Q:=λl vs σ K=>zK vs λi x=>mJ σ l λa xs=>match i with|.a i=>0<=i/\i<=O xs/\K .j (σ.u a<|.b<|xs.take (cY i)++x::xs.drop (cY i))|_=>False) Rr a50 TC (λf e q=>Gm f e q) (λo=>o)
  (λp g g g g g g g hR j r=>by refine gk r.out λg g k hq=>?_;subst k;exact a3C j hq hR) m u B h
def SO.j:SO w n d .none []:=λp c b tk=>wpAny_tests_nil<|cK.t p.s ⟨.e U,H,b.2⟩ H
def SO.some(l:BB w n d a x):SO w n d (I a) [x]:=λp b c tk=>wpAny_tests_one<|l.t p b c tk
structure uX(w:cR)(n:Nat)(d:Cx)(tg:Tg)(it:PE)(c:Option PE)(el:PE)(e iter:Expr)(y':List Expr)(y_:Expr)(T:uI):Prop where
 set:(za iter==false)=true
 r:to d tg e T=true
 it:SI w n d it iter
 t:SO w n (nV d tg e T) c y'
 e:BB w n (nV d tg e T) el y_
def uX.CA(h:uX w n d tg a c el e iter y' y_ T)(p:Pt w n d):Dw w p.A p.s₀ (nV d tg e T) y' y_ (n8 (WC n) c)<|a6 (WC n) el:=
 ⟨λenv i g j k Kb F b o=>Run.fX (h.t ⟨p.A,p.s₀,env,i,g,j,k,p.room,F,b⟩ (λc l=>Kb c) o) (λl l q=>aA q λl l r=>r) λl l l l f=>f,
  λenv i g j k m F b o=>h.e.e ⟨p.A,p.s₀,env,i,g,j,k,p.room,F,b⟩ m o⟩
def Qm(h:uX w n d tg a c el e iter y' y_ T):BB w n d (.z tg a c el)<|.ListComp y_ [⟨e,iter,y',0⟩] T pos:=
 BB.B (λp K b=>KN p.room.handled (yt h.set p.env) (to.out h.r) (h.CA p) p.fr p.s (λws J f=>.inl f)<|h.it p _ b) λg g=>H
def Ql(h:uX w n d tg a c el e iter y' y_ T):BB w n d (.xv t tg a c el)<|.ListComp y_ [⟨e,iter,y',0⟩] T pos:=
 BB.B (λp K b=>KN p.room.handled (yt h.set p.env) (to.out h.r) (h.CA p) p.fr p.s (λws J f=>.inr ⟨t,f⟩)<|h.it p _ b) λg g=>H
noncomputable section
variable{w:cR} {n:Nat}
noncomputable section
variable(fE:(d:Cx)->(p:PE)->(e:Expr)->Ev (BB w n d p e))
noncomputable def ua(d):(ps:List PE)->(es:List Expr)->Ev (SL w n d ps es)
 |[],es=>oW nO es<|.c .nil
 |a::r,es=>rF nO es λe V=>.B (gV [e]) λh=>(fE d a e).q λb=>(ua d r V).q λc=>.c<|.cons h b c
noncomputable def Mr(d):(ps:List PE)->(ks:List AV)->(x!:List<|Option Expr)->(es:List Expr)->Ev (SP w n d ks ps x! es)
 |[],ks,x!,es=>oW nO ks<|oW nO x!<|oW nO es<|.c .nil
 |a::r,ks,x!,es=>rF nO ks λk ks=>rF nO x! λx x!=>rF nO es λe es=>Option.casesOn x .g λx=>LM nO x λc b b=>(cE w k c).q λh=>(fE d a e).q λf=>(Mr d r ks x! es).q λg=>.c<|.cons h f g
def mO(d)(c)(es):Ev<|SO w n d c es:=Option.casesOn c (oW nO es<|.c .j) λa=>qH nO es λe=>(fE d a e).q λh=>.c<|.some h
variable(fR:(d:Cx)->(p:PE)->(e:Expr)->Ev (SI w n d p e)) (hc:HC w n)
def Mv(d)(it)(iter):Ev<|SI w n d it iter:=((fE d it iter).q λh=>.c<|SI.B h).CK<|fR d it iter
def EX(d)(tg)(it)(c)(el)(e iter)(y')(y_)(T):Ev<|uX w n d tg it c el e iter y' y_ T:=
 .B (za iter==am) λb=>.B (to d tg e T) λf=>(Mv fE fR d it iter).q λg=>(mO fE (nV d tg e T) c y').q λh4=>(fE (nV d tg e T) el y_).q λi=>.c ⟨b,f,g,h4,i⟩
@[elab_as_elim] def Be{m:List Comprehension->Type}(j:∀l,m l)(l)(f:∀t i y',m [⟨t,i,y',0⟩]):m l:=qH j l λg=>Comprehension.casesOn (motive_3:=λg=>m [g]) g λt i y' a=>Int.casesOn (motive:=λa=>m [⟨t,i,y',a⟩]) a (λk=>Nat.casesOn (motive:=λk=>m [⟨t,i,y',.ofNat k⟩]) k (f t i y') λb=>j _) λb=>j _
def BD(d)(nm){P:Expr->Prop}(j)(f:∀s q x p,decide (s=cv nm)=U->oq d s=U->gV [x]=U->Ev (P<|.Call (.Name s q) [x] [] p)):Ev<|P j:=
 Bg nO j λs q args p=>qH nO args λx=>.B (decide<|s=cv nm) λb=>.B (oq d s) λc=>.B (gV [x]) λg=>f s q x p b c g
def EW(nm){P:Expr->Prop}(j)(f:∀o s q k x p,decide (s=nm)=U->mP o q p [k,x]=U->gV [k]=U->gV [x]=U->Ev (P<|.Call (.Attribute o s q) [k,x] [] p)):Ev<|P j:=
 EK nO j λo s q args p=>Bj nO args λk x=>.B (decide<|s=nm) λb=>.B (mP o q p [k,x]) λc=>.B (gV [k]) λd=>.B (gV [x]) λh4=>f o s q k x p b c d h4
def Ms(nm){P:Expr->Prop}(j)(f:∀o s q x p,decide (s=nm)=U->mP o q p [x]=U->gV [x]=U->Ev (P<|.Call (.Attribute o s q) [x] [] p)):Ev<|P j:=
 EK nO j λo s q args p=>qH nO args λx=>.B (decide<|s=nm) λb=>.B (mP o q p [x]) λc=>.B (gV [x]) λd=>f o s q x p b c d
def Mx(d)(op)(b)(ho:op=.And\/op=.Or){P:List Expr->Prop}(p)(l)(f:∀x y r,wm w n d op b p y r->Ev (P<|x::y::r)):Ev<|P l:=
 rF nO l λx r=>rF nO r λy r=>List.casesOn (motive:=λr=>Ev<|P<|x::y::r) r ((fE d b y).q λc=>f x y []<|.B ho c) λz r=>(fE d b<|.BoolOp op (y::z::r) p).q λc=>f x y (z::r) (.more c)
def UK(d)(p)(j):Ev<|BB w n d p j:=match p with
 |.N=>.c a4k
 |.k v=>LM nO j λc u u=>(cE w v c).q λh=>.c<|b_k h
 |.g v=>pU nO j λx u=>.B (Gx d v x) λh=>.c<|b_g h
 |.v i=>pU nO j λx u=>.B (DI d i x) λh=>.c<|b_v h
 |.q o a b=>Yj nO j λl op r u=>.B (decide<|op=Bc o) λh=>(fE d a l).q λB=>(fE d b r).q λD=>.c<|a4G h B D
 |.h o a b=>Yh nO j λl op r u=>.B (decide<|op=qV o) λh=>.B (HG op r==am) λh'=>(fE d a l).q λB=>(fE d b r).q λD=>.c<|a4E h (dV.mp h') B D
 |.u a b=>LO nO j λo l p=>BoolOp.casesOn o (Mx fE d .And b (.inl H) (P:=λl=>BB w n d (.u a b)<|.BoolOp .And l p) p l λx u u D=>(fE d a x).q λB=>.c<|a4J B D) .g
 |.y a b=>LO nO j λo l p=>BoolOp.casesOn o .g<|Mx fE d .Or b (.inr H) (P:=λl=>BB w n d (.y a b)<|.BoolOp .Or l p) p l λx u u D=>(fE d a x).q λB=>.c<|a4o B D
 |.K a=>EJ nO j λo x u=>UnaryOp.casesOn o .g ((fE d a x).q λh=>.c<|a4p h) .g .g
 |.F a=>EJ nO j λo x u=>UnaryOp.casesOn o .g .g .g<|(fE d a x).q λh=>.c<|a4t h
 |.s a=>EJ nO j λo x u=>UnaryOp.casesOn o ((fE d a x).q λh=>.c<|a4z h) .g .g .g
 |.D t a b=>Ye nO j λM N Q u=>(fE d t M).q λh=>(fE d a N).q λB=>(fE d b Q).q λD=>.c<|a4y h B D
 |.p o f=>Bh nO j λo' s u=>.B (decide<|s=f8 f) λA=>.B (gq f 50) λC=>.B (zd o'==am) λE=>(fE d o o').q λh=>.c<|a4H A C E h
 |.n a b=>Bd nO j λl r u=>(fE d a l).q λB=>(fE d b r).q λD=>.c<|a4j B D
 |.u5 a b=>Bd nO j λl s u=>LJ nO s λx y z u=>Option.casesOn x (Option.casesOn y .g λr=>Option.casesOn z ((fE d a l).q λB=>(fE d b r).q λD=>.c<|a4g B D) λu=>.g) λu=>.g
 |.xr a b=>Bd nO j λl s u=>LJ nO s λx y z u=>Option.casesOn x .g λr=>Option.casesOn y (Option.casesOn z ((fE d a l).q λB=>(fE d b r).q λD=>.c<|a4C B D) λu=>.g) λu=>.g
 |.B es=>yH nO j λV u u=>.B (eA (O es) 100) λA=>(ua fE d es V).q λh=>.c<|a4i A h
 |.r es=>LK nO j λV u=>.B (eA (O es) 100) λA=>(ua fE d es V).q λh=>.c<|a4w A h
 |.L _ es=>LK nO j λV u=>.B (eA (O es) 100) λA=>(ua fE d es V).q λh=>.c<|a4q A h
 |.w _ _=>LL nO j λks vs u=>oW nO ks<|oW nO vs<|.c a4r
 |.zB c ks es=>LL nO j λx! F u=>(Mu ks).q λA=>(Mr fE d es (rQ ks) x! F).q λC=>.B (x!.all (·.isSome)) λR=>.B (O x!==O F) λS=>.B (eA (O x!) 15) λU=>
  .B (x!.isEmpty==am) λW=>.B ((rQ ks).all<|dK c) λX=>.B (decide<|cg<|rQ ks) λY=>.B (eA (O<|rQ ks) 15) λZ=>.c (a4D A C R S U W X Y Z)
 |.z tg it c el=>Bf nO j λy_ g T u=>Be nO g λe iter y'=>(EX fE fR d tg it c el e iter y' y_ T).q λh=>.c<|Qm h
 |.xv _ tg it c el=>Bf nO j λy_ g T u=>Be nO g λe iter y'=>(EX fE fR d tg it c el e iter y' y_ T).q λh=>.c<|Ql h
 |.j f es=>Bg nO j λs u args u=>.B (gq f 113) λG=>.B (Cz (rH f)==am) λk2=>.B (decide<|s=rH f) λA=>.B (oq d s) λC=>.B (gV args) λE=>(ua fE d es args).q λh=>.c<|a4F hc G (dV.mp k2) A C E h
 |.A o m es=>EK nO j λo' s ap args p=>.B (gq m 10) λG=>.B (decide<|s=vq m) λA=>.B (mP o' ap p args) λC=>(fE d o o').q λB=>(ua fE d es args).q λh=>.c<|a4v hc G A C B h
 |.new c _ es=>Bg nO j λs u args u=>.B (gq c 4) λG=>.B (decide<|s=cv (CN[c]?.getD "")) λA=>.B (oq d s) λC=>.B (gV args) λE=>(ua fE d es args).q λh=>.c<|a4s hc G A C E h
 |.aT a=>BD d "len" j λu u x u A C E=>(fE d a x).q λh=>.c<|a4x A C E h
 |.tuple a=>BD d "tuple" j λu u x u A C E=>(fE d a x).q λh=>.c<|a4h A C E h
 |.sorted a=>BD d "sorted" j λu u x u A C E=>(fE d a x).q λh=>.c<|a4l A C E h
 |.By a=>BD d "min" j λu u x u A C E=>(fE d a x).q λh=>.c<|a4u A C E h
 |.S q k x=>EW "get" j λo u u I J u A C E h4=>(fE d q o).q λB=>(fE d k I).q λD=>(fE d x J).q λK=>.c<|a4B A C B<|.cons E D<|.cons h4 K .nil
 |.P q k x=>EW "pop" j λo u u I J u A C E h4=>(fE d q o).q λB=>(fE d k I).q λD=>(fE d x J).q λK=>.c<|a4m A C B<|.cons E D<|.cons h4 K .nil
 |.ze q k x=>EW "insert" j λo u u I J u A C E h4=>(fE d q o).q λB=>(fE d k I).q λD=>(fE d x J).q λK=>.c<|a4A A C B<|.cons E D<|.cons h4 K .nil
 |.A9 l i=>Ms "pop" j λo u u L u A C E=>(fE d l o).q λB=>(fE d i L).q λD=>.c<|a4n A C B<|.cons E D .nil
 |.append l i=>Ms "append" j λo u u L u A C E=>(fE d l o).q λB=>(fE d i L).q λD=>.c<|a4I A C B<|.cons E D .nil
 |.M _=>.g
def UJ(d)(p)(j):Ev<|SI w n d p j:=match p with
 |.M es=>Bg nO j λs k args k=>.B (decide<|s=cv "range") λl=>.B (oq d s) λf=>.B (gV args) λm=>(ua fE d es args).q λh=>.c<|(λp K o=>by
  cases Y l;exact KO p.fr p.s (by unfold uw;simp) (t7 f) (Bq f) m (h p _ _ o) λxs vs g c i q hR b=>a3x b hR q.2)
 |_=>.g
end
variable(hc:HC w n)
def Mw(m:Nat):PProd ((d:Cx)->(p:PE)->(j:Expr)->Ev (BB w n d p j))<|(d:Cx)->(p:PE)->(j:Expr)->Ev (SI w n d p j):=
 Nat.rec (motive:=λb=>PProd ((d:Cx)->(p:PE)->(j:Expr)->Ev (BB w n d p j))<|(d:Cx)->(p:PE)->(j:Expr)->Ev (SI w n d p j)) ⟨λb b b=>.g,λb b b=>.g⟩ (λb m=>⟨UK m.1 m.2 hc,UJ m.1⟩) m
def mE(d)(p)(j):Ev<|BB w n d p j:=(Mw hc 60).1 d p j
def mR(d)(p)(j):Ev<|SI w n d p j:=(Mw hc 60).2 d p j
end
def SS(w:cR)(n:Nat)(d:Cx)(s:PS)(st:Stmt):Prop:=∀(p:Pt w n d) K,IE (WC n) s p.L p.σ K->lV w p.A p.s₀ p.env d p.g p.σ p.h (exec st p.env) K
def SB(w:cR)(n:Nat)(d:Cx)(b:List PS)(ss:List Stmt):Prop:=∀(p:Pt w n d) K,ch (WC n) b p.L p.σ K->lV w p.A p.s₀ p.env d p.g p.σ p.h (pB ss p.env) K
set_option tactic.hygienic false
def DR{x}:zV [.Name x p] D env=pure none:=by cases D<;>rfl
noncomputable def N5(j:Expr):Bool:=j.ctorIdx==25
def Us(h:(zb D==am)=U):Hw D C z_ env=pure false:=by
 cases D<;>first|rfl|(cases h;done)
def Uq{a b c j}(M:env.blockKind=.function)(m:env.kindOf a=I .local)(u:env.kindOf b=I .local)(P:B.line=l.line)(F:(b==a)=am)(R:(c==("__debug__":Str))=am):
 zV [.Tuple [.Name a l,.Name b B] k p] (.Tuple [.Name c S,.Name j X] k' p') env=pure (I [a,b]):=by
 have e:([HV a l,HV b B].filterMap λ
  |.Name id pos=>if env.kindOf id==I .local&&pos.line==l.line then I id else C
  |_=>C)=[a,b]:=by
  rw[Sb,Sb,List.filterMap_nil];simp only[m,u,P,beq_self_eq_true,uV,if_true]
 unfold zV;dsimp only[Expr.pos];refine(Z<|by rw[M];exact eS).trans<|(Z eS).trans ?_;generalize f:List.filterMap _ [HV a l,HV b B]=N;cases f.symm.trans e;rw[show([a,b]:List Str).eraseDups=[a,b] from by simp[List.eraseDups_cons,F]];exact(Z eS).trans<|(Z eS).trans<|Z<|by show¬((c==("__debug__":Str))&&_)=U;rw[R];exact eS
def VA{st}:SS w n d .N st:=λb b h=>h.elim
def a3Q(ok:d.Ok)(j:ij d i s=U)(l:(zb D==am)=U)(h:BB w n d a D):SS w n d (.g i a)<|.Assign [.Name s px] D pos:=λp c b=>
 Ei ok j ((by cases D<;>first|rfl|(cases l;done))) DR p.fr p.s (h.e p _ b)
def a3P(ok:d.Ok)(j:ij d i s=U)(h:uX w n d tg a c el e iter y' y_ T):SS w n d (.g i<|.z tg a c el)<|.Assign [.Name s px] (.ListComp y_ [⟨e,iter,y',0⟩] T y!) pos:=λp K k=>by
 obtain f:∃b,Hw (.ListComp y_ [⟨e,iter,y',0⟩] T y!) (I<|.Name s px) pos.line p.env=pure b:=⟨_,H⟩;refine bc f λb f=>?_;rcases b with _|_;.exact Ei ok j f DR p.fr p.s<|(Qm h).e p _ k
 .exact KG ok j p.room.handled f (yt h.set p.env) (to.out h.r) (h.CA p) p.fr p.s (λws J g=>.inl g) (λv J g=>g)<|h.it p _ k
def a3O(ok:d.Ok)(j:ij d i s=U)(h:uX w n d tg a c el e iter y' y_ T):SS w n d (.g i<|.xv t tg a c el)<|.Assign [.Name s px] (.ListComp y_ [⟨e,iter,y',0⟩] T y!) pos:=λp K k=>by
 obtain f:∃b,Hw (.ListComp y_ [⟨e,iter,y',0⟩] T y!) (I<|.Name s px) pos.line p.env=pure b:=⟨_,H⟩;refine bc f λb f=>?_;rcases b with _|_;.exact Ei ok j f DR p.fr p.s<|(Ql h).e p _ k
 .exact KG ok j p.room.handled f (yt h.set p.env) (to.out h.r) (h.CA p) p.fr p.s (λws J g=>.inr ⟨t,g⟩) (λv J g=>g)<|h.it p _ k
def a3N(ok:d.Ok){is:List Nat}{es:List Expr}{k:Nat}(B:qz d (.a is) (.Tuple es k p')=U)(F:(N5 D==am)=U)(h:BB w n d a D):SS w n d (.n is a)<|.Assign [.Tuple es k p'] D pos:=λp j r=>
 (λtk=>Hu ((h.e p _ r).after (λv u g f q l hR i b m=>DX ok B p.room.handled (p.fr.q p.s b) i hR l (.inl H) (λx j c j e=>.inr ⟨x,e⟩) λs h' o t y A E T'=>⟨C,s,f,g,h',o,H,t,H,A,E,(b.of λj z=>z.elim).q T',(b.t p.s).q y⟩) tk) Jz<|(by cases D<;>first|rfl|(cases F;done)))
def a3F(ok:d.Ok){i j k B:Nat}{s l u F:Str}{M N P R:Pos}(S:(i !=j)=U)(X:ij d i s=U)(h3:ij d j l=U)(h4:(d.a.lookup s==I .local)=U)(h5:(d.a.lookup l==I .local)=U)(h6:(N.line==M.line)=U)(h7:(l==s)=am)(h8:(u==("__debug__":Str))=am)(h:BB w n d a<|.Tuple [.Name u P,.Name F R] B px):SS w n d (.n [i,j] a)<|.Assign [.Tuple [.Name s M,.Name l N] k p'] (.Tuple [.Name u P,.Name F R] B px) pos:=λp r t=>by
 refineλtk=>aW (qf ?_)
 rw[Jz];refine aW (bQ<|aW<|(h.e p _ t).after (λv u f c q e hR g b m=>(Uq (by unfold Env.blockKind;rw[p.fr.e];rfl) ((p.fr.kindOf _).trans<|dV.mp h4) ((p.fr.kindOf _).trans<|dV.mp h5) (dV.mp h6) h7 h8)▸aW (bQ ?_)) tk);cases v<;>try exact e.elim
 exact UG ok p.room.handled (p.fr.q p.s b) g (bne_iff_ne.mp S) X h3 hR e.1 λh' o x y A T'=>⟨C,_,c,f,h',o,H,e.2,H,y,A,(b.of λr z=>z.elim).q T',(b.t p.s).q x⟩
def a3H(M:decide (s=f8 f)=U)(N:gq f 50=U)(P:BB w n d a x)(h:BB w n d b D):SS w n d (.j a f b)<|.Assign [.Attribute x s px] D pos:=λp j g=>by
 cases Y M
 refineλtk=>Hu ((h.e p _ g).after (λy u r k t C hR c e m=>aW<|jC<|((λj j j j C c e=>P.e (p.j c e) _ C) y r k t C c e).after (λx v I o J g E z i q=>aW<|qf<|aW<|jC ?_) m) tk) Ut Uv
 unfold oQ at g;induction x using AV.casesOn<;>try exact g.elim
 rename_i l;rcases F:o l with _|ob;.simp only[F] at g
 .induction ob using eE.casesOn<;>simp only[F] at g
  exact(Kw z E F (bU N) g.1 (aG.F (i.t c) _ _ hR) g.2).after (λj j K G L O j A B H=>wpAny_release<|qt.B p.fr p.s ((e.q i).q B) A O) q
def P1{op}(l:(op=.add/\j=.Add)\/(op=.sub/\j=.Sub))(m:decide (s=f8 f)=U)(u:gq f 50=U)(B:BB w n d a x)(h:BB w n d b D):SS w n d (.p a f op b)<|.AugAssign (.Attribute x s px) j D pos:=λp K i=>by
 cases Y m;exact Ws (P:=λc c=>True) p.fr p.s l (bU u) (B.e p _ i) λc c c c c k e g=>h.e (p.j e g) _ k
def a3G(l:BB w n d a x)(m:BB w n d b y)(h:BB w n d j D):SS w n d (.m a b j)<|.Assign [.Subscript x y px] D pos:=λp K i=>
 VL p.fr p.s p.room.j (h.e p _ i) (λf f f f g c e=>l.e (p.j c e) _ g) λf f f f f g c e=>m.e (p.j c e) _ g
def a3K{q}(h:BB w n d a x)(m:SB w n d q ss)(u:SB w n d l j):SS w n d (.d a q l)<|.If x ss j pos:=λp K o=>by
 refine WA p.fr p.s (h.t p (λt k b=>if t=U then ch (WC n) q p.L b K else ch (WC n) l p.L b K) o) λt c b e i f g=>aA i λk k i=>?_;rcases t with _|_;.exact u ⟨p.A,p.s₀,p.env,c,b,e,p.L,p.room,f,g⟩ K i
 .exact m ⟨p.A,p.s₀,p.env,c,b,e,p.L,p.room,f,g⟩ K i
def a3L{q}(ok:d.Ok)(m:qz d tg e=U)(u:(za iter==am)=U)(h:SI w n d a iter)(hq:SB w n d q ss):SS w n d (.h tg a q)<|.For e iter ss [] pos:=λp r o=>
 WE ok p.room.handled m (yt u p.env) (λf b g i j k l c=>hq ⟨p.A,p.s₀,p.env,f,b,g,i,p.room,k,l⟩ j c) p.fr p.s (h p _ o)
def a3J(h:BB w n d a x):SS w n d (.c a)<|.Return (I x) pos:=λp c b=>Wz p.fr p.s<|h.e p _ b
def a3I:SS w n d (.c<|.k .j)<|.Return C pos:=λp c b=>Wy p.fr p.s b
def a3M(l:(zb x==am)=U)(h:BB w n d a x):SS w n d (.l a)<|.Expr x pos:=λp c m=>
 (λtk=>
  wpAny_Expr_any (((h.e p _ m).fX (λc c o=>o.2) λc c c c r=>r).after (λb v j g k q hR e f i=>qt.B p.fr p.s f e q) tk) (by unfold interactive;rw[p.fr.e];rfl) (Us l))
def SB.nil:SB w n d [] []:=λp b=>Wg p.fr p.s
def SB.cons{st q r}(j:SS w n d r st)(l:SB w n d q ss):SB w n d (r::q)<|st::ss:=λp K k=>
 Wh (j p _ k) (λv i J m=>m) λi c b e o f g=>l ⟨p.A,p.s₀,p.env,c,b,e,i,p.room,f,g⟩ K o
theorem FR.F(u:FR w g σ h env d L)(M:aD w g σ h){o y}(N:σ l=I o)(hi:dg L i=.d l)(P:∀v,aG w g h (.d l) v->aG w (g.F<|g.μ l) h y v):
 FR w (g.F<|g.μ l) (σ.r l) h env d (ci L i y):=by
 obtain⟨J,r,s⟩:=M.Cn N;have k:∀{a},fL g σ h a->fL (g.F<|g.μ l) (σ.r l) h a:=λ{a} p=>r.R p λz=>z;have n:∀{j:Nat}{m:Option aL},OV w g h (dg L j) m->OV w (g.F<|g.μ l) h (dg (ci L i y) j) m:=λ{j m} e=>by
  rw[xq];by_cases q:j=i
  .subst q;rw[ak H];split
   .rw[hi] at e;rcases e with e|⟨v,e1,t⟩;.cases e
    .exact .inr ⟨v,e1,P v t⟩
   .exact .inl H
  .rw[Z q];exact OV.F s e
 refine⟨u.e,u.j,u.f,u.n,u.eX,k u.R,?_,λx j b f=>?_,u.apart,u.vm,u.ex⟩;.obtain⟨m,A,B⟩:=u.d;exact⟨m,A,λx j b f=>n<|B x j b f⟩
 .obtain⟨c,o',C,D,E,h4,G⟩:=u.a x j b f;exact⟨c,o',C,D,n E,k h4,G⟩
def a0x{q K}(m:ch j (.u i::q) L σ K):
 ∃l,dg L i=.d l/\((∃vs,σ l=I (.b vs)/\ch j q (ci L i<|.r vs) (σ.r l) K)\/∃c es,σ l=I (.a c es)/\ch j q (ci L i<|.g c es) (σ.r l) K):=by
 have m:(match dg L i with
  |.d l=>(match σ l with
   |some (.b vs)=>ch j q (ci L i<|.r vs) (σ.r l) K
   |some (.a c es)=>ch j q (ci L i<|.g c es) (σ.r l) K
   |_=>False)
  |_=>False):=m
 generalize dg L i=x at m;cases x<;>try exact m.elim
 rename_i l;refine⟨l,H,?_⟩;have m:(match σ l with
  |some (.b vs)=>ch j q (ci L i<|.r vs) (σ.r l) K
  |some (.a c es)=>ch j q (ci L i<|.g c es) (σ.r l) K
  |_=>False):=m
 generalize σ l=o at m;cases o with
 |none=>exact m.elim
 |some o=>
  cases o with
  |b vs=>exact .inl ⟨vs,H,m⟩
  |a c es=>exact .inr ⟨c,es,H,m⟩
  |d c fs=>exact m.elim
theorem SB.u{q}(h:SB w n d q ss):SB w n d (.u i::q) ss:=λp K j=>by
 refine aA (a0x j) λl hi j=>?_;have bD:∀o y,p.σ l=I o->(∀v,aG w p.g p.h (.d l) v->aG w (p.g.F<|p.g.μ l) p.h y v)->ch (WC n) q (ci p.L i y) (p.σ.r l) K->lV w p.A p.s₀ p.env d p.g p.σ p.h (pB ss p.env) K:=λo y g t j tk=>by
  exact gl (p.s.Cn g) λu x r=>ff (h ⟨p.A,p.s₀,p.env,_,_,p.h,_,p.room,FR.F p.fr p.s g hi t,u⟩ K j tk) (λf s b=>b.q x r) λA A z=>z
 rcases j with⟨vs,g,j⟩|⟨c,es,g,j⟩;.have r:=(p.s.Cn (X:=FX p.env) g).2.2;refine bD _ (.r vs) g (λv e=>?_) j;obtain⟨rfl,items,m,it,B⟩:=vy p.s e g;exact⟨_,items,m,H,.inr H,it,aI.F r _ _ B⟩
 .refine bD _ (.g c es) g (λv e=>?_) j;obtain⟨rfl,k,m,o,D⟩:=zx p.s e g;exact⟨_,o,k,m,H,.inr H,D.e,D.S,D.exact,D.d,eY.F ((p.s.Cn (X:=FX p.env) g).2.2) _ _ _ D.f,D.q⟩
noncomputable section
variable{w:cR} {n:Nat} (hc:HC w n)
def mC(d)(tg)(it)(c)(el)(e iter)(y')(y_)(T):Ev<|uX w n d tg it c el e iter y' y_ T:=EX (mE hc) (mR hc) d tg it c el e iter y' y_ T
def mA(d)(ok:d.Ok)(i)(s)(px)(l:ij d i s=U)(j)(D)(pos):Ev<|SS w n d (.g i j)<|.Assign [.Name s px] D pos:=
 ((Ev.B (zb D==am) λb=>(mE hc d j D).q λh=>.c<|a3Q ok l b h):Ev _).CK
 (match j with
 |.z tg it c el=>Bf nO D λy_ g T f=>Be nO g λe iter y'=>(mC hc d tg it c el e iter y' y_ T).q λh=>.c<|a3P ok l h
 |.xv t tg it c el=>Bf nO D λy_ g T f=>Be nO g λe iter y'=>(mC hc d tg it c el e iter y' y_ T).q λh=>.c<|a3O ok l h
 |_=>.g)
def mT(d)(ok:d.Ok)(is)(es)(k)(p)(m)(D)(pos):Ev<|SS w n d (.n is m)<|.Assign [.Tuple es k p] D pos:=
 ((Ev.B (qz d (.a is)<|.Tuple es k p) λg=>.B (N5 D==am) λo=>(mE hc d m D).q λh=>.c<|a3N ok g o h):Ev _).CK
 (Bj nO is λi j=>Bj nO es λa b=>pU nO a λs r=>pU nO b λq t=>yH nO D λl v px=>Bj nO l λc f=>pU nO c λu x=>pU nO f λy z=>.B (i !=j) λg=>.B (ij d i s) λo=>.B (ij d j q) λA=>.B (d.a.lookup s==I .local) λh4=>.B (d.a.lookup q==I .local) λB=>
  .B (t.line==r.line) λC=>.B ((q==s)==am) λE=>.B ((u==("__debug__":Str))==am) λF=>(mE hc d m<|.Tuple [.Name u x,.Name y z] v px).q λh=>.c<|a3F ok g o A h4 B C (dV.mp E) (dV.mp F) h)
mutual
noncomputable def mS(d:Cx)(ok:d.Ok):(s:PS)->(st:Stmt)->Ev (SS w n d s st)
 |.N,_=>.c VA
 |.g i c,st=>Bi nO st λt D pos=>qH nO t λt=>pU nO t λx px=>.B (ij d i x) λh=>mA hc d ok i x px h c D pos
 |.n is c,st=>Bi nO st λt D pos=>qH nO t λt=>yH nO t λes k p=>mT hc d ok is es k p c D pos
 |.j o f c,st=>Bi nO st λt D j=>qH nO t λt=>Bh nO t λo' s j=>.B (decide<|s=f8 f) λg=>.B (gq f 50) λl=>(mE hc d o o').q λr=>(mE hc d c D).q λh=>.c<|a3H g l r h
 |.p o f op c,st=>Yk nO st λt u D j=>Bh nO t λo' s j=>.B (decide<|s=f8 f) λg=>.B (gq f 50) λl=>(mE hc d o o').q λr=>(mE hc d c D).q λh=>(match op with
  |.add=>.B (decide<|u=.Add) λq=>.c<|P1 (.inl ⟨H,Y q⟩) g l r h
  |.sub=>.B (decide<|u=.Sub) λq=>.c<|P1 (.inr ⟨H,Y q⟩) g l r h
  |_=>.g)
 |.m o i c,st=>Bi nO st λt D j=>qH nO t λt=>Bd nO t λo' z j=>(mE hc d o o').q λr=>(mE hc d i z).q λA=>(mE hc d c D).q λh=>.c<|a3G r A h
 |.d t a b,st=>Yd nO st λB C E j=>(mE hc d t B).q λh=>(xb d ok a C).q λg=>(xb d ok b E).q λl=>.c<|a3K h g l
 |.h tg it body,st=>Yf nO st λe iter m o j=>oW nO o<|.B (qz d tg e) λg=>.B (za iter==am) λl=>(Mv (mE hc) (mR hc) d it iter).q λh=>(xb d ok body m).q λhq=>.c<|a3L ok g l h hq
 |.c c,st=>Yc nO st λv j=>Option.casesOn v (match c with|.k .j=>.c a3I|_=>.g) λy=>(mE hc d c y).q λh=>.c<|a3J h
 |.l c,st=>Yg nO st λy j=>.B (zb y==am) λg=>(mE hc d c y).q λh=>.c<|a3M g h
 |.u _,_=>.g
noncomputable def xb(d:Cx)(ok:d.Ok):(q:List PS)->(ss:List Stmt)->Ev (SB w n d q ss)
 |[],ss=>oW nO ss<|.c .nil
 |s::r,ss=>(match s with
  |.u i=>(xb d ok r ss).q λh=>.c<|.u h
  |_=>.g:Ev<|SB w n d (s::r) ss).CK
  (rF nO ss λst rest=>(mS d ok s st).q λb=>(xb d ok r rest).q λc=>.c<|.cons b c)
end
end
noncomputable def Me(i j:Nat)(l:List Str):List Str:=(l.eraseIdx i).insertIdx j<|l[i]?.getD default
def QB(f:Nat)(s:List<|Str×vZ):List<|Str×Nat:=
 ((λl=>bif fk f 112 then Me 8 17 l else bif fk f 94 then Me 3 4 l else l)<|(s.filter λp=>p.2==.local||p.2==.cell).map (·.1)).zipIdx
def FE(w:cR)(n f:Nat):Prop:=∀A s₀ g σ h vs b K,uF (n+1) A->aD w g σ h->aI w g h vs b->WC (n+1) f vs σ K->xG w A s₀ g σ h (.ref<|FA f) b K
noncomputable section
variable{w:cR} {n f:Nat}
variable(hc:HC w n)
def GF(f):Ev<|FE w n f:=
 match q:(KF w.params).lookup (FA f) with
 |none=>.g
 |some o=>match s:o.data with
  |.func fd=>(match t:fd.body with
   |.stmts body=>(match h4:O7[f]? with
    |some d=>(match u:fd.params with
     |⟨[],args,C,[],[],C,v⟩=>(a3u w fd d (QB f fd.scope.names) args).q λl=>(xb hc ⟨fd.scope.names,QB f fd.scope.names⟩ (D6 l.slots) d.body body).q λh=>.c<|(λA s₀ g σ hz vs m K p b e x=>by
      have c:match FN f with
       |some d=>O vs<=d.na/\d.na-O vs<=O d.a/\ch (WC n) d.body (enter d vs) σ λr B i=>K (r.getD .j) i
       |.none=>False:=x
      obtain c:=(show FN f=I d from h4)▸c;exact Wj b p.cI p.enter (vx q) s u l t e c.1 c.2.1 λy env j z F k=>h ⟨y,s₀,env,g,σ,j,_,z,F,k⟩ _ c.2.2)
     |_=>.g)
    |none=>.g)
   |_=>.g)
  |_=>.g
def a0U:((cO 38).all λf=>(GF hc f).r)=true:=by kernel_rfl
def a0T:((cO 38).all λf=>(GF hc<|f+38).r)=true:=by kernel_rfl
def a0S:((cO 37).all λf=>(GF hc<|f+76).r)=true:=by kernel_rfl
include hc in
def a0V{f:Nat}(j:f<113):FE w n f:=by
 rcases tK f 38 with h|h;.exact Ev.S<|gf.mp (a0U hc) f<|eJ.mpr h
 obtain⟨k,rfl⟩:=a6w h;rcases tK k 38 with h'|h';.exact Ev.S<|gf.mp (a0T hc) k<|eJ.mpr h'
 obtain⟨k,rfl⟩:=a6w h';exact Ev.S<|gf.mp (a0S hc) k<|eJ.mpr<|Nat.lt_of_add_lt_add_right (n:=76) j
end
def a0f(w):∀n,HC w n:=by
 intro d;induction d with
 |zero=>
  exactλb b b b b b b b b b b b b h=>h.elim
 |succ n e=>
  exactλf A s₀ g σ h vs c K i=>a0V e i A s₀ g σ h vs c K
def f'(j:Dv vals l):aI w g h (l.map .a) vals:=by
 induction j with
 |nil=>rfl
 |cons q r b=>exact aI.cons q b
def a7B(n)(B:n<=150)(m:∀u:List Int,O u<=63->AL FN n 112 [.r<|u.map .a] (λj=>.none) λv j=>v=.e U):QR:=by
 intro w s a f u r q g x hi y t i
 let c:Gh:=⟨λj=>0,λj=>0,λb=>QF w b\/b=a,0⟩
 have e:aI w c s.heap [.r<|u.map .a] [.ref a]:=by
  exact aI.cons ⟨a,f,0,H,.inr H,hi,f' t⟩ H
 refine ff ((a0f w n 112 callerA s c _ s.heap _ _ _ (Y H) ⟨H,by show 301+4*n+17<1000;exact ml B H,by show 4+10*n+53<9900;exact ml B H⟩ ((⟨⟨r,q,g⟩,(λl o e=>nomatch e),(λl o e=>nomatch e),λl A=>aP H,λl=>aP H,λl=>aP H,λb k=>k.elim (λ⟨o,ho,_⟩=>⟨o,q _ ho⟩) λe=>ay e ⟨_,hi⟩,λb k=>.inl k⟩:aD w c (λj=>.none) s.heap)) e<|m u i).run s.toks) (λv C d=>?_) λj j z=>z;obtain⟨b,J,D,h',p,rfl,rfl,hR,E,T'⟩:=d;refine⟨hR,⟨h',p,H⟩,λb o e=>T'.cT b o e (λ⟨l,i,_⟩=>i H) λz=>z⟩
end
noncomputable section
open PySem (Str)
variable{d:nJ} {L:List AV} {σ:av} {K:AV->av->Prop} {r:List PS} {l:a7} {c f:Nat} {fs:List (Nat×AV)}
theorem e1{v}:a6 d (.k v) L σ K=K v σ:=rfl
theorem e3{i}:a6 d (.v i) L σ K=iW (dg L i) λx=>K x σ:=rfl
theorem e4{o a b}:a6 d (.q o a b) L σ K=a6 d a L σ λx e=>a6 d b L e λy σ₂=>jr σ₂ o x y λr=>K r σ₂:=rfl
theorem Cv{e i}:a6 d (.n e i) L σ K=a6 d e L σ λx b=>a6 d i L b λy σ₂=>gL σ₂ x y λv=>K v σ₂:=rfl
theorem GK{f es}:a6 d (.j f es) L σ K=kt d es L σ λvs b=>d f vs b K:=rfl
theorem e24{l x}:a6 d (.append l x) L σ K=a6 d l L σ λl b=>ly b l=U/\a6 d x L b λx e=>mJ e l λa vs=>K .j<|e.u a<|.b<|vs++[x]:=rfl
theorem e27{e}:a6 d (.tuple e) L σ K=a6 d e L σ λx σ₁=>match x with|.B _=>False|_=>jX σ₁ x λvs=>O vs<=aR/\K (.B vs) σ₁:=rfl
theorem l1{K}:kt d [] L σ K=K [] σ:=rfl
theorem l2{K e r}:kt d (e::r) L σ K=a6 d e L σ λv b=>kt d r L b λvs σ₂=>K (v::vs) σ₂:=rfl
abbrev mB(d:nJ)(r:List PS)(K:Option AV->List AV->av->Prop):Option AV->List AV->av->Prop:=λx c b=>match x with|.none=>ch d r c b K|some v=>K (I v) c b
abbrev rK(K:AV->av->Prop):Option AV->List AV->av->Prop:=λr c b=>K (r.getD .j) b
abbrev q_(d:nJ)(a b r:List PS)(L:List AV)(K:Option AV->List AV->av->Prop):AV->av->Prop:=λx e=>c7 e x λc=>if c=U then ch d a L e (mB d r K) else ch d b L e<|mB d r K
abbrev p!(d:nJ)(b:PE)(r:List PS)(L:List AV)(K:Option AV->List AV->av->Prop):AV->av->Prop:=λx e=>c7 e x λc=>if c=U then a6 d b L e (λv f=>K (I v) L f) else ch d r L e K
abbrev gK(d:nJ)(i:Nat)(r:List PS)(L:List AV)(K:Option AV->List AV->av->Prop):AV->av->Prop:=λv b=>ch d r (ci L i v) b K
abbrev xK(d:nJ)(r:List PS)(L:List AV)(K:Option AV->List AV->av->Prop):AV->av->Prop:=λv b=>(match v with|.B _=>False|.r _=>False|.g _ _=>False|.d _=>False|_=>True)/\ch d r L b K
abbrev fK(d:nJ)(tg:Tg)(body r:List PS)(L:List AV)(K:Option AV->List AV->av->Prop):AV->av->Prop:=λx b=>ma b x λxs ok=>O xs<=aR/\cu (ch d body) tg ok xs L b (mB d r K)
abbrev p_(d:nJ)(b:PE)(r:List PS)(L:List AV)(K:AV->av->Prop):AV->av->Prop:=λx e=>c7 e x λc=>if c=U then a6 d b L e K else ch d r L e<|rK K
abbrev Y4(body:List AV->av->(Option AV->List AV->av->Prop)->Prop)(i:Nat)(ok:av->Prop)(xs:List AV)(K:Option AV->List AV->av->Prop):Option AV->List AV->av->Prop:=λr c b=>match r with
 |.none=>ok b/\cu body (.B i) ok xs c b K
 |some v=>K (I v) c b
theorem b0{K}:ch d [] L σ K=K .none L σ:=rfl
theorem b1{K i e}:ch d (.g i e::r) L σ K=a6 d e L σ λv b=>ch d r (ci L i v) b K:=rfl
theorem b2{K e}:ch d (.c e::r) L σ K=a6 d e L σ λv σ₁=>K (I v) L σ₁:=rfl
theorem b3{K t b}:ch d (.d t [.c b] []::r) L σ K=a6 d t L σ λx e=>c7 e x λc=>if c then a6 d b L e λv g=>K (I v) L g else ch d r L e K:=rfl
theorem b4{K e}:ch d (.l e::r) L σ K=a6 d e L σ λv b=>(match v with|.B _=>False|.r _=>False|.g _ _=>False|.d _=>False|_=>True)/\ch d r L b K:=rfl
theorem b5{K o f e}:ch d (.j o f e::r) L σ K=a6 d e L σ λv b=>a6 d o L b λx g=>oQ g x f v λi=>ch d r L i K:=rfl
theorem b6{K o k e}:ch d (.m o k e::r) L σ K=a6 d e L σ λv b=>a6 d o L b λx g=>a6 d k L g λy i=>l8 i x y v λj=>ch d r L j K:=rfl
theorem b7{K tg it body}:ch d (.h tg it body::r) L σ K=a6 d it L σ λx b=>ma b x λxs ok=>O xs<=aR/\cu (ch d body) tg ok xs L b (mB d r K):=rfl
theorem b8{K t a b}:ch d (.d t a b::r) L σ K=a6 d t L σ λx e=>c7 e x λc=>if c then ch d a L e (mB d r K) else ch d b L e<|mB d r K:=rfl
set_option tactic.hygienic false
def aU{v:AV}{K:AV->Prop}(h:σ l=I (.d c fs))(b:ut fs f=I v)(e:K v):oe σ (.d l) f K:=by
 unfold oe;simp only[h,b];exact e
def im{b:Bool}{K:Bool->Prop}(e:K b):c7 σ (.e b) K:=⟨aE,e⟩
def fY{m:Nat}{k:Nat->a7->Prop}(h:σ l=I (.d c fs))(b:MT c m=I f)(e:k f l):yc σ (.d l) m k:=by
 unfold yc;simp only[h,b];exact e
end
open Lean in
local macro_rules (kind:=PySem.W.tacticLk)|s=>return .node .none `Lean.Parser.Tactic.dsimp #[s[0],.node .none `Lean.Parser.Tactic.optConfig #[mkNullNode],mkNullNode,s,mkNullNode #[s,mkNullNode ("a6 s kt s n8 s dg s ci s lK s iW".splitOn.toArray.map λn=>.node .none `Lean.Parser.Tactic.simpLemma #[mkNullNode,mkNullNode,mkIdent (.mkSimple n)]),s],mkNullNode]
noncomputable section
open PySem (Str)
variable{n f t k b c i j z m ms s:Nat} {σ σ':av} {K:AV->av->Prop} {l l':a7} {v x pv tv cl pr y! y_:AV} {xs L:List AV} {tl:kJ} {T T' z!:bP} {r:List PS} {a:Int} {A:List (Nat×Bool)} {es:List (AV×AV)} {o o':eE} {bs D ts e:List Nat} {A!:nJ} {ps qs:List (Nat×Nat)} {x! z_:List AV->av->(AV->av->Prop)->Prop} {ok:av->Prop} {d:List kO} {S:GS} {A_:Nat->Nat} {V:List AV->av->(Option AV->List AV->av->Prop)->Prop} {p:Nat->Bool} {α:Type} {y':PE} {sm:Nat->Nat->Bool}
abbrev W(n:Nat):nJ:=AL FN n
abbrev wB(n):=ch<|W n
def GJ(vs:List AV)(g:FD):Option<|FD×List AV:=cond (eA (O vs) g.na&&eA (g.na-O vs) (O g.a)) (I (g,enter g vs)) C
def Pc(f:Nat)(vs:List AV):Option<|FD×List AV:=(FN f).bind<|GJ vs
set_option tactic.hygienic false
def bq(L)(g:Pc f vs=I (y,L))(h:ch (W n) y.body L σ<|rK K):W (n+1) f vs σ K:=by
 unfold Pc at g;show(match FN f with|some y=>_|.none=>False);rcases q:FN f with _|u;.rw[q] at g;exact cL g
 .rw[q] at g;obtain g:GJ vs u=_:=g;unfold GJ at g;rcases c:eA (O vs) u.na&&eA (u.na-O vs) (O u.a) with _|_;.rw[c] at g;exact cL g
  .rw[c] at g;injection g with g;injection g with e1 b
   subst e1 b;obtain c:=gJ.mp c;exact⟨bU c.1,bU c.2,h⟩
def r_(h:t<n):o8 n (t:Int)=I t:=by
 unfold o8;rw[ak<|jH.mpr h];simp
def wL{aJ}(h:σ l=I (.b aJ)):iL σ (.d l)=I aJ:=be (λo=>iL (λ_=>o)<|.d l) h
def D0{c es}(h:σ l=I (.a c es)):iL σ (.d l)=none:=be (λo=>iL (λ_=>o)<|.d l) h
def w7{c es}(h:σ l=I (.a c es)):jy σ (.d l)=I es:=be (λo=>jy (λ_=>o)<|.d l) h
def zD{c es}(h:σ l=I (.a c es)):jO σ (.d l)=c:=be (λo=>jO (λ_=>o)<|.d l) h
def DT{K i}(g:O xs<=aR)(hi:o8 (O xs) i=I t)(ht:xs[t]?=I v)(q:K v):gL σ (.B xs) (.a i) K:=by
 refine And.intro g ?_;refine(?_:match o8 (O xs) i with|some j=>(match xs[j]? with|some v=>K v|.none=>False)|.none=>False);rw[hi];refine(?_:match xs[t]? with|some v=>K v|.none=>False);rw[ht];exact q
def dh{K}(g:O xs<=aR)(ht:xs[t]?=I v)(q:K v):gL σ (.B xs) (.a t) K:=DT g (r_ (jV.mp ht).1) ht q
def eL{K}(h:σ l=I (.b aJ))(g:O aJ<=aR)(ht:aJ[t]?=I v)(q:K v):gL σ (.d l) (.a t) K:=by
 unfold gL;rw[wL h];exact dh (σ:=σ) g ht q
structure kJ where
 h:a7
 e:a7
 a:a7
 d:a7
 g:a7
 j:a7
 X3:a7
 W7:a7
structure bP where
 e:List AV
 d:List AV
 g:List AV
 j:List AV
noncomputable def Jy(tl:kJ):List<|Nat×AV:=[(0,.d tl.e),(1,.d tl.a),(2,.r [.j]),(3,.d tl.d),(4,.d tl.g),(5,.d tl.j),(6,.d tl.X3),(7,.d tl.W7),(8,.a 0),(9,.a 0)]
noncomputable def s8:List AV->Nat->List (AV×AV)
 |[],_=>[]
 |r::b,k=>(r,.a k)::s8 b (k+1)
structure cp(σ:av)(tl:kJ)(T:bP):Prop where
 h:σ tl.h=some (.d 0<|Jy tl)
 e:σ tl.e=some (.b T.e)
 a:σ tl.a=some (.a 2<|s8 T.e 0)
 d:σ tl.d=some (.b T.d)
 g:σ tl.g=some (.b T.g)
 j:σ tl.j=some (.b T.j)
 b:tl.e.t=10/\tl.a.t=11/\tl.d.t=12/\tl.g.t=13/\tl.j.t=14
def BS{k r}(h:cp σ tl T)(g:O T.e<=aR)(ht:T.e[t]?=I (.B<|k::r))(q:O (k::r)<=aR)(u:K k σ):W (n+1) 2 [.d tl.h,.a t] σ K:=by
 apply bq [.d tl.h,.a t] H;dsimp only[PA];repeat(first|lk|dsimp only[b0,b1,b2,b3,b4,b5,b6,b7,b8])
 exact aU h.h H<|eL h.e g ht<|dh q H u
noncomputable def sA:Str:=⟨#[97]⟩
noncomputable def sB:Str:=⟨#[98]⟩
def gz(b:Nat):AV:=match b with
 |0=>.B [.a 3,.f sA,.a 0]
 |1=>.B [.a 3,.f sB,.a 0]
 |2=>.B [.a 4,.a 1,.a 0]
 |3=>.B [.a 4,.a 2,.a 0]
 |4=>.B [.a 3,.f sA,.a 1]
 |5=>.B [.a 3,.f sB,.a 1]
 |6=>.B [.a 4,.a 1,.a 1]
 |7=>.B [.a 4,.a 2,.a 1]
 |8=>.B [.a 1,.f Kl]
 |9=>.B [.a 1,.f Km]
 |10=>.B [.a 1,.f Ko]
 |11=>.B [.a 1,.f Kk]
 |12=>.B [.a 1,.f Kj]
 |13=>.B [.a 1,.f Kp]
 |14=>.B [.a 10,.a 0]
 |15=>.B [.a 10,.a 1]
 |16=>.B [.a 10,.a 2]
 |17=>.B [.a 10,.a 3]
 |b+18=>.B [.a 4,.a<|20+b,.a 0]
set_option tactic.hygienic true
def a35:∀a,a<30->∀b,b<30->gz a=gz b->a=b:=by decide+kernel
noncomputable def nK(E:List Nat):AV:=.B [.a 6,.B<|E.map λ(i:Nat)=>.a i]
def nU:List AV:=match Cj with|.B r=>r|_=>[]
noncomputable def a0e(r:AV):Bool:=match r with|.B (.a k::r)=>k !=6&&eA (O r) 2|_=>am
def Qf:∀b,b<30->a0e (gz b)=true:=by decide+kernel
def Qb(g:b<30)(E):gz b≠nK E:=λe=>by
 have:=Qf b g;obtain this:=e▸this;exact dj this
def bB(T:bP)(t b:Nat):Prop:=b<30/\T.e[t]?=I (gz b)
abbrev eU(T:bP):List Nat->List Nat->Prop:=F2<|bB T
structure bF(T:bP):Prop where
 q:T.e.Nodup
 first:T.e.take 16=nU
 FC:∀t row,16<=t->T.e[t]?=some row->(∃b,b<30/\row=gz b)\/∃E bs,row=nK E/\E.Pairwise (·<·)/\eU T E bs/\∀b∈bs,b<18
inductive iS(T:bP):Nat->List Nat->List Nat->Prop
 |nil:iS T 2 [] []
 |B {t b:Nat}:bB T t b->iS T t [t] [b]
 |a {t:Nat} {E bs:List Nat}:T.e[t]?=some (nK E)->E.Pairwise (·<·)->eU T E bs->2<=E.length->(∀b∈bs,b<18)->iS T t E bs
noncomputable def bW(bs:List Nat):Nat:=bs.foldr (λb m=>2^b|||m) 0
def fF:∀bs k,aQ (bW bs) k=decide (k∈bs):=by
 intro bs;induction bs with
 |nil=>
  intro k;simp[bW]
 |cons b r c=>
  intro k;rw[fD,c k];by_cases h:b=k;.simp[h]
  .simp[h,q7 h]
def Is(T:bP)(t m:Nat):Prop:=∃E bs,iS T t E bs/\bW bs=m
def bF.F(g:bF T){t:Nat}(u:t<16):T.e[t]?=nU[t]?:=by
 rw[<-g.first,List.getElem?_take,ak u]
def bF.inj(g:bF T){t u:Nat}{r:AV}(y:T.e[t]?=I r)(B:T.e[u]?=I r):t=u:=bc (jV.mp y) λc b=>bc (jV.mp B) λb1 b2=>(R4 g.q).mp<|b.trans b2.symm
def bB.A0(g:bF T){t b:Nat}(u:bB T t b):t≠2:=λe=>by
 subst e;exact((show∀b,b<30->I (gz b)≠nU[2]? from by decide+kernel)) b u.1<|aO u.2<|g.F<|Y H
def Qg(g:b<30):∃k r,gz b=.B (.a k::r)/\k≠6/\O (.a k::r:List AV)<=3:=by
 have:=Qf b g;revert this;generalize gz b=x;intro this;induction x using AV.casesOn<;>try exact dj this
 rename_i vs;rcases vs with _|⟨y,r⟩;.exact dj this
 .induction y using AV.casesOn<;>try exact dj this
  obtain this:=gJ.mp this;exact⟨_,r,H,bne_iff_ne.mp this.1,jS<|bU this.2⟩
def bB.fst(g:bB T t b):∃k r,gz b=.B (.a k::r)/\k≠6/\O (.a k::r:List AV)<=3:=Qg g.1
def bB.q(g:bB T t b)(h':bB T t c):b=c:=a35 b g.1 c h'.1<|fg<|g.2.symm.trans h'.2
def bB.h(g:bF T){t u b:Nat}(y:bB T t b)(h':bB T u b):t=u:=g.inj y.2 h'.2
set_option tactic.hygienic false
def uu{b:Int}{K:AV->Prop}(g:K<|.e<|decide<|a=b):eZ σ .eq (.a a) (.a b) K:=by
 obtain this:decide (AV.a a=AV.a b)=decide (a=b):=by simp
 exact⟨H,by rw[this];exact g⟩
def gO{b:Int}{A B:Prop}(h:a=b)(g:A):eZ σ .eq (.a a) (.a b) λr=>c7 σ r λc=>if c=U then A else B:=
 uu ⟨aE,by show(if decide (a=b)=U then A else B);rw[ak<|bA h];exact g⟩
def eh{b:Int}{A B:Prop}(h:a≠b)(g:B):eZ σ .eq (.a a) (.a b) λr=>c7 σ r λc=>if c=U then A else B:=
 uu ⟨aE,by show(if decide (a=b)=U then A else B);rw[Z λe=>h<|Y e];exact g⟩
def Pl:∀{aJ:List AV}{k t:Nat}{r:AV},cg aJ->aJ[t]?=I r->dL (s8 aJ k) r=I (.a ((k+t:Nat):Int)):=by
 intro aJ;induction aJ with
 |nil=>exactλ_ h=>cL h
 |cons a c d=>
  intro k t r b h;show(if a=r then I (AV.a k) else dL (s8 c<|k+1) r)=_;cases t with
  |zero=>exact ak<|fg h
  |succ t=>
   rw[Z λe:a=r=>(fh.mp b).1<|ay e<|pG h];exact aO (show k+1+t=k+(t+1) from lT)<|d (k:=k+1) (fh.mp b).2 h
def Pk:∀{aJ:List AV}{k:Nat}{r:AV},r∉aJ->dL (s8 aJ k) r=none:=by
 intro aJ;induction aJ with
 |nil=>
  intro _ _ _;exact H
 |cons a c b=>
  intro k r h;exact(Z λe:a=r=>h<|ay e aZ).trans<|b λe=>h<|bK _ e
def a1d:∀{aJ:List AV}{k:Nat}{r:AV},r∉aJ->mV (s8 aJ k) r (.a ((k+O aJ:Nat):Int))=s8 (aJ++[r]) k:=by
 intro aJ;induction aJ with
 |nil=>
  intro _ _ _;exact H
 |cons a b c=>
  intro k r h;refine(Z λe:a=r=>h<|ay e aZ).trans ?_;have:=c (k:=k+1) (λe=>h (bK _ e):r∉b);rw[show k+1+O b=k+O (a::b) by simp;exact lT] at this;exact be ((a,AV.a k)::·) this
def uh{K:AV->Prop}(h:σ l=I (.a c es))(g:dK c x=U)(q:K<|.e<|dA<|dL es x):eZ σ .a x (.d l) K:=by
 show rj σ x (.d l) λb=>K<|.e b;unfold rj;rw[D0 h,w7 h];exact⟨aO ((zD h).symm) g,q⟩
def DU{K:AV->Prop}(h:σ l=I (.a c es))(g:dK c x=U)(q:dL es x=I v)(u:K v):gL σ (.d l) x K:=by
 unfold gL;rw[D0 h,w7 h,zD h];refine⟨g,?_⟩;rw[q];exact u
noncomputable def bP.M(T:bP)(r:AV):bP:={T with e:=T.e++[r]}
structure bP.Le(T T':bP):Prop where
 e:∃r,T'.e=T.e++r
 d:T'.d=T.d
 g:T'.g=T.g
 j:T'.j=T.j
def bP.Le.B(T:bP):T.Le T:=⟨⟨[],by simp⟩,H,H,H⟩
theorem bP.Le.q(a:T.Le T')(b:T'.Le z!):T.Le z!:=by
 obtain⟨⟨r,c⟩,d,e,h4⟩:=a;obtain⟨⟨q,f⟩,g,i,j⟩:=b;exact⟨⟨r++q,by rw[f,c,gc]⟩,g.trans d,i.trans e,j.trans h4⟩
def bP.Le.F(a:T.Le T'){t:Nat}{r:AV}(h:T.e[t]?=I r):T'.e[t]?=I r:=by
 obtain⟨⟨q,b⟩,_⟩:=a;rw[b,xX (jV.mp h).1];exact h
structure Up(tl:kJ)(σ:av)(T:bP)(σ':av)(T':bP):Prop where
 h:cp σ' tl T'
 y:bF T'
 c:T.Le T'
 cT:∀l o,σ l=some o->l≠tl.e->l≠tl.a->σ' l=some o
theorem Up.B(u:cp σ tl T)(g:bF T):Up tl σ T σ T:=⟨u,g,.B T,λb b e b b=>e⟩
theorem Up.q{g:av}(a:Up tl σ T σ' T')(b:Up tl σ' T' g z!):Up tl σ T g z!:=
 ⟨b.h,b.y,a.c.q b.c,λl o e c d=>b.cT l o (a.cT l o e c d) c d⟩
def cN(h:l'≠l):(σ.u l o) l'=σ l':=Z h
def fc:(σ.u l o) l=I o:=ak H
def a7.g{a:Nat}(h:l.t=a)(h':l'.t=b)(q:a≠b):l≠l':=λe=>q<|by rw[<-h,<-h',e]
def cp.yM(q:cp σ tl T){l:a7}{o:eE}(y:σ l=I o)(ho:∀c f,o≠.d c f):tl.h≠l:=λe=>by
 have:=q.h;obtain this:=e▸this;obtain this:=y▸this;exact ho _ _<|fg this
def r!:∀(aJ:List AV)(k:Nat),O (s8 aJ k)=O aJ:=by
 intro aJ;induction aJ with
 |nil=>
  exactλc=>H
 |cons _ r b=>
  intro k;exact be Nat.succ<|b _
def Ll{r}(h:cp σ tl T)(g:O T.e<=aR)(q:dK 2 (.B r)=U)(u:AV.B r∉T.e)(y:∀σ',cp σ' tl (T.M<|.B r)->(∀l o,σ l=I o->l≠tl.e->l≠tl.a->σ' l=I o)->K (.a<|O T.e) σ'):W (n+1) 1 [.d tl.h,.B r] σ K:=by
 apply bq [.d tl.h,.B r,.q] H;dsimp only[PG];repeat(first|lk|dsimp only[b0,b1,b2,b3,b4,b5,b6,b7,b8])
 refine o7 h.b λb c j k m=>aU h.h H<|uh h.a q<|im ?_;rw[Pk u];apply aU h.h H;obtain d:=h.e;have p:=a7.g c b<|Y H;obtain s:=(cN<|h.yM h.e λf f e=>by cases e).trans h.h;unfold jX;rw[wL d];refine⟨g,aU h.h H ⟨by unfold ly;simp only[d],?_⟩⟩;unfold mJ;simp only[d];refine⟨g,aE,aU s H ?_⟩;unfold l8;simp only[(cN p).trans h.a];refine⟨q,by rw[r!];exact g,?_⟩;obtain i:=a1d u;obtain i:=(n6 ..)▸i;exact y _ ⟨(cN<|h.yM h.a λf f e=>by cases e).trans s,(cN<|q7 p).trans fc,by rw[fc,i];rfl,(cN<|a7.g j c<|Y H).trans<|(cN<|a7.g j b<|Y H).trans h.d,(cN<|a7.g k c<|Y H).trans<|(cN<|a7.g k b<|Y H).trans h.g,(cN<|a7.g m c<|Y H).trans<|(cN<|a7.g m b<|Y H).trans h.j,h.b⟩ λl o e e1 t=>(cN t).trans<|(cN e1).trans e
def sQ:∀N(l:List Nat),cg l->(∀x∈l,x<N)->O l<=N:=by
 intro N;induction N with
 |zero=>
  intro l _ h;rcases l with _|⟨x,r⟩;.exact ce _
  .exact aP (h x aZ)<|Dg _
 |succ N g=>
  intro l c h;obtain d:=g (l.erase N) (c.erase N) λx f=>by
   exact RV (sz<|h x<|List.mem_of_mem_erase f) λe=>by subst e;exact aP f c.not_mem_erase
  obtain b:=List.length_erase (l:=l);split at b<;>first|exact RM.mp (b▸d)|exact rd<|b▸d
theorem Qs:∀{l m:List Nat},l.Pairwise (·<·)->m.Pairwise (·<·)->(∀x,x∈l↔x∈m)->l=m
 |[],[],_,_,_=>rfl
 |[],y::m,_,_,h=>aP ((h y).mpr aZ)<|by simp
 |x::l,[],_,_,h=>aP ((h x).mp aZ)<|by simp
 |x::l,y::m,b,c,h=>by
  have e:x=y:=by
   rcases cf.mp ((h x).mp aZ) with e|e;.exact e
   .rcases cf.mp ((h y).mpr aZ) with f|f;.exact f.symm
    .exact aP (m3 ((re.mp b).1 y f)<|(re.mp c).1 x e)<|kK _
  subst e;rw[Qs (re.mp b).2 (re.mp c).2 λz=>⟨λhz=>?_,λhz=>?_⟩] at⊢
  .rcases cf.mp ((h z).mp<|bK _ hz) with e|e;.subst e;exact aP ((re.mp b).1 z hz) (kK _)
   .exact e
  .rcases cf.mp ((h z).mpr<|bK _ hz) with e|e;.subst e;exact aP ((re.mp c).1 z hz) (kK _)
   .exact e
def rI:∀{bs k},(∀b∈bs,b<k)->bW bs<2^k:=by
 intro bs;induction bs with
 |nil=>
  intro k _;exact Nat.two_pow_pos k
 |cons b r d=>
  intro k h;exact mG (tI (Y H)<|h b aZ)<|d λc e=>h c<|bK _ e
def eU.Oi(g:bF T){E ids' bs y:List Nat}(a:eU T E bs)(N:eU T ids' y)(P:E.Pairwise (·<·))(R:ids'.Pairwise (·<·))(u:bW bs=bW y):E=ids':=by
 obtain key:∀{E ids' bs y:List Nat},eU T E bs->eU T ids' y->bW bs=bW y->∀x,x∈E->x∈ids':=λ{E ids' bs y} a N u x f=>by
  refine aA (a.h x f) λb i c=>?_;obtain this:aQ (bW y) b=true:=by rw[<-u,fF];exact bA i
  rw[fF] at this;refine aA (N.j b<|Y this) λt ht d=>?_;rw[c.h g d];exact ht
 exact Qs P R λx=>⟨key a N u x,key N a u.symm x⟩
def Code(T:bP)(t c:Nat):Prop:=(∃b,bB T t b/\c=2^18+b)\/∃E bs,T.e[t]?=I (nK E)/\E.Pairwise (·<·)/\eU T E bs/\(∀b∈bs,b<18)/\c=bW bs
def Code.cI(h:Code T t c):c<2^18+30:=by
 rcases h with⟨b,d,rfl⟩|⟨E,bs,_,_,_,h,rfl⟩;.have:=d.1;exact qj this _
 .have:=rI h;exact oY this H
theorem Code.inj(g:bF T){t u c:Nat}(h:Code T t c)(h':Code T u c):t=u:=by
 rcases h with⟨b,i,rfl⟩|⟨E,bs,j,k,l,h4,rfl⟩<;>rcases h' with⟨b',d,e⟩|⟨f,m,n,o,p,q,e⟩
 .obtain this:b=b':=H6 e;subst this;exact i.h g d
 .have:=rI q;exact LY e this
 .have:=rI h4;exact LY e.symm this
 .have:=l.Oi g p k o e;subst this;exact g.inj j n
def bF.aT(g:bF T):O T.e<=2^19:=by
 have ex:∀t,∃c,16<=t->t<O T.e->Code T t c:=λt=>by
  by_cases h:16<=t/\t<O T.e
  .obtain e:=kN h.2;rcases g.FC t _ h.1 e with⟨b,j,k⟩|⟨E,bs,k,p,q,r⟩;.exact⟨_,λl l=>.inl ⟨b,⟨j,e.trans<|by rw[k]⟩,H⟩⟩
   .exact⟨_,λl l=>.inr ⟨E,bs,e.trans (by rw[k]),p,q,r,H⟩⟩
  .exact⟨0,λa b=>aP ⟨a,b⟩ h⟩
 let f:=λt=>Classical.choose<|ex t
 obtain m:∀t,16<=t->t<O T.e->Code T t (f t):=λt=>Classical.choose_spec<|ex t;have d:=sQ (2^18+30) ((cO<|O T.e-16).map λi=>f<|i+16) ?_ ?_;.obtain d:=(ba ..)▸d;obtain d:=(Ij ..)▸d;exact bG (RM.mp d) H
 .rw[cg,Ib] at⊢;exact a7Q (λ{a b} s j n e=>n<|RY<|Code.inj g (e▸m (a+16) (jE _ _) (RZ<|eJ.mp s))<|m (b+16) (jE _ _)<|RZ<|eJ.mp j) a6I
 .refineλx u=>aA (bp.mp u) λi hi o=>?_
  subst o;exact(m (i+16) (jE _ _)<|RZ<|eJ.mp hi).cI
def bF.aR(g:bF T):O T.e<=aR:=bG g.aT H
theorem bB.F(le:T.Le T'){t b:Nat}(g:bB T t b):bB T' t b:=⟨g.1,le.F g.2⟩
theorem eU.F(le:T.Le T'){E bs:List Nat}(g:eU T E bs):eU T' E bs:=F2.fX (λb b a=>a.F le) g
theorem iS.F(le:T.Le T'){t:Nat}{E bs:List Nat}(g:iS T t E bs):iS T' t E bs:=by
 cases g with
 |nil=>exact .nil
 |B a=>exact .B<|a.F le
 |a g a b c d=>exact .a (le.F g) a (eU.F le b) c d
theorem Is.F(le:T.Le T'){t m:Nat}:Is T t m->Is T' t m:=λb=>gk b λE bs h e=>⟨E,bs,h.F le,e⟩
def bP.Fk(T:bP)(r):T.Le<|T.M r:=⟨⟨[r],H⟩,H,H,H⟩
def bF.M(g:bF T){r}(y:r∉T.e)(u:16<=O T.e)(B:(∃b,b<30/\r=gz b)\/∃E bs,r=nK E/\E.Pairwise (·<·)/\eU T E bs/\∀b∈bs,b<18):bF<|T.M r:=by
 refine⟨?_,?_,λt row ht e=>?_⟩
 .show cg<|T.e++[r];rw[kL] at⊢;exact⟨g.q,by simp,λa i b j=>by
   rw[d8.mp j];exactλe=>y<|aO e i⟩
 .rw[List.take_append_of_le_length u];exact g.first
 .obtain e:(T.e++[r])[t]?=I row:=e;rcases tK t (O T.e) with q|q
  .rcases g.FC t row ht (aO (xX q) e) with h|⟨E,bs,c,d,f,h4⟩;.exact .inl h
   .exact .inr ⟨E,bs,c,d,f.F<|T.Fk r,h4⟩
  .rw[v7 q] at e;obtain this:row=r:=by
    rcases z:t-O T.e with _|k;.obtain e:=z▸e;exact(fg e).symm
    .rw[z] at e;simp at e
   clear g ht e;subst this;rcases B with h|⟨E,bs,c,d,f,h4⟩;.exact .inl h
   .exact .inr ⟨E,bs,c,d,f.F<|T.Fk _,h4⟩
def bF.MI(g:bF T):16<=O T.e:=aV (gG ((xV▸(be O g.first)).trans<|by decide+kernel).symm)<|xR _ _
set_option tactic.hygienic true
def Qe:∀b,b<30->dK 2 (gz b)=true:=by decide+kernel
def a34(g:b<30):∃r,gz b=.B r:=(Qg g).elim λk h=>h.elim λr h=>⟨_,h.1⟩
def Lk{r}(h:cp σ tl T)(g:bF T)(q:dK 2 (.B r)=U)(y:(∃b,b<30/\AV.B r=gz b)\/∃E bs,AV.B r=nK E/\E.Pairwise (·<·)/\eU T E bs/\∀b∈bs,b<18)(u:∀t σ' T',Up tl σ T σ' T'->T'.e[t]?=I (.B r)->K (.a (t:Nat)) σ'):W (n+1) 1 [.d tl.h,.B r] σ K:=by
 by_cases d:AV.B r∈T.e;.obtain⟨t,ht⟩:=Ik d;apply bq [.d tl.h,.B r,.q] H;obtain hd:=Pl g.q ht;obtain hd:=(n6 ..)▸hd;refine aU h.h H<|uh h.a q<|im ?_;rw[hd];exact aU h.h H<|DU h.a q hd<|u t σ T (.B h g) ht
 .refine Ll h g.aR q d λσ' h' c=>u (O T.e) σ' (T.M<|.B r) ⟨h',g.M d g.MI y,T.Fk _,c⟩ ?_;show(T.e++[AV.B r])[O T.e]?=_;simp
def A5(h:cp σ tl T)(g:bF T)(q:b<30)(y:∀t σ' T',Up tl σ T σ' T'->bB T' t b->K (.a t) σ'):W (n+1) 1 [.d tl.h,gz b] σ K:=by
 refine bc (a34 q) λr e=>?_;obtain c:=Qe b q;rw[e] at c⊢;exact Lk h g c (.inl ⟨b,q,e.symm⟩) λt σ' T' u ht=>y t σ' T' u ⟨q,by rw[ht,e]⟩
def Tw(E):dK 2 (nK E)=true:=by
 show(List.all (E.map λ(i:Nat)=>AV.a i) y4&&U)=U;rw[uV,a62];exact gf.mpr λ_ _=>H
def Xr(h:cp σ tl T)(g:bF T)(q:E.Pairwise (·<·))(y:eU T E bs)(B:2<=O E)(h4:∀b∈bs,b<18)(F:∀t σ' T',Up tl σ T σ' T'->iS T' t E bs->K (.a t) σ'):
 W (n+1) 1 [.d tl.h,nK E] σ K:=
 Lk h g (Tw E) (.inr ⟨E,bs,H,q,y,h4⟩) λt σ' T' u ht=>F t σ' T' u (.a ht q (y.F u.c) B h4)
def EA(h:cp σ tl T)(g:bF T)(u:iS T t E bs)(q:K (.B<|E.map λ(i:Nat)=>.a i) σ):W (n+1) 6 [.d tl.h,.a t] σ K:=by
 apply bq [.d tl.h,.a t,.q] H;dsimp only[Pz];repeat(first|lk|dsimp only[b0,b1,b2,b3,b4,b5,b6,b7,b8])
 cases u with
 |nil=>exact gO H q
 |B a=>
  obtain⟨k,r,e,b,c⟩:=a.fst;have ht:=a.2;rw[e] at ht;exact eh (gm<|a.A0 g)<|aU h.h H<|eL h.e g.aR ht<|dh (bG c H) H<|eh b q
 |a ht f j l h4=>
  have d:t≠2:=λe=>by
   subst e;have:=g.F (t:=2)<|Y H;rw[ht] at this;cases (fg this:nK E=.B [.a 1,.f AY])
  exact eh (gm d)<|aU h.h H<|eL h.e g.aR ht<|dh (bU H) H<|gO H<|dh (bU H) H q
set_option tactic.hygienic false
def kC{b:Int}{A B:AV->Prop}(h:a=b)(g:A<|.e U):eZ σ .eq (.a a) (.a b) λr=>c7 σ r λc=>if c=U then A r else B r:=
 uu ⟨aE,by show(if decide (a=b)=U then A (.e<|decide<|a=b) else B<|.e<|decide<|a=b);rw[ak<|bA h,bA h];exact g⟩
def fU{b:Int}{A B:AV->Prop}(h:a≠b)(g:B<|.e am):eZ σ .eq (.a a) (.a b) λr=>c7 σ r λc=>if c=U then A r else B r:=
 uu ⟨aE,by show(if decide (a=b)=U then A (.e<|decide<|a=b) else B<|.e<|decide<|a=b);rw[Z λe=>h<|Y e,bR h];exact g⟩
def bw{A}(h:A):c7 σ (.e U) λc=>if c=U then A else B:=⟨aE,h⟩
def bd{A}(h:B):c7 σ (.e am) λc=>if c=U then A else B:=⟨aE,h⟩
def Of{K}(g:K<|.e<|dA<|dL es<|.a a):eZ σ .a (.a a) (.g 0 es) K:=⟨H,g⟩
def Br{K}(g:K<|.e<|!(dL es<|.a a).isSome):eZ σ .b (.a a) (.g 0 es) K:=⟨H,g⟩
noncomputable def wz(k:Int):Int:=if k=3 then 6 else if k=4 then 7 else-1
def AO{k r}(q:O (.a k::r:List AV)<=aR)(u:k=3\/k=4\/k=1\/k=10)(g:K (.a<|wz k) σ):W (n+1) 7 [.B<|.a k::r] σ K:=by
 apply bq [.B<|.a k::r,.q] H;dsimp only[Ps];repeat(first|lk|dsimp only[b0,b1,b2,b3,b4,b5,b6,b7,b8])
 apply dh q H;clear q;rcases u with rfl|rfl|rfl|rfl;.exact kC H<|bw g
 .exact fU (Y H)<|fU (Y H)<|kC H g
 .exact fU (Y H)<|fU (Y H)<|fU (Y H)<|fU (Y H) g
 .exact fU (Y H)<|fU (Y H)<|fU (Y H)<|fU (Y H) g
noncomputable def bk(b:Nat):Int:=if b<8 then(if b%4<2 then 3 else 4) else if b<14 then 1 else if b<18 then 10 else 4
def bx(b:Nat):AV:=match gz b with|.B (_::x::_)=>x|_=>.j
noncomputable def bf(b:Nat):Int:=if 4<=b/\b<8 then 1 else 0
def KU:∀b,b<30->(b<8\/18<=b)->gz b=.B [.a<|bk b,bx b,.a<|bf b]:=by decide+kernel
def KW:∀b,b<30->8<=b->b<18->gz b=.B [.a<|bk b,bx b]:=by decide+kernel
def KQ:∀b,b<8->4<=b->gz (b-4)=.B [.a<|bk b,bx b,.a 0]:=by decide+kernel
def P8:∀b,b<30->(b<8\/18<=b)->bk b=3\/bk b=4:=by decide+kernel
def P9:∀b,b<30->8<=b->b<18->bk b=1\/bk b=10:=by decide+kernel
def Oe{is:List Int}{A B:AV->Prop}(h:a∈is)(g:A<|.e U):eZ σ .a (.a a) (.B<|is.map .a) λr=>c7 σ r λc=>if c=U then A r else B r:=by
 refine⟨λv d=>?_,aE,?_⟩;.refine aA (bp.mp d) λi e b=>?_;subst b;rfl
 .rw[bA<|dU h];exact g
def F8{is:List Int}{A B:AV->Prop}(h:a∉is)(g:B<|.e am):eZ σ .a (.a a) (.B<|is.map .a) λr=>c7 σ r λc=>if c=U then A r else B r:=by
 refine⟨λv d=>?_,aE,?_⟩;.refine aA (bp.mp d) λi f b=>?_;subst b;rfl
 .rw[(bR λe=>by
   refine aA (bp.mp e) λi hi e=>?_;cases e;exact h hi)];exact g
def JD{K}(g:O xs<=aR)(ht:xs.getLast?=I v)(q:K v):gL σ (.B xs) (.a<|-1) K:=by
 obtain b:=Di.mpr ((λe=>by subst e;exact cL ht:xs≠[]));obtain c:xs[O xs-1]?=I v:=by rw[<-List.getLast?_eq_getElem?];exact ht
 obtain hi:o8 (O xs) (-1)=I (O xs-1):=by
  unfold o8;rw[ak<|EY b];congr 1;exact My b
 exact DT g hi c q
def Ml(h:σ l=I (.a c es))(g:P es):pK σ (.d l) P:=by
 unfold pK;rw[w7 h];exact g
def vN{k}(h:σ l=I (.a c es))(g:dK c k=U):dK (jO σ<|.d l) k=true:=aO ((zD h).symm) g
def Gn(h:σ l=I (.a c es)):ul σ (.d l)=true:=be dA<|w7 h
def a5f(T:bP)(b:Nat)(v:Int):Prop:=(∃u:Nat,v=u/\4<=b/\b<8/\bB T u (b-4))\/(v=-1/\(4<=b->b<8->∀u,¬bB T u (b-4)))
def W8(h:cp σ tl T)(g:bF T)(a:bB T t b)(y:∀v,a5f T b v->K (.a v) σ):W (n+1) 8 [.d tl.h,.a t] σ K:=by
 apply bq [.d tl.h,.a t,.q] H;dsimp only[Py];repeat(first|lk|dsimp only[b0,b1,b2,b3,b4,b5,b6,b7,b8])
 apply aU h.h H;obtain d:=a.1;by_cases q:b<8\/18<=b
 .refine eL h.e g.aR ((KU b d q)▸a.2) (dh (bU H) H<|Oe (is:=[2,3,4,5,8]) (by rcases P8 b d q with e|e<;>rw[e]<;>decide)<|JD (bU rfl) rfl ?_);by_cases c:4<=b/\b<8
  .have j:bf b=1:=ak c;rw[j];have k:=KQ b c.2 c.1;refine kC H (aU h.h H ⟨Gn h.a,⟨H,bU H,bU H,⟨nofun,nofun,bU H,Ml h.a ⟨vN h.a (by have:=Qe (b-4)<|gQ (pE _ _) d;obtain this:=k▸this;exact this),?_⟩⟩⟩⟩);by_cases l:gz (b-4)∈T.e;.refine bc (Ik l) λu i=>?_;obtain hd:=Pl g.q i;obtain hd:=(k ..)▸hd;obtain hd:=(n6 ..)▸hd;rw[hd];exact y _ (.inl ⟨u,H,c.1,c.2,gQ (pE _ _) d,i⟩)
   .obtain hd:=Pk l;obtain hd:=k▸hd;rw[hd];exact y _<|.inr ⟨H,λp p u i=>l<|pG i.2⟩
  .have j:bf b=0:=Z c;rw[j];exact fU (Y H)<|y _<|.inr ⟨H,λr m=>aP ⟨r,m⟩ c⟩
 .have o:=fw.mp λz=>q<|.inl z;have f:=sy.mp λz=>q<|.inr z;exact eL h.e g.aR ((KW b d o f)▸a.2)<|dh (t:=0) (bU H) H<|F8 (is:=[2,3,4,5,8]) (by rcases P9 b d o f with e|e<;>rw[e]<;>decide)<|bd<|y _<|.inr ⟨rfl,λp m=>aP m<|a6n o⟩
def ya(es:List<|AV×AV)(E:List Nat):Prop:=∀a:Int,dA (dL es<|.a a)=U↔∃u∈E,a=(u:Nat)
def ya.g{E:List Nat}(h:ya es E){a:Int}(y:∀u∈E,a≠(u:Nat)):dA (dL es<|.a a)=false:=by
 rcases q:dA (dL es<|.a a) with _|_;.rfl
 .refine aA ((h a).mp q) λu b e=>?_;exact aP e<|y u b
def Gp{A B:AV->Prop}(h:dA (dL es<|.a a)=U)(g:A<|.e U):eZ σ .a (.a a) (.g 0 es) λr=>c7 σ r λc=>if c=U then A r else B r:=by
 refine Of ⟨aE,?_⟩;rw[h];exact g
def xo{A B:AV->Prop}(h:dA (dL es<|.a a)=am)(g:B<|.e am):eZ σ .a (.a a) (.g 0 es) λr=>c7 σ r λc=>if c=U then A r else B r:=by
 refine Of ⟨aE,?_⟩;rw[h];exact g
def xF(T:bP)(E:List Nat)(b:Nat):Prop:=(∀u∈E,4<=b->b<8->¬bB T u (b-4))/\∀u∈E,wz (bk b)≠(u:Nat)
def tz(g:b<30):∃r,gz b=.B (.a (bk b)::r)/\O (.a (bk b)::r:List AV)<=aR/\(bk b=3\/bk b=4\/bk b=1\/bk b=10):=by
 by_cases q:b<8\/18<=b;.exact⟨_,KU b g q,bU H,(P8 b g q).elim .inl λe=>.inr<|.inl e⟩
 .exact⟨_,KW b g (fw.mp λz=>q<|.inl z)<|sy.mp λz=>q<|.inr z,bU H,.inr<|.inr<|P9 b g (fw.mp λz=>q<|.inl z)<|sy.mp λz=>q<|.inr z⟩
def UN(h:cp σ tl T)(g:bF T)(a:bB T t b)(y:ya es E)(B:∀r,(r=U↔xF T E b)->K (.e r) σ):W (n+2) 10 [.d tl.h,.g 0 es,.a t] σ K:=by
 apply bq [.d tl.h,.g 0 es,.a t] H;dsimp only[Px];repeat(first|lk|dsimp only[b0,b1,b2,b3,b4,b5,b6,b7,b8])
 refine W8 h g a λv k=>?_;by_cases q:∃u∈E,4<=b/\b<8/\bB T u (b-4)
 .exact vA q λu c d f i=>Gp ((y v).mpr ⟨u,c,(by
   rcases k with⟨j,rfl,_,_,h4⟩|⟨_,h4⟩;.rw[h4.h g i]
   .exact aP i<|h4 d f u)⟩) (B am ⟨nofun,λs=>aP i<|s.1 u c d f⟩)
 .refine xo (y.g λu c e=>by
   rcases k with⟨j,rfl,d,f,h4⟩|⟨rfl,_⟩;.obtain this:j=u:=gI e;subst this;exact q ⟨j,c,d,f,h4⟩
   .exact Od H e) (eW (tz a.1) λr e m o=>aU h.h H<|eL h.e g.aR (e▸a.2)<|AO m o<|Br<|B _ ?_)
  rcases l:dA (dL es<|.a<|wz<|bk b) with _|_;.refine⟨λp=>⟨λu c d f i=>q ⟨u,c,d,f,i⟩,λu c e=>?_⟩,λp=>H⟩;have:=(y _).mpr ⟨u,c,e⟩;rw[l] at this;exact dj this
  .exact aA ((y _).mp l) λu c e=>⟨nofun,λs=>aP e<|s.2 u c⟩
def ZY(g:∀a∈[8,9,14,15],a∉E)(q:ya es E)(y:K .j σ):W (n+1) 9 [.g 0 es] σ K:=by
 apply bq [.g 0 es] H;dsimp only[PB];repeat(first|lk|dsimp only[b0,b1,b2,b3,b4,b5,b6,b7,b8])
 obtain no:=λa b=>q.g λu c e=>g a b<|ay (gI e:a=u) c;exact xo (no 8<|Y H)<|xo (no 14<|Y H)<|bd y
def TR(y:ya es E)(g:13∉E)(B:0∈E->K (.a 0) σ)(F:0∉E->1∈E->K (.a 1) σ)(M:0∉E->1∉E->K (.a<|-1) σ):W (n+1) 11 [.g 0 es] σ K:=by
 refine bq [.g 0 es,.q] H ⟨bU H,?_⟩;dsimp only[cu,p9];repeat(first|lk|dsimp only[b0,b1,b2,b3,b4,b5,b6,b7,b8])
 have key:∀a:Nat,dA (dL es<|.a a)=decide (a∈E):=λa=>by
  by_cases q:a∈E;.rw[bA q];exact(y _).mpr ⟨a,q,H⟩
  .rw[bR q];exact y.g λu d e=>q<|ay (gI e:a=u) d
 by_cases b:0∈E;.exact Gp ((key 0).trans<|bA b)<|B b
 .exact xo ((key 0).trans<|bR b) ⟨aE,xo ((key 13).trans<|bR g) ⟨aE,(a7h<|1∈E).elim (λc=>Gp ((key 1).trans<|bA c)<|F b c) λc=>xo ((key 1).trans<|bR c) ⟨aE,M b c⟩⟩⟩
noncomputable abbrev G(l:List Nat):List AV:=l.map λ(i:Nat)=>.a i
noncomputable def fZ(D:List Nat)(i:Nat):List Nat:=if i∈D then D else D++[i]
noncomputable def kH(D:List Nat):List<|AV×AV:=D.map λ(i:Nat)=>(AV.a i,AV.a 1)
def xi(g:AV.a (i:Int)=AV.a (j:Int)):i=j:=gI<|AV.a.inj g
def Gq:∀D i,mV (kH D) (.a (i:Nat)) (.a 1)=kH (fZ D i):=by
 intro D;induction D with
 |nil=>
  exactλi=>H
 |cons j D b=>
  intro i;unfold fZ at b⊢;show(if AV.a j=AV.a i then(AV.a j,AV.a 1)::kH D else(AV.a j,AV.a 1)::mV (kH D) (.a i) (.a 1))=_;by_cases e:j=i;.subst e;rw[ak H,ak aZ];rfl
  .rw[Z λh=>e<|xi h,b];by_cases q:i∈D;.rw[ak q,ak<|bK _ q];rfl
   .rw[Z q,Z λh=>(cf.mp h).elim (λh=>e h.symm) q];rfl
def Gu:∀D,ya (kH D) D:=by
 intro D;induction D with
 |nil=>
  exactλa=>⟨nofun,λb=>aA b λu h c=>nomatch h⟩
 |cons j D d=>
  exactλa=>by
   show dA (if AV.a j=AV.a a then I (AV.a 1) else dL (kH D)<|.a a)=U↔_;by_cases e:AV.a j=AV.a a
   .rw[ak e];injection e with e
    exact⟨λc=>⟨j,aZ,e.symm⟩,λc=>H⟩
   .rw[Z e];rw[d a] at⊢;exact⟨λb=>aA b λu h q=>⟨u,bK _ h,q⟩,λb=>aA b λu h q=>(cf.mp h).elim (λh=>aP (by rw[q,h]) e) λh=>⟨u,h,q⟩⟩
def Gr(D):O (kH D)=O D:=ba ..
def j!{x}:x∈fZ D i↔x∈D\/x=i:=by
 unfold fZ;split;.rename_i h;exact⟨.inl,λq=>q.elim id λe=>ay e h⟩
 .simp
def GA:∀{is D:List Nat}{x},x∈is.foldl fZ D↔x∈D\/x∈is:=by
 intro is;induction is with
 |nil=>
  intro D x;simp
 |cons i is b=>
  rw[R6];rw[b,j!,cf,or_assoc] at⊢
def a0z:∀{is D:List Nat},cg D->cg (is.foldl fZ D):=by
 intro is;induction is with
 |nil=>
  intro _ h;exact h
 |cons i is c=>
  intro D h;exact c<|(by
   unfold fZ;split;.exact h
   .rename_i q;rw[kL] at⊢;exact⟨h,by simp,λa d b f e=>q (by obtain e:=(d8.mp f)▸e;exact aO e d)⟩)
def u6{a b}:(σ.u l a).u l b=σ.u l b:=by
 funext x;unfold av.u;split<;>rfl
def a0n{r ps a b c K}:∀E D x4,O D+O E<=aR->
 (∀x4,K .none [r,ps,.d l,g,x4,a,b,c]<|σ.u l<|.a 0<|kH<|E.foldl fZ D)->cu (ch A! Fs) (.B 4) dc (G E) [r,ps,.d l,g,x4,a,b,c] (σ.u l<|.a 0<|kH D) K:=by
 intro E;induction E with
 |nil=>
  exactλD x4 j e=>e x4
 |cons i E f=>
  intro D x4 d e;show ch A! Fs [r,ps,.d l,g,.a i,a,b,c] _ _;repeat(first|lk|dsimp only[b0,b1,b2,b3,b4,b5,b6,b7,b8])
  unfold l8;simp only[fc];refine⟨H,by rw[Gr];simp at d;exact kX d,aE,?_⟩;rw[u6,Gq];refine f (fZ D i) (.a i) ?_ e;simp at d⊢;exact xe (by unfold fZ;split<;>simp) d
class inductive uG (T:bP):List Nat->List Nat->List Nat->Prop
 |nil:uG T [] [] []
 |cons {t:Nat} {E bs ts js d:List Nat}:iS T t E bs->uG T ts js d->uG T (t::ts) (E++js) (bs++d)
def a0m{ps a b c K}(g:bF T)(h:∀es,cp (σ.u l<|.a 0 es) tl T):∀{ts u d} D q x4,uG T ts u d->O D+O u<=aR->
 (∀q x4,K .none [.d tl.h,ps,.d l,q,x4,a,b,c]<|σ.u l<|.a 0<|kH<|u.foldl fZ D)->
 cu (wB (n+1) Ft) (.B 3) dc (G ts) [.d tl.h,ps,.d l,q,x4,a,b,c] (σ.u l<|.a 0<|kH D) K:=by
 intro ts u d D q x4 P;induction P generalizing D q x4 with
 |nil=>exactλk f=>f q x4
 |@cons t E bs ts u d p r j=>
  intro e f;show wB (n+1) Ft [.d tl.h,ps,.d l,.a t,x4,a,b,c] _ _;repeat(first|lk|dsimp only[b0,b1,b2,b3,b4,b5,b6,b7,b8])
  refine EA (h _) g p ⟨by rw[ba];simp at e;exact kX<|br e,a0n E D x4 (by simp at e;exact aV (jq (fA _ _) _) e) λx4=>⟨aE,j (E.foldl fZ D) (.a t) x4 ?_ λq x4=>(aO v8<|f q x4)⟩⟩;simp at e;exact aV (oK (((λis=>by
   induction is with
   |nil=>intro D;exact ce _
   |cons i is j=>
    intro D;rw[kq];exact yW (j<|fZ D i) (by unfold fZ;split<;>simp):∀(is D:List Nat),O (is.foldl fZ D)<=O D+O is)) E D) _) (aV (gG<|oM ..) e)
def tj(u:ok σ){is:List Nat}{K}(ht:∀i∈is,∀B,B (.e<|q i) σ->x! (ci L j<|.a i) σ B)(F:∀i∈is,∀M,M (.a i) σ->z_ (ci L j<|.a i) σ M)(g:K (G<|is.filter q) σ):iJ x! z_ (.B j) ok L (G is) σ K:=by
 induction is generalizing K with
 |nil=>exact g
 |cons i is b=>
  refine(?_:x! (ci L j<|.a i) σ _);refine ht i aZ _ ⟨aE,?_⟩;have b:=λ{K}=>b (K:=K) (jw ht) λy c=>F y<|bK _ c;rw[jf] at g;cases z:q i with
  |true=>
   rw[z] at g;exact F i aZ _ ⟨u,b g⟩
  |false=>
   rw[z] at g;exact⟨u,b g⟩
def lJ(m b:Nat):Bool:=!(eA 4 b&&gq b 8&&aQ m (b-4))&&(!(decide (bk b=3)&&aQ m 8)&&!(decide (bk b=4)&&aQ m 9))
def fp(m:Nat):Nat:=if aQ m 13 then 2^13 else if aQ m 12 then 2^12 else bW<|(cO 30).filter λb=>aQ m b&&lJ m b
def a0J:∀t b,(t,b)∈[(0,13),(1,12),(4,11),(5,10),(6,8),(7,9)]->nU[t]?=I (gz b):=by
 intro t b h;simp only[cf,Ak,jU,or_false] at h;rcases h with⟨rfl,rfl⟩|⟨rfl,rfl⟩|⟨rfl,rfl⟩|⟨rfl,rfl⟩|⟨rfl,rfl⟩|⟨rfl,rfl⟩<;>decide+kernel
def bF.h(g:bF T){t b}(u:(t,b)∈[(0,13),(1,12),(4,11),(5,10),(6,8),(7,9)]):bB T t b:=by
 obtain c:t<16/\b<30:=by
  simp only[cf,Ak,jU,or_false] at u;exact u.elim (wW H) λu=>u.elim (wW H) λu=>u.elim (wW H) λu=>u.elim (wW H) λu=>u.elim (wW H)<|wW H
 exact⟨c.2,(g.F c.1).trans<|a0J t b u⟩
def iS.w(g:iS T t E bs):eU T E bs:=by
 cases g with
 |nil=>exact .nil
 |B a=>exact .cons a .nil
 |a _ _ a _ _=>exact a
theorem uG.w{d}(h:uG T ts g d):eU T g d:=by
 induction h with
 |nil=>exact .nil
 |cons p _ b=>exact p.w.append b
def eU.LP:∀{E},(∀t∈E,∃b,bB T t b)->∃bs,eU T E bs:=by
 intro E;induction E with
 |nil=>
  exactλg=>⟨[],.nil⟩
 |cons t r c=>
  exactλh=>bc (h t aZ) λb d=>bc (c λu e=>h u<|bK _ e) λbs f=>⟨b::bs,.cons d f⟩
def sV(g:bF T){q d D:List Nat}(a:eU T q d)(hD:∀x,x∈D↔x∈q){x b:Nat}(u:bB T x b):x∈D↔b∈d:=by
 rw[hD] at⊢;constructor;.intro h;obtain⟨c,i,e⟩:=a.h x h;rw[u.q e];exact i
 .intro h;obtain⟨t,ht,f⟩:=a.j b h;rw[u.h g f];exact ht
def JH(g:bF T){y d D:List Nat}(a:eU T y d)(hD:∀x,x∈D↔x∈y){b:Nat}(B:b<30):xF T D b↔lJ (bW d) b=true:=by
 obtain w:∀{t c:Nat},(t,c)∈[(0,13),(1,12),(4,11),(5,10),(6,8),(7,9)]->(t∈D↔c∈d):=λh=>sV g a hD<|g.h h;obtain ex:(∀u∈D,4<=b->b<8->¬bB T u (b-4))↔¬(4<=b/\b<8/\b-4∈d):=by
  constructor;.rintro h ⟨i,j,l⟩;exact aA (a.j _ l) λt ht m=>h t ((hD t).mpr ht) i j m
  .exactλh u k i j n=>h ⟨i,j,(sV g a hD n).mp k⟩
 unfold xF;rw[ex,(show(∀u∈D,wz (bk b)≠u)↔¬(bk b=3/\8∈d)/\¬(bk b=4/\9∈d) from by
  refine eW (tz B) λf f f r=>?_;unfold wz;rcases r with e|e|e|e<;>rw[e]
  .rw[<-(w (t:=6)<|Y H)];constructor;.exactλh=>⟨λq=>h 6 q.2 H,λq=>aP q.1<|Y H⟩
   .rintro⟨h,_⟩ u k e;exact h ⟨H,(by simp at e;exact(gI e).symm)▸k⟩
  .rw[<-(w (t:=7) (c:=9)<|Y H)] at⊢;constructor;.exactλh=>⟨λq=>aP q.1<|Y H,λq=>h 7 q.2 H⟩
   .rintro⟨_,h⟩ u k e;exact h ⟨H,(by simp at e;exact(gI e).symm)▸k⟩
  .exact⟨λf=>⟨λq=>aP q.1<|Y H,λq=>aP q.1<|Y H⟩,λf u f e=>by simp at e⟩
  .exact⟨λf=>⟨λq=>aP q.1<|Y H,λq=>aP q.1<|Y H⟩,λf u f e=>by simp at e⟩)] at⊢
 unfold lJ;simp only[fF,eB,nI,Bool.and_eq_false_iff,decide_eq_false_iff_not];obtain e1:eA 4 b=decide (4<=b):=by rw[gu] at⊢;simp
 obtain s:gq b 8=decide (b<8):=by rw[gu] at⊢;simp[Nat.blt_eq]
 rw[e1,s];simp only[decide_eq_false_iff_not];constructor
 .rintro⟨i,j,l⟩;refine⟨?_,?_,?_⟩;.by_cases q:4<=b<;>by_cases o:b<8<;>by_cases v:b-4∈d<;>simp_all
  .by_cases q:bk b=3<;>simp_all
  .by_cases q:bk b=4<;>simp_all
 .rintro⟨i,j,l⟩;refine⟨?_,?_,?_⟩;.rintro⟨p,o,v⟩;simp_all
  .rintro⟨p,o⟩;simp_all
  .rintro⟨p,o⟩;simp_all
noncomputable def ug(x:Nat):List Nat->List Nat
 |[]=>[x]
 |y::r=>if x<=y then x::y::r else y::ug x r
noncomputable def vf:List Nat->List Nat
 |[]=>[]
 |x::r=>ug x<|vf r
theorem B4{x y r}:ug x (y::r)=if x<=y then x::y::r else y::ug x r:=rfl
def l_(x:Nat):∀l,uf x (l.map λ(i:Nat)=>i)=(ug x l).map λ(i:Nat)=>(i:Int):=by
 intro b;induction b with
 |nil=>
  exact H
 |cons y r c=>
  show(if x<=(y:Int) then _ else _)=_;rw[B4];by_cases h:x<=y;.rw[ak h,ak<|iH.mpr h];rfl
  .rw[Z h,Z λz=>h<|iH.mp z,c];rfl
def UZ:∀l,rU (l.map λ(i:Nat)=>i)=(vf l).map λ(i:Nat)=>(i:Int):=by
 intro b;induction b with
 |nil=>
  exact H
 |cons x r c=>
  show uf x (rU<|r.map _)=_;rw[c,l_];rfl
def N9{x}:∀{l},z∈ug x l↔z=x\/z∈l:=by
 intro l;induction l with
 |nil=>exact cf
 |cons y r b=>
  rw[B4];by_cases q:x<=y;.rw[ak q];exact cf
  .rw[Z q];rw[cf,b,cf] at⊢;exact⟨λh=>h.elim (λe=>.inr<|.inl e) λh=>h.elim .inl λh=>.inr<|.inr h,λh=>h.elim (λe=>.inr<|.inl e) λh=>h.elim .inl λh=>.inr<|.inr h⟩
def D5:∀{l},z∈vf l↔z∈l:=by
 intro l;induction l with
 |nil=>
  exact Iq
 |cons x r b=>
  refine(N9 (l:=vf r)).trans ?_;rw[b,cf] at⊢
def l!{x}:∀{l},l.Pairwise (·<·)->x∉l->(ug x l).Pairwise (·<·):=by
 intro l;induction l with
 |nil=>
  intro _ _;exact Ia _ _
 |cons y r f=>
  refineλh c=>bY (re.mp h) λd g=>?_
  rw[B4];split;.rename_i q;obtain b:=RV q λe=>c<|ay e aZ;exact re.mpr ⟨λz hz=>(cf.mp hz).elim (λe=>ay e b) λhz=>m3 b<|d z hz,h⟩
  .rename_i q;refine re.mpr ⟨λz hz=>?_,f g λe=>c<|bK _ e⟩;rcases N9.mp hz with e|hz;.exact ay e (m4 q)
   .exact d z hz
def U0:∀{l},cg l->(vf l).Pairwise (·<·):=by
 intro l;induction l with
 |nil=>
  exactλf=>a7P
 |cons x r b=>
  exactλh=>bY (fh.mp h) λc d=>l! (b d) λe=>c (D5.mp e)
def k!{x}:∀{l},O (ug x l)=O l+1:=by
 intro l;induction l with
 |nil=>
  exact H
 |cons y r b=>
  rw[B4];split<;>simp[b]
def JO:∀{l},O (vf l)=O l:=by
 intro l;induction l with
 |nil=>
  exact H
 |cons x r b=>
  rw[k!,b];rfl
def i_:∀l,mn (G l)=I (l.map λ(i:Nat)=>(i:Int)):=by
 intro b;induction b with
 |nil=>
  exact H
 |cons x r c=>
  show(mn<|G r).map _=_;rw[c];rfl
def Tp(h:σ l=C):(σ.u l o).r l=σ:=by
 funext x;unfold av.u av.r;split;.rename_i e;rw[e,h]
 .rename_i e;exact Z e
def p7{K}(hi:dg L i=.d l)(h:σ l=I (.a c es))(g:ch A! r (ci L i<|.g c es) (σ.r l) K):
 ch A! (.u i::r) L σ K:=by
 show(match dg L i with
  |.d l=>(match σ l with
   |some (.b vs)=>ch A! r (ci L i<|.r vs) (σ.r l) K
   |some (.a c es)=>ch A! r (ci L i<|.g c es) (σ.r l) K
   |_=>False)
  |_=>False)
 rw[hi];show(match σ l with
  |some (.b vs)=>ch A! r (ci L i<|.r vs) (σ.r l) K
  |some (.a c es)=>ch A! r (ci L i<|.g c es) (σ.r l) K
  |_=>False)
 rw[h];exact g
def cp.fresh(y:cp σ tl T){l:a7}{o:eE}(B:σ l=C):cp (σ.u l o) tl T:=by
 obtain ne:∀{l':a7}{o':eE},σ l'=I o'->(σ.u l o) l'=I o':=λ{l' o'} e=>(cN λq=>by obtain e:=q▸e;obtain e:=B▸e;exact cL e).trans e;exact⟨ne y.h,ne y.e,ne y.a,ne y.d,ne y.g,ne y.j,y.b⟩
def pe{b:Int}{A B:AV->Prop}(h:b<=a)(g:A<|.e U):eZ σ .ge (.a a) (.a b) λr=>c7 σ r λc=>if c=U then A r else B r:=by
 refine⟨aE,?_⟩;rw[bA h];exact g
def qR{b:Int}{A B:AV->Prop}(h:a<b)(g:B<|.e am):eZ σ .ge (.a a) (.a b) λr=>c7 σ r λc=>if c=U then A r else B r:=by
 refine⟨aE,?_⟩;rw[bR<|Do.mpr h];exact g
def o9{b:Int}{A B:AV->Prop}(h:a<=b)(g:B<|.e am):eZ σ .gt (.a a) (.a b) λr=>c7 σ r λc=>if c=U then A r else B r:=by
 refine⟨aE,?_⟩;rw[bR<|rg.mpr h];exact g
def qA{K}(g:O xs<=aR)(ht:xs[t]?=I v)(q:K v):gL σ (.r xs) (.a t) K:=by
 exact dh (σ:=σ) g ht q
def X1(g:pv=.r (G ts)\/pv=.B (G ts))(h:P (G ts) λq=>True):ma σ pv P:=by
 rcases g with rfl|rfl<;>exact h
def SU(g:pv=.r (G ts)\/pv=.B (G ts))(h:P pv):iW pv P:=by
 rcases g with rfl|rfl<;>exact h
theorem eU.q(g:bF T){E bs:List Nat}(u:eU T E bs)(y:cg E):cg bs:=by
 induction u with
 |nil=>exact .nil
 |cons a r b=>
  exact bY (fh.mp y) λc d=>fh.mpr ⟨λq=>aA (r.j _ q) λt e f=>c<|ay (a.h g f) e,b d⟩
def eU.w(g:bF T)(a:eU T E bs)(u:cg E)(y:∀b∈bs,b<18):O E<=18:=ay a.aT<|sQ 18 bs (a.q g u) y
def Tv(g:bF T):∀t∈[8,9,13,14,15],∀b,¬bB T t b:=λt ht b h=>
 (by decide+kernel:∀t∈[8,9,13,14,15],t<16/\∀b,b<30->nU[t]?≠I (gz b)) t ht|>.2 b h.1 ((g.F<|(Y H:∀t∈[8,9,13,14,15],t<16) t ht).symm.trans h.2)
def I7(g:bF T){u d D:List Nat}(a:eU T u d)(q:∀x,x∈D↔x∈u){t b m:Nat}(h:bB T t b)(ht:t∈D)(y:aQ (bW d) b=U->m=2^b):Is T t m:=
 ay (y<|(fF ..).trans<|bA<|(sV g a q h).mp ht) ⟨[t],[b],.B h,by simp[bW]⟩
def Tu(g:bF T){y d D S:List Nat}(a:eU T y d)(u:∀b∈d,b<18)(q:∀x,x∈D↔x∈y)(F:0∉D)(M:1∉D)(B:∀x,x∈S↔x∈D/\∃b,bB T x b/\xF T D b):
 ∃bs,eU T S bs/\(∀b∈bs,b<18)/\fp (bW d)=bW bs:=by
 have f:∀{x b},bB T x b->(x∈S↔b∈d/\lJ (bW d) b=U):=λ{x b} k=>
  (B x).trans ⟨λh=>⟨(sV g a q k).mp h.1,aA h.2 λc m s=>(JH g a q k.1).mp<|ay (k.q m) s⟩,λh=>⟨(sV g a q k).mpr h.1,b,k,(JH g a q k.1).mpr h.2⟩⟩
 refine bc (eU.LP λt ht=>aA ((B t).mp ht).2 λb u n=>⟨b,u⟩) λbs l=>?_;have j:∀b,b∈bs↔b∈d/\lJ (bW d) b=true:=λb=>
  ⟨λh=>aA (l.j b h) λt o p=>(f p).mp o,λh=>aA (a.j b h.1) λt n ht=>aA (l.h t<|(f ht).mpr h) λc r v=>ay (ht.q v) r⟩
 refine⟨bs,l,λb h=>u b ((j b).mp h).1,?_⟩;have no:∀{t b},bB T t b->t∉D->¬aQ (bW d) b=true:=λh z e=>z<|(sV g a q h).mpr<|Y<|(fF ..).symm.trans e;unfold fp;rw[Z<|no (g.h<|Y H) F,Z<|no (g.h<|Y H) M];apply km;intro i;rw[fF,fF];refine jp.mpr<|cG.trans<|Sq ?_ (j i).symm;rw[eB,fF,dT,eJ] at⊢;exact⟨λh=>h.2,λh=>⟨m3 (u i h.1)<|Y H,h⟩⟩
@[elab_as_elim]
def eU.wF{motive:List Nat->List Nat->Prop}{S}(a:eU T S bs)(g:motive [] [])(N:∀t b,bB T t b->motive [t] [b])(P:∀t u r bs,eU T (t::u::r) bs->motive (t::u::r) bs):motive S bs:=by
 cases a with
 |nil=>exact g
 |cons x r=>
  cases r with
  |nil=>exact N _ _ x
  |cons y r=>exact P _ _ _ _<|.cons x<|.cons y r
def ZO{es:List<|AV×AV}{c is K}(hi:mn (es.map (·.1))=I is)(g:K is):yd σ (.g c es) K:=by
 refine(?_:match mn (es.map (·.1)) with|some b=>K b|.none=>False);rw[hi];exact g
open Classical in
def Tt{d}(M:pv=.r (G ts)\/pv=.B (G ts))(h:cp σ tl T)(g:bF T)(R:uG T ts js d)(N:O ts<=aR)(B:O js<=aR)(X:∀b∈d,b<18)(y:∀t σ' T',Up tl σ T σ' T'->Is T' t (fp<|bW d)->K (.a t) σ'):W (n+3) 12 [.d tl.h,pv] σ K:=by
 have a:=R.w;have f:∀x,x∈js.foldl fZ []↔x∈js:=λx=>by rw[GA] at⊢;simp
 have A:cg<|js.foldl fZ []:=a0z Aq;have C:=λt ht hm=>aA (a.h t<|(f t).mp hm) λb S=>Tv g t ht b;have j:=bc (eU.LP λt ht=>aA (a.h t<|(f t).mp ht) λb S z=>⟨b,z⟩) λa0 U=>
  U.w g A λb q=>aA (U.j b q) λt h1 z=>X b ((sV g a f z).mp h1)
 have L:=Gu<|js.foldl fZ [];refine bq [.d tl.h,pv,.q,.q,.q,.q,.q,.q] H (λk V=>SU M<|X1 M ⟨by rw[ba];exact N,a0m g (λes=>h.fresh<|V 17) [] .q .q R (by simpa using B) λx3 x4=>p7 H fc ?_⟩);rw[Tp<|V 17];repeat(first|lk|dsimp only[b0,b1,b2,b3,b4,b5,b6,b7,b8])
 refine TR L (C 13<|Y H) (λD=>pe (Y H)<|y 0 σ T (.B h g)<|I7 g a f (g.h<|Y H) D λe=>ak e)
  (λD P=>pe (Y H)<|y 1 σ T (.B h g)<|I7 g a f (g.h<|Y H) P λe=>(Z λe=>D<|(sV g a f<|g.h<|Y H).mpr<|Y<|(fF ..).symm.trans e).trans<|ak e) λD P=>qR (Y H) (ZY (λt ht=>C t<|by revert t;decide) L ⟨aE,H,?_⟩)
 have hi:mn ((kH<|js.foldl fZ []).map (·.1))=I ((js.foldl fZ []).map λ(i:Nat)=>(i:Int)):=by
  rw[show(kH<|js.foldl fZ []).map (·.1)=G (js.foldl fZ []) from kM];exact i_ _
 refine ZO hi ?_;refine⟨by rw[ba];exact xf j H,?_⟩;rw[UZ,kM];refine⟨by rw[ba,JO];unfold aR;exact bG j H,tj aE (λi hi Kt ht=>aA (a.h i<|(f i).mp<|D5.mp hi) λb S p=>UN h g p L λr hr=>ay (gu.mpr<|hr.trans<|Sq ⟨λs=>⟨b,p,s⟩,λq=>aA q λc hc s=>p.q hc▸s⟩ dT.symm) ht) (λi hi Ke ht=>ht) ?_⟩;have l:O ((vf<|js.foldl fZ []).filter λi=>decide (∃b,bB T i b/\xF T (js.foldl fZ []) b))<=18:=aV (k9 ..)<|aV (gG JO) j;have m:=(U0 A).filter λi=>decide (∃b,bB T i b/\xF T (js.foldl fZ []) b);refine eW (Tu g a X f D P λx=>cG.trans<|and_congr D5 dT) λbs Q v hn=>?_;rw[hn] at y;revert l m v y;refine Q.wF (λE E y E=>⟨jQ _,⟨aE,y 2 σ T (.B h g) ⟨[],[],.nil,H⟩⟩⟩) (λt b ha=>λE E y E=>⟨bU H,⟨aE,bU H,gO H<|qA (bU H) H<|y t σ T (.B h g) ⟨[t],[b],.B ha,H⟩⟩⟩) λt u r bs Q=>?_;intro l m y v;have F:O (G<|t::u::r)<=18:=by rw[ba];exact l
 have o:O (G<|t::u::r)<=aR:=bG F H;have z:=jE 2<|O r;refine⟨o,⟨aE,o,eh ?_ ⟨o,o9 (lu F H)<|fY h.h H ⟨o,Xr h g m Q z v λt' σ' T' up M=>y t' σ' T' up ⟨_,bs,M,H⟩⟩⟩⟩⟩;rw[ba];exact gm<|rb z
def iS.h(g:iS T t E bs):E.Pairwise (·<·):=by
 cases g with
 |nil=>exact .nil
 |B _=>exact Ia ..
 |a _ g _ _ _=>exact g
def eU.a32(g:eU T E bs)(h':eU T E bs'):bs=bs':=by
 induction g generalizing bs' with
 |nil=>cases h';rfl
 |cons a r b=>cases h' with|cons c d=>rw[a.q c,b d]
def bF.Ma(g:bF T):T.e[2]?≠I (nK E):=λh=>by
 rw[g.F<|Y H] at h;cases (fg h:.B [.a 1,.f AY]=nK E)
def Tx{l m}(g:nK l=nK m):l=m:=((List.map_inj_right λb b=>xi).mp<|by injection g with g;injection g with _ g;injection g with g;injection g)
inductive su(T:bP)(t:Nat):List Nat->Prop
 |nil:t=2->su T t []
 |B {b:Nat}:bB T t b->su T t [t]
 |a {E:List Nat}:T.e[t]?=some (nK E)->2<=E.length->su T t E
def iS.row(g:iS T t E bs):su T t E:=by
 cases g with
 |nil=>exact .nil H
 |B a=>exact .B a
 |a g _ _ k _=>exact .a g k
def su.same(g:bF T){t:Nat}{E ids':List Nat}(p:su T t E)(q:su T t ids'):E=ids':=by
 cases p with
 |nil e=>
  cases q with
  |nil _=>rfl
  |B a=>exact aP e<|a.A0 g
  |a h _=>exact aP (e▸h) g.Ma
 |B a=>
  cases q with
  |nil e=>exact aP e<|a.A0 g
  |B _=>rfl
  |a h _=>exact aP (fg<|a.2.symm.trans h)<|Qb a.1 _
 |a h _=>
  cases q with
  |nil e=>exact aP (e▸h) g.Ma
  |B a=>exact aP (fg<|a.2.symm.trans h)<|Qb a.1 _
  |a h' _=>exact Tx<|fg<|h.symm.trans h'
theorem su.inj(g:bF T){t u:Nat}{E:List Nat}(p:su T t E)(q:su T u E):t=u:=by
 cases p with
 |nil e=>
  cases q with
  |nil b=>exact e.trans b.symm
  |a _ h=>exact aP h<|Y H
 |B a=>
  generalize e:[t]=E at q;cases q with
  |nil _=>exact Iy e
  |B _=>exact List.head_eq_of_cons_eq e
  |a _ h=>exact aP (e▸h:2<=[t].length)<|RT<|ce 2
 |a h k=>
  cases q with
  |nil _=>exact aP k<|Y H
  |B _=>exact aP k<|RT<|ce 2
  |a h' _=>exact g.inj h h'
theorem iS.same(g:bF T){t:Nat}{E bs ids' u:List Nat}(p:iS T t E bs)(q:iS T t ids' u):E=ids':=p.row.same g q.row
theorem iS.inj(g:bF T){t u:Nat}{E bs y:List Nat}(p:iS T t E bs)(q:iS T u E y):t=u:=p.row.inj g q.row
def Is.q(g:bF T){t m m':Nat}:Is T t m->Is T t m'->m=m':=λ⟨_,_,p,e⟩⟨_,_,p',b⟩=>by
 have:=p.same g p';subst this;rw[<-e,<-b,p.w.a32 p'.w]
theorem Is.inj(g:bF T){t u m:Nat}:Is T t m->Is T u m->t=u:=λ⟨_,_,p,e⟩⟨_,_,p',b⟩=>by
 have:=p.w.Oi g p'.w p.h p'.h<|e.trans b.symm;subst this;exact p.inj g p'
theorem Is.B(h:bB T t b):Is T t<|2^b:=⟨[t],[b],.B h,by simp[bW]⟩
def YM(h:b∈bs):aQ (bW bs) b=true:=by rw[fF];exact bA h
def tx(h:bW bs<2^k):∀b∈bs,b<k:=λb c=>m4 λq=>by
 have:=jR<|eR h<|pw q;rw[YM c] at this;exact mI this
abbrev IsL(T:bP):List Nat->List Nat->Prop:=F2<|Is T
noncomputable def cw(ms:List Nat):Nat:=ms.foldr (λa b=>a|||b) 0
def Mk:∀a b,bW (a++b)=bW a|||bW b:=by
 intro a;induction a with
 |nil=>
  exactλb=>(qh _).symm
 |cons x a c=>
  intro b;show 2^x|||bW (a++b)=(2^x|||bW a)|||bW b;rw[c b,xP]
theorem IsL.F(le:T.Le T'){ts ms:List Nat}(g:IsL T ts ms):IsL T' ts ms:=F2.fX (λb b x=>x.F le) g
inductive QN(T:bP)(ts ms:List Nat):Prop
 |mk {js d:List Nat}:uG T ts js d->js.length<=18*ts.length->(∀b∈d,b<18)->bW d=cw ms->QN T ts ms
def IsL.EB(g:bF T){ts ms:List Nat}(u:IsL T ts ms)(y:∀m∈ms,m<2^18):QN T ts ms:=by
 induction u with
 |nil=>exact⟨.nil,ce _,nofun,H⟩
 |cons x r d=>
  refine gk x λE bs p e=>?_;obtain⟨f,i,j,k⟩:=d λm u=>y m<|bK _ u;have c:=tx<|ay e<|y _ aZ;refine⟨.cons p f,?_,λb hq=>(fQ.mp hq).elim (c b)<|j b,?_⟩;.rw[eK];exact(aV (jT (p.w.w g (p.h.imp hZ) c) i)<|gG<|qk ..)
  .rw[Mk,k,e];rfl
def pM{ms}(u:pv=.r (G ts)\/pv=.B (G ts))(h:cp σ tl T)(g:bF T)(y:IsL T ts ms)(B:∀m∈ms,m<2^18)(q:O ts<=1000)(F:∀t σ' T',Up tl σ T σ' T'->Is T' t (fp<|cw ms)->K (.a t) σ'):W (n+3) 12 [.d tl.h,pv] σ K:=by
 obtain⟨b,c,d,e⟩:=IsL.EB g y B;exact Tt u h g b (bG q H) (aV c<|bG (rc 18 q) H) d<|ay e F
theorem PM(A_)(ht:∀x σ q,q (.e U) σ->x! (ci L i x) σ q)(y:∀t b σ T B,cp σ tl T->bF T->bB T t b->(∀u σ' T',Up tl σ T σ' T'->Is T' u (A_ b)->B (.a u) σ')->z_ (ci L i<|.a t) σ B):
 ∀{E bs σ T K},cp σ tl T->bF T->eU T E bs->(∀ts σ' T',Up tl σ T σ' T'->IsL T' ts (bs.map A_)->K (G ts) σ')->iJ x! z_ (.B i) dc L (G E) σ K
 |_,_,σ,T,K,h,g,.nil,f=>f [] σ T (.B h g) .nil
 |_,_,σ,T,K,h,g,.cons a r,f=>ht _ σ _ ⟨aE,y _ _ σ T _ h g a λu σ' T' up k=>⟨aE,PM A_ ht y up.h up.y (eU.F up.c r) λts d e c j=>f (u::ts) d e (up.q c)<|.cons (k.F c.c) j⟩⟩
noncomputable def oZ(b:Nat):Bool:=gq b 8||eA 18 b
noncomputable def ph(b:Nat):Bool:=eA 4 b&&gq b 8
def lL(b:Nat):Nat:=if ph b then b-4 else b
def sI(b:Nat):Nat:=if bk b=3 then 8 else if bk b=4 then 9 else b
def tP(b:Nat):Nat:=if ph b then sI b else b
def vO:∀b,b<30->gz b=(if oZ b then .B [.a<|bk b,bx b,.a<|bf b] else .B [.a<|bk b,bx b])/\(oZ b=U↔bk b=3\/bk b=4)/\(oZ b=am↔bk b=1\/bk b=10)/\(bf b=if ph b then 1 else 0)/\(ph b=U->oZ b=U):=by decide+kernel
def bB.lit(a:bB T t b)(g:oZ b=U):T.e[t]?=I (.B [.a<|bk b,bx b,.a<|bf b]):=by
 rw[a.2,(vO b a.1).1,ak g]
def bB.key(a:bB T t b)(g:oZ b=am):T.e[t]?=I (.B [.a<|bk b,bx b]):=by
 rw[a.2,(vO b a.1).1,g,Z eS]
def bB.hd(a:bB T t b):∃r,T.e[t]?=I (.B<|.a (bk b)::r)/\O (.a (bk b)::r:List AV)<=aR:=eW (tz a.1) λr c d e=>⟨r,a.2.trans (by rw[c]),d⟩
def B6{is:List Int}{K}(g:K<|.e<|decide<|a∈is):eZ σ .a (.a a) (.B<|is.map .a) K:=by
 refine⟨λv c=>?_,?_⟩;.refine aA (bp.mp c) λi d b=>?_;subst b;rfl
 .obtain this:decide (AV.a a∈is.map AV.a)=decide (a∈is):=by
   rw[gu,dT,dT] at⊢;exact⟨λh=>by refine aA (bp.mp h) λi hi e=>?_;cases e;exact hi,dU⟩
  rw[this];exact g
def FV(h:cp σ tl T)(g:bF T)(a:bB T t b)(u:K (.e<|oZ b) σ):W (n+1) 13 [.d tl.h,.a t] σ K:=by
 apply bq [.d tl.h,.a t] H;dsimp only[PC];repeat(first|lk|dsimp only[b0,b1,b2,b3,b4,b5,b6,b7,b8])
 refine aA a.hd λr c d=>aU h.h H<|eL h.e g.aR c<|dh d H<|B6 (is:=[2,3,4,5]) ?_;rcases q:oZ b with _|_;.rw[q] at u;rcases(vO b a.1).2.2.1.mp q with e|e<;>rw[e]<;>exact u
 .rw[q] at u;rcases(vO b a.1).2.1.mp q with e|e<;>rw[e]<;>exact u
def FW{k}(h:cp σ tl T)(g:bF T)(a:T.e[t]?=I (.B [.a k,x]))(q:k∉[2,3,4,5,8])(u:K (.e am) σ):W (n+1) 14 [.d tl.h,.a t] σ K:=by
 apply bq [.d tl.h,.a t,.q] H;dsimp only[GR];repeat(first|lk|dsimp only[b0,b1,b2,b3,b4,b5,b6,b7,b8])
 exact aU h.h H<|eL h.e g.aR a<|dh (lb H) H<|F8 q u
def NZ(h:cp σ tl T)(g:bF T)(a:bB T t b)(u:K (.e<|ph b) σ):W (n+1) 14 [.d tl.h,.a t] σ K:=by
 refine o7 (vO b a.1) λj c d f i=>?_;rcases q:oZ b with _|_
 .have:ph b=false:=by cases z:ph b with|false=>rfl|true=>rw[i z] at q;exact mI q
  rw[this] at u;exact FW h g (a.key q) (by rcases d.mp q with e|e<;>rw[e]<;>decide) u
 .apply bq [.d tl.h,.a t,.q] H;dsimp only[GR];repeat(first|lk|dsimp only[b0,b1,b2,b3,b4,b5,b6,b7,b8])
  refine aU h.h H (eL h.e g.aR (a.lit q)<|dh (lb H) H<|Oe (is:=[2,3,4,5,8]) (by rcases c.mp q with e|e<;>rw[e]<;>decide)<|JD (lb rfl) rfl<|uu ?_);rw[f];rcases z:ph b with _|_;.rw[z] at u;exact u
  .rw[z] at u;exact u
def Ep(h:cp σ tl T)(g:bF T)(a:bB T t b)(y:∀u σ' T',Up tl σ T σ' T'->bB T' u (lL b)->K (.a u) σ'):W (n+2) 15 [.d tl.h,.a t] σ K:=by
 apply bq [.d tl.h,.a t] H;dsimp only[GQ];repeat(first|lk|dsimp only[b0,b1,b2,b3,b4,b5,b6,b7,b8])
 apply NZ h g a;unfold lL at y;refine o7 (vO b a.1) λd d d f e=>?_;rcases q:ph b with _|_;.exact bd<|(q▸y) t σ T (.B h g) a
 .obtain y:=q▸y;obtain c:b<8/\4<=b:=by
   unfold ph at q;rw[eB] at q;exact⟨bU q.2,bU q.1⟩
  exact bw<|fY h.h H<|aU h.h H<|eL h.e g.aR (a.lit<|e q) ⟨H,lb H,lb H,nofun,nofun,lb H,aO ((KQ b c.1 c.2))<|A5 h g (gQ (pE ..)<|oY c.1 H) y⟩
noncomputable def mz(m:Nat):List Nat:=(cO 18).filter m.testBit
def oX(A_:Nat->Nat)(m:Nat):Nat:=fp<|bW<|(mz m).map A_
set_option tactic.hygienic true
def ty(h:m<2^18):b∈mz m↔aQ m b=true:=by
 unfold mz;rw[cG,eJ] at⊢;exact⟨λh=>h.2,λq=>⟨m4 λz=>aP (q.symm.trans<|jR<|eR h<|pw z)<|Y H,q⟩⟩
def Ga(h:m<2^18)(g:bW bs=m):bW (bs.map A_)=bW ((mz m).map A_):=by
 apply km;intro i;rw[fF,fF,gu,dT,dT,bp,bp] at⊢;obtain this:∀b,b∈bs↔b∈mz m:=λb=>by
  rw[ty h,<-g,fF,dT]
 exact⟨λc=>aA c λb d f=>⟨b,(this b).mp d,f⟩,λc=>aA c λb d f=>⟨b,(this b).mpr d,f⟩⟩
def X5:∀bs:List Nat,cw (bs.map λb=>2^A_ b)=bW (bs.map A_):=by
 intro c;induction c with
 |nil=>
  exact H
 |cons b r d=>
  show 2^A_ b|||cw (r.map _)=_;rw[d];rfl
def Bm:∀b,b<18->fp (2^b)=2^b:=by decide+kernel
def pT(h:b<18):2^b<2^18:=tI (Y H) h
def wA:∀b,b<18->sI b<18/\tP b<18/\lL b<18:=by decide+kernel
def YR(h:A_ b<18)(g:2^b<2^18):oX A_ (2^b)=2^A_ b:=by
 unfold oX;rw[<-Ga (bs:=[b]) g (by simp[bW])];exact(be fp<|by simp[bW]).trans<|Bm _ h
def qF(h:cp σ tl T)(g:bF T)(hi:Is T t m)(q:m<2^18)(u:∀E bs,iS T t E bs->bW bs=m->(∀b∈bs,b<18)->O E<=18->K (.B<|G E) σ):W (n+1) 6 [.d tl.h,.a t] σ K:=gk hi λE bs p e=>EA h g p<|u E bs p e (tx<|e▸q)<|p.w.w g (p.h.imp hZ)<|tx<|e▸q
def EU(A_)(h:cp σ tl T)(g:bF T)(hi:Is T t m)(y:m<2^18)(q:∀b,b<18->A_ b<18)(B:∀t b σ T K,cp σ tl T->bF T->bB T t b->(∀u σ' T',Up tl σ T σ' T'->Is T' u (2^A_ b)->K (.a u) σ')->W (n+3) f [.d tl.h,.a t] σ K)(M:∀(u:Nat) σ' T',Up tl σ T σ' T'->Is T' u (oX A_ m)->K (.a u) σ'):
 a6 (W<|n+3) (.j 12 [V0,.z (.B 2) (.j 6 [V0,V1]) C<|.j f [V0,V2]]) [.d tl.h,.a t,x] σ K:=by
 lk;refine qF h g hi y λE bs p e s o=>⟨lm o H,PM (λb=>2^A_ b) (λr r r h=>h) B h g p.w λts σ' T' up i=>pM (.inl H) up.h up.y i (λk v=>?_) ?_ λu c j d z=>M u c j (up.q d) ?_⟩;.refine aA (bp.mp v) λb hq l=>?_;subst l;exact pT<|q b<|s b hq
 .rw[i.aT,ba,<-p.w.aT];exact bG o H
 .unfold oX;rw[<-Ga y e,<-X5];exact z
def yL(g:bF T):T.e[2]?=I (.B [.a 1,.f AY]):=g.F<|Y H
def BU(h:cp σ tl T)(g:bF T)(q:K (.a 1) σ):W (n+1) 2 [.d tl.h,.a (2:Nat)] σ K:=BS h g.aR (yL g) (lb H) q
def BV(h:cp σ tl T)(g:bF T)(a:bB T t b)(q:K (.a<|bk b) σ):W (n+1) 2 [.d tl.h,.a t] σ K:=aA a.hd λr c d=>BS h g.aR c d q
def P6(g:b<30):bk b≠6:=by
 refine eW (tz g) λc c c h=>?_;rcases h with e|e|e|e<;>rw[e]<;>decide
def K9(h:cp σ tl T)(g:bF T)(hi:Is T t m)(y:m<2^18)(q:∀u σ' T',Up tl σ T σ' T'->Is T' u (oX lL m)->K (.a u) σ'):W (n+4) 16 [.d tl.h,.a t] σ K:=by
 apply bq [.d tl.h,.a t,.q] H;rw[b3];have dw:=λ(hi:Is T t m)=>EU (n:=n) (x:=.q) (K:=λv σ=>K v σ) lL h g hi y (λb c=>(wA b c).2.2) (λt b σ T K h g a q=>Ep h g a λu σ' T' up d=>q u σ' T' up<|.B d) q;repeat(first|lk|dsimp only[b0,b1,b2,b3,b4,b5,b6,b7,b8])
 refine gk hi λE bs p e=>?_;clear hi;cases p with
 |nil=>
  refine BU h g<|eh (Y H)<|bq [.d tl.h,.a (2:Nat)] H ?_;dsimp only[GQ];repeat(first|lk|dsimp only[b0,b1,b2,b3,b4,b5,b6,b7,b8])
  exact FW h g (yL g) (Y H)<|bd<|q 2 σ T (.B h g) ⟨[],[],.nil,by subst e;rfl⟩
 |B a=>
  refine BV h g a<|eh (P6 a.1)<|Ep h g a λu σ' T' up d=>q u σ' T' up ?_;rename_i b;obtain c:bW [b]=2^b:=by simp[bW]
  rw[c] at e;clear q c a up;subst e;have:=(Nat.pow_lt_pow_iff_right<|Y H).mp y;rw[YR ((wA b this).2.2) y];exact .B d
 |a f i j h4 k=>
  exact BS h g.aR f (lb H)<|gO H<|dw ⟨E,bs,.a f i j h4 k,e⟩
def aw{K}(h:K .none L σ):ch A! [] L σ K:=h
def cq{K i g}(h:a6 A! g L σ λv q=>ch A! r (ci L i v) q K):ch A! (.g i g::r) L σ K:=h
def f7{K g}(h:a6 A! g L σ λv q=>K (I v) L q):ch A! (.c g::r) L σ K:=h
def kA{K t a b}(h:a6 A! t L σ λx g=>c7 g x λc=>if c=U then ch A! a L g (mB A! r K) else ch A! b L g<|mB A! r K):ch A! (.d t a b::r) L σ K:=h
def bV{K t a b}(h:a6 A! t L σ<|q_ A! a b r L K):ch A! (.d t a b::r) L σ K:=h
def pR{K t b}(h:a6 A! t L σ λx g=>c7 g x λc=>if c=U then a6 A! b L g (λv q=>K (I v) L q) else ch A! r L g K):ch A! (.d t [.c b] []::r) L σ K:=h
def vh{K t b}(h:a6 A! t L σ<|p! A! b r L K):ch A! (.d t [.c b] []::r) L σ K:=h
def mg{K g}(h:a6 A! g L σ λv q=>(match v with|.B _=>False|.r _=>False|.g _ _=>False|.d _=>False|_=>True)/\ch A! r L q K):ch A! (.l g::r) L σ K:=h
def ry{K o f g}(h:a6 A! g L σ λv q=>a6 A! o L q λx u=>oQ u x f v λy=>ch A! r L y K):ch A! (.j o f g::r) L σ K:=h
def vi{K o f F g}(h:a6 A! o L σ λx u=>oe u x f λio=>FY io=U/\a6 A! g L u λv y=>jr y F io v λq=>oQ y x f q λB=>ch A! r L B K):ch A! (.p o f F g::r) L σ K:=h
def iY{K o k g}(h:a6 A! g L σ λv q=>a6 A! o L q λx u=>a6 A! k L u λy B=>l8 B x y v λF=>ch A! r L F K):ch A! (.m o k g::r) L σ K:=h
def lf{K tg it V}(h:a6 A! it L σ λx g=>ma g x λxs ok=>O xs<=aR/\cu (ch A! V) tg ok xs L g (mB A! r K)):ch A! (.h tg it V::r) L σ K:=h
def tW{K is g}(h:a6 A! g L σ λv q=>p9 L (.a is) v λu=>ch A! r u q K):ch A! (.n is g::r) L σ K:=h
def bX{K i g}(h:a6 A! g L σ<|gK A! i r L K):ch A! (.g i g::r) L σ K:=h
def ia{K g}(h:a6 A! g L σ<|xK A! r L K):ch A! (.l g::r) L σ K:=h
def gg{K tg it V}(h:a6 A! it L σ<|fK A! tg V r L K):ch A! (.h tg it V::r) L σ K:=h
def db{g}(h:a6 A! g L σ K):ch A! (.c g::r) L σ<|rK K:=h
def dP{t b}(h:a6 A! t L σ<|p_ A! b r L K):ch A! (.d t [.c b] []::r) L σ<|rK K:=h
def vw{K tg ok}(h:K .none L σ):cu V tg ok [] L σ K:=h
def BG{K i ok x xs}(h:V (ci L i x) σ λr q g=>match r with
 |.none=>ok g/\cu V (.B i) ok xs q g K
 |some v=>K (I v) q g):cu V (.B i) ok (x::xs) L σ K:=h
def fj{K i ok x xs}(h:V (ci L i x) σ<|Y4 V i ok xs K):cu V (.B i) ok (x::xs) L σ K:=h
set_option tactic.hygienic false
def a7C{p}[Decidable p]{A:Prop}(h:p)(g:A):if p then A else B:=by rw[ak h];exact g
def a7D{p}[Decidable p]{A:Prop}(h:¬p)(g:B):if p then A else B:=by rw[Z h];exact g
def TQ{c A}(g:c=U->A)(q:c=am->B):c7 σ (.e c) λc=>if c=U then A else B:=⟨aE,by cases c with|true=>exact g rfl|false=>exact q H⟩
def IN(h:cp σ tl T)(g:bF T)(a:bB T t b)(q:∀u,bB T u (sI b)->K (.a u) σ):W (n+2) 17 [.d tl.h,.a t] σ K:=by
 apply bq [.d tl.h,.a t,.q,.q] H;dsimp only[Pu];repeat(first|lk|dsimp only[b0,b1,b2,b3,b4,b5,b6,b7,b8])
 refine aA a.hd λr f d=>eW (tz a.1) λe e e c=>aU h.h H (eL h.e g.aR f<|dh d H<|eh (by rcases c with eq|eq|eq|eq<;>rw[eq]<;>decide)<|dh d rfl<|eh (by rcases c with eq|eq|eq|eq<;>rw[eq]<;>decide)<|AO d c ?_);unfold sI at q;rcases c with eq|eq|eq|eq<;>rw[eq] at q⊢
 .exact pe (Y H)<|q 6<|g.h (b:=8)<|Y H
 .exact pe (Y H)<|q 7<|g.h (b:=9)<|Y H
 .exact qR (Y H)<|q t a
 .exact qR (Y H)<|q t a
def Ta(h:cp σ tl T)(g:bF T)(a:bB T t b)(y:∀u,bB T u (tP b)->K (.a u) σ):W (n+3) 22 [.d tl.h,.a t] σ K:=by
 apply bq [.d tl.h,.a t] H;dsimp only[Pr];repeat(first|lk|dsimp only[b0,b1,b2,b3,b4,b5,b6,b7,b8])
 refine FV h g a<|o7 (vO b a.1) λc c c c d=>?_;unfold tP at y;rcases q:oZ b with _|_;.rw[(show ph b=am from by cases z:ph b with|false=>rfl|true=>rw[d z] at q;exact mI q)] at y;exact bd<|bd<|y t a
 .refine bw<|NZ h g a ?_;rcases z:ph b with _|_;.rw[z] at y;exact bd (y t a)
  .rw[z] at y;exact bw<|IN h g a y
def IL(h:cp σ tl T)(g:bF T)(hi:Is T t m)(y:m<2^18)(q:∀u σ' T',Up tl σ T σ' T'->Is T' u (oX tP m)->K (.a u) σ'):W (n+4) 23 [.d tl.h,.a t] σ K:=bq [.d tl.h,.a t,.q] H<|EU tP h g hi y (λb c=>(wA b c).2.1) (λt b σ T K h g a q=>Ta h g a λu d=>q u σ T (.B h g)<|.B d) q
def a4d(h:cp σ tl T)(g:bF T)(hi:Is T t m)(y:m<2^18)(q:∀u σ' T',Up tl σ T σ' T'->Is T' u (oX sI m)->K (.a u) σ'):W (n+4) 18 [.d tl.h,.a t] σ K:=bq [.d tl.h,.a t,.q] H<|EU sI h g hi y (λb c=>(wA b c).1) (λt b σ T K h g a q=>IN h g a λu d=>q u σ T (.B h g)<|.B d) q
def rY(m b:Nat):Bool:=aQ m b||(decide (bk b=3)&&aQ m 8||decide (bk b=4)&&aQ m 9)
def Co(s t:Nat):Bool:=decide (t=2^13)||(decide (t=2^12)||(mz<|oX lL s).all (rY<|oX lL t))
def OZ(g:bF T){t m u b:Nat}(hi:Is T t m)(h:(u,b)∈[(0,13),(1,12),(4,11),(5,10),(6,8),(7,9)]):t=u↔m=2^b:=
 ⟨λe=>(e▸hi).q g<|.B<|g.h h,λe=>(e▸hi).inj g<|.B<|g.h h⟩
def LZ(g:bF T){t u:Nat}{k:Int}{x:AV}(y:u<16)(F:nU[u]?=I (.B [.a k,x]))(M:k≠6)(N:u≠2)(B:∀b,b<30->nU[u]?≠I (gz b)){E bs:List Nat}(p:iS T t E bs):t≠u/\u∉E:=by
 obtain c:∀b,¬bB T u b:=λb a=>B b a.1<|(g.F y).symm.trans a.2;have mem:=λq=>aA (p.w.h u q) λb d=>c b;refine⟨λe=>?_,mem⟩;clear B mem;subst e;cases p with
 |nil=>exact N H
 |B a=>exact c _ a
 |a h _ _ _ _=>
  obtain h:=(g.F y)▸h;obtain h:=F▸h;have:=fg h;injection this with this;injection this with this _;injection this with this
  exact M this
def Yo(g:14<=k)(h:m<2^k):fp m<2^k:=by
 unfold fp;split;.exact tI (Y H) g
 .split;.exact tI (Y H) (vv g)
  .exact rI λb c=>m4 λq=>by
    have:=(eB _ _▸(cG.mp c).2:_/\_).1;rw[jR<|eR h<|pw q] at this;exact dj this
def a47(h:m<2^18)(g:bW bs=m):bs.all p=(mz m).all p:=by
 obtain this:∀b,b∈bs↔b∈mz m:=λb=>by
  rw[ty h,<-g,fF,dT]
 rw[gu,gf,gf] at⊢;exact⟨λq b c=>q b<|(this b).mpr c,λq b c=>q b<|(this b).mp c⟩
def uj{K}(g:K<|.e<|decide<|t∈E):eZ σ .a (.a t) (.B<|G E) K:=by
 apply (kM▸B6);obtain e:decide ((t:Int)∈E.map λ(i:Nat)=>(i:Int))=decide (t∈E):=by
  rw[gu,dT,dT] at⊢;exact⟨λh=>aA (bp.mp h) λi hi e=>aO (gI e:i=t) hi,dU⟩
 rw[e];exact g
def Tn{k r}(g:O (.a k::r:List AV)<=aR)(q:k≠5)(u:K (.e am) σ):W (n+1) 20 [.d tl.h,.B<|.a k::r,x] σ K:=by
 apply bq [.d tl.h,.B<|.a k::r,x,.q] H;dsimp only[Pw];repeat(first|lk|dsimp only[b0,b1,b2,b3,b4,b5,b6,b7,b8])
 refine dh g H ⟨H,⟨aE,?_⟩⟩;rw[bR λe=>q<|by injection e];exact u
def GC(u:3∉e)(ht:g=U->Kt C [y,B,F,.B<|G e,.a i,M,.e g] σ)(q:g=am->∀L,Kt (I<|.e am) L σ):
 wB (n+1) [.d (.u (.K V6)<|.K<|.u (.h .eq V4<|gi 4)<|.h .a (gi 3) V3) [.c kF] []] [y,B,F,.B<|G e,.a i,M,.e g] σ Kt:=by
 apply bV;lk;rcases g with _|_
 .refine⟨aE,bw ?_⟩;by_cases b:(i:Int)=4;.refine kC b<|uj ?_;rw[bR u];exact⟨aE,bw<|f7<|q H _⟩
  .exact fU b ⟨aE,bw<|f7<|q H _⟩
 .exact⟨aE,bd<|bd<|ht H⟩
def o_{K}(q:b<30)(g:K<|.e<|decide (bk b=3)&&decide (6∈e)||decide (bk b=4)&&decide (7∈e)):eZ σ .a (.a<|wz<|bk b) (.B<|G e) K:=by
 refine eW (tz q) λd d d f=>?_;obtain no:=λg=>by
  have:=B6 (σ:=σ) (is:=e.map λ(i:Nat)=>i) (a:=-1) (K:=K);obtain this:=kM▸this;obtain this:=(bR<|(λh=>by
  exact aA (bp.mp h) λi d c=>B5 H c:¬(-1:Int)∈e.map λ(i:Nat)=>(i:Int)))▸this
  exact this g
 rcases f with eq|eq|eq|eq<;>rw[eq] at g⊢
 .exact uj (by cases z:decide (6∈e)<;>obtain g:=z▸g<;>exact g)
 .exact uj (by cases z:decide (7∈e)<;>obtain g:=z▸g<;>exact g)
 .exact no g
 .exact no g
def a0F{s t d}(h:cp σ tl T)(g:bF T)(p:eU T e d)(y:3∉e):∀{E bs x4 u x6 K},eU T E bs->
 (∀L,K (if bs.all (rY<|bW d) then C else I<|.e am) L σ)->
 cu (wB (n+1) M7) (.B 4) dc (G E) [.d tl.h,s,t,.B<|G e,x4,u,x6] σ K:=by
 intro E bs x4 u x6 K P;induction P generalizing x4 u x6 K with
 |nil=>exactλf=>f _
 |@cons i b E bs a r v=>
  refineλf=>fj (cq<|eW (tz a.1) λq x l m=>aU h.h H<|eL h.e g.aR (x▸a.2)<|bX ?_)
  lk;apply uj;obtain mb:∀{t b},bB T t b->aQ (bW d) b=decide (t∈e):=λa=>by
   rw[fF,gu,dT,dT] at⊢;exact(sV g p (λk=>Iq) a).symm
  have j:rY (bW d) b=(decide (i∈e)||(decide (bk b=3)&&decide (6∈e)||decide (bk b=4)&&decide (7∈e))):=by
   unfold rY;rw[mb a,mb<|g.h (t:=6)<|Y H,mb<|g.h (t:=7)<|Y H]
  obtain f:=Aw▸f;have next:∀{u x6},rY (bW d) b=U->cu _ (.B 4) dc (G E) [.d tl.h,s,t,.B<|G e,.a i,u,x6] σ K:=λc=>v λL=>by obtain f:=c▸f;exact f L
  rcases z:decide (i∈e) with _|_
  .obtain j:=(z ..)▸j;obtain j:=(we ..)▸j;refine bd<|AO l m<|o_ a.1 ?_;rw[<-j];rcases o:rY (bW d) b with _|_;.exact bd (Tn l (by rcases m with eq|eq|eq|eq<;>rw[eq]<;>decide)<|GC y nofun λk L=>((λL c=>by obtain f:=c▸f;exact f L:∀L,rY (bW d) b=am->K (I<|.e am) L σ)) L o)
   .exact bw<|GC y (λk=>⟨aE,next o⟩) nofun
  .exact bw<|GC y (λk=>⟨aE,next<|by rw[j,z];rfl⟩) nofun
def IZ{mt}(h:cp σ tl T)(g:bF T)(N:Is T s ms)(ht:Is T t mt)(y:ms<2^18)(B:mt<2^18)(q:∀σ' T',Up tl σ T σ' T'->K (.e<|Co ms mt) σ'):W (n+5) 21 [.d tl.h,.a s,.a t] σ K:=by
 refine bq [.d tl.h,.a s,.a t,.q,.q,.q,.q] H<|dP ?_;lk;have D:=OZ g ht (u:=0) (b:=13)<|Y H;obtain F:=OZ g ht (u:=1) (b:=12)<|Y H;unfold Co at q;by_cases o:t=0;.exact kC (iq o)<|bw<|((bA<|D.mp o)▸q) σ T<|.B h g
 rw[bR λf=>o<|D.mpr f] at q;apply fU<|gm o;by_cases r:t=1;.rw[bA<|F.mp r] at q;exact kC (iq r)<|bw<|q σ T<|.B h g
 rw[bR λf=>r<|F.mpr f] at q;refine fU (gm r)<|uu ?_;rw[bR λf=>(gk ht λG G p G=>(LZ g (Y H) H (Y H) (Y H) (by decide+kernel) p).1)<|gI f];refine bd<|bX ?_;lk;obtain lt:∀{m},oX lL m<2^18:=(Yo (Y H) (rI λbz x=>by
  refine aA (bp.mp x) λc O A=>?_;subst A;exact(λb P=>(wA b P).2.2) c<|eJ.mp (cG.mp O).1))
 refine K9 h g ht B λu C I j Q=>qF j.h j.y Q lt λe d M R S U=>gg ?_;lk;refine K9 j.h j.y (N.F j.c) y λv k l i V=>qF i.h i.y V lt λE bs p f X Z=>⟨lm Z H,a0F i.h i.y (M.w.F i.c) ((LZ i.y (Y H) H (Y H) (Y H) (by decide+kernel)<|M.F i.c).2) p.w λL=>?_⟩;obtain q:=jg (a47 lt f)▸q;obtain q:=jg R▸q;obtain q:=q k l<|j.q i;rcases z:bs.all (rY<|bW d) with _|_;.rw[z] at q;exact q
 .rw[z] at q;exact db q
open PySem.Builtin (bitAnd bitOr bitNot)
def G3(b:Nat):¬(0:Int)<=-b-1:=λh=>aP (jW h<|a67 (a7a<|dI b) 1)<|Y H
def G4(b:Nat):cY (bitNot<|-b-1)=b:=by unfold bitNot;rw[L0];rfl
def a4f(a b:Nat):bitAnd a (-b-1)=((a-(a&&&b):Nat):Int):=by
 rw[PyProof.Rows.bitAnd_pn (dI a)<|G3 b,G4];exact(xY H4).symm
def a3U(a b:Nat):bitOr a b=((a|||b:Nat):Int):=by
 show bitNot (bitAnd (-a-1)<|-b-1)=_;rw[PyProof.Rows.bitAnd_nn (G3 a)<|G3 b,G4,G4];unfold bitNot;exact L0 _
def tc{K:AV->Prop}{a:Nat}(g:K<|.a<|-(a:Int)-1):IG (.a a) K:=g
def i8{K}{a:Nat}(b:Nat)(g:K<|.a (a&&&b:Nat)):jr σ .a (.a a) (.a b) K:=g
def s9{K}{a:Nat}(b:Nat)(g:K<|.a (a-(a&&&b):Nat)):jr σ .a (.a a) (.a<|-b-1) K:=by
 show K<|.a<|bitAnd a<|-b-1;rw[a4f];exact g
def gX{K}{a:Nat}(b:Nat)(g:K<|.a (a|||b:Nat)):jr σ .b (.a a) (.a b) K:=by
 show K<|.a<|bitOr a b;rw[a3U];exact g
def zj{K}{a:Nat}(b:Nat)(q:a<=2^61)(u:b<=64)(g:K<|.a (a<<<b:Nat)):jr σ .c (.a a) (.a b) K:=by
 refine⟨⟨dI _,lu q H⟩,dI _,iH.mpr u,?_⟩;obtain g:=(a6m ..)▸g;exact g
def zi{K}{a:Nat}(b:Nat)(g:K<|.a (a>>>b:Nat)):jr σ .d (.a a) (.a b) K:=by
 refine⟨dI _,?_⟩;obtain this:(a:Int).fdiv (2^cY (b:Int))=((a/2^b:Nat):Int):=by rw[Sk,Int.ofNat_fdiv,Int.natCast_pow];rfl
 rw[this];exact(aO (H2 ..) g)
def ku{A B:Prop}(g:m≠0->A)(q:m=0->B):c7 σ (.a (m:Nat)) λc=>if c=U then A else B:=by
 refine⟨aE,?_⟩;by_cases h:m=0;.subst h;exact q H
 .rw[bA<|gm h];exact g h
noncomputable def eV(m:Nat):Nat:=
 if m&&&12288≠0 then(if m&&&8192≠0 then 8192 else 4096) else
 let m:=if m&&&256≠0 then m-(m&&&51) else m
 let m:=if m&&&512≠0 then m-(m&&&204) else m
 m-(m&&&((m&&&15)<<<4))
def gM(m:Nat):Nat:=eV<|(m-(m&&&240))|||((m>>>4)&&&15)
def lc(m:Nat):Nat:=eV<|((m-(m&&&240))|||(if m&&&48≠0 then 256 else 0))|||(if m&&&192≠0 then 512 else 0)
def fi(m:Nat):Nat:=eV<|((m-(m&&&255))|||(if m&&&51≠0 then 256 else 0))|||(if m&&&204≠0 then 512 else 0)
noncomputable def wS(p:Nat):Nat:=(p|||(if p&&&256≠0 then 3 else 0))|||(if p&&&512≠0 then 12 else 0)
def bn(s t:Nat):Bool:=if t&&&12288≠0 then U else decide<|gM s-(gM s&&&wS (gM t))=0
def nS(m)(g:K (.a<|eV m) σ):W (n+1) 86 [.a m] σ K:=by
 apply bq [.a m] H;obtain b:∀m:Nat,K (.a (m-(m&&&((m&&&15)<<<4)):Nat)) σ->wB n [.c<|.q .a V0<|.s<|.q .c (.q .a V0<|ki 15) N4] [.a m] σ (rK K):=λm g=>by
  apply db;lk;exact i8 15<|zj 4 (aV Dh<|lb H) (lb H)<|tc<|s9 _ g
 apply pR;lk;unfold eV at g;refine i8 12288<|ku (λq=>i8 8192<|ku (λd=>?_) λd=>?_) λq=>bV ?_;.rw[ak q,ak d] at g;exact g
 .rw[ak q,Z<|not_not_intro d] at g;exact g
 rw[Z<|not_not_intro q] at g;lk;obtain c:∀m:Nat,K (.a ((if m&&&512≠0 then m-(m&&&204) else m)-((if m&&&512≠0 then m-(m&&&204) else m)&&&(((if m&&&512≠0 then m-(m&&&204) else m)&&&15)<<<4)):Nat)) σ->wB n [.d (.q .a V0<|ki 512) [.g 0<|.q .a V0<|.s<|ki 204] [],.c<|.q .a V0<|.s<|.q .c (.q .a V0<|ki 15) N4] [.a m] σ (rK K):=λm g=>by
  apply bV;lk;refine i8 512<|ku (λq=>cq ?_) λq=>?_;.lk;rw[ak q] at g;exact tc<|s9 204<|b _ g
  .rw[Z<|not_not_intro q] at g;exact b _ g
 refine i8 256<|ku (λq=>cq ?_) λq=>?_;.lk;rw[ak q] at g;exact tc<|s9 51<|c _ g
 .rw[Z<|not_not_intro q] at g;exact c _ g
def Fy(m)(g:K (.a<|gM m) σ):W (n+2) 87 [.a m] σ K:=by
 refine bq [.a m] H<|db ?_;lk;exact tc<|s9 240<|zi 4<|i8 15<|gX _<|nS _ g
def Nr(m)(g:K (.a<|lc m) σ):W (n+2) 88 [.a m] σ K:=by
 refine bq [.a m] H<|db ?_;lk;unfold lc at g;refine tc<|s9 240<|i8 48<|ku (λq=>?_) λq=>?_
 .rw[ak q] at g;refine gX 256<|i8 192<|ku (λq=>?_) λq=>?_;.rw[ak q] at g;exact gX 512 (nS _ g)
  .rw[Z<|not_not_intro q] at g;exact gX 0<|nS _ g
 .rw[Z<|not_not_intro q] at g;refine gX 0<|i8 192<|ku (λq=>?_) λq=>?_;.rw[ak q] at g;exact gX 512 (nS _ g)
  .rw[Z<|not_not_intro q] at g;exact gX 0<|nS _ g
def Fw(m)(g:K (.a<|fi m) σ):W (n+2) 89 [.a m] σ K:=by
 refine bq [.a m] H<|db ?_;lk;unfold fi at g;refine tc<|s9 255<|i8 51<|ku (λq=>?_) λq=>?_
 .rw[ak q] at g;refine gX 256<|i8 204<|ku (λq=>?_) λq=>?_;.rw[ak q] at g;exact gX 512 (nS _ g)
  .rw[Z<|not_not_intro q] at g;exact gX 0<|nS _ g
 .rw[Z<|not_not_intro q] at g;refine gX 0<|i8 204<|ku (λq=>?_) λq=>?_;.rw[ak q] at g;exact gX 512 (nS _ g)
  .rw[Z<|not_not_intro q] at g;exact gX 0<|nS _ g
def s0(s t)(g:K (.e<|bn s t) σ):W (n+3) 90 [.a s,.a t] σ K:=by
 refine bq [.a s,.a t,.q] H<|dP ?_;lk;unfold bn at g;refine i8 12288<|ku (λq=>?_) λq=>bX ?_;.rw[ak q] at g;exact g
 rw[Z<|not_not_intro q] at g;refine Fy t<|cq ?_;lk;obtain b:∀r:Nat,K (.e<|decide<|gM s-(gM s&&&r)=0) σ->wB (n+2) [.c<|.h .eq (.q .a (.j 87 [V0])<|.s V2) N0] [.a s,.a t,.a r] σ (rK K):=λr g=>by
  apply db;lk;refine Fy s<|tc<|s9 r<|uu ?_;rw[(show decide (((gM s-(gM s&&&r):Nat):Int)=0)=decide (gM s-(gM s&&&r)=0) from by
   exact jp.mpr Int.natCast_eq_zero)];exact g
 unfold wS at g;refine i8 256<|ku (λq=>?_) λq=>?_
 .rw[ak q] at g;refine gX 3<|i8 512<|ku (λq=>?_) λq=>?_;.rw[ak q] at g;exact gX 12 (b _ g)
  .rw[Z<|not_not_intro q] at g;exact gX 0<|b _ g
 .rw[Z<|not_not_intro q] at g;refine gX 0<|i8 512<|ku (λq=>?_) λq=>?_;.rw[ak q] at g;exact gX 12 (b _ g)
  .rw[Z<|not_not_intro q] at g;exact gX 0<|b _ g
noncomputable def uA:Nat->Nat->(Nat->Bool)->Bool
 |0,b,p=>p b
 |k+1,b,p=>uA k b p&&uA k (b+2^k) p
def Hi:∀{k b m},uA k b p=U->b<=m->m<b+2^k->p m=true:=by
 intro k;induction k with
 |zero=>
  intro b m h d c;exact(by obtain c:=(Nat.pow_zero ..)▸c;exact v6 (sz c) d)▸h
 |succ k e=>
  intro b m h d c;refine bY ((eB _ _▸h:uA k b p=U/\uA k (b+2^k) p=U)) λl r=>?_;by_cases q:m<b+2^k;.exact e l d q
  .exact e r (lE q)<|by rw[Nat.pow_succ] at c;exact oM ..▸aO (Nat.mul_two _) c
def va(m b:Nat):aQ m b=!fk (m&&&2^b) 0:=by
 have:m&&&2^b=0↔aQ m b=false:=by
  constructor;.intro h;simpa[ra,jD] using(be (·.testBit b) h)
  .intro h;apply km;intro i;rw[ra,jD,lX];by_cases e:b=i;.subst e;rw[h];rfl
   .rw[bR e,wg]
 rcases q:aQ m b with _|_;.rw[this.mpr q];rfl
 .rcases z:fk (m&&&2^b) 0 with _|_;.rfl
  .rw[this.mp<|uO z] at q;exact dj q
def BN(m a b:Nat):fk (m&&&(2^a|||2^b)) 0=(!m.testBit a&&!m.testBit b):=by
 rw[va,va,Nat.and_or_distrib_left,Sv,Sv,gu,eB] at⊢;constructor
 .refineλh=>bY (Nat.or_eq_zero_iff.mp<|uO h) λc d=>?_
  rw[c,d];exact⟨H,H⟩
 .rintro⟨c,d⟩;rw[uO c,uO d];rfl
def BO(m a:Nat):fk (m&&&2^a) 0=!m.testBit a:=by rw[va,Sv]
noncomputable def CF:Nat->Nat
 |0=>256|1=>256|2=>512|3=>512|4=>257|5=>258|6=>516|7=>520|_=>0
theorem UM(m):∀b,b<14->lJ m b=fk (m&&&CF b) 0
 |0,_=>(BO m 8).symm▸by show(!m.testBit 8&&U)=_;rw[uV]
 |1,_=>(BO m 8).symm▸by show(!m.testBit 8&&U)=_;rw[uV]
 |2,_=>(BO m 9).symm▸H
 |3,_=>(BO m 9).symm▸H
 |4,_=>(BN m 0 8).symm▸by show(!m.testBit 0&&(!m.testBit 8&&U))=_;rw[uV]
 |5,_=>(BN m 1 8).symm▸by show(!m.testBit 1&&(!m.testBit 8&&U))=_;rw[uV]
 |6,_=>aO ((BN m 2 9).symm) H
 |7,_=>aO ((BN m 3 9).symm) H
 |8,_=>(sC m).symm▸H
 |9,_=>(sC m).symm▸H
 |10,_=>(sC m).symm▸H
 |11,_=>(sC m).symm▸H
 |12,_=>(sC m).symm▸H
 |13,_=>(sC m).symm▸H
 |b+14,h=>aP h<|Y H
noncomputable def lO(m v k r:Nat):Nat:=cond (fk (nG m v) 0) r<|cond (fk (nG m k) 0) (Nat.lor v r) r
noncomputable def BZ(m:Nat):List Nat->Nat
 |[]=>0
 |b::r=>lO m (2^b) (CF b)<|BZ m r
def ZW(m):∀l,(∀b∈l,b<14)->bW (l.filter λb=>aQ m b&&lJ m b)=BZ m l:=by
 intro d;induction d with
 |nil=>
  exactλg=>H
 |cons b r e=>
  intro h;rw[jf,UM m b<|h b aZ,va];refine(?_:_=lO m (2^b) (CF b) (BZ m r));unfold lO;rw[<-(e λc f=>h c<|bK _ f)];cases fk (m&&&2^b) 0<;>cases fk (m&&&CF b) 0<;>rfl
def yK(m:Nat):Nat:=
 cond (fk (nG m 8192) 0) (cond (fk (nG m 4096) 0)
  (lO m 1 256<|lO m 2 256<|lO m 4 512<|lO m 8 512<|lO m 16 257<|lO m 32 258<|lO m 64 516<|lO m 128 520<|lO m 256 0<|lO m 512 0<|lO m 1024 0<|lO m 2048 0<|lO m 4096 0<|lO m 8192 0 0) 4096) 8192
def Bn(h:m<2^14):fp m=yK m:=by
 obtain e:(cO 30).filter (λb=>aQ m b&&lJ m b)=(cO 14).filter λb=>aQ m b&&lJ m b:=by
  rw[((show cO 30=cO 14++(cO 16).map (14+·) from by decide+kernel)),a6Y];rw[((Sa.mpr λb d=>by
   refine aA (bp.mp d) λi f c=>?_;subst c;rw[jR<|eR h<|pw<|fA 14 i];exact eS:((cO 16).map (14+·)).filter (λb=>aQ m b&&lJ m b)=[])),jG]
 unfold fp;rw[e,ZW m _ λb=>eJ.mp,va,va];show _=cond (fk (m&&&2^13) 0) (cond (fk (m&&&2^12) 0) (BZ m<|cO 14) 4096) 8192;cases fk (m&&&2^13) 0<;>cases fk (m&&&2^12) 0<;>rfl
noncomputable def sL(m:Nat):Nat:=
 cond (fk (nG m 12288) 0)
  ((λm=>(λm=>RO m<|nG m<|Nat.shiftLeft (nG m 15) 4)<|cond (fk (nG m 512) 0) m<|RO m<|nG m 204)<|cond (fk (nG m 256) 0) m<|RO m<|nG m 51)
  (cond (fk (nG m 8192) 0) 4096 8192)
def Z8{a b:α}:(if n≠0 then a else b)=cond (fk n 0) b a:=by
 induction n using Nat.casesOn<;>rfl
def vb(m):eV m=sL m:=by
 unfold eV;simp only[Z8];rfl
def JB(m:Nat):Bool:=(λs=>fk (yK m) s&&(gq s 16384&&fk (sL s) s))<|sL m
def Uw:uA 14 0 JB=true:=by decide+kernel
def lI(h:m<2^14):fp m=eV m/\eV m<2^14/\eV (eV m)=eV m:=by
 have:=Hi Uw (jQ m) h;unfold JB at this;rw[eB,eB] at this;rw[Bn h,vb,vb];exact⟨uO this.1,bU this.2.1,uO this.2.2⟩
def Nm(m:Nat):Prop:=m<2^14/\eV m=m
def Nm.h(q:m<2^14):Nm<|eV m:=⟨(lI q).2.1,(lI q).2.2⟩
def Nm.cI(q:Nm m):m<2^18:=m3 q.1<|Y H
def B7(A_:Nat->Nat)(m:Nat):Nat:=bW<|(mz m).map A_
def I0(m:Nat):Bool:=cond (fk (sL m) m)
 (fk (yK<|B7 lL m) (gM m)&&(fk (yK<|B7 tP m) (lc m)&&(fk (yK<|B7 sI m) (fi m)&&
 (fk (nG (gM m) 240) 0&&(gq (gM m) 16384&&(fk (sL<|gM m) (gM m)&&(gq (lc m) 16384&&(fk (sL<|lc m) (lc m)&&
 (gq (fi m) 16384&&(fk (sL<|fi m) (fi m)&&(fk (sL<|m-(m&&&3072)) (m-(m&&&3072))&&(fk (nG m 12288) 0||fk m 4096||fk m 8192)))))))))))) U
def Tq:uA 14 0 I0=true:=by decide+kernel
structure a5e(m:Nat):Prop where
 Er:oX lL m=gM m
 AN:oX tP m=lc m
 ax:oX sI m=fi m
 hi:gM m&&&240=0
 pl:Nm (gM m)
 wi:Nm (lc m)
 wh:Nm (fi m)
 mQ:Nm (m-(m&&&3072))
 F:m&&&12288=0\/m=2^12\/m=2^13
def F9(g:∀b,b<14->A_ b<14){m:Nat}(h:m<2^14):B7 A_ m<2^14:=rI λb e=>by
 refine aA (bp.mp e) λc f d=>?_;subst d;refine g c<|m4 λq=>?_;have:=(cG.mp f).2;rw[jR<|eR h<|pw q] at this;exact dj this
def G2:∀b,b<14->lL b<14/\tP b<14/\sI b<14:=by decide+kernel
def Nm.unit(y:Nm m):a5e m:=by
 obtain u:=Hi Tq (jQ m) y.1;unfold I0 at u;obtain e:fk (sL m) m=true:=by rw[<-vb,y.2];exact Nat.beq_refl m
 rw[e] at u;obtain u:(_&&_)=true:=u;simp only[eB,rh] at u;obtain q:∀{a b},fk a b=U->a=b:=uO;have l:∀{a},gq a 16384=U->a<2^14:=bU;refine⟨(Bn<|F9 (λb c=>(G2 b c).1) y.1).trans<|q u.1,(Bn<|F9 (λb c=>(G2 b c).2.1) y.1).trans<|q u.2.1,(Bn<|F9 (λb c=>(G2 b c).2.2) y.1).trans<|q u.2.2.1,q u.2.2.2.1,⟨l u.2.2.2.2.1,(vb _).trans<|q u.2.2.2.2.2.1⟩,⟨l u.2.2.2.2.2.2.1,(vb _).trans<|q u.2.2.2.2.2.2.2.1⟩,⟨l u.2.2.2.2.2.2.2.2.1,(vb _).trans<|q u.2.2.2.2.2.2.2.2.2.1⟩,⟨gQ (pE _ _) y.1,(vb _).trans<|q u.2.2.2.2.2.2.2.2.2.2.1⟩,?_⟩;rcases u.2.2.2.2.2.2.2.2.2.2.2 with(u|u)|u;.exact .inl<|q u
 .exact .inr<|.inl<|q u
 .exact .inr<|.inr<|q u
def within(a r):a-(a&&&r)=0↔∀i,aQ a i=U->aQ r i=true:=by
 rw[(show a-(a&&&r)=0↔a&&&r=a from by
  exact⟨λz=>v6 H4<|RN.mp z,λz=>H1<|gG z.symm⟩)] at⊢
 constructor;.intro h i hi;rw[<-h,ra,eB] at hi;exact hi.2
 .intro h;apply km;intro i;rw[ra];cases q:aQ a i with
  |false=>rfl
  |true=>rw[h i q];rfl
def sU(c k):(c&&&2^k≠0)↔aQ c k=true:=by
 rw[va];rcases q:fk (c&&&2^k) 0 with _|_;.exact⟨λb=>H,λb e=>by obtain q:=e▸q;exact mI q⟩
 .exact⟨λh=>aP (uO q) h,nofun⟩
def KX(c i)(hi:i<14)(h4:¬(4<=i/\i<8)):aQ (wS c) i=rY c i:=by
 unfold wS rY;rw[fD,fD,a7j,<-((show∀x y:Bool,∀i,i<14->¬(4<=i/\i<8)->((aQ (if x then 3 else 0:Nat) i)||(aQ (if y then 12 else 0:Nat) i))=((decide (bk i=3)&&x)||(decide (bk i=4)&&y)) from by decide+kernel)) (aQ c 8) (aQ c 9) i hi h4];rw[((show(if c&&&256≠0 then 3 else 0:Nat)=if aQ c 8=U then 3 else 0 from by
  by_cases q:aQ c 8=U;.rw[ak q,ak<|(sU c 8).mpr q]
  .rw[Z q,Z λz=>q<|(sU c 8).mp z])),(show(if c&&&512≠0 then 12 else 0:Nat)=if aQ c 9=U then 12 else 0 from by
  by_cases q:aQ c 9=U;.rw[ak q,ak<|(sU c 9).mpr q]
  .rw[Z q,Z λz=>q<|(sU c 9).mp z])]
def OX(g:Nm s)(ht:Nm t):Co s t=bn s t:=by
 unfold Co bn;rw[g.unit.Er,ht.unit.Er];rcases ht.unit.F with q|q|q
 .rw[Z<|not_not_intro q,bR (λe=>by subst e;exact aP q<|Y H),bR (λe=>by subst e;exact aP q<|Y H),we,we,gu,gf,dT,within] at⊢;obtain b:=g.unit.pl;obtain sg:∀i,aQ (gM s) i=U->i<14/\¬(4<=i/\i<8):=λi hi=>by
   refine⟨m4 λz=>?_,λz=>?_⟩;.rw[jR<|eR b.1<|pw z] at hi;exact dj hi
   .obtain c:=be (·.testBit i) g.unit.hi;simp only[ra,hi,lX,((show∀i,i<8->4<=i->aQ (240) i=U from by decide+kernel)) i z.2 z.1] at c;exact mI c
  constructor;.intro h i hi;rw[KX _ i (sg i hi).1 (sg i hi).2];exact h i<|(ty b.cI).mpr hi
  .intro h i hi;obtain hi:=(ty b.cI).mp hi;rw[<-KX _ i (sg i hi).1 (sg i hi).2];exact h i hi
 .rw[q];rfl
 .rw[q];rfl
abbrev kO:=a7×eE
def ig(σ:av)(d:List kO):Prop:=∀p∈d,σ p.1=I p.2
noncomputable abbrev j6(d:List kO):List a7:=d.map (·.1)
def ig.F(h:ig σ d)(g:d[k]?=I (l,o)):σ l=I o:=h (l,o)<|pG g
def Zi(g:d[k]?=I (l,o)):j6 (d.set k (l,o'))=j6 d:=by
 unfold j6;rw[a6N];apply a6Z;intro i;rw[a6V];split;.rename_i e;subst e;rw[nH,g,ak<|by rw[ba];exact(jV.mp g).1];rfl
 .rfl
def Mj{d:List α}{x p:α}(h:p∈d.set k x):p=x\/∃i,i≠k/\d[i]?=I p:=by
 refine bc (Ik h) λi hi=>?_;rw[a6V] at hi;split at hi
 .split at hi;.exact .inl (fg hi).symm
  .exact cL hi
 .rename_i e;exact .inr ⟨i,λq=>e q.symm,hi⟩
def ig.set(h:ig σ d)(nd:cg<|j6 d)(g:d[k]?=I (l,o)):ig (σ.u l o')<|d.set k (l,o'):=λp b=>by
 rcases Mj b with rfl|⟨i,hi,e⟩;.exact fc
 .exact(cN λq=>hi<|bc (jV.mp<|(by rw[nH,e,<-q];rfl)) λf c=>bc (jV.mp<|(show(j6 d)[k]?=I l from by rw[nH,g];rfl)) λb1 b2=>(R4 nd).mp<|c.trans b2.symm).trans<|h p<|pG e
def ig.EQ(h:ig σ d)(g:σ l=C):l∉j6 d:=λq=>by
 refine aA (bp.mp q) λp c b=>?_;clear q;subst b;rw[h p c] at g;exact l7 g
def ig.fresh(h:ig σ d)(g:σ l=C):ig (σ.u l o) d:=λp b=>(cN λq=>h.EQ g<|by rw[<-q];exact dU b).trans<|h p b
def ig.swap(h:ig σ d)(g:σ l=C):ig (σ.u l o)<|d.set k (l,o):=λp b=>by
 rcases Mj b with rfl|⟨i,_,e⟩;.exact fc
 .exact h.fresh g p<|pG e
def Zh(nd:cg<|j6 d)(g:l∉j6 d):cg<|j6<|d.set k (l,o):=by
 unfold j6 at*;rw[a6N];by_cases c:k<O (d.map (·.1))
 .rw[List.set_eq_take_append_cons_drop,ak c];rw[<-((xU ..:(d.map (·.1)).take k++(d.map (·.1)).drop k=d.map (·.1))),kL] at nd;refine gl nd λi j m=>?_;rw[kL] at⊢;refine⟨i,fh.mpr ⟨λq=>g<|Ic q,?_⟩,λa e b hb=>?_⟩;.rw[<-a61];exact j.sublist (List.drop_sublist ..)
  .rcases cf.mp hb with rfl|hb;.exactλq=>g (aO q<|a6K e)
   .exact m a e b<|((λx f=>by
   rw[<-a61] at f;exact Ic f:∀x,x∈(d.map (·.1)).drop (k+1)->x∈(d.map (·.1)).drop k)) b hb
 .rw[List.set_eq_of_length_le<|lE c];exact nd
structure iI where
 a:Nat
 l:a7
 es:List (Nat×Nat×Nat)
structure Iv where
 g:a7
 q:a7
 w:a7
 e:a7
 f:a7
 vJ:a7
 c:a7
 A1:a7
 az:a7
 Ol:a7
 JL:a7
 DA:a7
 a:a7
 KP:a7
 B:a7
 i:a7
 M:a7
 seen:a7
 NE:a7
 KY:a7
 OW:a7
structure GD where
 a:List Nat
 yA:Int
 F:Int
 d:Int
 b:Int
 c:Int
 bM:Int
 u:Int
 e:Int
 h:a7
structure GV where
 e:List iI
 f:List iI
 c:List (Nat×Nat)
 az:List (Nat×Nat)
 a:List (Nat×Nat)
 B:List (Nat×Nat)
 i:List (Nat×Nat)
 M:List (Nat×Bool)
 h:List (Nat×Nat)
structure GS where
 tl:kJ
 T:bP
 L:Iv
 D:GD
 V:GV
 X:List kO
noncomputable def dM(enc:α->AV)(l:List<|Nat×α):List<|AV×AV:=l.map λp=>(AV.a p.1,enc p.2)
abbrev dN(l:List<|Nat×Nat):List<|AV×AV:=dM (λn=>AV.a (n:Nat)) l
abbrev dB(l:List<|Nat×Bool):List<|AV×AV:=dM AV.e l
abbrev dE(l:List iI):List<|AV×AV:=dM AV.d<|l.map λe=>(e.a,e.l)
noncomputable def lz(p:Nat×Nat×Nat):AV:=.B [.a p.1,.a p.2.2]
def gF(S:GS):List<|Nat×AV:=[(11,.d S.L.q),(12,.B<|G S.D.a),(13,.d S.L.e),(14,.d S.L.f),(15,.d S.L.vJ),(16,.d S.L.c),(17,.d S.L.A1),(18,.d S.L.az),(19,.a S.D.F),(20,.d S.L.Ol),(21,.d S.L.JL),(22,.d S.L.DA),(23,.e am),(24,.d S.L.a),(25,.d S.L.w),(26,.a S.D.yA),(27,.a<|-1),(28,.d S.L.KP),(29,.B<|G S.D.a),(30,.a<|-1),(31,.a S.D.d),(32,.a 0),(33,.a S.D.b),(34,.a S.D.c),(35,.a S.D.bM),(36,.a 0),(37,.a S.D.u),(38,.d S.L.B),(39,.d S.L.i),(40,.d S.L.M),(41,.d S.L.seen),(42,.d S.L.NE),(43,.d S.D.h),(44,.a S.D.e),(45,.d S.L.KY),(46,.d S.L.OW)]
noncomputable def Ge(tl:kJ):List<|Nat×AV:=[(10,.d tl.h),(34,.a 0),(47,.a 200),(48,.a 40),(49,.j)]
def jN(g:iI):kO:=(g.l,.b<|g.es.map lz)
def nN(tl:kJ)(T:bP):List kO:=[(tl.h,.d 0<|Jy tl),(tl.e,.b T.e),(tl.a,.a 2<|s8 T.e 0),(tl.d,.b T.d),(tl.g,.b T.g),(tl.j,.b T.j)]
def lh(S:GS):List kO:=[(S.L.g,.d 1<|gF S),(S.L.q,.d 2<|Ge S.tl),(S.L.w,.d 3 []),(S.L.e,.a 0<|dE S.V.e),(S.L.f,.a 0<|dE S.V.f),(S.L.vJ,.a 0 []),(S.L.c,.a 0<|dN S.V.c),(S.L.A1,.a 0 []),(S.L.az,.a 0<|dN S.V.az),(S.L.Ol,.a 0 []),(S.L.JL,.a 0 []),(S.L.DA,.a 2 []),(S.L.a,.a 0<|dN S.V.a),(S.L.KP,.a 0 []),(S.L.B,.a 0<|dN S.V.B),(S.L.i,.a 0<|dN S.V.i),(S.L.M,.a 0<|dB S.V.M),(S.L.seen,.a 2 []),(S.L.NE,.a 2 []),(S.L.OW,.a 0 []),(S.L.KY,.b []),(S.D.h,.a 0<|dN S.V.h)]
def jA(S:GS):List kO:=nN S.tl S.T++(lh S++(S.V.e.map jN++(S.V.f.map jN++S.X)))
structure St(σ:av)(S:GS):Prop where
 r:ig σ (jA S)
 nd:(j6<|jA S).Nodup
 y:bF S.T
 b:S.tl.e.t=10/\S.tl.a.t=11/\S.tl.d.t=12/\S.tl.g.t=13/\S.tl.j.t=14
def St.h(u:St σ S):cp σ S.tl S.T:=⟨u.r.F (k:=0) H,u.r.F (k:=1) H,u.r.F (k:=2) H,u.r.F (k:=3) H,u.r.F (k:=4) H,u.r.F (k:=5) H,u.b⟩
def St.F(B:St σ S)(u:Up S.tl σ S.T σ' T'):St σ' {S with T:=T'}:=by
 refine⟨λp hp=>?_,B.nd,u.y,B.b⟩;rcases fQ.mp hp with hp|hp
 .have t:=u.h;simp only[nN,cf,jU,or_false] at hp;rcases hp with rfl|rfl|rfl|rfl|rfl|rfl;.exact t.h
  .exact t.e
  .exact t.a
  .exact t.d
  .exact t.g
  .exact t.j
 .obtain nd:=B.nd;unfold jA j6 at nd;rw[d9,kL] at nd;exact u.cT p.1 p.2 (B.r p<|gA _ hp) (λe=>nd.2.2 S.tl.e (bK _ aZ) p.1 (dU hp) e.symm) λe=>nd.2.2 S.tl.a (bK _<|bK _ aZ) p.1 (dU hp) e.symm
theorem St.set(u:St σ S)(S':GS)(k:Nat){l:a7}{o o':eE}(hk:(jA S)[k]?=I (l,o))(B:jA S'=(jA S).set k (l,o'))(hT:S'.T=S.T)(X:S'.tl=S.tl):St (σ.u l o') S':=by
 refine⟨by rw[B];exact u.r.set u.nd hk,?_,ay hT u.y,ay X u.b⟩;rw[B,Zi hk];exact u.nd
noncomputable def lk:List (Nat×α)->Nat->Option α
 |[],_=>C
 |p::r,k=>if p.1=k then I p.2 else lk r k
noncomputable def st:List (Nat×α)->Nat->α->List (Nat×α)
 |[],k,v=>[(k,v)]
 |p::r,k,v=>if p.1=k then(k,v)::r else p::st r k v
noncomputable def dl:List (Nat×α)->Nat->List (Nat×α)
 |[],_=>[]
 |p::r,k=>if p.1=k then r else p::dl r k
theorem Ff{p:Nat×α}{r k}:lk (p::r) k=if p.1=k then I p.2 else lk r k:=rfl
theorem wK{p:Nat×α}{r k v}:st (p::r) k v=if p.1=k then(k,v)::r else p::st r k v:=rfl
theorem GL{p:Nat×α}{r k}:dl (p::r) k=if p.1=k then r else p::dl r k:=rfl
noncomputable abbrev ks(l:List<|Nat×α):List Nat:=l.map (·.1)
def F0(h:i≠j):AV.a (i:Int)≠AV.a (j:Int):=λe=>h<|xi e
def po:∀l(k:Nat),dL (dM enc l) (.a k)=(lk l k).map enc:=by
 intro l;induction l with
 |nil=>
  exactλc=>H
 |cons p r b=>
  intro k;show(if AV.a (p.1:Int)=AV.a k then I (enc p.2) else dL (dM enc r)<|.a k)=_;rw[Ff];by_cases e:p.1=k;.rw[ak e,ak<|by rw[e]];rfl
  .rw[Z e,Z<|F0 e,b k]
def Cy(v):∀l(k:Nat),mV (dM enc l) (.a k) (enc v)=dM enc (st l k v):=by
 intro l;induction l with
 |nil=>
  exactλc=>H
 |cons p r b=>
  intro k;show(if AV.a (p.1:Int)=AV.a k then(AV.a (p.1:Int),enc v)::dM enc r else(AV.a (p.1:Int),enc p.2)::mV (dM enc r) (.a k) (enc v))=_;rw[wK];by_cases e:p.1=k;.rw[ak e,ak (by rw[e]),e];rfl
  .rw[Z e,Z<|F0 e,b k];rfl
def a1i:∀l(k:Nat),oB (dM enc l) (.a k)=dM enc (dl l k):=by
 intro l;induction l with
 |nil=>
  exactλc=>H
 |cons p r b=>
  intro k;show(if AV.a (p.1:Int)=AV.a k then dM enc r else(AV.a (p.1:Int),enc p.2)::oB (dM enc r) (.a k))=_;rw[GL];by_cases e:p.1=k;.rw[ak e,ak<|by rw[e]]
  .rw[Z e,Z<|F0 e,b k];rfl
def MP(v)(k j):∀l:List<|Nat×α,lk (st l k v) j=if j=k then I v else lk l j:=by
 intro Nat;induction Nat with
 |nil=>
  show(if k=j then I v else C)=_;by_cases e:j=k;.rw[ak e,ak e.symm]
  .rw[Z e,Z λq=>e q.symm];rfl
 |cons p r b=>
  rw[wK];by_cases e:p.1=k
  .rw[ak e];show(if k=j then I v else lk r j)=_;by_cases q:j=k;.rw[ak q,ak q.symm]
   .rw[Z q,Z λz=>q z.symm];show _=if p.1=j then I p.2 else lk r j
    rw[Z λz=>q<|by rw[<-z,e]]
  .rw[Z e];show(if p.1=j then I p.2 else lk (st r k v) j)=if j=k then I v else if p.1=j then I p.2 else lk r j
   rw[b];by_cases q:p.1=j;.rw[ak q,ak q,Z λz=>e<|q.trans z]
   .rw[Z q,Z q]
def JN(v)(k):∀l:List<|Nat×α,ks (st l k v)=ks l\/(k∉ks l/\ks (st l k v)=ks l++[k]):=by
 intro Nat;induction Nat with
 |nil=>
  exact .inr ⟨nofun,H⟩
 |cons p r b=>
  rw[wK];by_cases e:p.1=k;.rw[ak e];exact .inl<|by rw[<-e];rfl
  .rw[Z e];rcases b with h|⟨c,d⟩;.exact .inl (be (p.1::·) h)
   .exact .inr ⟨λq=>(cf.mp q).elim (λz=>e z.symm) c,be (p.1::·) d⟩
def JM{v}{l:List<|Nat×α}(h:cg<|ks l):cg<|ks<|st l k v:=by
 rcases JN v k l with e|⟨e1,c⟩;.rw[e];exact h
 .rw[c,kL] at⊢;exact⟨h,by simp,λa d b f q=>e1 (by obtain q:=(d8.mp f)▸q;exact aO q d)⟩
theorem MR:∀{l k}{v:α},lk l k=I v->(k,v)∈l
 |p::r,k,v,h=>by
  rw[Ff] at h;by_cases e:p.1=k;.rw[ak e] at h;cases h;exact aO e aZ
  .rw[Z e] at h;exact bK _<|MR h
def MQ:∀{l:List<|Nat×α}{k},k∉ks l->lk l k=none:=by
 intro l;induction l with
 |nil=>
  intro _ _;exact H
 |cons p r b=>
  intro k h;rw[Ff];rw[Z (λe:p.1=k=>h<|aO e aZ),b λq=>h<|bK _ q]
def MS(k j):∀{l:List<|Nat×α},cg (ks l)->lk (dl l k) j=if j=k then C else lk l j:=by
 intro l;induction l with
 |nil=>
  intro _;by_cases e:j=k;.exact(ak e).symm
  .exact(Z e).symm
 |cons p r b=>
  refineλh=>bY (fh.mp h) λc d=>?_
  rw[GL];by_cases e:p.1=k
  .rw[ak e];by_cases q:j=k;.rw[ak q,q,<-e];exact MQ c
   .rw[Z q];show _=if p.1=j then I p.2 else lk r j
    rw[Z λz=>q<|by rw[<-z,e]]
  .rw[Z e];show(if p.1=j then I p.2 else lk (dl r k) j)=if j=k then C else if p.1=j then I p.2 else lk r j
   rw[b d];by_cases q:p.1=j;.rw[ak q,ak q,Z λz=>e<|q.trans z]
   .rw[Z q,Z q]
def Pj(k):∀l:List<|Nat×α,(ks<|dl l k).Sublist<|ks l:=by
 intro Nat;induction Nat with
 |nil=>
  exact .slnil
 |cons p r b=>
  rw[GL];split;.exact List.sublist_cons_self ..
  .exact b.cons₂ _
def qT(l):O (dM enc l)=O l:=ba ..
theorem y3{i:Int}:dK 0 (.a i)=true:=rfl
def L5{K}(h:σ l=I (.a c es))(g:dK c x=U)(q:K<|.e<|!(dL es x).isSome):eZ σ .b x (.d l) K:=by
 show rj σ x (.d l) λb=>K<|.e<|!b;unfold rj;rw[D0 h,w7 h];exact⟨aO ((zD h).symm) g,q⟩
def vg{K}(h:σ l=I (.a c es))(g:dK c x=U)(q:O es<=aR)(u:K<|σ.u l<|.a c<|mV es x v):l8 σ (.d l) x v K:=by
 unfold l8;simp only[h];exact⟨g,q,u⟩
def mL{K}(h:σ l=I (.d c fs))(g:eA (O fs) 100=U)(q:K<|σ.u l<|.d c<|oA fs f v):oQ σ (.d l) f v K:=by
 unfold oQ;simp only[h];exact⟨bU g,q⟩
noncomputable section
variable{σ:av} {S:GS} (h:St σ S)
include h
def St.g:σ S.L.g=I (.d 1<|gF S):=h.r.F (k:=6) H
def St.q:σ S.L.q=I (.d 2<|Ge S.tl):=h.r.F (k:=7) H
def St.w:σ S.L.w=I (.d 3 []):=h.r.F (k:=8) H
def St.vJ:σ S.L.vJ=I (.a 0 []):=h.r.F (k:=11) H
def St.M:σ S.L.M=I (.a 0<|dB S.V.M):=h.r.F (k:=22) H
def OE{K}(g:K<|.d S.tl.h):oe σ (.d S.L.g) 11 λx=>oe σ x 10 K:=aU h.g H<|aU h.q H g
end
def uq{t:Int}(g:K (.a t) σ):W (n+1) 81 [x,.a t] σ K:=bq [x,.a t] H<|db g
def qU{K}(h:x! (ci L i x) σ λb g=>c7 g b λc=>if c=U then z_ (ci L i x) g λv q=>ok q/\iJ x! z_ (.B i) ok L xs q λvs u=>K (v::vs) u else ok g/\iJ x! z_ (.B i) ok L xs g K):iJ x! z_ (.B i) ok L (x::xs) σ K:=h
noncomputable def sT(b:Nat):Bool:=eA 14 b&&gq b 18
def yD(bs:List Nat):List Nat:=(bs.filter sT).map (·-14)
def yE:∀b,b<30->decide (bk b=10)=sT b/\(sT b=U->gz b=.B [.a 10,.a ((b-14:Nat):Int)]):=by decide+kernel
def XX{p}:p∈yD bs↔p<4/\p+14∈bs:=by
 unfold yD sT;rw[bp] at⊢;constructor;.rintro⟨b,e,rfl⟩;refine bY (cG.mp e) λd c=>?_;rw[eB] at c;obtain f:=bU c.1;exact⟨Nat.sub_lt_sub_right ‹_›<|bU c.2,by rw[tH f];exact d⟩
 .rintro⟨d,c⟩;exact⟨p+14,cG.mpr ⟨c,by rw[eB];exact⟨a6y<|jE _ _,a6y<|Nat.add_lt_add_right d _⟩⟩,H⟩
theorem EF(h:cp σ tl T)(g:bF T){x y z:AV}:∀{E bs:List Nat}{K:List AV->av->Prop},eU T E bs->K (G<|yD bs) σ->
 iJ (n8 (W n)<|I<|.h .eq (.n (.n (.p V1 0) V3) N0)<|gi 10) (a6 (W n)<|.n (.n (.p V1 0) V3) N1) (.B 3) dc [x,.d tl.h,y,z] (G E) σ K
 |_,_,_,.nil,c=>c
 |_,_,K,@F2.cons _ _ _ i b E bs a r,c=>by
  refine bY (yE b a.1) λd e=>qU ?_;lk;refine aA a.hd λq hq f=>aU h.h H<|eL h.e g.aR hq<|dh (t:=0) f H<|uu ?_;unfold yD at c;rw[jf] at c;rw[d];cases z:sT b;.rw[z] at c;exact bd ⟨aE,EF h g r c⟩
  .rw[z] at c;exact bw<|aU h.h H<|eL h.e g.aR (a.2.trans<|by rw[e z])<|dh (t:=1) (lb H) H ⟨aE,EF h g r c⟩
def EE(h:cp σ tl T)(g:bF T)(hi:Is T t m)(u:m<2^18)(y:∀ps,cg ps->O ps<=18->(∀p,p∈ps↔p<4/\aQ m (p+14)=U)->K (.r<|G ps) σ):W (n+2) 24 [x,.d tl.h,.a t] σ K:=by
 refine bq [x,.d tl.h,.a t,.q] H<|db ?_;rw[GK];dsimp only[e3,l1,l2,iW];refine qF h g hi u λE bs p e i j=>⟨by rw[ba];exact aV j<|Y H,EF h g p.w ?_⟩;refine y _ ((by
  unfold yD;rw[cg,Ib] at⊢;refine((p.w.q g<|p.h.imp hZ).filter _).imp_of_mem λ{a b} k i f e=>f ?_;have d:∀{c},c∈bs.filter sT->14<=c:=λl=>by
   have:=(cG.mp l).2;unfold sT at this;rw[eB] at this;exact bU this.1
  exact D7 (d k) (d i) e)) ?_ λq=>?_
 .obtain d:=k9 sT bs;have:=p.w.aT;rw[ba];exact aV d<|aO this j
 .rw[XX,<-e,fF,dT]
def Is.cI(g:bF T){t m:Nat}:Is T t m->t<O T.e:=λc=>gk c λb b p b=>by
 cases p with
 |nil=>exact vv g.MI
 |B a=>exact(jV.mp a.2).1
 |a h _ _ _ _=>exact(jV.mp h).1
structure qu(T:bP)(A:List<|Nat×Bool):Prop where
 nd:(ks A).Nodup
 r:∀p∈A,∃m,Is T p.1 m/\p.2=decide (2^14<=m)
theorem qu.F(h:qu T A)(le:T.Le T'):qu T' A:=⟨h.nd,λp b=>aA (h.r p b) λm c d=>⟨m,c.F le,d⟩⟩
def qu.aT(g:bF T)(h:qu T A):O A<=aR:=aV ((ba ..)▸(sQ (O T.e) (ks A) h.nd λx c=>by
 refine aA (bp.mp c) λp d b=>?_;subst b;exact aA (h.r p d) λm e f=>e.cI g)) g.aR
def DY{v}:∀{l}{p:Nat×α},p∈st l k v->p=(k,v)\/p∈l:=by
 intro l;induction l with
 |nil=>
  intro p h;exact .inl<|d8.mp h
 |cons q r b=>
  intro p h;rw[wK] at h;split at h;.exact(cf.mp h).imp id λh=>bK _ h
  .rcases cf.mp h with e|h;.exact .inr (ay e aZ)
   .exact(b h).imp id λh=>bK _ h
def qu.st(h:qu T A)(hi:Is T t m):qu T<|st A t<|decide<|2^14<=m:=⟨JM h.nd,λp hp=>by
 rcases DY hp with rfl|hp;.exact⟨m,hi,H⟩
 .exact h.r p hp⟩
def a4T(h:St σ S):∀{ps b g K},(∀p∈ps,p∈S.D.a)->(∀g,K .none [.d S.L.g,q,.e<|b||!ps.isEmpty,g] σ)->
 cu (wB n M2) (.B 3) dc (G ps) [.d S.L.g,q,.e b,g] σ K:=by
 intro ps;induction ps with
 |nil=>
  intro b g K _ c;have:=c g;simp only[List.isEmpty_nil,Su,sE] at this;exact this
 |cons p ps e=>
  intro b g K d c;refine fj<|bV<|aU h.g H<|uj ?_;rw[bA<|lM d];refine bw ⟨aE,e (jw d) λg=>?_⟩;have:=c g;simp only[List.isEmpty_cons,Bool.not_false,m5] at this;exact this
def c_(h:St σ S)(u:qu S.T S.V.M)(hi:Is S.T t m)(y:m<2^18)(B:∀p,p<4->aQ m (p+14)=U->p∈S.D.a)(F:∀σ' A,St σ' {S with V:={S.V with M:=A}}->qu S.T A->K (.e<|decide<|2^14<=m) σ'):W (n+3) 31 [.d S.L.g,.a t] σ K:=by
 refine bq [.d S.L.g,.a t,.q,.q] H<|bV ?_;lk;have d:∀{σ' A s j},St σ' {S with V:={S.V with M:=A}}->qu S.T A->lk A t=I (decide<|2^14<=m)->wB (n+2) [.c<|.n (.p V0 40) V1] [.d S.L.g,.a t,s,j] σ' (rK K):=λ{σ' A s j} h' k l=>by
  exact db<|aU h'.g H<|DU h'.M y3 (by rw[po,l];rfl)<|F σ' A h' k
 refine aU h.g H<|L5 h.M y3 ?_;rw[po];rcases q:lk S.V.M t with _|b
 .refine bw<|cq<|gg ?_;lk;refine aU h.g H<|fY h.w H<|OE h<|EE h.h h.y hi y λps x l c=>⟨lm l H,a4T h (λp hq=>B p ((c p).mp hq).1 ((c p).mp hq).2) λj=>iY ?_⟩;obtain e:(am||!ps.isEmpty)=decide (2^14<=m):=by
   rw[gu,dT] at⊢;rw[nI,<-Bool.not_eq_true];rw[a6S] at⊢;constructor;.exactλf=>bc (Dl _ f) λp hq=>aV (pw<|jE 14 p)<|Nat.ge_two_pow_of_testBit ((c p).mp hq).2
   .refineλo f=>aA (Nat.exists_ge_and_testBit_of_ge_two_pow o) λi r g=>?_
    have:=(c _).mpr ⟨xf (Nat.sub_le_sub_right (MX 17 (m4 λz=>by
     rw[jR<|eR y<|pw z] at g;exact dj g)) 14) H,by rw[tH r];exact g⟩
    obtain this:=f▸this;cases this
  rw[e];refine aU h.g H (vg h.M y3 (by rw[qT];exact u.aT h.y) ?_);rw[Cy];refine d (h.set _ 22 H H (by rfl)<|by rfl) (u.st hi)<|by rw[MP,ak H]
 .refine bd<|d h u<|aA (u.r _<|MR q) λv r g=>?_;obtain g:b=decide (2^14<=v):=g;rw[q,g,Is.q h.y r hi]
noncomputable def GS.q(S:GS)(T:bP)(A:List<|Nat×Bool):GS:=⟨S.tl,T,S.L,S.D,{S.V with M:=A},S.X⟩
structure Q(σ:av)(S:GS)(T:bP)(A:List<|Nat×Bool):Prop where
 st:St σ (S.q T A)
 ask:qu T A
theorem Q.F(g:Q σ S T A)(u:Up S.tl σ T σ' T'):Q σ' S T' A:=⟨g.st.F u,g.ask.F u.c⟩
theorem Q.h(g:Q σ S T A):cp σ S.tl T:=g.st.h
theorem Q.y(g:Q σ S T A):bF T:=g.st.y
def Q.q(g:Q σ S T A){K}(u:K<|.d S.tl.h):oe σ (.d S.L.g) 11 λx=>oe σ x 10 K:=OE g.st u
def xy{p}:p∈jA S↔p∈jA {S with X:=[]}\/p∈S.X:=by
 unfold jA;simp only[fQ,jG];show _↔(_\/p∈lh S\/_\/_)\/_;constructor
 .rintro(h|h|h|h|h);.exact .inl (.inl h)
  .exact .inl<|.inr<|.inl h
  .exact .inl<|.inr<|.inr<|.inl h
  .exact .inl<|.inr<|.inr<|.inr h
  .exact .inr h
 .rintro((h|h|h|h)|h);.exact .inl h
  .exact .inr<|.inl h
  .exact .inr<|.inr<|.inl h
  .exact .inr<|.inr<|.inr<|.inl h
  .exact .inr<|.inr<|.inr<|.inr h
def zE(S):jA S=jA {S with X:=[]}++S.X:=by
 show nN S.tl S.T++(lh S++_)=(nN S.tl S.T++(lh S++_))++_;rw[jG,gc,gc,gc]
def St.N(u:St σ S){l:a7}(o:eE)(B:σ l=C):St (σ.u l o) {S with X:=(l,o)::S.X}:=by
 obtain c:=u.r.fresh B;obtain b:=u.r.EQ B;refine⟨λp hp=>?_,?_,u.y,u.b⟩
 .rcases xy.mp hp with hp|hp;.exact c p (xy.mpr<|.inl hp)
  .rcases cf.mp hp with rfl|hp;.exact fc
   .exact c p<|xy.mpr<|.inr hp
 .obtain nd:=u.nd;rw[zE] at nd b⊢;unfold j6 at*;rw[d9] at nd b⊢;exact Ap.nodup_iff.mpr<|fh.mpr ⟨b,nd⟩
def St.wO(u:St σ S){B A!:List kO}{l:a7}{o:eE}(o':eE)(hX:S.X=B++(l,o)::A!):St (σ.u l o') {S with X:=B++(l,o')::A!}:=by
 obtain e:jA S=(jA {S with X:=[]}++B)++(l,o)::A!:=by rw[zE,hX,gc] at⊢
 refine u.set _ _ (by rw[e,v7<|ce _,v4];rfl) ?_ H H;rw[zE,e,List.set_append_right _ _<|ce _,v4,gc] at⊢;rfl
def St.R(u:St σ S){B A!:List kO}{l:a7}{o:eE}(hX:S.X=B++(l,o)::A!):St (σ.r l) {S with X:=B++A!}:=by
 have e:jA S=(jA {S with X:=[]}++B)++(l,o)::A!:=by rw[zE,hX,gc] at⊢
 have c:jA {S with X:=B++A!}=(jA {S with X:=[]}++B)++A!:=by rw[zE,gc] at⊢
 obtain nd:=u.nd;obtain nd:=e▸nd;unfold j6 at nd;rw[d9] at nd;refine bY (fh.mp<|Ap.nodup_iff.mp nd) λd g=>?_;rw[<-d9,<-c] at d g;refine⟨λp b=>?_,g,u.y,u.b⟩;have:p.1≠l:=λq=>d<|aO q<|dU (f:=(·.1)) b;exact(Z this).trans<|u.r p (by
  rw[c,fQ] at b;rw[e,fQ] at⊢;exact b.imp id λu=>bK _ u)
def St.P(u:St σ S){B A!:List kO}{l:a7}{o:eE}(X:S.X=B++(l,o)::A!):σ l=I o:=u.r (l,o)<|xy.mpr<|.inr<|ay X<|gA _ aZ
theorem Q.N(g:Q σ S T A){l:a7}(o:eE)(u:σ l=C):Q (σ.u l o) {S with X:=(l,o)::S.X} T A:=⟨g.st.N o u,g.ask⟩
theorem Q.wO(g:Q σ S T A){B A!:List kO}{l:a7}{o:eE}(o':eE)(u:S.X=B++(l,o)::A!):Q (σ.u l o') {S with X:=B++(l,o')::A!} T A:=⟨g.st.wO o' u,g.ask⟩
theorem Q.R(g:Q σ S T A){B A!:List kO}{l:a7}{o:eE}(u:S.X=B++(l,o)::A!):Q (σ.r l) {S with X:=B++A!} T A:=⟨g.st.R u,g.ask⟩
theorem Q.P(g:Q σ S T A){B A!:List kO}{l:a7}{o:eE}(u:S.X=B++(l,o)::A!):σ l=I o:=g.st.P u
noncomputable def pi(b:Nat):Nat:=[1,1,2,2,1,1,2,2,1,2,4,5,0,0,0,0,0,0].getD b 2
def ZP(g:bF T){t b:Nat}(a:bB T t b)(h:8<=b/\b<14):(t,b)∈[(0,13),(1,12),(4,11),(5,10),(6,8),(7,9)]:=by
 obtain this:b=8\/b=9\/b=10\/b=11\/b=12\/b=13:=(Y H:∀b<14,8<=b->b=8\/b=9\/b=10\/b=11\/b=12\/b=13) b h.2 h.1;clear h;rcases this with rfl|rfl|rfl|rfl|rfl|rfl;.rw[a.h g<|g.h (t:=6)<|Y H];decide
 .rw[a.h g<|g.h (t:=7)<|Y H];decide
 .rw[a.h g<|g.h (t:=5)<|Y H];decide
 .rw[a.h g<|g.h (t:=4)<|Y H];decide
 .rw[a.h g<|g.h (t:=1)<|Y H];decide
 .rw[a.h g<|g.h (t:=0)<|Y H];decide
def ZQ(h:(t,b)∈[(0,13),(1,12),(4,11),(5,10),(6,8),(7,9)]){P:AV->Prop}(g:P<|.a (pi b:Nat)):P<|(dL [((AV.a 3),(AV.a 6)),((AV.a 4),(AV.a 5)),((AV.a 5),(AV.a 4)),((AV.a 6),(AV.a 1)),((AV.a 7),(AV.a 2)),((AV.a 10),(AV.a 7))]<|.a (t:Nat)).getD<|.a 0:=by
 simp only[cf,Ak,jU,or_false] at h;rcases h with⟨rfl,rfl⟩|⟨rfl,rfl⟩|⟨rfl,rfl⟩|⟨rfl,rfl⟩|⟨rfl,rfl⟩|⟨rfl,rfl⟩<;>exact g
def P7:∀b,b<30->(bk b=3/\pi b=1)\/(bk b=4/\pi b=2)\/(bk b=1/\8<=b/\b<14)\/(bk b=10/\pi b=0):=by decide+kernel
def O8(h:cp σ tl T)(g:bF T)(a:bB T t b)(u:K (.a (pi b:Nat)) σ):W (n+2) 19 [.d tl.h,.a t] σ K:=by
 refine bq [.d tl.h,.a t,.q,.q,.q] H<|aA a.hd λr f d=>cq<|aU h.h H<|eL h.e g.aR f<|cq ?_;lk;refine dh d H<|dP ?_;generalize i:bk b=k at*;clear h f;by_cases q:k=1
 .exact gO q ⟨H,H,ZQ (P:=λv=>K v σ) (by
   apply ZP g a;rcases P7 b a.1 with e|e|e|e<;>rw[i,q] at e
   .exact aP e.1<|Y H
   .exact aP e.1<|Y H
   .exact e.2
   .exact aP e.1<|Y H) u⟩
 .have c:(k=3/\pi b=1)\/(k=4/\pi b=2)\/(k=10/\pi b=0):=by
   rcases P7 b a.1 with e|e|e|e<;>rw[i] at e
   .exact .inl e
   .exact .inr<|.inl e
   .exact aP e.1 q
   .exact .inr<|.inr e
  obtain ne:k≠2/\k∉[8,9,11,12,13]/\k≠6/\k≠7/\(k=3\/k=4\/k=1\/k=10):=by
   rcases c with⟨rfl,_⟩|⟨rfl,_⟩|⟨rfl,_⟩<;>decide
  refine eh q<|dP<|eh ne.1<|dP ?_;lk;refine F8 ne.2.1<|kA<|eh ne.2.2.1<|kA<|eh ne.2.2.2.1<|bX<|AO d ne.2.2.2.2<|dP ?_;clear g a d ne;rcases c with⟨rfl,e⟩|⟨rfl,e⟩|⟨rfl,e⟩<;>obtain u:=e▸u
  .exact⟨aE,db<|gO H u⟩
  .exact⟨aE,db<|eh (Y H) u⟩
  .exact⟨aE,u⟩
def a0Q(h:cp σ tl T)(g:bF T)(q:K (.a 0) σ):W (n+2) 19 [.d tl.h,.a (2:Nat)] σ K:=by
 refine bq [.d tl.h,.a (2:Nat),.q,.q,.q] H<|cq<|aU h.h H<|eL h.e g.aR (yL g)<|cq ?_;lk;exact dh (lb H) H<|dP<|gO H ⟨H,H,q⟩
inductive hV(T:bP):Nat->Nat->Prop
 |t8:hV T 2 0
 |atom {s b:Nat}:bB T s b->b<14->hV T s (2^b)
noncomputable def nQ(c:Nat):Nat:=if c<4 then 2^c|||2^(c+4) else if c<8 then 0 else if c=8 then 307 else if c=9 then 716 else if c<14 then 2^c else 0
def fT(m c:Nat):Bool:=decide<|m&&&nQ c≠0
def Vy:∀b,b<14->∀c,c<18->fT (2^b) c=(decide (lL b=c)||(decide (c=8)&&decide (bk b=3)||decide (c=9)&&decide (bk b=4))):=by decide+kernel
def Ef(c:Nat):fT 0 c=false:=by unfold fT;rw[a6i];rfl
def a30:∀b,b<14->bk (lL b)=bk b:=by decide+kernel
theorem hV.F(le:T.Le T'){s m:Nat}:hV T s m->hV T' s m
 |.t8=>.t8
 |.atom a h=>.atom (a.F le) h
theorem hV.is:hV T s m->Is T s m
 |.t8=>⟨[],[],.nil,H⟩
 |.atom a _=>.B a
def La(h:cp σ tl T)(g:bF T)(a:bB T t b)(q:∀u σ' T',Up tl σ T σ' T'->bB T' u (lL b)->K (.a (u:Nat)) σ'):W (n+4) 16 [.d tl.h,.a t] σ K:=by
 refine bq [.d tl.h,.a t,.q] H<|dP ?_;lk;exact BV h g a<|eh (P6 a.1)<|f7<|Ep h g a q
def W9(h:cp σ tl T)(g:bF T)(q:K (.a (2:Nat)) σ):W (n+4) 16 [.d tl.h,.a (2:Nat)] σ K:=by
 refine bq [.d tl.h,.a (2:Nat),.q] H<|dP ?_;lk;refine BU h g<|eh (Y H)<|db ?_;lk;exact bq [.d tl.h,.a (2:Nat)] H<|dP<|FW h g (yL g) (Y H)<|bd<|db q
def Vv(h:cp σ tl T)(g:bF T)(B:hV T s m)(a:bB T t c)(F:c<18)(y:∀σ' T',Up tl σ T σ' T'->K (.e<|fT m c) σ'):W (n+5) 43 [.d tl.h,.a s,.a t] σ K:=by
 refine bq [.d tl.h,.a s,.a t,.q] H<|bX ?_;have tail:∀{u σ' T' k}{r:Bool},Up tl σ T σ' T'->K (.e r) σ'->(∀P,P (.a k) σ'->W (n+4) 2 [.d tl.h,.a (u:Nat)] σ' P)->k≠5->u≠t->r=(decide (c=8)&&decide (k=3)||decide (c=9)&&decide (k=4))->
  wB (n+4) [.d (.h .eq V1 V2) [.c kT] [],.g 3<|.j 2 [V0,V1],.d (.h .eq V2<|gi 6) [.c<|.y (.h .eq V3<|gi 3)<|.u (.h .eq V3<|gi 5)<|.h .eq (.j 19 [V0,V1])<|gi 1] [],
   .c (.u (.h .eq V2<|gi 7)<|.y (.h .eq V3<|gi 4)<|.u (.h .eq V3<|gi 5)<|.h .eq (.j 19 [V0,V1])<|gi 2)] [.d tl.h,.a u,.a t,.q] σ' (rK K):=λ{u σ' T' k r} up y z l ne d=>by
  have o:t=6↔c=8:=⟨λe=>bB.q (e▸a)<|g.h<|Y H,λe=>bB.h g (e▸a)<|g.h<|Y H⟩;have p:t=7↔c=9:=⟨λe=>bB.q (e▸a)<|g.h<|Y H,λe=>bB.h g (e▸a)<|g.h<|Y H⟩;refine dP<|eh (gm ne)<|bX<|z _<|pR ?_;lk;by_cases f:c=8
  .have A:c≠9:=ay f<|Y H;rw[bA f,bR A,wc,Dq,sE] at d;apply gO (by have:=o.mpr f;exact be _ this);by_cases q:k=3;.rw[bA q] at d;exact kC q (d▸y)
   .rw[bR q] at d;exact fU q<|fU l<|d▸y
  .rw[bR f,Dq,we] at d;refine eh (λe=>f<|o.mp<|gI e)<|f7 ?_;lk;by_cases i:c=9
   .rw[bA i,wc] at d;apply kC (by have:=p.mpr i;exact be _ this);by_cases q:k=4;.rw[bA q] at d;exact kC q (d▸y)
    .rw[bR q] at d;exact fU q<|fU l<|d▸y
   .obtain d:=(bR i ..)▸d;obtain d:=(Dq ..)▸d;exact fU (λe=>i<|p.mp<|gI e)<|d▸y
 cases B with
 |t8=>
  exact W9 h g<|tail (.B h g) (((Ef ..)▸y) σ T<|.B h g) (λP=>BU h g) (Y H) (λe=>(a.A0 g) e.symm)<|by simp
 |@atom _ b C v=>
  refine La h g C λu σ' T' up j=>?_;obtain B:=Vy b v c F;obtain y:=y σ' T' up;by_cases q:lL b=c;.rw[bA q,Ss] at B;obtain y:=B▸y;exact dP<|gO (be _<|by subst q;exact j.h up.y<|a.F up.c) y
  .obtain B:=(bR q ..)▸B;obtain B:=(we ..)▸B;exact tail up y (λP=>BV up.h up.y j) ((by
    refine eW (tz j.1) λx x x h=>?_;rcases h with e|e|e|e<;>rw[e]<;>decide)) (λe=>q<|bB.q (e▸j)<|a.F up.c) (ay (a30 b v) B)
def a0R:∀b,b<30->pi b≠7:=by decide+kernel
def i9{b:Int}{K:AV->Prop}(g:K<|.e<|!decide (a=b)):eZ σ .ne (.a a) (.a b) K:=by
 obtain this:decide (AV.a a=AV.a b)=decide (a=b):=by simp
 exact⟨H,by rw[this];exact g⟩
def Vu(h:Q σ S T A)(g:hV T s m)(a:bB T t c)(y:c<18)(u:∀σ' T',Q σ' S T' A->T.Le T'->K (.e<|fT m c) σ'):W (n+6) 44 [.d S.L.g,.a s,.a t] σ K:=by
 refine bq [.d S.L.g,.a s,.a t,.q] H<|bX<|h.q<|dP<|Vv h.h h.y g a y λσ' T' up=>?_;have h':=h.F up;have b:=u σ' T' h' up.c;rcases q:fT m c with _|_
 .rw[q] at b;refine bd<|dP ?_;lk;clear u;cases g with
  |t8=>exact a0Q h'.h h'.y<|i9<|bw ⟨aE,b⟩
  |atom d e=>
   refine O8 h'.h h'.y (d.F up.c)<|i9 ?_;rw[bR<|gm<|a0R _ d.1];exact bw ⟨aE,b⟩
 .obtain b:=q▸b;exact bw b
theorem hV.row(g:bF T){s m:Nat}:hV T s m->∃k r,T.e[s]?=I (.B<|.a k::r)/\O (.a k::r:List AV)<=aR/\k≠9/\k≠11
 |.t8=>⟨1,_,yL g,lb H,Y H,Y H⟩
 |.atom a _=>by
  obtain⟨r,c,d⟩:=a.hd;obtain⟨_,_,_,b⟩:=tz a.1;exact⟨_,r,c,d,by rcases b with e|e|e|e<;>rw[e]<;>decide,by rcases b with e|e|e|e<;>rw[e]<;>decide⟩
def Vw(h:cp σ tl T)(g:bF T)(u:hV T s m)(a:bB T t c)(q:K (.e am) σ):W (n+1) 45 [.d tl.h,.a s,.a t] σ K:=by
 refine bq [.d tl.h,.a s,.a t,.q,.q] H<|o6 (u.row g) λk r e b f d=>aA a.hd λl i h4=>cq<|aU h.h H<|eL h.e g.aR e<|cq<|aU h.h H<|eL h.e g.aR i<|dP ?_;lk;refine dh b H<|dh h4 H<|i9<|TQ (λj=>q) λj=>dP ?_;lk;refine dh b H<|eh f<|db ?_;lk;exact dh b H<|fU d q
abbrev CP(T:bP):List Nat->List Nat->Prop:=F2<|hV T
def eU.tT(g:eU T E bs)(u:∀b∈bs,b<14):CP T E<|bs.map (2^·):=by
 induction g with
 |nil=>exact .nil
 |cons a r c=>exact .cons (.atom a<|u _ aZ)<|c λb g=>u b<|bK _ g
def w0:∀bs,cw (bs.map (2^·))=bW bs:=by
 intro c;induction c with
 |nil=>
  exact H
 |cons b r d=>
  show 2^b|||cw (r.map _)=_;rw[d];rfl
def GW(g:ok σ)(ht:∀x q,q (.e U) σ->x! (ci L i x) σ q):∀{xs K},
 (∀x∈xs,∀u,u x σ->z_ (ci L i x) σ u)->K xs σ->iJ x! z_ (.B i) ok L xs σ K:=by
 intro xs;induction xs with
 |nil=>
  intro _ _ b;exact b
 |cons x xs d=>
  intro _ c b;exact qU<|ht x _ ⟨aE,lM c _ ⟨g,d (jw c) b⟩⟩
def G9(h:x∈G E)(g:P x):iW x P:=by
 refine aA (bp.mp h) λi c b=>?_;subst b;exact g
def UX(h:cp σ tl T)(g:bF T)(hi:Is T t m)(y:m<2^14)(B:∀u ms,CP T u ms->cg u->O u<=18->u≠[]->cw ms=m->(m=0->ms=[0])->(m≠0->∃bs:List Nat,ms=bs.map (2^·)/\∀b∈bs,b<14)->K (.r<|G u) σ):W (n+2) 47 [.d tl.h,.a t] σ K:=by
 refine bq [.d tl.h,.a t,.q] H<|db ?_;lk;by_cases q:m=0
 .obtain this:t=2:=by subst q;exact hi.inj g ⟨[],[],.nil,H⟩
  subst this;exact gO H<|B [2] [0] (.cons .t8 .nil) (Y H) (Y H) (Y H) q.symm (λd=>H) λn=>aP q n
 .have j:t≠2:=λe=>q (by subst e;exact hi.q g ⟨[],[],.nil,H⟩);refine eh (gm j)<|qF h g hi (m3 y<|Y H) λE bs p e l i=>⟨lm i H,?_⟩;have c:=tx<|ay e y;refine GW aE (λd d h=>h) (λx k o f=>G9 k f) (B E _ (p.w.tT c) (p.h.imp hZ) i ?_ (by rw[w0];exact e) (λz=>aP z q) λd=>⟨bs,H,c⟩);intro z;subst z;cases p.w;exact q e.symm
def gW{b:Int}{A B:AV->Prop}(h:b<=a)(g:B<|.e am):eZ σ .lt (.a a) (.a b) λr=>c7 σ r λc=>if c=U then A r else B r:=by
 refine⟨aE,?_⟩;rw[bR<|rg.mpr h];exact g
def iw{b:Int}{A B:AV->Prop}(h:a<b)(g:A<|.e U):eZ σ .lt (.a a) (.a b) λr=>c7 σ r λc=>if c=U then A r else B r:=by
 refine⟨aE,?_⟩;rw[bA h];exact g
def Qq(h:Q σ S T A)(hi:Is T t m)(q:m<2^18)(u:∀p,p<4->aQ m (p+14)=U->p∈S.D.a)(y:∀σ' g,Q σ' S T g->K (.e<|decide<|2^14<=m) σ'):W (n+3) 31 [.d S.L.g,.a t] σ K:=
 c_ (S:=S.q T A) h.st h.ask hi q u λσ' g h' b=>y σ' g ⟨h',b⟩
def OB(h:Q σ S T A)(hi:Is T t m)(g:m<2^14)(u:∀{P},P x->iW x P)(y:∀σ' q,Q σ' S T q->K .j σ'):W (n+5) 28 [.d S.L.g,.a s,.a t,x] σ K:=by
 refine bq [.d S.L.g,.a s,.a t,x] H<|mg ?_;dsimp only[e3,GK,l1,l2,dg];refine u<|bq [.d S.L.g,.a s,.a t,x] H<|pR ?_;lk;refine gW (dI s)<|Qq h hi (m3 g<|Y H) (λp c b=>?_) λσ' q h'=>?_;.rw[jR<|eR g<|pw<|jE 14 p] at b;exact dj b
 .rw[bR<|sy.mpr g];exact⟨aE,bw ⟨aE,aw<|y σ' q h'⟩⟩
def Oz(D)(i):dA (dL (kH D)<|.a (i:Nat))=decide (i∈D):=by
 by_cases q:i∈D;.rw[bA q];exact(Gu D i).mpr ⟨i,q,H⟩
 .rw[bR q];exact(Gu D).g λu b e=>q<|ay (gI e:i=u) b
noncomputable abbrev E(ps:List<|Nat×Nat):List Nat:=ps.map (·.1)
def GS.u(S:GS)(l1 l2:a7)(D1 D2:List Nat):GS:={S with X:=(l2,.a 0<|kH D2)::(l1,.a 0<|kH D1)::S.X}
def F6:O (fZ D i)<=O D+1:=by unfold fZ;split<;>simp
noncomputable abbrev yh(S:GS)(l1 l2:a7)(q tv cl pr u y g y! y_:AV):List AV:=[.d S.L.g,q,tv,cl,pr,.d S.tl.h,.d l1,.d l2,u,y,g,y!,y_]
def Ho(n:Nat)(S:GS)(cl:AV)(y':PE)(sm:Nat->Nat->Bool):Prop:=∀(l1 l2:a7)(D1 D2:List Nat)(d tv pr b y! y_:AV)(s m t c:Nat)(σ:av)(T:bP)(A:List<|Nat×Bool)(K:AV->av->Prop),
 Q σ (S.u l1 l2 D1 D2) T A->hV T s m->bB T t c->c<18->(∀σ' T',Q σ' (S.u l1 l2 D1 D2) T' A->T.Le T'->K (.e<|sm m c) σ')->a6 (W<|n+6) y' (yh S l1 l2 d tv cl pr (.a t) (.a s) b y! y_) σ K
abbrev DO(y':PE):List PS:=[.g 10 y',.d iB [.l<|.A V0 4 [V9,V8,V4],.m V6 V9 N1,.m V7 V8 N1] []]
def T8{l1 l2:a7}{F:AV}(N:∀{P:AV->Prop},P pr->iW pr P)(R:Ho n S cl y' sm)(M:∀m c,sm m c=U->c<14){t c:Nat}(X:c<18):∀{ps:List<|Nat×Nat}{D1 D2:List Nat}{u g:AV}{σ:av}{T:bP}{A:List<|Nat×Bool}{K:Option AV->List AV->av->Prop},
 Q σ (S.u l1 l2 D1 D2) T A->(∀p∈ps,hV T p.1 p.2)->bB T t c->O D1+O ps<=aR->O D2+O ps<=aR->
 (∀σ' T' y u g,Q σ' (S.u l1 l2 (((ps.filter λp=>sm p.2 c).map (·.1)).foldl fZ D1)<|((ps.filter λp=>sm p.2 c).map λζ=>t).foldl fZ D2) T' y->T.Le T'->K .none (yh S l1 l2 F tv cl pr (.a t) u g y! y_) σ')->
 cu (wB (n+6)<|DO y') (.B 9) dc (G<|E ps) (yh S l1 l2 F tv cl pr (.a t) u g y! y_) σ K:=by
 intro ps;induction ps with
 |nil=>
  intro D1 D2 u g σ T A K h _ _ _ _ i;exact i σ T A u g h<|.B T
 |cons p ps v=>
  intro D1 D2 u g σ T A K h x a l o i;refine fj<|bX<|R l1 l2 D1 D2 F tv pr g y! y_ p.1 p.2 t c σ T A _ h (x p aZ) a X λr C d b=>bV ?_;obtain k:=λq hq=>(x q<|bK _ hq).F b;rw[jf] at i;rcases z:sm p.2 c with _|_;.rw[z] at i;exact bd ⟨aE,v d k (a.F b) (je l) (je o) λσ' T' y u g h' j=>i σ' T' y u g h'<|b.q j⟩
  .rw[z] at i;refine bw<|ia ?_;lk;refine fY d.st.g H<|N<|OB (S:=S.u l1 l2 D1 D2) d (Is.B<|a.F b) (tI (Y H)<|M _ _ z) N λs D e=>⟨aE,iY ?_⟩;lk;apply vg (e.P (B:=[(l2,.a 0<|kH D2)]) H) y3 (by rw[Gr];exact kX l);obtain f:=e.wO (B:=[(l2,.a 0<|kH D2)]) (.a 0<|kH<|fZ D1 p.1) H;rw[Gq];refine iY (vg (f.P (B:=[]) H) y3 (by rw[Gr];exact kX o) ?_);rw[Gq];exact aw ⟨aE,v (f.wO (B:=[]) (.a 0<|kH<|fZ D2 t) H) k (a.F b) (xe F6 l) (xe F6 o) λσ' T' y u g h' j=>i σ' T' y u g h'<|b.q j⟩
noncomputable def Cd(sm:Nat->Nat->Bool)(ps qs:List<|Nat×Nat):List Nat:=qs.flatMap λq=>(ps.filter λp=>sm p.2 q.2).map (·.1)
noncomputable def xn(sm:Nat->Nat->Bool)(ps qs:List<|Nat×Nat):List Nat:=qs.flatMap λq=>(ps.filter λp=>sm p.2 q.2).map λb=>q.1
def OQ:∀(is D:List Nat),O (is.foldl fZ D)<=O D+O is:=by
 intro is;induction is with
 |nil=>
  exactλD=>ce _
 |cons i is b=>
  intro D;rw[kq];exact yW (b<|fZ D i) F6
def T7{l1 l2}(N:∀{P},P pr->iW pr P)(R:Ho n S cl y' sm)(F:∀m c,sm m c=U->c<14)(u:O ps<=18):∀{qs D1 D2 B y g σ T A K},
 Q σ (S.u l1 l2 D1 D2) T A->(∀p∈ps,hV T p.1 p.2)->(∀q∈qs,bB T q.1 q.2/\q.2<18)->O D1+18*O qs<=aR->O D2+18*O qs<=aR->
 (∀σ' T' M B y g,Q σ' (S.u l1 l2 ((Cd sm ps qs).foldl fZ D1)<|(xn sm ps qs).foldl fZ D2) T' M->T.Le T'->K .none (yh S l1 l2 (.r<|G<|E ps) tv cl pr B y g y! y_) σ')->
 cu (wB (n+6) [.h (.B 9) V1<|DO y']) (.B 8) dc (G<|E qs) (yh S l1 l2 (.r<|G<|E ps) tv cl pr B y g y! y_) σ K:=by
 intro qs;induction qs with
 |nil=>
  intro D1 D2 B y g σ T A K h _ _ _ _ b;exact b σ T A B y g h<|.B T
 |cons q qs C=>
  intro D1 D2 B y g σ T A K h o hq s t b;refine fj<|gg<|bY (hq q aZ) λD I=>⟨kG u H,?_⟩;obtain f1:=OQ ((ps.filter λp=>sm p.2 q.2).map (·.1)) D1;obtain v:=OQ ((ps.filter λp=>sm p.2 q.2).map λL=>q.1) D2;obtain x:=k9 (λp:Nat×Nat=>sm p.2 q.2) ps;rw[ba] at f1 v;refine T8 N R F I h o D (Fh u s) (Fh u t) λσ' T' M y g h' d=>aw ⟨aE,C h' (λp l=>(o p l).F d) (λr z=>⟨(hq r<|bK _ z).1.F d,(hq r<|bK _ z).2⟩) (yV (aV f1<|jq (aV x u) _) s) (yV (aV v<|jq (aV x u) _) t) λe i j B y g k f=>?_⟩;obtain b:=v8▸b;obtain b:=v8▸b;exact b e i j B y g k<|d.q f
def v_{x}:x∈Cd sm ps qs↔∃q∈qs,∃p∈ps,sm p.2 q.2=U/\p.1=x:=by
 unfold Cd;simp only[a6L,bp,cG,and_assoc]
def u!{x}:x∈xn sm ps qs↔∃q∈qs,∃p∈ps,sm p.2 q.2=U/\q.1=x:=by
 unfold xn;simp only[a6L,bp,cG,and_assoc]
def B9{f}(h:∀p∈ps,f p.1=g p):(E ps).filter f=E (ps.filter g):=by
 rw[R9];exact be _<|Io h
theorem hV.q(g:bF T){s m m':Nat}(u:hV T s m)(h':hV T s m'):m=m':=u.is.q g h'.is
noncomputable def oi(sm:Nat->Nat->Bool)(ps qs:List<|Nat×Nat):List<|Nat×Nat:=ps.filter λp=>!qs.any λq=>sm p.2 q.2
noncomputable def oU(sm:Nat->Nat->Bool)(ps qs:List<|Nat×Nat):List<|Nat×Nat:=qs.filter λq=>!ps.any λp=>sm p.2 q.2
def T9(N:∀{P},P pr->iW pr P)(R:Ho n S cl y' sm)(F:∀m c,sm m c=U->c<14)(h:Q σ S T A)(M:∀p∈ps,hV T p.1 p.2)(hq:∀q∈qs,bB T q.1 q.2/\q.2<18)(y:O ps<=18)(u:O qs<=18)(X:∀σ' T' A',Q σ' S T' A'->T.Le T'->K (.B [.r<|G<|E<|oi sm ps qs,.r<|G<|E<|oU sm ps qs]) σ'):
 wB (n+6) [.g 5<|.p (.p V0 11) 10,.g 6<|.w 41 0,.g 7<|.w 42 0,.h (.B 8) V2 [.h (.B 9) V1<|DO y'],.u 6,.u 7,
  .c (.B [.z (.B 11) V1 (I<|.h .b jP V6) jP,.z (.B 12) V2 (I<|.h .b k7 V7) k7])]
  [.d S.L.g,.r<|G<|E ps,.r<|G<|E qs,cl,pr,.q,.q,.q,.q,.q,.q,.q,.q] σ (rK K):=by
 refine cq<|h.q<|cq ?_;intro Z f1;obtain f:=h.N (.a 0 [])<|f1 41;apply cq;intro z D;obtain l:=f.N (.a 0 [])<|D 42;refine lf ⟨kG u H,T7 (D1:=[]) (D2:=[]) N R F y l M hq (by show 0+18*O qs<=1048576;exact yP u H) (by show 0+18*O qs<=1048576;exact yP u H) λt o r x8 x9 L j k=>?_⟩;obtain C:=j.R (B:=[(⟨42,z⟩,.a 0<|kH<|(xn sm ps qs).foldl fZ [])]) H;refine p7 H (j.P (B:=[(⟨42,z⟩,.a 0<|kH<|(xn sm ps qs).foldl fZ [])]) H)<|p7 H (C.P (B:=[]) H)<|db ⟨kG y H,tj (q:=λi=>!decide (i∈(Cd sm ps qs).foldl fZ [])) aE (λi v V ht=>?_) (λi v W x=>x) ?_⟩;.lk;apply Br;rw[Oz];exact ht
 refine⟨kG u H,tj (q:=λi=>!decide (i∈(xn sm ps qs).foldl fZ [])) aE (λi v V ht=>?_) (λi v W x=>x) ?_⟩;.lk;refine Br ?_;rw[Oz];exact ht
 obtain g:=h.y;rw[B9 (g:=λp=>!qs.any λq=>sm p.2 q.2) λp s=>?_,B9 λq s=>?_];.exact X _ o r (C.R (B:=[]) H) k
 .congr 1;rw[gu,dT,GA,u!,iG] at⊢;constructor
  .rintro(h|⟨Y,b,p,d,f,l⟩);.cases h
   .obtain e:=bB.q (hq Y b).1<|ay l<|(hq q s).1;exact⟨p,d,by rw[<-e];exact f⟩
  .rintro⟨p,d,f⟩;exact .inr ⟨q,s,p,d,f,H⟩
 .congr 1;rw[gu,dT,GA,v_,iG] at⊢;constructor
  .rintro(h|⟨q,b,p',d,f,l⟩);.cases h
   .obtain e:=hV.q g (M p' d)<|ay l<|M p s;exact⟨q,b,by rw[<-e];exact f⟩
  .rintro⟨q,b,f⟩;exact .inr ⟨q,b,p,s,f,H⟩
def Vx:∀c,c<18->nQ c≠0->c<14:=by decide+kernel
def Jx(M:∀{P},P pr->iW pr P)(h:Q σ S T A)(N:∀p∈ps,hV T p.1 p.2)(hq:∀q∈qs,bB T q.1 q.2/\q.2<18)(u:O ps<=18)(y:O qs<=18)(B:∀σ' T' R,Q σ' S T' R->T.Le T'->K (.B [.r<|G<|E<|oi (if g thenλF F=>am else fT) ps qs,.r<|G<|E<|oU (if g thenλF F=>am else fT) ps qs]) σ'):
 W (n+7) 46 [.d S.L.g,.r<|G<|E ps,.r<|G<|E qs,.e g,pr] σ K:=by
 refine bq [.d S.L.g,.r<|G<|E ps,.r<|G<|E qs,.e g,pr,.q,.q,.q,.q,.q,.q,.q,.q] H<|T9 M ?_ ?_ h N hq u y B
 .intro l1 l2 D1 D2 j tv pr f y! y_ s m t c σ T A K h b d i B;rcases g with _|_;.exact bd (Vu (S:=S.u l1 l2 D1 D2) h b d i B)
  .exact bw<|Vw h.h h.y b d<|B σ T h<|.B T
 .intro m c e;clear M h N hq u y B;rcases g with _|_
  .by_cases q:c<18;.refine Vx c q λz=>?_;obtain e:fT m c=true:=e;unfold fT at e;obtain e:=(z ..)▸e;obtain e:=(sC ..)▸e;exact dj e
   .obtain e:fT m c=true:=e;unfold fT nQ at e;rw[Z<|lq (fw.mp q) H,Z<|lq (fw.mp q) H,Z<|w6 (fw.mp q) H,Z<|w6 (fw.mp q) H,Z<|lq (fw.mp q) H,sC] at e;exact dj e
  .exact dj e
end
noncomputable section
open PySem (Str)
variable{σ σ':av} {a o:Int} {b m n t p i k q m' r u s N N' tm x! mq z_ y_ d:Nat} {K:AV->av->Prop} {f:Nat->List (Nat×Nat)} {S:GS} {T T':bP} {A:List (Nat×Bool)} {α β:Type} {P ss ws ms y! z!:List Nat} {V:GV} {R R':Nat->List cQ} {cs B_:List kO} {x y:Nat×Nat} {l:a7} {c:List iI} {es:List (AV×AV)} {D:Nat->Option Nat} {vs L:List AV} {e:iI} {z y':Bool} {w:WD} {rest:List PS} {tv x4 x9 B' A! A_ x5 x0 x1 x3 x2:AV} {ps qs:List (Nat×Nat)} {ok:av->Prop} {now now':cJ} {rp:cJ->Nat->Nat×cJ} {fl:Nat->Bool}
def om{b:Int}{K:AV->Prop}(g:K<|.a<|a+b):jr σ .add (.a a) (.a b) K:=g
def rE{b:Int}{K:AV->Prop}(g:K<|.a<|a-b):jr σ .sub (.a a) (.a b) K:=g
noncomputable def oj(b:Nat):Bool:=decide<|b<12\/18<=b
set_option tactic.hygienic false
def a40{f:Nat->Bool}{bs:List Nat}(j:m<2^18)(e:bW bs=m):bs.any f=(mz m).any f:=by
 rw[gu,iG,iG] at⊢;obtain this:∀b,b∈bs↔b∈mz m:=λb=>by
  rw[ty j,<-e,fF,dT]
 exact⟨λc=>aA c λb d g=>⟨b,(this b).mp d,g⟩,λc=>aA c λb d g=>⟨b,(this b).mpr d,g⟩⟩
def Q.qO(g:Q σ S T A){K}(B:K<|.d S.tl.h):oe σ (.d S.L.q) 10 K:=aU g.st.q H B
def XC:∀b,b<18->(bk b=10/\oj b=am)\/((bk b=3\/bk b=4\/bk b=1)/\oj b=(decide (pi b≠7)&&decide (pi b≠0))):=by decide+kernel
def Lo(h:Q σ S T A)(a:bB T t b)(v:b<18)(hd:g<=12)(j:K (.e<|oj b) σ):wB (n+2) PD.body [.d S.L.q,.a t,.a g,.q,.q,.q,.q] σ<|rK K:=by
 refine aA a.hd λr l m=>?_;have c:∀{K:AV->Prop},K (.a<|bk b)->gL σ (.B<|.a (bk b)::r) (.a (0:Nat)) K:=dh m H;apply bX;lk;refine fY h.st.q H<|uq<|bX ?_;lk;refine h.qO<|aU h.h.h H<|eL h.h.e h.y.aR l<|dP ?_;lk;refine o9 (jW hd<|Y H)<|bV ?_;lk;obtain f:=XC b v;generalize o:bk b=k at*;obtain ne:k≠6/\k≠7/\k≠14/\k≠18/\k≠16/\k≠15:=by
  clear v hd l m;rcases f with⟨rfl,_⟩|⟨rfl|rfl|rfl,_⟩<;>decide
 refine c<|fU ne.1<|c<|eh ne.2.1<|bV ?_;lk;refine c<|fU ne.2.2.1<|c<|eh ne.2.2.2.1<|bV ?_;lk;refine c<|fU ne.2.2.2.2.1<|c<|fU ne.2.2.2.2.2<|c ?_;clear v hd l m c ne;rcases f with⟨rfl,e⟩|⟨f,e⟩;.obtain j:=e▸j;refine gO H<|bX ?_;lk;refine fY h.st.q H<|bq [.d S.L.q,.a t] H<|db ?_;lk;apply db;lk;apply i9;rw[bA H];exact bd j
 .obtain j:=e▸j;refine eh (by rcases f with rfl|rfl|rfl<;>decide)<|bX ?_;lk;refine h.qO<|O8 h.h h.y a<|db ?_;lk;apply i9;by_cases q:pi b=7;.rw[bA<|be _ q];rw[bR λz=>z q] at j;exact bd j
  .rw[bR<|gm q];refine bw<|i9 ?_;rw[bA q] at j;by_cases i:pi b=0;.rw[bA<|be _ i];rw[bR λz=>z i] at j;exact j
   .rw[bR<|gm i];rw[bA i] at j;exact j
def XD(h:Q σ S T A)(a:bB T t b)(j:b<18)(hd:g<=12)(v:K (.e<|oj b) σ):W (n+3) 32 [.d S.L.q,.a t,.a g] σ K:=
 bq [.d S.L.q,.a t,.a g,.q,.q,.q,.q] H (Lo h a j hd v)
def XB(h:Q σ S T A){x3 x5 x6:AV}{t:Int}:∀{E bs:List Nat}{x4:AV}{K:Option AV->List AV->av->Prop},eU T E bs->(∀b∈bs,b<18)->
 (bs.any oj=U->∀x4,K (I<|.e U) [.d S.L.q,.a t,.a 0,x3,x4,x5,x6] σ)->(bs.any oj=am->∀x4,K .none [.d S.L.q,.a t,.a 0,x3,x4,x5,x6] σ)->
 cu (wB (n+3) M1) (.B 4) dc (G E) [.d S.L.q,.a t,.a 0,x3,x4,x5,x6] σ K:=by
 intro E bs x4 K P;induction P generalizing x4 K with
 |nil=>exactλg g c=>c H x4
 |@cons i b is bs a r j=>
  refineλd f c=>fj (vh ?_)
  lk;refine om<|XD h a (d b aZ) (Y H) ?_;rcases q:oj b with _|_;.exact bd<|aw ⟨aE,j (jw d) (λe=>f<|by rw[sD,e,m5]) λe=>c<|by rw[sD,e,q];rfl⟩
  .exact bw<|f (by rw[sD,q];rfl) _
def XA(h:Q σ S T A)(hi:Is T t m)(j:m<2^18)(hz:m≠0)(g:K (.e<|(mz m).any oj) σ):W (n+4) 32 [.d S.L.q,.a t] σ K:=by
 refine gk hi λE bs p e=>?_;have b:=tx<|ay e j;rw[<-a40 j e] at g;apply bq [.d S.L.q,.a t,.a 0,.q,.q,.q,.q] H;cases p with
 |nil=>exact aP e.symm hz
 |B a=>
  rw[show[_].any oj=oj _ from sE _] at g;exact Lo h a (b _ aZ) (Y H) g
 |@a _ E bs c kI a _ _=>
  apply cq;lk;refine fY h.st.q H<|uq<|cq ?_;lk;refine h.qO<|aU h.h.h H<|eL h.h.e h.y.aR c<|dP ?_;lk;refine o9 (Y H)<|bV ?_;lk;refine dh (lb H) H<|kC H ⟨aE,gg ?_⟩;lk;refine dh (lb H) H ⟨?_,?_⟩;.rw[ba];exact bG (a.w h.y (kI.imp hZ) b) H
  .refine XB h a b (λe d=>?_) λe d=>?_;.rw[e] at g;exact g
   .rw[e] at g;exact db g
structure cQ where
 m:Nat
 r:Nat
 s:Nat
 w:Bool
structure HS where
 e:List (Nat×Nat)
 f:List (Nat×Nat)
 c:Option Nat
 az:Nat
 B:Bool
 a:Nat
noncomputable def k6(l:List<|Nat×Nat)(x:Nat×Nat):List<|Nat×Nat:=if x∈l then l else l++[x]
def NS(o:Option Nat)(m:Nat):Nat:=match o with|some k=>eV (k|||m)|none=>m
def HS.g(p:HS)(m r:Nat):HS:=
 if r<p.az then{p with az:=r,c:=I m} else if r=p.az then{p with c:=I<|NS p.c m} else p
def HS.j3(p:HS)(m r:Nat)(ik w:Bool):HS:=
 ⟨if ik then p.e else k6 p.e (m,r),if ik then k6 p.f (m,r) else p.f,p.c,p.az,if r<p.a then w else p.B||w,if r<p.a then r else p.a⟩
def HS.M(p:HS)(x:cQ):HS:=if x.s=2 then p.g x.m x.r else p.j3 x.m x.r (x.s==1) x.w
noncomputable def HS.nil:HS:=⟨[],[],C,1024,am,1024⟩
def aM(R:List cQ):HS:=R.foldl HS.M HS.nil
def xj(R)(x):aM (R++[x])=(aM R).M x:=v8 ..
structure eC{α:Type}(P:List Nat)(d:List<|Nat×α)(sO:Nat->Option α->Prop):Prop where
 nd:(ks d).Nodup
 g:∀k∈ks d,k∈P
 b:∀p∈P,sO p (lk d p)
def eC.st(h:eC P B sO)(F:p∈P)(M:t6 p<|I v)(X:∀q∈P,q≠p->∀x,sO q x->t6 q x):eC P (st B p v) t6:=by
 refine⟨JM h.nd,λk c=>?_,λq hq=>?_⟩
 .refine aA (bp.mp c) λx hx b=>?_;clear c;subst b;rcases DY hx with rfl|hx;.exact F
  .exact h.g _<|dU hx
 .rw[MP];by_cases e:q=p;.rw[ak e,e];exact M
  .rw[Z e];exact X q hq e _<|h.b q hq
def eC.j(h:eC P v sO)(B:t6 p C)(F:∀q∈P,q≠p->∀x,sO q x->t6 q x):eC P (dl v p) t6:=by
 refine⟨h.nd.sublist<|Pj p v,λk b=>h.g k<|(Pj p v).subset b,λq hq=>?_⟩;rw[MS p q h.nd];by_cases e:q=p;.rw[ak e,e];exact B
 .rw[Z e];exact F q hq e _<|h.b q hq
def eC.fX(h:eC P v sO)(B:∀q∈P,∀x,sO q x->t6 q x):eC P v t6:=⟨h.nd,h.g,λq hq=>B q hq _<|h.b q hq⟩
def eC.aT(h:eC P v sO)(B:∀p∈P,p<4):O v<=aR:=by
 have:=sQ 4 (ks v) h.nd λk b=>B k<|h.g k b;rw[ba] at this;exact bG this H
def m6(T:bP)(es:List<|Nat×Nat×Nat)(l:List<|Nat×Nat):Prop:=es.map (·.2)=l/\∀x∈es,Is T x.1 x.2.1/\Nm x.2.1
structure mF(P:List Nat)(T:bP)(es:List iI)(f:Nat->List (Nat×Nat)):Prop where
 nd:(es.map iI.a).Nodup
 g:∀e∈es,e.a∈P
 b:∀e∈es,m6 T e.es (f e.a)
 ne:∀e∈es,e.es≠[]
 out:∀p∈P,p∉es.map iI.a->f p=[]
def sn(T:bP):Option Nat->Option Nat->Prop
 |some t,I m=>Is T t m/\Nm m
 |none,C=>True
 |_,_=>False
structure GI(P:List Nat)(V:GV)(T:bP)(R:Nat->List cQ):Prop where
 e:mF P T V.e λp=>(aM<|R p).e
 f:mF P T V.f λp=>(aM<|R p).f
 c:eC P V.c λp x=>sn T x (aM<|R p).c
 az:eC P V.az λp x=>x.getD 1024=(aM<|R p).az
 B:eC P V.B λp x=>x.isSome=(aM<|R p).B
 i:eC P V.i λp x=>x.getD 1024=(aM<|R p).a
theorem m6.F(le:T.Le T'){es l}(h:m6 T es l):m6 T' es l:=⟨h.1,λx b=>⟨(h.2 x b).1.F le,(h.2 x b).2⟩⟩
theorem mF.F(le:T.Le T'){es:List iI}{f:Nat->List (Nat×Nat)}(h:mF P T es f):mF P T' es f:=⟨h.nd,h.g,λe b=>(h.b e b).F le,h.ne,h.out⟩
theorem sn.F(le:T.Le T'){x y}(h:sn T x y):sn T' x y:=by
 induction x using Option.casesOn<;>induction y using Option.casesOn<;>first|exact h|exact⟨Is.F le h.1,h.2⟩
theorem GI.F(le:T.Le T')(h:GI P V T R):GI P V T' R:=⟨h.e.F le,h.f.F le,h.c.fX λb b b x=>x.F le,h.az,h.B,h.i⟩
def ig.Ls(p:B_.Perm cs)(h:ig σ cs):ig σ B_:=λx b=>h x<|p.mem_iff.mp b
def MN(p:B_.Perm cs)(h:cg<|j6 cs):cg<|j6 B_:=(p.map _).nodup_iff.mpr h
def St.A3(j:St σ S)(S':GS){l:a7}{o o':eE}{rest:List kO}(p:(jA S).Perm<|(l,o)::rest)(p':(jA S').Perm<|(l,o')::rest)(B:S'.T=S.T)(v:S'.tl=S.tl):St (σ.u l o') S':=by
 obtain nd:=MN p.symm j.nd;exact⟨.Ls p'<|(ig.Ls p.symm j.r).set (k:=0) nd H,MN p' nd,ay B j.y,ay v j.b⟩
def Q.oh(g:Q σ S T A)(B)(X:B.h=S.D.h)(e:fs=gF {S with D:=B}):Q (σ.u S.L.g<|.d 1 fs) {S with D:=B} T A:=by
 subst e;refine⟨g.st.set _ 6 H ?_ H H,g.ask⟩;show nN S.tl T++(lh (GS.q {S with D:=B} T A)++_)=(nN S.tl T++(lh (S.q T A)++_)).set 6 _;unfold lh;congr 1;rw[X];rfl
def Q.JY(g:Q σ S T A)(B):Q (σ.u S.L.c<|.a 0<|dN B) {S with V:={S.V with c:=B}} T A:=⟨g.st.set _ 12 H H H H,g.ask⟩
def Q.Vd(g:Q σ S T A):Q (σ.u S.L.A1<|.a 0 []) S T A:=⟨g.st.set _ 13 H H H H,g.ask⟩
def Q.Vc(g:Q σ S T A)(B):Q (σ.u S.L.az<|.a 0<|dN B) {S with V:={S.V with az:=B}} T A:=⟨g.st.set _ 14 H H H H,g.ask⟩
def Q.Vb(g:Q σ S T A):Q (σ.u S.L.DA<|.a 2 []) S T A:=⟨g.st.set _ 17 H H H H,g.ask⟩
def Q.J0(g:Q σ S T A)(B):Q (σ.u S.L.B<|.a 0<|dN B) {S with V:={S.V with B:=B}} T A:=⟨g.st.set _ 20 H H H H,g.ask⟩
def Q.Ve(g:Q σ S T A)(B):Q (σ.u S.L.i<|.a 0<|dN B) {S with V:={S.V with i:=B}} T A:=⟨g.st.set _ 21 H H H H,g.ask⟩
noncomputable def GS.F(S:GS)(b:Int)(f:a7)(V:GV):GS:={S with D:={S.D with bM:=b,h:=f},V:=V}
noncomputable def GV.bH(V:GV)(b:Bool):List iI:=bif b then V.f else V.e
noncomputable def GV.g(V:GV)(b:Bool)(es:List iI):GV:=bif b then{V with f:=es} else{V with e:=es}
noncomputable def Iv.bH(L:Iv)(b:Bool):a7:=bif b then L.f else L.e
def Q.L9(g:Q σ S T A){l:a7}(B:σ l=C):Q ((σ.u l<|.a 0 []).u S.L.g<|.d 1<|oA (gF S) 43<|.d l) (S.F S.D.bM l {S.V with h:=[]}) T A:=by
 obtain nd:=Zh g.st.nd<|g.st.r.EQ B;exact⟨⟨((g.st.r.swap (k:=27) B).set nd (k:=6) H:ig _ _),nd,g.st.y,g.st.b⟩,g.ask⟩
def Q.OK(g:Q σ S T A){l:a7}{o:eE}(B:σ l=C):(σ.u l o) S.L.g=I (.d 1<|gF S):=(g.st.r.fresh B).F (k:=6) H
def Ct{x}(h:cs[i]?=I x):cs.Perm<|x::cs.eraseIdx i:=by
 refine bc (jV.mp h) λb c=>?_;obtain e:cs.take i++x::cs.drop (i+1)=cs:=by rw[<-c,<-List.drop_eq_getElem_cons b,xU]
 rw[List.eraseIdx_eq_take_drop_succ];exact(List.Perm.of_eq e.symm).trans Ap
def a2U(es)(p:Nat)(l)(h:p∉es.map iI.a):mV (dE es) (.a p) (.d l)=dE (es++[⟨p,l,[]⟩]):=by
 rw[Cy l] at⊢;congr 1;induction es with
 |nil=>rfl
 |cons e es b=>
  rw[lG,cf] at h;show(if e.a=p then _ else _)=_;rw[Z λq=>h<|.inl q.symm,b λq=>h<|.inr q];rfl
def Q.YA(g:Q σ S T A)(b:Bool){l:a7}{p:Nat}(B:σ l=C)(X:p∉(S.V.bH b).map iI.a):
 Q ((σ.u l<|.b []).u (S.L.bH b)<|.a 0<|mV (dE<|S.V.bH b) (.a p)<|.d l) {S with V:=S.V.g b<|S.V.bH b++[⟨p,l,[]⟩]} T A:=by
 rw[a2U _ p l X];obtain c:=(g.N (.b []) B).st;refine⟨?_,g.ask⟩;clear g B X;rcases b with _|_;.refine c.A3 _ (Ct (i:=9) H) ((Ct (i:=9) H).trans<|.cons _ ?_) H H;show(((nN S.tl T++lh (S.q T A)).eraseIdx 9)++((S.V.e++[iI.mk p l []]).map jN++(S.V.f.map jN++S.X))).Perm<|((nN S.tl T++lh (S.q T A)).eraseIdx 9)++(S.V.e.map jN++(S.V.f.map jN++jN (iI.mk p l [])::S.X));refine .append_left _ ?_;rw[d9,gc];refine .append_left _ ?_;show(jN (iI.mk p l [])::(S.V.f.map jN++S.X)).Perm _;exact Ap.symm
 .refine c.A3 _ (Ct (i:=10) H) ((Ct (i:=10) H).trans<|.cons _ ?_) H H;show(((nN S.tl T++lh (S.q T A)).eraseIdx 10)++(S.V.e.map jN++((S.V.f++[iI.mk p l []]).map jN++S.X))).Perm<|((nN S.tl T++lh (S.q T A)).eraseIdx 10)++(S.V.e.map jN++(S.V.f.map jN++jN (iI.mk p l [])::S.X));refine .append_left _<|.append_left _ ?_;rw[d9,gc];exact .append_left _ .rfl
def PK(a c)(e)(x):dE (a++{e with es:=x}::c)=dE (a++e::c):=by
 unfold dE;rw[d9,d9];rfl
def Bz(u w y g)(x:kO):(u++((w++x::y)++g)).Perm<|x::(u++((w++y)++g)):=by
 rw[gc,gc,<-gc u,<-gc u] at⊢;exact Ap
def Q.Vi(g:Q σ S T A)(b){a c}(B:S.V.bH b=a++e::c)(x):
 Q (σ.u e.l<|.b<|x.map lz) {S with V:=S.V.g b<|a++{e with es:=x}::c} T A:=by
 refine⟨?_,g.ask⟩;obtain d:=g.st;rcases b with _|_
 .have B:S.V.e=a++e::c:=B;have key:∀co,dE co=dE (a++e::c)->lh (GS.q {S with V:={S.V with e:=co}} T A)=lh (GS.q {S with V:={S.V with e:=a++e::c}} T A):=λco q=>by
   show _::_::_::(_,eE.a 0<|dE co)::_=_;rw[q];rfl
  have e1:S={S with V:={S.V with e:=a++e::c}}:=by rw[<-B]
  rw[e1] at d;refine d.A3 _ (rest:=(nN S.tl T++lh (GS.q {S with V:={S.V with e:=a++e::c}} T A))++((a.map jN++c.map jN)++(S.V.f.map jN++S.X))) (o:=.b<|e.es.map lz) ?_ ?_ H H;.unfold jA;rw[<-gc,d9];exact Bz ..
  .show(nN S.tl T++lh (GS.q {S with V:={S.V with e:=a++{e with es:=x}::c}} T A)++((a++{e with es:=x}::c).map jN++_)).Perm _;rw[key _<|PK a c e x,d9];exact Bz ..
 .have B:S.V.f=a++e::c:=B;have key:∀(co:List iI),dE co=dE (a++e::c)->lh (GS.q {S with V:={S.V with f:=co}} T A)=lh (GS.q {S with V:={S.V with f:=a++e::c}} T A):=λco q=>by
   show _::_::_::_::(_,eE.a 0<|dE co)::_=_;rw[q];rfl
  have e1:S={S with V:={S.V with f:=a++e::c}}:=by rw[<-B]
  rw[e1] at d;refine d.A3 _ (rest:=((nN S.tl T++lh (GS.q {S with V:={S.V with f:=a++e::c}} T A))++S.V.e.map jN)++((a.map jN++c.map jN)++S.X)) (o:=.b<|e.es.map lz) ?_ ?_ H H;.unfold jA;rw[<-gc,<-gc];rw[d9];exact Bz ..
  .unfold jA;show(nN S.tl T++lh (GS.q {S with V:={S.V with f:=a++{e with es:=x}::c}} T A)++S.V.e.map jN++((a++{e with es:=x}::c).map jN++_)).Perm _;rw[key _<|PK a c e x,d9];exact Bz ..
abbrev OU(v:AV):Prop:=match v with|.B _=>False|.r _=>False|.g _ _=>False|.d _=>False|_=>True
def xp{c P}(h:σ l=I (.a c es))(g:P es):ul σ (.d l)=U/\pK σ (.d l) P:=⟨Gn h,Ml h g⟩
def Gv(g)(p y:Nat):(dL (dN g)<|.a p).getD (.a y)=.a ((lk g p).getD y:Nat):=by
 rw[po];cases lk g p<;>rfl
def Ey{c k x}(h:σ l=I (.a c es))(g:O es<=aR)(j:dK c k=U)(v:K ((dL es k).getD x)<|σ.u l<|.a c<|oB es k):ul σ (.d l)=U/\AK σ (.d l) k x K:=by
 refine⟨Gn h,?_⟩;unfold AK;simp only[h];exact⟨g,j,v⟩
def Ez{K:av->Prop}(h:σ l=I (.a 0<|dN g))(j:O g<=aR)(B:K<|σ.u l<|.a 0<|dN<|dl g p):ul σ (.d l)=U/\AK σ (.d l) (.a p) .j λv σ₁=>OU v/\K σ₁:=by
 refine Ey h (by rw[qT];exact j) H ⟨?_,?_⟩;.rw[po];cases lk g p<;>exact aE
 .rw[a1i];exact B
def me{K:av->Prop}(h:σ l=I (.a 0<|dN g))(j:O g<=aR)(B:K<|σ.u l<|.a 0<|dN<|st g p v):l8 σ (.d l) (.a p) (.a v) K:=vg h H (by rw[qT];exact j)<|ay (Cy v g p) B
def s7{K}(h:σ l=I (.a 0<|dM enc g))(j:K<|.e<|dA<|lk g p):eZ σ .a (.a p) (.d l) K:=by
 apply uh h H;rw[po];cases q:lk g p<;>obtain j:=q▸j<;>exact j
def ve{K}(h:σ l=I (.a 0<|dM enc g))(j:lk g p=I v)(B:K<|enc v):gL σ (.d l) (.a p) K:=by
 refine DU h H ?_ B;rw[po,j];rfl
inductive mH(T:bP)(cells:List AV)(p:Nat):Option Nat->Prop
 |none:cells[p]?=some (.a<|-1)->mH T cells p .none
 |some {u m:Nat}:cells[p]?=some (.a u)->Is T u m->m<2^18->m≠0->mH T cells p (.some m)
structure Wd(T:bP)(P:List Nat)(B D:Nat->Option Nat):Prop where
 c:T.d.length<=aR
 j:T.g.length<=aR
 b:∀p∈P,mH T T.d p (B p)
 d:∀p∈P,mH T T.g p (D p)
theorem mH.F(le:T.Le T'){c g:List AV}(e:g=c){p:Nat}{o:Option Nat}(h:mH T c p o):mH T' g p o:=by
 subst e;cases h with
 |none h=>exact .none h
 |some h i a b=>exact .some h (i.F le) a b
theorem Wd.F(le:T.Le T'){P:List Nat}{B D:Nat->Option Nat}(h:Wd T P B D):Wd T' P B D:=
 ⟨ay le.d h.c,ay le.g h.j,λp b=>(h.b p b).F le le.d,λp b=>(h.d p b).F le le.g⟩
def jz:Option Nat->Bool
 |.none=>am
 |.some m=>(mz m).any oj
def NP(h:Q σ S T A)(w:Wd T S.D.a B D)(j:p∈S.D.a)(g:K (.e<|jz<|B p) σ):W (n+5) 33 [.d S.L.g,.a p] σ K:=by
 refine bq [.d S.L.g,.a p] H<|dP ?_;lk;refine gW (dI p)<|h.q<|aU h.h.h H ?_;obtain b:=w.b p j;generalize B p=o at b g;cases b with
 |none b=>exact eL h.h.d w.c b<|iw (Y H) g
 |@some u m b hi c hz=>
  refine eL h.h.d w.c b<|gW (dI u)<|db ?_;lk;exact aU h.st.g H<|aU h.st.g H<|fY h.st.q H<|h.q<|aU h.h.h H<|eL h.h.d w.c b<|uq<|XA (S:=S) h hi c hz g
def YP(h:Q σ S T A)(hi:Is T t m)(g:m<2^14)(j:K (.e am) σ):W (n+3) 34 [.d S.L.g,.a t] σ K:=by
 refine bq [.d S.L.g,.a t,.q] H<|gg ?_;lk;exact aU h.st.g H<|fY h.st.w H<|h.q<|(by
  refine EE h.h h.y hi (oY g H) λps b b c=>?_;have:=Sf.mpr λp q=>by
   have:=((c p).mp q).2;rw[jR<|eR g<|pw<|jE ..] at this;exact dj this
  subst this;exact⟨jQ _,vw<|f7 j⟩)
def XZ(h:Q σ S T A)(g:K (.e am) σ):W (n+1) 35 [.d S.L.g,.a t] σ K:=bq [.d S.L.g,.a t,.q,.q,.q] H<|cq<|aU h.st.g H<|(by delta ma;dsimp only;rw[h.st.r.F (k:=16) H];exact⟨jQ _,gg ⟨jQ _,⟨jQ _,vw<|f7 g⟩⟩⟩)
noncomputable def RU(p:Nat)(aJ:List cQ)(R:Nat->List cQ):Nat->List cQ:=λq=>if q=p then R q++aJ else R q
def CQ(h:q≠p):RU p aJ R q=R q:=Z h
def QJ{x}:aM (RU p [x] R p)=(aM<|R p).M x:=by
 unfold RU;rw[ak H];exact xj ..
def QH:RU p [] R=R:=by
 funext q;unfold RU;rw[jG];exact ite_self _
noncomputable def pL(m r:Nat):List cQ:=if m=4096 then[] else[⟨m,r,2,am⟩]
def Ts(h:Q σ S T A)(hi:Is T t m)(g:Is T F m')(v:Nm m)(j:Nm m')(B:∀u σ' T',Up S.tl σ T σ' T'->Is T' u (eV<|m|||m')->K (.a u) σ'):W (n+3) 12 [.d S.tl.h,.B [.a t,.a F]] σ K:=by
 refine pM (.inr H) h.h h.y (.cons hi<|.cons g .nil) (λk hk=>?_) (Y H:2<=1000) λu σ' T' up b=>B u σ' T' up ?_
 .clear h hi g B;rcases cf.mp hk with rfl|hk;.exact v.cI
  .rw[d8.mp hk];exact j.cI
 .obtain e:cw [m,m']=m|||m':=be _<|n7 m';rw[e,(lI<|mG v.1 j.1).1] at b;exact b
def IX(g:bF T){t m:Nat}(hi:Is T t m):(t:Int)=1↔m=4096:=by
 obtain c:Is T 1 4096:=.B<|g.h (b:=12)<|Y H;constructor;.intro e;obtain this:t=1:=gI e;subst this;exact hi.q g c
 .intro e;subst e;rw[hi.inj g c];rfl
def ru(f:HS->β)(g:∀q,q≠p->R' q=R q)(j:f (aM<|R' p)=f (aM<|R p)):(λq=>f<|aM<|R' q)=λq=>f<|aM<|R q:=by
 funext q;by_cases h:q=p;.rw[h];exact j
 .rw[g q h]
def GI.g(j:GI P V T R)(v:∀q,q≠p->R' q=R q)(e:aM (R' p)={aM (R p) with c:=y1,az:=y2})(M:eC P X λp x=>sn T x (aM<|R' p).c)(h2:eC P d2 λp x=>x.getD 1024=(aM<|R' p).az):GI P {V with c:=X,az:=d2} T R':=
 ⟨ru HS.e v (by rw[e])▸j.e,ru HS.f v (by rw[e])▸j.f,M,h2,
  j.B.fX λq c x b=>b.trans (congrFun (ru HS.B v<|by rw[e]) q).symm,j.i.fX λq c x b=>b.trans (congrFun (ru HS.a v<|by rw[e]) q).symm⟩
def Q.qE(g:Q σ S T A):σ S.L.c=I (.a 0<|dN S.V.c):=g.st.r.F (k:=12) H
def Q.Ej(g:Q σ S T A):σ S.L.A1=I (.a 0 []):=g.st.r.F (k:=13) H
def Q.yf(g:Q σ S T A):σ S.L.az=I (.a 0<|dN S.V.az):=g.st.r.F (k:=14) H
def Q.j(g:Q σ S T A):σ S.L.g=I (.d 1<|gF S):=g.st.r.F (k:=6) H
def a4c(h:Q σ S T A)(l1:O S.V.az<=aR)(l2:O S.V.c<=aR)(g:∀σ',(if r<(lk S.V.az p).getD 1024 then Q σ' {S with V:={S.V with c:=dl S.V.c p,az:=st S.V.az p r}} T A else Q σ' S T A)->K (.e<|decide<|r<=(lk S.V.az p).getD 1024) σ'):
 W (n+1) 37 [.d S.L.g,.a p,.a r] σ K:=by
 refine bq [.d S.L.g,.a p,.a r,.q] H<|bX ?_;lk;refine aU h.j H<|xp h.yf ⟨vN h.yf H,?_⟩;rw[Gv];apply bV;lk;obtain bD:∀{a b:Nat}{k:Bool->Prop},k (decide<|a<=b)->k (decide<|a<=(b:Int)):=λ{a b k} f=>by
  rw[show decide (a<=(b:Int))=decide (a<=b) from jp.mpr iH];exact f
 by_cases q:r<(lk S.V.az p).getD 1024;.refine iw (jH.mpr q)<|iY ?_;lk;refine aU h.j H<|me h.yf l1<|mg ?_;obtain c:=h.Vc<|st S.V.az p r;lk;refine aU c.j H<|Ez c.qE l2<|mg ?_;obtain e:=c.JY<|dl S.V.c p;lk;exact aU e.j H<|Ey e.Ej (jQ _) H ⟨aE,aw<|f7<|bD (k:=λb=>K (.e b) _)<|(λσ' h=>g σ'<|ak q▸h) _ e.Vd⟩
 .exact gW (iH.mpr<|lE q)<|aw<|f7<|bD (k:=λb=>K (.e b) _)<|(λσ' h=>g σ'<|Z q▸h) _ h
def Xq(h:Q σ S T A)(j:GI S.D.a S.V T R)(h4:∀q∈S.D.a,q<4)(F:p∈S.D.a)(hi:Is T t m)(M:Nm m)(hr:r<1024)(h0:S.D.d=0)(hK:∀σ' T' X,Q σ' {S with V:=X} T' A->T.Le T'->GI S.D.a X T' (RU p (pL m r) R)->(X.h,X.a)=(S.V.h,S.V.a)->K .j σ'):W (n+4) 38 [.d S.L.g,.a p,.a t,.a r] σ K:=by
 refine bq [.d S.L.g,.a p,.a t,.a r,.q] H<|dP ?_;by_cases q:m=4096;.refine gO ((IX h.y hi).mpr q)<|hK σ T S.V h (.B T) ?_ H;unfold pL;rw[ak q,QH];exact j
 refine eh (λe=>q<|(IX h.y hi).mp e)<|bV<|YP h hi M.1<|bd<|bV ?_;lk;refine a4c h (j.az.aT h4) (j.c.aT h4) λσ' d=>?_;have ht:=j.az.b p F;rw[ht] at d⊢;obtain l:=λq=>CQ;obtain I:aM (RU p (pL m r) R p)=(aM<|R p).g m r:=by
  unfold pL;rw[Z q,QJ];rfl
 have tail:∀{c:GV}{u:Nat}{f:av}{b:bP},Q f {S with V:=c} b A->T.Le b->O c.c<=aR->(c.h,c.a)=(S.V.h,S.V.a)->
  GI S.D.a {c with c:=st c.c p u} b (RU p (pL m r) R)->l8 f (.d S.L.c) (.a p) (.a u) λσ₃=>K .j σ₃:=λ{c u f b} y le l2 P g=>
  me y.qE l2 (hK _ b _ (y.JY<|st c.c p u) le g P)
 by_cases D:r<(aM<|R p).az
 .rw[ak D] at d;rw[bA<|je D];refine im<|bd<|bV<|aU d.j H ?_;rw[show AV.a _=AV.a 0 from be AV.a h0];refine⟨aE,⟨aE,cq<|aU d.j H<|iY ?_⟩⟩;lk;have U:lk (dl S.V.c p) p=none:=by rw[MS _ _ j.c.nd];exact ak H
  apply s7 d.qE;rw[show lk _ _=C from U];refine bd<|aU d.j H<|tail d (.B T) ((j.c.j aE λi i i i i=>aE).aT h4) H ?_;obtain v:=I.trans<|ak D;refine j.g l v ?_ ?_
  .refine(j.c.j (t6:=λq x=>q≠p->sn T x (aM<|R q).c) (aP H) λi i i i x i=>x).st F ?_ λq i hq x s=>?_;.rw[v];exact⟨hi,M⟩
   .rw[l q hq];exact s hq
  .refine j.az.st F ?_ λq i hq x s=>?_;.rw[v];rfl
   .rw[l q hq];exact s
 .rw[Z D] at d;by_cases E:r=(aM<|R p).az
  .rw[bA<|gG E];refine im<|bd<|bV<|aU d.j H ?_;rw[show AV.a _=AV.a 0 from be AV.a h0];refine⟨aE,⟨aE,cq<|aU d.j H<|iY ?_⟩⟩;lk;apply s7 d.qE;obtain B:=j.c.b p F;have v:=I.trans<|(Z D).trans<|ak E;have tl:∀{b:bP}{u k:Nat},T.Le b->Is b u k->Nm k->NS (aM<|R p).c m=k->GI S.D.a {S.V with c:=st S.V.c p u} b (RU p (pL m r) R):=λ{b u k} le L Y e=>by
    obtain v:=e▸v;refine(j.F le).g l v ((j.F le).c.st F ?_ λq i hq x s=>?_) (j.az.fX λq hq x s=>s.trans (congrFun (ru HS.az l<|by rw[v]) q).symm);.rw[v];exact⟨L,Y⟩
    .rw[l q hq];exact s
   generalize(aM<|R p).c=o at B tl;rcases z:lk S.V.c p with _|u
   .rw[z] at B;rcases o with _|k;.exact bd (aU d.j H<|tail d (.B T) (j.c.aT h4) H<|tl (.B T) hi M H)
    .exact B.elim
   .rw[z] at B;rcases o with _|k;.exact B.elim
    .exact bw<|d.q<|ve d.qE z<|Ts d B.1 hi B.2 M λu' f b up L=>aU (d.F up).j H<|tail (d.F up) up.c (j.c.aT h4) H<|tl up.c L (.h<|mG B.2.1 M.1) H
  .rw[bR λz=>(Nat.lt_or_eq_of_le z).elim D E];have v:=I.trans<|(Z D).trans<|Z E;refine im<|bw<|f7<|hK _ T S.V d (.B T) ?_ H;obtain N:∀q,aM (RU p (pL m r) R q)=aM (R q):=congrFun<|ru id l v;refine⟨?_,?_,j.c.fX λq i x s=>?_,j.az.fX λq i x s=>?_,j.B.fX λq i x s=>?_,j.i.fX λq i x s=>?_⟩;.simp only[N];exact j.e
   .simp only[N];exact j.f
   all_goals (rw[N];exact s)
def L7{E K}(g:K<|.e<|!decide (t∈E)):eZ σ .b (.a t) (.B<|G E) K:=
 uj (σ:=σ) (K:=λv=>∀b,v=.e b->K (.e<|!b)) (λb e=>by cases e;exact g)|>.imp id λh=>h _ H
def EP{x K}(h:σ l=I (.b vs))(g:∀v∈vs,lR v x=U)(j:K<|.e<|!decide (x∈vs)):eZ σ .b x (.d l) K:=by
 show rj σ x (.d l) λb=>K<|.e<|!b;unfold rj;rw[wL h];exact⟨g,j⟩
def lS{K}(h:σ l=I (.b vs))(g:O vs<=aR)(j:K l vs):mJ σ (.d l) K:=by
 unfold mJ;simp only[h];exact⟨g,j⟩
def mw(h:σ l=I (.b vs)):ly σ (.d l)=true:=by unfold ly;simp only[h]
def GH(g:bF T){es:List<|Nat×Nat×Nat}{l:List<|Nat×Nat}{t m r:Nat}(h:m6 T es l)(hi:Is T t m):AV.B [.a t,.a r]∈es.map lz↔(m,r)∈l:=by
 rw[<-h.1,bp,bp] at⊢;constructor
 .rintro⟨y,b,e⟩;injection e with e;injection e with e1 e;injection e with d _
  refine⟨y,b,Al ((h.2 y b).1.q g<|ay (xi e1) hi)<|xi d⟩
 .rintro⟨y,b,e⟩;refine⟨y,b,?_⟩;obtain c:=(h.2 y b).1;obtain c:=e▸c;unfold lz;rw[c.inj g hi,e]
def m6.B{es l}(h:m6 T es l)(hi:Is T t m)(g:Nm m):m6 T (es++[(t,m,r)])<|l++[(m,r)]:=
 ⟨by rw[d9,h.1];rfl,λx b=>by
  refine Or.elim (fQ.mp b) (h.2 x) λb=>?_;rw[d8.mp b];exact⟨hi,g⟩⟩
theorem mF.B{a}(h:mF P T (a++e::c) f)(hi:Is T t m)(j:Nm m):mF P T (a++{e with es:=e.es++[(t,m,r)]}::c) λq=>if q=e.a then f q++[(m,r)] else f q:=by
 have e1:(a++{e with es:=e.es++[(t,m,r)]}::c).map iI.a=(a++e::c).map iI.a:=by rw[d9,d9];rfl
 have nd:=h.nd;rw[d9,kL] at nd;obtain d:=gA _ aZ;have key:∀x∈a++{e with es:=e.es++[(t,m,r)]}::c,x={e with es:=e.es++[(t,m,r)]}\/(x∈a++e::c/\x.a≠e.a):=λx hx=>by
  rcases fQ.mp hx with hx|hx;.exact .inr ⟨jF _ hx,nd.2.2 x.a (dU hx) e.a aZ⟩
  .rcases cf.mp hx with rfl|hx;.exact .inl H
   .exact .inr ⟨gA _<|bK _ hx,λq=>(fh.mp nd.2.1).1<|aO q<|dU hx⟩
 refine⟨by rw[e1];exact h.nd,λx hx=>?_,λx hx=>?_,λx hx=>?_,λq hq b=>?_⟩
 .rcases key x hx with rfl|⟨hx,_⟩;.exact h.g e d
  .exact h.g x hx
 .rcases key x hx with rfl|⟨hx,b⟩;.rw[ak H];exact(h.b e d).B hi j
  .rw[Z b];exact h.b x hx
 .rcases key x hx with rfl|⟨hx,_⟩;.exact List.append_ne_nil_of_right_ne_nil _ (Dm _ _)
  .exact h.ne x hx
 .rw[Z λz:q=e.a=>(e1▸b)<|ay z<|dU d];exact h.out q hq<|aO e1 b
def mF.new{es:List iI}(h:mF P T es f)(v:p∈P)(j:p∉es.map iI.a){l:a7}(hi:Is T t m)(M:Nm m):mF P T (es++[⟨p,l,[(t,m,r)]⟩]) λq=>if q=p then f q++[(m,r)] else f q:=by
 obtain key:∀x∈es++[⟨p,l,[(t,m,r)]⟩],x=⟨p,l,[(t,m,r)]⟩\/(x∈es/\x.a≠p):=λx hx=>by
  rcases fQ.mp hx with hx|hx;.exact .inr ⟨hx,λe=>j<|aO e<|dU hx⟩
  .exact .inl<|d8.mp hx
 refine⟨?_,λx hx=>?_,λx hx=>?_,λx hx=>?_,λq hq c=>?_⟩;.rw[d9,kL] at⊢;exact⟨h.nd,fh.mpr ⟨nofun,.nil⟩,λa d b i e=>j (by obtain d:=e▸d;obtain d:=(d8.mp i)▸d;exact d)⟩
 .rcases key x hx with rfl|⟨hx,_⟩;.exact v
  .exact h.g x hx
 .rcases key x hx with rfl|⟨hx,g⟩;.rw[ak H,h.out p v j];exact⟨H,λy k=>by rw[d8.mp k];exact⟨hi,M⟩⟩
  .rw[Z g];exact h.b x hx
 .rcases key x hx with rfl|⟨hx,_⟩;.exact Dm _ _
  .exact h.ne x hx
 .rw[d9,fQ] at c;rw[Z λz:q=p=>c<|.inr<|ay z aZ];exact h.out q hq λz=>c<|.inl z
def Q.wN(g:Q σ S T A)(b):σ (S.L.bH b)=I (.a 0<|dE<|S.V.bH b):=by
 induction b using Bool.casesOn;.exact g.st.r.F (k:=9) H
 .exact g.st.r.F (k:=10) H
def Q.xt(g:Q σ S T A)(b:Bool){e:iI}(B:e∈S.V.bH b):σ e.l=I (.b<|e.es.map lz):=by
 apply g.st.r (jN e);induction b using Bool.casesOn;.exact gA _<|gA _<|jF _<|dU B
 .exact gA _<|gA _<|gA _<|jF _<|dU B
def Fe:∀{es p},(p∉es.map iI.a/\lk (es.map λe=>(e.a,e.l)) p=C)\/∃a e c,es=a++e::c/\e.a=p/\lk (es.map λe=>(e.a,e.l)) p=I e.l:=by
 intro es;induction es with
 |nil=>
  exact .inl ⟨nofun,H⟩
 |cons e es f=>
  intro p;by_cases q:e.a=p;.exact .inr ⟨[],e,es,H,q,ak q⟩
  .rcases f with⟨b,d⟩|⟨a,g,c,b,d,i⟩
   .refine .inl ⟨?_,(Z q).trans d⟩;rw[lG,cf] at⊢;rintro(z|z);.exact q z.symm
    .exact b z
   .exact .inr ⟨e::a,g,c,by rw[b];rfl,d,(Z q).trans i⟩
def AX:List PS:=[.d (.h .b V1 V4)
 [.m V4 V1<|.L 40 []]
 [],
 .d (.u (.p V0 23)<|.u (.h .eq (.p V0 33) N0) .N)
  [.m (.p V0 22) (.B [V1,V2]) N1]
  [.d (.K<|.p V0 23)
   [.l<|.P (.p V0 22) (.B [V1,V2])<|.k AV.j]
   []],
 .d (.h .b (.B [V2,V3])<|.n V4 V1)
  [.l<|.append (.n V4 V1)<|.B [V2,V3]]
  []]
theorem Oa{x y}:∀{es:List iI},cg (es.map iI.a)->x∈es->y∈es->x.a=y.a->x=y
 |e::es,h,c,d,q=>by
  rw[lG,fh] at h;rcases cf.mp c with a|a<;>rcases cf.mp d with b|b
  .rw[a,b]
  .exact aP (by rw[<-a,q];exact dU b) h.1
  .exact aP (by rw[<-b,<-q];exact dU a) h.1
  .exact Oa h.2 a b q
def D9(V:GV)(b)(es):(V.g b es).bH b=es:=by induction b using Bool.casesOn<;>rfl
def U4(V:GV)(b)(es es'):(V.g b es).g b es'=V.g b es':=by induction b using Bool.casesOn<;>rfl
def U5(V:GV)(b):V.g b (V.bH b)=V:=by induction b using Bool.casesOn<;>rfl
def JR{K b a l}(h:Q σ S T A)(F:S.V.bH b=a++e::c)(M:e.a=p)(X:(S.V.bH b).map iI.a|>.Nodup)(B:m6 T e.es l)(hi:Is T t m)(g:O l<=aR)(h1:(m,r)∈l->∀σ',Q σ' S T A->K .none [.d S.L.g,.a p,.a t,.a r,.d<|S.L.bH b] σ')(h2:(m,r)∉l->∀σ',Q σ' {S with V:=S.V.g b<|a++{e with es:=e.es++[(t,m,r)]}::c} T A->K .none [.d S.L.g,.a p,.a t,.a r,.d<|S.L.bH b] σ'):
 wB n (AX.drop 1) [.d S.L.g,.a p,.a t,.a r,.d<|S.L.bH b] σ K:=by
 refine bV<|aU h.j H<|bd<|bd<|bV<|aU h.j H<|im<|bw<|ia ?_;lk;refine aU h.j H<|Ey (h.st.r.F (k:=17) H) (jQ _) H ⟨aE,?_⟩;obtain d:=h.Vb;refine aw<|aw<|bV ?_;lk;have i:e∈S.V.bH b:=by rw[F];exact gA _ aZ
 have j:lk ((S.V.bH b).map λe=>(e.a,e.l)) p=I e.l:=by
  rcases Fe (es:=S.V.bH b) (p:=p) with⟨q,_⟩|⟨E,s,G,u,x,C⟩;.exact aP (aO M<|dU i) q
  .rw[<-((show s=e from by
    exact Oa X (ay u<|gA _ aZ) i<|x.trans M.symm))];exact C
 refine ve (d.wN b) j<|EP (d.xt b i) (λv D=>?_) ?_;.refine aA (bp.mp D) λy L o=>?_;subst o;rfl
 by_cases q:(m,r)∈l;.rw[bA<|(GH h.y B hi).mpr q];exact bd<|aw<|h1 q _ d
 .rw[bR λz=>q<|(GH h.y B hi).mp z];refine bw<|ia ?_;lk;refine ve (d.wN b) j ⟨mw<|d.xt b i,lS (d.xt b i) (by rw[ba,<-ba (f:=(·.2)),B.1];exact g) ⟨aE,aw<|aw ?_⟩⟩;obtain h4:=d.Vi b F<|e.es++[(t,m,r)];obtain h4:=d9▸h4;exact h2 q _ h4
def JU{K b}(h:Q σ S T A)(h4:∀q∈S.D.a,q<4)(g:mF S.D.a T (S.V.bH b) f)(B:p∈S.D.a)(hi:Is T t m)(F:Nm m)(j:O (f p)<=aR)(v:∀σ' es,Q σ' {S with V:=S.V.g b es} T A->mF S.D.a T es (λq=>if q=p then k6 (f q) (m,r) else f q)->K .none [.d S.L.g,.a p,.a t,.a r,.d<|S.L.bH b] σ'):
 wB n AX [.d S.L.g,.a p,.a t,.a r,.d<|S.L.bH b] σ K:=by
 apply bV;lk;apply L5 (h.wN b) H;rw[po];rcases Fe with⟨d,s⟩|⟨a,e,c,d,s,M⟩
 .rw[show lk _ _=C from s];refine bw<|iY ?_;lk
  refineλk fr=>vg ((h.st.r.fresh<|fr 40).F (k:=bif b then 10 else 9) (o:=.a 0<|dE<|S.V.bH b)<|by induction b using Bool.casesOn<;>rfl) H ?_ (aw ?_)
  .have:=sQ 4 _ g.nd λk N=>by
    refine aA (bp.mp N) λx u y=>?_;subst y;exact h4 _<|g.g x u
   rw[ba] at this;rw[qT,ba];exact bG this H
  refine JR (S:={S with V:=S.V.g b<|S.V.bH b++[⟨p,⟨40,k⟩,[]⟩]}) (l:=[]) (h.YA b (fr 40) d) (D9 ..) H ?_ ⟨H,dS⟩ hi (jQ _) (λz=>(nomatch z)) λR σ' i=>?_;.rw[D9,d9,kL] at⊢;exact⟨g.nd,fh.mpr ⟨λz=>(nomatch z),.nil⟩,λa D b P e=>d<|by rw[e,d8.mp P] at D;exact D⟩
  .rw[U4] at i;apply v σ' _ i;rw[show(λq=>if q=p then k6 (f q) (m,r) else f q)=λq=>if q=p then f q++[(m,r)] else f q from ?_] at⊢;.exact(g.new B d hi F)
   funext q;by_cases z:q=p;.rw[ak z,ak z,z,g.out p B d];rfl
   .rw[Z z,Z z]
 .rw[show lk _ _=I e.l from M];refine bd<|aw ?_;have E:=g;obtain L:=gA _ aZ;refine JR h d s g.nd ((d▸E).b e L) hi (s▸j) (λu σ' i=>v σ' (S.V.bH b) (by rw[U5];exact i) ?_) λu σ' i=>v σ' _ i ?_
  .rw[show(λq=>if q=p then k6 (f q) (m,r) else f q)=f from ?_] at⊢;.exact g
   funext q;by_cases z:q=p;.rw[ak z,z];exact ak<|aO s u
   .rw[Z z]
  .clear h h4 g B j v i L;subst s;rw[show(λq=>if q=e.a then k6 (f q) (m,r) else f q)=λq=>if q=e.a then f q++[(m,r)] else f q from ?_] at⊢;.exact((d▸E).B hi F)
   funext q;by_cases z:q=e.a;.rw[ak z,ak z,z];exact Z u
   .rw[Z z,Z z]
def uo{b:Int}{A B:AV->Prop}(h:b<a)(g:A<|.e U):eZ σ .gt (.a a) (.a b) λr=>c7 σ r λc=>if c=U then A r else B r:=by
 refine⟨aE,?_⟩;rw[bA h];exact g
def mU(y' z g:Bool)(m r:Nat):List cQ:=if r&&&16≠0 then pL m r else[⟨if y'&&!g then lc m else m,r,if z then 1 else 0,y'⟩]
structure Ix(D:GD)(y' z:Bool):Prop where
 d:D.d=if z then 1 else 0
 b:D.b=if y' then 1 else 0
 F:y'=true->D.F=-1
def GI.j3{w}(j:GI P V T R)(v:∀q,q≠p->R' q=R q)(e:aM (R' p)=(aM<|R p).j3 m r z w)(X:mF P T (M.bH z) λq=>if q=p then k6 ((if z then HS.f else HS.e)<|aM<|R q) (m,r) else(if z then HS.f else HS.e)<|aM<|R q)(ho:M.bH (!z)=V.bH (!z))(h1:M.c=V.c)(h2:M.az=V.az)(h3:eC P M.B λp x=>dA x=(aM<|R' p).B)(h4:eC P M.i λp x=>x.getD 1024=(aM<|R' p).a):GI P M T R':=by
 have d:=h1▸j.c.fX λq i x c=>(congrFun (ru HS.c v<|by rw[e];rfl) q)▸c;have g:=h2▸j.az.fX λq i x c=>c.trans (congrFun (ru HS.az v<|by rw[e];rfl) q).symm;have aK:∀(f:HS->List (Nat×Nat)),f (aM<|R' p)=k6 (f<|aM<|R p) (m,r)->(λq=>if q=p then k6 (f<|aM<|R q) (m,r) else f<|aM<|R q)=λq=>f<|aM<|R' q:=λf k=>by
  funext q;by_cases b:q=p;.rw[ak b,b,k]
  .rw[Z b,v q b]
 rcases z with _|_
 .have ho:M.f=V.f:=ho;refine⟨?_,?_,d,g,h3,h4⟩;.rw[<-aK HS.e (by rw[e];rfl)];exact X
  .rw[ru HS.f v (by rw[e];rfl),ho];exact j.f
 .have ho:M.e=V.e:=ho;refine⟨?_,?_,d,g,h3,h4⟩;.rw[ru HS.e v (by rw[e];rfl),ho];exact j.e
  .rw[<-aK HS.f (by rw[e];rfl)];exact X
def Eu:List PS:=[.d (.h .lt V3<|.S (.p V0 39) V1<|ki 1024)
 [.m (.p V0 39) V1 V3,
  .l (.P (.p V0 38) V1<|.k AV.j)]
 []]
def Q.Es(g:Q σ S T A):σ S.L.i=I (.a 0<|dN S.V.i):=g.st.r.F (k:=21) H
def Q.Fb(g:Q σ S T A):σ S.L.B=I (.a 0<|dN S.V.B):=g.st.r.F (k:=20) H
def Xi{x K}(h:Q σ S T A)(h4:∀q∈P,q<4)(B:p∈P){f:Nat->HS}(v:eC P S.V.B λp x=>dA x=(f p).B)(g:eC P S.V.i λp x=>x.getD 1024=(f p).a)(j:∀σ' F M,Q σ' {S with V:={S.V with B:=F,i:=M}} T A->eC P F (λq x=>if q=p then dA x=(if r<(f p).a then am else(f p).B) else dA x=(f q).B)->
 eC P M (λq x=>if q=p then x.getD 1024=(if r<(f p).a then r else(f p).a) else x.getD 1024=(f q).a)->wB n rest [.d S.L.g,.a p,.a t,.a r,x] σ' K):
 wB n (Eu++rest) [.d S.L.g,.a p,.a t,.a r,x] σ K:=by
 apply kA;lk;refine aU h.j H<|xp h.Es ⟨vN h.Es H,?_⟩;rw[Gv,g.b p B];by_cases q:r<(f p).a;.rw[ak q,ak q] at j;refine iw (jH.mpr q)<|iY ?_;lk;refine aU h.j H<|me h.Es (g.aT h4)<|mg ?_;have c:=h.Ve<|st S.V.i p r;lk;exact aU c.j H<|Ez c.Fb (v.aT h4)<|aw<|j _ _ _ (c.J0<|dl S.V.B p) (v.j ((ak H).mpr H) λq d hq y b=>(Z hq).mpr b)<|g.st B ((ak H).mpr H) λq d hq y b=>(Z hq).mpr b
 .rw[Z q,Z q] at j;refine gW (iH.mpr<|lE q) (aw<|j _ _ _ h (v.fX λq d y b=>?_)<|g.fX λq d y b=>?_)
  .by_cases z:q=p;.exact(ak z).mpr (z▸b)
   .exact(Z z).mpr b
  .by_cases z:q=p;.exact(ak z).mpr (z▸b)
   .exact(Z z).mpr b
def Fj:PS:=.d (.h .gt (.p V0 33) N0)
 [.d (.K<|.j 36 [.p V0 11,.p V0 19,V1])
  [.m (.p V0 38) V1 N1]
  [],
  .d (.K<|.j 33 [V0,V1])
   [.g 2<|.j 23 [.p (.p V0 11) 10,V2]]
   []]
 []
def Jh{y}(j:K (.e am) σ):W (n+1) 36 [y,.a<|-1,g] σ K:=by
 refine bq [y,.a<|-1,g,.a 0,.q,.q] H<|dP ?_;lk;exact iw (Y H) j
def Zn{x K}(h:Q σ S T A)(h4:∀q∈S.D.a,q<4)(v:p∈S.D.a)(at_:Ix S.D y' z)(w:Wd T S.D.a B D)(hi:Is T t m)(F:Nm m){f:Nat->Bool}(g:eC S.D.a S.V.B λp x=>dA x=f p)(j:∀σ' T' M X,Q σ' {S with V:={S.V with B:=M}} T' A->T.Le T'->Is T' X (if y'&&!jz (B p) then lc m else m)->eC S.D.a M (λq x=>dA x=if q=p then f p||y' else f q)->wB (n+5) rest [.d S.L.g,.a p,.a X,.a r,x] σ' K):
 wB (n+5) (Fj::rest) [.d S.L.g,.a p,.a t,.a r,x] σ K:=by
 apply bV;lk;apply aU h.j H;rw[show AV.a _=AV.a (if y' then 1 else 0) from be AV.a at_.b];rcases y' with _|_
 .refine o9 (Y H)<|aw<|j σ T S.V.B t h (.B T) hi<|g.fX λq i y d=>?_;rw[sE];by_cases b:q=p;.rw[ak b,<-b];exact d
  .rw[Z b];exact d
 .refine uo (Y H)<|bV ?_;lk;refine aU h.j H<|aU h.j H ?_;rw[show AV.a _=AV.a (-1) from be AV.a<|at_.F H];refine Jh<|im<|bw<|iY ?_;lk;refine aU h.j H<|me h.Fb (g.aT h4)<|aw<|bV ?_;obtain c:=h.J0<|st S.V.B p 1;have e:eC S.D.a (st S.V.B p 1) λq x=>dA x=if q=p then f p||U else f q:=g.st v (by rw[ak H,m5];rfl) λq i hq y d=>by rw[Z hq];exact d
  lk;apply NP (S:={S with V:={S.V with B:=st S.V.B p 1}}) c w v;rcases q:jz (B p) with _|_;.refine im<|bw<|bX ?_;lk;exact c.q<|IL c.h c.y hi F.cI λu σ' T' up k=>aw<|aw<|(q▸j) σ' T' _ u (c.F up) up.c (aO F.unit.AN k) e
  .exact im<|bd<|aw<|aw<|(q▸j) _ T _ t c (.B T) hi e
def Qw(l)(x):O (k6 l x)<=O l+1:=by
 unfold k6;by_cases h:x∈l;.rw[ak h];exact gR _
 .rw[Z h,eK];exact ce _
def a5b(y:HS)(x):O (y.M x).e<=O y.e+1/\O (y.M x).f<=O y.f+1:=by
 unfold HS.M;by_cases h:x.s=2
 .rw[ak h];unfold HS.g;by_cases q:x.r<y.az;.rw[ak q];exact⟨gR _,gR _⟩
  .rw[Z q];by_cases z:x.r=y.az;.rw[ak z];exact⟨gR _,gR _⟩
   .rw[Z z];exact⟨gR _,gR _⟩
 .rw[Z h];cases x.s==1;.exact⟨Qw ..,gR _⟩
  .exact⟨gR _,Qw ..⟩
def zm:∀(R:List cQ) y,O (R.foldl HS.M y).e<=O y.e+O R/\O (R.foldl HS.M y).f<=O y.f+O R:=by
 intro R;induction R with
 |nil=>
  exactλc=>⟨ce _,ce _⟩
 |cons x R b=>
  intro y;obtain h:=b<|y.M x;obtain h':=a5b y x;exact⟨by have:=h.1;have:=h'.1;show O (R.foldl HS.M<|y.M x).e<=_;exact yW h.1 h'.1,by have:=h.2;have:=h'.2;show O (R.foldl HS.M<|y.M x).f<=_;exact yW h.2 h'.2⟩
def Qr:PS:=.g 4<|.D (.u (.p V0 31)<|.K<|.p V0 32) (.p V0 14)<|.p V0 13
def Xu(h:Q σ S T A)(g:GI S.D.a S.V T R)(h4:∀q∈S.D.a,q<4)(v:p∈S.D.a)(at_:Ix S.D y' z)(w:Wd T S.D.a B D)(hi:Is T t m)(M:Nm m)(hl:O (R p)<=1000)(X:r&&&16=0)(hK:∀σ' T' F,Q σ' {S with V:=F} T' A->T.Le T'->GI S.D.a F T' (RU p (mU y' z (jz<|B p) m r) R)->(F.h,F.a)=(S.V.h,S.V.a)->K .j σ'):
 wB (n+5) (Eu++(Fj::Qr::AX)) [.d S.L.g,.a p,.a t,.a r,.q] σ (rK K):=by
 refine Xi h h4 v g.B g.i λl u d2 E I L=>Zn (S:={S with V:={S.V with B:=u,i:=d2}}) E h4 v at_ w hi M ((I.fX λq C y e=>by
  by_cases d:q=p;.rw[ak d] at e⊢;exact e
  .rw[Z d] at e⊢;exact e:eC S.D.a u λq x=>dA x=if q=p then(if r<(aM<|R p).a then am else(aM<|R p).B) else(aM<|R q).B)) λo f d3 t' j le i N=>cq ?_
 lk;apply aU j.j H;rw[show AV.a _=AV.a (if z then 1 else 0) from be AV.a at_.d];have P:mU y' z (jz<|B p) m r=[⟨if y'&&!jz (B p) then lc m else m,r,if z then 1 else 0,y'⟩]:=Z λd=>d X;rw[P] at hK;generalize W:(if y'&&!jz (B p) then lc m else m)=m' at i hK;have k:Nm m':=by
  rw[<-W];cases y'&&!jz (B p);.exact M
  .exact M.unit.wi
 have s:aM (RU p [⟨m',r,if z then 1 else 0,y'⟩] R p)=(aM<|R p).j3 m' r z y':=by
  rw[QJ];cases z<;>rfl
 have len:=zm (R p) HS.nil;have bD:∀σ' es,Q σ' {S with V:=({S.V with B:=d3,i:=d2}:GV).g z es} f A->mF S.D.a f es (λq=>if q=p then k6 ((if z then HS.f else HS.e)<|aM<|R q) (m',r) else(if z then HS.f else HS.e)<|aM<|R q)->K .j σ':=λσ' es h' Y=>
  hK σ' f _ h' le ((g.F le).j3 (λq=>CQ) s (by rw[D9];exact Y) (by cases z<;>rfl) (by cases z<;>rfl) (by cases z<;>rfl)
   (by
    have:(({S.V with B:=d3,i:=d2}:GV).g z es).B=d3:=by cases z<;>rfl
    rw[this];refine N.fX λq C y e=>e.trans ?_;by_cases d:q=p
    .rw[ak d,ak H,d,s];show _=if r<(aM<|R p).a then y' else(aM<|R p).B||y'
     by_cases c:r<(aM<|R p).a;.rw[ak c,ak c];rfl
     .rw[Z c,Z c]
    .rw[Z d,Z d,CQ d])
   (by
    have:(({S.V with B:=d3,i:=d2}:GV).g z es).i=d2:=by cases z<;>rfl
    rw[this];refine L.fX λq C y e=>?_;by_cases d:q=p;.rw[ak d] at e;rw[d,s];exact e
    .rw[Z d] at e;rw[CQ d];exact e)) (by cases z<;>rfl)
 cases z with
 |false=>
  exact⟨aE,⟨aE,aU j.j H<|JU (b:=am) (S:={S with V:={S.V with B:=d3,i:=d2}}) j h4 (g.F le).e v i k (aV len.1<|bG (jT (ce 0) hl) H) bD⟩⟩
 |true=>
  exact⟨aE,aU j.j H ⟨aE,⟨aE,aU j.j H<|JU (b:=U) (S:={S with V:={S.V with B:=d3,i:=d2}}) j h4 (g.F le).f v i k (aV len.2<|bG (jT (ce 0) hl) H) bD⟩⟩⟩
def a0y{x y u}(h:Q σ S T A)(j:∀σ' l,Q σ' (S.F S.D.bM l {S.V with h:=[]}) T A->wB n rest [.d S.L.g,x,y,g,u] σ' Kb):
 wB n (.j V0 43 (.w 39 0)::rest) [.d S.L.g,x,y,g,u] σ Kb:=by
 apply ry;lk
 exactλk fr=>mL (h.OK<|fr 39) H (j _ _<|h.L9<|fr 39)
def Xt(h:Q σ S T A)(g:GI S.D.a S.V T R)(h4:∀q∈S.D.a,q<4)(v:p∈S.D.a)(at_:Ix S.D y' z)(w:Wd T S.D.a B D)(hi:Is T t m)(F:Nm m)(X:O (R p)<=1000)(hr:r<1024)(hw:r&&&16≠0->z=am)(M:∀σ' T' b l j,Q σ' (S.F b l j) T' A->T.Le T'->GI S.D.a j T' (RU p (mU y' z (jz<|B p) m r) R)->(j.h,j.a)=([],S.V.a)->K .j σ'):W (n+6) 39 [.d S.L.g,.a p,.a t,.a r] σ K:=by
 refine bq [.d S.L.g,.a p,.a t,.a r,.q] H<|dP<|aU h.j H<|L7 ?_;rw[bA v];refine bd<|bV ?_;lk;have tail:∀{c:av}{b:Int},Q c (S.F b S.D.h S.V) T A->wB (n+5) (.d (.h .a V1<|.p V0 15) [.c<|.k AV.j] []::.j V0 43 (.w 39 0)::
  .d (.q .a V3<|gi 16) [.l<|.j 38 [V0,V1,V2,V3],.c<|.k AV.j] []::.d (.j 35 [V0,V2]) [.c<|.k AV.j] []::(Eu++(Fj::Qr::AX)))
  [.d S.L.g,.a p,.a t,.a r,.q] c (rK K):=λ{c b} i=>by
  refine dP<|aU i.j H<|uh i.st.vJ H<|bd<|a0y (S:=S.F b S.D.h S.V) i λk l o=>bV ?_;lk;refine i8 16<|ku (λq=>?_) λq=>?_;.refine ia (Xq (S:=S.F b l {S.V with h:=[]}) o ⟨g.e,g.f,g.c,g.az,g.B,g.i⟩ h4 v hi F hr (by rw[at_.d,hw q];rfl) λd e f s le u e3=>⟨aE,f7<|M d e b l f s le ?_ e3⟩);rw[show mU y' z (jz<|B p) m r=pL m r from ak q];exact u
  .refine aw<|dP<|XZ (S:=S.F b l {S.V with h:=[]}) o<|bd<|Xu (S:=S.F b l {S.V with h:=[]}) o (R:=R) ⟨g.e,g.f,g.c,g.az,g.B,g.i⟩ h4 v ⟨at_.d,at_.b,at_.F⟩ w hi F X q λd e=>M d e b l
 apply aU h.j H;by_cases q:r<S.D.bM;.refine iw q<|ry ?_;lk;exact mL h.j H<|aw<|tail<|h.oh {S.D with bM:=r} H H
 .exact gW (rg.mp q)<|aw<|tail h
noncomputable def GS.B(S:GS)(M tp b st:Int)(f:a7)(V:GV):GS:={S with D:={S.D with c:=M,F:=tp,bM:=b,u:=st,h:=f},V:=V}
structure AtH(D:GD)(y' z:Bool):Prop where
 d:D.d=if z then 1 else 0
 b:D.b=if y' then 1 else 0
 F:y'=true->D.c≠0->D.F=-1
def kP(V:GV):Prop:=(V.h,V.a)=(([]:List<|Nat×Nat),([]:List<|Nat×Nat))
structure Hd(σ:av)(S:GS)(T:bP)(A:List<|Nat×Bool)(R:Nat->List cQ)(y' z:Bool)(B D:Nat->Option Nat)(N:Nat):Prop where
 q:Q σ S T A
 gi:GI S.D.a S.V T R
 h4:∀p∈S.D.a,p<4
 c:AtH S.D y' z
 r:Wd T S.D.a B D
 aT:∀p,(R p).length<=N
 u:S.D.u<=N
 small:N<=900
 g:S.V.a=[]
def Ce(l u k)(m r):O (mU l u k m r)<=1:=by
 unfold mU;by_cases h:r&&&16≠0
 .rw[ak h];unfold pL;by_cases q:m=4096;.rw[ak q];exact jQ _
  .rw[Z q];exact ce _
 .rw[Z h];exact ce _
def ON{x mt}{X:bP->GV->Int->Prop}(h:Q σ S T A)(hN:S.D.u<=900)(hd:0<=S.D.c/\S.D.c<=30)(F:S.D.b=if y' then 1 else 0)(ht:Is T t mt)(hm:mt<2^18)(M:2^14<=mt)(hp:∀p,p<4->aQ mt (p+14)=U->p∈S.D.a)(hx:∀{P},P x->iW x P)(hT:∀σ' A' j Kt,Q σ' (S.B (S.D.c+1) j S.D.bM (S.D.u+1) S.D.h S.V) T A'->(S.D.c≠0->j=S.D.F)->(S.D.c=0->y'=U->j=-1)->
 (∀g v B b st l V,Q g (S.B (S.D.c+1) j b st l V) v B->X v V st->Kt .j g)->W n 41 [.d S.L.g,.a s,.a t,x] σ' Kt)(hn:3<=n)(hK:∀g v B j b st l V,Q g (S.B S.D.c j b st l V) v B->(S.D.c≠0->j=S.D.F)->(S.D.c=0->y'=U->j=-1)->X v V st->K .j g):
 W (n+1) 40 [.d S.L.g,.a s,.a t,x] σ K:=by
 obtain⟨n,rfl⟩:∃k,n=k+3:=⟨n-3,(tH hn).symm⟩;refine bq [.d S.L.g,.a s,.a t,x] H<|dP ?_;lk;refine gW (dI s)<|Qq h ht hm hp λo e m=>?_;rw[bA M];refine im<|bd<|bV<|aU m.j H<|eh (B5 H)<|vi ?_;lk;refine aU m.j H ⟨H,om<|mL m.j H<|bV ?_⟩;obtain d:=m.oh {S.D with u:=S.D.u+1} H H;lk;refine aU d.j H<|o9 ?_ (aU d.j H<|qR ?_ (aU d.j H<|o9 ?_ (aw<|bV ?_)));.rw[show GD.b _=_ from F];induction y' using Bool.casesOn<;>decide
 .show S.D.c<40;exact zh hd.2 H
 .show S.D.u+1<=20000;exact Gc hN H
 obtain tail:∀{c:av}{j:Int},Q c (S.B S.D.c j S.D.bM (S.D.u+1) S.D.h S.V) T e->(S.D.c≠0->j=S.D.F)->(S.D.c=0->y'=U->j=-1)->
  wB (n+3) [.p V0 34 .add N1,.l<|.j 41 [V0,.A (.p V0 11) 3 [V1],.A (.p V0 11) 3 [V2],V3],.p V0 34 .sub N1]
  [.d S.L.g,.a s,.a t,x] c (rK K):=λ{c j} r D E=>by
  apply vi;lk;refine aU r.j H ⟨H,om<|mL r.j H<|ia ?_⟩;obtain h4:=r.oh {S.D with c:=S.D.c+1,F:=j,u:=S.D.u+1} H H;lk;refine aU h4.j H<|fY h4.st.q H<|uq<|aU h4.j H<|fY h4.st.q H<|uq<|hx<|hT _ e j _ h4 D E λu f i b st l V y G=>⟨aE,vi ?_⟩;lk;exact aU y.j H ⟨H,rE<|mL y.j H<|aw<|hK _ f i j b st l V (y.oh {S.D with c:=S.D.c,F:=j,bM:=b,u:=st,h:=l} H<|by rw[xZ];rfl) D E G⟩
 refine aU d.j H ?_;by_cases q:S.D.c=0
 .refine gO q<|ry ?_;lk;apply aU d.j H;rw[show AV.a _=AV.a (if y' then 1 else 0) from be AV.a F];clear F;obtain wr:=λj=>d.oh {S.D with F:=j,u:=S.D.u+1} H H;rcases y' with _|_;.exact gO H (mL d.j H<|aw<|tail (wr t) (aP q) λC=>dj)
  .exact eh (Y H)<|mL d.j H<|aw<|tail (wr<|-1) (aP q) λC C=>H
 .exact eh q<|aw<|tail d (λC=>H) λz=>aP z q
def a7v(S:GS)(T:bP)(R':Nat->List cQ)(N:Nat)(g:bP)(V:GV)(st:Int):Prop:=T.Le g/\GI S.D.a V g R'/\kP V/\st<=N
def kP.mk(h:V.h=[])(h':V.a=[]):kP V:=by unfold kP;rw[h,h']
def kP.ti(h:kP V):V.h=[]:=(HY h).1
def kP.g(h:kP V):V.a=[]:=(HY h).2
def Hd.jv{B:Nat->Option Nat}(h:Hd σ S T A R y' z B D N){j:av}{v:bP}{F:List<|Nat×Bool}{M b st:Int}{l:a7}{V:GV}{N':Nat}(q:Q j (S.B S.D.c M b st l V) v F)(X:S.D.c≠0->M=S.D.F)(a:a7v S T R' N' v V st)(hl:∀p,O (R' p)<=N')(hs:N'<=900):
 Hd j (S.B S.D.c M b st l V) v F R' y' z B D N':=
 ⟨q,a.2.1,h.h4,⟨h.c.d,h.c.b,λe c=>(X c).trans<|h.c.F e c⟩,h.r.F a.1,hl,a.2.2.2,hs,a.2.2.1.g⟩
def QI(g:∀p,O (R p)<=N){x}(j:O x<=1)(p q):O (RU p x R q)<=N+1:=by
 unfold RU;by_cases h:q=p;.rw[ak h,eK];exact jT (g q) j
 .rw[Z h];exact rd<|g q
def zp(h:Hd σ S T A R y' z B D N)(hd:0<=S.D.c/\S.D.c<=30)(a:bB T t<|14+p)(X:p∈S.D.a)(hi:Is T s m)(hm:Nm m)(hr:r<1024)(hw:r&&&16≠0->z=am)(hN:N+1<=900)(hK:∀j v F M b st l V,Hd j (S.B S.D.c M b st l V) v F (RU p (mU y' z (jz<|B p) m r) R) y' z B D (N+1)->T.Le v->kP V->(S.D.c≠0->M=S.D.F)->K .j j):
 W (n+8) 40 [.d S.L.g,.a s,.a t,.a r] σ K:=by
 have k:=h.h4 p X;refine ON h.q (jW h.u<|iH.mpr h.small) hd h.c.b (.B a) (pT<|qj k _) (pw<|fA ..) (λq G e=>(by
  rw[jD] at e;exact RY<|(Y e).symm.trans<|qk 14 p)▸X) (λh=>h)
  (λo d M I f i E u=>bq [.d S.L.g,.a s,.a t,.a r,.q] H<|cq ?_) (jE ..) λj v F M b st l V y i E C=>hK j v F M b st l V (h.jv y i C (λq=>QI h.aT (Ce ..) p q) hN) C.1 C.2.2.1 i
 lk;refine f.q<|aU f.h.h H<|eL f.h.e f.y.aR (by
  obtain e:=(yE (14+p)<|NG k H).2 (by rw[eB];exact⟨kn.mpr<|fA ..,kn.mpr<|qj k _⟩);rw[show 14+p-14=p from uP ..] at e;exact e▸a.2) (bV ?_)
 lk;refine dh (lb H) H<|gO H<|ia ?_;lk;refine dh (lb H) H (Xt (S:=S.B (S.D.c+1) M S.D.bM (S.D.u+1) S.D.h S.V) f h.gi h.h4 X ⟨h.c.d,h.c.b,λe=>?_⟩ h.r hi hm (aV (h.aT p)<|bG h.small H) hr hw
  λj v b l V y le g f0=>⟨aE,aw<|aw<|u j v d b (S.D.u+1) l V y ⟨le,g,f0.trans<|be (λx=>(([]:List<|Nat×Nat),x)) h.g,?_⟩⟩)
 .by_cases c:S.D.c=0;.exact E c e
  .exact(i c).trans<|h.c.F e c
 .have:=h.u;exact AA this 1
def Ch{x}(j:∀{P},P x->iW x P)(h:W n 40 [.d S.L.g,.a s,.a t,x] σ λv g=>OU v/\K .j g):W (n+1) 28 [.d S.L.g,.a s,.a t,x] σ K:=by
 refine bq [.d S.L.g,.a s,.a t,x] H<|ia ?_;lk;exact j h
noncomputable def GS.bs(S:GS)(b:Int):GS:={S with D:={S.D with bM:=b}}
noncomputable def eG(b:Nat):Bool:=eA 14 b
def Bw:∀b,b<18->sT b=eG b/\decide (bk b=10)=eG b:=by decide+kernel
def EG(a:bB T t b)(g:b<18)(h:eG b=U):T.e[t]?=I (.B [.a 10,.a (b-14:Nat)]):=aO ((yE b a.1).2<|(Bw b g).1.trans h) a.2
def Md(h:Q σ S T A)(a:bB T t b)(j:b<18)(v:eG b=U->b-14∈S.D.a)(g:K (.e<|eG b) σ):W (n+1) 42 [.d S.L.g,.a t] σ K:=by
 refine bq [.d S.L.g,.a t,.q] H<|bX<|aA a.hd λi d f=>h.q<|aU h.h.h H<|eL h.h.e h.y.aR d<|db ?_;lk;refine aU h.j H<|fU (B5 H)<|dh f H ?_;obtain c:=(Bw b j).2;rcases q:eG b with _|_;.rw[q] at g c;exact fU (dcQ c) g
 .rw[q] at g c;obtain e:=EG a j q;rw[d] at e;injection e with e;injection e with e;injection e with _ e
  clear a j d;subst e;refine kC (Y c)<|dh f H<|aU h.j H<|uj ?_;rw[bA<|v q];exact g
def Xg(h:Q σ S T A)(a:bB T t b)(j:b<14)(g:∀σ' v B,Q σ' (S.bs B) T v->K (.a 1024) σ'):W (n+6) 49 [.d S.L.g,.a s,.a t,.a r] σ K:=by
 refine bq [.d S.L.g,.a s,.a t,.a r,.q,.q] H<|cq<|aU h.j H<|ry ?_;lk;refine mL h.j H<|ia ?_;obtain f:=h.oh {S.D with bM:=1024} H H;lk;refine fY f.j H<|OB (S:=S.bs 1024) f (.B a) (tI (Y H) j) (λh=>h) λd c e=>⟨aE,bX<|aU e.j H<|bV ?_⟩;lk;refine aU e.j H ?_;by_cases q:S.D.bM<1024;.refine iw q<|ry ?_;lk;exact mL e.j H<|aw<|f7<|g _ c S.D.bM<|e.oh {S.D with bM:=S.D.bM} H H
 .exact gW (rg.mp q)<|aw<|f7<|g d c 1024 e
noncomputable abbrev xh(S:GS)(g tv j x4 x5 x6 v B x9 B' A! A_:AV):List AV:=[.d S.L.g,g,tv,j,x4,x5,x6,v,B,x9,B',A!,A_]
abbrev N6:List PS:=MZ
def e_(v:r<1024)(B:b<14):∀{ss g j σ S A K},Q σ S T A->bB T t b->
 (∀σ' F M g j,Q σ' (S.bs M) T F->K .none (xh S X tv (.a r) x4 (.e am) (.a t) g j x9 B' A! A_) σ')->
 cu (wB (n+6) N6) (.B 7) dc (G ss) (xh S X tv (.a r) x4 (.e am) (.a t) g j x9 B' A! A_) σ K:=by
 intro ss;induction ss with
 |nil=>
  intro g j σ S A K h _ d;exact d σ A S.D.bM g j h
 |cons s ss i=>
  intro g j σ S A K h a d;exact fj<|bX<|Xg h a B λe f c k=>kA<|eh (F7<|hZ v)<|kA<|eh (Y H)<|aw<|aw ⟨aE,i (S:=S.bs c) k a d⟩
abbrev e!:List PS:=[.d (.K<|.j 42 [V0,V6]) [.h (.B 7) V1 N6] []]
def d_(v:r<1024)(B:O ss<=aR):∀{qs x6 g j σ S A K},Q σ S T A->(∀q∈qs,bB T q.1 q.2/\q.2<18)->(∀q∈qs,eG q.2=U->q.2-14∈S.D.a)->
 (∀σ' F M x6 g j,Q σ' (S.bs M) T F->K .none (xh S (.r<|G ss) tv (.a r) x4 (.e am) x6 g j x9 B' A! A_) σ')->
 cu (wB (n+6) e!) (.B 6) dc (G<|E qs) (xh S (.r<|G ss) tv (.a r) x4 (.e am) x6 g j x9 B' A! A_) σ K:=by
 intro qs;induction qs with
 |nil=>
  intro x6 g j σ S A K h _ _ e;exact e σ A S.D.bM x6 g j h
 |cons q qs l=>
  intro x6 g j σ S A K h f m e;obtain b:=λx i=>f x<|bK q i;obtain c:=λx i=>m x<|bK q i;refine fj<|bV ?_;lk;apply Md h ((f q aZ)).1 ((f q aZ)).2<|m q aZ;rcases z:eG q.2 with _|_
  .exact im<|bw<|lf ⟨by rw[ba];exact B,e_ v (by
    unfold eG at z;exact m4 λy=>by rw[kn.mpr y] at z;exact mI z) h ((f q aZ)).1 λk o d g j p=>aw<|aw ⟨aE,l (S:=S.bs d) p b c e⟩⟩
  .exact im<|bd<|aw<|aw ⟨aE,l h b c e⟩
noncomputable def RA(ws:List Nat)(f:Nat->List cQ)(R:Nat->List cQ):Nat->List cQ:=λq=>if q∈ws then R q++f q else R q
def Hn(f)(R):RA [] f R=R:=by funext q;exact Z jU
def CT{f}(h:p∉ws):RA ws f (RU p (f p) R)=RA (p::ws) f R:=by
 funext q;unfold RA RU;by_cases e:q=p;.rw[e,Z h,ak H,ak aZ]
 .rw[Z e];by_cases z:q∈ws;.rw[ak z,ak<|bK _ z]
  .rw[Z z,Z λy=>(cf.mp y).elim e z]
def CR(p)(f)(R):RA [p] f R=RU p (f p) R:=by rw[<-CT jU,Hn]
def Je{A}(g:O vs<=aR)(j:vs≠[]->A)(v:vs=[]->B):c7 σ (.r vs) λc=>if c=U then A else B:=by
 refine⟨g,?_⟩;by_cases h:vs=[];.rw[bR λz=>z h];exact v h
 .rw[bA h];exact j h
def sJ{K}(g:O vs<=aR)(j:vs≠[])(v:K U):c7 σ (.r vs) K:=⟨g,by rw[bA j];exact v⟩
def UU(h:∀p∈ps,hV T p.1 p.2):IsL T (E ps)<|ps.map (·.2):=by
 induction ps with
 |nil=>exact .nil
 |cons p ps b=>exact .cons (h p aZ).is<|b λq hq=>h q<|bK _ hq
def hV.cI(g:hV T s m):m<2^18:=by
 cases g with
 |t8=>decide
 |atom _ b=>exact pT<|m3 b<|Y H
def DK(h:Q σ S T A)(g:∀p∈ps,hV T p.1 p.2)(v:O ps<=18)(e:cw (ps.map (·.2))=m)(j:Nm m)(B:∀u σ' T',Q σ' S T' A->T.Le T'->Is T' u m->K (.a u) σ'):W (n+3) 12 [.d S.tl.h,.r<|G<|E ps] σ K:=by
 refine pM (.inl H) h.h h.y (UU g) (λk c=>?_) (lm v H) λu σ' T' up b=>B u σ' T' (h.F up) up.c ?_;.obtain⟨q,hq,rfl⟩:=bp.mp c;exact(g q hq).cI
 .rw[e,(lI j.1).1,j.2] at b;exact b
abbrev YB:List PS:=MY
def EI(h:r<1024):(r|||1)<1024/\(r|||1)&&&16=r&&&16:=by
 refine⟨mG (n:=10) h<|Y H,?_⟩;rw[a6z];exact n7 _
def d!(e:cw (ps.map (·.2))=m)(M:Nm m)(hl:O ps<=18)(X:r<1024)(hw:r&&&16≠0->z=am):
 ∀{ks N x6 σ S T A R K},Hd σ S T A R y' z B D N->0<S.D.c/\S.D.c<=30->(∀p∈ps,hV T p.1 p.2)->(∀q∈ks,bB T q.1 q.2/\14<=q.2/\q.2-14∈S.D.a)->cg (ks.map (·.2))->N+O ks<=900->
 (∀g j v b st l V x6,Hd g (S.B S.D.c S.D.F b st l V) j v (RA (ks.map (·.2-14)) (λp=>mU y' z (jz<|B p) m<|r|||1) R) y' z B D (N+O ks)->T.Le j->(ks≠[]\/S.V.h=[]->kP V)->K .none (xh S (.r<|G<|E ps) tv (.a r) x4 x5 x6 x7 x8 x9 B' A! A_) g)->
 cu (wB (n+9) YB) (.B 6) dc (G<|E ks) (xh S (.r<|G<|E ps) tv (.a r) x4 x5 x6 x7 x8 x9 B' A! A_) σ K:=by
 intro Z;induction Z with
 |nil=>
  intro N x6 σ S T A R K h _ _ _ _ _ x;exact x σ T A S.D.bM S.D.u S.D.h S.V x6 h (.B T) λd=>d.elim (aP H) λe=>kP.mk e h.g
 |cons k ks ih=>
  intro N x6 σ S T A R K h hd P C nd Q x;refine gl (C k aZ) λa o kp=>?_;rw[lG,fh] at nd;refine fj<|ia ?_;lk;refine fY h.q.j H<|h.q.q<|DK h.q P hl e M λu F U h1 br hu=>gX 1<|Ch (λh=>h)<|zp ⟨h1,h.gi.F br,h.h4,h.c,h.r.F br,h.aT,h.u,h.small,h.g⟩ ⟨uT hd.1,hd.2⟩ ((Ao o).symm▸a.F br) kp hu M (EI X).1 (ay ((EI X).2) hw) (rN Q) λg j v tp b st l V h2 f f2 et=>⟨aE,⟨aE,aw ⟨aE,?_⟩⟩⟩;obtain rfl:=et<|Dp hd.1;refine ih (S:=S.B S.D.c S.D.F b st l V) h2 hd (λp I=>((P p I).F br).F f) (λq hq=>gl (C q<|bK _ hq) λa b c=>⟨(a.F br).F f,b,c⟩) nd.2 (mi Q) λi s t b' J l' V' x6 W L f3=>x i s t b' J l' V' x6 ?_ (br.q<|f.q L) λζ=>f3<|.inr f2.ti;rw[CT] at W;.rw[kq,qk (O ks) 1,<-oM];exact W
  .exactλd=>aA (bp.mp d) λy Y ey=>nd.1 (bp.mpr ⟨y,Y,D7 ((C y<|bK _ Y).2.1) o ey⟩)
def Ob(h:Hd σ S T A R y' z B D N)(hd:0<S.D.c/\S.D.c<=30)(hp:∀p∈ps,hV T p.1 p.2)(e:cw (ps.map (·.2))=m)(hm:Nm m)(a3:ps≠[])(M:O ps<=18)(hq:∀q∈qs,bB T q.1 q.2/\q.2<18)(a0:O qs<=18)(F:∀q∈qs,eG q.2=U->q.2-14∈S.D.a)(nd:cg<|qs.map (·.2))(hr:r<1024)(hw:r&&&16≠0->z=am)(hN:N+O (qs.filter (eG ·.2))<=900)(a1:qs.filter (eG ·.2)≠[])(hK:∀g v a2 b st l V,Hd g (S.B S.D.c S.D.F b st l V) v a2 (RA ((qs.filter (eG ·.2)).map (·.2-14)) (λp=>mU y' z (jz<|B p) m<|if O (qs.filter (eG ·.2))=1 then r else r|||1) R) y' z B D (N+O (qs.filter (eG ·.2)))->T.Le v->kP V->K .j g):
 W (n+10) 50 [.d S.L.g,.r<|G<|E ps,.r<|G<|E qs,.a r] σ K:=by
 apply bq [.d S.L.g,.r<|G<|E ps,.r<|G<|E qs,.a r,.q,.q,.q,.q,.q,.q,.q,.q,.q] H;have y:O (G<|E ps)<=aR:=kG M H;have o:O (G<|E qs)<=aR:=kG a0 H;apply cq;intro k fr;obtain h1:=h.q.N (.a 0 [])<|fr 43;refine cq (lf ⟨o,d_ (S:={S with X:=(⟨43,k⟩,.a 0 [])::S.X}) hr (by rw[<-ba];exact y) h1 hq F λQ a8 j x6 x7 x8 Y=>p7 H (Y.P (B:=[]) H) ?_⟩);have L:=Y.R (B:=[]) H;have fq:∀q∈qs,(qs.any λx=>decide (x.1=q.1)&&eG x.2)=eG q.2:=λq d=>by
  rw[gu,iG] at⊢;constructor;.rintro⟨x,hx,e⟩;rw[eB,dT] at e;rw[<-bB.q (e.1▸(hq x hx).1) (hq q d).1];exact e.2
  .exactλe=>⟨q,d,by rw[e,bA H];rfl⟩
 refine bX ⟨o,tj (q:=λi=>qs.any λq=>decide (q.1=i)&&eG q.2) aE (λi hi Kt ht=>?_) (λi J Ke he=>he) ?_⟩;.refine aA (bp.mp hi) λq d a4=>?_;subst a4;exact Md (S:=S.bs j) L (hq q d).1 (hq q d).2 (F q d)<|aO (fq q d) ht
 rw[B9 fq];refine bX ⟨y,tj (q:=λJ=>U) aE (λi hi Kt ht=>?_) (λi J Ke he=>he) ?_⟩;.lk;exact Br ht
 rw[show Dk (λJ=>U) (E ps)=E ps from Au.mpr λJ J=>H];have fl:∀q∈qs.filter (eG ·.2),bB T q.1 q.2/\14<=q.2/\q.2-14∈S.D.a:=λq d=>by
  exact bY (cG.mp d) λm1 m2=>⟨(hq q m1).1,kn.mp m2,F q m1 m2⟩
 have ti:cg<|(qs.filter (eG ·.2)).map (·.2):=nd.sublist<|Im.map _;have C:O (G<|E<|qs.filter (eG ·.2))<=aR:=by
  rw[ba,ba];exact aV (k9 ..)<|by rw[ba,ba] at o;exact o
 have P:O (G<|E<|qs.filter (eG ·.2))=O (qs.filter (eG ·.2)):=by rw[ba,ba]
 generalize qs.filter (eG ·.2)=ks at*;apply bV;lk;refine⟨C,?_⟩;rw[P];clear a0 F nd o fr h1 Y fq P;by_cases ar:O ks=1
 .match ks,ar with
  |[kk],_=>
   refine gl (fl kk aZ) λa a5 kp=>kC H<|Je y (λJ=>im<|bw<|ia ?_) λc=>aP c λc=>a3<|lF.mp<|lF.mp c;lk;refine fY L.j H<|L.q<|DK (S:=S.bs j) L hp M e hm λu g v h4 le hu=>qA (bU H) H<|Ch (λh=>h)<|zp (S:=S.bs j) ⟨h4,h.gi.F le,h.h4,⟨h.c.d,h.c.b,h.c.F⟩,h.r.F le,h.aT,h.u,h.small,h.g⟩ ⟨uT hd.1,hd.2⟩ ((Ao a5).symm▸a.F le) kp hu hm hr hw hN λf s t tp b st l V h5 I f5 et=>⟨aE,⟨aE,db ?_⟩⟩;obtain rfl:=et<|Dp hd.1;refine hK f s t b st l V ?_ (le.q I) f5;rw[CR];exact h5
 .refine fU (gm ar)<|bd<|aw<|bV ?_;lk;refine sJ C (λc=>a1<|lF.mp<|lF.mp c)<|bd<|aw<|lf ⟨C,d! (S:=S.bs j) e hm M hr hw ⟨L,h.gi,h.h4,⟨h.c.d,h.c.b,h.c.F⟩,h.r,h.aT,h.u,h.small,h.g⟩ hd hp fl ti hN λf s t b st l V x6 h5 I f5=>aw<|((Z ar)▸hK) f s t b st l V h5 I<|f5<|.inl a1⟩
def TF{a x}(h:x%2<=a%2)(k:x/2<=a/2):(a-x)%2=a%2-x%2/\(a-x)/2=a/2-x/2:=by
 obtain e:a-x=(a%2-x%2)+2*(a/2-x/2):=by
  refine a6l<|(a6p a 2).symm.trans<|.trans ?_ (be (_+·)<|a6p x 2);rw[Nat.mul_sub,Nat.add_add_add_comm,tH h,tH<|rc 2 k]
 obtain l:=gQ (pE ..)<|xQ _ De;rw[e,Nat.add_mul_mod_self_left,a6o l,Nat.add_mul_div_left _ _ De,Nat.div_eq_of_lt l,n6];exact⟨H,H⟩
def XY:∀p<2,∀q<2,p&&&q<=p/\decide (p-(p&&&q)=1)=(decide (p=1)&&!decide (q=1)):=Y H
def DS(a r):((a-(a&&&r))%2=a%2-(a%2&&&r%2)/\(a-(a&&&r))/2=a/2-(a/2&&&r/2))/\decide (a%2-(a%2&&&r%2)=1)=(decide (a%2=1)&&!decide (r%2=1)):=by
 obtain m:=Nat.and_mod_two_pow (n:=1);obtain p:=XY _ (xQ a De) _<|xQ r De;exact⟨m▸Nat.and_div_two▸TF (ay m p.1) (Nat.div_le_div_right H4),p.2⟩
def vd:∀(i a r:Nat),aQ (a-(a&&&r)) i=(aQ a i&&!r.testBit i):=by
 intro i;induction i with
 |zero=>
  intro a r;rw[RF,RF,RF,(DS a r).1.1];exact(DS a r).2
 |succ i b=>
  intro a r;rw[RG,RG,RG,(DS a r).1.2];exact b ..
def UL(h:∀i,aQ m' i=U->aQ m i=U)(g:lJ m b=U):lJ m' b=true:=by
 obtain k:∀{x:Bool}{i:Nat},(x&&aQ m i)=am->(x&&aQ m' i)=false:=λ{x i} e=>by
  rcases x with _|_;.rfl
  .rcases q:aQ m' i with _|_;.rfl
   .obtain e:=(h i q)▸e;exact mI e
 unfold lJ at g⊢;rw[eB,eB,nI,nI,nI] at g⊢;exact⟨k g.1,k g.2.1,k g.2.2⟩
def LV:fp 0=0:=by decide+kernel
def EM(j:m<2^18)(h:∀i,aQ m' i=U->aQ m i=U)(e:fp m=m):fp m'=m':=by
 have ar:∀k,m=2^k->aQ m' k=am->m'=0:=λk q z=>km λi=>by
  rw[lX];cases y:aQ m' i with
  |false=>rfl
  |true=>
   have:=h i y;rw[q,jD] at this;rw[<-Y this] at y;exact(y.symm.trans z)
 have fS:∀k,m=2^k->aQ m' k=U->m'=2^k:=λk q z=>km λi=>by
  rw[jD];by_cases w:k=i;.rw[bA w,<-w];exact z
  .rw[bR w];cases y:aQ m' i with
   |false=>rfl
   |true=>
    have:=h i y;rw[q,jD] at this;exact aP (Y this) w
 cases b:aQ m 13 with
 |true=>
  have d:m=2^13:=by
   have:=e;unfold fp at this;rw[ak b] at this;exact this.symm
  cases z:aQ m' 13 with
  |true=>rw[fS 13 d z];exact Bm 13<|Y H
  |false=>rw[ar 13 d z];exact LV
 |false=>
  have f:aQ m' 13=false:=by
   cases z:aQ m' 13 with
   |false=>rfl
   |true=>exact(h 13 z).symm.trans b
  cases c:aQ m 12 with
  |true=>
   have d:m=2^12:=by
    have:=e;unfold fp at this;rw[Z<|b▸eS,ak c] at this;exact this.symm
   cases z:aQ m' 12 with
   |true=>rw[fS 12 d z];exact Bm 12<|Y H
   |false=>rw[ar 12 d z];exact LV
  |false=>
   have g:aQ m' 12=false:=by
    cases z:aQ m' 12 with
    |false=>rfl
    |true=>exact(h 12 z).symm.trans c
   unfold fp at e⊢;rw[Z (by rw[b];exact eS),Z<|c▸eS] at e;rw[Z<|f▸eS,Z<|g▸eS];apply km;intro i;rw[fF,gu,dT,cG,eJ,eB];refine⟨λz=>z.2.1,λz=>⟨((λi q=>m4 λz=>by
  have:=h i q;rw[jR<|eR j<|pw<|aV (Y H) z] at this;exact dj this:∀i,aQ m' i=U->i<30)) i z,z,UL h ?_⟩⟩
   have:=h i z;rw[<-e,fF] at this;have:=(cG.mp<|Y this).2;rw[eB] at this;exact this.2
def Nm.g(j:Nm m):fp m=m:=by rw[(lI j.1).1,j.2]
def Nm.rD(j:Nm m)(r):Nm<|m-(m&&&r):=by
 obtain lt:=gQ (pE ..) j.1;exact⟨lt,by rw[<-(lI lt).1];exact(EM j.cI (λi q=>by rw[vd,eB] at q;exact q.1) j.g)⟩
def mK(i):∀ms,aQ (cw ms) i=ms.any (·.testBit i):=by
 intro b;induction b with
 |nil=>
  exact lX i
 |cons m ms c=>
  rw[fD,c];rfl
def iN(bs:List Nat):Nat:=cw<|bs.map nQ
def Eg(b c):fT (2^b) c=aQ (nQ c) b:=by
 unfold fT;rw[a6B,gu,dT] at⊢;exact sU ..
structure tC(T:bP)(ps:List<|Nat×Nat)(m:Nat):Prop where
 tT:∀p∈ps,hV T p.1 p.2
 y:cw (ps.map (·.2))=m
 ne:ps≠[]
 aT:ps.length<=18
 zero:m=0->∀p∈ps,p.2=0
 sg:m≠0->∀p∈ps,∃b,b<14/\p.2=2^b
def tC.h(g:tC T ps m):cw ((oi fT ps qs).map (·.2))=m-(m&&&iN (qs.map (·.2))):=by
 apply km;intro i;rw[mK,vd,<-g.y,mK,gu,iG,eB,iG,nI];obtain j:∀p∈ps,aQ p.2 i=U->((!qs.any λq=>fT p.2 q.2)=U↔aQ (cw<|(qs.map (·.2)).map nQ) i=am):=λp c q=>by
  rw[((λp c q=>by
  by_cases z:m=0;.obtain q:=(g.zero z p c ..)▸q;obtain q:=(lX ..)▸q;exact dj q
  .refine aA (g.sg z p c) λb o e=>?_;obtain q:=e▸q;obtain q:=jD▸q;rw[e,Y q]:∀p∈ps,aQ p.2 i=U->p.2=2^i)) p c q,mK,Si,Si,nI]
  rw[(show(qs.any λq=>fT (2^i) q.2)=qs.any ((λx=>aQ x i)∘nQ∘λx=>x.2) from by
   congr 1;funext q;exact Eg ..)];exact Iq
 constructor;.rintro⟨x,f,q⟩;refine aA (bp.mp f) λp c d=>?_;subst d;obtain⟨k,l⟩:=cG.mp c;exact⟨⟨p.2,dU k,q⟩,(j p k q).mp l⟩
 .rintro⟨⟨x,f,q⟩,n⟩;refine aA (bp.mp f) λp c d=>?_;subst d;exact⟨p.2,dU<|cG.mpr ⟨c,(j p c q).mpr n⟩,q⟩
def tC.LX(g:tC T ps m):oi fT ps qs=[]↔m≠0/\m-(m&&&iN (qs.map (·.2)))=0:=by
 constructor
 .refineλe=>⟨λz=>bc (Dl ps g.ne) λp c=>?_,by rw[<-g.h,e];rfl⟩
  have:p∈oi fT ps qs:=cG.mpr ⟨c,by
   rw[g.zero z p c,nI,uS] at⊢;intro q _;rw[Ef];exact eS⟩
  obtain this:=e▸this;cases this
 .rintro⟨hz,e⟩;refine Sf.mpr λp c=>aA (g.sg hz p (cG.mp c).1) λb f d=>?_;rw[<-g.h] at e;have:aQ (cw<|(oi fT ps qs).map (·.2)) b=true:=by
   rw[mK,iG] at⊢;exact⟨p.2,dU c,by rw[d,jD];exact bA H⟩
  rw[e,lX] at this;exact dj this
structure CU(T:bP)(qs:List<|Nat×Nat)(E:List Nat)(bs:List Nat):Prop where
 E:Internal.E qs=E
 bs:qs.map (·.2)=bs
 h:∀q∈qs,bB T q.1 q.2/\q.2<18
def eU.list{E}(g:eU T E bs)(v:∀b∈bs,b<18):∃qs,CU T qs E bs:=by
 induction g with
 |nil=>exact⟨[],H,H,dS⟩
 |@cons t b ts bs a _ d=>
  obtain⟨qs,e,f,i⟩:=d λc j=>v c<|bK _ j;refine⟨(t,b)::qs,be _ e,be _ f,λq hq=>?_⟩;rcases cf.mp hq with rfl|hq;.exact⟨a,v b aZ⟩
  .exact i q hq
def CP.list(g:CP T ss ms):∃ps,E ps=ss/\ps.map (·.2)=ms/\∀p∈ps,hV T p.1 p.2:=by
 induction g with
 |nil=>exact⟨[],H,H,dS⟩
 |@cons s m ss ms a _ b=>
  refine eW b λps c d e=>⟨(s,m)::ps,be _ c,be _ d,λq hq=>?_⟩;rcases cf.mp hq with rfl|hq;.exact a
  .exact e q hq
def XU{x:AV}(h:Q σ S T A)(hi:Is T s m)(j:m<2^14)(v:∀ps,tC T ps m->K (.r<|G<|E ps) σ):W (n+2) 47 [.d S.tl.h,.a s] σ K:=by
 refine UX h.h h.y hi j λss ms i u k h4 l o q=>eW i.list λps c d r=>?_;clear h hi j i;subst c;subst d;exact v ps ⟨r,l,λz=>h4 (by rw[z];rfl),(aO (ba ..) k),λz p f=>d8.mp<|(o z)▸(dU f),λz p f=>aA (q z) λbs e t=>aA (bp.mp<|aO e<|dU f) λb g e=>⟨b,t b g,e.symm⟩⟩
def Z5:List PS:=[.d (.K V6) [.c<|.k AV.j] [],
 .d (.K V5)
  [.l<|.A V0 4 [V1,.j 12 [V4,V6],.q .b V3<|gi 1]]
  [.d (.h .eq (.aT V6) N1)
   [.l<|.A V0 4 [.j 12 [V4,V5],.n V6 N0,V3]]
   [.l<|.j 50 [V0,V5,V6,V3]]]]
def W2(ps qs):oi (λg g=>am) ps qs=ps:=Au.mpr λp g=>by
 rw[nI,uS] at⊢;exactλg g=>eS
def W1(ps qs):oU (λg g=>am) ps qs=qs:=Au.mpr λp g=>by
 rw[nI,uS] at⊢;exactλg g=>eS
def NW(h:Q σ S T A)(hi:Is T s m)(B:m<2^14)(g:iS T t y! bs)(v:∀b∈bs,b<18)(F:∀ps qs σ' T' M,Q σ' S T' M->T.Le T'->tC T' ps m->CU T' qs y! bs->wB (n+7) Z5 [.d S.L.g,.a s,.a t,.a r,.d S.tl.h,.r<|G<|E<|oi fT ps qs,.r<|G<|E<|oU fT ps qs,.q] σ' (rK K)):
 W (n+8) 48 [.d S.L.g,.a s,.a t,.a r] σ K:=by
 refine bq [.d S.L.g,.a s,.a t,.a r,.q,.q,.q,.q] H<|bX<|h.q<|bX<|XU (x:=.j) h hi B λps c=>bX ?_;lk;obtain i:=g.w.w h.y (g.h.imp hZ) v;refine EA h.h h.y g ⟨lm i H,GW aE (λC C h=>h) (λx D N l=>G9 D l)<|tW ?_⟩;lk;refine bc (g.w.list v) λqs d=>?_;have u:O qs<=18:=by obtain i:=jg (d.E ..)▸i;obtain i:=(ba ..)▸i;exact i
 rw[<-d.E];refine Jx (λh=>h) h c.tT d.h c.aT u λo y z I br=>⟨H,tW ?_⟩;lk;refine Jx (λh=>h) I (λp g=>(c.tT p (cG.mp g).1).F br) (λq hq=>⟨(d.h q (cG.mp hq).1).1.F br,(d.h q (cG.mp hq).1).2⟩)
  (aV (k9 ..) c.aT) (aV (k9 ..) u) λe j k L f=>⟨H,?_⟩
 rw[W2,W1];refine F ps qs e j k L (br.q f) ⟨λp g=>(c.tT p g).F<|br.q f,c.y,c.ne,c.aT,c.zero,c.sg⟩ ⟨d.E,d.bs,λq hq=>⟨(d.h q hq).1.F<|br.q f,(d.h q hq).2⟩⟩
def cS(bs:List Nat):List Nat:=(bs.filter eG).map (·-14)
def AF(qs:List<|Nat×Nat):(qs.filter (eG ·.2)).map (·.2-14)=cS (qs.map (·.2)):=by
 unfold cS;rw[R9,kM];rfl
noncomputable def oz(m y_:Nat):Nat:=if m-(m&&&y_)=0 then m else m-(m&&&y_)
noncomputable def mo(m y_ k r:Nat):Nat:=if k≠1\/(m-(m&&&y_)=0/\m≠0) then r|||1 else r
def Hd.fX(h:Hd σ S T A R y' z B D N)(j:N<=N')(v:N'<=900):Hd σ S T A R y' z B D N':=⟨h.q,h.gi,h.h4,h.c,h.r,λp=>aV (h.aT p) j,jW h.u<|iH.mpr j,v,h.g⟩
def a02:(∀b,b<30->nU[13]?≠I (gz b)):=by decide+kernel
def Cr(g:bF T)(hi:Is T s m):(s:Int)≠13:=λe=>by
 obtain e:=gI e;subst e;obtain b:=g.F (t:=13)<|Y H;refine gk hi λE bs p c=>?_;cases p with
 |B a=>exact a02 _ a.1<|b.symm.trans a.2
 |a h=>
  exact aP (b▸h)<|by intro z;injection z with z;injection z with z;injection z with z;injection z with z;exact aP z<|Y H
def OM{mt}(h:Hd σ S T A R y' z B D N)(hd:0<=S.D.c/\S.D.c<=30)(ht:T.e[t]?=I (nK y!))(hi:Is T t mt)(hm:mt<2^18)(M:2^14<=mt)(hp:∀p,p<4->aQ mt (p+14)=U->p∈S.D.a)(hs:Is T s m)(hU:∀σ' A' F X,Hd σ' (S.B (S.D.c+1) F S.D.bM (S.D.u+1) S.D.h S.V) T A' R y' z B D (N+1)->
 (∀g j v b st l V,Hd g (S.B (S.D.c+1) F b st l V) j v R' y' z B D N'->T.Le j->kP V->X .j g)->W (n+3) 48 [.d S.L.g,.a s,.a t,.a r] σ' X)(hN:N+1<=900)(hl:∀p,O (R' p)<=N')(a0:N'<=900)(hK:∀g j v F b st l V,Hd g (S.B S.D.c F b st l V) j v R' y' z B D N'->T.Le j->kP V->(S.D.c≠0->F=S.D.F)->K .j g):
 W (n+5) 40 [.d S.L.g,.a s,.a t,.a r] σ K:=by
 refine ON h.q (jW h.u<|iH.mpr h.small) hd h.c.b hi hm M hp (λh=>h)
  (λd i F X f o x q=>bq [.d S.L.g,.a s,.a t,.a r,.q] H<|cq ?_) (jE ..) λg j v F b st l V k o x u=>hK g j v F b st l V (h.jv k o u hl a0) u.1 u.2.2.1 o
 lk;refine f.q<|aU f.h.h H<|eL f.h.e f.y.aR ht<|bV ?_;lk;refine dh (lb H) H<|eh (Y H)<|kA<|eh (Cr f.y hs)<|bV ?_;lk;refine dh (t:=0) (lb H) H<|gO H<|ia<|hU d i F _ ⟨f,h.gi,h.h4,⟨h.c.d,h.c.b,λe C=>?_⟩,h.r,λp=>rd<|h.aT p,?_,hN,h.g⟩ λg j v b st l V k le y=>⟨aE,aw<|aw<|aw<|aw<|q g j v b st l V k.q ⟨le,k.gi,y,k.u⟩⟩
 .by_cases c:S.D.c=0;.exact x c e
  .exact(o c).trans<|h.c.F e c
 .have:=h.u;show S.D.u+1<=((N+1:Nat):Int);exact AA this 1
def vQ(h:O ps<=18):O (G<|E ps)<=aR:=kG h H
def zH(h:ps≠[]):G (E ps)≠[]:=λz=>h<|lF.mp<|lF.mp z
def Hd.gU{B:Nat->Option Nat}(h:Hd σ S T A R y' z B D N){σ':av}{T':bP}{j:List<|Nat×Bool}(q:Q σ' S T' j)(le:T.Le T'):Hd σ' S T' j R y' z B D N:=⟨q,h.gi.F le,h.h4,h.c,h.r.F le,h.aT,h.u,h.small,h.g⟩
def Z3(h:Hd σ S T A R y' z B D N)(hd:0<S.D.c/\S.D.c<=30)(hi:Is T s m)(hm:Nm m)(j:iS T t y! bs)(hb:∀b∈bs,b<18)(X:∀b∈bs,eG b=U->b-14∈S.D.a)(nm:m&&&iN bs=0)(M:2<=O bs)(a0:cS bs≠[])(hr:r<1024)(hw:r&&&16≠0->z=am)(hN:N+O (cS bs)<=900)(hK:∀g v F b st l V,Hd g (S.B S.D.c S.D.F b st l V) v F (RA (cS bs) (λp=>mU y' z (jz<|B p) m<|if O (cS bs)=1 then r else r|||1) R) y' z B D (N+O (cS bs))->T.Le v->kP V->K .j g):
 W (n+11) 48 [.d S.L.g,.a s,.a t,.a r] σ K:=by
 refine NW h.q hi hm.1 j hb λps qs k u x E br d f=>?_;have C:∀p∈ps,∀q∈qs,fT p.2 q.2=false:=λp j q hq=>by
  by_cases c:m=0;.rw[d.zero c p j];exact Ef _
  .obtain⟨b,_,e⟩:=d.sg c p j;rw[e,Eg];cases y:aQ (nQ q.2) b with
   |false=>rfl
   |true=>
    have:aQ (m&&&iN bs) b=true:=by rw[ra,((show aQ (iN bs) b=U from by
     rw[mK];rw[iG] at⊢;exact⟨nQ q.2,dU<|aO f.bs<|dU hq,y⟩)),(show aQ m b=U from by
     rw[<-d.y,mK];rw[iG] at⊢;exact⟨p.2,dU j,by rw[e,jD];exact bA H⟩)];rfl
    rw[nm,lX] at this;exact dj this
 have es:oi fT ps qs=ps:=Au.mpr λp j=>by
  rw[nI];rw[uS] at⊢;intro q hq;rw[C p j q hq];exact eS
 have G:oU fT ps qs=qs:=Au.mpr λq hq=>by
  rw[nI];rw[uS] at⊢;intro p j;rw[C p j q hq];exact eS
 rw[es,G];have i:O qs=O bs:=by rw[<-f.bs,ba]
 have bl:=j.w.aT▸j.w.w h.q.y (j.h.imp hZ) hb;apply pR;lk;refine sJ (vQ<|i▸bl) (zH λc=>by rw[c] at i;rw[<-i] at M;exact aP M<|Y H)<|bd<|kA ?_;lk;refine sJ (vQ d.aT) (zH d.ne)<|bd<|kA ?_;lk;refine⟨vQ<|i▸bl,eh ?_ (mg ?_)⟩;.rw[ba,ba,i];exact gm<|rb M
 lk;have o:cS bs=(qs.filter (eG ·.2)).map (·.2-14):=by rw[AF,f.bs]
 rw[show O (cS bs)=O (qs.filter (eG ·.2)) from by rw[o,ba]] at hN hK;rw[o] at hK;refine Ob (h.gU E br) hd d.tT d.y hm d.ne d.aT f.h (ay i bl) (λq hq=>X q.2<|aO f.bs<|dU hq) (ay f.bs<|j.w.q h.q.y<|j.h.imp hZ) hr hw hN
  (λc=>a0<|by rw[o,c];rfl) λg v F b st l V M le I=>⟨aE,aw<|aw<|aw<|hK g v F b st l V M (br.q le) I⟩
def AG:p∈cS bs↔p+14∈bs:=by
 unfold cS;rw[bp] at⊢;constructor;.rintro⟨b,c,rfl⟩;rw[tH<|kn.mp ((cG.mp c)).2];exact((cG.mp c)).1
 .exactλh=>⟨p+14,cG.mpr ⟨h,kn.mpr<|jE ..⟩,a6C ..⟩
def IB(h:cg bs):cg<|cS bs:=Ib.mpr<|(h.sublist Im).imp_of_mem λ{a b} c d f e=>f<|D7 (kn.mp (cG.mp c).2) (kn.mp (cG.mp d).2) e
def Iz(h:cg bs)(h':cg z!)(e:∀p,p+14∈bs↔p+14∈z!):O (cS bs)=O (cS z!)/\∀f R,RA (cS bs) f R=RA (cS z!) f R:=by
 have m:∀p,p∈cS bs↔p∈cS z!:=λp=>by rw[AG,AG] at⊢;exact e p
 refine⟨((List.perm_ext_iff_of_nodup (IB h)<|IB h').mpr m).length_eq,λf R=>?_⟩;funext q;unfold RA;by_cases z:q∈cS bs;.rw[ak z,ak<|(m q).mp z]
 .rw[Z z,Z λy=>z<|(m q).mpr y]
def YO(e:bW bs=bW z!)(b):b∈bs↔b∈z!:=by
 obtain h:=be (aQ · b) e;rw[show aQ (bW bs) b=decide (b∈bs) from fF ..,show aQ (bW z!) b=decide (b∈z!) from fF ..] at h;exact jp.mp h
def WP(h:∀b,b∈bs->b∈z!):∀i,aQ (iN bs) i=U->aQ (iN z!) i=true:=λi q=>by
 unfold iN at q⊢;rw[mK,iG] at q⊢;refine aA q λx d e=>aA (bp.mp d) λb f c=>?_;subst c;exact⟨_,dU<|h b f,e⟩
def WQ{c}(h:eG c=U)(g:c<18):fT m c=false:=by
 obtain this:=kn.mp h;unfold fT nQ;rw[Z<|lq this H,Z<|lq this H,Z<|w6 this H,Z<|w6 this H,Z<|a6n this,sC];rfl
def W0(hq:CU T qs y! bs):(oU fT ps qs).filter (eG ·.2)=qs.filter (eG ·.2):=by
 rw[a6X];refine Io λq b=>?_;rcases z:eG q.2 with _|_;.rfl
 .rw[nI];rw[uS] at⊢;intro p _;rw[WQ z (hq.h q b).2];exact eS
def x_(h:tC T ps m)(g:oi fT ps qs≠[]){k r:Nat}:oz m (iN<|qs.map (·.2))=m-(m&&&iN (qs.map (·.2)))/\mo m (iN<|qs.map (·.2)) k r=if k=1 then r else r|||1:=by
 obtain n:¬(m-(m&&&iN (qs.map (·.2)))=0/\m≠0):=λz=>g<|h.LX.mpr z.symm;unfold oz mo;constructor
 .by_cases z:m-(m&&&iN (qs.map (·.2)))=0;.rw[z];exact Ir λy=>n ⟨z,y⟩
  .rw[Z z]
 .by_cases z:k=1;.rw[ak z,Z λy=>y.elim (λy=>y z) n]
  .rw[Z z,ak<|.inl z]
def a0b(h:tC T ps m)(g:oi fT ps qs=[]){k r:Nat}:oz m (iN<|qs.map (·.2))=m/\mo m (iN<|qs.map (·.2)) k r=r|||1:=bY (h.LX.mp g) λc b=>⟨ak b,ak<|.inr ⟨b,c⟩⟩
def WZ(h:tC T ps m):m&&&iN ((oU fT ps qs).map (·.2))=0:=by
 apply km;intro i;rw[ra,lX];cases z:aQ m i with
 |false=>rfl
 |true=>
  rw[wc,mK];rw[uS] at⊢;intro x g;obtain⟨c,j,rfl⟩:=bp.mp g;obtain⟨q,hq,rfl⟩:=bp.mp j;have u:=(cG.mp hq).2;rw[nI,uS] at u;rw[<-h.y,mK,iG] at z;obtain⟨y,k,e⟩:=z;obtain⟨p,d,rfl⟩:=bp.mp k;obtain⟨b,_,f⟩:=h.sg (λq=>by rw[h.zero q p d,lX] at e;exact dj e) p d;rw[f,jD] at e;have:=u p d;rw[f,Eg,Y e] at this;exact this
def xz(h:∀q∈qs,bB T q.1 q.2/\q.2<18):IsL T (E qs)<|(qs.map (·.2)).map (2^·):=by
 induction qs with
 |nil=>exact .nil
 |cons q qs b=>exact .cons (.B (h q aZ).1)<|b λx c=>h x<|bK _ c
def QM{f}(g:∀p,O (R p)<=N)(j:∀p,O (f p)<=1)(q):O (RA ws f R q)<=N+1:=by
 unfold RA;by_cases h:q∈ws;.rw[ak h,eK];exact jT (g q)<|j q
 .rw[Z h];exact rd<|g q
def Z4(h:Hd σ S T A R y' z B D N)(hd:0<S.D.c/\S.D.c<=29)(hi:Is T s m)(hm:Nm m)(hq:∀q∈qs,bB T q.1 q.2/\q.2<18)(a3:O qs<=18)(nd:cg<|qs.map (·.2))(a0:∀b∈qs.map (·.2),b∈bs)(hn:fp (bW bs)=bW bs)(X:bW bs<2^18)(a4:∀q∈qs,eG q.2=U->q.2-14∈S.D.a)(nm:m&&&iN (qs.map (·.2))=0)(a5:cS (qs.map (·.2))≠[])(hr:r<1024)(hw:r&&&16≠0->z=am)(hN:N+1+O (cS<|qs.map (·.2))<=900)(hK:∀g j F b st l V,Hd g (S.B S.D.c S.D.F b st l V) j F (RA (cS<|qs.map (·.2)) (λp=>mU y' z (jz<|B p) m<|r|||1) R) y' z B D (N+1+O (cS<|qs.map (·.2)))->T.Le j->kP V->K .j g):
 W (n+14) 12 [.d S.tl.h,.r<|G<|E qs] σ λv M=>jr M .b (.a r) (.a 1) λx=>W (n+14) 28 [.d S.L.g,.a s,v,x] M K:=by
 refine pM (.inl H) h.q.h h.q.y (xz hq) (λk hk=>?_) (lm a3 H) λu M c3 up hu=>gX 1 ?_;.obtain⟨b,a8,rfl⟩:=bp.mp hk;obtain⟨q,f,rfl⟩:=bp.mp a8;exact pT (hq q f).2
 have h1:=h.gU (h.q.F up) up.c;rw[w0,EM X (λi q=>by
  rw[fF,dT] at q⊢;exact a0 i q) hn] at hu
 obtain⟨t,d,y,P⟩:=hu;have L:=YO P;obtain⟨wl,wr⟩:=Iz (y.w.q up.y<|y.h.imp hZ) nd λp=>L<|p+14;have o:∀b∈d,eG b=U->b-14∈S.D.a:=λb X c=>by
  obtain⟨q,f,rfl⟩:=bp.mp<|(L b).mp X;exact a4 q f c
 rw[<-wr] at hK;rw[<-wl] at hK hN;have e:cS d≠[]:=λc=>a5 (xW.mp<|by rw[<-wl,c];rfl);have ar:=EI hr;refine Ch (λh=>h) ?_;cases y with
 |nil=>exact aP H e
 |@B _ b a=>
  have nb:eG b=true:=by
   cases c:eG b with
   |true=>rfl
   |false=>
    refine aP ?_ e;unfold cS;rw[jf,c];rfl
  have ew:cS [b]=[b-14]:=by
   unfold cS;rw[jf,nb];rfl
  rw[ew,CR] at hK;rw[ew] at hN;refine zp h1 ⟨uT hd.1,vB hd.2 H⟩ ((H5<|kn.mp nb).symm▸a) (o b aZ nb) (hi.F up.c) hm ar.1 (ay ar.2 hw) (aV (fA ..) hN) λg j F tp Q st l V C I f2 et=>⟨aE,?_⟩;obtain rfl:=et<|Dp hd.1;exact hK g j F Q st l V (C.fX (gR _) hN) (up.c.q I) f2
 |a ht kI zJ C Y=>
  obtain⟨w,a9⟩:=Dl _ e;have wb:aQ (bW<|qs.map (·.2)) (w+14)=true:=by
   rw[fF];rw[dT] at⊢;exact(L _).mp<|AG.mp a9
  refine OM (R':=RA (cS d) (λp=>mU y' z (jz<|B p) m<|r|||1) R) h1 ⟨uT hd.1,vB hd.2 H⟩ ht ⟨t,d,.a ht kI zJ C Y,P⟩ (by
  refine rI λb X=>?_;obtain⟨q,f,rfl⟩:=bp.mp X;exact(hq q f).2) (lE λc=>by
   rw[jR<|eR c<|pw<|jE ..] at wb;exact dj wb) (λp ζ q=>?_) (hi.F up.c) (λg F tp Kt b9 c1=>?_) (aV (fA ..) hN)
   (λq=>aV (QM h.aT (λζ=>Ce ..) q)<|fA ..) hN λg j F tp Q st l V C I f2 et=>⟨aE,?_⟩
  .rw[fF,dT] at q;have:=o (p+14) ((L _).mpr q)<|kn.mpr<|jE ..;rw[a6C] at this;exact this
  .have Z:=zJ.aT▸C;refine Z3 (S:=S.B (S.D.c+1) tp S.D.bM (S.D.u+1) S.D.h S.V) b9 ⟨by show 0<S.D.c+1;exact a7b<|uT hd.1,by show S.D.c+1<=30;exact Gc hd.2 H⟩ (hi.F up.c) hm (.a ht kI zJ C Y) (λb X=>by
  obtain⟨q,f,rfl⟩:=bp.mp<|(L b).mp X;exact(hq q f).2) o ?_ Z e ar.1 (ay ar.2 hw) hN λJ a1 a2 Q st l V h3 c2 f3=>?_
   .apply km;intro i;rw[ra,lX];cases c:aQ (iN d) i with
    |false=>rw[wg]
    |true=>
     have:=be (aQ · i) nm;rw[show aQ (m&&&iN (qs.map (·.2))) i=_ from ra ..,WP (λb X=>(L b).mp X) i c] at this;exact this.trans<|lX i
   .refine c1 J a1 a2 Q st l V ?_ c2 f3;rw[(show(λp=>mU y' z (jz<|B p) m<|if O (cS d)=1 then r|||1 else r|||1|||1)=λp=>mU y' z (jz<|B p) m (r|||1) from by
     funext p;rw[xP,ite_self])] at h3
    exact h3
  .obtain rfl:=et<|Dp hd.1;exact hK g j F Q st l V C (up.c.q I) f2
def AQ{K}(g:vs=[])(j:K am):c7 σ (.r vs) K:=by subst g;exact⟨jQ _,j⟩
def qP(y' z:Bool)(B:Nat->Option Nat)(m y_ k r:Nat)(p:Nat):List cQ:=mU y' z (jz<|B p) (oz m y_)<|mo m y_ k r
def n!(h:Hd σ S T A R y' z B D N)(hd:0<S.D.c/\S.D.c<=29)(hi:Is T s m)(hm:Nm m)(M:iS T t y! bs)(hb:∀b∈bs,b<18)(hn:fp (bW bs)=bW bs)(X:∀b∈bs,eG b=U->b-14∈S.D.a)(F:cS bs≠[])(hr:r<1024)(hw:r&&&16≠0->z=am)(hN:N+1+O (cS bs)<=900)(hK:∀g j v b st l V,Hd g (S.B S.D.c S.D.F b st l V) j v (RA (cS bs) (qP y' z B m (iN bs) (O<|cS bs) r) R) y' z B D (N+1+O (cS bs))->T.Le j->kP V->K .j g):
 W (n+16) 48 [.d S.L.g,.a s,.a t,.a r] σ K:=by
 obtain i:=M.w.q h.q.y<|M.h.imp hZ;refine NW h.q hi hm.1 M hb λps qs a2 E a5 h1 br e d=>?_;obtain ql:O qs<=18:=by
  have:=M.w.w h.q.y (M.h.imp hZ) hb;obtain this:=jg (d.E ..)▸this;obtain this:=(ba ..)▸this;exact this
 have I:O (oi fT ps qs)<=18:=aV (k9 ..) e.aT;have o:O (oU fT ps qs)<=18:=aV (k9 ..) ql;have ws:cS ((oU fT ps qs).map (·.2))=cS bs:=by rw[<-AF,W0 d,AF,d.bs]
 have J:∀q∈oU fT ps qs,bB E q.1 q.2/\q.2<18:=λq hq=>d.h q (cG.mp hq).1;have y:∀q∈oU fT ps qs,q.2∈bs:=λq hq=>aO d.bs<|dU (cG.mp hq).1;have Q:cg<|(oU fT ps qs).map (·.2):=by obtain i:=jg d.bs▸i;exact i.sublist<|Im.map _
 obtain rr:=WZ (qs:=qs) e;obtain hs:=x_ (k:=O<|cS bs) (r:=r) e;obtain hz:=a0b (qs:=qs) (k:=O<|cS bs) (r:=r) e;obtain mk:=e.h (qs:=qs);rw[d.bs] at hs hz mk;have G:∀p∈oi fT ps qs,hV E p.1 p.2:=λp M=>e.tT p (cG.mp M).1;generalize oi fT ps qs=rs at*;generalize oU fT ps qs=Y at*;obtain Z:Y≠[]:=λc=>F (by rw[<-ws,c];rfl);have L:=h.gU h1 br;apply pR;lk;refine sJ (vQ o) (zH Z)<|bd<|kA ?_;lk;clear M i e d ql Z;by_cases q:rs=[]
 .obtain⟨z1,z2⟩:=hz q;refine AQ (by rw[q];rfl)<|bw<|ia ?_;lk;refine fY h1.j H<|Z4 L hd (hi.F br) hm J o Q (λb hb=>?_) hn (rI hb) (λq hq=>X q.2<|y q hq) rr (ay ws F) hr hw (ay ws hN) λg j v b st l V C f f2=>⟨aE,aw<|aw<|hK g j v b st l V ?_ (br.q f) f2⟩;.refine aA (bp.mp hb) λx hx a3=>?_;subst a3;exact y x hx
  .unfold qP;rw[z1,z2];exact(aO ws C)
 .obtain⟨z1,z2⟩:=hs q;obtain t7:Nm<|m-(m&&&iN bs):=hm.rD _;refine sJ (vQ I) (zH q)<|bd<|bV ?_;lk;refine⟨vQ o,?_⟩;rw[ba,ba];clear hi hm hb hn ps qs rr hs hz;by_cases ar:O Y=1
  .match Y,ar with
   |[qq],_=>
    refine gO H<|ia ?_;lk;refine fY h1.j H<|DK h1 G I mk t7 λu g j C f hu=>qA (bU H) H ?_;have nb:eG qq.2=true:=by
     rcases c:eG qq.2 with _|_;.refine aP ?_ F;rw[<-ws];unfold cS;rw[lG,jf,c];rfl
     .rfl
    have ew:cS bs=[qq.2-14]:=by
     rw[<-ws];unfold cS;rw[lG,jf,nb];rfl
    rw[ew] at hK hN z2;refine Ch (λh=>h)<|zp (L.gU C f) ⟨uT hd.1,vB hd.2 H⟩ ((H5<|kn.mp nb).symm▸((J qq aZ).1).F f) (X _ (y qq aZ) nb) hu t7 hr hw (aV (fA ..) hN) λP a0 a1 tp b' st l V h3 a4 f3 et=>⟨aE,⟨aE,aw<|aw<|aw ?_⟩⟩;obtain rfl:=et<|Dp hd.1;refine hK P a0 a1 b' st l V ?_ (br.q<|f.q a4) f3;rw[CR];unfold qP;rw[z1,z2];exact h3.fX (gR _) hN
  .refine eh (gm ar)<|ia ?_;obtain wq:(Y.filter (eG ·.2)).map (·.2-14)=cS bs:=by rw[AF];exact ws
   obtain wl:O (Y.filter (eG ·.2))=O (cS bs):=by rw[<-wq,ba]
   refine Ob L ⟨hd.1,vB hd.2 H⟩ G mk t7 q I J o (λq hq=>X q.2<|y q hq) Q hr hw (ay wl<|aV (oK (gR N) _) hN) (λc=>F<|by rw[<-wq,c];rfl) λg j v b st l V C f f2=>⟨aE,aw<|aw<|aw<|hK g j v b st l V ?_ (br.q f) f2⟩;obtain C:=wq▸C;obtain C:=wl▸C;unfold qP;rw[z1,z2];exact C.fX (oK (gR N) _) hN
structure uC(T:bP)(P:List Nat)(t tm:Nat)(bs:List Nat):Prop where
 EB:∃E,iS T t E bs
 h:bW bs=tm
 cI:tm<2^18
 g:fp tm=tm
 a:∀b∈bs,eG b=true->b-14∈P
 some:cS bs≠[]
def uC.a33(j:uC T S.D.a t tm bs):∀b∈bs,b<18:=tx<|aO j.h.symm j.cI
def uC.ge(j:uC T S.D.a t tm bs):2^14<=tm:=by
 refine bc (Dl _ j.some) λw b=>?_;have wb:aQ tm (w+14)=true:=by rw[<-j.h,fF,dT] at⊢;exact AG.mp b
 exact lE λz=>by
  rw[jR<|eR z<|pw<|jE ..] at wb;exact dj wb
def Ou(h:Hd σ S T A R y' z B D N)(hd:0<=S.D.c/\S.D.c<=28)(hi:Is T s m)(hm:Nm m)(ht:uC T S.D.a t tm bs)(hr:r<1024)(hw:r&&&16≠0->z=am)(M:N+2+O (cS bs)<=900)(F:∀g j v X b st l V,Hd g (S.B S.D.c X b st l V) j v (RA (cS bs) (qP y' z B m (iN bs) (O<|cS bs) r) R) y' z B D (N+2+O (cS bs))->T.Le j->kP V->K .j g):
 W (n+18) 40 [.d S.L.g,.a s,.a t,.a r] σ K:=by
 refine bc ht.EB λy! p=>?_;have k:Is T t tm:=⟨y!,bs,p,ht.h⟩;obtain hq:=ht.a;obtain o:=ht.some;have L:=p;cases p with
 |nil=>exact aP H o
 |@B _ b a=>
  have u:eG b=true:=by
   rcases c:eG b with _|_;.refine aP ?_ o;unfold cS;rw[jf,c];rfl
   .rfl
  obtain d:=H5<|kn.mp u;have I:cS [b]=[b-14]:=by
   unfold cS;rw[jf,u];rfl
  have e:mo m 0 1 r=r:=by
   unfold mo;rw[sC,Z λy=>y.elim (λy=>y H) λy=>y.2 y.1]
  obtain F:=(I ..)▸F;obtain F:=(CR ..)▸F;obtain F:=(((show iN [b]=0 from by
   show nQ b|||0=0;unfold nQ;rw[Z<|lq (uN d) H,Z<|lq (uN d) H,Z<|w6 (uN d) H,Z<|w6 (uN d) H,Z<|lq (uN d) H];rfl)) ..)▸F;obtain F:=(show[b-14].length=1 from H ..)▸F
  obtain M:=I▸M;unfold qP at F;obtain F:=((show oz m 0=m from by
   unfold oz;rw[sC,Nat.sub_zero];by_cases c:m=0;.rw[ak c]
   .rw[Z c]))▸F;obtain F:=e▸F
  exact zp h ⟨hd.1,vB hd.2 H⟩ (aO d.symm a) (hq b aZ u) hi hm hr hw (MV (kX ‹N+2+_<=900›) H) λg j v X P st l V f x e C=>F g j v X P st l V (f.fX (fA (N+1) 2) M) x e
 |a i _ _ _ _=>
  refine OM h ⟨hd.1,vB hd.2 H⟩ i k ht.cI ht.ge (λp C q=>?_) hi (λE J X U Q G=>?_) (MV (kX M) H) (λq=>aV (QM h.aT (λC=>Ce ..) q)<|aV (gR _)<|fA _ _) M λg j v X b st l V f le f0 C=>F g j v X b st l V f le f0;.rw[<-ht.h,fF,dT] at q;exact(hq (p+14) q<|kn.mpr<|jE ..)
  .refine n! (S:=S.B (S.D.c+1) X S.D.bM (S.D.u+1) S.D.h S.V) Q ⟨by show 0<S.D.c+1;exact a7b hd.1,by show S.D.c+1<=29;exact Gc hd.2 H⟩ hi hm L ht.a33 (ay ht.h ht.g) hq o hr hw M λg j v b st l V f le e=>G g j v b st l V (f.fX (ce _) M) le e
def Po(h:Hd σ S T A R am z B D N)(hd:S.D.c=0)(hi:Is T s m)(M:Nm m)(ht:uC T S.D.a t tm bs)(X:r<1024)(hw:r&&&16≠0->z=am)(hN:N+2+O (cS bs)<=900)(hK:∀g j v F b st l V,Hd g (S.B S.D.c F b st l V) j v (RA (cS bs) (qP U z B m (iN bs) (O<|cS bs) r) R) am z B D (N+2+O (cS bs))->T.Le j->kP V->K .j g):
 W (n+19) 29 [.d S.L.g,.a s,.a t,.a r] σ K:=by
 refine bq [.d S.L.g,.a s,.a t,.a r] H<|vi ?_;lk;refine aU h.q.j H ⟨H,om<|mL h.q.j H<|ia<|Ou (S:={S with D:={S.D with b:=S.D.b+1}}) ((⟨h.q.oh {S.D with b:=S.D.b+1} H H,h.gi,h.h4,⟨h.c.d,by show S.D.b+1=1;rw[h.c.b];rfl,λe=>aP hd⟩,h.r,h.aT,h.u,h.small,h.g⟩:Hd _ {S with D:={S.D with b:=S.D.b+1}} T A R U z B D N)) ⟨Az hd.symm,by rw[hd];decide⟩ hi M ht X hw hN λg j v F b st l V c le d=>⟨aE,vi ?_⟩⟩;lk;exact aU c.q.j H ⟨H,rE<|mL c.q.j H<|aw<|hK _ j v F b st l V ⟨(c.q.oh {S.D with c:=S.D.c,F:=F,bM:=b,u:=st,h:=l} H<|by rw[xZ];rfl),c.gi,h.h4,⟨h.c.d,h.c.b,dj⟩,c.r,c.aT,c.u,c.small,c.g⟩ le d⟩
def TJ(h:Hd σ S T A R am am B D N)(hd:S.D.c=0)(hi:Is T s m)(M:Nm m)(ht:uC T S.D.a t tm bs)(X:r<1024)(hw:r&&&16=0)(hN:N+2+O (cS bs)<=900)(hK:∀g j v F b st l V,Hd g (S.B S.D.c F b st l V) j v (RA (cS bs) (qP U U B m (iN bs) (O<|cS bs) r) R) am am B D (N+2+O (cS bs))->T.Le j->kP V->K .j g):
 W (n+20) 30 [.d S.L.g,.a s,.a t,.a r] σ K:=by
 refine bq [.d S.L.g,.a s,.a t,.a r] H<|ry ?_;lk;refine aU h.q.j H<|rE<|mL h.q.j H<|ia ?_;obtain d:=h.q.oh {S.D with d:=1-S.D.d} H H;lk;refine fY d.j H (Po (S:={S with D:={S.D with d:=1-S.D.d}}) ((⟨d,h.gi,h.h4,⟨by show 1-S.D.d=1;rw[h.c.d];rfl,h.c.b,dj⟩,h.r,h.aT,h.u,h.small,h.g⟩:Hd _ {S with D:={S.D with d:=1-S.D.d}} T A R am U B D N)) hd hi M ht X (aP hw) hN λg j v F b st l V c le e=>⟨aE,ry ?_⟩);lk;exact aU c.q.j H<|rE<|mL c.q.j H<|aw<|hK _ j v F b st l V ⟨(c.q.oh {S.D with c:=S.D.c,F:=F,bM:=b,u:=st,h:=l} H<|by rw[Int.sub_sub_self];rfl),c.gi,h.h4,⟨h.c.d,h.c.b,dj⟩,c.r,c.aT,c.u,c.small,c.g⟩ le e
def Kn(T:bP)(ps:List<|Nat×Nat):Prop:=∀p∈ps,Is T p.1 p.2/\Nm p.2
theorem Kn.F(le:T.Le T')(h:Kn T ps):Kn T' ps:=λp b=>⟨(h p b).1.F le,(h p b).2⟩
def Kn.is(h:Kn T ps):IsL T (E ps)<|ps.map (·.2):=by
 induction ps with
 |nil=>exact .nil
 |cons p ps b=>exact .cons (h p aZ).1<|b λq hq=>h q<|bK _ hq
def GU(F:Nat->Nat)(M:∀m,Nm m->Nm (F m))(ht:∀x σ v,v (.e U) σ->ji (ci L i x) σ v)(X:∀t m σ T B,Q σ S T A->Is T t m->Nm m->(∀u σ' T',Q σ' S T' A->T.Le T'->Is T' u (F m)->B (.a u) σ')->cM (ci L i<|.a t) σ B):
 ∀{ps σ T K},Q σ S T A->Kn T ps->(∀g σ' T',Q σ' S T' A->T.Le T'->Kn T' g->g.map (·.2)=ps.map (F ·.2)->K (G<|E g) σ')->iJ ji cM (.B i) dc L (G<|E ps) σ K:=by
 intro l;induction l with
 |nil=>
  intro σ T K h _ f;exact f [] σ T h (.B T) dS H
 |cons p ps n=>
  intro σ T K h c f;refine qU (ht _ σ _ ⟨aE,X _ _ σ T _ h (c p aZ).1 (c p aZ).2 λu j k o br r=>⟨aE,n o (λq hq=>⟨(c q<|bK _ hq).1.F br,(c q<|bK _ hq).2⟩) λg b d s e y z=>f ((u,F p.2)::g) b d s (br.q e) (λq hq=>?_)<|by rw[lG,lG,z]⟩⟩);rcases cf.mp hq with rfl|hq;.exact⟨r.F e,M _ (c p aZ).2⟩
  .exact y q hq
def yG:∀{ms},(∀m∈ms,m<2^14)->cw ms<2^14:=by
 intro ms;induction ms with
 |nil=>
  intro _;decide
 |cons m ms b=>
  exactλh=>mG (h m aZ) (b λk c=>h k<|bK _ c)
def DL(g:pv=.r (G<|E ps)\/pv=.B (G<|E ps))(h:Q σ S T A)(j:Kn T ps)(v:O ps<=1000)(B:∀u σ' T',Q σ' S T' A->T.Le T'->Is T' u (eV<|cw<|ps.map (·.2))->Nm (eV<|cw<|ps.map (·.2))->K (.a u) σ'):W (n+3) 12 [.d S.tl.h,pv] σ K:=by
 have lt:=yG λm b=>by
  obtain⟨p,g,rfl⟩:=bp.mp b;exact(j p g).2.1
 refine pM g h.h h.y j.is (λm b=>?_) (by rw[ba];exact v) λu σ' T' up c=>B u σ' T' (h.F up) up.c ?_ (.h lt);.obtain⟨p,g,rfl⟩:=bp.mp b;exact(j p g).2.cI
 .rw[(lI lt).1] at c;exact c
def Qa:∀i,i<18->aQ (3072:Nat) i=(decide (i=10)||decide (i=11)):=by decide+kernel
def LU(g:bF T){b:Nat}(a:bB T t b):(t=5↔b=10)/\(t=4↔b=11):=by
 obtain c:=g.h (t:=5) (b:=10)<|Y H;obtain h4:=g.h (t:=4) (b:=11)<|Y H;exact⟨⟨λe=>bB.q (e▸a) c,λe=>bB.h g (e▸a) c⟩,⟨λe=>bB.q (e▸a) h4,λe=>bB.h g (e▸a) h4⟩⟩
def S5(h:Q σ S T A)(hi:Is T t m)(v:Nm m)(B:∀u σ' T',Q σ' S T' A->T.Le T'->Is T' u (m-(m&&&3072))->K (.a u) σ'):W (n+4) 51 [.d S.tl.h,.a t] σ K:=by
 refine bq [.d S.tl.h,.a t,.q] H<|db ?_;lk;refine qF h.h h.y hi v.cI λy! bs p e o g=>⟨lm g H,bc (p.w.list o) λqs d=>aO d.E<|tj (q:=λi=>!decide (i=4)&&!decide (i=5)) aE (λi r E ht=>?_) (λi r F s=>s) ?_⟩
 .apply i9;by_cases q:i=4;.obtain ht:=(bA q)▸ht;rw[bA<|iq q];exact bd ht
  .rw[bR q] at ht;rw[bR<|gm q];refine bw<|i9 ?_;by_cases q:i=5;.rw[bA q] at ht;rw[bA<|iq q];exact ht
   .rw[bR q] at ht;rw[bR<|gm q];exact ht
 rw[B9<|(λq hq=>by
  refine bY (d.h q hq) λa b=>bY (LU h.y a) λx y=>?_;rw[Qa q.2 b,jp.mpr x,jp.mpr y,Bool.not_or,a7l]:∀q∈qs,(!decide (q.1=4)&&!decide (q.1=5))=!(3072:Nat).testBit q.2)]
 refine pM (.inl H) h.h h.y (xz λq hq=>d.h q (cG.mp hq).1) (λk z=>?_) ?_ λu σ' T' up f=>B u σ' T' (h.F up) up.c ?_;.refine aA (bp.mp z) λb j c=>?_;subst c;refine aA (bp.mp j) λq hq c=>?_;subst c;exact pT (d.h q (cG.mp hq).1).2
 .rw[ba];apply aV<|k9 ..;obtain g:=jg (d.E ..)▸g;obtain g:=(ba ..)▸g;exact bG g H
 .obtain C:bW ((qs.filter λq=>!(3072:Nat).testBit q.2).map (·.2))=m-(m&&&3072):=by
   apply km;intro i;rw[fF,vd,<-e,fF,gu,dT,eB,dT,<-d.bs];constructor
   .refineλl=>aA (bp.mp l) λq hq c=>?_
    subst c;exact⟨dU (cG.mp hq).1,(cG.mp hq).2⟩
   .rintro⟨l,D⟩;refine aA (bp.mp l) λq hq c=>?_;subst c;exact dU<|cG.mpr ⟨hq,D⟩
  obtain f:=(w0 ..)▸f;obtain f:=(C ..)▸f;obtain f:=((v.rD 3072).g ..)▸f;exact f
def pg{r K}(hi:dg L i=.d l)(h:σ l=I (.b vs))(j:ch g r (ci L i<|.r vs) (σ.r l) K):
 ch g (.u i::r) L σ K:=by
 show(match dg L i with
  |.d l=>(match σ l with
   |some (.b vs)=>ch g r (ci L i<|.r vs) (σ.r l) K
   |some (.a c es)=>ch g r (ci L i<|.g c es) (σ.r l) K
   |_=>False)
  |_=>False)
 rw[hi];show(match σ l with
  |some (.b vs)=>ch g r (ci L i<|.r vs) (σ.r l) K
  |some (.a c es)=>ch g r (ci L i<|.g c es) (σ.r l) K
  |_=>False)
 rw[h];exact j
noncomputable def GS.g(S:GS)(l:a7)(vs:List AV):GS:={S with X:=(l,.b vs)::S.X}
def Q.v(g:Q σ (S.g l vs) T A):σ l=I (.b vs):=g.P (B:=[]) H
def Q.wn(g:Q σ (S.g l vs) T A)(us):Q (σ.u l<|.b us) (S.g l us) T A:=g.wO (B:=[]) (.b us) H
def Q.sF(g:Q σ (S.g l vs) T A):Q (σ.r l) S T A:=g.R (B:=[]) H
noncomputable def pV(q:Nat×Nat):Bool:=aQ (3072:Nat) q.2
abbrev Bp:List PS:=Np
def Yt(g:bF T):∀{qs os x4 σ K},Q σ (S.g l<|G os) T A->(∀q∈qs,bB T q.1 q.2/\q.2<18)->O os+O qs<=aR->
 (∀σ' x4,Q σ' (S.g l<|G<|os++E (qs.filter pV)) T A->K .none [x0,x1,.d l,x3,x4] σ')->
 cu (wB (n+1) Bp) (.B 4) dc (G<|E qs) [x0,x1,.d l,x3,x4] σ K:=by
 intro qs;induction qs with
 |nil=>
  intro os x4 σ K h _ _ f;exact f σ x4<|by rw[jG];exact h
 |cons q qs r=>
  intro os x4 σ K h k m f;refine bY (k q aZ) λa s=>bY (LU g a) λo p=>?_;have step:∀{jK:List Nat}{σ':av},Q σ' (S.g l<|G jK) T A->O jK<=O os+1->jK++E (qs.filter pV)=os++E ((q::qs).filter pV)->cu (wB (n+1) Bp) (.B 4) dc (G<|E qs) [x0,x1,.d l,x3,.a q.1] σ' K:=λ{jK σ'} h' i e=>
   r h' (jw k) (xe i m) λb x4 t=>f b x4 (aO e t)
  have add:pV q=U->cu (wB (n+1) Bp) (.B 4) dc (G<|E qs) [x0,x1,.d l,x3,.a q.1] (σ.u l<|.b<|G os++[.a q.1]) K:=λz=>by
   refine step (jK:=os++[q.1]) ?_ (ay eK<|ce _) (by rw[jf,z,gc];rfl);obtain this:G (os++[q.1])=G os++[.a q.1]:=d9 ..;rw[this];exact(h.wn<|G os++[.a q.1])
  obtain bl:O (G os)<=aR:=by rw[ba];exact kX m
  obtain j:=Qa q.2 s;refine fj<|bV ?_;lk;by_cases c:q.1=4;.refine kC (iq c)<|bw<|mg ?_;lk;exact⟨mw h.v,lS h.v bl ⟨aE,aw<|aw ⟨aE,add<|by unfold pV;rw[j,bA<|p.mp c,m5]⟩⟩⟩
  .apply fU (gm c);by_cases d:q.1=5;.refine gO (iq d)<|mg ?_;lk;exact⟨mw h.v,lS h.v bl ⟨aE,aw<|aw ⟨aE,add<|by unfold pV;rw[j,bA<|o.mp d,Ss]⟩⟩⟩
   .exact eh (gm d)<|aw<|aw ⟨aE,step h (gR _)<|by rw[jf,show pV q=am from by unfold pV;rw[j,bR λe=>d<|o.mpr e,bR λe=>c<|p.mpr e];rfl];rfl⟩
def LH(a b):cw (a++b)=cw a|||cw b:=by
 induction a with
 |nil=>exact(qh _).symm
 |cons x a c=>
  show x|||cw (a++b)=(x|||cw a)|||cw b;rw[c,xP]
def Yn(hq:CU T qs y! bs):bW ((qs.filter pV).map (·.2))=bW bs&&&3072:=by
 apply km;intro i;rw[fF,ra,fF,gu,dT,eB,dT,<-hq.bs];constructor;.intro b;obtain⟨q,hq,rfl⟩:=bp.mp b;exact⟨dU (cG.mp hq).1,(cG.mp hq).2⟩
 .rintro⟨b,c⟩;obtain⟨q,hq,rfl⟩:=bp.mp b;exact dU<|cG.mpr ⟨hq,c⟩
abbrev Yv:List PS:=[.h (.B 4) (.j 6 [V0,V3]) Bp]
def Ys:∀{ps os x3 x4 σ K},Q σ (S.g l<|G<|E os) T A->Kn T ps->(∀q∈os,bB T q.1 q.2/\q.2<18)->O os+18*O ps<=20000->
 (∀σ' x3 x4 jK,Q σ' (S.g l<|G<|E jK) T A->(∀q∈jK,bB T q.1 q.2/\q.2<18)->bW (jK.map (·.2))=bW (os.map (·.2))|||(cw (ps.map (·.2))&&&3072)->O jK<=O os+18*O ps->K .none [.d S.tl.h,x1,.d l,x3,x4] σ')->
 cu (wB (n+1) Yv) (.B 3) dc (G<|E ps) [.d S.tl.h,x1,.d l,x3,x4] σ K:=by
 intro ps;induction ps with
 |nil=>
  intro os x3 x4 σ K h _ ho _ f;exact f σ x3 x4 os h ho (by rw[a6i,n7])<|fA ..
 |cons p ps o=>
  intro os x3 x4 σ K h g ho k f;refine fj<|gg<|qF h.h h.y ((g p aZ)).1 ((g p aZ)).2.cI λy! bs r e s b=>⟨lm b H,bc (r.w.list s) λqs c=>?_⟩;have m:O qs<=18:=by obtain b:=jg (c.E ..)▸b;obtain b:=(ba ..)▸b;exact b
  rw[<-c.E];have t:G (E os++E (qs.filter pV))=G (E<|os++qs.filter pV):=by unfold E;rw[d9]
  refine Yt h.y h c.h (by rw[ba];exact bG (Fh m k) H) λi x4 u=>aw ⟨aE,?_⟩;have fl:O (os++qs.filter pV)<=O os+18:=by
   rw[eK];exact jq (aV (k9 ..) m) _
  refine o (aO t u) (jw g) (λq hq=>?_) (yV fl k) λd x3 x4 jK v j x l2=>f d x3 x4 jK v j ?_ (Fg fl l2)
  .rcases fQ.mp hq with hq|hq;.exact ho q hq
   .exact c.h q (cG.mp hq).1
  .rw[x,d9,Mk,Yn c,e,xP,<-a6z];rfl
def Ym(h:Q σ S T A)(j:Kn T ps)(g:O ps<=1000)(v:∀σ' os,Q σ' S T A->(∀q∈os,bB T q.1 q.2/\q.2<18)->bW (os.map (·.2))=cw (ps.map (·.2))&&&3072->O os<=18*O ps->K (.r<|G<|E os) σ'):W (n+2) 52 [.d S.tl.h,.r<|G<|E ps] σ K:=by
 refine bq [.d S.tl.h,.r<|G<|E ps,.q,.q,.q] H<|cq ?_;intro k fr;obtain d:Q _ (S.g ⟨44,k⟩<|G<|E []) T A:=h.N (.b [])<|fr 44;exact lf ⟨kG g H,Ys d j dS (by show 0+18*O ps<=20000;exact yP g H) λb x3 x4 os c ho e l2=>pg H c.v<|f7<|v _ os c.sF ho (ay e<|qh _) (by have:O os<=0+18*O ps:=l2;exact aV this<|gG<|n6 _)⟩
noncomputable def DG:Option Nat->Nat->Bool
 |none,_=>U
 |some x,k=>decide<|k=x
noncomputable def kD:Option Nat->List Nat->Bool
 |_,[]=>U
 |w,k::ks=>if k=0 then kD w ks else if fi k=k then am else if DG w (fi k) then kD (I<|fi k) ks else am
def tQ(b:Nat)(ks:List Nat):Nat:=ks.foldl (λb k=>if bn b k then k else b) b
def tR(b:Nat)(ks:List Nat):Nat:=ks.foldl (λb k=>if bn k b then k else b) b
abbrev LC:List PS:=No
def a5d(T:bP):Option Nat->Int->Prop
 |none,v=>v=-1
 |some m,v=>∃t:Nat,v=t/\Is T t m
def ER(g:bF T){t m:Nat}(hi:Is T t m):t=2↔m=0:=⟨λe=>by subst e;exact hi.q g ⟨[],[],.nil,H⟩,λe=>by subst e;exact hi.inj g ⟨[],[],.nil,H⟩⟩
def X0:∀{ps w v x3 x4 σ T K},Q σ S T A->Kn T ps->a5d T w v->
 (∀σ' T' j x3 x4,Q σ' S T' A->T.Le T'->(kD w (ps.map (·.2))=U->K .none [.d S.tl.h,x1,.a j,x3,x4] σ')/\(kD w (ps.map (·.2))=am->K (I<|.e am) [.d S.tl.h,x1,.a j,x3,x4] σ'))->
 cu (wB (n+4) LC) (.B 3) dc (G<|E ps) [.d S.tl.h,x1,.a v,x3,x4] σ K:=by
 intro ps;induction ps with
 |nil=>
  intro w v x3 x4 σ T K h _ _ g;exact(g σ T v x3 x4 h<|.B T).1 H
 |cons p ps s=>
  intro w v x3 x4 σ T K h l k g;refine bY (l p aZ) λhi m=>?_;have i:Kn T ps:=λq hq=>l q<|bK _ hq;refine fj<|bV ?_;lk;apply i9;by_cases z:p.2=0;.rw[bA (show(p.1:Int)=2 by have:=(ER h.y hi).mpr z;exact be _ this)];obtain e:kD w (p.2::ps.map (·.2))=kD w (ps.map (·.2)):=ak z;exact bd<|aw<|aw ⟨aE,s h i k<|e▸g⟩
  .rw[bR λe=>z<|(ER h.y hi).mp<|gI e];refine bw<|bX<|a4d h.h h.y hi m.cI λu b c up d=>bV ?_;have f:=h.F up;have br:=up.c;rw[m.unit.ax] at d;lk;obtain e:kD w (p.2::ps.map (·.2))=if fi p.2=p.2 then am else if DG w (fi p.2) then kD (I<|fi p.2) (ps.map (·.2)) else false:=Z z
   have same:(u:Int)=p.1↔fi p.2=p.2:=⟨λq=>by
    obtain this:u=p.1:=gI q;subst this;exact d.q f.y<|hi.F br,λq=>by rw[q] at d;rw[d.inj f.y<|hi.F br]⟩
   obtain go:kD w (p.2::ps.map (·.2))=kD (I<|fi p.2) (ps.map (·.2))->cu (wB (n+4) LC) (.B 3) dc (G<|E ps) [.d S.tl.h,x1,.a u,.a p.1,.a u] b K:=λe=>by
    exact s (w:=I<|fi p.2) f (i.F br) ⟨u,H,d⟩ λσ' T' j x3 x4 h' o=>(e▸g) σ' T' j x3 x4 h'<|br.q o
   by_cases q:fi p.2=p.2;.exact kC (same.mpr q)<|bw<|f7<|(g b c v (.a p.1) (.a u) f br).2<|e.trans<|ak q
   .obtain e:=e.trans<|Z q;apply fU λy=>q<|same.mp y;rcases w with _|x;.obtain rfl:=k;refine qR (Y H)<|bd<|aw<|bX ?_;lk;exact aw (aw ⟨aE,go<|e.trans<|ak H⟩)
    .refine aA k λt r ht=>?_;clear x3 x4 h l k hi m q up same;subst r;refine pe (dI t)<|i9 ?_;by_cases y:fi p.2=x;.rw[bA<|show(u:Int)=t by rw[y] at d;rw[d.inj f.y<|ht.F br]];refine bd<|aw<|bX ?_;lk;exact aw (aw ⟨aE,go<|e.trans<|ak<|bA y⟩)
     .rw[bR λz=>y (by
       obtain this:u=t:=gI z;subst this;exact d.q f.y<|ht.F br)]
      exact bw<|f7<|(g b c t (.a p.1) (.a u) f br).2<|e.trans<|Z λz=>y<|Y z
def X9(h:Q σ S T A)(j:Kn T ps)(v:O ps<=1000)(g:∀σ' T',Q σ' S T' A->T.Le T'->K (.e<|kD C<|ps.map (·.2)) σ'):W (n+5) 53 [.d S.tl.h,.r<|G<|E ps] σ K:=by
 refine bq [.d S.tl.h,.r<|G<|E ps,.q,.q,.q] H<|cq<|lf ⟨kG v H,X0 (w:=C) h j H λσ' T' c x3 x4 h' b=>⟨λe=>db ?_,λe=>?_⟩⟩;.have:=g σ' T' h' b;rw[e] at this;exact this
 .have:=g σ' T' h' b;rw[e] at this;exact this
def yX{ms mt}(h:Q σ S T A)(v:Is T s ms)(ht:Is T t mt)(g:Nm ms)(j:Nm mt)(B:∀σ' T',Q σ' S T' A->T.Le T'->K (.e<|bn ms mt) σ'):W (n+6) 84 [.d S.L.q,.a s,.a t] σ K:=
 (by
  refine bq [.d S.L.q,.a s,.a t] H<|db ?_;lk;refine aU h.st.q H<|IZ h.st.h h.st.y v ht g.cI j.cI λb c up=>?_;rw[OX g j];exact(λσ' T' h' le=>B σ' T' ⟨h',h.ask.F le⟩ le) b c (h.st.F up) up.c)
def zt{ms mt}(h:Q σ S T A)(v:Is T s ms)(ht:Is T t mt)(g:Nm ms)(j:Nm mt)(B:∀σ' T',Q σ' S T' A->T.Le T'->K (.e<|bn ms mt) σ'):W (n+6) 83 [.d S.L.q,.a s,.a t] σ K:=
 (by
  refine bq [.d S.L.q,.a s,.a t] H<|db ?_;lk;refine aU h.st.q H<|IZ h.st.h h.st.y v ht g.cI j.cI λb c up=>?_;rw[OX g j];exact(λσ' T' h' le=>B σ' T' ⟨h',h.ask.F le⟩ le) b c (h.st.F up) up.c)
def BJ(m):bn m m=true:=by
 unfold bn;by_cases h:m&&&12288≠0;.rw[ak h]
 .rw[Z h];exact bA<|((within ..).mpr λi h=>by
   rw[fD,fD,h];rfl)
def Qj{f:Nat->Nat->Bool}(F:∀m,f m m=U)(B:∀b t mb mt σ T Kb,Q σ S T A->Is T b mb->Is T t mt->Nm mb->Nm mt->(b=t->Kb .none [.d S.L.q,x1,.a b,.a t] σ)->(b≠t->∀σ' T',Q σ' S T' A->T.Le T'->Kb .none [.d S.L.q,x1,.a (if f mb mt then t else b:Nat),.a t] σ')->wB (n+6) body [.d S.L.q,x1,.a b,.a t] σ Kb):
 ∀{ps b mb x3 σ T K},Q σ S T A->Kn T ps->Is T b mb->Nm mb->
 (∀σ' T' j x3,Q σ' S T' A->T.Le T'->Is T' j ((ps.map (·.2)).foldl (λb k=>if f b k then k else b) mb)->Nm ((ps.map (·.2)).foldl (λb k=>if f b k then k else b) mb)->K .none [.d S.L.q,x1,.a j,x3] σ')->
 cu (wB (n+6) body) (.B 3) dc (G<|E ps) [.d S.L.q,x1,.a b,x3] σ K:=by
 intro C;induction C with
 |nil=>
  intro b mb x3 σ T K h _ hi l s;exact s σ T b x3 h (.B T) hi l
 |cons p ps x=>
  intro b mb x3 σ T K h y hi l s;obtain⟨c,o⟩:=y p aZ;have r:Kn T ps:=λq hq=>y q<|bK _ hq;refine BG<|B b p.1 mb p.2 σ T _ h hi c l o (λe=>⟨aE,?_⟩) λe v z D br=>⟨aE,?_⟩
  .have u:=(e▸hi).q h.y c;refine x h r hi l λσ' T' j x3 h' d g i=>s σ' T' j x3 h' d ?_ ?_;.rw[lG,R6,u,ite_self,<-u];exact g
   .rw[lG,R6,u,ite_self,<-u];exact i
  .refine x (mb:=if f mb p.2 then p.2 else mb) D (r.F br) ?_ ?_ λσ' T' j x3 h' d g i=>s σ' T' j x3 h' (br.q d) ?_ ?_
   .cases f mb p.2;.exact hi.F br
    .exact c.F br
   .cases f mb p.2;.exact l
    .exact o
   .rw[lG];exact g
   .rw[lG];exact i
def Gy{K}(g:O vs<=aR)(j:K<|.r<|vs.drop 1):u4 σ (.r vs) (.a 1) K:=⟨Y H,g,j⟩
def Zo{p}(h:Q σ S T A)(g:Kn T<|p::ps)(j:O ps<=1000)(v:∀σ' T' b,Q σ' S T' A->T.Le T'->Is T' b (tQ p.2<|ps.map (·.2))->Nm (tQ p.2<|ps.map (·.2))->K (.a b) σ'):W (n+7) 54 [.d S.L.q,.r<|G<|E<|p::ps] σ K:=by
 apply bq [.d S.L.q,.r<|G<|E<|p::ps,.q,.q] H;obtain d:O (G<|E<|p::ps)<=aR:=by rw[ba,ba,kq];exact bG (jS j) H
 refine bY (g p aZ) λhi i=>bX ?_;lk;refine qA d H<|gg ?_;lk;refine Gy d ⟨by rw[Ar];exact aV (pE ..) d,Qj BJ (λb t mb mt σ T Kb h k ht l nt m c=>bV ?_) h (jw g) hi i λσ' T' o x3 h' le e f=>db<|v σ' T' o h' le e f⟩;lk;apply i9;by_cases z:b=t;.rw[bA<|iq z.symm];exact bd<|bd<|aw<|aw<|m z
 .rw[bR<|F7 z];refine bw<|fY h.st.q H<|yX h k ht l nt λσ' T' h' le=>?_;obtain c:=c z σ' T' h' le;rcases q:bn mb mt with _|_;.rw[q] at c;exact bd (aw<|aw c)
  .rw[q] at c;refine bw<|bX ?_;lk;exact aw<|aw c
def a3a{p}(h:Q σ S T A)(j:Kn T<|p::ps)(v:O ps<=1000)(B:∀σ' T' b,Q σ' S T' A->T.Le T'->Is T' b (tR p.2<|ps.map (·.2))->Nm (tR p.2<|ps.map (·.2))->K (.a b) σ'):W (n+7) 56 [.d S.L.q,.r<|G<|E<|p::ps] σ K:=by
 apply bq [.d S.L.q,.r<|G<|E<|p::ps,.q,.q] H;obtain d:O (G<|E<|p::ps)<=aR:=by rw[ba,ba,kq];exact bG (jS v) H
 refine bY (j p aZ) λhi i=>dP ?_;lk;refine sJ d (Dm _ _)<|bd<|bX ?_;lk;refine qA d H<|gg ?_;lk;refine Gy d ⟨by rw[Ar];exact aV (pE ..) d,Qj (f:=λb k=>bn k b) BJ (λb t mb mt σ T Kb h l ht m nt o c=>bV ?_) h (jw j) hi i λσ' T' r x3 h' le e g=>db<|B σ' T' r h' le e g⟩;lk;apply i9;by_cases z:b=t;.rw[bA<|iq z.symm];exact bd<|bd<|aw<|aw<|o z
 .rw[bR<|F7 z];refine bw<|fY h.st.q H<|yX h ht l nt m λσ' T' h' le=>?_;obtain c:=c z σ' T' h' le;rcases q:bn mt mb with _|_;.rw[q] at c;exact bd (aw<|aw c)
  .rw[q] at c;refine bw<|bX ?_;lk;exact aw<|aw c
noncomputable def fG(k:Nat):Nat:=k-(k&&&3072)
def tq(m:Nat)(r:List Nat):Nat:=if r=[] then m else
 eV ((if kD C (fG m::r.map fG) then eV (cw<|fG m::r.map fG) else tQ (fG m)<|r.map fG)|||(cw (m::r)&&&3072))
def CM{u K}(g:O u+O v<=aR)(j:K<|.r<|u++v):jr σ .add (.r u) (.r v) K:=⟨g,j⟩
def o!{x K}(g:∀v∈vs,lR v x=U)(j:K<|.e<|decide<|x∈vs):eZ σ .a x (.r vs) K:=⟨g,j⟩
def TS:∀ms b,Nm b->(∀m∈ms,Nm m)->Nm (tQ b ms):=by
 intro ms;induction ms with
 |nil=>
  exactλd h d=>h
 |cons m ms e=>
  refineλb h c=>e (if bn b m then m else b) ?_ λk f=>c k (bK _ f)
  cases bn b m;.exact h
  .exact c m aZ
def PO{r}(h:∀k∈m::r,Nm k):Nm<|tq m r:=by
 unfold tq;by_cases z:r=[];.rw[ak z];exact lM h
 .rw[Z z];have b:∀k∈fG m::r.map fG,Nm k:=λk hk=>by
   rcases cf.mp hk with rfl|hk;.exact(lM h).rD _
   .refine aA (bp.mp hk) λx d c=>?_;subst c;exact(h x<|bK _ d).rD _
  refine .h<|mG ?_ (gQ Dh<|Y H);cases kD C (fG m::r.map fG);.exact(TS _ _ (lM b) λk hk=>b k<|bK _ hk).1
  .exact(lI<|yG λk hk=>(b k hk).1).2.1
def a29{p}(h:Q σ S T A)(hk:Kn T<|p::ps)(X:O ps<=50)(hK:∀σ' T' b,Q σ' S T' A->T.Le T'->Is T' b (tq p.2<|ps.map (·.2))->K (.a b) σ'):W (n+8) 55 [.d S.L.q,.r<|G<|E<|p::ps] σ K:=by
 apply bq [.d S.L.q,.r<|G<|E<|p::ps,.q,.q,.q,.q] H;obtain V:O (G<|E<|p::ps)<=aR:=by rw[ba,ba,kq];exact aV (jS X)<|Y H
 apply pR;lk;refine sJ V (Dm _ _)<|bd<|pR ?_;lk;refine o! (λv hv=>?_) ?_;.refine aA (bp.mp hv) λi ζ g=>?_;subst g;rfl
 rw[bR<|(λhz=>by
  refine aA (bp.mp hz) λi hi e=>aA (bp.mp hi) λp hp g=>?_;subst g;injection e with e
  exact Cr h.y (hk p hp).1 e)]
 refine bd<|pR ?_;lk;refine⟨V,?_⟩;rcases ps with _|⟨D,ps⟩;.exact gO H<|qA V H<|hK σ T p.1 h (.B T) (hk p aZ).1
 .refine eh (by rw[ba,ba,kq,kq];exact Y H)<|cq<|h.qO<|cq ⟨V,GU fG (λm o=>o.rD 3072) (λx σ Kt ht=>ht) (λt m σ T Ke h hi o a0=>?_) h hk λpl a1 a2 h1 br k1 e1=>bV ?_⟩;.exact S5 h hi o a0
  obtain P:O pl=O (p::D::ps):=by rw[<-ba,e1,ba]
  have s:O pl<=1000:=by rw[P,kq];exact aV (jS X)<|Y H
  have N:pl.map (·.2)=fG p.2::((D::ps).map (·.2)).map fG:=by rw[e1,kM];rfl
  have bD:∀{d:av}{f:bP}{u m:Nat},Q d S f A->T.Le f->Is f u m->Nm m->m=(if kD C (fG p.2::((D::ps).map (·.2)).map fG) then eV (cw<|fG p.2::((D::ps).map (·.2)).map fG) else tQ (fG p.2)<|((D::ps).map (·.2)).map fG)->
   wB (n+7) [.c<|.j 12 [V2,.q .add (.r [V4])<|.j 52 [V2,V1]]] [.d S.L.q,.r<|G<|E<|p::D::ps,.d S.tl.h,.r<|G<|E pl,.a u,.q] d (rK K):=λ{d f u m} Z j F o e=>by
   apply db;lk;refine Ym Z (hk.F j) (by rw[kq];exact xf X H) λr os I ho eo lo=>CM (by rw[ba,ba];exact s6 (aV lo<|rc 18<|jS X) H) ?_;have lt:m|||bW (os.map (·.2))<2^14:=mG o.1 (by rw[eo];exact gQ Dh<|Y H);refine pM (.inl H) I.h I.y (.cons F<|xz ho) (λk hk=>?_) (by rw[kq,ba];exact qJ (aV lo<|rc 18<|jS X) H) λb L R up B=>hK L R b (I.F up) (j.q up.c) ?_
   .rcases cf.mp hk with rfl|hk;.exact o.cI
    .refine aA (bp.mp hk) λc hc g=>?_;subst g;refine aA (bp.mp hc) λq hq g=>?_;subst g;exact pT (ho q hq).2
   .obtain e2:cw (m::(os.map (·.2)).map (2^·))=m|||bW (os.map (·.2)):=by
     show m|||cw _=_;rw[w0]
    obtain B:=e2▸B;obtain B:=((lI lt).1)▸B;obtain B:=eo▸B;obtain B:=e▸B;exact B
  refine X9 (n:=n+2) h1 k1 s λd f Z j=>?_;rw[N];generalize q:kD C (fG p.2::((D::ps).map (·.2)).map fG)=yy;clear h1 P;induction yy using Bool.casesOn with
  |true=>
   rw[q] at bD;refine bw<|cq ?_;lk;refine DL (n:=n+4) (.inl H) Z (k1.F j) s λu r U I M F o=>?_;rw[N] at F o;exact aw<|bD I (br.q<|j.q M) F o H
  |false=>
   rw[q] at bD;refine bd<|cq ?_;lk;obtain⟨y,a3,rfl⟩:=Sc (l:=pl) λz=>by obtain N:=z▸N;exact Dz N
   injection(lG▸N) with e1 e2
   refine Zo Z (k1.F j) (by rw[kq] at s;exact je s) λr U u I M F o=>?_;rw[e1,e2] at F o;exact aw<|bD I (br.q<|j.q M) F o H
def nL(pre:List Nat)(x:Nat)(post:List Nat):Bool:=pre.any (λy=>bn x y)||post.any λy=>bn x y&&!bn y x
noncomputable def m7:List Nat->List Nat->List Nat
 |[],post=>post
 |x::r,post=>if nL (gZ r) x post then m7 r post else m7 r<|x::post
def Vj{K}(h:σ l=I (.b vs))(g:K vs):jX σ (.d l) K:=by
 unfold jX;rw[wL h];exact g
def rz:∀n a,O (kU a n)=n:=by
 intro n;induction n with
 |zero=>
  exactλc=>H
 |succ n b=>
  exactλa=>be (·+1) (b<|a+1)
def a31:∀b,b<30->bk b≠8:=by decide+kernel
def NH(h:Q σ S T A)(hi:Is T t m)(g:∀k,k≠8->K (.a k) σ):W (n+1) 2 [.d S.tl.h,.a t] σ K:=by
 refine gk hi λy! bs p c=>?_;cases p with
 |nil=>exact BU h.h h.y<|g 1<|Y H
 |B a=>exact BV h.h h.y a<|g _<|a31 _ a.1
 |a b=>exact BS h.h h.y.aR b (lb H)<|g 6<|Y H
abbrev E9:List PS:=Nl
def Y1(v:Nm x.2):∀{zs dn x4 σ T K},Q σ (S.g l<|G<|E<|dn++zs) T A->Is T x.1 x.2->Kn T zs->pl<O dn->O (dn++zs)<=900->
 (∀σ' T' x4,Q σ' (S.g l<|G<|E<|dn++zs) T' A->T.Le T'->((zs.map (·.2)).any (λy=>bn x.2 y&&!bn y x.2)=U->K (I<|.e U) [.d S.L.q,.a x.1,.a pl,.d l,x4] σ')/\((zs.map (·.2)).any (λy=>bn x.2 y&&!bn y x.2)=am->K .none [.d S.L.q,.a x.1,.a pl,.d l,x4] σ'))->
 cu (wB (n+6) E9) (.B 4) dc (kU (O dn)<|O zs) [.d S.L.q,.a x.1,.a pl,.d l,x4] σ K:=by
 intro zs;induction zs with
 |nil=>
  intro dn x4 σ T K h _ _ _ _ k;exact(k σ T x4 h<|.B T).2 H
 |cons z zs D=>
  intro dn x4 σ T K h hi m o r k;obtain⟨hz,nz⟩:=m z aZ;have e:dn++z::zs=(dn++[z])++zs:=by rw[gc];rfl
  have next:∀{b:av}{c:bP},Q b (S.g l<|G<|E<|dn++z::zs) c A->T.Le c->(bn x.2 z.2&&!bn z.2 x.2)=am->cu (wB (n+6) E9) (.B 4) dc (kU (O dn+1)<|O zs) [.d S.L.q,.a x.1,.a pl,.d l,.a<|O dn] b K:=λ{b c} d br q=>by
   rw[e] at d;have:=D (x4:=.a<|O dn) d (hi.F br) (λy s=>⟨(m y<|bK _ s).1.F br,(m y<|bK _ s).2⟩) (ay eK<|tJ o) (aO e r) λσ' T' x4 h' p=>by
    rw[<-e] at h';obtain⟨t,u⟩:=k σ' T' x4 h'<|br.q p;rw[lG,sD,q] at t u;exact⟨t,u⟩
   rw[eK] at this;exact this
  refine BG<|kA ?_;lk;apply i9;rw[bR<|gm<|rb o];have g:∀{b:av}{c:bP}{P:AV->Prop},Q b (S.g l<|G<|E<|dn++z::zs) c A->P (.a z.1)->gL b (.d l) (.a<|O dn) P:=λd F=>eL d.v (kG r H) (by
   rw[nH,nH,v7<|ce _,v4];rfl) F
  refine bw<|fY h.st.q H<|g h<|yX (S:=S.g l<|G<|E<|dn++z::zs) h hi hz v nz λb c d br=>?_;cases q:bn x.2 z.2 with
  |false=>exact bd<|aw<|aw ⟨aE,next d br<|by rw[q];rfl⟩
  |true=>
   refine bw<|kA ?_;lk;refine gW (iH.mpr<|je o)<|fY d.st.q H<|g d<|yX (S:=S.g l<|G<|E<|dn++z::zs) d (hz.F br) (hi.F br) nz v λf i B j=>?_;cases C:bn z.2 x.2 with
   |true=>exact im<|bd<|aw<|aw<|aw ⟨aE,next B (br.q j)<|by rw[q,C];rfl⟩
   |false=>
    exact im<|bw<|f7<|(k f i _ B<|br.q j).1<|by rw[lG,sD,q,C];rfl
def Y0(v:Nm x.2):∀{zs dn x4 σ T K},Q σ (S.g l<|G<|E<|dn++(zs++x::post)) T A->Is T x.1 x.2->Kn T zs->Kn T post->O (dn++(zs++x::post))<=900->
 (∀σ' T' x4,Q σ' (S.g l<|G<|E<|dn++(zs++x::post)) T' A->T.Le T'->(nL (zs.map (·.2)) x.2 (post.map (·.2))=U->K (I<|.e U) [.d S.L.q,.a x.1,.a (O dn+O zs:Nat),.d l,x4] σ')/\(nL (zs.map (·.2)) x.2 (post.map (·.2))=am->K .none [.d S.L.q,.a x.1,.a (O dn+O zs:Nat),.d l,x4] σ'))->
 cu (wB (n+6) E9) (.B 4) dc (kU (O dn)<|O<|zs++x::post) [.d S.L.q,.a x.1,.a (O dn+O zs:Nat),.d l,x4] σ K:=by
 intro zs;induction zs with
 |nil=>
  intro dn x4 σ T K h hi _ j d g;have e:dn++([]++x::post)=(dn++[x])++post:=by rw[gc];rfl
  refine BG<|kA ?_;lk;apply i9;rw[bA H];refine bd<|bd<|aw<|aw ⟨aE,?_⟩;rw[e] at h d;have:=Y1 (n:=n) (x4:=.a<|O dn) v h hi j (by rw[eK];exact lY _) d λσ' T' x4 h' b=>by
   rw[<-e] at h';exact g σ' T' x4 h' b
  rw[eK] at this;exact this
 |cons z zs s=>
  intro dn x4 σ T K h hi i j d g;have e:dn++(z::zs++x::post)=(dn++[z])++(zs++x::post):=by rw[gc];rfl
  have m:O dn+O (z::zs)=O (dn++[z])+O zs:=by rw[eK,kq];show _=O dn+1+_;exact lT.symm
  refine BG<|kA ?_;lk;refine i9 ?_;rw[bR<|show¬(O dn:Int)=(O dn+O (z::zs):Nat) by rw[kq];exact gm<|hZ<|xT<|sx _];refine bw<|fY h.st.q H<|eL h.v (kG d H) (by
   rw[nH,nH,v7<|ce _,v4];rfl) (yX (S:=S.g l<|G<|E<|dn++(z::zs++x::post)) h hi (i z aZ).1 v (i z aZ).2 λc f k br=>?_)
  cases q:bn x.2 z.2 with
  |false=>
   refine bd<|aw<|aw ⟨aE,?_⟩;rw[e] at k d;have:=s (x4:=.a<|O dn) k (hi.F br) (λy o=>⟨(i y<|bK _ o).1.F br,(i y<|bK _ o).2⟩) (j.F br) d λσ' T' x4 h' b=>by
    rw[<-e] at h';obtain⟨p,r⟩:=g σ' T' x4 h'<|br.q b;rw[((show nL ((z::zs).map (·.2)) x.2 (post.map (·.2))=nL (zs.map (·.2)) x.2 (post.map (·.2)) from by
     unfold nL;rw[sD,q,we])),m] at p r
    exact⟨p,r⟩
   rw[<-m] at this;rw[eK] at this;exact this
  |true=>
   refine bw<|kA ?_;lk;refine iw (show(O dn:Int)<(O dn+O (z::zs):Nat) by rw[kq];exact jH.mpr<|xT<|sx _)<|bw<|f7<|(g c f _ k br).1 ?_;unfold nL;rw[sD,q];rfl
def Zl(h:Q σ (S.g l<|G<|E<|pre++x::post) T A)(v:Is T x.1 x.2/\Nm x.2)(F:Kn T pre)(M:Kn T post)(j:O (pre++x::post)<=900)(B:pl=O pre)(g:∀σ' T',Q σ' (S.g l<|G<|E<|pre++x::post) T' A->T.Le T'->K (.e<|nL (pre.map (·.2)) x.2<|post.map (·.2)) σ'):W (n+7) 59 [.d S.L.q,.a x.1,.a pl,.d l] σ K:=by
 subst B;refine bq [.d S.L.q,.a x.1,.a<|O pre,.d l,.q] H<|bV ?_;lk;refine h.qO<|NH h v.1 λk b=>fU b<|bd<|aw<|gg ?_;lk;refine Vj h.v ⟨kG j H,?_⟩;obtain d:O (G<|E<|pre++x::post)=O (pre++x::post):=by rw[ba,ba]
 rw[d];refine⟨dI _,lu j H,⟨by rw[rz];exact bG j H,?_⟩⟩;rw[show AV.a (O pre:Nat)=AV.a (O ([]:List<|Nat×Nat)+O pre:Nat) from be (λk:Nat=>AV.a k) (n6 _).symm];refine Y0 (dn:=[]) v.2 h v.1 F M j λσ' T' x4 h' c=>?_;obtain g:=g σ' T' h' c;exact⟨λe=>by rw[e] at g;exact g,λe=>f7<|by rw[e] at g;exact g⟩
def XG(h:σ l=I (.b vs))(g:O vs<=aR)(j:vs[i]?=I v)(B:K v<|σ.u l<|.b<|vs.eraseIdx i):IF σ (.d l) (.a i) K:=by
 refine lS h g ⟨dI i,?_⟩;rw[Sk];simp only[j];exact B
def Xp:∀n a,O (wV a n)=n:=by
 intro n;induction n with
 |zero=>
  exactλc=>H
 |succ n b=>
  exactλa=>be (·+1) (b<|a-1)
def CI(a b):G (E<|a++b)=G (E a)++G (E b):=by
 unfold E;rw[d9];exact d9 ..
def Xh:∀{g post x3 σ T K},Q σ (S.g l<|G<|E<|gZ g++post) T A->Kn T g->Kn T post->O (gZ g++post)<=900->
 (∀σ' T' x3 out,Q σ' (S.g l<|G<|E out) T' A->T.Le T'->Kn T' out->out.map (·.2)=m7 (g.map (·.2)) (post.map (·.2))->O out<=O (gZ g++post)->K .none [.d S.L.q,x1,.d l,x3,x4] σ')->
 cu (wB (n+7) Nk) (.B 3) dc (wV ((O g:Int)-1)<|O g) [.d S.L.q,x1,.d l,x3,x4] σ K:=by
 intro g;induction g with
 |nil=>
  intro post x3 σ T K h _ f _ b;exact b σ T x3 post h (.B T) f H<|ce _
 |cons x r u=>
  intro post x3 σ T K h m f i b;have e:gZ (x::r)++post=gZ r++x::post:=by rw[H9,gc];rfl
  rw[e] at h i b;refine bY (m x aZ) λv z=>?_;have c:Kn T r:=λy hy=>m y<|bK _ hy;obtain j:=λy hy=>c y<|uQ.mp hy;have at_:(G<|E<|gZ r++x::post)[O r]?=I (.a x.1):=by
   rw[nH,nH,v7 (by rw[uR];exact ce _),uR,v4];rfl
  rw[show((O (x::r):Nat):Int)-1=(O r:Int) by rw[kq];exact xZ (O r:Int) 1];refine fj<|bV ?_;lk;refine eL h.v (kG i H) at_<|Zl h ⟨v,z⟩ j f i uR.symm λo B k br=>?_;have C:m7 ((x::r).map (·.2)) (post.map (·.2))=if nL (r.reverse.map (·.2)) x.2 (post.map (·.2)) then m7 (r.map (·.2)) (post.map (·.2)) else m7 (r.map (·.2))<|x.2::post.map (·.2):=by rw[a6O];rfl
  rw[C] at b;generalize q:nL (r.reverse.map (·.2)) x.2 (post.map (·.2))=L;clear h m j C;induction L using Bool.casesOn with
  |false=>
   rw[q] at b;refine bd<|aw<|aw ⟨aE,u k (c.F br) (λy hy=>?_) i λσ' T' x3 out h' d p s t=>b σ' T' x3 out h' (br.q d) p s t⟩;rcases cf.mp hy with rfl|hy;.exact⟨v.F br,z⟩
   .exact⟨(f y hy).1.F br,(f y hy).2⟩
  |true=>
   rw[q] at b;refine bw<|ia ?_;lk;refine⟨mw k.v,XG k.v (kG i H) at_ ⟨aE,aw<|aw ⟨aE,?_⟩⟩⟩;obtain D:=k.wn<|(G<|E<|gZ r++x::post).eraseIdx<|O r;obtain F:(G<|E<|gZ r++x::post).eraseIdx (O r)=G (E<|gZ r++post):=by
    rw[CI,CI,((show O r=O (G<|E<|gZ r) from by rw[ba,ba,uR])),List.eraseIdx_append_of_length_le<|ce _,v4] at⊢;rfl
   rw[F] at D;obtain l2:O (gZ r++post)<=O (gZ r++x::post):=by rw[eK,eK];exact jq (gR _) _
   rw[F];exact u D (c.F br) (f.F br) (aV l2 i) λσ' T' x3 out h' d p s t=>b σ' T' x3 out h' (br.q d) p s<|aV t l2
def Xd(h:Q σ S T A)(v:Kn T ps)(F:ps≠[])(g:O ps<=50)(B:∀σ' T' b,Q σ' S T' A->T.Le T'->Is T' b (eV<|cw<|m7 (gZ<|ps.map (·.2)) [])->K (.a b) σ'):W (n+8) 60 [.d S.L.q,.r<|G<|E ps] σ K:=by
 refine bq [.d S.L.q,.r<|G<|E ps,.q,.q,.q] H<|cq ⟨kG g H,GW aE (λm m h=>h) (λx p C e=>G9 p e) λk fr=>gg ?_⟩;lk;refine⟨kG g H,rE ?_⟩;obtain q:O (G<|E ps)=O (gZ ps):=by rw[ba,ba,uR]
 rw[q];refine⟨H,H,a67 (dI _) 1,by rw[uR];exact jW (Int.sub_le_self _<|Y H)<|lu g H,?_⟩;rw[show cY (((O (gZ ps):Nat):Int)-1+1)=O (gZ ps) from by rw[a68];rfl];refine⟨by rw[Xp,uR];exact bG g H,Xh (by rw[H8,jG];exact(h.N (.b<|G<|E ps)<|fr 45)) (λy r=>v y<|uQ.mp r) dS (by rw[H8,jG];exact bG g H) λf o x3 out i j s t l2=>?_⟩;obtain l2:=(H8 ..)▸l2;obtain l2:=(jG ..)▸l2;refine pg H i.v<|db ?_;lk;exact i.sF.qO<|DL (.inl H) i.sF s (bG (aV l2 g) H) λu c d h4 l z m=>B c d u h4 (j.q l)<|((a6O▸t)▸z)
def Qu{Lf:AV->List AV}(g:Nat->Nat)(v:∀b,b<18->g b<18)(B:∀x y,ci (Lf x) F y=Lf y)(M:∀x,dg (Lf x) X=.d l)(he:∀t b σ T vs P,Q σ (S.g l vs) T A->bB T t b->b<18->(∀u σ' T',Q σ' (S.g l vs) T' A->T.Le T'->bB T' u (g b)->P (.a u) σ')->a6 (W n) ex (Lf<|.a t) σ P):
 ∀{qs os x σ T K},Q σ (S.g l<|G<|E os) T A->(∀q∈qs,bB T q.1 q.2/\q.2<18)->(∀q∈os,bB T q.1 q.2/\q.2<18)->O os+O qs<=900->
 (∀σ' T' x jK,Q σ' (S.g l<|G<|E jK) T' A->T.Le T'->(∀q∈jK,bB T' q.1 q.2/\q.2<18)->jK.map (·.2)=os.map (·.2)++qs.map (g ·.2)->K .none (Lf x) σ')->
 cu (wB n [.l<|.append (.v X) ex]) (.B F) dc (G<|E qs) (Lf x) σ K:=by
 intro p;induction p with
 |nil=>
  intro os x σ T K h _ ho _ d;exact d σ T x os h (.B T) ho<|by rw[Ig,jG]
 |cons q qs r=>
  intro os x σ T K h c ho j d;refine fj<|ia ?_;rw[B,e24,e3,M];refine⟨mw h.v,he q.1 q.2 σ T _ _ h ((c q aZ)).1 ((c q aZ)).2 λu e k m br s=>lS m.v (kG (aV (fA ..) j) H) ⟨aE,aw ⟨aE,?_⟩⟩⟩;obtain o:=m.wn<|G (E os)++[.a u];obtain z:G (E os)++[.a u]=G (E<|os++[(u,g q.2)]):=(CI os [(u,g q.2)]).symm;rw[z] at o⊢;refine r o (λy hy=>⟨(c y<|bK _ hy).1.F br,(c y<|bK _ hy).2⟩) (λy hy=>?_) (by rw[eK];show O os+1+O qs<=900;exact mi j) λσ' T' x jK h' f i C=>d σ' T' x jK h' (br.q f) i ?_
  .rcases fQ.mp hy with hy|hy;.exact⟨(ho y hy).1.F br,(ho y hy).2⟩
   .rw[d8.mp hy];exact⟨s,v _ ((c q aZ)).2⟩
  .rw[C,d9,gc];rfl
def Mn{os:List<|Nat×Nat}{bs:List Nat}(e:os.map (·.2)=bs.map g):cw ((os.map (·.2)).map (2^·))=bW (bs.map g):=by rw[e,w0]
def DW(h:Q σ S T A)(hi:Is T t m)(B:Nm m)(M:∀u σ' T',Q σ' S T' A->T.Le T'->Is T' u m->K (.a u) σ'):W (n+4) 63 [.d S.L.g,.a t] σ K:=by
 refine bq [.d S.L.g,.a t,.q,.q,.q] H<|cq<|h.q<|cq ?_;intro k fr;obtain l:Q _ (S.g ⟨46,k⟩<|G<|E []) T A:=h.N (.b [])<|fr 46;refine gg<|qF l.h l.y hi B.cI λy! bs p e C o=>⟨lm o H,bc (p.w.list C) λqs c=>?_⟩;have D:O qs<=18:=by rw[<-c.E,ba] at o;exact o
 refine aO c.E<|Qu (Lf:=λx=>[.d S.L.g,.a t,.d S.tl.h,.d ⟨46,k⟩,x]) id (λr h=>h) (λr r=>H) (λr=>H) (λt b σ T vs P h a C i=>?_) l c.h dS (by show 0+O qs<=900;exact s6 D H) λs F x os I le ho j=>?_
 .lk;obtain i:=i t σ T h (.B T) a;apply FV h.h h.y a;rcases oZ b with _|_;.exact bd (aU h.j H<|fY h.st.w H<|bq [.d S.L.w,.d S.tl.h,.a t] H<|f7 i)
  .exact bw i
 .refine pg H I.v<|f7 ?_;have v:=I.sF;have j:os.map (·.2)=bs.map id:=by rw[j,<-c.bs,kM];rfl
  refine pM (.inl H) v.h v.y (xz ho) (λk N=>?_) (lm (by rw[<-ba,j,ba,<-c.bs,ba];exact D) H) λu d g up L=>M u d g (v.F up) (le.q up.c) ?_;.refine aA (bp.mp N) λb y f=>?_;subst f;refine aA (bp.mp y) λq z f=>?_;subst f;exact pT (ho q z).2
  .rw[Mn j,Ih,e,B.g] at L;exact L
def Xb:∀b,b<18->oZ b=am->lL b=b:=by decide+kernel
def Xa(h:Q σ S T A)(hi:Is T t m)(v:Nm m)(M:∀u σ' T',Q σ' S T' A->T.Le T'->Is T' u (gM m)->K (.a u) σ'):W (n+5) 64 [.d S.tl.h,.a t] σ K:=by
 refine bq [.d S.tl.h,.a t,.q,.q] H<|cq ?_;intro k fr;obtain o:Q _ (S.g ⟨47,k⟩<|G<|E []) T A:=h.N (.b [])<|fr 47;refine gg<|qF o.h o.y hi v.cI λy! bs p e g r=>⟨lm r H,bc (p.w.list g) λqs c=>?_⟩;have C:O qs<=18:=by rw[<-c.E,ba] at r;exact r
 refine aO c.E<|Qu (Lf:=λx=>[.d S.tl.h,.a t,.d ⟨47,k⟩,x]) lL (λb g=>(wA b g).2.2) (λD D=>H) (λD=>H) (λt b σ T vs P h a g F=>?_) o c.h dS (by show 0+O qs<=900;exact s6 C H) λs I x os L le ho l=>?_
 .lk;apply FV h.h h.y a;rcases q:oZ b with _|_;.exact bd (F t σ T h (.B T)<|by rw[Xb b g q];exact a)
  .exact bw<|La h.h h.y a λu σ' T' up i=>F u σ' T' (h.F up) up.c i
 .refine pg H L.v<|f7 ?_;have y:=L.sF;have l:os.map (·.2)=bs.map lL:=by rw[l,<-c.bs,kM];rfl
  refine pM (.inl H) y.h y.y (xz ho) (λk N=>?_) (lm (by rw[<-ba,l,ba,<-c.bs,ba];exact C) H) λu d j up i=>M u d j (y.F up) (le.q up.c) ?_;.refine aA (bp.mp N) λb z f=>?_;subst f;refine aA (bp.mp z) λq B f=>?_;subst f;exact pT (ho q B).2
  .rw[Mn l,Ga v.cI e] at i;rw[show fp (bW<|(mz m).map lL)=gM m from v.unit.Er] at i;exact i
def P5:∀b,b<18->eG b=am->bk b≠10/\bk b≠6/\bk b≠7/\bk b≠16:=by decide+kernel
def Cu{b:Int}{K:AV->Prop}(g:K<|.e<|decide<|a=b):eZ σ .eq (.a a) (.a b) K:=⟨H,by rw[jp.mpr ⟨λe=>by injection e,λe=>by rw[e]⟩];exact g⟩
def Qp(h:Q σ S T A)(a:bB T t b)(j:b<18)(g:K (.e<|decide<|b=14+p) σ)(x3):wB (n+1) PF.body [.d S.L.q,.a t,.a p,x3,.q,.q] σ<|rK K:=by
 refine aA a.hd λi d c=>dP ?_;lk;refine gW (dI t)<|cq ?_;lk;refine h.qO<|aU h.h.h H<|fY h.st.q H<|uq<|eL h.h.e h.y.aR d<|pR ?_;lk;apply dh c H;rcases q:eG b with _|_
 .refine mm (P5 b j q) λk l m o=>?_;obtain g:=(bR<|(λe=>by
   unfold eG at q;obtain q:=e▸q;obtain q:=(kn.mpr<|fA ..)▸q;exact mI q:¬b=14+p))▸g
  refine eh k<|bV ?_;lk;refine dh c H<|fU l<|dh c H<|eh m<|bV ?_;lk;exact dh c H<|fU o<|bd<|aw<|f7 g
 .obtain e:=EG a j q;obtain e:=d▸e;injection e with e;injection e with e;injection e with f e
  injection f with f
  clear h a j d;subst e;refine gO f<|dh c H<|Cu ?_;rw[show decide (((b-14:Nat):Int)=p)=decide (b=14+p) from jp.mpr<|Ax.trans<|Nat.sub_eq_iff_eq_add'<|kn.mp q];exact g
def a4R(h:Q σ S T A)(a:bB T t b)(g:b<18)(j:K (.e<|decide<|b=14+p) σ):W (n+2) 36 [.d S.L.q,.a t,.a p,x3] σ K:=
 bq [.d S.L.q,.a t,.a p,x3,.q,.q] H (Qp h a g j x3)
def a4Q:∀{qs x5 K},Q σ S T A->(∀q∈qs,bB T q.1 q.2/\q.2<18)->
 (qs.any (λq=>decide<|q.2=14+p)=U->∀x5,K (I<|.e U) [.d S.L.q,x1,.a p,.a 0,x4,x5] σ)->(qs.any (λq=>decide<|q.2=14+p)=am->∀x5,K .none [.d S.L.q,x1,.a p,.a 0,x4,x5] σ)->
 cu (wB (n+2) M0) (.B 5) dc (G<|E qs) [.d S.L.q,x1,.a p,.a 0,x4,x5] σ K:=by
 intro qs;induction qs with
 |nil=>
  intro x5 K _ _ _ b;exact b H x5
 |cons q qs f=>
  intro x5 K h c d b;refine bY (c q aZ) λa g=>fj<|vh<|a4R h a g ?_;rcases z:decide (q.2=14+p) with _|_;.exact bd<|aw ⟨aE,f h (jw c) (λe=>d<|by rw[sD,e,m5]) λe=>b<|by rw[sD,e,z];rfl⟩
  .exact bw<|d (by rw[sD,z];rfl) _
inductive uB(T:bP):Int->Nat->Prop
 |none:uB T (-1) 0
 |some {t m:Nat}:Is T t m->m<2^18->m≠0->uB T t m
theorem uB.F(le:T.Le T'){v:Int}{m:Nat}(h:uB T v m):uB T' v m:=by
 cases h with
 |none=>exact .none
 |some h a b=>exact .some (h.F le) a b
def a4N(h:Q σ S T A)(ht:uB T v m)(g:K (.e<|aQ m<|14+p) σ):W (n+3) 36 [.d S.L.q,.a v,.a p] σ K:=by
 cases ht with
 |none=>obtain g:=(lX ..)▸g;exact Jh g
 |@some t m hi j hz=>
  refine gk hi λy! bs k e=>?_;have d:=tx<|ay e j;have g:K (.e<|decide<|14+p∈bs) σ:=by obtain g:=jg (e ..)▸g;obtain g:=(fF ..)▸g;exact g
  apply bq [.d S.L.q,.a t,.a p,.a 0,.q,.q] H;cases k with
  |nil=>exact aP e.symm hz
  |@B _ b a=>
   refine Qp h a (d b aZ) ?_ (.a 0);rw[show decide (b=14+p)=decide (14+p∈[b]) from jp.mpr<|by rw[d8] at⊢;exact eq_comm];exact g
  |@a _ y! bs l kI a _ _=>
   obtain⟨qs,c⟩:=a.list d;rw[<-((show(qs.any λq=>decide<|q.2=14+p)=decide (14+p∈bs) from by
    rw[gu,iG,dT,<-c.bs,bp] at⊢;exact⟨λf=>aA f λq hq e=>⟨q,hq,Y e⟩,λf=>aA f λq hq e=>⟨q,hq,bA e⟩⟩))] at g
   apply dP;lk;refine gW (dI t)<|cq ?_;lk;refine h.qO<|aU h.h.h H<|fY h.st.q H<|uq<|eL h.h.e h.y.aR l<|dP ?_;lk;refine dh (lb H) H<|eh (Y H)<|bV ?_;lk;refine dh (t:=0) (lb H) H<|kC H<|bw<|gg ?_;lk;refine dh (lb H) H ⟨lm (a.w h.y (kI.imp hZ) d) H,?_⟩;rw[show(y!.map λ(i:Nat)=>AV.a i)=G (E qs) from by rw[c.E]];refine a4Q h c.h (λe o=>?_) λe o=>?_;.rw[e] at g;exact g
   .rw[e] at g;exact db g
structure jc(x:cQ):Prop where
 m:Nm x.m
 r:x.s=2\/(x.s=0/\x.r<=5)\/(x.s=1/\x.r<=3)
structure Sd(σ:av)(S:GS)(T:bP)(A:List<|Nat×Bool)(R:Nat->List cQ)(B D:Nat->Option Nat)(x!:Nat):Prop where
 q:Q σ S T A
 gi:GI S.D.a S.V T R
 h4:∀p∈S.D.a,p<4
 r:Wd T S.D.a B D
 a:uB T S.D.yA x!
 aT:∀p,(R p).length<=40
 e:∀p,∀x∈R p,jc x
def Sd.gU(g:Sd σ S T A R B D x!)(q:Q σ' S T' A)(le:T.Le T'):Sd σ' S T' A R B D x!:=⟨q,g.gi.F le,g.h4,g.r.F le,g.a.F le,g.aT,g.e⟩
def S9(h:Sd σ S T A R B D x!)(j:p∈S.D.a)(g:K (.e<|!(aM<|R p).B&&!x!.testBit (14+p)) σ):W (n+4) 65 [.d S.L.g,.a p] σ K:=by
 refine bq [.d S.L.g,.a p] H<|dP<|aU h.q.j H<|s7 h.q.Fb ?_;rw[h.gi.B.b p j];rcases z:(aM<|R p).B with _|_;.obtain g:=z▸g;refine bd<|db ?_;lk;exact aU h.q.j H<|uh (h.q.st.r.F (k:=25) H) H<|bd<|aU h.q.j H<|aU h.q.j H<|a4N h.q h.a<|im g
 .obtain g:=z▸g;exact bw g
def NR(g:r<=5)(j:K (.e<|decide<|r&&&4≠0) σ):W (n+1) 66 [.a r] σ K:=by
 refine bq [.a r] H<|db ?_;lk;refine iw (Ca g H)<|gX 16<|gX 32<|i8 ((4|||16)|||32)<|i9 ?_;rw[((show∀r,r<=5->(!decide (((r&&&((4|||16)|||32):Nat):Int)=0))=decide (r&&&4≠0) from Y H)) r g];exact j
noncomputable def j4(l:List<|Nat×Nat):Nat:=l.foldr (λx b=>min x.2 b) 1024
def YC(l)(x):j4 (l++[x])=min (j4 l) (min x.2 1024):=by
 induction l with
 |nil=>exact(v5<|xR ..).symm
 |cons y l b=>
  show min y.2 (j4<|l++[x])=min (min y.2<|j4 l) _;rw[b];exact(Am ..).symm
def Mf(l):j4 l<=1024:=by
 induction l with
 |nil=>exact ce _
 |cons y l b=>exact aV (xR ..) b
def Mg(l)(x):j4 (k6 l x)=min (j4 l) x.2:=by
 unfold k6;by_cases h:x∈l
 .rw[ak h];exact(pF<|(by
   induction l with
   |nil=>cases h
   |cons y l b=>
    rcases cf.mp h with rfl|h;.exact uM ..
    .exact aV (xR ..)<|b h)).symm
 .rw[Z h,YC,<-Am,pF<|aV (uM ..)<|Mf l]
def Xk(R):(aM R).a=min (j4 (aM R).e) (j4 (aM R).f):=((show∀R y,y.a=min (j4 y.e) (j4 y.f)->(R.foldl HS.M y).a=min (j4 (R.foldl HS.M y).e) (j4 (R.foldl HS.M y).f) from by
 intro R;induction R with
 |nil=>exactλy h=>h
 |cons x R c=>
  refineλy h=>c (y.M x) ?_
  unfold HS.M;by_cases z:x.s=2
  .rw[ak z];unfold HS.g;by_cases q:x.r<y.az;.rw[ak q];exact h
   .rw[Z q];by_cases b:x.r=y.az;.rw[ak b];exact h
    .rw[Z b];exact h
  .rw[Z z];obtain rk:(if x.r<y.a then x.r else y.a)=min y.a x.r:=by
    by_cases q:x.r<y.a;.rw[ak q];exact(v5<|je q).symm
    .rw[Z q];exact(pF<|lE q).symm
   cases x.s==1;.show(if x.r<y.a then x.r else y.a)=min (j4<|k6 y.e (x.m,x.r)) (j4 y.f);rw[rk,Mg,h];exact Nat.min_right_comm ..
   .show(if x.r<y.a then x.r else y.a)=min (j4 y.e) (j4<|k6 y.f (x.m,x.r));rw[rk,Mg,h];exact Am ..)) R HS.nil H
def yF{K}(h:σ l=I (.b vs))(g:K vs λσ'=>σ' l=I (.b vs)):ma σ (.d l) K:=by
 unfold ma;simp only[h];exact g
def Ea{P}(h:Q σ S T A)(b)(g:mF S.D.a T (S.V.bH b) f)(B:p∈S.D.a)(v:∀es ok,m6 T es (f p)->ok σ->P (es.map lz) ok):
 ul σ (.d<|S.L.bH b)=U/\pK σ (.d<|S.L.bH b) λes=>dK (jO σ<|.d<|S.L.bH b) (.a p)=U/\ma σ ((dL es<|.a p).getD<|.r []) P:=by
 refine xp (h.wN b) ⟨vN (h.wN b) H,?_⟩;rw[po];rcases Fe with⟨d,i⟩|⟨a,e,c,d,i,l⟩;.rw[i];exact v [] _ ⟨(g.out p B d).symm,dS⟩ aE
 .rw[l];have j:e∈S.V.bH b:=by rw[d];exact gA _ aZ
  have k:=g.b e j;rw[i] at k;exact yF (h.xt b j)<|v e.es _ k<|h.xt b j
def P4(g:ok σ):∀{es:List<|Nat×Nat×Nat}{b0 x4 x5}{K:Option AV->List AV->av->Prop},b0<=1024->(∀x4 x5,K .none [x0,x1,.a (min b0 (j4<|es.map (·.2)):Nat),x3,x4,x5] σ)->
 cu (wB n Nn) (.a [4,5]) ok (es.map lz) [x0,x1,.a b0,x3,x4,x5] σ K:=by
 intro es;induction es with
 |nil=>
  intro b0 x4 x5 K b c;have:=c x4 x5;rw[show min b0 (j4<|([]:List<|Nat×Nat×Nat).map (·.2))=b0 from pF b] at this;exact this
 |cons e es d=>
  intro b0 x4 x5 K b c;refine⟨H,bV ?_⟩;lk;by_cases q:e.2.2<b0;.refine iw (jH.mpr q)<|bX ?_;lk;refine aw<|aw ⟨g,d (je<|eR q b) λx4 x5=>?_⟩;rw[show min e.2.2 (j4<|es.map (·.2))=min b0 (min e.2.2<|j4<|es.map (·.2)) from(v5<|aV (uM ..)<|je q).symm];exact c x4 x5
  .refine gW (iH.mpr<|lE q)<|aw<|aw ⟨g,d b λx4 x5=>?_⟩;rw[show min b0 (j4<|es.map (·.2))=min b0 (min e.2.2<|j4<|es.map (·.2)) from((Am ..).symm.trans<|be (min · _)<|pF<|fw.mp q).symm];exact c x4 x5
def G5(h:Sd σ S T A R B D x!)(g:p∈S.D.a)(j:K (.a ((aM<|R p).a:Nat)) σ):W (n+1) 57 [.d S.L.g,.a p] σ K:=by
 refine bq [.d S.L.g,.a p,.q,.q,.q,.q] H<|cq<|gg ?_;lk;refine aU h.q.j H (aU h.q.j H ⟨bU H,fj<|gg<|Ea h.q am h.gi.e g λes ok e1 c=>⟨by rw[ba,<-ba (f:=(·.2)),e1.1];exact aV (zm (R p) HS.nil).1<|bG (jT (ce 0)<|h.aT p) H,P4 c (ce _) λx4 x5=>aw ⟨aE,fj<|gg<|Ea h.q U h.gi.f g λe i d b=>⟨by rw[ba,<-ba (f:=(·.2)),d.1];exact aV (zm (R p) HS.nil).2<|bG (jT (ce 0)<|h.aT p) H,P4 b (uM ..) λx4 x5=>aw ⟨aE,vw<|db ?_⟩⟩⟩⟩⟩);lk;rw[e1.1,d.1,v5<|Mf (aM<|R p).e,<-(Xk<|R p)];exact j
noncomputable def mj(l:List<|Nat×Nat)(r:Nat):List Nat:=(l.filter λx=>decide<|x.2=r).map (·.1)
def ZL(g:ok σ):∀{es:List<|Nat×Nat×Nat}{K},K (G<|E<|(es.filter λx=>decide<|x.2.2=r).map λx=>(x.1,x.2.1)) σ->
 iJ (n8 (W n)<|I<|.h .eq V4 V2) (a6 (W n) V3) (.a [3,4]) ok [x0,x1,.a r,x3,x4] (es.map lz) σ K:=by
 intro es;induction es with
 |nil=>
  intro K b;exact b
 |cons e es c=>
  intro K b;rw[jf] at b;refine⟨H,?_⟩;by_cases q:e.2.2=r;.rw[bA q] at b;exact gO (be _ q) ⟨g,c b⟩
  .rw[bR q] at b;exact eh (gm q) ⟨g,c b⟩
def FJ(h:Sd σ S T A R B D x!)(b)(g:mF S.D.a T (S.V.bH b) f)(j:p∈S.D.a)(v:O (f p)<=50)(F:∀ps,Kn T ps->ps.map (·.2)=mj (f p) r->K (.r<|G<|E ps) σ):W (n+1) 58 [.d<|S.L.bH b,.a p,.a r] σ K:=by
 refine bq [.d<|S.L.bH b,.a p,.a r,.q,.q] H (db<|Ea h.q b g j λes ok e1 c=>⟨by rw[ba,<-ba (f:=(·.2)),e1.1];exact bG v H,ZL c<|F _ (λq hq=>?_) ?_⟩);.refine aA (bp.mp hq) λx e d=>?_;subst d;exact e1.2 x (cG.mp e).1
 .unfold mj;rw[<-e1.1,R9,kM,kM];rfl
def a46(j:Nm m):∀{ps x3 σ T K},Q σ S T A->Kn T ps->Is T t m->
 (∀σ' T' x3,Q σ' S T' A->T.Le T'->((ps.map (·.2)).all (bn · m)=U->K .none [.d S.L.q,x1,.a t,x3] σ')/\((ps.map (·.2)).all (bn · m)=am->K (I<|.e am) [.d S.L.q,x1,.a t,x3] σ'))->
 cu (wB (n+6) Nj) (.B 3) dc (G<|E ps) [.d S.L.q,x1,.a t,x3] σ K:=by
 intro ps;induction ps with
 |nil=>
  intro x3 σ T K h _ _ b;exact(b σ T x3 h<|.B T).1 H
 |cons p ps k=>
  intro x3 σ T K h e hi b;refine bY (e p aZ) λl o=>fj<|vh ?_;lk;refine fY h.st.q H<|zt h l hi o j λc d g br=>?_;rw[lG,Aw] at b;rcases z:bn p.2 m with _|_;.rw[z] at b;exact im<|bw<|(b c d _ g br).2 H
  .rw[z] at b;exact im<|bd<|aw ⟨aE,k g (λy i=>⟨(e y<|bK _ i).1.F br,(e y<|bK _ i).2⟩) (hi.F br) λσ' T' x3 h' f=>b σ' T' x3 h'<|br.q f⟩
def a45(h:Q σ S T A)(j:Kn T ps)(v:O ps<=900)(hi:Is T t m)(B:Nm m)(g:∀σ' T',Q σ' S T' A->T.Le T'->K (.e<|(ps.map (·.2)).all (bn · m)) σ'):W (n+7) 69 [.d S.L.q,.r<|G<|E ps,.a t] σ K:=by
 refine bq [.d S.L.q,.r<|G<|E ps,.a t,.q] H<|lf ⟨kG v H,a46 B h j hi λσ' T' x3 h' b=>?_⟩;obtain g:=g σ' T' h' b;exact⟨λe=>f7 (by rw[e] at g;exact g),λe=>by rw[e] at g;exact g⟩
def SQ(h:Q σ S T A)(hi:Is T t m)(g:K (.e am) σ):W (n+2) 61 [.d S.L.g,.a p,.a t] σ K:=by
 refine bq [.d S.L.g,.a p,.a t,.q] H<|bX<|h.q<|db ?_;lk;exact aU h.j H<|uh (h.st.r.F (k:=17) H) H<|bd<|NH h hi λk b=>fU b g
def ZX(h:Q σ S T A)(g:Kn T ps)(j:O ps<=900)(v:K (.r<|G<|E ps) σ):W (n+3) 62 [.d S.L.g,.a p,.r<|G<|E ps] σ K:=by
 refine bq [.d S.L.g,.a p,.r<|G<|E ps,.q,.q,.q,.q] H<|bX ⟨kG j H,tj (q:=λb=>am) aE (λi hi e ht=>?_) (λi b f d=>d) ?_⟩;.refine aA (bp.mp hi) λq hq c=>?_;subst c;exact SQ h (g q hq).1 ht
 refine(show Dk (λb=>am) (E ps)=[] from Sa.mpr λb b=>eS)▸dP ?_;lk;exact AQ H<|bw<|bw v
def rJ(keeps AN:Bool)(m:Nat):Nat:=if keeps then gM m else if AN then lc m else m
def Hh(y0:Bool):List Nat->Nat
 |[]=>0
 |m::r=>if y0 then eV (cw<|m7 (gZ<|m::r) []) else tq m r
def BC{k w}(h:Nm m):Nm<|rJ k w m:=by
 induction k using Bool.casesOn
 .induction w using Bool.casesOn;.exact h
  .exact h.unit.wi
 .exact h.unit.pl
theorem Lg{x r post}:m7 (x::r) post=if nL (gZ r) x post then m7 r post else m7 r<|x::post:=rfl
def Xe:∀l post x,x∈m7 l post->x∈l\/x∈post:=by
 intro l;induction l with
 |nil=>
  exactλpost x h=>.inr h
 |cons y l b=>
  intro post x h;rw[Lg] at h;by_cases q:nL (gZ l) y post=U;.rw[ak q] at h;exact(b post x h).imp (bK _) id
  .rw[Z q] at h;rcases b (y::post) x h with h|h;.exact .inl (bK _ h)
   .rcases cf.mp h with rfl|h;.exact .inl aZ
    .exact .inr h
def Hg(h:∀m∈ms,Nm m):Nm<|Hh y0 ms:=by
 rcases ms with _|⟨m,r⟩;.exact(show Nm 0 from⟨Y H,Y H⟩)
 .induction y0 using Bool.casesOn;.exact PO h
  .refine .h<|yG λk hk=>?_;rcases Xe _ _ _ hk with hk|hk;.exact(h k<|uQ.mp hk).1
   .cases hk
def a3g(h:Sd σ S T A R B D x!)(hp:p∈S.D.a)(M:Kn T ps)(hn:ps≠[])(X:O ps<=50)(hr:r<=5)(j:∀σ' T' u,Q σ' S T' A->T.Le T'->Is T' u (Hh (decide<|r&&&4≠0)<|(ps.map (·.2)).map<|rJ (jz<|B p)<|!(aM<|R p).B&&!x!.testBit (14+p))->K (.a u) σ'):
 W (n+9) 67 [.d S.L.g,.a p,.r<|G<|E ps,.a r] σ K:=by
 apply bq [.d S.L.g,.a p,.r<|G<|E ps,.a r,.q,.q,.q] H;have P:O (G<|E ps)<=aR:=kG X H;apply dP;lk;refine sJ P (zH hn)<|bd<|bX<|h.q.q<|bX<|ZX h.q M (bG X H)<|kA ?_;lk;have tail:∀{b:av}{c:bP}{pl:List<|Nat×Nat}{x5 x6:AV},Q b S c A->T.Le c->Kn c pl->pl.map (·.2)=(ps.map (·.2)).map (rJ (jz<|B p)<|!(aM<|R p).B&&!x!.testBit (14+p))->
  wB (n+8) [.d (.j 66 [V3]) [.c<|.j 63 [V0,.j 60 [.p V0 11,V2]]] [],.c<|.j 63 [V0,.j 55 [.p V0 11,V2]]]
  [.d S.L.g,.a p,.r<|G<|E pl,.a r,.d S.tl.h,x5,x6] b (rK K):=λ{b c pl x5 x6} i br l e1=>by
  obtain j:=λσ' T' u h' U f=>j σ' T' u h' (br.q U) f;obtain j:=jg e1▸j;have pn:pl≠[]:=λz=>by
   obtain e1:=z▸e1;obtain e1:=Ig▸e1;exact hn<|lF.mp<|lF.mp e1.symm
  have g:O pl=O ps:=by rw[<-ba,e1,ba,ba]
  obtain N:=Hg (y0:=decide<|r&&&4≠0)<|(λk M=>by
   refine aA (bp.mp M) λq hq o=>?_;subst o;exact(l q hq).2:∀k∈pl.map (·.2),Nm k)
  apply pR;lk;refine NR hr<|FO (Sc pn) λy a1 o=>?_;subst o;rcases q:decide (r&&&4≠0) with _|_;.rw[q] at j N;refine bd<|f7 ?_;lk;exact aU i.j H<|a29 i l (by obtain g:=kq▸g;exact a6u<|aV (gG g) X) λs L u V v f=>DW V f N λY d e Z C F=>j d e Y Z (v.q C) F
  .rw[q] at j N;exact bw<|aU i.j H<|Xd i l pn (aV (gG g) X) λs L u V v f=>DW (n:=n+4) V f N λY d e Z C F=>j d e Y Z (v.q C) F
 apply NP h.q h.r hp;rcases kp:jz (B p) with _|_
 .rw[kp] at tail;refine bd<|bV<|S9 h hp ?_;rcases wd:(!(aM<|R p).B&&!x!.testBit (14+p)) with _|_
  .rw[wd] at tail;exact bd<|aw<|aw<|tail h.q (.B T) M (by
    rw[kM];exact R2 λζ ζ=>H)
  .rw[wd] at tail;refine bw (cq ⟨P,GU lc (λm I=>I.unit.wi) (λx σ Kt ht=>ht) (λt m σ T Ke h hi I a0=>IL h.h h.y hi I.cI λu σ' T' up f=>a0 u σ' T' (h.F up) up.c ?_) h.q M λpl b c i br l e1=>aw<|aw<|tail i br l<|by rw[e1,kM];rfl⟩);obtain f:=I.unit.AN▸f;exact f
 .rw[kp] at tail;exact bw<|bX ⟨P,GU gM (λm I=>I.unit.pl) (λx σ Kt ht=>ht) (λt m σ T Ke=>Xa) h.q M λpl b c i br l e1=>aw<|tail i br l<|by rw[e1,kM];rfl⟩
def a25(h:Q σ S T A)(v:Kn T<|y::ps)(g:O ps<=900)(j:r<=3)(B:∀σ' T' b,Q σ' S T' A->T.Le T'->Is T' b (tR y.2<|ps.map (·.2))->Nm (tR y.2<|ps.map (·.2))->K (.a b) σ'):W (n+8) 68 [.d S.L.g,.r<|G<|E<|y::ps,.a r] σ K:=by
 refine bq [.d S.L.g,.r<|G<|E<|y::ps,.a r] H<|dP ?_;lk;refine sJ (by rw[ba,ba,kq];exact bG (jS g) H) (Dm _ _)<|bd<|bV<|NR (bG j H) ?_;rw[((show∀r,r<=3->decide (r&&&4≠0)=am from Y H)) r j];refine bd<|aw<|db ?_;lk;exact aU h.j H<|a3a h v (bG g H) B
def WO:∀b,b<18->(oC 8 (gz b)&&xN (ky<|gz b) (.tuple [.int 10,.int 0]))=true:=by decide+kernel
def Yw(x)(p):xN (ky x) (ky<|.B [.a 10,.a p])=xN (ky x) (.tuple [.int 10,.int 0]):=by
 induction x using AV.casesOn with
 |B vs=>
  rcases vs with _|⟨a,r⟩;.rfl
  .rcases r with _|⟨b,s⟩;.rfl
   .exact be (λq=>xN (ky a) (.int 10)&&(q&&a5Q (nM s) []))<|(by induction b using AV.casesOn<;>rfl)
 |_=>rfl
def a1j(k)(is:List Nat):(is.map λ(i:Nat)=>AV.a i).all (oC k)=true:=gf.mpr λv c=>by
 refine aA (bp.mp c) λi d b=>?_;subst b;induction k using Nat.casesOn<;>rfl
def WN(g:bF T)(hi:Is T t m)(v:m<2^18)(hz:m≠0)(B:p<4):∃row,T.e[t]?=I row/\lR row (.B [.a 10,.a p])=U/\decide (row=.B [.a 10,.a p])=decide (m=2^(14+p)):=by
 refine gk hi λy! bs k e=>?_;have f:=tx<|ay e v;cases k with
 |nil=>exact aP e.symm hz
 |@B _ b a=>
  have c:=f b aZ;refine⟨gz b,a.2,?_,?_⟩;.have:=WO b c;rw[eB] at this;unfold lR;rw[Yw,this.1,this.2];rfl
  .rw[show m=2^b from by rw[<-e];exact n7 _];refine jp.mpr ⟨λq=>?_,λq=>?_⟩
   .obtain j:=(Bw b c).2;refine aA a.hd λr l o=>?_;obtain e1:=fg<|a.2.symm.trans l;rw[q] at e1;injection e1 with e1;injection e1 with e1 _;injection e1 with e1
    rw[<-e1] at j;obtain d:=(yE b a.1).2<|(Bw b c).1.trans j.symm;rw[q] at d;injection d with d;injection d with d _
    rw[show b=14+p from(gI (AV.a.inj (oO ‹[AV.a _]=_›).1)▸Ao (kn.mp j.symm)).symm]
   .have:=(Nat.pow_right_inj (Y H:1<2)).mp q;subst this;obtain d:=(yE (14+p) a.1).2 (by rw[eB];exact⟨kn.mpr<|fA ..,kn.mpr c⟩);rw[uP] at d;exact d
 |a n kI a len _=>
  refine⟨_,n,?_,?_⟩;.show((U&&((y!.map λ(i:Nat)=>AV.a i).all (oC 6)&&U))&&U&&(U&&(U&&U)))=U;rw[a1j];rfl
  .rw[bR<|(λq=>by
    obtain nd:=a.q g<|kI.imp hZ;obtain all:=λb f=>by
     obtain this:aQ m b=true:=by rw[<-e,fF];exact bA f
     rw[q,jD] at this;exact(Y this).symm
    match bs,(a.aT▸len),nd,all with
    |x::y::_,_,nd,all=>exact(fh.mp nd).1 (all x aZ▸(all y<|bK _ aZ)▸aZ):¬m=2^(14+p))]
   exact bR λz=>by
    injection z with z;injection z with z
    exact aP z<|Y H
noncomputable def sY(B:Nat->Option Nat)(p o:Nat):Bool:=decide<|B o=I (2^(14+p))
abbrev MO:List PS:=Ni
def Zj(w:Wd T g B D)(j:p<4):∀{os bL x4 σ K},Q σ (S.g l<|G bL) T A->(∀o∈os,o∈g)->O bL+O os<=900->
 (∀σ' x4,Q σ' (S.g l<|G<|bL++os.filter (sY B p)) T A->K .none [.d S.L.g,.a p,.d S.tl.h,.d l,x4] σ')->
 cu (wB (n+1) MO) (.B 4) dc (G os) [.d S.L.g,.a p,.d S.tl.h,.d l,x4] σ K:=by
 intro os;induction os with
 |nil=>
  intro bL x4 σ K h _ _ b;exact b σ x4<|by rw[jG];exact h
 |cons o os m=>
  intro bL x4 σ K h ho f b;obtain d:=λq hq=>ho q<|bK _ hq;have skip:sY B p o=am->cu (wB (n+1) MO) (.B 4) dc (G os) [.d S.L.g,.a p,.d S.tl.h,.d l,.a o] σ K:=λz=>by
   obtain b:=jf▸b;obtain b:=z▸b;exact m h d (je f) b
  refine fj<|bV ?_;lk;have cell:=w.b o<|ho o aZ;refine pe (dI o)<|aU h.h.h H ?_;generalize r:B o=ob at cell;cases cell with
  |none i=>
   exact eL h.h.d w.c i<|qR (Y H)<|aw<|aw ⟨aE,skip<|by unfold sY;rw[r];exact bR nofun⟩
  |@some u mb i hi v hz=>
   refine eL h.h.d w.c i<|pe (dI u)<|bV ?_;lk;refine eW (WN h.y hi v hz j) λrow s k x=>aU h.h.h H<|aU h.j H<|fY h.st.q H<|aU h.h.h H<|eL h.h.d w.c i<|uq<|eL h.h.e h.y.aR s ?_;have key:∀{P:AV->Prop},P (.e<|sY B p o)->eZ σ .eq row (.B [.a 10,.a p]) P:=λ{P} y=>by
    show sG σ row _ _;unfold sG;rw[(show jy σ row=C from by
    clear w j ho f s;induction row using AV.casesOn with
    |d l=>exact dj k
    |g c es=>exact dj k
    |_=>rfl)]
    refine⟨k,?_⟩;rw[x,show decide (mb=2^(14+p))=decide (I mb=I (2^(14+p))) from jp.mpr ⟨λe=>by rw[e],fg⟩];exact(aO r y)
   apply key;rcases z:sY B p o with _|_;.exact bd<|aw<|aw<|aw ⟨aE,skip z⟩
   .refine bw<|mg ?_;lk;refine⟨mw h.v,lS h.v (lm (aV (fA ..) f) H) ⟨aE,aw<|aw<|aw ⟨aE,?_⟩⟩⟩;obtain t:=h.wn<|G bL++[.a o];obtain E:G bL++[.a o]=G (bL++[o]):=(d9 (l₂:=[o])).symm;rw[E] at t⊢;refine m t d (by rw[eK];show O bL+1+O os<=900;exact mi f) λσ' x4 h'=>b σ' x4 ?_;rw[jf,z];obtain h':=(gc ..)▸h';exact h'
def Zp(h:Sd σ S T A R B D x!)(j:p∈S.D.a)(g:O S.D.a<=10)(v:∀σ',Q σ' S T A->K (.r<|G<|p::S.D.a.filter (sY B p)) σ'):W (n+2) 70 [.d S.L.g,.a p] σ K:=by
 refine bq [.d S.L.g,.a p,.q,.q,.q] H<|cq<|h.q.q<|cq ?_;intro k fr;obtain c:Q _ (S.g ⟨48,k⟩<|G [p]) T A:=h.q.N (.b [.a p])<|fr 48;exact gg<|aU c.j H ⟨lm g H,Zj h.r (h.h4 p j) c (λo ho=>ho) (by show 1+O S.D.a<=900;exact s6 g H) λb x4 d=>pg H d.v<|f7<|v _ d.sF⟩
def qK(R:Nat->List cQ)(o:Nat):List Nat:=mj (aM<|R o).e (aM<|R o).a
def uz(R:Nat->List cQ)(o:Nat):List Nat:=mj (aM<|R o).f (aM<|R o).a
def tO(R:Nat->List cQ)(B:Nat->Option Nat)(aN:List Nat)(p m:Nat):Bool:=
 !(decide (m=0)||decide (m=8192))&&((uz R p).all (bn m ·)&&(p::aN.filter (sY B p)).all λo=>(qK R o).all (bn · m))
def Qx(g:bF T)(hi:Is T t m):(t:Int)=0↔m=8192:=by
 obtain c:Is T 0 8192:=.B<|g.h (b:=13)<|Y H;constructor;.intro e;obtain this:t=0:=gI e;subst this;exact hi.q g c
 .intro e;subst e;rw[hi.inj g c];rfl
def UV(g:bF T)(hi:Is T t m):decide ((t:Int)∈([2,0,13]:List Int))=(decide (m=0)||decide (m=8192)):=by
 rw[gu,dT,rh,dT,dT,cf,cf,d8,<-(ER g hi),<-(Qx g hi)];constructor
 .rintro(e|e|e);.exact .inl (gI e)
  .exact .inr e
  .exact aP e<|Cr g hi
 .rintro(e|e);.exact .inl (be _ e)
  .exact .inr<|.inl e
def a2W(j:Nm m):∀{ps x4 σ T K},Q σ S T A->Kn T ps->Is T t m->
 (∀σ' T' x4,Q σ' S T' A->T.Le T'->((ps.map (·.2)).all (bn m ·)=U->K .none [.d S.L.g,x1,.a t,x3,x4,x5] σ')/\((ps.map (·.2)).all (bn m ·)=am->K (I<|.e am) [.d S.L.g,x1,.a t,x3,x4,x5] σ'))->
 cu (wB (n+6) Nh) (.B 4) dc (G<|E ps) [.d S.L.g,x1,.a t,x3,x4,x5] σ K:=by
 intro ps;induction ps with
 |nil=>
  intro x4 σ T K h _ _ b;exact(b σ T x4 h<|.B T).1 H
 |cons p ps k=>
  intro x4 σ T K h e hi b;refine bY (e p aZ) λl o=>fj<|vh ?_;lk;refine aU h.j H<|fY h.st.q H<|zt h hi l j o λc d g br=>?_;rw[lG,Aw] at b;rcases z:bn m p.2 with _|_;.rw[z] at b;exact im<|bw<|(b c d _ g br).2 H
  .rw[z] at b;exact im<|bd<|aw ⟨aE,k g (λy i=>⟨(e y<|bK _ i).1.F br,(e y<|bK _ i).2⟩) (hi.F br) λσ' T' x4 h' f=>b σ' T' x4 h'<|br.q f⟩
def a2V(j:Nm m):∀{os x5 σ T K},Sd σ S T A R B D x!->(∀o∈os,o∈S.D.a)->Is T t m->
 (∀σ' T' x5,Q σ' S T' A->T.Le T'->((os.all λo=>(qK R o).all (bn · m))=U->K .none [.d S.L.g,x1,.a t,x3,x4,x5] σ')/\((os.all λo=>(qK R o).all (bn · m))=am->K (I<|.e am) [.d S.L.g,x1,.a t,x3,x4,x5] σ'))->
 cu (wB (n+7) Ng) (.B 5) dc (G os) [.d S.L.g,x1,.a t,x3,x4,x5] σ K:=by
 intro os;induction os with
 |nil=>
  intro x5 σ T K h _ _ b;exact(b σ T x5 h.q<|.B T).1 H
 |cons o os i=>
  intro x5 σ T K h ho hi b;have f:=aV (zm (R o) HS.nil).1<|jT (ce 0)<|h.aT o;refine fj<|vh ?_;lk;refine aU h.q.j H<|aU h.q.j H<|G5 h (ho o aZ)<|FJ h am h.gi.e (ho o aZ) (bG f H) λps k e1=>a45 h.q k (by
   rw[<-ba,e1] at⊢;rw[ba];exact aV (k9 ..)<|bG f H) hi j λc d g br=>?_
  rw[e1];rw[Aw] at b;rcases z:(mj (aM<|R o).e (aM<|R o).a).all (bn · m) with _|_;.rw[show(qK R o).all (bn · m)=am from z] at b;exact im<|bw<|(b c d _ g br).2 H
  .rw[show(qK R o).all (bn · m)=U from z] at b;exact im<|bd<|aw ⟨aE,i (h.gU g br) (jw ho) (hi.F br) λσ' T' x5 h' e=>b σ' T' x5 h'<|br.q e⟩
def a3e(h:Sd σ S T A R B D x!)(v:p∈S.D.a)(F:O S.D.a<=10)(hi:Is T t m)(M:Nm m)(X:Kn T ps)(ea:ps.map (·.2)=uz R p)(j:O ps<=50)(g:∀σ' T',Q σ' S T' A->T.Le T'->K (.e<|tO R B S.D.a p m) σ'):
 W (n+8) 71 [.d S.L.g,.a p,.a t,.r<|G<|E ps] σ K:=by
 refine bq [.d S.L.g,.a p,.a t,.r<|G<|E ps,.q,.q] H<|dP ?_;lk;apply B6 (is:=[2,0,13]);rw[UV h.q.y hi];unfold tO at g;rcases z:decide (m=0)||decide (m=8192) with _|_
 .rw[z] at g;refine bd (lf ⟨kG j H,a2W M h.q X hi λb d x4 i br=>ay ea ⟨λe=>gg ?_,λe=>?_⟩⟩)
  .rw[e] at g;refine Zp (h.gU i br) v F λk q=>⟨?_,?_⟩;.rw[ba];exact bG (jS<|aV (k9 ..) F) H
   .refine a2V M ((h.gU i br).gU q<|.B _) (λo ho=>?_) (hi.F br) λc f x5 r l=>?_
    .rcases cf.mp ho with rfl|ho;.exact v
     .exact(cG.mp ho).1
    .have g:=g c f r<|br.q l;exact⟨λe=>f7 (by rw[e] at g;exact g),λe=>by rw[e] at g;exact g⟩
  .rw[e] at g;exact g b d i br
 .exact bw<|(z▸g) σ T h.q<|.B T
inductive qe(T:bP):Int->Option Nat->Prop
 |none:qe T (-1) .none
 |some {t m:Nat}:Is T t m->Nm m->qe T t (.some m)
theorem qe.F(le:T.Le T'){o}(h:qe T v o):qe T' v o:=by
 cases h with
 |none=>exact .none
 |some a b=>exact .some (a.F le) b
def xB:List Nat->Option Nat
 |[]=>C
 |m::r=>I<|tR m r
def vS(R:Nat->List cQ)(B:Nat->Option Nat)(x! p:Nat):Option Nat:=
 if qK R p=[] then C else I<|Hh (decide<|(aM<|R p).a&&&4≠0)<|(qK R p).map<|rJ (jz<|B p)<|!(aM<|R p).B&&!x!.testBit (14+p)
def tN(R:Nat->List cQ)(p:Nat):Bool:=decide<|(aM<|R p).az<(aM<|R p).a
noncomputable def sR(o a:Option Nat)(w:Nat->Bool):Option Nat×Option Nat:=match o with
 |none=>(a,C)
 |some m=>if a.isNone||w m then(I m,a) else(a,I m)
def u8(R:Nat->List cQ)(B:Nat->Option Nat)(aN:List Nat)(x! p:Nat):Option Nat×Option Nat:=
 if tN R p then((aM<|R p).c,C) else sR (vS R B x! p) (xB<|uz R p)<|tO R B aN p
def Qy(h:Sd σ S T A R B D x!)(g:p∈S.D.a)(j:K (.e<|tN R p) σ):W (n+2) 76 [.d S.L.g,.a p] σ K:=by
 refine bq [.d S.L.g,.a p] H<|db ?_;lk;refine G5 h g<|aU h.q.j H<|xp h.q.yf ⟨vN h.q.yf H,?_⟩;rw[Gv,h.gi.az.b p g];show K (.e<|decide<|((aM<|R p).az:Int)<(aM<|R p).a) σ;rw[show decide (((aM<|R p).az:Int)<(aM<|R p).a)=tN R p from jp.mpr jH];exact j
def Tb(h:Sd σ S T A R B D x!)(j:p∈S.D.a)(g:∀σ' T' a,Q σ' S T' A->T.Le T'->qe T' a (aM<|R p).c->K (.B [.a a,.a<|-1]) σ'):W (n+5) 73 [.d S.L.g,.a p] σ K:=by
 apply bq [.d S.L.g,.a p,.q,.q] H;have b:=h.gi.c.b p j;apply cq;lk;refine aU h.q.j H<|xp h.q.qE ⟨vN h.q.qE H,cq ?_⟩;lk;refine aU h.q.j H<|xp h.q.Ej ⟨vN h.q.Ej H,dP ?_⟩;lk;rw[po];generalize(aM<|R p).c=o at b g;rcases z:lk S.V.c p with _|u
 .rw[z] at b;rcases o with _|m;.exact iw (Y H) (g σ T (-1) h.q (.B T) .none)
  .exact b.elim
 .rw[z] at b;rcases o with _|m;.exact b.elim
  .refine gW (dI u)<|cq ?_;lk;refine DW h.q b.1 b.2 λe c d f br i=>dP ?_;lk;exact iw (Y H)<|bw<|g c d e f br<|.some i b.2
def Qv{l}(h:y∈k6 l x):y∈l\/y=x:=by
 unfold k6 at h;by_cases q:x∈l;.rw[ak q] at h;exact .inl h
 .rw[Z q] at h;rcases fQ.mp h with h|h;.exact .inl h
  .exact .inr<|d8.mp h
def t_{R}(h:∀x∈R,jc x):(∀y∈(aM R).e,y.2<=5)/\∀y∈(aM R).f,y.2<=3:=((show∀R z,(∀x∈R,jc x)->((∀y∈z.e,y.2<=5)/\∀y∈z.f,y.2<=3)->(∀y∈(R.foldl HS.M z).e,y.2<=5)/\∀y∈(R.foldl HS.M z).f,y.2<=3 from by
 intro R;induction R with
 |nil=>exactλz i h=>h
 |cons x R g=>
  refineλz c hz=>g (z.M x) (jw c) ?_
  unfold HS.M;by_cases q:x.s=2
  .rw[ak q];unfold HS.g;by_cases d:x.r<z.az;.rw[ak d];exact hz
   .rw[Z d];by_cases f:x.r=z.az;.rw[ak f];exact hz
    .rw[Z f];exact hz
  .rw[Z q];rcases((lM c).r) with e|⟨e,r⟩|⟨e,r⟩;.exact aP e q
   .rw[e];refine⟨λy b=>?_,hz.2⟩;rcases Qv b with b|rfl;.exact hz.1 y b
    .exact r
   .rw[e];refine⟨hz.1,λy b=>?_⟩;rcases Qv b with b|rfl;.exact hz.2 y b
    .exact r)) R HS.nil h ⟨dS,dS⟩
def NN{l}(h:∀y∈l,y.2<=k)(g:mj l r≠[]):r<=k:=bc (Dl _ g) λm c=>aA (bp.mp c) λy b d=>Y (cG.mp b).2▸h y (cG.mp b).1
def a3f(j:K (.a<|-1) σ){x y}:W (n+1) 67 [x,y,.r [],g] σ K:=by
 refine bq [x,y,.r [],g,.q,.q,.q] H<|dP ?_;lk;exact AQ H<|bw j
def a24(j:K (.a<|-1) σ){x}:W (n+1) 68 [x,.r [],g] σ K:=by
 refine bq [x,.r [],g] H<|dP ?_;lk;exact AQ H<|bw j
def a3T(h:Sd σ S T A R B D x!)(X:p∈S.D.a)(hl:O S.D.a<=10)(j:∀σ' T' a b,Q σ' S T' A->T.Le T'->qe T' a (u8 R B S.D.a x! p).1->qe T' b (u8 R B S.D.a x! p).2->K (.B [.a a,.a b]) σ'):W (n+10) 72 [.d S.L.g,.a p] σ K:=by
 apply bq [.d S.L.g,.a p,.q,.q,.q,.q] H;obtain cl:=zm (R p) HS.nil;have c1:O (aM<|R p).e<=50:=aV cl.1<|bG (jT (ce 0)<|h.aT p) H;have c2:O (aM<|R p).f<=50:=aV cl.2<|bG (jT (ce 0)<|h.aT p) H;obtain kl:∀{l:List<|Nat×Nat}{ps:List<|Nat×Nat}{r:Nat},O l<=50->ps.map (·.2)=mj l r->O ps<=50:=λ{l ps r} h e=>by
  rw[<-ba (f:=(·.2)),e,ba];exact aV (k9 ..) h
 refine bY (t_<|h.e p) λa1 a2=>bX<|G5 h X<|dP<|Qy h X ?_;unfold u8 at j;rcases w:tN R p with _|_
 .obtain j:=w▸j;obtain j:=(Z eS)▸j;refine bd<|bX<|aU h.q.j H<|FJ h U h.gi.f X c2 λpa ka F=>bX ?_;lk;refine aU h.q.j H<|FJ h am h.gi.e X c1 λpc kc L=>?_;obtain L:pc.map (·.2)=qK R p:=L;obtain F:pa.map (·.2)=uz R p:=F;have tail:∀{c:av}{g:bP}{v:Int}{x5:AV},Q c S g A->T.Le g->qe g v (vS R B x! p)->
   wB (n+9) [.g 5<|.j 68 [V0,V3,V2],.d (.h .lt V4 N0) [.c<|.B [V5,.F N1]] [],
    .d (.y (.h .lt V5 N0)<|.j 71 [V0,V1,V4,V3]) [.c<|.B [V4,V5]] [],.c<|.B [V5,V4]]
   [.d S.L.g,.a p,.a (aM<|R p).a,.r<|G<|E pa,.a v,x5] c (rK K):=λ{c g v x5} V br hv=>by
   have t:∀{d:av}{i:bP}{u:Int},Q d S i A->g.Le i->qe i u (xB<|uz R p)->
    wB (n+9) [.d (.h .lt V4 N0) [.c<|.B [V5,.F N1]] [],
    .d (.y (.h .lt V5 N0)<|.j 71 [V0,V1,V4,V3]) [.c<|.B [V4,V5]] [],.c<|.B [V5,V4]]
    [.d S.L.g,.a p,.a (aM<|R p).a,.r<|G<|E pa,.a v,.a u] d (rK K):=λ{d i u} q2 M C=>by
    obtain m:=br.q M;obtain hv:=hv.F M;apply dP;lk;generalize vS R B x! p=o at hv j;cases hv with
    |none=>exact iw (Y H)<|j d i u (-1) q2 m C .none
    |@some tv mv iv nv=>
     refine gW (dI tv)<|dP ?_;lk;generalize ha:xB (uz R p)=oa at C j;cases C with
     |none=>exact iw (Y H)<|bw<|j d i tv (-1) q2 m (.some iv nv) .none
     |@some tu mu iu nu=>
      refine gW (dI tu)<|a3e (h.gU q2 m) X hl iv nv (ka.F m) F (kl c2 F) λN a0 q3 s=>?_;obtain j:=j N a0;rcases z:tO R B S.D.a p mv with _|_;.rw[show sR (I mv) (I mu) (tO R B S.D.a p)=(I mu,I mv) from Z λy=>by rw[z] at y;exact dj y] at j;exact bd<|f7<|j tu tv q3 (m.q s) (.some (iu.F s) nu)<|.some (iv.F s) nv
      .rw[show sR (I mv) (I mu) (tO R B S.D.a p)=(I mv,I mu) from ak z] at j;exact bw<|j tv tu q3 (m.q s) (.some (iv.F s) nv)<|.some (iu.F s) nu
   apply bX;rcases pa with _|⟨y,pa⟩;.refine a24<|t V (.B _) ?_;rw[<-F];exact .none
   .refine a25 V (ka.F br) (bG (kX<|kl c2 F) H) (NN a2 (λz=>by
     exact Iy<|F.trans z)) λd i u q2 M C hn=>t q2 M ?_
    rw[<-F];exact .some C hn
  by_cases en:pc=[];.subst en;refine a3f<|tail h.q (.B T) ?_;unfold vS;rw[ak L.symm];exact .none
  .have ne:qK R p≠[]:=λz=>by rw[z] at L;exact en (lF.mp L)
   have rk:=NN a1 ne;refine a3g h X kc en (kl c1 L) rk λc g u V br C=>tail V br ?_;unfold vS;rw[Z ne];obtain C:=L▸C;refine .some C<|Hg λk hk=>aA (bp.mp hk) λx hx P=>?_;clear ka F tail rk C ne hk;subst P;rw[<-L] at hx;refine aA (bp.mp hx) λq hq P=>?_;clear L C hx;subst P;exact BC (kc q hq).2
 .obtain j:=w▸j;obtain j:=(ak H)▸j;exact bw<|Tb h X λc g a V br ha=>j c g a (-1) V br ha .none
abbrev iC:=Nat×Option Nat
noncomputable def mc(t:iC):Nat:=match t.2 with|none=>t.1|some q=>t.1|||2^(14+q)
structure WD where
 fS:Nat->Option Nat×Option Nat
 g:Nat->Bool
 bound:Nat->Option iC
 a:Nat->Option iC
abbrev cJ:=Nat->Option Nat
noncomputable def bN(now:cJ)(p m:Nat):cJ:=λq=>if q=p then I m else now q
def p6(d y_:Nat):Nat:=bW<|(mz d).filter λb=>bn (2^b) y_
def nR(w:WD)(p d y_:Nat):Nat:=
 if w.g p&&decide (p6 d y_≠0) then p6 d y_ else match(w.fS p).2 with
  |some o=>if bn o y_ then o else y_
  |none=>y_
def dq(rp:cJ->Nat->Nat×cJ)(now:cJ)(t:iC):Nat×cJ:=match t.2 with
 |none=>(t.1,now)
 |some q=>(eV<|t.1|||(rp now q).1,(rp now q).2)
def finish(w:WD)(rp:cJ->Nat->Nat×cJ)(p d:Nat)(now:cJ):Nat×cJ:=match w.bound p with
 |none=>(d,bN now p d)
 |some b=>let r:=dq rp (bN now p d) b
  if bn d r.1 then(d,r.2) else(nR w p d r.1,bN r.2 p<|nR w p d r.1)
def wT(w:WD)(rp:cJ->Nat->Nat×cJ)(now:cJ)(p:Nat):Nat×cJ:=match now p with
 |some m=>(m,now)
 |none=>match(w.fS p).1 with
  |some d=>finish w rp p d<|bN now p 4096
  |none=>match w.a p with
   |some c=>finish w rp p (dq rp (bN now p 4096) c).1 (dq rp (bN now p 4096) c).2
   |none=>match w.bound p with
    |none=>(4096,bN now p 4096)
    |some b=>((dq rp (bN now p 4096) b).1,bN (dq rp (bN now p 4096) b).2 p (dq rp (bN now p 4096) b).1)
noncomputable def cc(w:WD)(k:Nat):cJ->Nat->Nat×cJ:=Nat.rec (λnow p=>((now p).getD 0,now)) (λ_ rp=>wT w rp) k
def It(rp:cJ->Nat->Nat×cJ):Prop:=∀now p q v,now q=I v->(rp now p).2 q=I v
def jI(h:q≠p):bN now p m q=now q:=Z h
def g8:bN now p m p=I m:=ak H
def m8(h:It rp){now:cJ}{t:iC}{q v:Nat}(e:now q=I v):(dq rp now t).2 q=I v:=by
 unfold dq;rcases t.2 with _|k;.exact e
 .exact h now k q v e
def O3(h:It rp){p d:Nat}{now:cJ}{q v:Nat}(hq:q≠p)(e:now q=I v):(finish w rp p d now).2 q=I v:=by
 obtain e1:=(jI hq).trans e;unfold finish;rcases w.bound p with _|b;.exact e1
 .show(if bn d _ then(d,_) else _:Nat×cJ).2 q=_;by_cases z:bn d (dq rp (bN now p d) b).1=U;.rw[ak z];exact(m8 h e1)
  .rw[Z z];exact(jI hq).trans<|m8 h e1
def sN(w):∀k,It<|cc w k:=by
 intro f;induction f with
 |zero=>
  exactλnow p q v e=>e
 |succ k c=>
  intro now p q v e;show(match now p with|some m=>_|none=>_:Nat×cJ).2 q=_;rcases g:now p with _|m
  .have hq:q≠p:=λz=>by obtain e:=z▸e;obtain e:=g▸e;exact cL e
   obtain e1:=(jI hq).trans e;rcases(w.fS p).1 with _|d
   .rcases w.a p with _|d
    .rcases w.bound p with _|b;.exact e1
     .exact(jI hq).trans<|m8 c e1
    .exact O3 c hq<|m8 c e1
   .exact O3 c hq e1
  .exact e
noncomputable def cF(P:List Nat)(now:cJ):Nat:=O<|P.filter λp=>(now p).isNone
def GX(h:∀q v,now q=I v->now' q=I v):cF P now'<=cF P now:=by
 unfold cF;rw[<-Av,<-Av];refine Sg λx c b=>?_;rcases z:now x with _|v;.rfl
 .obtain b:=(h x v z)▸b;exact dj b
def PR(h:∀q,dA (now q)=U->dA (now' q)=U):cF P now'<=cF P now:=by
 unfold cF;rw[<-Av,<-Av];refine Sg λx c b=>?_;rcases z:now x with _|v;.rfl
 .have:=h x (by rw[z];rfl);rcases y:now' x with _|u;.obtain this:=y▸this;exact dj this
  .obtain b:=y▸b;exact dj b
def PT(g:p∈P)(h:now p=C):cF P (bN now p m)+1<=cF P now:=by
 unfold cF;obtain b:(P.filter λq=>(bN now p m q).isNone)=(P.filter λq=>(now q).isNone).filter λq=>decide<|q≠p:=by
  rw[a6X];refine Io λx c=>?_;by_cases z:x=p;.rw[z,g8,bR λy=>y H];rfl
  .rw[jI z,bA z];rfl
 exact(ay b<|List.length_filter_lt_length_iff_exists.mpr ⟨p,(cG.mpr ⟨g,by rw[h];rfl⟩),by rw[bR λz=>z H];exact eS⟩)
structure xD(P:List Nat)(t:iC):Prop where
 nm:Nm t.1
 a:∀q,t.2=some q->q∈P
 g:fp (mc t)=mc t
 any:mc t≠8192
theorem xD.cI{t}(h:xD P t)(h4:∀p∈P,p<4):mc t<2^18:=by
 unfold mc;rcases e:t.2 with _|q;.exact h.nm.cI
 .exact mG h.nm.cI<|pT (by have:=h4 q<|h.a q e;exact qj this _)
def L1:∀b,b<14->Nm (2^b):=λb c=>by
 obtain lt:2^b<2^14:=tI (Y H) c;exact⟨lt,by rw[<-(lI lt).1];exact Bm b<|oY c H⟩
noncomputable def rA(mq b:Nat):Nat:=if b<14 then 2^b else mq
def Xx(hq:Nm mq):∀{qs os x5 x6 σ K},Q σ (S.g l<|G<|E os) T A->(∀c∈qs,bB T c.1 c.2/\c.2<18/\(14<=c.2->c.2=14+q))->Kn T os->Is T u mq->O os+O qs<=900->
 (∀σ' x5 x6 jK,Q σ' (S.g l<|G<|E jK) T A->Kn T jK->jK.map (·.2)=os.map (·.2)++qs.map (rA mq ·.2)->K .none [x0,.d S.L.q,.a t,.g 0 [(.a q,.a u)],.d l,x5,x6] σ')->
 cu (wB n Fl) (.B 5) dc (G<|E qs) [x0,.d S.L.q,.a t,.g 0 [(.a q,.a u)],.d l,x5,x6] σ K:=by
 intro qs;induction qs with
 |nil=>
  intro os x5 x6 σ K h _ ho _ _ i;exact i σ x5 x6 os h ho<|by rw[Ig,jG]
 |cons c qs B=>
  intro os x5 x6 σ K h o ho p r i;refine gl (o c aZ) λa s D=>aA a.hd λF x d=>?_;have bl:O (G<|E os)<=aR:=kG (aV (fA ..) r) H;have add:∀v,Is T v (rA mq c.2)->Nm (rA mq c.2)->∀row,cu (wB n Fl) (.B 5) dc (G<|E qs) [x0,.d S.L.q,.a t,.g 0 [(.a q,.a u)],.d l,.a c.1,row] (σ.u l<|.b<|G (E os)++[.a v]) K:=λv L M row=>by
   obtain d:=h.wn<|G (E os)++[.a v];obtain N:G (E os)++[.a v]=G (E<|os++[(v,rA mq c.2)]):=(CI os [(v,rA mq c.2)]).symm;rw[N] at d⊢;refine B d (jw o) (λy hy=>?_) p (by rw[eK];show O os+1+O qs<=900;exact mi r) λσ' x5 x6 jK h' j P=>i σ' x5 x6 jK h' j ?_
   .rcases fQ.mp hy with hy|hy;.exact ho y hy
    .rw[d8.mp hy];exact⟨L,M⟩
   .rw[P,d9,gc];rfl
  refine fj<|cq<|h.qO<|aU h.h.h H<|eL h.h.e h.y.aR x<|ia ?_;lk;refine⟨mw h.v,dh d H ?_⟩;rcases b:eG c.2 with _|_
  .have lt:=m4 λz=>by unfold eG at b;rw[kn.mpr z] at b;exact mI b
   have f:rA mq c.2=2^c.2:=ak lt;exact eh (P5 c.2 s b).1<|lS h.v bl ⟨aE,aw ⟨aE,add c.1 (f.symm▸.B a) (f.symm▸L1 c.2 lt) _⟩⟩
  .obtain e:=EG a s b;obtain e:=x▸e;injection e with e;injection e with e;injection e with k e
   injection k with k
   subst e;have g:=D<|kn.mp b;obtain f:rA mq c.2=mq:=Z<|lq (uN g.symm) H;refine gO k ⟨H,dh d H ?_⟩;have m:=g▸uP ..;rw[m];have R:(dL [(AV.a q,AV.a u)]<|.a q).getD (.a c.1)=.a u:=by
    show(if AV.a q=AV.a q then I (AV.a u) else C).getD _=_;rw[ak H];rfl
   refine⟨H,?_⟩;rw[R];exact lS h.v bl ⟨aE,aw ⟨aE,add u (f.symm▸p) (f.symm▸hq) _⟩⟩
def Xw(g:z_<2^14)(j:∀b∈bs,b<18/\(14<=b->b=14+q))(e:bW bs=z_|||2^(14+q)):cw (bs.map<|rA mq)=z_|||mq:=by
 have mem:∀b,b∈bs↔aQ z_ b=U\/b=14+q:=λb=>by
  have:=be (aQ · b) e;rw[show aQ (bW bs) b=decide (b∈bs) from fF ..,show aQ (z_|||2^(14+q)) b=_ from fD ..,jD] at this;rw[<-dT (p:=b∈bs),this,rh,dT];exact or_congr Iq eq_comm
 apply km;intro i;rw[mK,fD,gu,iG,rh];constructor
 .rintro⟨x,f,hi⟩;refine aA (bp.mp f) λb c d=>?_;subst d;unfold rA at hi;by_cases z:b<14
  .rw[ak z,jD] at hi;rw[<-Y hi];rcases(mem b).mp c with h|h;.exact .inl h
   .exact aP z<|lq (uN h.symm) H
  .rw[Z z] at hi;exact .inr hi
 .rintro(h|h)
  .exact⟨2^i,bp.mpr ⟨i,(mem i).mpr<|.inl h,ak (m4 λz=>by
    rw[jR<|eR g<|pw z] at h;exact dj h)⟩,by rw[jD];exact bA H⟩
  .exact⟨mq,bp.mpr ⟨14+q,(mem _).mpr<|.inr H,Z<|lq (fA 14 q) H⟩,h⟩
def Xs(h:Q σ S T A)(hi:Is T t<|z_|||2^(14+q))(B:q<4)(F:Nm z_)(M:Is T u mq)(hq:Nm mq)(X:∀v σ' T',Q σ' S T' A->T.Le T'->Is T' v (eV<|z_|||mq)->Nm (eV<|z_|||mq)->K (.a v) σ'):
 W (n+4) 25 [.d S.L.w,.d S.L.q,.a t,.g 0 [(.a q,.a u)]] σ K:=by
 refine bq [.d S.L.w,.d S.L.q,.a t,.g 0 [(.a q,.a u)],.q,.q,.q] H<|cq ?_;intro k fr;obtain l:Q _ (S.g ⟨18,k⟩<|G<|E []) T A:=h.N (.b [])<|fr 18;apply gg;lk;refine l.qO<|qF l.h l.y hi (mG F.cI<|pT<|qj B _) λy! bs p e i o=>⟨lm o H,bc (p.w.list i) λqs d=>?_⟩;have y:O qs<=18:=by rw[<-d.E,ba] at o;exact o
 have f:∀b∈bs,b<18/\(14<=b->b=14+q):=λb z=>⟨i b z,λr=>by
  obtain this:aQ (bW bs) b=true:=by rw[fF];exact bA z
  rw[e,fD,jR<|eR F.1<|pw r,jD] at this;exact(Y this).symm⟩
 refine aO d.E (Xx hq l (λc C=>⟨(d.h c C).1,f c.2<|aO d.bs<|dU C⟩) dS M (by show 0+O qs<=900;exact s6 y H) λs x5 x6 os x L m=>pg H x.v<|db ?_);lk;have m:os.map (·.2)=bs.map (rA mq):=by rw[m,<-d.bs,kM];rfl
 refine x.sF.qO (DL (.inl H) x.sF L (bG (by rw[<-ba,m,ba,<-d.bs,ba];exact y) H) λv g j h4 le D I=>?_);rw[m,Xw F.1 f e] at D I;exact X v g j h4 le D I
noncomputable def GS.j(S:GS)(fo fa:List<|Nat×Nat):GS:={S with V:={S.V with h:=fo,a:=fa}}
structure Wt(P:List Nat)(R:Nat->List cQ)(x!:Nat)(B D:Nat->Option Nat)(w:WD):Prop where
 fS:∀p∈P,w.fS p=u8 R B P x! p
 g:∀p∈P,w.g p=tN R p
 b:∀p,B p=(w.bound p).map mc
 d:∀p,D p=(w.a p).map mc
 CE:∀p t,w.bound p=some t->xD P t
 Ph:∀p t,w.a p=some t->xD P t
structure Se(σ:av)(S:GS)(T:bP)(A:List<|Nat×Bool)(R:Nat->List cQ)(B D:Nat->Option Nat)(x!:Nat)(now:cJ)(fl:Nat->Bool):Prop where
 u:Sd σ S T A R B D x!
 h:eC S.D.a S.V.h λp x=>sn T x (now p)
 a:eC S.D.a S.V.a λp x=>x.isSome=fl p
 st:S.D.e+(cF S.D.a now:Nat)<=50
theorem Se.gU(g:Se σ S T A R B D x! now fl)(q:Q σ' S T' A)(le:T.Le T'):Se σ' S T' A R B D x! now fl:=⟨g.u.gU q le,g.h.fX λb b b x=>x.F le,g.a,g.st⟩
def uD(n k:Nat)(R:Nat->List cQ)(B D:Nat->Option Nat)(x!:Nat)(w:WD):Prop:=
 ∀(σ:av)(S:GS)(T:bP)(A:List<|Nat×Bool)(now:cJ)(fl:Nat->Bool)(p:Nat)(K:AV->av->Prop),Se σ S T A R B D x! now fl->Wt S.D.a R x! B D w->O S.D.a<=10->p∈S.D.a->cF S.D.a now<=k->
  (∀σ' T' fo fa eN(u:Nat),Se σ' (S.j fo fa) T' A R B D x! (cc w k now p).2 eN->T.Le T'->Is T' u (cc w k now p).1->Nm (cc w k now p).1->(∀q,dA (now q)=U->eN q=fl q)->K (.a u) σ')->W n 78 [.d S.L.g,.a p] σ K
noncomputable def GS.h(S:GS)(l:a7)(es:List<|AV×AV):GS:={S with X:=(l,.a 0 es)::S.X}
def Q.qv(g:Q σ (S.h l es) T A):σ l=I (.a 0 es):=g.P (B:=[]) H
def Q.wp(g:Q σ (S.h l es) T A)(us):Q (σ.u l<|.a 0 us) (S.h l us) T A:=g.wO (B:=[]) (.a 0 us) H
def Q.wu(g:Q σ (S.h l es) T A):Q (σ.r l) S T A:=g.R (B:=[]) H
def DF{tm}(ok:uD n k R B D x! w)(F:4<=n)(h:Se σ S T A R B D x! now fl)(X:Wt S.D.a R x! B D w)(hl:O S.D.a<=10)(ht:xD S.D.a tm)(hi:Is T t<|mc tm)(hc:cF S.D.a now<=k)(M:∀σ' T' fo fa eN u,Se σ' (S.j fo fa) T' A R B D x! (dq (cc w k) now tm).2 eN->T.Le T'->Is T' u (dq (cc w k) now tm).1->Nm (dq (cc w k) now tm).1->(∀q,dA (now q)=U->eN q=fl q)->K (.a u) σ'):
 W (n+1) 74 [.d S.L.g,.a t] σ K:=by
 obtain⟨n,rfl⟩:∃j,n=j+4:=⟨n-4,(tH F).symm⟩;obtain lt:=ht.cI h.u.h4;obtain l:=ht.nm;obtain E:=ht.a;obtain⟨z_,nm⟩:=tm;refine bq [.d S.L.g,.a t,.q,.q] H<|cq ?_;intro j fr;have e:Q _ (S.h ⟨49,j⟩ []) T A:=h.u.q.N (.a 0 [])<|fr 49;apply gg;lk;refine aU e.j H (fY e.st.w H<|e.q<|EE (n:=n+2) e.h e.y hi lt λps nd pl p=>⟨by rw[ba];exact aV pl<|Y H,?_⟩);clear F ht lt fr pl;rcases nm with _|q
 .have:=Sf.mpr λq hq=>by
   exact dj<|aO (jR<|eR l.1<|RP (Y H)<|jE ..)<|((p q).mp hq).2
  subst this;exact vw<|p7 H e.qv<|db ⟨jQ _,M _ T S.V.h S.V.a fl t (h.gU e.wu<|.B T) (.B T) hi l λm m=>H⟩
 .have s:=E q H;have G:=h.u.h4 q s;obtain this:ps=[q]:=by
   obtain mem:∀x,x∈ps↔x=q:=λx=>by
    rw[p x,show mc (z_,I q)=z_|||2^(14+q) from H,fD,jR<|eR l.1<|RP (Y H)<|jE ..,we,jD,dT];exact⟨λz=>(RY<|z.2.symm.trans<|qk ..),λz=>⟨ay z G,ay z<|qk ..⟩⟩
   match ps,nd,mem with
   |[],_,mem=>exact aP ((mem q).mpr H)<|jU
   |[x],_,mem=>rw[(mem x).mp aZ]
   |x::y::r,nd,mem=>
    obtain e1:=(mem x).mp aZ;obtain L:=(mem y).mp<|bK _ aZ;exact aP (by rw[e1,<-L];exact aZ) (fh.mp nd).1
  clear E nd p;subst this;refine fj<|bV ?_;refine aU e.j H<|uj ?_;rw[show decide (q∈(S.h ⟨49,j⟩ []).D.a)=U from bA s];refine bw<|iY ?_;lk;obtain N:Se _ (S.h ⟨49,j⟩ []) T A R B D x! now fl:=⟨⟨e,h.u.gi,h.u.h4,h.u.r,h.u.a,h.u.aT,h.u.e⟩,h.h,h.a,h.st⟩;refine ok _ (S.h ⟨49,j⟩ []) T A now fl q _ N X hl s hc λg i fo fa eN u d le P V Z=>?_;obtain C:Q g ((S.j fo fa).h ⟨49,j⟩ []) i A:=d.u.q;refine vg C.qv H (jQ _)<|aw<|aw ⟨aE,vw<|p7 H (C.wp _).qv<|db ?_⟩;obtain o:=(C.wp<|mV [] (.a (q:Nat))<|.a (u:Nat)).wu;lk;refine⟨bU H,?_⟩;refine aU o.j H<|fY o.st.w H<|aU o.j H ?_;refine Xs (n:=n) (S:=S.j fo fa) o ((show Is T t (z_|||2^(14+q)) from hi).F le) G l P V λv b f h4 c hv nv=>?_;obtain h5:Se b (S.j fo fa) f A R B D x! (cc w k now q).2 eN:=⟨⟨h4,d.u.gi.F c,d.u.h4,d.u.r.F c,d.u.a.F c,d.u.aT,d.u.e⟩,d.h.fX λm m m x=>x.F c,d.a,d.st⟩;exact M b f fo fa eN v h5 (le.q c) hv nv Z
def a0G(v:Nm y_):∀{qs x6 σ T K},Q σ S T A->(∀c∈qs,bB T c.1 c.2/\c.2<14)->Is T u y_->
 (∀σ' T',Q σ' S T' A->T.Le T'->K (G<|E<|qs.filter λc=>bn (2^c.2) y_) σ')->
 iJ (n8 (W<|n+6)<|I<|.A (.p V0 11) 2 [V6,V4]) (a6 (W<|n+6) V6) (.B 6) dc [.d S.L.g,x1,x2,x3,.a u,x5,x6] (G<|E qs) σ K:=by
 intro qs;induction qs with
 |nil=>
  intro x6 σ T K h _ _ b;exact b σ T h<|.B T
 |cons c qs l=>
  intro x6 σ T K h e i b;rw[jf] at b;apply qU;lk;refine aU h.j H<|fY h.st.q H<|zt h (.B (e c aZ).1) i (L1 c.2 (e c aZ).2) v λf j m br=>?_;have rest:=λ{o:List AV->av->Prop} g=>l (x6:=x6) (K:=o) m (λy k=>⟨(e y<|bK _ k).1.F br,(e y<|bK _ k).2⟩) (i.F br) g;cases z:bn (2^c.2) y_ with
  |true=>
   rw[z] at b;refine bw ⟨aE,rest λσ' T' h' d=>b σ' T' h'<|br.q d⟩
  |false=>
   rw[z] at b;exact bd ⟨aE,rest λσ' T' h' d=>b σ' T' h'<|br.q d⟩
def qw(w:WD)(rp:cJ->Nat->Nat×cJ)(p d:Nat)(now:cJ):Nat×cJ:=match w.bound p with
 |none=>(d,now)
 |some b=>(if bn d (dq rp now b).1 then d else nR w p d (dq rp now b).1,(dq rp now b).2)
def Gf(g:d<2^14):aQ (p6 d y_) b=(aQ d b&&bn (2^b) y_):=by
 rw[fF];rw[gu,dT,cG,ty<|m3 g<|Y H,eB] at⊢
def YL:bW bs=0↔bs=[]:=by
 constructor
 .intro h;rcases bs with _|⟨b,r⟩;.rfl
  .have:aQ (bW<|b::r) b=true:=by rw[fF];exact bA aZ
   obtain this:=(h ..)▸this;obtain this:=(lX ..)▸this;exact dj this
 .rintro rfl;rfl
def S6{B:Nat->Option Nat}(ok:uD (n+8) k R B D x! w)(h:Se σ S T A R B D x! now fl)(hw:Wt S.D.a R x! B D w)(hl:O S.D.a<=10)(hp:p∈S.D.a)(hi:Is T t d)(M:Nm d){ov:Int}(ho:qe T ov (w.fS p).2)(j:cF S.D.a now<=k)(hK:∀σ' T' fo fa eN(u:Nat),Se σ' (S.j fo fa) T' A R B D x! (qw w (cc w k) p d now).2 eN->T.Le T'->Is T' u (qw w (cc w k) p d now).1->Nm (qw w (cc w k) p d now).1->(∀q,dA (now q)=U->eN q=fl q)->K (.a u) σ'):
 W (n+10) 77 [.d S.L.g,.a p,.a t,.a ov] σ K:=by
 apply bq [.d S.L.g,.a p,.a t,.a ov,.q,.q,.q] H;have cell:=h.u.r.b p hp;rw[hw.b p] at cell;unfold qw at hK;apply dP;lk;refine gW (dI p)<|h.u.q.q<|aU h.u.q.h.h H ?_;rcases hb:w.bound p with _|b
 .rw[hb] at cell hK;cases cell with
  |none j=>exact eL h.u.q.h.d h.u.r.c j<|iw (Y H)<|bw<|hK σ T S.V.h S.V.a fl t h (.B T) hi M λζ ζ=>H
 .rw[hb] at cell hK;dsimp only at hK;cases cell with
  |@some ub _ a3 c2 c5 c6=>
   have a0:∀{P:AV->Prop},P (.a ub)->gL σ (.d S.tl.d) (.a p) P:=eL h.u.q.h.d h.u.r.c a3;refine a0<|gW (dI ub)<|eh (Cr h.u.q.y hi)<|bX ?_;lk;refine h.u.q.q<|aU h.u.q.h.h H<|a0<|DF ok (jE _ _) h hw hl (hw.CE p b hb) c2 j λc3 a1 fo fa eN ur h1 br F nr hf=>dP ?_;lk;obtain q1:=h1.u.q;have a4:=hi.F br;generalize dq (cc w k) now b=C at hK h1 F nr;have bD:∀{σ₂:av}{l:bP}{v m:Nat},Q σ₂ (S.j fo fa) l A->a1.Le l->Is l v m->Nm m->m=(if bn d C.1 then d else nR w p d C.1)->K (.a v) σ₂:=λ{σ₂ l v m} N f V nv e=>by
    subst e;exact hK σ₂ l fo fa eN v (h1.gU N f) (br.q f) V nv hf
   refine aU q1.j H<|fY q1.st.q H<|zt q1 a4 F M nr λσ₂ l N f=>?_;rcases lt:bn d C.1 with _|_
   .rw[lt] at bD;refine bd<|bV ?_;have tail:∀{r:av}{E:bP}{x5 x6:AV},Q r (S.j fo fa) E A->a1.Le E->(w.g p&&decide (p6 d C.1≠0))=am->
     wB (n+9) [.d (.u (.h .ge V3 N0)<|.A (.p V0 11) 2 [V3,V4]) [.c V3] [],.c V4] [.d S.L.g,.a p,.a t,.a ov,.a ur,x5,x6] r (rK K):=λ{r E x5 x6} L g ew=>by
     have eo:nR w p d C.1=match(w.fS p).2 with|some o=>if bn o C.1 then o else C.1|none=>C.1:=Z<|ew▸eS
     rw[eo] at bD;have a8:=(ho.F br).F g;apply dP;lk;generalize(w.fS p).2=oo at a8 bD;cases a8 with
     |none=>
      exact qR (Y H)<|bd<|f7<|bD L g (F.F g) nr H
     |@some tv mv iv nv=>
      refine pe (dI tv)<|aU L.j H<|fY L.st.q H<|zt L iv (F.F g) nv nr λa5 a9 q4 X=>?_;rcases z:bn mv C.1 with _|_;.exact bd<|f7<|bD q4 (g.q X) ((F.F g).F X) nr (Z<|z▸eS).symm
      .exact bw<|bD q4 (g.q X) (iv.F X) nv (ak z).symm
    apply Qy (S:=S.j fo fa) (h1.u.gU N f) hp;rw[<-(hw.g p hp)];cases wi:w.g p with
    |false=>exact bd<|aw<|tail N f<|by rw[wi];rfl
    |true=>
     refine bw<|bX ?_;lk;refine N.q<|qF N.h N.y (a4.F f) M.cI λy! bs pt e c4 G=>⟨lm G H,bc (pt.w.list c4) λqs y=>?_⟩;have a2:∀c∈qs,c.2<14:=λc j=>tx (ay e M.1) c.2<|aO y.bs<|dU j;refine y.E▸a0G (S:=S.j fo fa) nr N (λc j=>⟨(y.h c j).1,a2 c j⟩) (F.F f) λr E L g=>bV ?_;have I:bW ((qs.filter λc=>bn (2^c.2) C.1).map (·.2))=p6 d C.1:=by
      apply km;intro i;rw[Gf M.1,fF,<-e,fF,gu,dT,eB,dT,<-y.bs];constructor
      .refineλhx=>aA (bp.mp hx) λc j s=>?_
       subst s;exact⟨dU (cG.mp j).1,(cG.mp j).2⟩
      .rintro⟨hx,h2⟩;refine aA (bp.mp hx) λc j s=>?_;subst s;exact dU<|cG.mpr ⟨j,h2⟩
     have b9:O (qs.filter λc=>bn (2^c.2) C.1)<=18:=by
      apply aV (k9 ..);obtain G:=jg (y.E ..)▸G;obtain G:=(ba ..)▸G;exact G
     refine Je (vQ b9) (λne=>db ?_) λen=>aw<|aw<|tail L (f.q g) ?_
     .lk;have hz:p6 d C.1≠0:=λz=>by
       rw[<-I,YL] at z;exact ne<|by rw[lF.mp z];rfl
      obtain nh:fp (p6 d C.1)=p6 d C.1:=EM M.cI (λi z=>by rw[Gf M.1,eB] at z;exact z.1) M.g;obtain c1:p6 d C.1<2^14:=by
       exact I▸rI λb hb=>by
        refine aA (bp.mp hb) λc j s=>?_;subst s;exact a2 c (cG.mp j).1
      refine L.q<|pM (.inl H) L.h L.y (xz λc j=>⟨(y.h c (cG.mp j).1).1.F g,(y.h c (cG.mp j).1).2⟩) (λx hx=>?_) (lm b9 H) λv a5 a9 up V=>?_;.refine aA (bp.mp hx) λb hb s=>?_;subst s;refine aA (bp.mp hb) λc j s=>?_;subst s;exact pT (y.h c (cG.mp j).1).2
      .obtain V:=(w0 ..)▸V;obtain V:=(I ..)▸V;obtain V:=(nh ..)▸V;exact bD (L.F up) (f.q<|g.q up.c) V ⟨c1,by rw[<-(lI c1).1];exact nh⟩ (ak<|by rw[wi,bA hz];rfl).symm
     .obtain I:=(lF.mp<|lF.mp en)▸I;rw[wi,<-I];rfl
   .obtain bD:=lt▸bD;obtain bD:=(ak H)▸bD;exact bw<|bD N f (a4.F f) M H
def Q.vI(g:Q σ S T A):σ S.D.h=I (.a 0<|dN S.V.h):=g.st.r.F (k:=27) H
def Q.zw(g:Q σ S T A):σ S.L.a=I (.a 0<|dN S.V.a):=g.st.r.F (k:=18) H
def Q.J1(g:Q σ S T A)(B):Q (σ.u S.D.h<|.a 0<|dN B) {S with V:={S.V with h:=B}} T A:=⟨g.st.set _ 27 H H H H,g.ask⟩
def Q.J2(g:Q σ S T A)(B):Q (σ.u S.L.a<|.a 0<|dN B) {S with V:={S.V with a:=B}} T A:=⟨g.st.set _ 18 H H H H,g.ask⟩
def Sd.h(g:Sd σ S T A R B D x!)(q:Q σ' (S.j fo fa) T A):Sd σ' (S.j fo fa) T A R B D x!:=
 ⟨q,⟨g.gi.e,g.gi.f,g.gi.c,g.gi.az,g.gi.B,g.gi.i⟩,g.h4,g.r,g.a,g.aT,g.e⟩
noncomputable def wP(fl:Nat->Bool)(p:Nat)(b:Bool):Nat->Bool:=λq=>if q=p then b else fl q
def Ed(h:Se σ S T A R B D x! now fl)(g:p∈S.D.a)(hi:Is T t m)(j:Nm m):Se (σ.u S.D.h<|.a 0<|dN<|st S.V.h p t) (S.j (st S.V.h p t) S.V.a) T A R B D x! (bN now p m) fl:=by
 refine⟨h.u.h<|h.u.q.J1 _,h.h.st g ?_ λq b hq x c=>?_,h.a,?_⟩;.rw[g8];exact⟨hi,j⟩
 .rw[jI hq];exact c
 .have:=GX (P:=S.D.a) (now:=now) (now':=λq=>if q=p then I ((now p).getD m) else now q) λq v e=>by
   by_cases z:q=p;.rw[ak z,<-z,e];rfl
   .rw[Z z];exact e
  obtain e:cF S.D.a (bN now p m)=cF S.D.a λq=>if q=p then I ((now p).getD m) else now q:=by
   unfold cF;congr 1;refine Io λq b=>?_;by_cases z:q=p;.rw[z,g8];show _=(if p=p then I ((now p).getD m) else now p).isNone;rw[ak H];rfl
   .rw[jI z];show _=(if q=p then I ((now p).getD m) else now q).isNone;rw[Z z]
  exact jW (a7f (iH.mpr<|aV (gG e) ‹_›) _) h.st
def J9(h:Se σ S T A R B D x! now fl)(g:p∈S.D.a):Se (σ.u S.L.a<|.a 0<|dN<|st S.V.a p u) (S.j S.V.h<|st S.V.a p u) T A R B D x! now<|wP fl p U:=⟨h.u.h<|h.u.q.J2 _,h.h,h.a.st g ((ak H).symm) λq c hq x b=>b.trans (Z hq).symm,h.st⟩
def ny(w:WD)(rp:cJ->Nat->Nat×cJ)(now:cJ)(p:Nat):Nat×cJ:=match w.a p with
 |some d=>dq rp now d
 |none=>match w.bound p with|some b=>dq rp now b|none=>(4096,now)
noncomputable def xu(w:WD)(p:Nat):Bool:=(w.a p).isNone&&dA (w.bound p)
def IY(g:bF T):Is T 1 4096/\Nm 4096:=⟨.B<|g.h (b:=12)<|Y H,Y H,Y H⟩
def a1h(ok:uD (n+8) k R B D x! w)(h:Se σ S T A R B D x! now fl)(j:Wt S.D.a R x! B D w)(M:O S.D.a<=10)(v:p∈S.D.a)(X:cF S.D.a now<=k)(hn:dA (now p)=U)(F:fl p=am)(g:∀σ' T' fo fa eN u,Se σ' (S.j fo fa) T' A R B D x! (ny w (cc w k) now p).2 eN->T.Le T'->Is T' u (ny w (cc w k) now p).1->Nm (ny w (cc w k) now p).1->(∀q,dA (now q)=U->eN q=wP fl p (xu w p) q)->K (.a u) σ'):
 W (n+10) 75 [.d S.L.g,.a p] σ K:=by
 apply bq [.d S.L.g,.a p,.q] H;have cd:=h.u.r.d p v;have cb:=h.u.r.b p v;rw[j.d p] at cd;rw[j.b p] at cb;unfold ny xu at g;have t:wP fl p am=fl:=by
  funext q;by_cases z:q=p;.rw[z,F];exact ak H
  .exact Z z
 refine bX<|h.u.q.q<|dP ?_;lk;refine pe (dI p)<|aU h.u.q.h.h H ?_;rcases hd:w.a p with _|d
 .rw[hd] at cd g;cases cd with
  |none c=>
   refine eL h.u.q.h.g h.u.r.j c<|qR (Y H)<|bV ?_;lk;refine pe (dI p)<|aU h.u.q.h.h H ?_;rcases r:w.bound p with _|b
   .rw[r] at cb g;cases cb with
    |none f=>
     exact eL h.u.q.h.d h.u.r.c f<|qR (Y H)<|bd<|aw<|db (bY (IY h.u.q.y) λx un=>g σ T S.V.h S.V.a fl 1 h (.B T) x un λq V=>by
      rw[t])
   .rw[r] at cb g;cases cb with
    |@some y _ f m C E=>
     have na:=λe=>(j.CE p b r).any<|(Qx h.u.q.y m).mp e;refine eL h.u.q.h.d h.u.r.c f<|pe (dI y)<|aU h.u.q.h.h H<|eL h.u.q.h.d h.u.r.c f<|i9<|bR na▸bw (iY ?_);lk;refine aU h.u.q.j H<|me h.u.q.zw (h.a.aT h.u.h4)<|db ?_;obtain l:=J9 h v;lk;refine aU l.u.q.h.h H<|eL l.u.q.h.d l.u.r.c f<|DF (S:=S.j S.V.h<|st S.V.a p 1) ok (jE _ _) l j M (j.CE p b r) m X g
 .rw[hd] at cd g;cases cd with
  |@some G _ c s I L=>
   refine eL h.u.q.h.g h.u.r.j c<|pe (dI G)<|aU h.u.q.h.h H<|eL h.u.q.h.g h.u.r.j c<|DF ok (jE _ _) h j M (j.Ph p d hd) s X λi o fo fa eN u l le N P Q=>g i o fo fa eN u l le N P λq hq=>?_;rw[t];exact Q q hq
def JV(h:Se σ S T A R B D x! now fl)(g:p∈S.D.a)(e:now p=I m)(j:∀u,Is T u m->Nm m->K (.a u) σ):W (n+1) 78 [.d S.L.g,.a p] σ K:=by
 refine bq [.d S.L.g,.a p,.q,.q,.q] H<|dP ?_;lk;obtain b:=h.h.b p g;rw[e] at b;refine aU h.u.q.j H<|uh h.u.q.st.vJ H<|bd<|dP ?_;lk;refine aU h.u.q.j H<|s7 h.u.q.vI ?_;rcases z:lk S.V.h p with _|u;.rw[z] at b;exact b.elim
 .rw[z] at b;exact bw<|aU h.u.q.j H<|ve h.u.q.vI z<|j u b.1 b.2
def yr:bN (bN now p m) p m'=bN now p m':=by
 funext q;by_cases z:q=p;.rw[z,g8,g8]
 .rw[jI z,jI z,jI z]
def Vg(e:now p=I m):bN now p m=now:=by
 funext q;by_cases z:q=p;.rw[z,g8,e]
 .rw[jI z]
def wH:List PS:=[.m (.p V0 43) V1 V2,
 .g 4 (.D (.h .a V1<|.p V0 24) V2<|.j 77 [V0,V1,V2,V3]),
 .d (.u (.h .ne V4 V2)<|.h .ne V4 V3)
  [.m (.p V0 24) V1 V2]
  [],
 .m (.p V0 43) V1 V4,
 .p V0 44 .sub N1,
 .c V4]
noncomputable def GS.v(S:GS)(s:Int):GS:={S with D:={S.D with e:=s}}
def DV{s}(g:S.D.e=s+1)(h:Se σ S T A R B D x! now fl)(j:p∈S.D.a)(hi:Is T u m)(v:Nm m)(F:s+(cF S.D.a (bN now p m):Nat)<=50)(M:∀σ' fo,Se σ' ((S.v s).j fo S.V.a) T A R B D x! (bN now p m) fl->K (.a u) σ'):
 wB n (wH.drop 3) [.d S.L.g,.a p,x2,x3,.a u] σ (rK K):=by
 apply iY;lk;refine aU h.u.q.j H<|me h.u.q.vI (h.h.aT h.u.h4)<|vi ?_;have b:=Ed h j hi v;lk;exact aU b.u.q.j H ⟨H,rE<|mL b.u.q.j H<|f7<|M _ (st S.V.h p u) ⟨⟨(b.u.q.oh {S.D with e:=s} H<|by rw[g,xZ];rfl),b.u.gi,b.u.h4,b.u.r,b.u.a,b.u.aT,b.u.e⟩,b.h,b.a,F⟩⟩
def UB{s}(j:S.D.e=s+1)(h:Se σ S T A R B D x! now fl)(g:p∈S.D.a)(hi:Is T u m)(v:Nm m)(F:s+(cF S.D.a (bN now p m):Nat)<=50)(M:∀σ' fo fa eN,Se σ' ((S.v s).j fo fa) T A R B D x! (bN now p m) eN->(∀q,q≠p->eN q=fl q)->K (.a u) σ'):
 wB n (wH.drop 2) [.d S.L.g,.a p,.a t,.a o,.a u] σ (rK K):=by
 apply kA;lk;apply i9;have skip:wB n (wH.drop 3) [.d S.L.g,.a p,.a t,.a o,.a u] σ<|rK K:=DV j h g hi v F λσ' fo h'=>M σ' fo S.V.a fl h' λb b=>H;cases decide ((u:Int)=t) with
 |true=>exact bd<|bd<|aw skip
 |false=>
  refine bw<|i9 ?_;cases decide (u=o) with
  |true=>exact bd<|aw skip
  |false=>
   refine bw<|iY ?_;lk;exact aU h.u.q.j H<|me h.u.q.zw (h.a.aT h.u.h4)<|aw<|DV (S:=S.j S.V.h<|st S.V.a p t) j (J9 h g) g hi v F λσ' fo h'=>M σ' fo (st S.V.a p t) _ h' λq hq=>Z hq
def JF{s}(ok:uD (n+8) k R B D x! w)(hS:S.D.e=s+1)(h:Se σ S T A R B D x! now fl)(hw:Wt S.D.a R x! B D w)(hl:O S.D.a<=10)(F:p∈S.D.a)(hi:Is T t d)(hm:Nm d)(ho:qe T o (w.fS p).2)(hn:dA (now p)=U)(hc:cF S.D.a now<=k)(M:fl p=am)(X:∀σ' T' fo fa eN u,Se σ' ((S.v s).j fo fa) T' A R B D x! (finish w (cc w k) p d now).2 eN->T.Le T'->Is T' u (finish w (cc w k) p d now).1->Nm (finish w (cc w k) p d now).1->(∀q,q≠p->dA (now q)=U->eN q=fl q)->K (.a u) σ'):
 wB (n+10) wH [.d S.L.g,.a p,.a t,.a o,x4] σ (rK K):=by
 apply iY;lk;refine aU h.u.q.j H<|me h.u.q.vI (h.h.aT h.u.h4)<|cq ?_;have m:=Ed h F hi hm;lk;refine aU m.u.q.j H<|s7 m.u.q.zw ?_;rw[show dA (lk (S.j (st S.V.h p t) S.V.a).V.a p)=am from(m.a.b p F).trans M];have c:∀now',(∀q v,now q=I v->q≠p->now' q=I v)->dA (now' p)=U->cF S.D.a now'<=cF S.D.a now:=λnow' r g=>by
  unfold cF;rw[<-Av,<-Av];refine Sg λx ζ i=>?_;by_cases z:x=p
  .rw[z] at i;cases y:now' p with
   |none=>rw[y] at g;exact dj g
   |some v=>rw[y] at i;exact dj i
  .cases y:now x with
   |none=>rfl
   |some v=>rw[r x v y z] at i;exact dj i
 refine bd (S6 ok m hw hl F hi hm ho (aV (c _ (λq v e z=>(jI z).trans e)<|by rw[g8];rfl) hc) λC j fo fa eN u h2 E G L hf=>?_);have l:∀m',cF S.D.a (bN (qw w (cc w k) p d<|bN now p d).2 p m')<=cF S.D.a now:=λm'=>c _ (λq v e z=>by
  rw[jI z];unfold qw;cases w.bound p with
  |none=>exact(jI z).trans e
  |some b=>exact m8 (sN w k)<|(jI z).trans e) (by rw[g8];rfl)
 rw[(show finish w (cc w k) p d now=((qw w (cc w k) p d<|bN now p d).1,bN (qw w (cc w k) p d<|bN now p d).2 p (qw w (cc w k) p d<|bN now p d).1) from by
  unfold finish qw;cases w.bound p with
  |none=>
   rw[yr]
  |some b=>
   show(if bn d _ then(d,_) else _:Nat×cJ)=(if bn d _ then d else _,bN _ p<|if bn d _ then d else _);by_cases z:bn d (dq (cc w k) (bN now p d) b).1=U;.rw[ak z,ak z,Vg<|m8 (sN w k) g8]
   .rw[Z z,Z z])] at X
 generalize qw w (cc w k) p d (bN now p d)=N at h2 G L X l;refine UB (S:=(S.j (st S.V.h p t) S.V.a).j fo fa) hS h2 F G L (by have:=l N.1;show s+(cF S.D.a (bN N.2 p N.1):Nat)<=50;exact jW (a7g (hS▸a7d (Ay s))<|iH.mpr this) h.st) λf P Q V h3 W=>X f j P Q V u h3 E G L λq hq Y=>?_;rw[W q hq,hf q<|ay (jI hq) Y]
def UA{s}(F:S.D.e=s+1)(h:Se σ S T A R B D x! now fl)(g:p∈S.D.a)(hi:Is T t m)(v:Nm m)(M:s+(cF S.D.a (bN now p m):Nat)<=50)(j:fl p=U)(X:∀σ' fo,Se σ' ((S.v s).j fo S.V.a) T A R B D x! (bN now p m) fl->K (.a t) σ'):
 wB (n+10) wH [.d S.L.g,.a p,.a t,.a o,x4] σ (rK K):=by
 apply iY;lk;refine aU h.u.q.j H<|me h.u.q.vI (h.h.aT h.u.h4)<|cq ?_;have b:=Ed h g hi v;lk;refine aU b.u.q.j H<|s7 b.u.q.zw ?_;rw[show dA (lk (S.j (st S.V.h p t) S.V.a).V.a p)=U from(b.a.b p g).trans j];refine bw<|kA ?_;lk;apply i9;rw[bA H];refine bd (bd<|aw<|DV (S:=S.j (st S.V.h p t) S.V.a) F b g hi v (by rw[yr];exact M) λσ' fo h'=>X σ' fo ?_);rw[yr] at h';exact h'
def Eb(ok:uD (n+8) k R B D x! w)(hk:k<=9):uD (n+11) (k+1) R B D x! w:=by
 intro σ S T A now fl p K h hw hl o hc g;rcases e:now p with _|m
 .have er:cc w (k+1) now p=match(w.fS p).1 with
   |some d=>finish w (cc w k) p d<|bN now p 4096
   |none=>match w.a p with
    |some d=>finish w (cc w k) p (dq (cc w k) (bN now p 4096) d).1 (dq (cc w k) (bN now p 4096) d).2
    |none=>match w.bound p with
     |none=>(4096,bN now p 4096)
     |some b=>((dq (cc w k) (bN now p 4096) b).1,bN (dq (cc w k) (bN now p 4096) b).2 p (dq (cc w k) (bN now p 4096) b).1):=by
   show(match now p with|some m=>(m,now)|none=>_:Nat×cJ)=_;rw[e]<;>rfl
  obtain g:=er▸g;obtain i:=h.h.b p o;obtain i:=e▸i;obtain c1:=PT o e;apply bq [.d S.L.g,.a p,.q,.q,.q] H;obtain hf:=h.u.q.st.vJ;refine dP<|aU h.u.q.j H<|uh hf H<|bd<|dP<|aU h.u.q.j H<|s7 h.u.q.vI ?_;rw[(show lk S.V.h p=C from by
   rcases z:lk S.V.h p with _|t;.rfl
   .obtain i:=z▸i;exact i.elim)]
  refine bd<|bV ?_;lk;refine aU h.u.q.j H<|qR (zh (jW (Int.le_add_of_nonneg_right<|dI _) h.st) H)<|aw<|vi ?_;lk;refine aU h.u.q.j H ⟨H,om<|mL h.u.q.j H<|iY ?_⟩;obtain q1:=h.u.q.oh {S.D with e:=S.D.e+1} H H;lk;refine aU q1.j H<|me q1.vI (h.h.aT h.u.h4)<|ia ?_;obtain q2:=q1.J1<|st S.V.h p 1;lk;refine aU q2.j H<|Ez q2.zw (h.a.aT h.u.h4)<|tW<|bY (IY h.u.q.y) λui un=>?_;have h3:Se _ ((S.v<|S.D.e+1).j (st S.V.h p 1)<|dl S.V.a p) T A R B D x! (bN now p 4096)<|wP fl p am:=
   ⟨⟨q2.J2<|dl S.V.a p,⟨h.u.gi.e,h.u.gi.f,h.u.gi.c,h.u.gi.az,h.u.gi.B,h.u.gi.i⟩,h.u.h4,h.u.r,h.u.a,h.u.aT,h.u.e⟩,h.h.st o (by rw[g8];exact⟨ui,un⟩) (λq ζ hq x hx=>by rw[jI hq];exact hx),
    h.a.j ((ak H).symm) (λq ζ hq x hx=>hx.trans (Z hq).symm),by show S.D.e+1+(cF S.D.a (bN now p 4096):Nat)<=50;exact Z9 c1 h.st⟩
  lk;refine a3T (S:=(S.v<|S.D.e+1).j (st S.V.h p 1)<|dl S.V.a p) h3.u o hl λa0 W a b q4 X ha hb=>⟨H,?_⟩;lk;have h4:=h3.gU q4 X;rw[show u8 R B ((S.v<|S.D.e+1).j (st S.V.h p 1)<|dl S.V.a p).D.a x! p=w.fS p from(hw.fS p o).symm] at ha hb;obtain V:=sN w k;have N:=H3<|aV c1 hc;have bD:∀{σ':av}{T':bP}{fo fa:List<|Nat×Nat}{eN:Nat->Bool}{u:Nat}{r:Nat×cJ},Se σ' (S.j fo fa) T' A R B D x! r.2 eN->W.Le T'->Is T' u r.1->Nm r.1->(∀q,q≠p->dA (now q)=U->eN q=fl q)->
   (∀σ' T' fo fa eN u,Se σ' (S.j fo fa) T' A R B D x! r.2 eN->T.Le T'->Is T' u r.1->Nm r.1->(∀q,dA (now q)=U->eN q=fl q)->K (.a u) σ')->K (.a u) σ':=λ{σ' T' fo fa eN u r} a1 le hi hm hf g=>
   g σ' T' fo fa eN u a1 (X.q le) hi hm λq hq=>hf q ((λq hq z=>by obtain hq:=z▸hq;obtain hq:=e▸hq;exact dj hq) q hq) hq
  have f1:dA (bN now p 4096 p)=true:=by rw[g8];rfl
  have l:∀q,q≠p->dA (now q)=U->dA (bN now p 4096 q)=true:=λq hq s=>by rw[jI hq];exact s
  generalize ho:(w.fS p).1=o1 at ha g;cases ha with
  |@some tv mv iv nv=>
   apply bV;lk;refine gW (dI tv)<|aw<|JF (S:=(S.v<|S.D.e+1).j (st S.V.h p 1)<|dl S.V.a p) ok H h4 hw hl o iv nv hb f1 N (ak H) λσ' T' fo fa eN u y G E F I=>bD y G E F (λq hq s=>(I q hq<|l q hq s).trans<|(λq=>Z) q hq) g
  |none=>
   refine bV ?_;lk;refine iw (Y H)<|bX<|a1h (S:=(S.v<|S.D.e+1).j (st S.V.h p 1)<|dl S.V.a p) ok h4 hw hl o N f1 (ak H) λO a8 fo fa a9 u y G E F I=>aw ?_;obtain L:=λ{σ' T' fo fa eN u r} a le=>bD (σ':=σ') (T':=T') (fo:=fo) (fa:=fa) (eN:=eN) (u:=u) (r:=r) a<|G.q le;obtain f:=I p f1;rw[show wP (wP fl p am) p (xu w p) p=xu w p from ak H] at f;have M:=λq hq s=>(I q<|l q hq s).trans<|(Z hq).trans<|(λq=>Z) q hq;have P:∀q,q≠p->dA (now q)=U->dA ((ny w (cc w k) (bN now p 4096) p).2 q)=true:=λq hq s=>by
    refine bc (v0.mp<|l q hq s) λv i=>?_;unfold ny;cases w.a p with
    |some d=>rw[m8 V i];rfl
    |none=>
     rcases w.bound p with _|b;.show dA (bN now p 4096 q)=U;rw[i];rfl
     .rw[m8 V i];rfl
   obtain j:cF S.D.a (ny w (cc w k) (bN now p 4096) p).2<=k:=by
    refine aV (GX λq v i=>?_) N;unfold ny;rcases w.a p with _|d
    .rcases w.bound p with _|b;.exact i
     .exact m8 V i
    .exact m8 V i
   obtain c:xu w p=am->(∀σ' T' fo fa eN(u:Nat),Se σ' (S.j fo fa) T' A R B D x! (finish w (cc w k) p (ny w (cc w k) (bN now p 4096) p).1 (ny w (cc w k) (bN now p 4096) p).2).2 eN->T.Le T'->Is T' u (finish w (cc w k) p (ny w (cc w k) (bN now p 4096) p).1 (ny w (cc w k) (bN now p 4096) p).2).1->Nm (finish w (cc w k) p (ny w (cc w k) (bN now p 4096) p).1 (ny w (cc w k) (bN now p 4096) p).2).1->(∀q,dA (now q)=U->eN q=fl q)->K (.a u) σ')->
    wB (n+10) wH [.d S.L.g,.a p,.a u,.a b,.q] O (rK K):=λhd g=>
    JF (S:=((S.v<|S.D.e+1).j (st S.V.h p 1)<|dl S.V.a p).j fo fa) ok H y hw hl o E F (hb.F G) (by
    unfold ny;rcases w.a p with _|d
    .rcases w.bound p with _|b;.show dA (bN now p 4096 p)=U;rw[g8];rfl
     .rw[m8 V g8];rfl
    .rw[m8 V g8];rfl) j (f.trans hd) λσ' T' fo fa eN u h6 a2 a3 a4 a5=>L h6 a2 a3 a4 (λq hq s=>(a5 q hq<|P q hq s).trans<|M q hq s) g
   unfold xu at f c;unfold ny at c y E F j;rcases hd:w.a p with _|d
   .rw[hd] at c g f y E F j;rcases Q:w.bound p with _|bb
    .rw[Q] at c g;apply c H;rw[(show finish w (cc w k) p 4096 (bN now p 4096)=(4096,bN now p 4096) from by
      unfold finish;rw[Q];rw[yr])]
     exact g
    .rw[Q] at g f y E F j;dsimp only at g y E F j;generalize dq (cc w k) (bN now p 4096) bb=rr at g y E F j;exact UA (S:=((S.v<|S.D.e+1).j (st S.V.h p 1)<|dl S.V.a p).j fo fa) H y o E F (jW (a7g (a7d<|Ay _)<|iH.mpr (PR λq hq=>by
      by_cases z:q=p;.rw[z,g8];rfl
      .rw[jI z];exact hq)) y.st) f λσ' b9 h6=>L (r:=(rr.1,bN rr.2 p rr.1)) h6 (.B _) E F M g
   .rw[hd] at c g;exact c H g
 .have er:cc w (k+1) now p=(m,now):=by
   show(match now p with|some m=>(m,now)|none=>_:Nat×cJ)=_;rw[e]
  exact JV h o e λu hi hm=>(er▸g) σ T S.V.h S.V.a fl u h (.B T) hi hm λζ ζ=>H
def U9:uD (n+1) 0 R B D x! w:=by
 intro σ S T A now fl p K h j k b c d;obtain e:∃m,now p=I m:=by
  rcases z:now p with _|m;.have:p∈S.D.a.filter λp=>(now p).isNone:=cG.mpr ⟨b,by rw[z];rfl⟩;rw[xW.mp<|a6t.mp c] at this;cases this
  .exact⟨m,H⟩
 refine bc e λm e=>?_;obtain f:cc w 0 now p=(m,now):=by
  show((now p).getD 0,now)=_;rw[e];rfl
 exact JV h b e λu hi g=>(f▸d) σ T S.V.h S.V.a fl u h (.B T) hi g λi i=>H
def JW:uD (n+17) 3 R B D x! w:=Eb (Eb (Eb U9<|Y H)<|Y H)<|Y H
def ju(w:WD)(k:Nat)(now:cJ)(os:List Nat):cJ:=os.foldl (λnow p=>(cc w k now p).2) now
def El(w):∀k now p,(∀h:k=0,dA (now p)=U)->(cc w k now p).2 p=I (cc w k now p).1:=by
 intro e;induction e with
 |zero=>
  refineλnow p h=>bc (v0.mp<|h H) λv f=>?_
  show now p=I ((now p).getD 0);rw[f];rfl
 |succ k g=>
  intro now p _;show(match now p with|some m=>(m,now)|none=>_:Nat×cJ).2 p=I (match now p with|some m=>(m,now)|none=>_:Nat×cJ).1;obtain bD:∀d now',(finish w (cc w k) p d now').2 p=I (finish w (cc w k) p d now').1:=λd now'=>by
   unfold finish;rcases w.bound p with _|b;.exact g8
   .show(if bn d _ then(d,_) else _:Nat×cJ).2 p=I (if bn d _ then(d,_) else _:Nat×cJ).1;by_cases z:bn d (dq (cc w k) (bN now' p d) b).1=U;.rw[ak z];exact m8 (sN w k) g8
    .rw[Z z];exact g8
  rcases c:now p with _|m
  .rcases(w.fS p).1 with _|d
   .rcases w.a p with _|d
    .rcases w.bound p with _|b;.exact g8
     .exact g8
    .exact bD _ _
   .exact bD _ _
  .exact c
def K4(w)(k):∀os now q v,now q=I v->ju w k now os q=I v:=by
 intro os;induction os with
 |nil=>
  exactλb b b h=>h
 |cons o os c=>
  exactλnow q v h=>c _ q v (sN w k now o q v h)
theorem DZ{o u}:∀{a:List<|Nat×α}{b},ks a=ks b->ks (st a o u)=ks (st b o v)
 |[],[],_=>rfl
 |x::a,y::b,h=>by
  injection h with c d
  obtain c:x.1=y.1:=c;rw[wK,wK];by_cases z:x.1=o;.rw[ak z,ak<|c.symm.trans z];exact be (o::·) d
  .rw[Z z,Z λe=>z<|c.trans e];show x.1::ks (st a o u)=y.1::ks (st b o v);rw[c];exact be (y.1::·)<|DZ d
def zC:cF P now<=O P:=k9 ..
def a4Y:∀{os es x2 σ}{S:GS}{T now fl K},Se σ (S.h l<|dN es) T A R B D x! now fl->Wt S.D.a R x! B D w->O S.D.a<=3->(∀o∈os,o∈S.D.a)->O es+O os<=900->(∀e∈es,∃m,now e.1=I m/\Is T e.2 m)->
 (∀σ' T' fo fa eN x2 g,Se σ' ((S.j fo fa).h l<|dN g) T' A R B D x! (ju w 3 now os) eN->T.Le T'->ks g=ks (os.foldl (λe o=>st e o 0) es)->(∀e∈g,∃m,ju w 3 now os e.1=I m/\Is T' e.2 m)->K .none [.d S.L.g,.d l,x2] σ')->
 cu (wB (n+17) Nf) (.B 2) dc (G os) [.d S.L.g,.d l,x2] σ K:=by
 intro os;induction os with
 |nil=>
  intro es x2 σ S T now fl K h _ _ _ _ i j;exact j σ T S.V.h S.V.a fl x2 es h (.B T) H i
 |cons o os k=>
  intro es x2 σ S T now fl K h v p ho y i j;refine fj<|iY ?_;lk;refine JW σ (S.h l<|dN es) T A now fl o _ h v (bG p H) (lM ho) (aV zC p) λf d fo fa fl1 u c br C M N=>?_;obtain z:Q f ((S.j fo fa).h l<|dN es) d A:=c.u.q;refine me z.qv (bG (aV (fA ..) y) H)<|aw ⟨aE,?_⟩;obtain q:Se _ ((S.j fo fa).h l<|dN<|st es o u) d A R B D x! (cc w 3 now o).2 fl1:=⟨⟨z.wp<|dN<|st es o u,c.u.gi,c.u.h4,c.u.r,c.u.a,c.u.aT,c.u.e⟩,c.h,c.a,c.st⟩;refine k (S:=S.j fo fa) q v p (jw ho) (xe (by
   rcases JN u o es with e|⟨_,e⟩;.have:=be O e;obtain this:=(ba ..)▸this;obtain this:=(ba ..)▸this;exact rd<|gG this
   .have:=be O e;rw[ba,eK,ba] at this;exact gG this) y) (λe he'=>?_) λσ' T' r s eN x2 g h' t E F=>j σ' T' r s eN x2 g h' (br.q t) ?_ F
  .rcases DY he' with rfl|he';.exact⟨_,El w 3 now o (λh=>by cases h),C⟩
   .exact aA (i e he') λm c q=>⟨m,sN w 3 now o e.1 m c,q.F br⟩
  .rw[E];exact((show∀os(a b:List<|Nat×Nat),ks a=ks b->ks (os.foldl (λe o=>st e o 0) a)=ks (os.foldl (λe o=>st e o 0) b) from by
    intro os;induction os with
    |nil=>exactλL L h=>h
    |cons x os k=>exactλa b h=>k _ _<|DZ h)) os _ _ (DZ H)
def a42(h:Se σ S T A R B D x! now fl)(v:Wt S.D.a R x! B D w)(g:O S.D.a<=3)(F:∀σ' T' fo fa eN es,Se σ' (S.j fo fa) T' A R B D x! (ju w 3 now S.D.a) eN->T.Le T'->ks es=ks (S.D.a.foldl (λe o=>st e o 0) ([]:List<|Nat×Nat))->(∀e∈es,∃m,ju w 3 now S.D.a e.1=I m/\Is T' e.2 m)->K (.g 0<|dN es) σ'):W (n+18) 79 [.d S.L.g] σ K:=by
 refine bq [.d S.L.g,.q,.q] H<|cq ?_;intro j fr;obtain d:Q _ (S.h ⟨50,j⟩<|dN []) T A:=h.u.q.N (.a 0 [])<|fr 50;exact gg<|aU d.j H ⟨lm g H,a4Y ⟨⟨d,h.u.gi,h.u.h4,h.u.r,h.u.a,h.u.aT,h.u.e⟩,h.h,h.a,h.st⟩ v g (λo ho=>ho) (by show 0+O S.D.a<=900;exact s6 g H) dS λσ' T' fo fa eN x2 c b le f i=>p7 H b.u.q.qv<|f7<|F _ T' fo fa eN c ⟨⟨b.u.q.wu,b.u.gi,b.u.h4,b.u.r,b.u.a,b.u.aT,b.u.e⟩,b.h,b.a,b.st⟩ le f i⟩
end
noncomputable section
open PySem (Str)
variable{α:Type} {x! y_:List AV->av->(AV->av->Prop)->Prop} {i a n m T side z k p e d V y':Nat} {L:List AV} {σ:av} {b:Bool} {K:AV->Prop} {l:a7} {R RL:Nat->List cQ} {t:iC} {o:eE} {s:Str} {ms P:List Nat} {bs:List Bool} {Lf:AV->AV->List AV} {r:List (AV×AV)} {v:AV} {es:List (Nat×Nat)} {w:LW} {now:cJ} {D ρ:Nat->Nat}
noncomputable def lg(x:cQ):AV:=.B [.a x.m,.a x.r,.a x.s,.e x.w]
set_option tactic.hygienic false
def a28{ok:av->Prop}(f:α->Bool)(g enc:α->AV)(c:ok σ)(ht:∀x(j:AV->av->Prop),j (.e<|f x) σ->x! (ci L i<|enc x) σ j)(u:∀x(q:AV->av->Prop),q (g x) σ->y_ (ci L i<|enc x) σ q):∀{xs:List α}{K:List AV->av->Prop},K ((xs.filter f).map g) σ->iJ x! y_ (.B i) ok L (xs.map enc) σ K:=by
 intro xs;induction xs with
 |nil=>
  intro K b;exact b
 |cons x xs d=>
  intro K b;rw[jf] at b;refine qU<|ht x _ ?_;rcases z:f x with _|_;.rw[z] at b;exact bd ⟨c,d b⟩
  .rw[z] at b;exact bw<|u x _ ⟨c,d b⟩
def a03{a}(c:K<|.e<|a==b):eZ σ .eq (.e a) (.e b) K:=by
 obtain this:decide (AV.e a=AV.e b)=(a==b):=by induction a using Bool.casesOn<;>induction b using Bool.casesOn<;>simp
 exact⟨H,by rw[this];exact c⟩
def xw(da:Bool)(R:List cQ):Nat:=if da then(aM R).az else(aM R).a
noncomputable def pP(da:Bool)(x:cQ):Bool:=decide (x.s=2)==da
def IK(y:HS)(m r):(y.g m r).az=min y.az r:=by
 unfold HS.g;by_cases h:r<y.az;.rw[ak h];exact(v5<|je h).symm
 .rw[Z h,pF<|lE h];by_cases q:r=y.az;.rw[ak q]
  .rw[Z q]
def Li(y:HS)(m r)(t w):(y.j3 m r t w).a=min y.a r:=by
 show(if r<y.a then r else y.a)=_;by_cases h:r<y.a;.rw[ak h];exact(v5<|je h).symm
 .rw[Z h];exact(pF<|lE h).symm
def ao(da:Bool)(R:List cQ)(b:Nat):Nat:=(R.filter<|pP da).foldl (λb x=>min b x.r) b
def a4a(da:Bool):∀R y,(if da then(R.foldl HS.M y).az else(R.foldl HS.M y).a)=ao da R (if da then y.az else y.a):=by
 intro R;induction R with
 |nil=>
  exactλy=>H
 |cons x R b=>
  intro y;obtain b:=b<|y.M x;apply b.trans;unfold ao pP;rw[jf];unfold HS.M;clear b;by_cases h:x.s=2
  .rw[ak h,bA h];cases da
   .rw[Z<|show¬(U==am)=U from(Y H)] at⊢;unfold HS.g;by_cases q:x.r<y.az;.rw[ak q];rfl
    .rw[Z q];by_cases c:x.r=y.az;.rw[ak c]
     .rw[Z c]
   .show v9 _ (y.g x.m x.r).az _=v9 _ (min y.az x.r) _;rw[IK]
  .rw[Z h,bR h];cases da;.show v9 _ (y.j3 x.m x.r (x.s==1) x.w).a _=v9 _ (min y.a x.r) _;rw[Li]
   .rfl
def YE:∀(l:List Nat)(b:Nat),(l.map λ(i:Nat)=>(i:Int)).foldl (λa c=>if c<a then c else a) (b:Int)=(l.foldl min b:Nat):=by
 intro l;induction l with
 |nil=>
  exactλb=>H
 |cons x l d=>
  intro b;show v9 _ (if x<(b:Int) then(x:Int) else b) _=(v9 min (min b x) l:Nat);rw[((show(if x<(b:Int) then(x:Int) else b)=((min b x:Nat):Int) from by
   by_cases h:x<b;.rw[ak<|jH.mpr h,v5<|je h]
   .rw[Z λz=>h<|jH.mp z,pF<|lE h])),d]
def h!:∀l,mn (G l)=I (l.map λ(i:Nat)=>(i:Int)):=by
 intro b;induction b with
 |nil=>
  exact H
 |cons x l c=>
  show(mn<|G l).map _=_;rw[c];rfl
def a0A(l)(a b:Nat):(l++[b]).foldl min a=l.foldl min (min a b):=by
 rw[v8];show min (l.foldl min a) b=_;induction l generalizing a with
 |nil=>rfl
 |cons x l c=>
  show min (l.foldl min<|min a x) b=l.foldl min (min (min a b) x);rw[c<|min a x,Am,a6q x b,<-Am]
def BM{K R}(h:σ l=I (.b<|R.map lg))(c:O R<=100)(da)(f:K (.a (xw da R:Nat)) σ):W (n+1) 91 [.d l,.e da] σ K:=by
 refine bq [.d l,.e da,.q] H<|db ?_;lk;refine yF h ⟨lm c H,a28 (pP da) (λx=>AV.a x.r) lg h (λx d ht=>?_) (λx e b=>dh (bU H) H b) ?_⟩;.refine dh (bU H) H<|Cu<|a03 ?_;rw[show decide ((x.s:Int)=2)=decide (x.s=2) from jp.mpr Ax];exact ht
 .apply CM (by rw[ba];exact bG (jS<|aV (k9 ..) c) H);obtain e1:(R.filter<|pP da).map (λx=>AV.a x.r)++[.a 1024]=G ((R.filter<|pP da).map cQ.r++[1024]):=by
   rw[show G ((R.filter<|pP da).map cQ.r++[1024])=G ((R.filter<|pP da).map cQ.r)++[.a (1024:Nat)] from d9 ..,show G ((R.filter<|pP da).map cQ.r)=(R.filter<|pP da).map (λx=>AV.a x.r) from kM ..];rfl
  rw[e1];obtain e3:yQ (((R.filter<|pP da).map cQ.r++[1024]).map λ(i:Nat)=>i)=I ((xw da R:Nat):Int):=by
   rw[(show xw da R=((R.filter<|pP da).map cQ.r).foldl min 1024 from by
   unfold xw aM;rw[a4a da R HS.nil,List.foldl_map];clear h e1;induction da using Bool.casesOn<;>rfl)]
   rcases(R.filter<|pP da).map cQ.r with _|⟨x,r⟩;.rfl
   .show I (((r++[1024]).map λ(i:Nat)=>(i:Int)).foldl _ (x:Int))=_;rw[YE,a0A];show I ((r.foldl min (min x 1024):Nat):Int)=I ((r.foldl min (min 1024 x):Nat):Int);rw[a6q]
  dsimp only[ye];rw[h!];refine⟨by rw[ba,eK,ba];exact bG (jS<|aV (k9 ..) c) H,?_⟩;rw[e3];exact f
noncomputable def kZ(T side:Nat):List Nat->List cQ->List Nat
 |out,[]=>out
 |out,x::r=>kZ T side (if x.r=T/\x.s=side/\x.m∉out then out++[x.m] else out) r
abbrev lA(R:List cQ)(T side:Nat):List Nat:=kZ T side [] R
def Hc(T side):∀R out,O (kZ T side out R)<=O out+O R:=by
 intro R;induction R with
 |nil=>
  exactλc=>ce _
 |cons x R b=>
  refineλout=>aV (b _) ?_
  by_cases h:x.r=T/\x.s=side/\x.m∉out;.rw[ak h,eK];show O out+1+_<=_;exact gG lT
  .rw[Z h];exact gR _
def Pn(h:σ l=C):(σ.u l o).r l=σ:=by
 funext x;unfold av.r;by_cases e:x=l;.rw[ak e,e,h]
 .rw[Z e];exact cN e
def mh{m}(h:σ l=I o)(c:σ m=C):(σ.u m o') l=I o:=(cN λe=>by obtain h:=e▸h;obtain h:=c▸h;exact cL h).trans h
def a4O{m}(h:σ l=I (.b all))(u:σ m=C):∀{R out x4 K},O out+O R<=200->
 (∀x4,K .none [.d l,.a T,.a side,.d m,x4]<|σ.u m<|.b<|G<|kZ T side out R)->
 cu (wB n Fq) (.B 4) (λJ=>J l=I (.b all)) (R.map lg) [.d l,.a T,.a side,.d m,x4] (σ.u m<|.b<|G out) K:=by
 intro R;induction R with
 |nil=>
  intro out x4 K _ b;exact b x4
 |cons x R k=>
  intro out x4 K g b;obtain ho:=fc;have skip:(¬(x.r=T/\x.s=side/\x.m∉out))->(σ.u m<|.b<|G out) l=I (.b all)/\cu (wB n Fq) (.B 4) (λJ=>J l=I (.b all)) (R.map lg) [.d l,.a T,.a side,.d m,lg x] (σ.u m<|.b<|G out) K:=λq=>by
   exact⟨mh h u,k (je g) λx4=>(aO (be (kZ T side · R)<|Z q)<|b x4)⟩
  refine fj<|bV ?_;lk;apply dh (bU H) H;by_cases c:x.r=T
  .refine kC (be _ c)<|dh (bU H) H ?_;by_cases d:x.s=side
   .refine kC (be _ d)<|dh (bU H) H<|EP ho (λv o=>?_) ?_;.refine aA (bp.mp o) λi p j=>?_;subst j;rfl
    rw[jp.mpr (by
     constructor;.exactλh=>aA (bp.mp h) λi hi e=>xi e▸hi
     .exact dU)]
    by_cases f:x.m∈out;.rw[bA f];exact bd<|aw<|aw<|skip λz=>z.2.2 f
    .rw[bR f];refine bw<|mg ?_;lk;refine⟨mw ho,dh (bU H) H<|lS ho (lm (aV (fA ..) g) H) ⟨aE,aw<|aw ?_⟩⟩;rw[u6,(d9 (l₂:=[x.m])).symm];refine⟨mh h u,k (by rw[eK];show O out+1+O R<=200;exact mi g) λx4=>?_⟩;have:=b x4;rw[show kZ T side out (x::R)=kZ T side (out++[x.m]) R from be (kZ T side · R)<|ak ⟨c,d,f⟩] at this;exact this
   .exact fU (gm d)<|bd<|aw<|aw<|skip λz=>d z.2.1
  .exact fU (gm c)<|bd<|aw<|aw<|skip λz=>c z.1
def yZ{K R}(h:σ l=I (.b<|R.map lg))(c:O R<=100)(f:K (.r<|G<|lA R T side) σ):W (n+1) 92 [.d l,.a T,.a side] σ K:=by
 refine bq [.d l,.a T,.a side,.q,.q] H<|cq ?_;intro k fr;obtain b:=fr 51;apply gg;lk;refine yF (mh h b) ⟨lm c H,a4O (out:=[]) h b (by show 0+O R<=200;exact s6 c H) λx4=>pg H fc<|db ?_⟩;rw[Pn b];exact f
noncomputable def ix(z:Nat):Bool->List cQ->Bool
 |_,[]=>am
 |since,x::r=>if x.s=2 then ix z since r else if(since||decide (x.r=z))&&x.w then U else ix z (since||decide (x.r=z)) r
def Y6(h:σ l=I (.b all)):∀{R c g K},
 (ix z c R=U->∀b g,K (I<|.e U) [.d l,.a z,.e b,g] σ)->(ix z c R=am->∀b g,K .none [.d l,.a z,.e b,g] σ)->
 cu (wB n Fp) (.B 3) (λJ=>J l=I (.b all)) (R.map lg) [.d l,.a z,.e c,g] σ K:=by
 intro R;induction R with
 |nil=>
  intro c g K _ f;exact f H _ _
 |cons x R k=>
  intro c g K i f;refine fj<|bV ?_;lk;refine dh (bU H) H<|i9 ?_;by_cases q:x.s=2;.rw[bA<|iq q];obtain e:ix z c (x::R)=ix z c R:=ak q;rw[e] at i f;exact bd<|aw<|aw ⟨h,k i f⟩
  .rw[bR<|gm q];obtain e:ix z c (x::R)=if(c||decide (x.r=z))&&x.w then U else ix z (c||decide (x.r=z)) R:=Z q
   obtain go:wB n [.d (.u V2<|.n V3 N3) [.c kT] []] [.d l,.a z,.e<|c||decide (x.r=z),lg x] σ (mB (W n) [] λr j d=>match r with
    |.none=>d l=I (.b all)/\cu (wB n Fp) (.B 3) (λJ=>J l=I (.b all)) (R.map lg) j d K
    |some v=>K (I v) j d):=by
    apply vh;lk;generalize p:(c||decide (x.r=z))=o at e;rcases o with _|_;.rw[e] at i f;exact bd<|bd<|aw<|aw ⟨h,k i f⟩
    .refine bw<|dh (bU H) H ?_;rcases m:x.w with _|_;.rw[e.trans<|Z<|m▸(Y H)] at i f;exact bd (aw<|aw ⟨h,k i f⟩)
     .exact bw<|i (e.trans<|ak<|by rw[m];rfl) _ _
   refine bw<|cq ?_;lk;clear h g f i e;rcases c with _|_;.refine bd<|dh (bU H) H<|Cu ?_;rw[show decide ((x.r:Int)=z)=decide (x.r=z) from jp.mpr Ax];exact go
   .exact bw go
def Zw{K R}(h:σ l=I (.b<|R.map lg))(f:O R<=100)(c:K (.e<|ix z am R) σ):W (n+1) 93 [.d l,.a z] σ K:=by
 refine bq [.d l,.a z,.q,.q] H<|cq<|gg ?_;lk;refine yF h ⟨lm f H,Y6 h (λe b d=>?_) λe b d=>db ?_⟩;.rw[e] at c;exact c
 .rw[e] at c;exact c
def EL(h:m<2^14)(c:aQ m 13=am)(f:aQ m 12=am)(i):aQ (fp m) i=(aQ m i&&lJ m i):=by
 unfold fp;rw[Z<|c▸eS,Z<|f▸eS,fF,gu,dT,cG,eJ] at⊢;refine⟨λz=>z.2,λz=>⟨m4 λq=>?_,z⟩⟩;rw[eB] at z;rw[jR<|eR h<|pw<|aV (Y H) q] at z;exact eS z.1
def vp(h:aQ m 13=U):fp m=2^13:=ak h
def yJ(c:aQ m 13=am)(h:aQ m 12=U):fp m=2^12:=(Z<|c▸eS).trans<|ak h
def Ul:∀q c f x u g j y A b8 B,
 (((x&&(!(q&&u)&&(!(c&&g)&&!(f&&j))))||y)&&(!(q&&((u&&(!(c&&g)&&!(f&&j)))||A))&&(!(c&&(g||b8))&&!(f&&(j||B)))))
 =((x||y)&&(!(q&&(u||A))&&(!(c&&(g||b8))&&!(f&&(j||B))))):=by decide+kernel
def Jd:∀i,i<14->(eA 4 i&&gq i 8)=U->bk (i-4)=bk i/\(eA 4 (i-4)&&gq (i-4) 8)=false:=by decide+kernel
def JI(m):lJ m 8=U/\lJ m 9=true:=⟨H,H⟩
def JA{b}(j:a<2^14)(q:b<2^14):eV (eV a|||b)=eV (a|||b):=by
 obtain m:=(lI j).2.1;rw[<-(lI<|mG m q).1,<-(lI<|mG j q).1,<-(lI j).1];rw[<-(lI j).1] at m;rcases e:aQ a 13 with _|_
 .rcases f:aQ a 12 with _|_
  .obtain nt:=EL j e f;obtain k:aQ (fp a) 13=false:=by rw[nt,e];rfl
   rcases d:aQ b 13 with _|_
   .rcases g:aQ b 12 with _|_
    .apply km;intro i;rw[EL (mG m q) (by rw[fD,k,d];rfl) (by rw[fD,((show aQ (fp a) 12=am from by rw[nt,f];rfl)),g];rfl),EL (mG j q) (by rw[fD,e,d];rfl)<|by rw[fD,f,g];rfl] at⊢;by_cases hi:i<14
     .have:=Ul (eA 4 i&&gq i 8) (decide<|bk i=3) (decide<|bk i=4) (aQ a i) (aQ a<|i-4) (aQ a 8) (aQ a 9) (aQ b i) (aQ b<|i-4) (aQ b 8)<|aQ b 9;unfold lJ;rw[fD,fD,fD,fD,fD,fD,fD,fD,((show aQ (fp a) 8=aQ a 8 from by rw[nt,(JI a).1,uV])),((show aQ (fp a) 9=aQ a 9 from by rw[nt,(JI a).2,uV])),nt i];unfold lJ;rcases c:(eA 4 i&&gq i 8) with _|_;.rw[c] at this;exact this
      .rw[((λc=>by
       rw[nt];unfold lJ;rw[((Jd i hi c)).1,((Jd i hi c)).2];rfl:(eA 4 i&&gq i 8)=U->aQ (fp a) (i-4)=(aQ a (i-4)&&(!(decide (bk i=3)&&aQ a 8)&&!(decide (bk i=4)&&aQ a 9))))) c];rw[c] at this;exact this
     .obtain l:∀{x:Nat},x<2^14->aQ x i=false:=λn=>jR<|eR n<|pw<|lE hi;rw[l<|mG m q,l<|mG j q];rfl
    .rw[yJ (by rw[fD,d,k];rfl) (by rw[fD,g,m5]),yJ (by rw[fD,d,e];rfl)<|by rw[fD,g,m5]]
   .rw[vp (by rw[fD,d,m5]),vp<|by rw[fD,d,m5]]
  .rw[yJ e f];rcases d:aQ b 13 with _|_;.rw[yJ (by rw[fD,d];rfl) (by rw[fD];rfl),yJ (by rw[fD,d,e];rfl)<|by rw[fD,f];rfl]
   .rw[vp (by rw[fD,d,m5]),vp<|by rw[fD,d,m5]]
 .rw[vp e,vp (by rw[fD];rfl),vp<|by rw[fD,e];rfl]
def Zm{s t}:bn s t=U↔t&&&12288≠0\/∀i,aQ (gM s) i=U->aQ (wS<|gM t) i=true:=by
 unfold bn;by_cases h:t&&&12288≠0;.rw[ak h];exact⟨λb=>.inl h,λb=>H⟩
 .rw[Z h,dT,within] at⊢;exact⟨.inr,λz=>z.resolve_left h⟩
def vj(p i):aQ (wS p) i=(aQ p i||(aQ p 8&&decide (i=0\/i=1)||aQ p 9&&decide (i=2\/i=3))):=by
 rw[fD,fD,a7j];congr 2
 .by_cases h:p&&&256≠0;.rw[ak h,((λi=>by
  rw[show(3:Nat)=2^0|||2^1 from H,fD,jD,jD,<-a7k];exact jp.mpr ⟨λz=>z.imp jg jg,λz=>z.imp jg jg⟩:∀i,aQ (3:Nat) i=decide (i=0\/i=1))),(sU p 8).mp h,wc]
  .rw[Z h,lX,AB.mpr λz=>h<|(sU p 8).mpr z,Dq]
 .by_cases h:p&&&512≠0;.rw[ak h,((λi=>by
  rw[show(12:Nat)=2^2|||2^3 from H,fD,jD,jD,<-a7k];exact jp.mpr ⟨λz=>z.imp jg jg,λz=>z.imp jg jg⟩:∀i,aQ (12:Nat) i=decide (i=2\/i=3))),(sU p 9).mp h,wc]
  .rw[Z h,lX,AB.mpr λz=>h<|(sU p 9).mpr z,Dq]
def Jl(m:Nat):Bool:=cond (fk (nG m 12288) 0) (fk (nG (gM m) 12288) 0) U
def TW:uA 14 0 Jl=true:=by decide+kernel
def XI(h:m<2^14)(c:m&&&12288=0):gM m&&&12288=0:=by
 have:=Hi TW (jQ m) h;unfold Jl at this;obtain this:=(show nG m 12288=0 from c)▸this;exact uO this
def BI{b}(f:Nm b)(g:Nm c)(h1:bn a b=U)(h2:bn b c=U):bn a c=true:=by
 rw[Zm] at h1 h2⊢;rcases h2 with h2|h2;.exact .inl h2
 .obtain d:=λz=>by
   have:=h2 8 z;rw[vj] at this;simpa using this
  obtain j:=λz=>by
   have:=h2 9 z;rw[vj] at this;simpa using this
  rcases h1 with h1|h1
  .refine .inl λz=>?_;obtain no:∀i,i=12\/i=13->aQ (gM c) i=U->False:=λi hi q=>by
    have:=be (aQ · i)<|XI g.1 z;rw[show aQ (gM c&&&12288) i=(aQ (gM c) i&&aQ (12288:Nat) i) from ra ..,q] at this;rcases hi with rfl|rfl;.exact aP this<|Y H
    .exact aP this<|Y H
   rcases f.unit.F with t|t|t;.exact h1 t
   .have:=h2 12 (by rw[t];decide+kernel);rw[vj,show(decide<|(12:Nat)=0\/(12:Nat)=1)=am from H,show(decide<|(12:Nat)=2\/(12:Nat)=3)=am from H,wg,wg,sE,sE] at this;exact no 12 (.inl H) this
   .have:=h2 13 (by rw[t];decide+kernel);rw[vj,show(decide<|(13:Nat)=0\/(13:Nat)=1)=am from H,show(decide<|(13:Nat)=2\/(13:Nat)=3)=am from H,wg,wg,sE,sE] at this;exact no 13 (.inr H) this
  .refine .inr λi hi=>?_;obtain h:=h1 i hi;rw[vj,rh,rh,eB,eB] at h;rcases h with h|⟨h,e⟩|⟨h,e⟩;.exact h2 i h
   .rw[vj,d h,e];exact m5 _
   .rw[vj,j h,e,m5];exact m5 _
def nT(eX:List Nat)(k:Nat):List Nat:=if eX.any (bn k ·) then eX else eX.filter (λo=>!bn o k)++[k]
def zn(ms:List Nat):List Nat:=ms.foldl nT []
def wj(ms:List Nat)(x:Nat):Prop:=∃u v,ms=u++x::v/\∀y∈u,¬(bn x y=U/\bn y x=U)
structure sj(ms out:List Nat):Prop where
 first:∀x∈out,wj ms x
 above:∀k∈ms,∃x∈out,bn k x=true
 Hf:out.Pairwise λa b=>bn a b=false/\bn b a=false
def wj.h(c:wj ms x):x∈ms:=by
 refine gk c λu v b d=>?_;subst b;exact gA _ aZ
def wj.B(c:wj ms x):wj (ms++[k]) x:=by
 refine gk c λu v b d=>?_;subst b;exact⟨u,v++[k],by rw[gc];rfl,d⟩
def a41{out:List Nat}(h:out.Pairwise λa b=>bn a b=am/\bn b a=am)(c:x∈out)(f:y∈out)(l:bn x y=U):x=y:=by
 induction h with
 |nil=>cases c
 |@cons a g d _ e=>
  rcases cf.mp c with p|p<;>rcases cf.mp f with q|q
  .rw[p,q]
  .rw[p,(d y q).1] at l;exact dj l
  .rw[q,(d x p).2] at l;exact dj l
  .exact e p q
def sj.same{a b}(nm:∀m∈ms,Nm m)(f:sj ms a)(g:sj ms b):∀x∈a,x∈b:=λx i=>by
 have fx:=f.first x i;refine aA (g.above x fx.h) λy d l1=>?_;obtain e:=g.first y d;refine aA (f.above y e.h) λz hz l2=>?_;have:=a41 f.Hf i hz<|BI (nm y e.h) (nm z (f.first z hz).h) l1 l2;subst this;refine gk fx λu v e1 j=>gk e λn o k l=>?_;rcases List.append_eq_append_iff.mp (e1.symm.trans k) with⟨w,e3,e4⟩|⟨w,e3,e4⟩
 .rcases w with _|⟨c,w⟩;.injection e4 with e4 _;rw[e4];exact d
  .injection e4 with e4 _
   exact aP ⟨l2,l1⟩<|l x<|by rw[e3,e4];exact gA _ aZ
 .rcases w with _|⟨c,w⟩;.injection e4 with e4 _;rw[<-e4];exact d
  .injection e4 with e4 _
   exact aP ⟨l1,l2⟩<|j y<|by rw[e3,e4];exact gA _ aZ
def v!{p eX}(nm:∀m∈p++[k],Nm m)(h:sj p eX):sj (p++[k])<|nT eX k:=by
 unfold nT;by_cases q:eX.any (bn k ·)=U
 .rw[ak q];refine⟨λx hx=>(h.first x hx).B,λy hy=>?_,h.Hf⟩;rcases fQ.mp hy with hy|hy;.exact h.above y hy
  .exact d8.mp hy▸iG.mp q
 .rw[Z q];have c:∀o∈eX,bn k o=false:=λo ho=>by
   rcases z:bn k o with _|_;.rfl
   .exact aP (iG.mpr ⟨o,ho,z⟩) q
  refine⟨λx hx=>?_,λy hy=>?_,?_⟩
  .rcases fQ.mp hx with hx|hx;.exact(h.first x (cG.mp hx).1).B
   .rw[d8.mp hx];refine⟨p,[],H,λy hy z=>aA (h.above y hy) λo ho l=>?_⟩;have:=BI (nm y<|jF _ hy) (nm o<|jF _ (h.first o ho).h) z.1 l;rw[c o ho] at this;exact dj this
  .rcases fQ.mp hy with hy|hy
   .refine aA (h.above y hy) λo ho l=>?_;rcases z:bn o k with _|_;.exact⟨o,jF _ (cG.mpr ⟨ho,by rw[z];rfl⟩),l⟩
    .exact⟨k,gA _ aZ,BI (nm o<|jF _ (h.first o ho).h) (nm k<|gA _ aZ) l z⟩
   .rw[d8.mp hy];exact⟨k,gA _ aZ,BJ k⟩
  .rw[List.pairwise_append] at⊢;refine⟨h.Hf.sublist Im,Ia ..,λa e b f=>bY (cG.mp e) λg d=>?_⟩;rw[d8.mp f];rw[nI] at d;exact⟨d,c a g⟩
def Om(nm:∀m∈ms,Nm m):sj ms<|zn ms:=((show∀(r p eX:List Nat),(∀m∈p++r,Nm m)->sj p eX->sj (p++r) (r.foldl nT eX) from by
 intro r;induction r with
 |nil=>intro p eX _ h;rw[jG];exact h
 |cons k r b=>
  intro p eX nm h;obtain e:p++k::r=(p++[k])++r:=by rw[gc];rfl
  rw[e] at nm⊢;exact b (p++[k]) (nT eX k) nm<|v! (λm c=>nm m<|jF _ c) h)) ms [] [] nm ⟨dS,dS,.nil⟩
def Lc(nm:∀m∈ms,Nm m):sj ms<|m7 (gZ ms) []:=by
 obtain key:∀(r post later:List Nat),ms=gZ r++later->(∀x∈post,wj ms x/\x∈later)->(∀k∈later,∃h∈gZ r++post,bn k h=U)->post.Pairwise (λa b=>bn a b=am/\bn b a=am)->(∀y∈post,∀z∈r,bn y z=am)->sj ms (m7 r post):=by
  intro r;induction r with
  |nil=>
   exactλpost later e c d f C=>⟨λx i=>(c x i).1,λk hk=>d k (by rw[e] at hk;exact hk),f⟩
  |cons x r j=>
   intro post later e c d f h4;have g:ms=gZ r++x::later:=by rw[e,H9,gc];rfl
   have n:=nm x<|ay g<|gA _ aZ;obtain o:=λz hz=>nm z<|ay g<|jF _<|uQ.mpr hz;obtain p:=λz hz=>nm z (c z hz).1.h;rw[Lg];clear nm e;by_cases q:nL (gZ r) x post=U
   .rw[ak q];unfold nL at q;rw[rh,iG,iG] at q;obtain⟨i,s,t,B⟩:=((show∃h∈gZ r++post,bn x h=U/\Nm h from by
     rcases q with⟨y,hy,l⟩|⟨y,hy,l⟩;.exact⟨y,jF _ hy,l,o y<|uQ.mp hy⟩
     .rw[eB] at l;exact⟨y,gA _ hy,l.1,p y hy⟩))
    refine j post (x::later) g (λy hy=>⟨(c y hy).1,bK _ (c y hy).2⟩) (λk hk=>?_) f λy hy z hz=>h4 y hy z<|bK _ hz;rcases cf.mp hk with rfl|hk;.exact⟨i,s,t⟩
    .refine aA (d k hk) λh hh l=>?_;rw[H9,gc] at hh;rcases fQ.mp hh with hh|hh;.exact⟨h,jF _ hh,l⟩
     .rcases cf.mp hh with rfl|hh;.exact⟨i,s,BI n B l t⟩
      .exact⟨h,gA _ hh,l⟩
   .rw[Z q];unfold nL at q;have u:∀y∈r,bn x y=false:=λy hy=>by
     rcases z:bn x y with _|_;.rfl
     .exact aP (by rw[iG.mpr ⟨y,uQ.mpr hy,z⟩];rfl) q
    have v:∀y∈post,bn x y=am/\bn y x=false:=λy hy=>by
     obtain A:=h4 y hy x aZ;refine⟨?_,A⟩;rcases z:bn x y with _|_;.rfl
     .exact aP (by rw[iG.mpr ⟨y,hy,by rw[z,A];rfl⟩,m5]) q
    refine j (x::post) (x::later) g (λy hy=>?_) (λk hk=>?_) (.cons v f) λy hy z hz=>?_
    .rcases cf.mp hy with rfl|hy;.refine⟨⟨gZ r,later,g,λz hz w=>?_⟩,aZ⟩;obtain w:=(u z<|uQ.mp hz)▸w;cases w.1
     .exact⟨(c y hy).1,bK _ (c y hy).2⟩
    .rcases cf.mp hk with rfl|hk;.exact⟨k,gA _ aZ,BJ k⟩
     .refine aA (d k hk) λh hh l=>?_;rw[H9,gc] at hh;exact⟨h,hh,l⟩
    .clear c d f n o p v;rcases cf.mp hy with rfl|hy;.exact u z hz
     .exact h4 y hy z<|bK _ hz
 exact key (gZ ms) [] [] (by rw[H8,jG]) dS dS .nil dS
def LG{a b}(h:∀x,x∈a↔x∈b):cw a=cw b:=by
 apply km;intro i;rw[mK,mK,gu,iG,iG] at⊢;exact⟨λc=>aA c λx d q=>⟨x,(h x).mp d,q⟩,λc=>aA c λx d q=>⟨x,(h x).mpr d,q⟩⟩
def Ld(nm:∀m∈ms,Nm m):cw (m7 (gZ ms) [])=cw (zn ms):=
 LG λx=>⟨(Lc nm).same nm (Om nm) x,(Om nm).same nm (Lc nm) x⟩
def L6(f:K<|.e<|!decide (b∈bs)):eZ σ .b (.e b) (.r<|bs.map .e) K:=by
 refine⟨λv d=>?_,?_⟩;.refine aA (bp.mp d) λi g c=>?_;subst c;rfl
 .rw[jp.mpr ⟨λh=>by refine aA (bp.mp h) λi hi e=>?_;cases e;exact hi,dU⟩];exact f
def Og(f:K<|.e<|decide<|b∈bs):eZ σ .a (.e b) (.r<|bs.map .e) K:=by
 refine⟨λv d=>?_,?_⟩;.refine aA (bp.mp d) λi g c=>?_;subst c;rfl
 .rw[jp.mpr ⟨λh=>by refine aA (bp.mp h) λi hi e=>?_;cases e;exact hi,dU⟩];exact f
def a4Z(f)(l:List Nat):decide (U∈l.map f)=l.any f:=by
 rw[gu,dT,iG,bp] at⊢
def He(f)(l:List Nat):decide (am∈l.map f)=!l.all f:=by
 rw[gu,dT,bp,nI,List.all_eq_false] at⊢;exact⟨λb=>aA b λx c e=>⟨x,c,by rw[e];exact eS⟩,λb=>aA b λx c e=>⟨x,c,AB.mpr e⟩⟩
def CC(f)(ht:∀x c,c (.e U) σ->x! (ci L i x) σ c)(g:∀x,x∈ms->∀j,j (.e<|f x) σ->y_ (ci L i<|.a x) σ j){K}(q:K ((ms.map f).map .e) σ):iJ x! y_ (.B i) dc L (G ms) σ K:=by
 induction ms generalizing K with
 |nil=>exact q
 |cons x ms b=>exact qU<|ht _ _ ⟨aE,lM g _ ⟨aE,b (jw g) q⟩⟩
theorem AJ{i:Int}{K:AV->Prop}:iW (.a i) K=K (.a i):=rfl
def Bb{b}(f:∀x y,dg (Lf x y) a=x)(g:∀x y,dg (Lf x y) b=y)(j:∀x y c,ci (Lf x y) a c=Lf c y)(q:∀x y c,ci (Lf x y) b c=Lf x c):∀{ms cm y K},(∀y,K .none (Lf (.a (cm|||cw ms:Nat)) y) σ)->
 cu (wB n [.g a<|.q .b (.v a)<|.v b]) (.B b) dc (G ms) (Lf (.a (cm:Nat)) y) σ K:=by
 intro ms;induction ms with
 |nil=>
  intro cm y K d;exact(aO (show cm|||cw []=cm from n7 _)<|d y)
 |cons m ms e=>
  intro cm y K d;refine fj<|cq ?_;simp only[q,e4,e3,f,g,j,AJ];exact gX m<|aw ⟨aE,e λy=>(aO ((xP ..).symm)<|d y)⟩
def Zy{K}(u:O ms<=100)(f:K (.a (eV (cw<|zn ms):Nat)) σ):W (n+4) 94 [.r<|G ms] σ K:=by
 refine bq [.r<|G ms,.q,.q,.q,.q,.q,.q] H<|cq<|lf ⟨lm u H,?_⟩;obtain e:∀(r eX:List Nat)(c j x6:AV) Kb,O r+O eX<=100->(∀c,Kb .none [.r<|G ms,.r<|G<|r.foldl nT eX,c,.q,.q,.q,.q] σ)->
  cu (wB (n+3) Nd) (.B 2) dc (G r) [.r<|G ms,.r<|G eX,c,.q,.q,.q,.q] σ Kb:=by
  intro r;induction r with
  |nil=>intro eX c j x6 Kb _ f;exact f c
  |cons k r l=>
   intro eX c j x6 Kb d f;have p:O (G eX)<=aR:=lm (aV (jE ..) d) H;refine fj<|bV ⟨p,CC (bn k ·) (λx t ht=>ht) (λx z v m=>?_)<|L6 ?_⟩;.exact s0 _ _ m
   rw[a4Z];obtain s:(k::r).foldl nT eX=r.foldl nT (nT eX k):=H;rcases q:eX.any (bn k ·) with _|_;.refine bw<|bX ?_;lk;refine⟨p,tj aE (λi b t ht=>s0 _ _<|im ht) (λi b v m=>m)<|CM (by rw[ba];exact bG (jS<|aV (k9 ..)<|br ‹_+O eX<=100›) H) ?_⟩;rw[(d9 (l₂:=[k])).symm];exact aw<|aw ⟨aE,l _ _ j x6 _ (by rw[eK];show _+(_+1)<=100;exact aV (jq (oK (k9 ..) 1) _)<|aV (gG lT.symm) d)<|(show nT eX k=eX.filter (λo=>!bn o k)++[k] from Z<|q▸eS)▸(s▸f)⟩
   .exact bd<|aw<|aw ⟨aE,l eX _ j x6 _ (aV (oK (gR _) _) d)<|(show nT eX k=eX from ak q)▸(s▸f)⟩
 obtain g:∀(r eX:List Nat),O (r.foldl nT eX)<=O r+O eX:=by
  intro r;induction r with
  |nil=>intro eX;exact jE ..
  |cons k r l=>
   refineλeX=>aV (l<|nT eX k) ?_
   unfold nT;by_cases q:eX.any (bn k ·)=U;.rw[ak q];exact oK (gR _) _
   .rw[Z q,eK];exact aV (jq (oK (k9 ..) 1) _)<|gG lT.symm
 refine e ms [] .q .q .q _ (by show O ms+0<=100;exact u) λc=>bX (lf ⟨by rw[ba];exact aV (g ms [])<|bG (jT u<|ce _) H,Bb (Lf:=λx y=>[.r<|G ms,.r<|G<|ms.foldl nT [],c,x,y,.q,.q]) (λb b=>H) (λb b=>H) (λb b b=>H) (λb b b=>H) λy=>db ?_⟩);rw[qh];exact nS _ f
def CL(x:Nat)(ks:List Nat):Bool:=ks.all λk=>decide (fi k≠k)&&decide (fi k=x)
noncomputable def nz(ks:List Nat):List Nat:=ks.filter λk=>decide<|k≠0
theorem LI{w k ks}:kD w (k::ks)=if k=0 then kD w ks else if fi k=k then am else if DG w (fi k) then kD (I<|fi k) ks else false:=rfl
def Ya(x):∀ks,kD (I x) ks=CL x (nz ks):=by
 intro c;induction c with
 |nil=>
  exact H
 |cons k ks b=>
  rw[LI];unfold nz;rw[jf];by_cases h:k=0;.rw[ak h,bR λz=>z h];exact b
  .rw[Z h,bA h];show _=((decide (fi k≠k)&&decide (fi k=x))&&CL x (nz ks));by_cases q:fi k=k;.rw[ak q,bR λz=>z q];rfl
   .rw[Z q,bA q];by_cases y:fi k=x;.rw[ak<|bA y,bA y,y];exact b
    .rw[Z λz=>y<|Y z,bR y];rfl
def Yb:∀ks,kD C ks=CL (fi<|(nz ks).headD 0) (nz ks):=by
 intro b;induction b with
 |nil=>
  exact H
 |cons k ks c=>
  rw[LI];unfold nz;rw[jf];by_cases h:k=0;.rw[ak h,bR λz=>z h];exact c
  .rw[Z h,bA h];show _=((decide (fi k≠k)&&decide (fi k=fi k))&&CL (fi k) (nz ks));by_cases q:fi k=k;.rw[ak q,bR λz=>z q];rfl
   .rw[Z q,bA q,bA H];exact Ya _ ks
def MJ(m)(r):cw (fG m::r.map fG)=cw (m::r)-(cw (m::r)&&&3072):=by
 obtain e:fG m::r.map fG=(m::r).map fG:=H;rw[e];apply km;intro i;rw[mK,vd,mK,Si,gu,eB,iG,iG] at⊢;constructor;.rintro⟨x,b,h⟩;obtain h:aQ (x-(x&&&3072)) i=true:=h;rw[vd,eB] at h;exact⟨⟨x,b,h.1⟩,h.2⟩
 .rintro⟨⟨x,b,c⟩,d⟩;refine⟨x,b,?_⟩;show aQ (x-(x&&&3072)) i=U;rw[vd,c,d];rfl
def XV(x):(x-(x&&&3072))|||(x&&&3072)=x:=by
 apply km;intro i;rw[fD,vd,ra];cases aQ x i<;>cases aQ (3072:Nat) i<;>rfl
def uv(g)(ht:∀x c,c (.e U) σ->x! (ci L i x) σ c)(f:∀x,x∈ms->∀j,j (g x) σ->y_ (ci L i<|.a x) σ j){K}(q:K (ms.map g) σ):iJ x! y_ (.B i) dc L (G ms) σ K:=by
 induction ms generalizing K with
 |nil=>exact q
 |cons x ms b=>exact qU<|ht _ _ ⟨aE,lM f _ ⟨aE,b (jw f) q⟩⟩
def ZC{K r}(F:∀k∈m::r,Nm k)(A:O r<=100)(f:K (.a (tq m r:Nat)) σ):W (n+4) 95 [.r<|G<|m::r] σ K:=by
 refine bq [.r<|G<|m::r,.q,.q,.q,.q,.q,.q,.q,.q] H<|pR ?_;have s:O (G<|m::r)<=aR:=lm (jS A) H;lk;refine⟨s,?_⟩;unfold tq at f;by_cases e:r=[];.subst e;exact gO H<|qA s H f
 .rw[Z e] at f;have D:=Di.mpr e;refine eh (by rw[ba,kq];exact gm λz=>rb D<|Df z)<|cq<|lf ⟨s,Bb (Lf:=λx y=>[.r<|G<|m::r,x,y,.q,.q,.q,.q,.q,.q]) (λd d=>H) (λd d=>H) (λd d d=>H) (λd d d=>H) λy=>bX ?_⟩;rw[qh];refine⟨s,uv (λk=>.a (fG k:Nat)) (λx E ht=>ht) (λx d J l=>?_) ?_⟩;.lk;exact tc (s9 3072 l)
  obtain e1:(m::r).map (λk=>AV.a (fG k:Nat))=G (fG m::r.map fG):=by
   exact(kM (g:=λ(i:Nat)=>AV.a i)).symm
  rw[e1];generalize v:fG m::r.map fG=mQ at f;have c:O mQ<=101:=by rw[<-v,kq,ba];exact jS A
  obtain j:O (G mQ)<=aR:=lm c H;refine cq ⟨j,tj (q:=λk=>decide<|k≠0) aE (λi d E ht=>?_) (λi d J l=>l) ?_⟩
  .lk;apply i9;rw[show(!decide ((i:Int)=0))=decide (i≠0) from by
    by_cases z:i=0;.rw[bA<|iq z,bR λy=>y z];rfl
    .rw[bR<|gm z,bA z];rfl]
   exact ht
  obtain o:O (G<|nz mQ)<=aR:=lm (aV (k9 ..) c) H;refine dP ⟨o,CC (ms:=nz mQ) (λk=>decide (fi k≠k)&&decide (fi k=fi ((nz mQ).headD 0))) (λx E ht=>ht) (λx B J l=>?_)<|L6 ?_⟩
  .lk;refine Fw x<|i9 ?_;by_cases z:fi x=x;.rw[bR λy=>y z] at l;rw[bA<|show((fi x:Nat):Int)=x by rw[z]];exact bd l
   .rw[bA z] at l;rw[bR<|gm z];refine bw (Fw x<|qA o ((show(G<|nz mQ)[0]?=I (.a ((nz mQ).headD 0:Nat)) from by
     rcases hz:nz mQ with _|⟨a,b⟩;.obtain B:=hz▸B;cases B
     .rfl)) (Fw _<|Cu ?_))
    rw[show decide (((fi x:Nat):Int)=(fi ((nz mQ).headD 0):Nat))=decide (fi x=fi ((nz mQ).headD 0)) from jp.mpr Ax];exact l
  rw[He,show(nz mQ).all (λk=>decide (fi k≠k)&&decide (fi k=fi ((nz mQ).headD 0)))=kD C mQ from(Yb mQ).symm];obtain t:=yG λk M=>(F k M).1;clear F A s D e1 c o;rcases q:kD C mQ with _|_
  .rw[q] at f;refine bd<|cq ?_;lk;subst v;refine qA j H<|gg ?_;lk;refine Gy j ⟨by rw[Ar];exact aV (pE ..) j,?_⟩;obtain u:∀ks b p(Kb:Option AV->List AV->av->Prop),(∀p,Kb .none [.r<|G<|m::r,.a (cw (m::r):Nat),p,.r<|G<|fG m::r.map fG,.r<|G<|nz<|fG m::r.map fG,.a (tQ b ks:Nat),.q,.q,.q] σ)->
    cu (wB (n+3) Nc) (.B 2) dc (G ks) [.r<|G<|m::r,.a (cw (m::r):Nat),p,.r<|G<|fG m::r.map fG,.r<|G<|nz<|fG m::r.map fG,.a b,.q,.q,.q] σ Kb:=by
    intro ks;induction ks with
    |nil=>intro b p Kb f;exact f p
    |cons k ks L=>
     refineλb p Kb f=>fj (bV<|s0 _ _ ?_)
     rw[show tQ b (k::ks)=tQ (if bn b k then k else b) ks from H] at f;rcases z:bn b k with _|_;.rw[z] at f;exact bd<|aw<|aw ⟨aE,L b _ _ f⟩
     .rw[z] at f;refine bw<|bX ?_;lk;exact aw<|aw ⟨aE,L k _ _ f⟩
   refine u (r.map fG) (fG m) _ _ λp=>db ?_;lk;exact i8 3072<|gX _<|nS _ f
  .rw[q,ak H] at f;refine bw<|nS _ ?_;rw[(show eV (eV (cw mQ)|||(cw (m::r)&&&3072))=eV (cw<|m::r) from by
    rw[JA (by rw[<-v,MJ];exact gQ (pE ..) t)<|gQ H4 t,<-v,MJ,XV])] at f
   exact f
structure LW where
 au:Nat
 bound:List (Option iC)
 a:List (Option iC)
 F:List Nat
 b:List a7
noncomputable def IU:Option Nat->Int
 |none=>-1
 |some k=>k
def g7:Option iC->AV
 |none=>.j
 |some t=>.B [.a t.1,.a<|IU t.2]
def bS(w:LW):AV:=.g 1 [(.f j1,.a w.au),(.f oT,.r<|w.bound.map g7),(.f qD,.r<|w.a.map g7),(.f pQ,.B<|G w.F),(.f mf,.r<|w.b.map .d)]
structure dR(σ:av)(w:LW)(R:Nat->List cQ):Prop where
 a:w.au<=3
 b:w.bound.length=w.au
 d:w.a.length=w.au
 l:w.b.length=w.au
 tl:w.F.length<=3
 c:∀k l,w.b[k]?=some l->σ l=some (.b<|(R k).map lg)
 aT:∀k,(R k).length<=40
def r5{t}(h:s≠t):dL ((.f s,v)::r) (.f t)=dL r (.f t):=Z λe=>h<|by injection e
def zA:dL ((.f s,v)::r) (.f s)=I v:=ak H
def rR:j1≠oT/\j1≠qD/\j1≠pQ/\j1≠mf/\oT≠qD/\oT≠pQ/\oT≠mf/\qD≠pQ/\qD≠mf/\pQ≠mf:=by decide+kernel
def yn{es}(h:dL es (.f s)=I v)(c:K v):gL σ (.g 1 es) (.f s) K:=by
 refine⟨H,?_⟩;rw[h];exact c
def rL(c:K<|.a w.au):gL σ (bS w) (.f j1) K:=yn zA c
def yS(c:K<|.r<|w.bound.map g7):gL σ (bS w) (.f oT) K:=yn ((r5 rR.1).trans zA) c
def E8(c:K<|.r<|w.a.map g7):gL σ (bS w) (.f qD) K:=yn ((r5 rR.2.1).trans<|(r5 rR.2.2.2.2.1).trans zA) c
def E7(c:K<|.B<|G w.F):gL σ (bS w) (.f pQ) K:=yn ((r5 rR.2.2.1).trans<|(r5 rR.2.2.2.2.2.1).trans<|(r5 rR.2.2.2.2.2.2.2.1).trans zA) c
def yR(c:K<|.r<|w.b.map .d):gL σ (bS w) (.f mf) K:=yn ((r5 rR.2.2.2.1).trans<|(r5 rR.2.2.2.2.2.2.1).trans<|(r5 rR.2.2.2.2.2.2.2.2.1).trans<|(r5 rR.2.2.2.2.2.2.2.2.2).trans zA) c
def og{xs:List α}(c:O xs<=100)(h:xs[k]?=I x)(g:K<|f x):gL σ (.r<|xs.map f) (.a k) K:=
 qA (lm c H) (by rw[nH,h];rfl) g
noncomputable def eu(w:LW)(k:Nat):Option iC:=(w.bound[k]?).getD C
noncomputable def mW(w:LW)(k:Nat):Option iC:=(w.a[k]?).getD C
noncomputable def p0:Option iC->Bool
 |none=>am
 |some t=>decide<|t.1≠0
def qW{xs:List α}(c:O xs=n)(h:k<n):∃x,xs[k]?=I x:=⟨xs[k]'(ay c h),kN _⟩
def Ny{K}(h:dR σ w R)(f:e<w.au)(c:K (.e<|p0<|eu w e) σ):W (n+1) 96 [bS w,.a e] σ K:=by
 refine bq [bS w,.a e] H<|db ?_;lk;obtain⟨x,b⟩:=qW h.b f;obtain bl:O w.bound<=100:=by rw[h.b];exact bG h.a H
 obtain d:eu w e=x:=by unfold eu;rw[b];rfl
 obtain c:=d▸c;refine yS<|og bl b ?_;rcases x with _|t;.exact bd c
 .refine bw<|yS<|og bl b<|dh (bU H) H<|i9 ?_;rw[show(!decide ((t.1:Int)=0))=p0 (I t) from by
   by_cases z:t.1=0;.rw[bA<|iq z];exact(bR λy=>y z).symm
   .rw[bR<|gm z];exact(bA z).symm]
  exact c
def fP(R:Nat->List cQ)(k side:Nat):List Nat:=lA (R k) (aM<|R k).a side
def sH(w:LW)(R:Nat->List cQ)(e m:Nat):Bool:=
 !(decide (m=0)||decide (m=8192))&&((fP R e 1).all (bn m ·)&&(cO w.au).all λo=>!(decide (o=e)||decide (eu w o=I (0,I e)))||(fP R o 0).all (bn · m))
def Xn:∀(n a:Nat),kU a n=G ((cO n).map (a+·)):=by
 intro n;induction n with
 |zero=>
  exactλc=>H
 |succ n b=>
  intro a;rw[List.range_succ_eq_map];show .a a::kU (a+1) n=.a a::G (((cO n).map Nat.succ).map (a+·));rw[b<|a+1,kM];congr 3;funext x;exact lT
def Ew(n):kU 0 n=G (cO n):=by
 have:=Xn n 0;rw[show(cO n).map (0+·)=cO n from by
  rw[show(λx:Nat=>0+x)=id from by funext x;exact n6 x];exact Ih _] at this
 exact this
def Uj(f:K<|.e<|decide<|x=I (0,I e)):eZ σ .eq (g7 x) (.B [.a 0,.a e]) K:=by
 have:decide (g7 x=.B [.a 0,.a e])=decide (x=I (0,I e)):=jp.mpr ⟨λb=>by
  rcases x with _|t;.cases b
  .obtain⟨m,q⟩:=t;injection b with b;injection b with e1 b;injection b with c _
   injection e1 with e1;injection c with c
   have f1:(m:Int)=0:=e1;have d:IU q=e:=c;clear e1 c;obtain f1:=gI f1;subst f1;rcases q with _|k;.exact aP d<|by show¬(-1:Int)=e;exact Od H
   .rw[gI d],λb=>by rw[b];rfl⟩
 rcases x with _|t;.exact⟨H,f⟩
 .exact⟨H,by rw[this];exact f⟩
def Zt{K}(h:dR σ w R)(X:e<w.au)(c:K (.e<|sH w R e m) σ):W (n+4) 97 [bS w,.a e,.a m,.r<|G<|fP R e 1] σ K:=by
 apply bq [bS w,.a e,.a m,.r<|G<|fP R e 1,.q,.q,.q,.q] H;have D:∀k s,O (G<|fP R k s)<=aR:=λk s=>lm (((λk s=>aV (Hc ..) (bG (jT (ce 0)<|h.aT k) H):∀k s,O (fP R k s)<=100)) k s) H;unfold sH at c;apply dP;lk;by_cases t:m=0;.obtain c:=(bA t)▸c;exact kC (be _ t)<|bw c
 rw[bR t] at c;apply fU<|gm t;by_cases u:m=8192;.obtain c:=(bA u)▸c;exact kC (be _ u)<|bw c
 rw[bR u] at c;refine fU (gm u) ⟨D e 1,CC (bn m ·) (λx M ht=>ht) (λx N P B=>?_)<|Og ?_⟩;.exact s0 _ _ B
 rw[He];rcases E:(fP R e 1).all (bn m ·) with _|_;.rw[E] at c;exact bw c
 .rw[E] at c;refine bd<|gg ?_;lk;refine rL ⟨dI _,by have:=h.a;exact lu this H,?_⟩;rw[Sk,Ew];have c:=c;refine⟨by rw[ba,Ij];exact bG h.a H,((show∀os(x4 d:AV) Kb,(∀o∈os,o<w.au)->
   ((os.all λo=>!(decide (o=e)||decide (eu w o=I (0,I e)))||(fP R o 0).all (bn · m))=U->∀x4 d,Kb .none [bS w,.a e,.a m,.r<|G<|fP R e 1,x4,d,.q,.q] σ)->
   ((os.all λo=>!(decide (o=e)||decide (eu w o=I (0,I e)))||(fP R o 0).all (bn · m))=am->∀x4 d,Kb (I<|.e am) [bS w,.a e,.a m,.r<|G<|fP R e 1,x4,d,.q,.q] σ)->
   cu (wB (n+3) Fo)
    (.B 4) dc (G os) [bS w,.a e,.a m,.r<|G<|fP R e 1,x4,d,.q,.q] σ Kb from by
   intro os;induction os with
   |nil=>intro x4 d Kb _ g _;exact g H x4 d
   |cons o os Q=>
    intro x4 d Kb ho g i;obtain p:=λx4 d Kb=>Q x4 d Kb λy S=>ho y<|bK _ S;refine bc (qW h.b<|ho o aZ) λbx q=>bc (qW h.l<|ho o aZ) λF l=>?_;rw[Aw,show eu w o=bx from by unfold eu;rw[q];rfl] at g i;have bO:(decide (o=e)||decide (bx=I (0,I e)))=U->∀(x4:AV),wB (n+3) [.g 5<|.n (.n V0<|.k<|AV.f mf) V4,.d (.h .a kF<|.z (.B 7) (.j 92 [V5,.j 91 [V5,kF],N0]) C<|.j 90 [V7,V2]) [.c kF] []]
     [bS w,.a e,.a m,.r<|G<|fP R e 1,.a o,d,.q,.q] σ (mB (W<|n+3) [] λr j f=>match r with
      |.none=>True/\cu (wB (n+3) Fo)
       (.B 4) dc (G os) j f Kb
      |some v=>Kb (I v) j f):=λz x4=>by
     rw[z,Su,we] at g i;apply bX;lk;refine yR<|og (h.l▸bG h.a H) l<|vh ?_;lk;refine BM (h.c o F l) (bG (h.aT o) H) am<|yZ (h.c o F l) (bG (h.aT o) H) ⟨D o 0,CC (ms:=fP R o 0) (bn · m) (λx M ht=>ht) (λx N P B=>?_)<|Og ?_⟩;.exact s0 _ _ B
     rw[He];cases J:(fP R o 0).all (bn · m) with
     |true=>
      rw[J] at g i;exact bd<|aw<|aw ⟨aE,p _ _ _ g i⟩
     |false=>
      rw[J] at i;exact bw<|i H _ _
    refine fj<|bV ?_;lk;by_cases A:o=e;.exact kC (be _ A)<|bw<|bO (by rw[bA A];rfl)<|.a o
    .refine fU (gm A)<|yS<|og (h.b▸bG h.a H) q<|Uj ?_;cases L:decide (bx=I (0,I e)) with
     |true=>exact bw<|bO (by rw[L,m5])<|.a o
     |false=>
      rw[bR A,L] at g i;exact bd<|aw<|aw ⟨aE,p _ _ _ g i⟩)) _ _ _ _ (λo=>eJ.mp) (λb x4 d=>db ?_) λb x4 d=>?_⟩
  .rw[b] at c;exact c
  .rw[b] at c;exact c
noncomputable def mN:Option Nat->AV
 |none=>.a<|-1
 |some m=>.a m
def kQ(R:Nat->List cQ)(k:Nat):Bool:=decide<|(aM<|R k).az<(aM<|R k).a
def ou(w:LW)(R:Nat->List cQ)(k:Nat):List Nat:=(fP R k 0).map<|rJ (p0<|eu w k)<|!decide (k∈w.F)&&!ix (aM<|R k).a am (R k)
def sP(w:LW)(R:Nat->List cQ)(k:Nat):Option Nat:=match ou w R k with
 |[]=>C
 |m::r=>I<|if decide ((aM<|R k).a&&&4≠0) then eV (cw<|zn<|m::r) else tq m r
def jY(w:LW)(R:Nat->List cQ)(k:Nat):Option Nat×Option Nat:=
 if kQ R k then(I<|eV<|cw<|lA (R k) (aM<|R k).az 2,C) else sR (sP w R k) (xB<|fP R k 1)<|sH w R k
def CH(f)(l:List Nat):G (l.map f)=l.map λk=>AV.a (f k:Nat):=kM
def a4S:∀{R out m},m∈kZ T side out R->m∈out\/∃x∈R,x.m=m:=by
 intro R;induction R with
 |nil=>
  intro out m h;exact .inl h
 |cons x R b=>
  intro out m h;rcases b h with h|⟨y,c,e⟩
  .by_cases q:x.r=T/\x.s=side/\x.m∉out
   .rw[ak q] at h;rcases fQ.mp h with h|h;.exact .inl h
    .exact .inr ⟨x,aZ,(d8.mp h).symm⟩
   .rw[Z q] at h;exact .inl h
  .exact .inr ⟨y,bK _ c,e⟩
def zI(c:∀k,∀x∈R k,jc x):∀m∈lA (R k) T side,Nm m:=λm b=>by
 rcases a4S b with h|⟨x,d,e⟩;.cases h
 .exact aO e<|(c k x d).m
def Zu{K}(h:dR σ w R)(hr:∀k,∀x∈R k,jc x)(M:e<w.au)(c:K (.B [mN (jY w R e).1,mN (jY w R e).2,.e<|kQ R e]) σ):W (n+5) 98 [bS w,.a e] σ K:=by
 refine bq [bS w,.a e,.q,.q,.q,.q,.q,.q,.q,.q,.q,.q,.q] H<|bc (qW h.l M) λl t=>?_;obtain p:=h.c e l t;have d:O (R e)<=100:=aV (h.aT e)<|Y H;have T:∀r s,O (lA (R e) r s)<=50:=λr s=>aV (Hc ..)<|aV (jT (ce 0)<|h.aT e)<|Y H;have u:∀r s,O (G<|lA (R e) r s)<=aR:=λr s=>by rw[ba];exact aV (T r s)<|Y H
 unfold jY at c;apply cq;lk;refine yR (og (by rw[h.l];exact aV h.a<|Y H) t<|bX<|BM (n:=n+3) p d am<|bX<|BM (n:=n+3) p d U<|kA ?_);lk;by_cases wi:(aM<|R e).az<(aM<|R e).a;.have N:kQ R e=true:=bA wi;obtain c:=N▸c;obtain c:=(ak H)▸c;refine uo (jH.mpr wi)<|bX<|gg<|yZ (n:=n+3) p d ⟨u _ _,Bb (cm:=0) (Lf:=λx y=>[bS w,.a e,.d l,.a ((xw am (R e):Nat):Int),.a ((xw U (R e):Nat):Int),x,y,.q,.q,.q,.q,.q,.q]) (λf f=>H) (λf f=>H) (λf f f=>H) (λf f f=>H) λy=>db ?_⟩;lk;rw[qh];exact nS _ c
 .have N:kQ R e=false:=bR wi;obtain c:=N▸c;obtain c:=(Z eS)▸c;refine o9 (iH.mpr<|lE wi)<|aw<|bX<|yZ (n:=n+3) p d<|bX<|gg ⟨u _ _,?_⟩;obtain A:∀(ks:List Nat)(o:Option Nat)(x6:AV)(Kb:Option AV->List AV->av->Prop),
   (∀x6,Kb .none [bS w,.a e,.d l,.a ((aM<|R e).a:Nat),.a ((aM<|R e).az:Nat),.q,x6,.r<|G<|fP R e 1,mN (ks.foldl (λo k=>I<|match o with|none=>k|some b=>if bn k b then k else b) o),.q,.q,.q,.q] σ)->
   cu (wB (n+4) Nb) (.B 6) dc (G ks) [bS w,.a e,.d l,.a ((aM<|R e).a:Nat),.a ((aM<|R e).az:Nat),.q,x6,.r<|G<|fP R e 1,mN o,.q,.q,.q,.q] σ Kb:=by
   intro ks;induction ks with
   |nil=>intro o x6 Kb c;exact c x6
   |cons k ks B=>
    refineλo x6 Kb c=>fj (bV ?_)
    lk;rcases o with _|b;.refine iw (Y H)<|bw<|bX ?_;lk;exact aw<|aw ⟨aE,B (I k) _ _ c⟩
    .refine gW (dI b)<|s0 _ _ ?_;obtain ef:(k::ks).foldl (λo k=>I<|match o with|none=>k|some b=>if bn k b then k else b) (I b)=ks.foldl (λo k=>I<|match o with|none=>k|some b=>if bn k b then k else b) (I<|if bn k b then k else b):=H;obtain c:=ef▸c;rcases z:bn k b with _|_;.rw[z] at c;exact bd (aw<|aw ⟨aE,B (I b) _ _ c⟩)
     .rw[z] at c;refine bw<|bX ?_;lk;exact aw<|aw ⟨aE,B (I k) _ _ c⟩
  obtain ea:∀ms:List Nat,ms.foldl (λo k=>I<|match o with|none=>k|some b=>if bn k b then k else b) (C:Option Nat)=xB ms:=by
   intro ms;rcases ms with _|⟨m,ms⟩;.rfl
   .exact((show∀(ms:List Nat)(b:Nat),ms.foldl (λo k=>I<|match o with|none=>k|some b=>if bn k b then k else b) (I b)=I (tR b ms) from by
    intro ms;induction ms with
    |nil=>intro b;rfl
    |cons k ms B=>intro b;exact B _)) ms m
  refine A (fP R e 1) C _ _ λx6=>?_;rw[ea];generalize ho:xB (fP R e 1)=D at c;refine bX<|yZ (n:=n+3) p d<|dP ?_;lk;refine⟨u _ _,?_⟩;obtain E:∀(o:Option Nat){P:AV->Prop},P (mN o)->iW (mN o) P:=λo P hP=>by induction o using Option.casesOn<;>exact hP
  by_cases F:fP R e 0=[]
  .obtain c:=((show sP w R e=C from by
    unfold sP ou;rw[F];rfl))▸c
   exact gO (by rw[show lA (R e) (aM<|R e).a 0=[] from F];rfl)<|E D c
  .refine eh (by rw[ba];exact gm<|rb<|Di.mpr F)<|bV ?_;have tail:∀{g i:AV},wB (n+4) [.g 10<|.D (.q .a V3<|gi 4) (.j 94 [V9])<|.j 95 [V9],
    .d (.y (.h .lt V8 N0)<|.j 97 [V0,V1,iB,V7]) [.c<|.B [iB,V8,kF]] [],.c<|.B [V8,iB,kF]]
    [bS w,.a e,.d l,.a ((aM<|R e).a:Nat),.a ((aM<|R e).az:Nat),.q,x6,.r<|G<|fP R e 1,mN D,.r<|G<|ou w R e,.q,g,i] σ (rK K):=λ{g i}=>by
    have V:∀k∈ou w R e,Nm k:=λk hk=>by
     refine aA (bp.mp hk) λx hx Q=>?_;subst Q;exact BC<|zI hr x hx
    obtain J:O (ou w R e)<=50:=by
     rw[ba];exact T _ _
    refine FO (Sc<|(λz=>F (lF.mp z):ou w R e≠[])) λm r j=>?_;have bD:∀v:Nat,sP w R e=I v->wB (n+4) [.d (.y (.h .lt V8 N0)<|.j 97 [V0,V1,iB,V7]) [.c<|.B [iB,V8,kF]] [],.c<|.B [V8,iB,kF]]
     [bS w,.a e,.d l,.a ((aM<|R e).a:Nat),.a ((aM<|R e).az:Nat),.q,x6,.r<|G<|fP R e 1,mN D,.r<|G<|ou w R e,.a v,g,i] σ (rK K):=λv ev=>by
     rw[ev] at c;apply dP;lk;apply E D;rcases D with _|b;.exact iw (Y H)<|bw c
     .refine gW (dI b)<|Zt h M ?_;rcases z:sH w R e v with _|_;.obtain c:=(show sR (I v) (I b) (sH w R e)=(I b,I v) from Z<|show¬(am||sH w R e v)=U fromλy=>by rw[z] at y;exact dj y)▸c;exact bd (db c)
      .obtain c:=(show sR (I v) (I b) (sH w R e)=(I v,I b) from ak z)▸c;exact bw c
    obtain L:sP w R e=I (if decide ((aM<|R e).a&&&4≠0) then eV (cw<|zn<|m::r) else tq m r):=by
     unfold sP;rw[j]
    apply bX;lk;refine i8 4<|ku (λq=>?_) λq=>?_;.rw[bA q] at L;rw[j] at J⊢;exact Zy (aV J<|Y H)<|bD _ L
    .rw[bR λz=>z q] at L;rw[j] at J V⊢;exact ZC V (bG (kX J) H)<|bD _ L
   apply Ny (n:=n+3) h M;unfold ou at tail;rcases X:p0 (eu w e) with _|_
   .obtain tail:=X▸tail;refine bd<|bV ?_;lk;refine E7<|L7 ?_;rcases tp:decide (e∈w.F) with _|_
    .obtain tail:=(tp ..)▸tail;obtain tail:=(wc ..)▸tail;refine bw<|Zw (n:=n+3) p d ?_;rcases lw:ix (aM<|R e).a am (R e) with _|_;.rw[lw] at tail;exact im (bw<|bX ⟨u _ _,uv (ms:=fP R e 0) (λk=>.a (lc k:Nat)) (λx Kt ht=>ht) (λx f Ke S=>Nr (n:=n+2) x S)<|ay (show(fP R e 0).map (λk=>AV.a (lc k:Nat))=G ((fP R e 0).map<|rJ am<|!am) from(CH lc _).symm)<|aw<|aw tail⟩)
     .rw[lw] at tail;obtain tail:=(show(fP R e 0).map (rJ am<|!U)=fP R e 0 from Ih _)▸tail;exact im<|bd<|aw<|aw tail
    .obtain tail:=tp▸tail;obtain tail:=(show(fP R e 0).map (rJ am<|!U&&!ix (aM<|R e).a am (R e))=fP R e 0 from Ih _)▸tail;exact bd<|bd<|aw<|aw tail
   .refine bw<|bX ⟨u _ _,uv (ms:=fP R e 0) (λk=>.a (gM k:Nat)) (λx Kt ht=>ht) (λx f Ke S=>?_) ?_⟩;.lk;exact Fy (n:=n+2) x S
    .rw[show(fP R e 0).map (λk=>AV.a (gM k:Nat))=G ((fP R e 0).map<|rJ U<|!decide (e∈w.F)&&!ix (aM<|R e).a am (R e)) from(CH gM _).symm];exact aw<|X▸tail
def k8(now:cJ):Prop:=∀q v,now q=I v->v<2^14
structure zM(w:WD):Prop where
 a:∀p v,(w.fS p).1=some v->v<2^14
 b:∀p v,(w.fS p).2=some v->v<2^14
 t:∀p t,w.bound p=some t->t.1<2^14
 d:∀p t,w.a p=some t->t.1<2^14
theorem e6{f:nJ}{L:List AV}{K:AV->av->Prop}{σ:av}{a b:PE}:a6 f (.u a b) L σ K=a6 f a L σ λx σ₁=>c7 σ₁ x λc=>if c then a6 f b L σ₁ K else K x σ₁:=rfl
def xc(h:k8 now)(c:m<2^14):k8<|bN now p m:=λq v e=>by
 by_cases z:q=p;.rw[z,g8] at e;exact aO (fg e) c
 .rw[jI z] at e;exact h q v e
def LF{w:WD}(g:zM w){p d V:Nat}(h:d<2^14)(f:V<2^14):nR w p d V<2^14:=by
 unfold nR;by_cases z:(w.g p&&decide (p6 d V≠0))=U
 .rw[ak z];exact(rI λb i=>by
   have c:=(cG.mp i).1;rw[ty<|m3 h<|Y H] at c;exact m4 λz=>by
    rw[jR<|eR h<|pw z] at c;exact dj c)
 .rw[Z z];rcases e:(w.fS p).2 with _|o;.exact f
  .show(if bn o V then o else V)<2^14;by_cases q:bn o V=U;.rw[ak q];exact g.b p o e
   .rw[Z q];exact f
def Bu(f:∀now p,k8 now->(c now p).1<2^14/\k8 (c now p).2)(h:k8 now)(ht:t.1<2^14):(dq c now t).1<2^14/\k8 (dq c now t).2:=by
 unfold dq;rcases t.2 with _|q;.exact⟨ht,h⟩
 .exact bY (f now q h) λa b=>⟨(lI<|mG ht a).2.1,b⟩
def O2{w}(g:zM w)(j:∀now p,k8 now->(f now p).1<2^14/\k8 (f now p).2)(h:k8 now)(ht:d<2^14):(finish w f p d now).1<2^14/\k8 (finish w f p d now).2:=by
 obtain i:=xc h ht;unfold finish;rcases e:w.bound p with _|b;.exact⟨ht,i⟩
 .refine bY (Bu j i<|g.t p b e) λa c=>?_;show(if bn d _ then(d,_) else _:Nat×cJ).1<2^14/\k8 (if bn d _ then(d,_) else _:Nat×cJ).2;by_cases z:bn d (dq f (bN now p d) b).1=U;.rw[ak z];exact⟨ht,c⟩
  .rw[Z z];exact⟨LF g ht a,xc c<|LF g ht a⟩
def Ek{w}(f:zM w):∀k now p,k8 now->(cc w k now p).1<2^14/\k8 (cc w k now p).2:=by
 intro j;induction j with
 |zero=>
  refineλnow p h=>⟨?_,h⟩
  show(now p).getD 0<2^14;rcases e:now p with _|v;.decide
  .exact h p v e
 |succ k g=>
  intro now p h;show(match now p with|some m=>(m,now)|none=>_:Nat×cJ).1<2^14/\k8 (match now p with|some m=>(m,now)|none=>_:Nat×cJ).2;rcases e:now p with _|m
  .obtain i:=xc (m:=4096) h<|Y H;rcases e1:(w.fS p).1 with _|d
   .rcases l:w.a p with _|d
    .rcases e3:w.bound p with _|b;.exact⟨by show 4096<2^14;decide,i⟩
     .exact bY (Bu g i<|f.t p b e3) λa c=>⟨a,xc c a⟩
    .exact bY (Bu g i<|f.d p d l) λa c=>O2 f g c a
   .exact O2 f g i<|f.a p d e1
  .exact⟨h p m e,h⟩
def dk(w:LW)(R:Nat->List cQ):WD:=⟨jY w R,kQ R,eu w,mW w⟩
structure Nw(σ:av)(l:a7)(w:LW)(now:cJ)(es:List<|Nat×Nat):Prop where
 c:σ l=some (.a 0<|dN es)
 r:eC (cO w.au) es λq x=>x=now q
def Bl(f:σ l=C)(h:eC (cO w.au) es λq x=>x=now q)(c:p<w.au):eC (cO w.au) (st es p m) λq x=>x=bN now p m q:=
 h.st (eJ.mpr c) g8.symm λq d hq x b=>b.trans (jI hq).symm
def LQ(h:eC (cO w.au) es λq x=>x=now q)(c:w.au<=3):O es<=aR:=h.aT λp b=>eR (eJ.mp b)<|bG c H
def zQ(n k:Nat)(w:LW)(R:Nat->List cQ):Prop:=∀(σ:av)(l:a7)(now:cJ)(es:List<|Nat×Nat)(p:Nat)(K:AV->av->Prop),k8 now->dR σ w R->σ l=C->eC (cO w.au) es (λq x=>x=now q)->p<w.au->cF (cO w.au) now<=k->
 (∀b,eC (cO w.au) b (λq x=>x=(cc (dk w R) k now p).2 q)->K (.a (cc (dk w R) k now p).1) (σ.u l<|.a 0<|dN b))->W n 100 [bS w,.d l,.a p] (σ.u l<|.a 0<|dN es) K
structure zR(w:LW)(t:iC):Prop where
 ax:∀q,t.2=some q->q<w.au
def Fz{K}(ok:zQ n k w R)(g:1<=n)(lt:k8 now)(h:dR σ w R)(u:σ l=C)(hd:eC (cO w.au) es λq x=>x=now q)(ht:zR w t)(y:cF (cO w.au) now<=k)(f:∀c,eC (cO w.au) c (λq x=>x=(dq (cc (dk w R) k) now t).2 q)->K (.a (dq (cc (dk w R) k) now t).1) (σ.u l<|.a 0<|dN c)):
 W (n+1) 99 [bS w,.d l,g7<|I t] (σ.u l<|.a 0<|dN es) K:=by
 obtain⟨n,rfl⟩:∃j,n=j+1:=⟨n-1,(tH g).symm⟩;obtain⟨m,q⟩:=t;refine bq [bS w,.d l,g7<|I (m,q)] H<|pR ?_;lk;apply dh (bU H) H;rcases q with _|q;.exact iw (show(-1:Int)<0 by decide)<|dh (bU H) H<|f es hd
 .refine gW (dI q)<|db ?_;lk;exact dh (bU H) H<|dh (bU H) H<|ok σ l now es q _ lt h u hd (ht.ax q H) y λc b=>gX _<|nS _<|f c b
def w!(u:∀x y,dg (Lf x y) 8=x)(j:∀x y,dg (Lf x y) 9=y)(gt:∀x y,dg (Lf x y) 3=.a d)(A:∀x y,dg (Lf x y) 7=.a V)(B:∀x y,dg (Lf x y) 5=.e da)(sh:∀x y f,ci (Lf x y) 8 f=Lf f y)(F:∀x y f,ci (Lf x y) 9 f=Lf x f):
 ∀{bs cm y K},(∀b∈bs,b<14)->(∀y,K .none (Lf (.a (cm|||(if da then bW (bs.filter λb=>aQ d b&&bn (2^b) V) else 0):Nat)) y) σ)->
 cu (wB (n+3) BK) (.B 9) dc (G bs) (Lf (.a (cm:Nat)) y) σ K:=by
 intro m;induction m with
 |nil=>
  intro cm y K _ g;have:=g y;rw[show cm|||(if da then bW (([]:List Nat).filter λb=>aQ d b&&bn (2^b) V) else 0)=cm from by induction da using Bool.casesOn<;>exact n7 _] at this;exact this
 |cons b bs k=>
  intro cm y K i g;obtain e:=λc o=>i c<|bK _ o;obtain l:(1:Nat)<<<b=2^b:=by rw[a6m,Nat.one_mul]
  obtain skip:da=am\/(aQ d b&&bn (2^b) V)=am->cu (wB (n+3) BK) (.B 9) dc (G bs) (Lf (.a cm)<|.a b) σ K:=λq=>
   k e λy=>by
    have:=g y;rcases q with q|q;.rw[q] at this⊢;exact this
    .rw[jf,q] at this;exact this
  refine fj<|bV ?_;simp only[F,e6,e3,B];rcases da with _|_;.exact bd<|bd<|aw<|aw ⟨aE,skip<|.inl H⟩
  .apply bw;simp only[e4,e3,e1,gt,j,AJ];refine zi b (i8 1<|ku (λq=>?_) λq=>?_)
   .have tb:aQ d b=true:=by
     rw[a6j];rw[H2,a6A] at q;exact bA<|Nat.mod_two_ne_zero.mp q
    simp only[GK,l2,l1,e4,e3,e1,j,A,AJ];apply zj (a:=1) b (Y H)<|BH (i b aZ) H;rw[l];apply s0 _ _;rcases f:bn (2^b) V with _|_;.exact bd<|aw<|aw ⟨aE,skip<|.inr<|by rw[tb,f];rfl⟩
    .refine bw<|cq ?_;simp only[e4,e3,e1,u,j,AJ,sh];apply zj (a:=1) b (Y H)<|BH (i b aZ) H;rw[l];refine gX _<|aw<|aw ⟨aE,k e λy=>?_⟩;have:=g y;obtain this:=jf▸this;obtain this:=tb▸this;obtain this:=f▸this;obtain this:=(ak H)▸this;rw[show(cm|||2^b)|||(if U=U then bW (bs.filter λb=>aQ d b&&bn (2^b) V) else 0)=cm|||(if U=U then bW (b::bs.filter λb=>aQ d b&&bn (2^b) V) else 0) from xP ..];exact this
   .have tb:aQ d b=false:=by
     rw[a6j];rw[H2,a6A] at q;exact bR λf=>Nat.zero_ne_one<|q.symm.trans f
    exact ku (aP q) λp=>aw<|aw ⟨aE,skip<|.inr<|by rw[tb];rfl⟩
def FS(c:K<|.e U):eZ σ .d (g7<|I t) .j K:=c
def FT(c:K<|.e am):eZ σ .d (g7 C) .j K:=c
def Jv{t}(c:K<|g7 t):iW (g7 t) K:=by induction t using Option.casesOn<;>exact c
def K6{K}(ok:zQ (n+4) k w R)(rN:k8 now)(h:dR σ w R)(N:σ l=C)(hd:eC (cO w.au) es λq x=>x=now q)(S:p<w.au)(hc:cF (cO w.au) (bN now p d)<=k)(hb:∀t,eu w p=I t->zR w t)(ht:d<2^14)(X:x4=mN (jY w R p).2)(hK:∀f,eC (cO w.au) f (λq x=>x=(finish (dk w R) (cc (dk w R) k) p d now).2 q)->K (.a (finish (dk w R) (cc (dk w R) k) p d now).1) (σ.u l<|.a 0<|dN f)):
 wB (n+5) [.m V1 V2 V3,.d (.h .d V6<|.k AV.j)
  [.g 7<|.j 99 [V0,V1,V6],
   .d (.K<|.j 90 [V3,V7])
    [.g 8 N0,
     .h (.B 9) (.M [ki 14])
      BK,
     .g 10 (.D (.u (.h .ge V4 N0)<|.j 90 [V4,V7]) V4 V7),
     .m V1 V2 (.D (.h .gt V8 N0) V8 iB)]
    []]
  [],
 .c (.n V1 V2)] [bS w,.d l,.a p,.a d,x4,.e<|kQ R p,g7<|eu w p,.q,F,M,g] (σ.u l<|.a 0<|dN es) (rK K):=by
 subst X;have nl:∀{es:List<|Nat×Nat}{now:cJ},eC (cO w.au) es (λq x=>x=now q)->O es<=aR:=λh'=>LQ h' h.a;apply iY;lk;apply me fc<|nl hd;rw[u6];have D:=Bl (m:=d) N hd S;apply kA;lk;apply Jv;have e:∀{f:List<|Nat×Nat}{ic:cJ}{v:Nat}{Q F M g:AV},eC (cO w.au) f (λq x=>x=ic q)->ic p=I v->finish (dk w R) (cc (dk w R) k) p d now=(v,ic)->
  wB (n+5) [.c<|.n V1 V2] [bS w,.d l,.a p,.a d,mN (jY w R p).2,.e<|kQ R p,g7<|eu w p,Q,F,M,g] (σ.u l<|.a 0<|dN f) (rK K):=λ{f ic v Q F M g} E U u=>by
  rw[u] at hK;exact f7<|ve fc ((E.b p<|eJ.mpr S).trans U)<|hK f E
 cases r:eu w p with
 |none=>
  rw[r] at e;refine FT<|bd<|aw<|e D g8 ?_;unfold finish;rw[show(dk w R).bound p=C from r]
 |some t=>
  rw[r] at e;refine FS<|bw<|cq ?_;lk;refine Fz ok (jE 1<|n+3) (xc rN ht) h N D (hb t r) hc λG s=>?_;have u:finish (dk w R) (cc (dk w R) k) p d now=if bn d (dq (cc (dk w R) k) (bN now p d) t).1 then(d,(dq (cc (dk w R) k) (bN now p d) t).2) else(nR (dk w R) p d (dq (cc (dk w R) k) (bN now p d) t).1,bN (dq (cc (dk w R) k) (bN now p d) t).2 p<|nR (dk w R) p d (dq (cc (dk w R) k) (bN now p d) t).1):=by
   unfold finish;rw[show(dk w R).bound p=I t from r]
  have A:=m8 (sN (dk w R) k) (t:=t) (now:=bN now p d) g8;generalize dq (cc (dk w R) k) (bN now p d) t=c at u s A;apply kA;lk;apply s0 _ _;cases lt:bn d c.1 with
  |true=>
   rw[lt] at u;exact im<|bd<|aw<|aw<|e s A u
  |false=>
   rw[lt] at u;refine im<|bw<|cq<|lf ⟨Y H,Y H,⟨Y H,w! (Lf:=λx y=>[bS w,.d l,.a p,.a d,mN (jY w R p).2,.e<|kQ R p,g7<|I t,.a c.1,x,y,g]) (λj j=>H) (λj j=>H) (λj j=>H) (λj j=>H) (λj j=>H) (λj j j=>H) (λj j j=>H) (λb=>eJ.mp) λy=>?_⟩⟩;rw[qh];rw[(show bW ((cO 14).filter λb=>aQ d b&&bn (2^b) c.1)=p6 d c.1 from by
    apply km;intro i;rw[Gf ht,fF,gu,dT,cG,eJ] at⊢;refine⟨λz=>z.2,λz=>⟨m4 λq=>?_,z⟩⟩;rw[eB,jR<|eR ht<|pw q] at z;exact eS z.1)]
   have L:∀o{P:AV->Prop},P (mN o)->iW (mN o) P:=λo P V=>by cases o<;>exact V
   have ww:∀{v:Nat}{F M g:AV},nR (dk w R) p d c.1=v->l8 (σ.u l<|.a 0<|dN G) (.d l) (.a p) (.a v) λB=>wB (n+5) [] [bS w,.d l,.a p,.a d,mN (jY w R p).2,.e<|kQ R p,g7<|I t,.a c.1,F,M,g] B
    (mB (W<|n+5) []<|mB (W<|n+5) [.c<|.n V1 V2]<|rK K):=λ{v F M g} ev=>by
    apply me fc (nl s);rw[u6];rw[ev] at u;exact aw<|aw<|e (Bl N s S) g8 u
   generalize J:(if kQ R p then p6 d c.1 else 0)=wv;have out:nR (dk w R) p d c.1=if wv=0 then(match(jY w R p).2 with|some o=>if bn o c.1 then o else c.1|none=>c.1) else wv:=by
    unfold nR;rw[show(dk w R).g p=kQ R p from H];cases wi:kQ R p with
    |false=>
     rw[wi] at J;rw[<-J];exact Z eS
    |true=>
     rw[wi,ak H] at J;rw[J];by_cases z:wv=0;.rw[z];exact Z dj
     .rw[Z z];exact ak<|by rw[bA z];rfl
   have bD:∀v:Nat,v=(match(jY w R p).2 with|some o=>if bn o c.1 then o else c.1|none=>c.1)->wB (n+5) [.m V1 V2<|.D (.h .gt V8 N0) V8 iB] [bS w,.d l,.a p,.a d,mN (jY w R p).2,.e<|kQ R p,g7<|I t,.a c.1,.a wv,y,.a v] (σ.u l<|.a 0<|dN G)
    (mB (W<|n+5) []<|mB (W<|n+5) [.c<|.n V1 V2]<|rK K):=λv ev=>by
    apply iY;lk;by_cases z:wv=0;.refine o9 (Az<|iq z)<|ww ?_;rw[out,ak z];exact ev.symm
    .refine uo (jH.mpr<|RQ z)<|ww ?_;rw[out,Z z]
   apply cq;lk;apply L _;cases T:(jY w R p).2 with
   |none=>
    rw[T] at bD;exact qR (Y H)<|bd<|bD c.1 H
   |some o=>
    rw[T] at bD;refine pe (dI o)<|s0 _ _ ?_;cases z:bn o c.1 with
    |true=>exact bw<|bD o<|by dsimp only;rw[z];rfl
    |false=>exact bd<|bD c.1<|by dsimp only;rw[z];rfl
structure qX(w:LW)(R:Nat->List cQ):Prop where
 cI:zM (dk w R)
 b:∀p t,eu w p=some t->zR w t
 d:∀p t,mW w p=some t->zR w t
 e:∀k,∀x∈R k,jc x
def K5{K}(h:dR σ w R)(hd:eC (cO w.au) es λq x=>x=now q)(f:p<w.au)(c:now p=I m)(g:K (.a m)<|σ.u l<|.a 0<|dN es):W (n+1) 100 [bS w,.d l,.a p] (σ.u l<|.a 0<|dN es) K:=by
 refine bq [bS w,.d l,.a p,.q,.q,.q,.q,.q,.q,.q,.q] H<|dP ?_;lk;obtain b:=(hd.b p<|eJ.mpr f).trans c;refine s7 fc ?_;rw[b];exact bw<|ve fc b g
def a3h(f:p<w.au)(c:now p=C):cF (cO w.au) (bN now p m)+1<=cF (cO w.au) now:=PT (eJ.mpr f) c
def En(ts:qX w R)(ok:zQ (n+4) k w R):zQ (n+6) (k+1) w R:=by
 intro σ l now es p K lt h s hd g V c;rcases e:now p with _|m
 .have W:cc (dk w R) (k+1) now p=match(jY w R p).1 with
   |some d=>finish (dk w R) (cc (dk w R) k) p d<|bN now p 4096
   |none=>match mW w p with
    |some d=>finish (dk w R) (cc (dk w R) k) p (dq (cc (dk w R) k) (bN now p 4096) d).1 (dq (cc (dk w R) k) (bN now p 4096) d).2
    |none=>match eu w p with
     |none=>(4096,bN now p 4096)
     |some b=>((dq (cc (dk w R) k) (bN now p 4096) b).1,bN (dq (cc (dk w R) k) (bN now p 4096) b).2 p (dq (cc (dk w R) k) (bN now p 4096) b).1):=by
   show(match now p with|some m=>(m,now)|none=>_:Nat×cJ)=_;rw[e]<;>rfl
  obtain c:=W▸c;have j:=H3<|aV (a3h (m:=4096) g e) V;have vv:=xc (p:=p) (m:=4096) lt<|Y H;have nl:∀{es:List<|Nat×Nat}{now:cJ},eC (cO w.au) es (λq x=>x=now q)->O es<=aR:=λh'=>LQ h' h.a;have same:∀{ic:cJ}{m:Nat},dA (ic p)=U->cF (cO w.au) (bN ic p m)<=cF (cO w.au) ic:=λhs=>PR λq hq=>by
   by_cases z:q=p;.rw[z,g8];rfl
   .rw[jI z];exact hq
  refine bq [bS w,.d l,.a p,.q,.q,.q,.q,.q,.q,.q,.q] H<|dP ?_;lk;refine s7 fc ?_;rw[(hd.b p<|eJ.mpr g).trans e];refine bd<|iY ?_;lk;apply me (v:=4096) fc<|nl hd;rw[u6];obtain r:=Bl (m:=4096) s hd g;apply tW;lk;refine Zu (n:=n) (⟨h.a,h.b,h.d,h.l,h.tl,λk x X=>mh (h.c k x X) s,h.aT⟩) ts.e g ⟨H,bc (qW h.b g) λbx F=>bc (qW h.d g) λdx u=>?_⟩;have T:mW w p=dx:=by unfold mW;rw[u];rfl
  obtain dl:O w.a<=100:=by rw[h.d];exact aV h.a<|Y H
  apply cq;lk;refine yS (og (by rw[h.b];exact aV h.a<|Y H) F<|bV ?_);lk;rw[<-((show eu w p=bx from by unfold eu;rw[F];rfl))];obtain M:∀(o:Option Nat){P:AV->Prop},P (mN o)->iW (mN o) P:=λo P Z=>by induction o using Option.casesOn<;>exact Z
  apply M _;rcases N:(jY w R p).1 with _|d
  .obtain c:=N▸c;refine iw (Y H)<|E8<|og dl u ?_;rcases y:dx with _|d
   .rw[T.trans y] at c;refine FT<|bd<|bV ?_;lk;refine iw (Y H)<|iY ?_;lk;apply Jv;have bD:∀{A:List<|Nat×Nat}{ic:cJ}{v:Nat}{L:List AV},dg L 1=.d l->dg L 2=.a p->eC (cO w.au) A (λq x=>x=ic q)->(∀f,eC (cO w.au) f (λq x=>x=bN ic p v q)->K (.a v) (σ.u l<|.a 0<|dN f))->
     l8 (σ.u l<|.a 0<|dN A) (.d l) (.a p) (.a v) λB=>wB (n+5) [.c<|.n V1 V2] L B<|rK K:=λ{A ic v L} g1 g2 G Q=>by
     apply me (v:=v) fc (nl G);rw[u6];obtain I:=Bl (m:=v) s G g;apply db;simp only[Cv,e3,g1,g2];exact ve (enc:=λn:Nat=>AV.a n) fc ((I.b p<|eJ.mpr g).trans g8)<|Q _ I
    rcases C:eu w p with _|b;.refine bw<|bD (v:=4096) H H r λf i=>(C▸c) f ?_;obtain i:=yr▸i;exact i
    .rw[C] at c;refine bd<|Fz (n:=n+4) ok (RE _) vv h s r (ts.b p b C) j λS D=>bD H H D c
   .obtain E:=T.trans y;rw[E] at c;refine FS<|bw<|bX ?_;lk;refine E8<|og dl (y▸u)<|Fz (n:=n+4) ok (RE _) vv h s r (ts.d p d E) j λS D=>aw ?_;obtain lq:=Bu (Ek ts.cI k) (t:=d) vv<|ts.cI.d p d E;have J:=m8 (sN (dk w R) k) (t:=d) (now:=bN now p 4096) (q:=p) g8;exact K6 ok lq.2 h s D g (aV (same<|by rw[J];rfl)<|aV (GX λq v hv=>m8 (sN (dk w R) k) hv) j) (ts.b p) lq.1 H c
  .obtain c:=N▸c;refine gW (dI d)<|bd<|bV ?_;lk;exact gW (dI d)<|aw<|aw<|K6 ok vv h s r g (aV (same<|by rw[g8];rfl) j) (ts.b p) ((ts.cI.a p) d N) H c
 .exact K5 (n:=n+5) h hd g e<|(((show cc (dk w R) (k+1) now p=(m,now) from by
   show(match now p with|some m=>(m,now)|none=>_:Nat×cJ)=_;rw[e]))▸c) es hd
def W5(ts:qX w R):zQ (n+10) 3 w R:=En ts<|En ts<|En ts (by
 intro σ l now es p K lt h g hd b c d;obtain e:∃m,now p=I m:=by
  rcases z:now p with _|m;.have:p∈(cO w.au).filter λp=>(now p).isNone:=cG.mpr ⟨eJ.mpr b,by rw[z];rfl⟩;rw[xW.mp<|a6t.mp c] at this;cases this
  .exact⟨m,H⟩
 refine bc e λm e=>?_;obtain f:cc (dk w R) 0 now p=(m,now):=by
  show((now p).getD 0,now)=_;rw[e];rfl
 exact K5 h hd b e<|(f▸d) es hd)
def W3(ts:qX w R)(h:dR σ w R)(g:σ l=C):∀{os now es f K},k8 now->eC (cO w.au) es (λq x=>x=now q)->(∀o∈os,o<w.au)->
 (∀c f,eC (cO w.au) c (λq x=>x=ju (dk w R) 3 now os q)->K .none [bS w,j,.d l,f] (σ.u l<|.a 0<|dN c))->
 cu (wB (n+10) Na) (.B 3) dc (G os) [bS w,j,.d l,f] (σ.u l<|.a 0<|dN es) K:=by
 intro os;induction os with
 |nil=>
  intro now es f K _ hd _ b;exact b es f hd
 |cons o os e=>
  intro now es f K lt hd ho b;exact fj<|ia<|W5 ts σ l now es o _ lt h g hd (ho o aZ) (aV zC<|ay Ij h.a) λc d=>⟨aE,aw ⟨aE,e (Ek ts.cI 3 now o lt).2 d (jw ho) b⟩⟩
def Nv{K}(ts:qX w R)(h:dR σ w R)(ho:∀o∈os,o<w.au)(g:O os<=900)(u:∀es,eC (cO w.au) es (λq x=>x=ju (dk w R) 3 (λf=>C) os q)->K (.g 0<|dN es) σ):W (n+11) 101 [bS w,.r<|G os] σ K:=by
 refine bq [bS w,.r<|G os,.q,.q] H<|cq λj fr=>lf ⟨lm g H,W3 (es:=[]) ts h (fr 52) (λq v=>cL) ⟨.nil,dS,λf f=>H⟩ ho λb d c=>p7 H fc<|db ?_⟩;rw[Pn<|fr 52];exact u b c
noncomputable def jm(D:Nat->Nat)(t:iC):iC:=(t.1,t.2.map D)
structure oH(D ρ:Nat->Nat)(n:Nat):Prop where
 s:∀k,k<n->ρ (D k)=k
def gT(w:LW)(R:Nat->List cQ)(D ρ:Nat->Nat):WD:=⟨λp=>jY w R<|ρ p,λp=>kQ R<|ρ p,λp=>(eu w<|ρ p).map<|jm D,λp=>(mW w<|ρ p).map<|jm D⟩
def oI(n:Nat)(D:Nat->Nat)(a b:cJ):Prop:=∀q,q<n->a (D q)=b q
def K7(h:oH D ρ w.au){a b:Nat}(f:a<w.au)(g:b<w.au)(c:D a=D b):a=b:=by rw[<-h.s a f,c,h.s b g]
def yI(h:oH D ρ w.au){a b}(f:p<w.au)(c:oI w.au D a b):oI w.au D (bN a (D p) m)<|bN b p m:=λq hq=>by
 by_cases z:q=p;.rw[z,g8,g8]
 .rw[jI z,jI λy=>z<|K7 h hq f y];exact c q hq
def Hl(w:LW)(D:Nat->Nat)(r c:cJ->Nat->Nat×cJ):Prop:=∀a b p,p<w.au->oI w.au D a b->(r a<|D p).1=(c b p).1/\oI w.au D (r a<|D p).2 (c b p).2
def Bt{r}(g:Hl w D r f){a b}(ht:zR w t)(c:oI w.au D a b):(dq r a<|jm D t).1=(dq f b t).1/\oI w.au D (dq r a<|jm D t).2 (dq f b t).2:=by
 obtain⟨m,q⟩:=t;rcases q with _|q;.exact⟨H,c⟩
 .refine bY (g a b q (ht.ax q H) c) λd i=>⟨?_,i⟩;show eV (m|||(r a<|D q).1)=eV (m|||(f b q).1);rw[d]
def O1(h:oH D ρ w.au)(ts:qX w R){r f:cJ->Nat->Nat×cJ}(q:Hl w D r f){a b:cJ}{p d:Nat}(g:p<w.au)(c:oI w.au D a b):
 (finish (gT w R D ρ) r (D p) d a).1=(finish (dk w R) f p d b).1/\oI w.au D (finish (gT w R D ρ) r (D p) d a).2 (finish (dk w R) f p d b).2:=by
 obtain k:∀d V,nR (gT w R D ρ) (D p) d V=nR (dk w R) p d V:=λd V=>by
  unfold nR;rw[show(gT w R D ρ).g (D p)=(dk w R).g p from be (kQ R)<|h.s p g,show(gT w R D ρ).fS (D p)=(dk w R).fS p from be (jY w R)<|h.s p g]
 unfold finish;rw[(show(gT w R D ρ).bound (D p)=(eu w p).map (jm D) from by
  show(eu w<|ρ<|D p).map _=_;rw[h.s p g])]
 rcases i:eu w p with _|t;.rw[show(dk w R).bound p=C from i];exact⟨H,yI h g c⟩
 .rw[show(dk w R).bound p=I t from i];obtain⟨l,j⟩:=Bt q (ts.b p t i)<|yI h g c;show(if bn d (dq r (bN a (D p) d)<|jm D t).1 then _ else _:Nat×cJ).1=(if bn d (dq f (bN b p d) t).1 then _ else _:Nat×cJ).1/\oI w.au D (if bn d (dq r (bN a (D p) d)<|jm D t).1 then _ else _:Nat×cJ).2 (if bn d (dq f (bN b p d) t).1 then _ else _:Nat×cJ).2;rw[l];by_cases z:bn d (dq f (bN b p d) t).1=U;.rw[ak z,ak z];exact⟨H,j⟩
  .rw[Z z,Z z,k];exact⟨H,yI h g j⟩
def W4(h:oH D ρ w.au)(ts:qX w R):∀k,Hl w D (cc (gT w R D ρ) k)<|cc (dk w R) k:=by
 intro j;induction j with
 |zero=>
  refineλa b p c e=>⟨?_,e⟩
  show(a<|D p).getD 0=(b p).getD 0;rw[e p c]
 |succ k f=>
  intro a b p c e;obtain e1:=yI h c e;obtain l:(gT w R D ρ).fS (D p)=(dk w R).fS p:=be (jY w R)<|h.s p c;refine(?_:(wT (gT w R D ρ) (cc (gT w R D ρ) k) a<|D p).1=(wT (dk w R) (cc (dk w R) k) b p).1/\oI w.au D (wT (gT w R D ρ) (cc (gT w R D ρ) k) a<|D p).2 (wT (dk w R) (cc (dk w R) k) b p).2);unfold wT;rw[e p c,l,((show(gT w R D ρ).bound (D p)=(eu w p).map (jm D) from by
   show(eu w<|ρ<|D p).map _=_;rw[h.s p c])),(show(gT w R D ρ).a (D p)=(mW w p).map (jm D) from by
   show(mW w<|ρ<|D p).map _=_;rw[h.s p c])]
  rcases b p with _|m
  .rcases((dk w R).fS p).1 with _|d
   .rcases hd:mW w p with _|d
    .rw[show(dk w R).a p=C from hd];rcases g:eu w p with _|t;.rw[show(dk w R).bound p=C from g];exact⟨H,e1⟩
     .rw[show(dk w R).bound p=I t from g];obtain⟨i,n⟩:=Bt f (ts.b p t g) e1;refine⟨i,?_⟩;show oI w.au D (bN _ (D p) (dq _ _<|jm D t).1)<|bN _ p (dq _ _ t).1;exact ay i<|yI h c n
    .rw[show(dk w R).a p=I d from hd];show(finish _ _ (D p) (dq _ _<|jm D d).1 (dq _ _<|jm D d).2).1=(finish _ _ p _ _).1/\oI w.au D (finish _ _ (D p) (dq _ _<|jm D d).1 (dq _ _<|jm D d).2).2 (finish _ _ p _ _).2;exact ay ((Bt f (ts.d p d hd) e1).1)<|O1 h ts f c (Bt f (ts.d p d hd) e1).2
   .exact O1 h ts f c e1
  .exact⟨H,e⟩
def K2(h:oH D ρ w.au)(ts:qX w R)(k):∀os a b,(∀o∈os,o<w.au)->oI w.au D a b->oI w.au D (ju (gT w R D ρ) k a<|os.map D) (ju (dk w R) k b os):=by
 intro os;induction os with
 |nil=>
  exactλc c c e=>e
 |cons o os d=>
  exactλa b ho e=>d _ _ (jw ho) (W4 h ts k a b o (ho o aZ) e).2
def wM{P:List α->Prop}(c:P [])(f:∀R x,P R->P (R++[x]))(R):P R:=by
 obtain key:∀(r p:List α),P p->P (p++r):=by
  intro r;induction r with
  |nil=>intro p h;rw[jG];exact h
  |cons x r b=>
   intro p h;have:=b (p++[x])<|f p x h;rw[gc] at this;exact this
 exact key R [] c
def vR(T side)(x):∀R out,kZ T side out (R++[x])=if x.r=T/\x.s=side/\x.m∉kZ T side out R then kZ T side out R++[x.m] else kZ T side out R:=by
 intro R;induction R with
 |nil=>
  exactλb=>H
 |cons y R c=>
  exactλb=>c _
def NO(l)(m r k):mj (k6 l (m,r)) k=if r=k/\m∉mj l k then mj l k++[m] else mj l k:=by
 obtain mem:(m,k)∈l↔m∈mj l k:=by
  unfold mj;rw[bp] at⊢;exact⟨λh=>⟨(m,k),cG.mpr ⟨h,bA H⟩,H⟩,λc=>aA c λy b e=>by
   exact aO ((Al e (Y ((cG.mp b)).2):y=(m,k)))<|((cG.mp b)).1⟩
 unfold k6;by_cases h:(m,r)∈l
 .rw[ak h];by_cases q:r=k;.subst q;rw[Z λz=>z.2<|mem.mp h]
  .rw[Z λz=>q z.1]
 .rw[Z h];unfold mj;rw[a6Y,d9];by_cases q:r=k;.subst q;rw[ak ⟨H,λz=>h<|mem.mpr z⟩,jf,ak<|bA H];rfl
  .rw[Z λz=>q z.1,jf,Z λz=>q<|Y z];exact jG _
def AM(y:HS)(m r):(y.g m r).e=y.e/\(y.g m r).f=y.f/\(y.g m r).B=y.B/\(y.g m r).a=y.a:=by
 unfold HS.g;by_cases q:r<y.az;.rw[ak q];exact⟨H,H,H,H⟩
 .rw[Z q];by_cases b:r=y.az;.rw[ak b];exact⟨H,H,H,H⟩
  .rw[Z b];exact⟨H,H,H,H⟩
def ZR{R}(h:∀x∈R,jc x)(k):mj (aM R).e k=lA R k 0/\mj (aM R).f k=lA R k 1:=by
 revert h;refine wM (P:=λR=>(∀x∈R,jc x)->mj (aM R).e k=lA R k 0/\mj (aM R).f k=lA R k 1) (λf=>⟨H,H⟩) (λR x g h=>bY (g λy i=>h y<|jF _ i) λb d=>?_) R;unfold lA;rw[xj,vR,vR];unfold HS.M;rcases((h x<|gA _ aZ).r) with e|⟨e,_⟩|⟨e,_⟩;.refine gl (AM (aM R) x.m x.r) λj l f=>?_;rw[ak e,j,l,e,Z λz=>aP z.2.1<|Y H,Z λz=>aP z.2.1<|Y H];exact⟨b,d⟩
 .rw[e,Z (c:=_/\(0=1)/\_) λz=>aP z.2.1<|Y H];refine⟨?_,d⟩;rw[NO,b];by_cases q:x.r=k/\x.m∉kZ k 0 [] R;.rw[ak q,ak ⟨q.1,H,q.2⟩]
  .rw[Z q,Z λz=>q ⟨z.1,z.2.2⟩]
 .rw[e,Z (c:=_/\(1=0)/\_) λz=>aP z.2.1<|Y H];refine⟨b,?_⟩;rw[NO,d];by_cases q:x.r=k/\x.m∉kZ k 1 [] R;.rw[ak q,ak ⟨q.1,H,q.2⟩]
  .rw[Z q,Z λz=>q ⟨z.1,z.2.2⟩]
def Et{R}:(∀x∈R,x.s≠2->(aM R).a<=x.r)/\(∀x∈R,x.s=2->(aM R).az<=x.r)/\((aM R).a<1024->∃x∈R,x.s≠2/\x.r=(aM R).a)/\(aM R).a<=1024:=by
 refine wM (P:=λR=>(∀x∈R,x.s≠2->(aM R).a<=x.r)/\(∀x∈R,x.s=2->(aM R).az<=x.r)/\((aM R).a<1024->∃x∈R,x.s≠2/\x.r=(aM R).a)/\(aM R).a<=1024) ⟨dS,dS,λh=>aP h<|Y H,ce _⟩ (λR x i=>?_) R;obtain⟨d,e,f,g⟩:=i;rw[xj];unfold HS.M;by_cases h:x.s=2
 .rw[ak h,IK,(AM (aM R) x.m x.r).2.2.2];refine⟨λy hy c=>?_,λy hy c=>?_,λq=>?_,g⟩
  .rcases fQ.mp hy with hy|hy;.exact d y hy c
   .rw[d8.mp hy] at c;exact aP h c
  .rcases fQ.mp hy with hy|hy;.exact aV (uM ..) (e y hy c)
   .rw[d8.mp hy];exact xR ..
  .obtain⟨y,hy,a,b⟩:=f q;exact⟨y,jF _ hy,a,b⟩
 .rw[Z h,Li];refine⟨λy hy c=>?_,λy hy c=>?_,λq=>?_,aV (uM ..) g⟩
  .rcases fQ.mp hy with hy|hy;.exact aV (uM ..) (d y hy c)
   .rw[d8.mp hy];exact xR ..
  .rcases fQ.mp hy with hy|hy;.exact e y hy c
   .rw[d8.mp hy] at c;exact aP c h
  .by_cases z:x.r<(aM R).a;.exact⟨x,gA _ aZ,h,(v5<|je z).symm⟩
   .rw[pF<|lE z] at q⊢;obtain⟨y,hy,a,b⟩:=f q;exact⟨y,jF _ hy,a,b⟩
def a4P{R s}(h:∀x∈R,x.s=s->x.r≠k):lA R k s=[]:=by
 revert h;refine wM (P:=λR=>(∀x∈R,x.s=s->x.r≠k)->lA R k s=[]) (λd=>H) (λR x b h=>?_) R;unfold lA;rw[vR,Z λz=>h x (gA _ aZ) z.2.1 z.1];exact b λy c=>h y<|jF _ c
def qE{R}(h:∀x∈R,jc x):(aM R).az<1024->(aM R).c=I (eV<|cw<|lA R (aM R).az 2)/\cw (lA R (aM R).az 2)<2^14:=by
 revert h;refine wM (P:=λR=>(∀x∈R,jc x)->(aM R).az<1024->(aM R).c=I (eV<|cw<|lA R (aM R).az 2)/\cw (lA R (aM R).az 2)<2^14) (λk h=>aP h<|Y H) (λR x b h=>?_) R;obtain b:=b λy d=>h y<|jF _ d;obtain nm:=(h x<|gA _ aZ).m;unfold lA at b⊢;rw[xj];unfold HS.M;by_cases e:x.s=2
 .rw[ak e];unfold HS.g;by_cases q:x.r<(aM R).az;.rw[ak q];intro _;rw[vR,show kZ x.r 2 [] R=[] from(a4P λy d g z=>aP (Et.2.1 y d g)<|ay z<|sy.mpr q),ak ⟨H,e,jU⟩];show I x.m=I (eV<|x.m|||0)/\x.m|||0<2^14;rw[n7,nm.2];exact⟨H,nm.1⟩
  .rw[Z q];by_cases c:x.r=(aM R).az
   .rw[ak c]
    refineλi=>bY (b i) λj f=>?_
    rw[j];show I (eV<|eV _|||x.m)=_/\_;rw[JA f nm.1,vR];by_cases z:x.m∉kZ (aM R).az 2 [] R;.rw[ak ⟨c,e,z⟩,LH,show cw [x.m]=x.m from n7 _];exact⟨H,mG f nm.1⟩
    .rw[Z λy=>z y.2.2];rw[(show cw (kZ (aM R).az 2 [] R)|||x.m=cw (kZ (aM R).az 2 [] R) from by
      obtain this:cw (kZ (aM R).az 2 [] R++[x.m])=cw (kZ (aM R).az 2 [] R):=LG λy=>by
       rw[fQ,d8] at⊢;exact⟨λh=>h.elim id λh=>ay h<|Ir z,.inl⟩
      rw[LH,show cw [x.m]=x.m from n7 _] at this;exact this)]
     exact⟨H,f⟩
   .rw[Z c,vR,Z λz=>c z.1];exact b
 .rw[Z e,vR,Z λz=>e z.2.1];exact b
noncomputable def nP(z:Nat):Bool->List cQ->Bool
 |s,[]=>s
 |s,x::r=>if x.s=2 then nP z s r else nP z (s||decide (x.r=z)) r
def Fc(z)(x):∀R s,ix z s (R++[x])=(ix z s R||ix z (nP z s R) [x]):=by
 intro R;induction R with
 |nil=>
  intro s;rfl
 |cons y R b=>
  intro s;show(if y.s=2 then ix z s (R++[x]) else if(s||decide (y.r=z))&&y.w then U else ix z (s||decide (y.r=z))<|R++[x])=((if y.s=2 then ix z s R else if(s||decide (y.r=z))&&y.w then U else ix z (s||decide (y.r=z)) R)||ix z (if y.s=2 then nP z s R else nP z (s||decide (y.r=z)) R) [x]);by_cases h:y.s=2;.rw[ak h,ak h,ak h];exact b s
  .rw[Z h,Z h,Z h];by_cases q:((s||decide (y.r=z))&&y.w)=U;.rw[ak q,ak q];rfl
   .rw[Z q,Z q];exact b _
def U2(z):∀R,nP z U R=true:=by
 intro R;induction R with
 |nil=>
  exact H
 |cons y R b=>
  show(if y.s=2 then nP z U R else nP z U R)=U;rw[ite_self];exact b
theorem D8:∀{R s},(∃x∈R,x.s≠2/\x.r=z)->nP z s R=U
 |y::R,s,⟨x,hx,b,c⟩=>by
  show(if y.s=2 then nP z s R else nP z (s||decide (y.r=z)) R)=U;rcases cf.mp hx with rfl|hx;.rw[Z b,bA c,m5];exact U2 z R
  .by_cases h:y.s=2;.rw[ak h];exact D8 ⟨x,hx,b,c⟩
   .rw[Z h];exact D8 ⟨x,hx,b,c⟩
def Y7:∀{R},(∀x∈R,x.s≠2->x.r≠z)->ix z am R=am/\nP z am R=false:=by
 intro R;induction R with
 |nil=>
  exactλf=>⟨H,H⟩
 |cons y R d=>
  refineλh=>bY (d λx e=>h x<|bK _ e) λb c=>?_
  show(if y.s=2 then ix z am R else if(am||decide (y.r=z))&&y.w then U else ix z (am||decide (y.r=z)) R)=am/\(if y.s=2 then nP z am R else nP z (am||decide (y.r=z)) R)=am;by_cases q:y.s=2;.rw[ak q,ak q];exact⟨b,c⟩
  .rw[Z q,Z q,bR<|h y aZ q];exact⟨(Z dj).trans b,c⟩
def Zb{R}(h:∀x∈R,jc x):(aM R).B=ix (aM R).a am R:=by
 revert h;refine wM (P:=λR=>(∀x∈R,jc x)->(aM R).B=ix (aM R).a am R) (λg=>H) (λR x c h=>?_) R;obtain c:=c λy d=>h y<|jF _ d;refine mm (Et (R:=R)) λj r k t=>?_;rw[xj];unfold HS.M;by_cases e:x.s=2;.refine mm (AM (aM R) x.m x.r) λg g l m=>?_;rw[ak e,l,m,Fc,c];obtain this:ix (aM R).a (nP (aM R).a am R) [x]=false:=ak e;rw[this,sE]
 .rw[Z e];have i:∀z s,ix z s [x]=((s||decide (x.r=z))&&x.w):=λz s=>by
   show(if x.s=2 then am else if(s||decide (x.r=z))&&x.w then U else am)=_;rw[Z e];cases (s||decide (x.r=z))&&x.w<;>rfl
  by_cases q:x.r<(aM R).a;.have e1:((aM R).j3 x.m x.r (x.s==1) x.w).B=x.w:=ak q;have f:((aM R).j3 x.m x.r (x.s==1) x.w).a=x.r:=ak q;rw[e1,f,Fc];refine bY (Y7 λy d n b=>aP (j y d n)<|ay b<|sy.mpr q) λo p=>?_;rw[o,p,i,bA H];cases x.w<;>rfl
  .have e1:((aM R).j3 x.m x.r (x.s==1) x.w).B=((aM R).B||x.w):=Z q;have f:((aM R).j3 x.m x.r (x.s==1) x.w).a=(aM R).a:=Z q;rw[e1,f,Fc,c,i];obtain rl:(aM R).a<1024:=gQ (aV (lE q) (by
   rcases((h x<|gA _ aZ).r) with b|⟨_,b⟩|⟨_,b⟩;.exact aP b e
   .exact b
   .exact bG b H)) (Y H)
   rw[D8<|k rl,wc]
structure zO(w:LW)(RL R:Nat->List cQ)(B:Nat->Option Nat)(D ρ:Nat->Nat)(P:List Nat)(y':Nat):Prop where
 c:oH D ρ w.au
 e:∀k,k<w.au->R (D k)=RL k
 r:∀k,∀x∈RL k,jc x
 b:∀k,k<w.au->B (D k)=(eu w k).map λt=>mc (jm D t)
 small:∀k t,eu w k=some t->t.1<2^12/\(∀q,t.2=some q->q<w.au)
 a:∀p,p∈P↔∃k,k<w.au/\p=D k
 d:∀k,k<w.au->D k<4
 F:∀k,k<w.au->y'.testBit (14+D k)=decide (k∈w.F)
def XE:∀m,m<2^12->m≠0->∃b,b<12/\aQ m b=true:=λm h hz=>by
 refine Ir λz=>hz<|km λi=>?_;rw[lX];rcases q:aQ m i with _|_;.rfl
 .refine aP ⟨i,m4 λy=>?_,q⟩ z;obtain q:=(jR<|eR h<|pw y)▸q;exact dj q
def ZV(h:zO w RL R B D ρ P y')(g:k<w.au):jz (B<|D k)=p0 (eu w k):=by
 rw[h.b k g];rcases e:eu w k with _|t;.rfl
 .refine bY (h.small k t e) λlt hq=>?_;obtain⟨m,q⟩:=t;show(mz<|mc<|jm D (m,q)).any oj=decide (m≠0);have d:mc (jm D (m,q))<2^18:=by
   rcases q with _|q;.exact oY lt H
   .exact mG (oY lt H)<|pT (by have:=h.d q<|hq q H;exact qj this _)
  have tb:∀b,b<12->aQ (mc<|jm D (m,q)) b=aQ m b:=λb c=>by
   clear h g hq;rcases q with _|q;.rfl
   .show aQ (m|||2^(14+D q)) b=_;rw[fD,jD,bR λe=>lq (uN e) H c,sE]
  rw[gu,iG,dT] at⊢;constructor
  .rintro⟨b,c,i⟩ z;rw[ty d] at c;have f:=(Y i).resolve_right (sy.mpr (m4 λy=>by
    rw[jR<|eR d<|pw y] at c;exact dj c))
   rw[tb b f,z,lX] at c;exact dj c
  .exactλhz=>aA (XE m lt hz) λb c q=>⟨b,(ty d).mpr<|(tb b c).trans q,bA<|.inl c⟩
def xA(h:zO w RL R B D ρ P y')(c:k<w.au):qK R (D k)=fP RL k 0/\uz R (D k)=fP RL k 1:=by
 unfold qK uz fP;rw[h.e k c];exact ZR (h.r k) _
def MW(h:zO w RL R B D ρ P y'){k o}(f:k<w.au)(ho:o<w.au):sY B (D k) (D o)=decide (eu w o=I (0,I k)):=by
 unfold sY;rw[h.b o ho];apply jp.mpr;rcases e:eu w o with _|t;.exact⟨λz=>(nomatch z),λz=>(nomatch z)⟩
 .refine bY (h.small o t e) λlt hq=>?_;obtain⟨m,q⟩:=t;constructor
  .intro z;obtain z:=fg z;rcases q with _|q;.obtain z:m=2^(14+D k):=z;exact aP lt (fw.mpr<|aV (Y H)<|(show 2^14<=m from by rw[z];exact pw<|fA ..))
   .obtain z:m|||2^(14+D q)=2^(14+D k):=z;obtain c:∀i,aQ m i=U->i=14+D k:=λi hi=>by
     have:=be (aQ · i) z;rw[show aQ (m|||2^(14+D q)) i=_ from fD ..,hi,Ss,jD] at this;exact(Y this.symm).symm
    obtain d:m=0:=km λi=>by
     rw[lX];rcases y:aQ m i with _|_;.rfl
     .rw[jR<|eR lt<|pw<|aV (bU H)<|uN (c i y).symm] at y;exact dj y
    clear ho lt c;subst d;obtain b:aQ (0|||2^(14+D q)) (14+D q)=true:=by rw[qh,jD];exact bA H
    rw[z,jD] at b;rw[K7 h.c (hq q H) f<|(H6<|Y b).symm]
  .intro z;injection z with z
   rw[z];show I (0|||2^(14+D k))=I (2^(14+D k));rw[qh]
def Jc(h:zO w RL R B D ρ P y')(c:k<w.au):u8 R B P y' (D k)=jY w RL k/\tN R (D k)=kQ RL k:=by
 obtain e:tN R (D k)=kQ RL k:=by unfold tN kQ;rw[h.e k c]
 refine⟨?_,e⟩;unfold u8 jY;rw[e,(xA h c).2,h.e k c];rcases wi:kQ RL k with _|_
 .rw[Z eS,Z eS];obtain f:tO R B P (D k)=sH w RL k:=by funext m;exact(by
   unfold tO sH;rw[(xA h c).2];congr 2;rw[gu,gf,gf] at⊢;constructor
   .intro a o ho;have ho:=eJ.mp ho;by_cases z:(decide (o=k)||decide (eu w o=I (0,I k)))=U
    .rw[z,<-(xA h ho).1];apply a<|D o;rw[rh,dT] at z;rcases z with z|z;.rw[z];exact aZ
     .exact bK _<|cG.mpr ⟨(h.a _).mpr ⟨o,ho,H⟩,(MW h c ho).trans z⟩
    .rw[AB.mpr z];rfl
   .intro a p hp;rcases cf.mp hp with rfl|hp;.have:=a k<|eJ.mpr c;rw[bA H] at this;rw[(xA h c).1];exact this
    .refine bY (cG.mp hp) λg i=>aA ((h.a p).mp g) λo ho b=>?_;clear hp g;subst b;rw[MW h c ho] at i;have:=a o<|eJ.mpr ho;rw[i,m5] at this;rw[(xA h ho).1];exact this)
  rw[((show vS R B y' (D k)=sP w RL k from by
   unfold vS sP;rw[(xA h c).1,ZV h c,h.e k c,Zb<|h.r k,h.F k c];rw[(show(fP RL k 0).map (rJ (p0<|eu w k)<|!ix (aM<|RL k).a am (RL k)&&!decide (k∈w.F))=ou w RL k from by
    unfold ou;rw[a7l])]
   obtain j:fP RL k 0=[]↔ou w RL k=[]:=lF.symm;rcases d:ou w RL k with _|⟨m,r⟩;.rw[ak<|j.mpr d]
   .rw[Z λz=>by rw[j.mp z] at d;cases d];show I (if decide ((aM<|RL k).a&&&4≠0) then eV (cw<|m7 (gZ<|m::r) []) else tq m r)=_;rw[Ld<|d▸(λx l=>by
    refine aA (bp.mp l) λy n b=>?_;clear e l;subst b;exact BC<|zI h.r y n)])),f]
 .rw[ak H,ak H,(qE (h.r k)<|eR (Y wi) Et.2.2.2).1]
structure Tk(σ:av)(d:a7)(xs:List Int)(at_:Nat):Prop where
 q:σ d=some (.b [.a at_,.r<|xs.map .a])
 a:d.t=64
 pos:0<xs.length
 aT:xs.length<=100
 small:∀x∈xs,0<=x/\x<1000000
end
noncomputable section
open PySem (Str)
variable{σ σ' E!:av} {d l g nl h:a7} {xs ys:List Int} {i n m z x! k j rm N p z! tp F_ side:Nat} {K:Option AV->List AV->av->Prop} {ps:List (Option Nat×Nat)} {x:Option iC} {L vs y:List AV} {a b bs ws y! z_ od:List Nat} {ds:List (Option iC)} {F!:nJ} {α:Type} {f:Nat->List (Nat×Nat)} {v x0 x1 x2 x5 x3 x4 x6 x7 x8 x9 A_ A! B' B! C_ y' B_ E_ D! D_ C! C' y_:AV} {P:AV->Prop} {w:LW} {R RL Ra:Nat->List cQ} {e:PE} {rest:List PS} {q:uW} {c:Bool->Nat} {s:Bool} {T T':bP} {t:iC} {tl:kJ} {nm nw:List (Nat×Nat)} {V ρ:Nat->Nat} {o:Bool->Nat->Option iC} {A:List (Nat×Bool)} {X:List kO} {S:GS} {qs:List uW} {es:List (Nat×List (Nat×Nat×Nat))} {now:cJ} {D:Nat->Option Nat} {fl:Nat->Bool}
def Tk.jv(σ:av)(d:a7)(xs:List Int)(i:Nat):av:=σ.u d<|.b [.a (i:Nat),.r<|xs.map .a]
def Tk.go(h:Tk σ d xs i)(j):Tk (Tk.jv σ d xs j) d xs j:=⟨fc,h.a,h.pos,h.aT,h.small⟩
set_option tactic.hygienic false
def o5{K}(h:Tk σ d xs i)(hi:i<=1000)(r:0<m)(u:∀v,v<m->K (.a v) (Tk.jv σ d xs<|i+1)):W (n+1) 85 [.d d,.a m] σ K:=by
 refine bq [.d d,.a m,.q,.q] H<|cq<|eL h.q (bU H) H<|iY ?_;lk;apply om;obtain e:l8 σ (.d d) (.a 0) (.a<|i+1)=λK=>0<=(0:Int)/\(0:Int)<2/\2<=aR/\K (σ.u d<|.b [.a<|i+1,.r<|xs.map .a]):=by
  funext K;unfold l8;simp only[h.q];rfl
 rw[e];refine⟨Y H,Y H,Y H,bX ?_⟩;obtain f:Tk.jv σ d xs (i+1)=σ.u d (.b [.a<|(i:Int)+1,.r<|xs.map .a]):=H;rw[<-f];refine eL (h.go<|i+1).q (bU H) H ⟨lm h.aT H,db ?_⟩;rw[ba];lk;apply eL (t:=1) (h.go<|i+1).q (bU H) H;have b:=gm<|rb h.pos;refine⟨b,?_⟩;obtain g:(i:Int).fmod (O xs:Nat)=((i%O xs:Nat):Int):=by rw[Sn _<|dI _];rfl
 obtain j:(i:Int).fdiv (O xs:Nat)=((i/O xs:Nat):Int):=by rw[Int.fdiv_eq_ediv_of_nonneg _<|dI _];rfl
 rw[g];have c:=xQ i h.pos;refine qA (lm h.aT H) (by rw[nH,kN c];rfl) ⟨⟨zg H,lu hi H⟩,⟨dI _,lu h.aT H⟩,b,?_⟩;rw[j];obtain hd:=Nat.div_le_self ..;generalize i/O xs=q at hd⊢;refine om ⟨⟨zg H,lu (aV hd hi) H⟩,⟨zg H,lu (oK hi 3) H⟩,om ⟨gm<|rb r,?_⟩⟩;obtain k:=Int.add_nonneg (h.small _<|As c).1<|Int.mul_nonneg (dI _)<|dI _;refine bc (Ip k) λz hz=>?_;rw[hz];obtain l:(z:Int).fmod m=((z%m:Nat):Int):=by rw[Sn _<|dI _];rfl
 rw[l];exact u _<|xQ z r
noncomputable def LA(p:Option Nat×Nat):AV:=.B [match p.1 with|none=>.a (-1)|some m=>.a m,.a p.2]
noncomputable def vP:List<|Option Nat×Nat:=[(C,0),(I 5,0),(I 256,0),(I 0,1),(I 1,1),(I 3072,0),(C,0)]
noncomputable def vM:List<|Option Nat×Nat:=[(C,0),(C,0),(I 1,0),(I 64,0),(I 0,1)]
inductive xE(ps:List<|Option Nat×Nat)(z x!:Nat):Option iC->Prop
 |none:xE ps z x! none
 |some {m b:Nat}:(a6e m,b)∈ps->xE ps z x! (some (m,if b=0 then Option.none else a6e<|(x!+1)%z))
def Nu{K}(h:Tk σ d xs i)(hi:i<=1000)(B:0<O ps)(r:O ps<=9)(F:0<z)(u:∀x,xE ps z x! x->K (g7 x) (Tk.jv σ d xs<|i+1)):W (n+2) 102 [.d d,.a z,.a x!,.B<|ps.map LA] σ K:=by
 refine bq [.d d,.a z,.a x!,.B<|ps.map LA,.q,.q] H<|tW ?_;lk;refine⟨lm r H,?_⟩;rw[ba];refine o5 h hi B λv e=>?_;obtain f:=As e;apply dh (lm r H) (by rw[nH,kN e];rfl);generalize ps[v]=q at f;obtain⟨m,b⟩:=q;refine⟨H,dP ?_⟩;lk;rcases m with _|m;.exact iw (Y H)<|u C .none
 .refine gW (dI m)<|db ?_;lk;obtain ht:=u _<|.some f;refine ku (λc=>om ?_) λc=>?_;.obtain ht:=(Z c)▸ht;exact⟨gm<|rb F,ht⟩
  .obtain ht:=(ak c)▸ht;exact ht
structure vU(ps:List<|Option Nat×Nat)(z:Nat)(ts:List<|Option iC):Prop where
 c:∀k x,ts[k]?=some x->xE ps z k x
def vU.M(h:vU ps z ts)(r:xE ps z (O ts) x):vU ps z<|ts++[x]:=⟨λk y b=>by
 rcases tK k (O ts) with hk|hk;.rw[xX hk] at b;exact h.c k y b
 .rw[v7 hk] at b;obtain e:=v6 (RN.mp<|a6r.mp<|(jV.mp b).1) hk;subst e;rw[v4] at b;cases b;exact r⟩
structure WF(w:LW):Prop where
 c0:0<w.au
 nd:w.b.Nodup
 a:∀l∈w.b,l.t=55
 b:vU vP w.au w.bound
 d:vU vM w.au w.a
 F:w.F=[]\/w.F=[0]\/w.F=[0,1,2]
def Tk.cT(h:Tk σ d xs i)(B:∀o,σ d=I o->σ' d=I o):Tk σ' d xs i:=⟨B _ h.q,h.a,h.pos,h.aT,h.small⟩
def Tk.ne(h:Tk σ d xs i){l:a7}(ht:l.t≠64):d≠l:=λe=>ht<|aO e h.a
def Tk.u(h:Tk σ d xs i){l:a7}{o:eE}(ht:l.t≠64):Tk (σ.u l o) d xs i:=h.cT λb e=>(cN<|h.ne ht).trans e
def Tk.r(h:Tk σ d xs i){l:a7}(ht:l.t≠64):Tk (σ.r l) d xs i:=h.cT λb e=>(Z<|h.ne ht).trans e
def Zg:∀{ys σ K},
 (∀(r:List a7) σ',O r=O ys->cg r->(∀l∈r,l.t=55/\σ l=C/\σ' l=I (.b []))->(∀l o,σ l=I o->σ' l=I o)->K (r.map .d) σ')->
 iJ (n8 (W n) C) (a6 (W n)<|.L 55 []) (.B 6) dc L ys σ K:=by
 intro ys;induction ys with
 |nil=>
  intro σ K b;exact b [] σ H .nil dS λf f h=>h
 |cons y ys g=>
  intro σ K b;refine qU ⟨aE,λj fr=>⟨aE,g λr σ' hl nd ht c=>b (⟨55,j⟩::r) σ' (be (·+1) hl) (fh.mpr ⟨λi=>?_,nd⟩) (λl hl=>?_) λl o e=>c l o<|(cN λq=>?_).trans e⟩⟩;.have:=(ht _ i).2.1;rw[fc] at this;exact l7 this
  .rcases cf.mp hl with rfl|hl;.exact⟨H,fr 55,c _ _ fc⟩
   .refine gl (ht l hl) λk d m=>⟨k,?_,m⟩;by_cases z:l=⟨55,j⟩;.rw[z];exact fr 55
    .rw[cN z] at d;exact d
  .obtain e:=q▸e;obtain e:=(fr 55)▸e;exact cL e
structure Wo(σ:av)(d:a7)(xs:List Int)(i:Nat)(a b:a7)(z:Nat)(bs ds:List<|Option iC):Prop where
 tk:Tk σ d xs i
 ca:σ a=some (.b<|bs.map g7)
 cb:σ b=some (.b<|ds.map g7)
 q:a.t=53
 tb:b.t=54
 r:vU vP z bs
 dt:vU vM z ds
 aT:ds.length=bs.length
 l9:bs.length<=9
def Wo.ab{a b bs}(h:Wo σ d xs i a b z bs ds):a≠b:=a7.g h.q h.tb<|Y H
def Wo.yl{a b bs}(h:Wo σ d xs i a b z bs ds)(j):Wo (Tk.jv σ d xs j) d xs j a b z bs ds:=
 ⟨h.tk.go j,(cN<|a7.g h.q h.tk.a<|Y H).trans h.ca,(cN<|a7.g h.tb h.tk.a<|Y H).trans h.cb,h.q,h.tb,h.r,h.dt,h.aT,h.l9⟩
def S4{a b}(B:0<z):∀{m σ i bs ds x4 K},Wo σ d xs i a b z bs ds->O bs+m<=9->i+2*m<=900->
 (∀σ' r u x4,Wo σ' d xs (i+2*m) a b z r u->O r=O bs+m->K .none [.d d,.a z,.d a,.d b,x4,.q,.q] σ')->
 cu (wB (n+2) M9) (.B 4) dc (kU (O bs:Nat) m) [.d d,.a z,.d a,.d b,x4,.q,.q] σ K:=by
 intro m;induction m with
 |zero=>
  intro σ i bs ds x4 K h _ _ g;exact g σ bs ds x4 h H
 |succ m p=>
  intro σ i bs ds x4 K h j hi g;refine fj<|mg ?_;lk;refine⟨mw h.ca,Nu (ps:=vP) h.tk (bG (kX hi) H) (Y H) (Y H) B λx q=>?_⟩;obtain e:=h.yl<|i+1;refine lS e.ca ((λh=>lm h H) e.l9) ⟨aE,ia ?_⟩;obtain k:=λl x=>(d9 (l₁:=l) (l₂:=[x])).symm;rw[k];lk;have f:=e.tk.u (o:=.b<|(bs++[x]).map g7) (by rw[h.q];decide);have b2:=(cN (o:=.b<|(bs++[x]).map g7) e.ab.symm).trans e.cb;refine⟨mw b2,Nu (ps:=vM) f (bG (rN hi) H) (Y H) (Y H) B λy s=>lS ((cN<|a7.g h.tb h.tk.a<|Y H).trans b2) ((λh=>lm h H)<|h.aT▸h.l9) ⟨aE,aw ⟨aE,?_⟩⟩⟩;rw[k];obtain e1:((O bs:Nat):Int)+1=((O (bs++[x]):Nat):Int):=by rw[eK];rfl
  rw[e1];refine p ⟨(f.go<|i+1+1).u (by rw[h.tb];decide),(cN h.ab).trans<|(cN<|a7.g h.q h.tk.a<|Y H).trans fc,fc,h.q,h.tb,h.r.M q,h.dt.M<|ay h.aT s,?_,gI e1▸kX (mi j)⟩ (gI e1▸mi j) (mi (c:=2) hi) λσ' r u x4 h' t=>g σ' r u x4 (aO lT h')<|t.trans<|aO (gI e1) lT;rw[eK,eK,h.aT];rfl
theorem e33{K c ks es}:a6 F! (.zB c ks es) L σ K=kt F! ks L σ λks r=>kt F! es L r λvs σ₂=>O ks=O vs/\cg ks/\ks.all (dK c)=U/\K (.g c<|ks.zip vs) σ₂:=rfl
def wG{f}{l:List α}{v}(u:O l<=100)(r:v<O l)(B:∀x,x∈l->P (f x)):gL σ (.B<|l.map f) (.a v) P:=
 dh (lm u H) (by rw[nH,kN r];rfl) (B l[v]<|As r)
noncomputable def Jk:List<|List Nat:=[[],[0],[0,1,2]]
def Jg:∀t,t∈Jk->O t<=3/\(t=[]\/t=[0]\/t=[0,1,2]):=Y H
def Zr{K}(h:Tk σ d xs i)(hi:i<=800)(B:∀w σ' j,Tk σ' d xs j->j<=i+8->dR σ' w (λF=>[])->WF w->K (bS w) σ'):W (n+3) 103 [.d d] σ K:=by
 refine bq [.d d,.q,.q,.q,.q,.q,.q] H<|bX ?_;lk;refine o5 (m:=3) h (bG hi H) (Y H) λv u=>wG (f:=λ(k:Nat)=>AV.a k) (l:=[2,3,1]) (Y H) u λc E=>bX ?_;obtain g:0<c/\c<=3:=by
  revert c;decide
 obtain⟨g,b⟩:=g
 refineλy fa=>cq (λz I=>gg ⟨dI _,lu b H,⟨by rw[rz];exact bG b H,S4 (m:=c) g ((⟨((h.go<|i+1).u<|by show 53≠64;decide).u (by show 54≠64;decide),(cN<|by intro e;cases e).trans fc,fc,H,H,⟨λk x e=>nomatch e⟩,⟨λk x e=>nomatch e⟩,H,Y H⟩:Wo _ d xs (i+1) ⟨53,y⟩ ⟨54,z⟩ c [] [])) (ay a6R<|s6 b H) (bG (jT (jS hi)<|rc 2 b) H) λσ' bs ds x4 p q=>?_⟩⟩)
 obtain q:=(n6 ..)▸q;refine pg H p.ca<|pg H ((Z p.ab.symm).trans p.cb)<|bX ?_;obtain A:Tk ((σ'.r ⟨53,y⟩).r ⟨54,z⟩) d xs<|i+1+2*c:=(p.tk.r<|by show 53≠64;decide).r (by show 54≠64;decide);lk;refine o5 (m:=3) A (bG (jT (jS hi)<|rc 2 b) H) (Y H) λv u=>?_;refine wG (f:=λt:List Nat=>AV.B<|G t) (l:=Jk) (Y H) u λtp r=>db ?_;lk;refine⟨dI _,lu b H,⟨by rw[rz];exact bG b H,Zg (n:=n) λC s l1 nd ht D=>⟨H,(by decide+kernel),(by decide+kernel),?_⟩⟩⟩;rw[rz] at l1;refine B ⟨c,bs,ds,tp,C⟩ s (i+1+2*c+1) ((A.go<|i+1+2*c+1).cT λo e=>D d o e) (oK (jq (rc 2 b)<|i+1) 1) ⟨b,q,p.aT.trans q,l1,(Jg tp r).1,λk l e=>(ht l<|pG e).2.2,λF=>Y H⟩ ⟨g,nd,λl q=>(ht l q).1,p.r,p.dt,(Jg tp r).2⟩
structure uW where
 e:Nat
 b:Nat
 c:List Nat
 d:Nat
 a:Nat
def lQ(h:uW):AV:=.B [.a h.e,.a h.b,.r<|G h.c,.a h.d,.a h.a]
noncomputable def Gi:List Nat:=[16,64,1,512,48,256,80,32,1026,4,0,2064,8192,4096,130,3072]
noncomputable def tA:List Nat:=[0,0,0,1,256,5,2050]
structure lH(z:Nat)(h:uW):Prop where
 e:h.e∈Gi
 b:h.b∈tA
 ax:(∃f,f<z/\h.c=[f])\/∃f,f<z/\1<z/\h.c=[f,(f+1)%z]
 d:h.d<4
 a:(h.d=3/\h.a∈[0,0,2])\/(h.d≠3/\h.a∈[0,0,4,16,2])
def Tk.F{B:av}(h:Tk σ d xs i){l:a7}{o:eE}{j:Nat}(M:l.t≠64)(e:B l=I o):Tk.jv B d xs j l=I o:=(cN λ(q:l=d)=>M<|ay q h.a).trans e
abbrev w_:List PS:=[.u 5,
 .g 6 (.j 85 [V0,N4]),
 .d (.h .eq V6 N3)
  [.g 7<|.n (.B [gi 0,gi 0,gi 2])<|.j 85 [V0,N3]]
  [.g 7<|.n (.B [gi 0,gi 0,gi 4,gi 16,gi 2])<|.j 85 [V0,ki 5]],
 .c (.B [V2,V3,V5,V6,V7])]
def Gg{K}{b f:Nat}(h:Tk σ d xs i)(hi:i<=900)(u:σ ⟨56,j⟩=I (.b<|G ws))(r:∀dy aY,dy<4->((dy=3/\aY∈[0,0,2])\/(dy≠3/\aY∈[0,0,4,16,2]))->K (lQ ⟨k,b,ws,dy,aY⟩) (Tk.jv (σ.r ⟨56,j⟩) d xs<|i+2)):
 wB (n+1) w_ [.d d,.a z,.a k,.a b,.a f,.d ⟨56,j⟩,.q,.q] σ (rK K):=by
 refine pg H u<|cq ?_;have g:Tk (σ.r ⟨56,j⟩) d xs i:=h.r (by show 56≠64;decide);lk;refine o5 g (bG hi H) (Y H) λdy p=>kA ?_;have fS:∀a,Tk.jv (Tk.jv (σ.r ⟨56,j⟩) d xs<|i+1) d xs (a+1)=Tk.jv (σ.r ⟨56,j⟩) d xs (a+1):=λa=>u6;by_cases c:dy=3;.refine gO (by rw[c];rfl)<|cq ?_;lk;refine o5 (g.go<|i+1) (qJ hi H) (Y H) λv m=>wG (f:=λk:Nat=>AV.a k) (l:=[0,0,2]) (Y H) m λaY o=>aw<|f7 ?_;lk;rw[fS];exact r dy aY p<|.inl ⟨c,o⟩
 .refine eh (λe=>c<|gI e)<|cq ?_;lk;refine o5 (g.go<|i+1) (qJ hi H) (Y H) λv m=>?_;refine wG (f:=λk:Nat=>AV.a k) (l:=[0,0,4,16,2]) (Y H) m λaY o=>aw<|f7 ?_;lk;rw[fS];exact r dy aY p<|.inr ⟨c,o⟩
def Zz{K}(h:Tk σ d xs i)(hi:i<=800)(h0:0<z)(F:∀q σ' j,lH z q->Tk σ' d xs j->j<=i+6->(∀l o,l.t≠64->σ l=I o->σ' l=I o)->K (lQ q) σ'):W (n+2) 104 [.d d,.a z] σ K:=by
 refine bq [.d d,.a z,.q,.q,.q,.q,.q,.q] H<|bX ?_;lk;refine o5 h (bG hi H) (Y H) λU C=>wG (f:=λk:Nat=>AV.a k) (l:=Gi) (Y H) C λD r=>bX ?_;lk;refine o5 (h.go<|i+1) (xf hi H) (Y H) λV E=>wG (f:=λk:Nat=>AV.a k) (l:=tA) (Y H) E λbs s=>bX ?_;obtain O:=(h.go<|i+1).go<|i+1+1;refine o5 O (qJ (x:=2) hi H) h0 λf L=>bX ?_;obtain P:=O.go<|i+1+1+1;intro j fr;obtain M:∀l o,l.t≠64->σ l=I o->Tk.jv (Tk.jv (Tk.jv σ d xs<|i+1) d xs<|i+1+1) d xs (i+1+1+1) l=I o:=λl o m e=>
  h.F m (h.F m<|h.F m e)
 generalize Tk.jv (Tk.jv (Tk.jv σ d xs<|i+1) d xs<|i+1+1) d xs (i+1+1+1)=c at P fr M⊢;obtain v:Tk (c.u ⟨56,j⟩<|.b [.a f]) d xs<|i+1+1+1:=P.u (by show 56≠64;decide);have bD:∀g k,Tk g d xs k->(∀l o,l.t≠64->l≠⟨56,j⟩->c l=I o->g l=I o)->∀l o,l.t≠64->σ l=I o->Tk.jv (g.r ⟨56,j⟩) d xs (k+2) l=I o:=λg k t R l o m e=>by
  have p:l≠⟨56,j⟩:=λq=>by have:=M l o m e;rw[q,fr 56] at this;exact cL this
  exact h.F m<|(Z p).trans<|R l o m p<|M l o m e
 apply bV;lk;by_cases B:1<z
 .refine uo (jH.mpr B)<|o5 v (qJ (x:=3) hi H) (Y H) λS T=>?_;obtain u:=v.go<|i+1+1+1+1;obtain N:Tk.jv (c.u ⟨56,j⟩<|.b [.a (f:Nat)]) d xs (i+1+1+1+1) ⟨56,j⟩=I (.b<|G [f]):=h.F (by show 56≠64;decide) fc;have Q:∀l o,l.t≠64->l≠⟨56,j⟩->c l=I o->Tk.jv (c.u ⟨56,j⟩<|.b [.a (f:Nat)]) d xs (i+1+1+1+1) l=I o:=λl o m p e=>h.F m<|(cN p).trans e;by_cases b:S=3;.refine gO (by rw[b];rfl)<|mg ?_;lk;exact⟨mw N,om ⟨gm<|rb<|Nat.lt_of_succ_lt B,lS N (bU H) ⟨aE,aw<|Gg (u.u<|by show 56≠64;decide) (qJ (x:=4) hi H) fc λdy aY y A=>F ⟨D,bs,[f,(f+1)%z],dy,aY⟩ _ (i+1+1+1+1+2) ⟨r,s,.inr ⟨f,L,B,H⟩,y,A⟩ (((u.u<|by show 56≠64;decide).r<|by show 56≠64;decide).go _) (a6s _)<|bD _ _ (u.u<|by show 56≠64;decide) λl o m p e=>(cN p).trans<|Q l o m p e⟩⟩⟩
  .exact eh (λe=>b<|gI e)<|aw<|Gg u (qJ (x:=4) hi H) N λdy aY y A=>F ⟨D,bs,[f],dy,aY⟩ _ (i+1+1+1+1+2) ⟨r,s,.inl ⟨f,L,H⟩,y,A⟩ ((u.r<|by show 56≠64;decide).go _) (a6s _)<|bD _ _ u Q
 .exact o9 (iH.mpr<|fw.mp B)<|bd<|aw<|Gg v (qJ (x:=3) hi H) fc λdy aY y A=>F ⟨D,bs,[f],dy,aY⟩ _ (i+1+1+1+2) ⟨r,s,.inl ⟨f,L,H⟩,y,A⟩ ((v.r<|by show 56≠64;decide).go _) (gR _)<|bD _ _ v λl o m p e=>(cN p).trans e
noncomputable def kB(b:Nat):Nat:=(b|||(if b&&&256≠0 then 51 else 0))|||((b&&&15)<<<4)
def pZ(w:LW)(dy m r k:Nat):List cQ:=mU (decide<|1<dy) (decide<|dy=3) (p0<|eu w k) m r
def dR.B(h:dR σ w R)(nd:cg w.b)(F:w.b[x!]?=I l)(x)(h4:O (R x!)<40):dR (σ.u l<|.b<|(R x!).map lg++[lg x]) w (RU x! [x] R) where
 a:=h.a
 b:=h.b
 d:=h.d
 l:=h.l
 tl:=h.tl
 c:=λk f c=>by
  unfold RU;by_cases z:k=x!;.subst z;cases F.symm.trans c;rw[fc,ak H,d9];rfl
  .rw[cN (λe=>z (by
    exact bc (jV.mp c) λi g=>bc (jV.mp F) λb1 b2=>(R4 nd).mp<|g.trans<|e.trans b2.symm)),Z z];exact h.c k f c
 aT:=λk=>by
  unfold RU;by_cases z:k=x!;.subst z;rw[ak H,eK];exact h4
  .rw[Z z];exact h.aT k
def ZF(w)(dy m r k):O (pZ w dy m r k)<=1:=Ce ..
def MK{x}(h:dR σ w R)(nd:cg w.b)(r:x!<w.au)(h4:O (R x!)<40)(u:dg L 0=bS w)(B:dg L 9=.a x!)(F:∀P,P (lg x) σ->a6 (W n) e L σ P)(M:∀σ',dR σ' w (RU x! [x] R)->(∀l o,l∉w.b->σ l=I o->σ' l=I o)->wB n rest L σ' K):
 wB n (.l (.append (.n (.n V0<|.k<|AV.f mf) V9) e)::rest) L σ K:=by
 obtain⟨c,b⟩:=qW h.l r;apply mg;dsimp only[a6];rw[u];dsimp only[iW];rw[B];dsimp only[iW];exact yR<|og (ay h.l<|bG h.a H) b ⟨mw<|h.c x! c b,F _<|lS (h.c x! c b) (lm (h.aT x!) H) ⟨aE,M _ (h.B nd b x h4) λl o d e=>(cN λ(q:l=c)=>d<|ay q<|pG b).trans e⟩⟩
abbrev Oj:List PS:=[.l<|.append (.n (.n V0<|.k<|AV.f mf) V9)<|.B [iB,V6,.D (.h .eq V5 N3) N1 N0,.h .gt V5 N1]]
abbrev Cc:List PS:=[.d (.q .a V6<|gi 16)
 [.d (.h .ne V8<|gi 4096)
  [.l<|.append (.n (.n V0<|.k<|AV.f mf) V9)<|.B [V8,V6,N2,kF]]
  []]
 (.g 10 (.D (.u (.h .gt V5 N1)<|.K<|.j 96 [V0,V9]) (.j 88 [V8]) V8)::Oj)]
def a0c(nd:cg w.b):∀{ws R N σ x9 A_ K},dR σ w R->(∀k,O (R k)<=N)->N+O ws<=40->cg ws->(∀k∈ws,k<w.au)->
 (∀σ' x9 A_,dR σ' w (RA ws (pZ w dy m r) R)->(∀k,O (RA ws (pZ w dy m r) R k)<=N+O ws)->(∀l o,l∉w.b->σ l=I o->σ' l=I o)->K .none [bS w,rv,.a m0,.a B,.r<|G F,.a dy,.a r,.a rm,.a m,x9,A_] σ')->
 cu (wB (n+2) Cc) (.B 9) dc (G ws) [bS w,rv,.a m0,.a B,.r<|G F,.a dy,.a r,.a rm,.a m,x9,A_] σ K:=by
 intro ws;induction ws with
 |nil=>
  intro R N σ x9 A_ K h D _ _ _ Q;exact Q σ x9 A_ (ay (Hn (pZ w dy m r) R) h) (ay (Hn (pZ w dy m r) R) D) λi i i e=>e
 |cons p ws ih=>
  intro R N σ x9 A_ K h D j f V Q;obtain S:=V p aZ;have go:∀σ' A_,dR σ' w (RU p (pZ w dy m r p) R)->(∀l o,l∉w.b->σ l=I o->σ' l=I o)->cu _ _ _ _ [bS w,rv,.a m0,.a B,.r<|G F,.a dy,.a r,.a rm,.a m,.a p,A_] σ' K:=λσ' A_ h' s=>
   ih h' (QI D (ZF ..) p) (mi j) ((fh.mp f)).2 (jw V) λt x9 A_ T y U=>Q t x9 A_ (aO (CT ((fh.mp f)).1) T) (λk=>by have:=y k;obtain this:=(CT ((fh.mp f)).1)▸this;rw[kq];exact aV this<|gG lT) λl o X e=>U l o X (s l o X e)
  obtain h4:O (R p)<40:=by have:=D p;exact gQ this<|eR (xT<|sx _) j
  refine fj<|bV ?_;lk;refine i8 (b:=16)<|ku (λz=>?_) λz=>?_
  .have E:pZ w dy m r p=pL m r:=ak z;apply bV;lk;apply i9;by_cases u:m=4096;.rw[bA<|by rw[u];rfl];refine bd (aw<|aw ⟨aE,go σ A_ (by rw[E.trans<|ak u,QH];exact h) λi i i e=>e⟩)
   .rw[bR λe=>u<|gI e];have er:=E.trans<|Z u;refine bw<|MK (x:=⟨m,r,2,am⟩) h nd S h4 H H (λP g=>g) λσ' h' s=>aw<|aw ⟨aE,go σ' A_ (by rw[er];exact h') s⟩
  .have E:pZ w dy m r p=[⟨if decide (1<dy)&&!p0 (eu w p) then lc m else m,r,if decide (dy=3) then 1 else 0,decide<|1<dy⟩]:=Z λq=>q z;have bD:∀v,v=(if decide (1<dy)&&!p0 (eu w p) then lc m else m)->wB (n+2) Oj [bS w,rv,.a m0,.a B,.r<|G F,.a dy,.a r,.a rm,.a m,.a p,.a v] σ
    (mB (W<|n+2) [] λr_1 d c=>match r_1 with|none=>True/\cu (wB (n+2) Cc) (.B 9) dc (G ws) d c K|some v=>K (I v) d c):=λv ev=>by
    subst ev;refine MK h nd S h4 H H (λP g=>?_) λσ' h' s=>aw (aw ⟨aE,go σ' _ (by rw[E];exact h') s⟩);lk;obtain A:eZ σ .gt (.a dy) (.a 1)=λK=>K<|.e<|decide<|(1:Int)<dy:=H;obtain C:=jp.mpr jH;by_cases L:dy=3;.apply gO (by rw[L];rfl);rw[A,C];rw[bA L] at g;exact g
    .apply eh (λe=>L<|gI e);rw[A,C];rw[bR L] at g;exact g
   apply bX;lk;by_cases M:1<dy
   .refine uo (jH.mpr M)<|Ny h S ?_;rcases Y:p0 (eu w p) with _|_;.exact im (bw<|Nr m<|bD (lc m)<|by rw[Y,bA M];rfl)
    .exact im<|bd<|bD m<|by rw[Y,Su,wg];rfl
   .refine o9 (iH.mpr<|fw.mp M)<|bd<|bD m<|by rw[bR M];rfl
def pY(w:LW)(q:uW)(R:Nat->List cQ):Nat->List cQ:=RA q.c (pZ w q.d (oz q.e<|kB q.b)<|mo q.e (kB q.b) (O q.c) q.a) R
def lH.aT(h:lH z q):O q.c=1\/O q.c=2:=by
 rcases h.ax with⟨f,_,e⟩|⟨f,_,_,e⟩<;>rw[e]
 .exact .inl H
 .exact .inr H
def lH.nd(h:lH z q):cg q.c/\∀k∈q.c,k<z:=by
 rcases h.ax with⟨f,b,e⟩|⟨f,b,d,e⟩;.rw[e];exact⟨fh.mpr ⟨λh=>(nomatch h),.nil⟩,λk hk=>ay (d8.mp hk) b⟩
 .rw[e];refine⟨fh.mpr ⟨λh=>?_,fh.mpr ⟨λh=>(nomatch h),.nil⟩⟩,λk hk=>?_⟩
  .obtain e:=d8.mp h;rcases tK (f+1) z with z|z;.obtain e:=(a6o z)▸e;exact aP e (hZ<|lY f)
   .obtain c:=v6 b z;obtain e:=(c ..)▸e;obtain e:=(Nat.mod_self ..)▸e;obtain c:=e▸c;exact aP d<|aO c<|Y H
  .rcases cf.mp hk with rfl|hk;.exact b
   .exact ay (d8.mp hk)<|xQ _<|eR (Y H)<|je d
abbrev MU:List PS:=[.d (.h .eq V8 N0)
 [.g 8 V2]
 [],
 .h (.B 9) V4 Cc]
def Gj{K}(h:dR σ w R)(wf:WF w)(ho:lH w.au q)(B:∀k,O (R k)<=N)(u:N+2<=40)(F:r=mo q.e (kB q.b) (O q.c) q.a)(M:∀σ',dR σ' w (pY w q R)->(∀k,O (pY w q R k)<=N+2)->(∀l o,l∉w.b->σ l=I o->σ' l=I o)->K .j σ'):
 wB (n+2) MU [bS w,lQ q,.a q.e,.a q.b,.r<|G q.c,.a q.d,.a r,.a rm,.a (q.e-(q.e&&&kB q.b):Nat),.q,.q] σ (rK K):=by
 obtain bD:∀m,m=oz q.e (kB q.b)->wB (n+2) [.h (.B 9) V4 Cc] [bS w,lQ q,.a q.e,.a q.b,.r<|G q.c,.a q.d,.a r,.a rm,.a m,.q,.q] σ (rK K):=λm d=>by
  obtain b:=ho.aT;refine lf ⟨by rw[ba];rcases b with e|e<;>rw[e]<;>decide,a0c wf.nd h B (aV (jq (b.elim (λz=>rd<|gG z) gG) N) u) ho.nd.1 ho.nd.2 λσ' x9 A_ h' c f=>aw ?_⟩;subst d F;exact M σ' h' (λk=>aV (c k)<|jq (b.elim (λz=>rd<|gG z) gG) N) f
 apply bV;by_cases z:q.e-(q.e&&&kB q.b)=0;.refine gO (by rw[z];rfl)<|bX ?_;lk;exact aw<|bD q.e<|by unfold oz;rw[ak z]
 .refine eh (λe=>z<|gI e)<|aw<|bD _<|by unfold oz;rw[Z z]
def ZA{K}(h:dR σ w R)(wf:WF w)(ho:lH w.au q)(B:∀k,O (R k)<=N)(u:N+2<=40)(F:∀σ',dR σ' w (pY w q R)->(∀k,O (pY w q R k)<=N+2)->(∀l o,l∉w.b->σ l=I o->σ' l=I o)->K .j σ'):W (n+3) 105 [bS w,lQ q] σ K:=by
 refine bq [bS w,lQ q,.q,.q,.q,.q,.q,.q,.q,.q,.q] H<|tW ⟨H,cq ?_⟩;lk;refine i8 (b:=256)<|((λP d=>by
  refine ku (λz=>?_) λz=>?_;.refine gX (b:=51)<|i8 (b:=15)<|zj (b:=4) (bG Dh H) (Y H)<|gX _ ?_;unfold kB at d;rw[ak z] at d;exact d
  .refine gX (b:=0)<|i8 (b:=15)<|zj (b:=4) (bG Dh H) (Y H)<|gX _ ?_;unfold kB at d;rw[Z λq=>q z] at d;exact d:∀P:AV->Prop,P (.a (kB q.b:Nat))->c7 σ (.a ((q.b&&&256:Nat):Int)) λc=>if c=U then jr σ .b (.a q.b) (.a 51) λr=>jr σ .a (.a q.b) (.a 15) λy=>jr σ .c y (.a 4) λs=>jr σ .b r s P else jr σ .b (.a q.b) (.a 0) λr=>jr σ .a (.a q.b) (.a 15) λy=>jr σ .c y (.a 4) λs=>jr σ .b r s P)) _ (bX ?_)
 lk;refine tc<|s9 _<|bV ?_;lk;refine⟨(by rw[ba];rcases ho.aT with e|e<;>rw[e]<;>decide),?_⟩;rw[ba];obtain bO:mo q.e (kB q.b) (O q.c) q.a=q.a|||1->wB (n+2) [.g 6<|.q .b V6<|gi 1] [bS w,lQ q,.a q.e,.a q.b,.r<|G q.c,.a q.d,.a q.a,.a (kB q.b:Nat),.a (q.e-(q.e&&&kB q.b):Nat),.q,.q] σ (mB (W<|n+2) MU<|rK K):=λe=>by
  apply bX;lk;exact gX (b:=1)<|aw<|Gj h wf ho B u e.symm F
 by_cases f:O q.c=1
 .rw[f];apply o9<|Y H;by_cases z:q.e-(q.e&&&kB q.b)=0
  .refine kC (by rw[z];rfl)<|i9 ?_;by_cases g:q.e=0;.have e:=bA<|iq g;rw[e];exact bd (aw<|Gj h wf ho B u (by unfold mo;rw[Z λo=>o.elim (λx=>x f) λx=>x.2 g]) F)
   .have e:=bR<|gm g;rw[e];exact bw<|bO<|ak<|.inr ⟨z,g⟩
  .refine fU (λe=>z<|gI e)<|bd<|aw<|Gj h wf ho B u ?_ F;unfold mo;rw[Z λo=>o.elim (λx=>x f) λx=>z x.1]
 .rw[ho.aT.resolve_left f];exact uo (Y H)<|bw<|bO<|ak<|.inl f
inductive Sp where
 |cell (t:Nat) (o:eE)
 |val (v:AV)
structure AS where
 f:Nat
 e:PE
 s:Sp
noncomputable def rq:List AS->List Nat
 |[]=>[]
 |⟨_,_,.cell t _⟩::r=>t::rq r
 |⟨_,_,.val _⟩::r=>rq r
noncomputable def fieldsOf(N:Nat->Nat):List AS->List (Nat×AV)
 |[]=>[]
 |⟨f,_,.cell t _⟩::r=>(f,.d ⟨t,N t⟩)::fieldsOf N r
 |⟨f,_,.val v⟩::r=>(f,v)::fieldsOf N r
noncomputable def xa(N:Nat->Nat):List AS->List kO
 |[]=>[]
 |⟨_,_,.cell t o⟩::r=>(⟨t,N t⟩,o)::xa N r
 |⟨_,_,.val _⟩::r=>xa N r
def sk(n:Nat)(L:List AV)(e:PE):Sp->Prop
 |.cell t o=>∀(σ:av)(K:AV->av->Prop),(∀j,qr σ j->K (.d ⟨t,j⟩) (σ.u ⟨t,j⟩ o))->a6 (W n) e L σ K
 |.val v=>∀(σ:av)(K:AV->av->Prop),K v σ->a6 (W n) e L σ K
def QP(σ σ':av)(v:AV):Sp->Prop
 |.cell t o=>∃j,v=.d ⟨t,j⟩/\σ' ⟨t,j⟩=I o/\σ ⟨t,j⟩=C
 |.val u=>v=u
theorem OL:∀{fs f v},f∉fs.map (·.1)->oA fs f v=fs++[(f,v)]
 |[],f,v,_=>rfl
 |(k,u)::r,f,v,h=>by
  show(if k=f then _ else _)=_;rw[Z<|(λe=>h (ay e aZ):k≠f),OL λq=>h<|bK _ q];rfl
def YZ{c f s}(r:dg L 0=.d g)(ok:sk n L e s)(h:σ g=I (.d c fs))(B:f∉fs.map (·.1))(F:O fs<=100)(M:∀σ' v,σ' g=I (.d c<|fs++[(f,v)])->QP σ σ' v s->(∀l o,l≠g->σ l=I o->σ' l=I o)->wB n rest L σ' K):
 wB n (.j V0 f e::rest) L σ K:=by
 apply ry;simp only[e3,r];have bD:∀b v,b g=I (.d c fs)->QP σ (b.u g<|.d c<|fs++[(f,v)]) v s->(∀l o,l≠g->σ l=I o->b l=I o)->oQ b (.d g) f v λd=>wB n rest L d K:=λb v k m p=>by
  unfold oQ;simp only[k];refine⟨F,?_⟩;rw[OL B];exact M _ v fc m λl o ne e=>(cN ne).trans<|p l o ne e
 clear r B F M;cases s with
 |val u=>exact ok σ _<|bD σ u h H λi i i e=>e
 |cell t o=>
  refine ok σ _ λj fr=>?_;obtain ne:g≠⟨t,j⟩:=λq=>by obtain h:=q▸h;obtain h:=(fr t)▸h;exact cL h
  exact bD _ _ ((cN ne).trans h) ⟨j,H,(cN ne.symm).trans fc,fr t⟩ λl o' i e=>(cN λq=>by obtain e:=q▸e;obtain e:=(fr t)▸e;exact cL e).trans e
def EV{c:Nat}(g0:dg L 0=.d g){rest:List PS}{K:Option AV->List AV->av->Prop}:∀{as:List AS}{N:Nat->Nat}{σ:av}{fs:List<|Nat×AV},(∀a∈as,sk n L a.e a.s)->σ g=I (.d c fs)->cg (fs.map (·.1)++as.map AS.f)->cg (rq as)->O fs+O as<=100->g.t∉rq as->
 (∀r σ',(∀t,t∉rq as->r t=N t)->σ' g=I (.d c<|fs++fieldsOf r as)->(∀p∈xa r as,σ' p.1=I p.2/\p.1≠g/\σ p.1=C)->(∀l o,l≠g->σ l=I o->σ' l=I o)->wB n rest L σ' K)->
 wB n (as.map (λa=>PS.j V0 a.f a.e)++rest) L σ K:=by
 intro as;induction as with
 |nil=>
  intro N σ fs _ h _ _ _ _ z;exact z N σ (λA A=>H) (by rw[show fieldsOf N []=[] from H,jG];exact h) dS λA A A e=>e
 |cons a as M=>
  intro N σ fs ok h i d B gt z;rw[kq] at B;have S:=λT=>(kL.mp i).2.2 _ T _ aZ H;obtain k:∀v:AV,cg<|(fs++[(a.f,v)]).map (·.1)++as.map AS.f:=λv=>by
   rw[d9,gc];exact i
  refine YZ g0 (ok a aZ) h S (kX B) λσ' v P h4 F=>?_;have zF:∀{b:av}{p:kO},b p.1=I p.2/\p.1≠g/\σ' p.1=C->b p.1=I p.2/\p.1≠g/\σ p.1=none:=λ{b p} h=>⟨h.1,h.2.1,by
   rcases e:σ p.1 with _|o;.rfl
   .have:=F p.1 o h.2.1 e;rw[h.2.2] at this;exact cL this⟩
  obtain⟨f,e,s⟩:=a;cases s with
  |val u=>
   cases h4;refine M (jw ok) P (k v) d (by rw[eK];show O fs+1+_<=_;exact mi B) gt λr b D m G E=>z r b D ?_ (λp hp=>zF<|G p hp) λl o ne e=>E l o ne<|F l o ne e;rw[gc] at m;exact m
  |cell t o=>
   obtain⟨j,rfl,ho,U⟩:=h4;refine bY (fh.mp d) λht d=>?_;have gt:=gt;refine M (N:=λx=>if x=t then j else N x) (jw ok) P (k _) d (by rw[eK];show O fs+1+_<=_;exact mi B) (λq=>gt<|bK _ q) λr b D m G E=>?_;obtain Q:=(D t ht).trans<|ak H;refine z r b (λx y=>(D x λq=>y<|bK _ q).trans<|Z λ(q:x=t)=>y<|ay q aZ) ?_ (λp hp=>?_) λl o ne e=>E l o ne<|F l o ne e;.show b g=I (.d c<|fs++(f,.d ⟨t,r t⟩)::fieldsOf r as);rw[Q];rw[gc] at m;exact m
   .rcases cf.mp hp with rfl|hp;.rw[Q];obtain R:(⟨t,j⟩:a7)≠g:=λq=>gt<|aO q aZ;exact⟨E _ _ R ho,R,U⟩
    .exact zF<|G p hp
noncomputable def ym:List AS:=[⟨0,.L 10 [],.cell 10<|.b []⟩,⟨1,.w 11 2,.cell 11<|.a 2 []⟩,⟨2,.r [.k AV.j],.val<|.r [.j]⟩,⟨3,.L 12 [],.cell 12<|.b []⟩,⟨4,.L 13 [],.cell 13<|.b []⟩,⟨5,.L 14 [],.cell 14<|.b []⟩,⟨6,.w 15 0,.cell 15<|.a 0 []⟩,⟨7,.w 16 0,.cell 16<|.a 0 []⟩,⟨8,.k<|.a 0,.val<|.a 0⟩,⟨9,.k<|.a 0,.val<|.a 0⟩]
abbrev Uo:PS:=.h (.B 1) (.g Cj) Fu
theorem a7z:PH.body=ym.map (λa=>PS.j V0 a.f a.e)++[Uo]:=rfl
noncomputable def Jp(g:a7)(N:Nat->Nat):kJ:=⟨g,⟨10,N 10⟩,⟨11,N 11⟩,⟨12,N 12⟩,⟨13,N 13⟩,⟨14,N 14⟩,⟨15,N 15⟩,⟨16,N 16⟩⟩
def OY:cg nU:=by decide+kernel
def a0H:∀r∈nU,(match r with|.B _=>U|_=>am)=U/\dK 2 r=true:=by decide+kernel
def O0(e:T.e=nU):bF T:=
 ⟨ay e OY,by rw[e];rfl,λt row b h=>by
  exact aP (jV.mp<|e▸h).1<|fw.mpr b⟩
def kR{t c}:sk n L (.w t c)<|.cell t<|.a c []:=λb b h=>h
def yq{t}:sk n L (.L t [])<|.cell t<|.b []:=λb b h=>h
def pO:sk n L (.k v)<|.val v:=λb b h=>h
def D4:sk n L (.g v)<|.val v:=λb b h=>h
def a0I:∀{u pre σ T x K},pre++u=nU->cp σ tl T->T=⟨pre,[],[],[]⟩->
 (∀σ' x,cp σ' tl ⟨nU,[],[],[]⟩->(∀l o,σ l=I o->l≠tl.e->l≠tl.a->σ' l=I o)->K .none [.d tl.h,x] σ')->
 cu (wB (n+1) Fu) (.B 1) dc u [.d tl.h,x] σ K:=by
 intro u;induction u with
 |nil=>
  intro pre σ T x K e h f g;rw[jG] at e;subst f;exact g σ x (aO e h) λi i e i i=>e
 |cons r u q=>
  intro pre σ T x K e h f g;obtain j:=e▸gA _ aZ;refine bY (a0H r j) λs t=>?_;induction r using AV.casesOn with
  |B xs=>
   obtain b:=OY;rw[<-e] at b;obtain c:O nU=16:=H;subst f;refine fj<|ia ?_;lk;exact fY h.h H<|Ll h (by
    rw[<-e,eK] at c;exact bG (Nat.le_of_add_right_le<|gG c) H) t (λj=>(kL.mp b).2.2 _ j _ aZ H) λσ' h' v=>⟨aE,aw ⟨aE,q (by rw[gc];exact e) h' H λd x k m=>g d x k λl o e e1 p=>m l o (v l o e e1 p) e1 p⟩⟩
  |_=>exact dj s
structure a5i(σ:av)(tl:kJ)(σ':av):Prop where
 h:cp σ' tl ⟨nU,[],[],[]⟩
 a:tl.h.t=57
 cT:∀l o,σ l=some o->σ' l=some o
theorem Pe{K c t es}:a6 F! (.new c t es) L σ K=kt F! es L σ λvs u=>∀n,qr u n->match IT c with
 |some f=>F! f (.d ⟨t,n⟩::vs) (u.u ⟨t,n⟩<|.d c []) λr b=>r=.j/\K (.d ⟨t,n⟩) b
 |.none=>vs=[]/\K (.d ⟨t,n⟩) (u.u ⟨t,n⟩<|.d c []):=rfl
def Un{K}(r:∀tl σ',a5i σ tl σ'->K (.d tl.h) σ'):a6 (W<|n+2) (.new 0 57 []) L σ K:=by
 refineλj fr=>bq [.d ⟨57,j⟩,.q] H (EV (N:=λc=>0) H ((show∀a∈ym,sk (n+1) [.d ⟨57,j⟩,.q] a.e a.s from by
  unfold ym;simp only[cf,jU,or_false,forall_eq_or_imp,forall_eq];exact⟨yq,kR,λc c h=>h,yq,yq,yq,kR,kR,pO,pO⟩)) fc (Y H) (Y H) (Y H) (by show 57∉rq ym;decide) λN σ' c i d f=>?_)
 obtain at_:∀{t:Nat}{o:eE},(⟨t,N t⟩,o)∈xa N ym->σ' ⟨t,N t⟩=I o:=λh=>(d _ h).1;refine lf ⟨by decide+kernel,a0I (tl:=Jp ⟨57,j⟩ N) H ⟨i,at_<|.head _,at_<|.tail _<|.head _,at_<|.tail _<|.tail _<|.head _,at_<|.tail _<|.tail _<|.tail _<|.head _,at_<|.tail _<|.tail _<|.tail _<|.tail _<|.head _,H,H,H,H,H⟩ H λb x k m=>aw ⟨H,r (Jp ⟨57,j⟩ N) b ⟨k,H,λl o e=>?_⟩⟩⟩;obtain g:∀l',(σ.u ⟨57,j⟩<|.d 0 []) l'=C->l≠l':=λl' h q=>by
  subst q;by_cases z:l=⟨57,j⟩;.rw[z,fc] at h;exact l7 h
  .rw[cN z,e] at h;exact l7 h
 obtain e1:l≠⟨57,j⟩:=λq=>by obtain e:=q▸e;obtain e:=(fr 57)▸e;exact cL e
 exact m l o (f l o e1<|(cN e1).trans e) (g _ (d _<|.head _).2.2)<|g _ (d _<|.tail _<|.head _).2.2
def sr(T T':bP):Prop:=∃r,T'.e=T.e++r
def bP.Le.r(h:T.Le T'):sr T T':=h.e
def sr.same(e:T'.e=T.e):sr T T':=⟨[],by rw[e,jG]⟩
def bB.M(le:sr T T'){t b}(h:bB T t b):bB T' t b:=by
 refine bc le λr e=>⟨h.1,?_⟩;rw[e,xX (jV.mp h.2).1];exact h.2
theorem eU.M(le:sr T T'){E bs:List Nat}(h:eU T E bs):eU T' E bs:=by
 induction h with
 |nil=>exact .nil
 |cons a _ b=>exact .cons (a.M le) b
theorem Is.M(le:sr T T'){t m:Nat}(h:Is T t m):Is T' t m:=by
 refine gk h λE bs p e=>⟨E,bs,?_,e⟩;cases p with
 |nil=>exact .nil
 |B a=>exact .B<|a.M le
 |a b c d f h4=>
  refine .a (bc le λr e=>?_) c (d.M le) f h4;rw[e,xX (jV.mp b).1];exact b
theorem bF.same(g:bF T)(e:T'.e=T.e):bF T':=⟨ay e g.q,by rw[e];exact g.first,λt row b h=>by
 obtain h:=e▸h;rcases g.FC t row b h with h|⟨E,bs,c,d,f,h4⟩;.exact .inl h
 .exact .inr ⟨E,bs,c,d,f.M<|.same e,h4⟩⟩
noncomputable def kJ.r(tl:kJ):List a7:=[tl.e,tl.a,tl.d,tl.g,tl.j]
structure QO(tl:kJ)(σ:av)(T:bP)(σ':av)(T':bP):Prop where
 h:cp σ' tl T'
 y:bF T'
 c:sr T T'
 d:T'.d=T.d++[.a<|-1]
 g:T'.g=T.g++[.a<|-1]
 cT:∀l o,σ l=some o->l∉tl.r->σ' l=some o
def cp.J7(h:cp σ tl T)(vs):cp (σ.u tl.d<|.b vs) tl {T with d:=vs}:=o7 h.b λc d b f g=>⟨(cN<|h.yM h.d λi i e=>by cases e).trans h.h,(cN<|a7.g c b<|Y H).trans h.e,(cN<|a7.g d b<|Y H).trans h.a,fc,(cN<|a7.g f b<|Y H).trans h.g,(cN<|a7.g g b<|Y H).trans h.j,h.b⟩
def cp.J3(h:cp σ tl T)(vs):cp (σ.u tl.g<|.b vs) tl {T with g:=vs}:=o7 h.b λc d f b g=>⟨(cN<|h.yM h.g λi i e=>by cases e).trans h.h,(cN<|a7.g c b<|Y H).trans h.e,(cN<|a7.g d b<|Y H).trans h.a,(cN<|a7.g f b<|Y H).trans h.d,fc,(cN<|a7.g g b<|Y H).trans h.j,h.b⟩
def cp.Vf(h:cp σ tl T)(vs):cp (σ.u tl.j<|.b vs) tl {T with j:=vs}:=o7 h.b λc d f g b=>⟨(cN<|h.yM h.j λi i e=>by cases e).trans h.h,(cN<|a7.g c b<|Y H).trans h.e,(cN<|a7.g d b<|Y H).trans h.a,(cN<|a7.g f b<|Y H).trans h.d,(cN<|a7.g g b<|Y H).trans h.g,fc,h.b⟩
def Qc(p)(h:p<4):gz (14+p)=.B [.a 10,.a p]:=by
 revert p;decide+kernel
def L8{K s}(h:cp σ tl T)(g:bF T)(r:O T.d=p)(hd:O T.g=p)(B:O T.j=p)(h4:p<4)(F:∀t σ' T',QO tl σ T σ' T'->O T'.j=p+1->bB T' t (14+p)->K (.a t) σ'):W (n+2) 5 [.d tl.h,.f s,.a<|-1,.a<|-1] σ K:=by
 refine bq [.d tl.h,.f s,.a<|-1,.a<|-1,.q] H<|cq ?_;lk;obtain le:∀{vs:List AV},O vs=p->O vs<=aR:=λe=>by rw[e];exact bG (je h4) H
 apply aU h.h H;obtain i:jX σ (.d tl.d)=λK=>K T.d:=by funext K;unfold jX;rw[wL h.d]
 rw[i];refine⟨le r,mg ?_⟩;lk;refine aU h.h H ⟨mw h.d,lS h.d (le r) ⟨aE,mg ?_⟩⟩;obtain b:=h.J7<|T.d++[.a<|-1];lk;refine aU b.h H ⟨mw b.g,lS b.g (le hd) ⟨aE,mg ?_⟩⟩;obtain d:=b.J3<|T.g++[.a<|-1];lk;refine aU d.h H ⟨mw d.j,lS d.j (le B) ⟨aE,db ?_⟩⟩;obtain f:=d.Vf<|T.j++[.f s];lk;refine fY f.h H (r▸Qc p h4▸A5 f (g.same H) (NG h4 H) λt σ' T' u j=>F t σ' T' ⟨u.h,u.y,u.c.r,u.c.d,u.c.g,λl o e k=>?_⟩ (by rw[u.c.j];show O (T.j++[_])=_;rw[eK,B];rfl) j);obtain q:∀c∈tl.r,l≠c:=λc m e=>k<|ay e m;exact u.cT l o ((cN<|q _<|.tail _<|.tail _<|.tail _<|.tail _<|.head _).trans<|(cN<|q _<|.tail _<|.tail _<|.tail _<|.head _).trans<|(cN<|q _<|.tail _<|.tail _<|.head _).trans e) (q _<|.head _)<|q _<|.tail _<|.head _
def UE{K b s f}(h:cp σ tl T)(g:bF T)(r:b<30)(e:gz b=.B [.a 3,.f s,.a f])(u:∀t σ' T',Up tl σ T σ' T'->bB T' t b->K (.a t) σ'):W (n+2) 3 [.d tl.h,.f s,.a f] σ K:=by
 refine bq [.d tl.h,.f s,.a f] H<|db ?_;lk;exact fY h.h H<|aO e<|A5 h g r u
def LR{K b i f}(h:cp σ tl T)(g:bF T)(r:b<30)(e:gz b=.B [.a 4,.a i,.a f])(u:∀t σ' T',Up tl σ T σ' T'->bB T' t b->K (.a t) σ'):W (n+2) 4 [.d tl.h,.a i,.a f] σ K:=by
 refine bq [.d tl.h,.a i,.a f] H<|db ?_;lk;exact fY h.h H<|aO e<|A5 h g r u
def QA(b:Nat):Str:=if b=0 then sA else sB
theorem a5c:∀b,b<2->P (.f<|QA b)->gL σ (.f Kq) (.a b) P
 |0,_,h=>⟨Y H,Y H,h⟩
 |1,_,h=>⟨Y H,Y H,h⟩
def a4K:∀b,b<8->b&&&3<2->gz b=.B [.a 3,.f<|QA<|b&&&3,.a (b>>>2:Nat)]:=by decide+kernel
def a4L:∀b,b<8->¬b&&&3<2->gz b=.B [.a 4,.a ((b&&&3:Nat)-1:Int),.a (b>>>2:Nat)]:=by decide+kernel
noncomputable def Qo:List Nat:=[6,7,5,4,1,0]
def a4M:∀b,b<14->8<=b->∃t,Qo[b-8]?=I t/\(t,b)∈[(0,13),(1,12),(4,11),(5,10),(6,8),(7,9)]:=by decide+kernel
def Nz{K b}(h:cp σ tl T)(g:bF T)(u:b<14)(r:∀t σ' T',Up tl σ T σ' T'->bB T' t b->K (.a t) σ'):W (n+3) 106 [.d tl.h,.a b] σ K:=by
 refine bq [.d tl.h,.a b,.q] H<|bV ?_;lk;by_cases z:b<8
 .refine iw (jH.mpr z)<|bX ?_;lk;refine i8 (b:=3)<|db ?_;lk;by_cases c:b&&&3<2;.exact iw (jH.mpr c) (a5c _ c<|zi (b:=2)<|UE h g (oY z H) (a4K b z c) r)
  .exact gW (iH.mpr<|fw.mp c)<|rE<|zi (b:=2)<|LR h g (oY z H) (a4L b z c) r
 .refine gW (iH.mpr<|fw.mp z)<|aw<|db ?_;lk;refine aA (a4M b u<|lE z) λt d e=>rE ?_;rw[(xY<|fw.mp z).symm];exact dh (xs:=G Qo) (Y H) (by rw[nH,d];rfl)<|r t σ T (.B h g)<|g.h e
def Qd{b}:(m>>>b&&&1≠0)↔aQ m b=true:=by
 rw[aQ,bne_iff_ne,a6B]
def Tz:∀{bs σ T x K},cp σ tl T->bF T->(∀b∈bs,b<14)->
 (∀ts σ' T',Up tl σ T σ' T'->IsL T' ts ((bs.filter m.testBit).map (2^·))->O ts<=O bs->K (G ts) σ')->
 iJ (n8 (W<|n+3)<|I<|.q .a (.q .d V1 V3) N1) (a6 (W<|n+3)<|.j 106 [V0,V3]) (.B 3) dc [.d tl.h,.a m,us,x] (G bs) σ K:=by
 intro bs;induction bs with
 |nil=>
  intro σ T x K h g _ d;exact d [] σ T (.B h g) .nil<|ce 0
 |cons b bs j=>
  intro σ T x K h g k d;have e:=λc p=>k c<|bK _ p;apply qU;lk;refine zi (b:=b)<|i8 (b:=1)<|ku (λz=>?_) λz=>?_;.obtain d:=jf▸d;obtain d:=(ak<|Qd.mp z)▸d;exact Nz h g (k b aZ) λt f l u a=>⟨aE,j u.h u.y e λts σ' T' o hi i=>d (t::ts) σ' T' (u.q o) (.cons (Is.F o.c ⟨[t],[b],.B a,n7 _⟩) hi)<|jS i⟩
  .have r:=λq=>Qd.mpr q z;obtain d:=jf▸d;obtain d:=(Z r)▸d;exact⟨aE,j h g e λts σ' T' u hi i=>d ts σ' T' u hi<|rd i⟩
def X4:cw (bs.map (2^·))=bW bs:=by
 unfold cw bW;rw[List.foldr_map]
def YN(h:m<2^14):bW ((cO 14).filter m.testBit)=m:=by
 refine km λi=>?_;rw[fF,gu,dT,cG,eJ] at⊢;refine⟨λh=>h.2,λq=>⟨m4 λz=>?_,q⟩⟩;rw[jR<|eR h<|pw z] at q;exact dj q
def X6:∀a b,cw (a++b)=cw a|||cw b:=by
 intro c;induction c with
 |nil=>
  exactλb=>(qh _).symm
 |cons x a d=>
  intro b;show x|||cw (a++b)=(x|||cw a)|||cw b;rw[d,xP]
def IsL.B(h:IsL T ts ms)(h':IsL T r u):IsL T (ts++r)<|ms++u:=by
 induction h with
 |nil=>exact h'
 |cons a _ b=>exact .cons a b
def BL{K ks}(h:cp σ tl T)(g:bF T)(B:m<2^14)(F:IsL T us ks)(M:∀k∈ks,k<2^18)(r:O us<=9)(hK:∀t σ' T',Up tl σ T σ' T'->Is T' t (fp<|m|||cw ks)->K (.a t) σ'):W (n+4) 107 [.d tl.h,.a m,.r<|G us] σ K:=by
 refine bq [.d tl.h,.a m,.r<|G us,.q] H<|db ?_;lk;refine⟨Y H,Y H,⟨Y H,Tz h g (λb=>eJ.mp) λts d f u hi c=>CM (by rw[ba,ba];exact bG (jT c r) H) ?_⟩⟩;rw[show G ts++G us=G (ts++us) from d9.symm];refine pM (.inl H) u.h u.y (hi.B<|F.F u.c) (λk hk'=>?_) (ay eK<|bG (jT c r) H) λt σ' T' i ht=>hK t σ' T' (u.q i) ?_
 .rcases fQ.mp hk' with hk'|hk';.refine aA (bp.mp hk') λb j e=>?_;subst e;exact tI (Y H) (m3 (eJ.mp (cG.mp j).1)<|Y H)
  .exact M k hk'
 .rw[X6,X4,YN B] at ht;exact ht
def Fx{K}(h:cp σ tl T)(g:bF T)(r:Nm m)(B:∀t σ' T',Up tl σ T σ' T'->Is T' t m->K (.a t) σ'):W (n+4) 107 [.d tl.h,.a m,.r []] σ K:=
 BL (us:=[]) h g r.1 .nil dS (Y H) λt σ' T' u hi=>B t σ' T' u (by
  obtain hi:=(n7 m)▸hi;obtain hi:=((lI r.1).1)▸hi;obtain hi:=r.2▸hi;exact hi)
structure pA(σ:av)(tl:kJ)(T:bP)(nl:a7)(z! z:Nat)(nm:List<|Nat×Nat):Prop where
 h:cp σ tl T
 y:bF T
 dq:σ nl=some (.a 0<|dN nm)
 nt:nl.t=58
 c:T.d.length=z!+nm.length
 j:T.g.length=z!+nm.length
 nl:T.j.length=z!+nm.length
 bm:∀b∈T.d,b=.a (-1)
 dm:∀b∈T.g,b=.a (-1)
 w:∀i e,nm[i]?=some e->bB T e.2 (14+(z!+i))
 nd:(ks nm).Nodup
 cI:∀k∈ks nm,k<z
def yo{v}:∀{l:List<|Nat×α},k∉ks l->st l k v=l++[(k,v)]:=by
 intro l;induction l with
 |nil=>
  exactλc=>H
 |cons p r b=>
  intro h;show(if p.1=k then _ else _)=_;rw[Z<|(λe=>h (aO e aZ):p.1≠k),b λq=>h<|bK _ q];rfl
def wE(h:cp σ tl T){l:a7}(r:l.t=58\/l.t=55\/l.t=64):l∉tl.r:=λb=>by
 refine o7 h.b λc d e f g=>?_;obtain this:l.t=10\/l.t=11\/l.t=12\/l.t=13\/l.t=14:=by
  unfold kJ.r at b;simp only[cf,jU,or_false] at b;clear h r;rcases b with rfl|rfl|rfl|rfl|rfl;.exact .inl c
  .exact .inr<|.inl d
  .exact .inr<|.inr<|.inl e
  .exact .inr<|.inr<|.inr<|.inl f
  .exact .inr<|.inr<|.inr<|.inr g
 exact(λlt:l.t<15=>r.elim (Bs lt H) λh=>h.elim (Bs lt H)<|Bs lt H)<|qG H (qG H<|qG H<|qG H<|EH H) this
def pA.yN(h:pA σ tl T nl z! z nm):nl∉tl.r:=wE h.h<|.inl h.nt
theorem pA.F(h:pA σ tl T nl z! z nm)(u:Up tl σ T σ' T'):pA σ' tl T' nl z! z nm where
 h:=u.h
 y:=u.y
 dq:=u.cT _ _ h.dq (λe=>h.yN<|ay e<|.head _) λe=>h.yN (ay e<|.tail _<|.head _)
 nt:=h.nt
 c:=ay u.c.d h.c
 j:=ay u.c.g h.j
 nl:=ay u.c.j h.nl
 bm:=ay u.c.d h.bm
 dm:=ay u.c.g h.dm
 w:=λi e b=>(h.w i e b).F u.c
 nd:=h.nd
 cI:=h.cI
def Up.keeps(u:Up tl σ T σ' T'){l:a7}{o:eE}(e:σ l=I o)(r:l∉tl.r):σ' l=I o:=
 u.cT l o e (λq=>r<|ay q<|.head _) λq=>r (ay q<|.tail _<|.head _)
def pA.wZ{t}(h:pA σ tl T nl z! z nm)(u:QO tl σ T σ' T')(M:O T'.j=z!+O nm+1)(a:bB T' t<|14+(z!+O nm))(hk:k<z)(B:k∉ks nm):
 pA (σ'.u nl<|.a 0<|dN<|nm++[(k,t)]) tl T' nl z! z (nm++[(k,t)]) where
 h:=by
  obtain q:∀c∈tl.r,c≠nl:=λc g e=>h.yN<|aO e g;obtain h':=u.h;refine⟨(cN λe=>?_).trans h'.h,(cN<|q _<|.head _).trans h'.e,(cN<|q _<|.tail _<|.head _).trans h'.a,(cN<|q _<|.tail _<|.tail _<|.head _).trans h'.d,(cN<|q _<|.tail _<|.tail _<|.tail _<|.head _).trans h'.g,(cN<|q _<|.tail _<|.tail _<|.tail _<|.tail _<|.head _).trans h'.j,h'.b⟩;have:=h.h.h;obtain this:=e▸this;obtain this:=h.dq▸this;cases this
 y:=u.y
 dq:=fc
 nt:=h.nt
 c:=by rw[u.d,eK,eK,h.c,oM]
 j:=by rw[u.g,eK,eK,h.j,oM]
 nl:=by rw[M,eK,oM]
 bm:=λb f=>by
  rw[u.d] at f;exact(fQ.mp f).elim (h.bm b) d8.mp
 dm:=λb f=>by
  rw[u.g] at f;exact(fQ.mp f).elim (h.dm b) d8.mp
 w:=λi e d=>by
  rcases tK i (O nm) with z|z;.rw[xX z] at d;exact(h.w i e d).M u.c
  .rw[v7 z] at d;obtain l:=v6 (RN.mp<|a6r.mp<|(jV.mp d).1) z;subst l;rw[v4] at d;cases d;exact a
 nd:=by
  rw[show ks (nm++[(k,t)])=ks nm++[k] from d9];exact kL.mpr ⟨h.nd,fh.mpr ⟨λh=>(nomatch h),.nil⟩,λx j y m e=>B<|d8.mp m▸aO e j⟩
 cI:=λx j=>by
  exact(fQ.mp<|aO (show ks (nm++[(k,t)])=ks nm++[k] from d9) j).elim (h.cI x) λe=>ay (d8.mp e) hk
abbrev FL:List PS:=M8
theorem TH:∀b,b<3->(∀s,P<|.f s)->gL σ (.f Kr) (.a (b:Nat)) P
 |0,_,h=>⟨Y H,Y H,h _⟩
 |1,_,h=>⟨Y H,Y H,h _⟩
 |2,_,h=>⟨Y H,Y H,h _⟩
def a0N:∀j,j<12->gz (18+j)=.B [.a 4,.a<|20+j,.a 0]:=by decide+kernel
def ZI(hc:w.au<=3)(ho:z!<=1){x1 x2:AV}:∀{os:List Nat}{σ:av}{T:bP}{nm:List<|Nat×Nat}{x5:AV}{K:Option AV->List AV->av->Prop},pA σ tl T nl z! w.au nm->cg os->(∀j∈os,j<12)->(∀k∈ks nm,8+k∉os)->
 (∀σ' T' r x5,pA σ' tl T' nl z! w.au r->(∀k,k∈ks r↔k∈ks nm\/(k<w.au/\8+k∈os))->(∀l o,σ l=I o->l∉tl.r->l≠nl->σ' l=I o)->K .none [bS w,x1,x2,.d tl.h,.d nl,x5,.q,.q,.q,.q] σ')->
 cu (wB (n+3) FL) (.B 5) dc (G os) [bS w,x1,x2,.d tl.h,.d nl,x5,.q,.q,.q,.q] σ K:=by
 intro os;induction os with
 |nil=>
  intro σ T nm x5 K h _ _ _ N;exact N σ T nm x5 h (λk=>⟨.inl,λh=>h.elim id λh=>by cases h.2⟩) λC C e C C=>e
 |cons j os U=>
  intro σ T nm x5 K h g p D N;obtain c:=λi hi=>p i<|bK _ hi;obtain d:=λk hk q=>D k hk<|bK j q;have up:∀{σ' T'},Up tl σ T σ' T'->¬(8<=j/\j<8+w.au)->True/\cu (wB (n+3) FL) (.B 5) dc (G os) [bS w,x1,x2,.d tl.h,.d nl,.a j,.q,.q,.q,.q] σ' K:=λ{σ' T'} u z=>by
   refine⟨aE,U (h.F u) ((fh.mp g)).2 c d λb v r x5 h' E Q=>N b v r x5 h' (λk=>(E k).trans ⟨λq=>q.imp id λq=>⟨q.1,bK _ q.2⟩,λq=>q.imp id λq=>⟨q.1,(cf.mp q.2).resolve_left λe=>z ⟨?_,?_⟩⟩⟩) λl o e F B=>Q l o (u.keeps e F) F B⟩;.exact e▸fA 8 k
   .exact e▸qj q.1 8
  refine fj<|bV ?_;lk;by_cases z:j<8;.refine iw (jH.mpr z)<|mg ?_;lk;exact Nz h.h h.y (oY z H) λt σ' T' u C=>⟨aE,aw<|aw<|up u λq=>aP z<|fw.mpr q.1⟩
  .refine gW (iH.mpr<|fw.mp z)<|bV ?_;lk;refine rL<|om ?_;obtain V:=(xY<|fw.mp z).symm;by_cases P:j<8+w.au
   .refine iw (jH.mpr P)<|iY ?_;lk;obtain hk:=Nat.sub_lt_left_of_lt_add (fw.mp z) P;obtain R:=Ao<|fw.mp z;have A:=λE=>D _ E<|cf.mpr<|.inl R;have f:O nm<=2:=by
     obtain L:=sQ w.au (ks nm++[j-8]) (kL.mpr ⟨h.nd,fh.mpr ⟨λh=>(nomatch h),.nil⟩,λx S y W e=>A<|d8.mp W▸aO e S⟩) λx S=>(fQ.mp S).elim (h.cI x) λe=>ay (d8.mp e) hk;obtain L:=(eK ..)▸L;obtain L:=(ba ..)▸L;exact H3<|aV L hc
    apply rE;rw[V];refine TH (j-8) (aV hk hc) λs=>L8 h.h h.y h.c h.j h.nl (xf (jT ho f) H) λt σ' T' u B a=>rE ?_;rw[V];refine me (u.cT nl _ h.dq h.yN) (bG f H)<|aw<|aw ⟨aE,?_⟩;rw[yo A];obtain M:ks (nm++[(j-8,t)])=ks nm++[j-8]:=d9;refine U (h.wZ u B a hk A) ((fh.mp g)).2 c (λk hk q=>?_) λb v r x5 h' E Q=>N b v r x5 h' (λk=>(E k).trans ?_) λl o e F B=>Q l o ((cN B).trans<|u.cT l o e F) F B
    .rw[M] at hk;rcases fQ.mp hk with hk|hk;.exact d k hk q
     .obtain q:=(d8.mp hk)▸q;obtain q:=R▸q;exact((fh.mp g)).1 q
    .rw[M];rw[fQ,d8,cf,or_assoc] at⊢;refine⟨λq=>q.imp id λq=>q.elim (λe=>?_) λq=>⟨q.1,.inr q.2⟩,λq=>q.imp id λq=>q.2.elim (λe=>.inl<|(a6l<|e▸qk ..).symm) λm=>.inr ⟨q.1,m⟩⟩;subst e;exact⟨hk,.inl R⟩
   .refine gW (iH.mpr<|fw.mp P)<|ia ?_;lk;exact om<|LR h.h h.y (qj (p j aZ) _) (a0N j<|p j aZ) λt σ' T' u C=>⟨aE,aw<|aw<|aw<|up u λq=>P q.2⟩
noncomputable def A8:List (Nat×Nat)->Nat->Nat
 |[],_=>0
 |p::r,k=>if p.1=k then 0 else A8 r k+1
theorem A7:∀{nm k},k∈ks nm->∃v,lk nm k=I v/\nm[A8 nm k]?=I (k,v)
 |p::r,k,h=>by
  by_cases z:p.1=k;.refine⟨p.2,ak z,?_⟩;show(p::r)[if p.1=k then 0 else _]?=_;rw[ak z,<-z];rfl
  .refine aA (A7<|(cf.mp h).resolve_left λe=>z e.symm) λv b c=>⟨v,(Z z).trans b,?_⟩;show(p::r)[if p.1=k then 0 else A8 r k+1]?=_;rw[Z z];exact c
def Ba(z!:Nat)(nm:List<|Nat×Nat)(k:Nat):Nat:=z!+A8 nm k
noncomputable def KZ(z!:Nat)(nm:List<|Nat×Nat)(p:Nat):Nat:=((nm[p-z!]?).map (·.1)).getD 0
structure iT(T:bP)(nm:List<|Nat×Nat)(V ρ:Nat->Nat)(z:Nat):Prop where
 id:∀k,k<z->∃t,lk nm k=some t/\bB T t (14+V k)
 d:∀k,k<z->V k<4
 c:oH V ρ z
def pA.r(h:pA σ tl T nl z! z nm)(u:∀k,k<z->k∈ks nm)(B:z<=3)(ho:z!<=1):
 iT T nm (Ba z! nm) (KZ z! nm) z/\O T.d<=4/\O T.g<=4/\(∀k,k<z->Ba z! nm k<z!+O nm)/\O nm<=3:=by
 have c:O nm<=3:=by
  exact aV (aO (ba ..)<|sQ z (ks nm) h.nd h.cI) B
 have pos:=λk b=>by
  exact aA (A7<|u k b) λv g e=>(jV.mp e).1
 refine⟨⟨λk b=>aA (A7<|u k b) λv f d=>⟨v,f,h.w _ _ d⟩,λk b=>xf (jT ho<|MX 2<|eR (pos k b) c) H,⟨λk b=>aA (A7<|u k b) λv f d=>?_⟩⟩,by rw[h.c];exact jT ho c,by rw[h.j];exact jT ho c,λk b=>qj (pos k b) z!,c⟩;unfold KZ Ba;rw[uP,d];rfl
structure TG(z:Nat)(t:iC):Prop where
 m:t.1∈[5,256,0,1,3072,64]
 q:∀q,t.2=some q->q<z/\t.1∈[0,1]
 z:t.2=none->t.1≠0
def X7:∀ps,(ps=vP\/ps=vM)->∀m b,(I m,b)∈ps->m∈[5,256,0,1,3072,64]/\(b≠0->m∈[0,1])/\(b=0->m≠0):=λps c m b h=>((show∀p∈vP++vM,∀m,p.1=I m->m∈[5,256,0,1,3072,64]/\(p.2≠0->m∈[0,1])/\(p.2=0->m≠0) from by
 unfold vP vM;simp)) (I m,b) (fQ.mpr<|c.elim (λe=>.inl<|e▸h) λe=>.inr<|e▸h) m H
def Jw(r:ps=vP\/ps=vM)(u:0<z)(h:xE ps z x! x):∀t,x=I t->TG z t:=λt e=>by
 cases h with
 |none=>exact cL e
 |@some m b f=>
  refine gl (X7 ps r m b f) λd g i=>?_;cases e;by_cases c:b=0;.exact⟨d,λq e=>(by rw[ak c] at e;exact cL e),λj=>i c⟩
  .refine⟨d,λq e=>?_,λe=>?_⟩;.rw[Z c] at e;cases e;exact⟨xQ _ u,g c⟩
   .rw[Z c] at e;exact l7 e
def WF.r(wf:WF w){k:Nat}{t:iC}(h:eu w k=I t):TG w.au t:=by
 unfold eu at h;rcases e:w.bound[k]? with _|x;.rw[e] at h;exact cL h
 .rw[e] at h;exact Jw (.inl H) wf.c0 (wf.b.c k x e) t h
def WF.dt(wf:WF w){k:Nat}{t:iC}(h:mW w k=I t):TG w.au t:=by
 unfold mW at h;rcases e:w.a[k]? with _|x;.rw[e] at h;exact cL h
 .rw[e] at h;exact Jw (.inr H) wf.c0 (wf.d.c k x e) t h
def yg:∀m∈[5,256,0,1,3072,64],m<2^12/\m≠8192/\eV m=m/\fp m=m:=by decide+kernel
def TZ:∀m∈[0,1],∀p,p<4->fp (m|||2^(14+p))=m|||2^(14+p)/\m|||2^(14+p)≠8192/\m|||2^(14+p)≠0/\m|||2^(14+p)<2^18:=by decide+kernel
structure TM(m:Nat):Prop where
 g:fp m=m
 any:m≠8192
 z:m≠0
 cI:m<2^18
def TG.tm(h:TG z t)(h4:∀k,k<z->V k<4):TM<|mc<|jm V t:=by
 obtain⟨m,o⟩:=t;rcases o with _|q;.exact mm (yg m h.m) λe f i h4=>⟨h4,f,h.z H,m3 e<|Y H⟩
 .exact bY (h.q q H) λhq g=>mm (TZ m g (V q)<|h4 q hq) λa b c d=>⟨a,b,c,d⟩
noncomputable def bP.cs(T:bP):Bool->List AV
 |false=>T.d
 |true=>T.g
noncomputable def kJ.cs(tl:kJ):Bool->a7
 |false=>tl.d
 |true=>tl.g
noncomputable def bP.u(T:bP)(s:Bool)(vs:List AV):bP:=match s with
 |false=>{T with d:=vs}
 |true=>{T with g:=vs}
def cp.cs(h:cp σ tl T)(s):σ (tl.cs s)=I (.b<|T.cs s):=by
 induction s using Bool.casesOn;.exact h.d
 .exact h.g
def cp.u(h:cp σ tl T)(s)(vs):cp (σ.u (tl.cs s)<|.b vs) tl<|T.u s vs:=by
 induction s using Bool.casesOn;.exact h.J7 vs
 .exact h.J3 vs
def J4(T:bP)(s)(vs):(T.u s vs).e=T.e:=by induction s using Bool.casesOn<;>rfl
def J6(T:bP)(s)(vs):(T.u s vs).cs s=vs:=by induction s using Bool.casesOn<;>rfl
def J5(T:bP)(s s')(vs)(h:s'≠s):(T.u s vs).cs s'=T.cs s':=by induction s using Bool.casesOn<;>induction s' using Bool.casesOn<;>first|rfl|exact aP H h
def a22(tl:kJ)(s):tl.cs s∈tl.r:=by
 induction s using Bool.casesOn;.exact .tail _<|.tail _<|.head _
 .exact .tail _<|.tail _<|.tail _<|.head _
def Le.cs(le:T.Le T')(s):T'.cs s=T.cs s:=by
 induction s using Bool.casesOn;.exact le.d
 .exact le.g
theorem mH.M(le:sr T T'){c:List AV}{p:Nat}{o:Option Nat}(h:mH T c p o):mH T' c p o:=by
 cases h with
 |none h=>exact .none h
 |some h i a b=>exact .some h (i.M le) a b
def mH.Mz{c o}(h:mH T c p o):p<O c:=by
 cases h with
 |none h=>exact(jV.mp h).1
 |some h=>exact(jV.mp h).1
def mH.U8{c q o}(r:q≠p)(h:mH T c p o):mH T (c.set q v) p o:=by
 cases h with
 |none h=>exact .none<|(a6U r).trans h
 |some h i a b=>exact .some ((a6U r).trans h) i a b
theorem iT.M(h:iT T nm V ρ z)(le:sr T T'):iT T' nm V ρ z:=
 ⟨λk b=>aA (h.id k b) λt c d=>⟨t,c,d.M le⟩,h.d,h.c⟩
abbrev u9(V:Nat->Nat)(t:iC):Nat:=mc<|jm V t
structure Lb(σ:av)(tl:kJ)(T:bP)(z:Nat)(o:Bool->Nat->Option iC)(nm:List<|Nat×Nat)(V ρ:Nat->Nat)(c:Bool->Nat):Prop where
 h:cp σ tl T
 y:bF T
 r:iT T nm V ρ z
 aT:∀s,(T.cs s).length<=4
 q:∀s k,k<z->mH T (T.cs s) (V k) (if k<c s then(o s k).map (u9 V) else none)
 tg:∀s k t,o s k=some t->TG z t
def qB{v}(h:lk nm k=I v)(r:P<|.a v):gL σ (.g 0<|dN nm) (.a k) P:=by
 refine⟨H,?_⟩;rw[po,h];exact r
def Lb.F(h:Lb σ tl T z o nm V ρ c)(u:Up tl σ T σ' T'):Lb σ' tl T' z o nm V ρ c:=
 ⟨u.h,u.y,h.r.M u.c.r,λs=>by rw[Le.cs u.c] at⊢;exact h.aT s,λs k b=>by rw[Le.cs u.c] at⊢;exact(h.q s k b).M u.c.r,h.tg⟩
def Lb.B(h:Lb σ tl T z o nm V ρ c)(hw:x!<z)(e:o s x!=I t)(hc:c s=x!)(hi:Is T u<|u9 V t):
 Lb (σ.u (tl.cs s)<|.b<|(T.cs s).set (V x!)<|.a u) tl (T.u s<|(T.cs s).set (V x!)<|.a u) z o nm V ρ (λM=>if M=s then x!+1 else c M):=by
 have rl:sr T<|T.u s<|(T.cs s).set (V x!)<|.a u:=.same<|J4 ..;have tm:=(h.tg s x! t e).tm h.r.d;refine⟨h.h.u s _,h.y.same<|J4 ..,h.r.M rl,λM=>?_,λM k d=>?_,h.tg⟩
 .by_cases b:M=s;.subst b;rw[J6,List.length_set];exact h.aT M
  .rw[J5 _ _ _ _ b];exact h.aT M
 .by_cases b:M=s
  .subst b;rw[J6,ak H];by_cases g:k=x!;.subst g;rw[ak<|lY k,e];exact .some (List.getElem?_set_self<|(h.q M k d).Mz) (hi.M rl) tm.cI tm.z
   .have i:=h.q M k d;rw[hc] at i;rw[show(if k<x!+1 then(o M k).map (u9 V) else C)=if k<x! then(o M k).map (u9 V) else C from by
     by_cases f:k<x!;.rw[ak f,ak<|tJ f]
     .rw[Z f,Z λq=>(xS.mp q).elim f g]]
    exact(i.U8 λq=>g<|by rw[<-h.r.c.s k d,<-q,h.r.c.s x! hw]).M rl
  .rw[J5 _ _ _ _ b,Z b];exact(h.q M k d).M rl
def Lb.skip(h:Lb σ tl T z o nm V ρ c)(e:o s x!=C)(M:c s=x!):Lb σ tl T z o nm V ρ λu=>if u=s then x!+1 else c u:=
 ⟨h.h,h.y,h.r,h.aT,λu k g=>by
  by_cases b:u=s
  .subst b;have d:=h.q u k g;rw[M] at d;rw[ak H];by_cases i:k=x!;.subst i;rw[Z<|kK k] at d;rw[ak<|lY k,e];exact d
   .rw[show(if k<x!+1 then(o u k).map (u9 V) else C)=if k<x! then(o u k).map (u9 V) else C from by
     by_cases f:k<x!;.rw[ak f,ak<|tJ f]
     .rw[Z f,Z λq=>(xS.mp q).elim f i]]
    exact d
  .rw[Z b];exact h.q u k g,h.tg⟩
abbrev PZ:PS:=.d (.h .d V9<|.k AV.j)
 [.m V8 V7<|.j 107 [V3,.n V9 N0,.D (.h .lt (.n V9 N1) N0) (.r [])<|.r [.n V4<|.n V9 N1]]]
 []
def wX{t}(h:cp σ tl T)(g:bF T)(a:bB T t<|14+p)(h4:p<4)(r:P<|.a p):gL σ (.d tl.e) (.a t) λrow=>gL σ row (.a 1) P:=eL h.e g.aR ((Qc p h4)▸a.2)<|dh (bU H) H r
def Va{P}(h:σ l=I (.b vs))(hi:i<O vs)(r:O vs<=aR)(u:P<|σ.u l<|.b<|vs.set i v):l8 σ (.d l) (.a i) v P:=by
 unfold l8;simp only[h];exact⟨dI i,jH.mpr hi,r,u⟩
def cell_step(h:Lb σ tl T z o nm V ρ c)(B:x!<z)(F:c s=x!)(r:∀σ' T',Lb σ' tl T' z o nm V ρ (λM=>if M=s then x!+1 else c M)->(∀l o,σ l=I o->l∉tl.r->σ' l=I o)->wB (n+4) rest [x0,x1,x2,.d tl.h,.g 0<|dN nm,x5,.a x!,.a<|V x!,.d<|tl.cs s,g7<|o s x!] σ' K):
 wB (n+4) (PZ::rest) [x0,x1,x2,.d tl.h,.g 0<|dN nm,x5,.a x!,.a<|V x!,.d<|tl.cs s,g7<|o s x!] σ K:=by
 apply kA;lk;rcases ho:o s x! with _|t;.exact FT<|bd<|aw<|(ho▸r) σ T (h.skip ho F) λi i e i=>e
 .obtain r:=ho▸r;obtain tg:=h.tg s x! t ho;refine FS<|bw<|iY ?_;lk;have j:=h.aT s;have p:=(h.q s x! B).Mz;have f:t.1<2^14:=m3 (yg t.1 tg.m).1<|Y H;obtain bD:∀us k,IsL T us k->(∀x∈k,x<2^18)->O us<=1->fp (t.1|||cw k)=u9 V t->
   W (n+4) 107 [.d tl.h,.a t.1,.r<|G us] σ λv b=>l8 b (.d<|tl.cs s) (.a<|V x!) v λd=>wB (n+4) [] [x0,x1,x2,.d tl.h,.g 0<|dN nm,x5,.a x!,.a<|V x!,.d<|tl.cs s,g7<|I t] d<|mB (W<|n+4) rest K:=λus k hi C g D=>by
   refine BL h.h h.y f hi C (bG g H) λu b y up E=>?_;have A:=Le.cs up.c s;exact Va ((h.F up).h.cs s) (A▸p) (A▸bG j H)<|aw<|r _ _ ((h.F up).B B ho F<|aO D E) λl o e g=>(cN λ(q:l=tl.cs s)=>g<|ay q<|a22 tl s).trans<|up.keeps e g
  obtain⟨m,q⟩:=t;refine dh (bU H) H<|dh (bU H) H ?_;clear B F r j p f;rcases q with _|q;.exact iw (a:=-1) (Y H)<|bD [] [] .nil dS (Y H)<|(be fp<|n7 m).trans (tg.tm h.r.d).g
  .exact bY (tg.q q H) λhq i=>aA (h.r.id q hq) λv L a=>gW (dI q)<|dh (bU H) H<|qB L<|bD [v] [2^(14+V q)] (.cons ⟨[v],[14+V q],.B a,n7 _⟩ .nil) (λx N=>ay (d8.mp N)<|tI (Y H)<|qj (h.r.d q hq) 14) (ce 1)<|(be fp<|be (m|||·)<|n7 _).trans (tg.tm h.r.d).g
def oL(w:LW):Bool->Nat->Option iC
 |false=>eu w
 |true=>mW w
theorem WF.tg(wf:WF w):∀s k t,oL w s k=I t->TG w.au t
 |false,_,_,h=>wf.r h
 |true,_,_,h=>wf.dt h
def DD{xs}(F:O vs=O is)(h:body (lK L is vs) σ λr B u=>match r with|.none=>ok u/\cu body (.a is) ok xs B u K|some v=>K (I v) B u):cu body (.a is) ok (.B vs::xs) L σ K:=⟨F,h⟩
def dR.cT(h:dR σ w R)(wf:WF w)(F:∀l o,l.t=55->σ l=I o->σ' l=I o):dR σ' w R:=
 ⟨h.a,h.b,h.d,h.l,h.tl,λk l e=>F l _ (wf.a l<|pG e)<|h.c k l e,h.aT⟩
abbrev Ju:List PS:=[.g 7<|.n (.n (.p V3 0)<|.n V4 V6) N1,
 .h (.a [8,9]) (.B [.B [.p V3 3,.n (.n V0<|.k<|AV.f oT) V6],.B [.p V3 4,.n (.n V0<|.k<|AV.f qD) V6]])
  [PZ]]
def ZG(wf:WF w):∀{m x! σ T x6 x7 x8 x9 K},dR σ w R->Lb σ tl T w.au (oL w) nm V ρ (λr=>x!)->x!+m=w.au->
 (∀σ' T' x6 x7 x8 x9,Lb σ' tl T' w.au (oL w) nm V ρ (λr=>w.au)->(∀l o,σ l=I o->l∉tl.r->σ' l=I o)->K .none [bS w,x1,x2,.d tl.h,.g 0<|dN nm,x5,x6,x7,x8,x9] σ')->
 cu (wB (n+4) Ju) (.B 6) dc (kU x! m) [bS w,x1,x2,.d tl.h,.g 0<|dN nm,x5,x6,x7,x8,x9] σ K:=by
 intro m;induction m with
 |zero=>
  intro x! σ T x6 x7 x8 x9 K b h e i;exact i σ T x6 x7 x8 x9 (e▸h) λr r e r=>e
 |succ m x=>
  intro x! σ T x6 x7 x8 x9 K b h e i;have c:=e▸xT (sx _);refine aA (h.r.id x! c) λv y a=>?_;obtain⟨bx,d⟩:=qW b.b c;obtain⟨z,f⟩:=qW b.d c;refine fj<|bX ?_;lk;refine aU h.h.h H<|qB y<|wX h.h h.y a (h.r.d x! c)<|gg ?_;lk;refine aU h.h.h H (yS<|og (b.b▸bG b.a H) d<|aU h.h.h H<|E8<|og (b.d▸bG b.a H) f ⟨(by show 2<=aR;decide),?_⟩);rw[((show g7 bx=g7 (oL w am x!) from by show _=g7 (eu w x!);unfold eu;rw[d];rfl)),show g7 z=g7 (oL w U x!) from by show _=g7 (mW w x!);unfold mW;rw[f];rfl];refine DD H<|cell_step h c H λj p A B=>aw ⟨aE,DD H<|cell_step A c H λk q t C=>aw ⟨aE,vw<|aw ⟨aE,?_⟩⟩⟩;obtain D:(λg=>if g=U then x!+1 else(λg=>if g=am then x!+1 else(λr=>x!) g) g)=λ_:Bool=>x!+1:=by funext s;induction s using Bool.casesOn<;>rfl
  rw[D] at t;have u:=λl o e b=>C l o (B l o e b) b;refine x (b.cT wf λl o ht e=>u l o e<|wE h.h<|.inr<|.inl ht) t (lT.trans e) λσ' T' E F G L h' M=>i σ' T' E F G L h' λl o e b=>M l o (u l o e b) b
structure Laid(σ:av)(tl:kJ)(T:bP)(w:LW)(nm:List<|Nat×Nat)(V ρ:Nat->Nat):Prop where
 b:Lb σ tl T w.au (oL w) nm V ρ λζ=>w.au
 a:tl.h.t=57
structure Ord(z:Nat)(os:List Nat):Prop where
 nd:os.Nodup
 cI:∀j∈os,j<12
 a:∀k,k<z->8+k∈os
 aT:os.length<=12
def Du(σ σ':av):Prop:=∀l o,l.t=55->σ l=I o->σ' l=I o
abbrev ZK:List PS:=[.g 4<|.w 58 0,
 .h (.B 5) V1 FL,
 .u 4,
 .h (.B 6) (.M [.n V0<|.k<|AV.f j1]) Ju,
 .c (.B [V3,V4])]
def NF{K}(h:dR σ w R)(wf:WF w)(ho:Ord w.au os)(u:z!<=1)(ht:cp σ tl T)(g:bF T)(r:tl.h.t=57)(bl:O T.d=z!)(dl:O T.g=z!)(nl:O T.j=z!)(bm:∀b∈T.d,b=.a (-1))(dm:∀b∈T.g,b=.a (-1))(B:∀σ' T' nm V ρ,Laid σ' tl T' w nm V ρ->Du σ σ'->K (.B [.d tl.h,.g 0<|dN nm]) σ'):
 wB (n+4) ZK [bS w,.r<|G os,x2,.d tl.h,.q,.q,.q,.q,.q,.q] σ (rK K):=by
 refine cq (λj fr=>lf ⟨lm ho.aT H,ZI h.a u ((⟨ht.fresh<|fr 58,g,fc,H,bl,dl,nl,bm,dm,λi e h=>(nomatch h),.nil,dS⟩:pA (σ.u ⟨58,j⟩<|.a 0 []) tl T ⟨58,j⟩ z! w.au [])) ho.nd ho.cI dS λm t nm x5 d A C=>o7 (d.r (λk f=>(A k).mpr<|.inr ⟨f,ho.a k f⟩) h.a u) λna b4 F pl D=>p7 H d.dq<|gg ?_⟩);obtain cell:∀{c:List AV},(∀b∈c,b=.a (-1))->O c=z!+O nm->∀k,k<w.au->mH t c (Ba z! nm k) none:=λ{c} x y k f=>by
  refine .none ?_;rw[kN<|jg y▸(pl k f),x _<|As<|jg y▸(pl k f)]
 have z:Du σ<|m.r ⟨58,j⟩:=λl o p e=>by
  obtain v:l≠⟨58,j⟩:=λq=>by obtain p:=q▸p;cases p
  exact(Z v).trans<|C l o ((λl o e=>(cN λq=>by obtain e:=q▸e;obtain e:=(fr 58)▸e;exact cL e).trans e) l o e) (wE ht<|.inr<|.inl p) v
 lk;exact rL ⟨dI _,lu h.a H,⟨by rw[rz];exact bG h.a H,ZG wf (h.cT wf z) ⟨(by
  obtain q:∀c∈tl.r,c≠⟨58,j⟩:=λc x e=>d.yN<|e▸x;exact⟨(Z (λe=>by
   obtain r:=e▸r;cases r)).trans d.h.h,(Z<|q _<|.head _).trans d.h.e,(Z<|q _<|.tail _<|.head _).trans d.h.a,(Z<|q _<|.tail _<|.tail _<|.head _).trans d.h.d,(Z<|q _<|.tail _<|.tail _<|.tail _<|.head _).trans d.h.g,(Z<|q _<|.tail _<|.tail _<|.tail _<|.tail _<|.head _).trans d.h.j,d.h.b⟩),d.y,na,λs=>by induction s using Bool.casesOn<;>assumption,λs k f=>by
   induction s using Bool.casesOn;.exact cell d.bm d.c k f
   .exact cell d.dm d.j k f,wf.tg⟩ (n6 _) λσ' T' I L M N h' E=>db<|B σ' T' nm _ _ ⟨h',r⟩ λl o p e=>E l o (z l o p e)<|wE ht<|.inr<|.inl p⟩⟩
def Zx{K b}(h:dR σ w R)(wf:WF w)(ho:Ord w.au os)(r:∀σ' tl T nm V ρ,Laid σ' tl T w nm V ρ->Du σ σ'->K (.B [.d tl.h,.g 0<|dN nm]) σ'):W (n+5) 108 [bS w,.r<|G os,.e b] σ K:=by
 refine bq [bS w,.r<|G os,.e b,.q,.q,.q,.q,.q,.q,.q] H<|bX<|Un λtl σ₁ nt=>bV ?_;have g:Du σ σ₁:=λl o m=>nt.cT l o;rcases b with _|_;.exact bd<|aw<|NF (h.cT wf g) wf ho (jQ 1) nt.h (O0 H) nt.a H H H dS dS λσ' T' nm V ρ i f=>r σ' tl T' nm V ρ i λl o c e=>f l o c<|g l o c e
 .refine bw<|ia<|L8 nt.h (O0 H) H H H (Y H) λt j k u p m=>⟨aE,aw ?_⟩;have f:=λl o c e=>u.cT l o (g l o c e)<|wE nt.h<|.inr<|.inl c;refine NF (h.cT wf f) wf ho (ce 1) u.h u.y nt.a (by rw[u.d];rfl) (by rw[u.g];rfl) p (λb d=>?_) (λb d=>?_) λσ' T' nm V ρ i q=>r σ' tl T' nm V ρ i λl o c e=>q l o c<|f l o c e;.rw[u.d] at d;exact d8.mp d
  .rw[u.g] at d;exact d8.mp d
noncomputable def xm(t:a7):List AS:=[⟨10,.v 1,.val<|.d t⟩,⟨34,.k<|.a 0,.val<|.a 0⟩,⟨47,.g<|AV.a 200,.val<|.a 200⟩,⟨48,.g<|AV.a 40,.val<|.a 40⟩,⟨49,.k AV.j,.val .j⟩]
def um(h:a7)(ps:List Nat):List AS:=[⟨11,.v 1,.val<|.d h⟩,⟨12,.tuple V2,.val<|.B<|G ps⟩,⟨13,.w 19 0,.cell 19<|.a 0 []⟩,⟨14,.w 20 0,.cell 20<|.a 0 []⟩,⟨15,.w 21 0,.cell 21<|.a 0 []⟩,⟨16,.w 22 0,.cell 22<|.a 0 []⟩,⟨17,.w 23 0,.cell 23<|.a 0 []⟩,⟨18,.w 24 0,.cell 24<|.a 0 []⟩,⟨19,.F<|.k<|.a 1,.val<|.a<|-1⟩,⟨20,.w 25 0,.cell 25<|.a 0 []⟩,⟨21,.w 26 0,.cell 26<|.a 0 []⟩,⟨22,.w 27 2,.cell 27<|.a 2 []⟩,⟨23,.k<|.e am,.val<|.e am⟩,⟨24,.w 28 0,.cell 28<|.a 0 []⟩,⟨25,.new 3 29 [],.cell 29<|.d 3 []⟩,⟨26,.F<|.k<|.a 1,.val<|.a<|-1⟩,⟨27,.F<|.k<|.a 1,.val<|.a<|-1⟩,⟨28,.w 30 0,.cell 30<|.a 0 []⟩,⟨29,.tuple V2,.val<|.B<|G ps⟩,⟨30,.F<|.k<|.a 1,.val<|.a<|-1⟩,⟨31,.k<|.a 0,.val<|.a 0⟩,⟨32,.k<|.a 0,.val<|.a 0⟩,⟨33,.k<|.a 0,.val<|.a 0⟩,⟨34,.k<|.a 0,.val<|.a 0⟩,⟨35,.g<|AV.a 1024,.val<|.a 1024⟩,⟨36,.k<|.a 0,.val<|.a 0⟩,⟨37,.k<|.a 0,.val<|.a 0⟩,⟨38,.w 31 0,.cell 31<|.a 0 []⟩,⟨39,.w 32 0,.cell 32<|.a 0 []⟩,⟨40,.w 33 0,.cell 33<|.a 0 []⟩,⟨41,.w 34 2,.cell 34<|.a 2 []⟩,⟨42,.w 35 2,.cell 35<|.a 2 []⟩,⟨43,.w 36 0,.cell 36<|.a 0 []⟩,⟨44,.k<|.a 0,.val<|.a 0⟩,⟨45,.L 37 [],.cell 37<|.b []⟩,⟨46,.w 38 0,.cell 38<|.a 0 []⟩]
theorem a7E(t):PI.body=(xm t).map (λa=>PS.j V0 a.f a.e)++[]:=rfl
theorem a7G(h)(ps):PJ.body=(um h ps).map (λa=>PS.j V0 a.f a.e)++[]:=rfl
noncomputable def qI:List a7->(Nat->List cQ)->Nat->List kO
 |[],_,_=>[]
 |l::r,R,k=>(l,.b<|(R k).map lg)::qI r R (k+1)
def ML(R):∀ls k,j6 (qI ls R k)=ls:=by
 intro ls;induction ls with
 |nil=>
  exactλc=>H
 |cons l r b=>
  exactλk=>be (l::·) (b<|k+1)
def Fd:∀{u k p},p∈qI u R k↔∃i,u[i]?=I p.1/\p.2=.b ((R<|k+i).map lg):=by
 intro u;induction u with
 |nil=>
  exact⟨λh=>(nomatch h),λe=>aA e λi h g=>by simp at h⟩
 |cons l r f=>
  intro k p;show p∈_::_↔_;rw[cf,f] at⊢;constructor
  .rintro(rfl|⟨i,c,d⟩);.exact⟨0,H,H⟩
   .exact⟨i+1,c,by rw[d,RX];rfl⟩
  .rintro⟨i,c,d⟩;rcases i with _|i;.obtain⟨a,b⟩:=p;cases c;cases d;exact .inl H
   .exact .inr ⟨i,c,by rw[d,RX];rfl⟩
noncomputable def vD(tl:kJ)(T:bP)(g h:a7)(N:Nat->Nat)(ps:List Nat)(X:List kO):GS:=
 ⟨tl,T,⟨g,h,⟨29,N 29⟩,⟨19,N 19⟩,⟨20,N 20⟩,⟨21,N 21⟩,⟨22,N 22⟩,⟨23,N 23⟩,⟨24,N 24⟩,⟨25,N 25⟩,⟨26,N 26⟩,⟨27,N 27⟩,⟨28,N 28⟩,⟨30,N 30⟩,⟨31,N 31⟩,⟨32,N 32⟩,⟨33,N 33⟩,⟨34,N 34⟩,⟨35,N 35⟩,⟨37,N 37⟩,⟨38,N 38⟩⟩,
  ⟨ps,-1,-1,0,0,0,1024,0,0,⟨36,N 36⟩⟩,⟨[],[],[],[],[],[],[],[],[]⟩,X⟩
def UW{ps}(r:O ps<=100)(u:dg L 2=.r (G ps)):sk n L (.tuple V2)<|.val<|.B<|G ps:=λσ K h=>by
 rw[e27,e3,u];exact⟨lm r H,h⟩
def a0h{ps}(r:O ps<=100):∀a∈um h ps,sk n [.d g,.d h,.r<|G ps] a.e a.s:=by
 obtain c:=UW (L:=[.d g,.d h,.r<|G ps]) r H;obtain h4:=λb b h=>h;unfold um;simp only[cf,jU,or_false,forall_eq_or_imp,forall_eq];exact⟨λb b h=>h,c,kR,kR,kR,kR,kR,kR,h4,kR,kR,kR,pO,kR,(λσ K d=>by
  exactλj fr=>⟨H,d j fr⟩),h4,h4,kR,c,h4,pO,pO,pO,pO,D4,pO,pO,kR,kR,kR,kR,kR,kR,pO,yq,kR⟩
def t!{t}:∀a∈xm t,sk n [.d g,.d t] a.e a.s:=by
 unfold xm;simp only[cf,jU,or_false,forall_eq_or_imp,forall_eq];exact⟨λb b h=>h,pO,D4,D4,pO⟩
def ig.cons{o}(h:σ l=I o)(t:ig σ cs):ig σ<|(l,o)::cs:=λp b=>(cf.mp b).elim (λe=>ay e h)<|t p
def ig.nil:ig σ []:=dS
def ig.B{a b}(h:ig σ a)(h':ig σ b):ig σ<|a++b:=λp c=>(fQ.mp c).elim (h p)<|h' p
def Yr{A:List a7}(e:A.map a7.t=ts)(nd:cg ts)(r:cg B)(u:∀l∈B,l.t=55)(F:55∉ts):cg<|A++B:=by
 subst e;exact kL.mpr ⟨a7O a7.t (λa b h e=>h<|be a7.t e) nd,r,λa d b c e=>F<|u b c▸e▸dU d⟩
def cp.cT(h:cp σ tl T)(r:∀l o,σ l=I o->σ' l=I o):cp σ' tl T:=
 ⟨r _ _ h.h,r _ _ h.e,r _ _ h.a,r _ _ h.d,r _ _ h.g,r _ _ h.j,h.b⟩
def BP(w:LW)(V ρ:Nat->Nat)(p:Nat):Option Nat:=((eu w<|ρ p).map<|jm V).map mc
def DP(w:LW)(V ρ:Nat->Nat)(p:Nat):Option Nat:=((mW w<|ρ p).map<|jm V).map mc
theorem Laid.r{os:List Nat}(h:Laid σ tl T w nm V ρ)(ho:∀k∈os,k<w.au):Wd T (os.map V) (BP w V ρ)<|DP w V ρ:=by
 obtain cell:∀s p,p∈os.map V->mH T (T.cs s) p (((oL w s<|ρ p).map<|jm V).map mc):=λs p d=>by
  refine aA (bp.mp d) λk f c=>?_;subst c;have lt:=ho k f;have b:=h.b.q s k lt;rw[ak lt] at b;rw[h.b.r.c.s k lt];rcases e:oL w s k with _|t;.rw[e] at b;exact b
  .rw[e] at b;exact b
 exact⟨bG (h.b.aT am) H,bG (h.b.aT U) H,cell am,cell U⟩
def a0q{P}:GI P ⟨[],[],[],[],[],[],[],[],[]⟩ T λr=>[] where
 e:=⟨.nil,dS,dS,dS,λr r r=>H⟩
 f:=⟨.nil,dS,dS,dS,λr r r=>H⟩
 c:=⟨.nil,dS,λr r=>aE⟩
 az:=⟨.nil,dS,λr r=>H⟩
 B:=⟨.nil,dS,λr r=>H⟩
 i:=⟨.nil,dS,λr r=>H⟩
def a0l{N ps}(ht:cp σ tl T)(r:σ g=I (.d 1<|gF<|vD tl T g h N ps X))(u:σ h=I (.d 2<|Ge tl))(B:∀p∈xa N (um h ps),σ p.1=I p.2)(F:ig σ X):ig σ<|jA<|vD tl T g h N ps X:=by
 obtain at_:∀k{t:Nat}{o:eE},(xa N<|um h ps)[k]?=I (⟨t,N t⟩,o)->σ ⟨t,N t⟩=I o:=λk b b e=>B _<|pG e;exact .B (.cons ht.h<|.cons ht.e<|.cons ht.a<|.cons ht.d<|.cons ht.g<|.cons ht.j .nil)<|.B (.cons r<|.cons u<|.cons (at_ 10 H)<|.cons (at_ 0 H)<|.cons (at_ 1 H)<|.cons (at_ 2 H)<|.cons (at_ 3 H)<|.cons (at_ 4 H)<|.cons (at_ 5 H)<|.cons (at_ 6 H)<|.cons (at_ 7 H)<|.cons (at_ 8 H)<|.cons (at_ 9 H)<|.cons (at_ 11 H)<|.cons (at_ 12 H)<|.cons (at_ 13 H)<|.cons (at_ 14 H)<|.cons (at_ 15 H)<|.cons (at_ 16 H)<|.cons (at_ 19 H)<|.cons (at_ 18 H)<|.cons (at_ 17 H) .nil) F
def a0k{N ps}(ht:cp σ tl T)(r:tl.h.t=57)(u:g.t=59)(B:h.t=60)(nd:cg<|j6 X)(F:∀l∈j6 X,l.t=55):cg<|j6<|jA<|vD tl T g h N ps X:=by
 obtain e:j6 (jA<|vD tl T g h N ps X)=j6 (nN tl T++lh (vD tl T g h N ps X))++j6 X:=by
  rfl
 rw[e];refine o7 ht.b λb c d f i=>Yr (ts:=[57,10,11,12,13,14,59,60,29,19,20,21,22,23,24,25,26,27,28,30,31,32,33,34,35,38,37,36]) ?_ (Y H) nd F (Y H);show[tl.h.t,tl.e.t,tl.a.t,tl.d.t,tl.g.t,tl.j.t,g.t,h.t,29,19,20,21,22,23,24,25,26,27,28,30,31,32,33,34,35,38,37,36]=_;rw[r,b,c,d,f,i,u,B]
def Gd(t):cg ((xm t).map AS.f)/\cg (rq<|xm t)/\60∉rq (xm t):=(Y H)
def Go(t)(ps):cg ((um t ps).map AS.f)/\cg (rq<|um t ps)/\59∉rq (um t ps):=(Y H)
structure jB(w:LW)(os:List Nat):Prop where
 nd:os.Nodup
 h:∀k,k∈os↔k<w.au
def jB.aT(h:jB w os):O os<=w.au:=sQ w.au os h.nd λk b=>(h.h k).mp b
structure Gs(σ:av)(S:GS)(T:bP)(A:List<|Nat×Bool)(R:Nat->List cQ)(w:LW)(RL:Nat->List cQ)(os:List Nat)(tl:kJ)(V ρ:Nat->Nat)(tp:Nat)(N:Nat):Prop where
 hd:Hd σ S T A R false false (BP w V ρ) (DP w V ρ) N
 a:S.D.a=os.map V
 c:S.D.c=0
 X:S.X=qI w.b RL 0
 tl:S.tl=tl
 A2:uB T S.D.yA tp
 ti:S.V.h=[]
 wI:S.D.e=0
def a0i{K}(F:dg L 1=.d tl.h)(g2:dg L 2=.g 0 (dN nm))(M:dg L 3=.r (G os))(gs:∀x,dg (ci L 13 x) 1=.d tl.h/\dg (ci L 13 x) 2=.g 0 (dN nm)/\dg (ci L 13 x) 13=x)(u:dR σ w R)(wf:WF w)(h:Laid σ tl T w nm V ρ)(ho:jB w os)(hK:∀σ' S,Gs σ' S T [] (λr=>[]) w R os tl V ρ 0 0->K (.d S.L.g) σ'):
 a6 (W<|n+2) (.new 1 59 [.new 2 60 [V1],.z (.B 13) V3 C<|.n (.n (.p V1 0)<|.n V2<|.v 13) N1]) L σ K:=by
 obtain D:=aV ho.aT u.a;rw[Pe,l2,Pe,l2,e3,F];lk
 refineλd s=>bq [.d ⟨60,d⟩,.d tl.h] H (EV (N:=λr=>0) H t! fc (Gd tl.h).1 (Gd tl.h).2.1 (by show 0+5<=100;decide) (Gd tl.h).2.2 λN0 c r O r P=>aw ⟨H,?_⟩)
 have E:∀l o,σ l=I o->c l=I o:=λl o e=>by
  have ne:l≠⟨60,d⟩:=λq=>by rw[q,s 60] at e;exact cL e
  exact P l o ne<|(cN ne).trans e
 obtain t:=h.b.h.cT E;rw[M];refine⟨lm D H,uv (g:=λk=>AV.a<|V k) (λx Kt h=>h) (λk f Ke Q=>?_) ?_⟩;.have lt:=(ho.h k).mp f;refine aA (h.b.r.id k lt) λv U a=>gl (gs<|.a k) λX Z a3=>?_;simp only[X,Z,a3];exact aU t.h H<|qB U<|wX t h.b.y a (h.b.r.d k lt) Q
 intro j fr;rw[<-CH];refine bq [.d ⟨59,j⟩,.d ⟨60,d⟩,.r<|G<|os.map V] H (EV (fs:=[]) (N:=λr=>0) H (a0h<|lm D H) fc (Go ⟨60,d⟩<|os.map V).1 (Go ⟨60,d⟩<|os.map V).2.1 (by show 0+36<=100;decide) (Go ⟨60,d⟩<|os.map V).2.2 λN b r hg hm kg=>aw ⟨H,?_⟩);have y:∀l o,c l=I o->b l=I o:=λl o e=>by
  have ne:l≠⟨59,j⟩:=λq=>by rw[q,fr 59] at e;exact cL e
  exact kg l o ne<|(cN ne).trans e
 obtain z:=t.cT y;refine hK b (vD tl T ⟨59,j⟩ ⟨60,d⟩ N (os.map V)<|qI w.b R 0) ⟨⟨⟨((⟨a0l z hg (y _ _ O) (λp m=>(hm p m).1) (λp m=>by
  refine aA (Fd.mp m) λi e1 A=>?_;obtain A:=(n6 ..)▸A;rw[A];exact y _ _<|E _ _<|u.c i p.1 e1),a0k z h.a H H (by rw[ML];exact wf.nd) (λl u=>wf.a l<|by rw[ML] at u;exact u),h.b.y,z.b⟩:St b<|vD tl T ⟨59,j⟩ ⟨60,d⟩ N (os.map V)<|qI w.b R 0)),.nil,dS⟩,a0q,λp m=>?_,⟨H,H,dj⟩,h.r λk f=>(ho.h k).mp f,λr=>ce 0,Ay 0,Y H,H⟩,H,H,H,H,.none,H,H⟩
 refine aA (bp.mp m) λk f B=>?_;subst B;exact h.b.r.d k<|(ho.h k).mp f
def oV(V:Nat->Nat)(ks:List Nat):Nat:=cw<|ks.map λk=>2^(14+V k)
def yC{ks}:aQ (oV V ks) i=U↔∃k∈ks,i=14+V k:=by
 rw[mK];rw[iG] at⊢;constructor;.rintro⟨x,d,h⟩;refine aA (bp.mp d) λk b c=>?_;subst c;rw[jD,dT] at h;exact⟨k,b,h.symm⟩
 .rintro⟨k,b,rfl⟩;exact⟨_,dU b,by rw[jD];rw[dT] at⊢⟩
def ED{ks}(h:∀k∈ks,V k<4):oV V ks<2^18:=by
 refine Nat.lt_pow_two_of_testBit _ λi hi=>?_;rcases e:aQ (oV V ks) i with _|_;.rfl
 .refine aA (yC.mp e) λk c b=>?_;subst b;exact aP (h k c)<|fw.mpr<|a6v hi
def a4b:∀b∈tA,∀p,p<16->fp (b|||p<<<14)=b|||p<<<14:=by decide+kernel
def XW{ks}(h:∀k∈ks,V k<4):∃p,p<16/\oV V ks=p<<<14:=by
 refine⟨oV V ks>>>14,?_,?_⟩;.rw[H2];exact Nat.div_lt_of_lt_mul<|ED h
 .refine km λi=>?_;rw[Nat.testBit_shiftLeft,Nat.testBit_shiftRight];by_cases z:14<=i;.rw[bA z,H5 z];rfl
  .rw[bR z];rcases e:aQ (oV V ks) i with _|_;.rfl
   .refine aA (yC.mp e) λk c b=>?_;subst b;exact aP (fA ..) z
def vC(nm:List<|Nat×Nat)(k:Nat):Nat:=(lk nm k).getD 0
theorem iT.FU(h:iT T nm V ρ w.au):∀{ks:List Nat},(∀k∈ks,k<w.au)->IsL T (ks.map<|vC nm) (ks.map λk=>2^(14+V k))
 |[],_=>.nil
 |k::ks,b=>by
  refine aA (h.id k<|b k aZ) λt e a=>.cons ?_ (h.FU λj c=>b j<|bK _ c);show Is T ((lk nm k).getD 0) _;rw[e];exact⟨[t],[14+V k],.B a,n7 _⟩
def Lq(h:iT T nm V ρ w.au){ks:List Nat}(r:∀k∈ks,k<w.au):∀x∈ks.map (λk=>2^(14+V k)),x<2^18:=λx d=>by
 refine aA (bp.mp d) λk b c=>?_;subst c;exact tI (Y H)<|qj (h.d k<|r k b) 14
def TV(h:iT T nm V ρ w.au)(r:∀x,dg (ci L 14 x) 0=bS w/\dg (ci L 14 x) 2=.g 0 (dN nm)/\dg (ci L 14 x) 14=x):∀{ks K},K (G<|(ks.filter λk=>decide<|k<w.au).map<|vC nm) σ->
 iJ (n8 (W n)<|I<|.h .lt (.v 14)<|.n V0<|.k<|AV.f j1) (a6 (W n)<|.n V2<|.v 14) (.B 14) dc L (G ks) σ K:=by
 intro ks;induction ks with
 |nil=>
  intro K b;exact b
 |cons k ks d=>
  intro K b;refine gl (r<|.a k) λf g c=>qU ?_;dsimp only[n8,a6];simp only[f,g,c];dsimp only[iW];apply rL;by_cases z:k<w.au
  .rw[jf,ak<|bA z] at b;refine aA (h.id k z) λv e a=>?_;have ev:vC nm k=v:=by unfold vC;rw[e];rfl
   refine iw (jH.mpr z)<|qB e ⟨aE,d ?_⟩;rw[lG,ev] at b;exact b
  .rw[jf,Z λq=>z<|Y q] at b;exact gW (iH.mpr<|lE z) ⟨aE,d b⟩
def oR(w:LW)(V:Nat->Nat):Nat:=oV V<|w.F.filter λk=>decide<|k<w.au
def Ji(h:iT T nm V ρ w.au):∀k∈w.F.filter (λk=>decide<|k<w.au),V k<4:=λk b=>h.d k<|Y (cG.mp b).2
def EC{ks}(h:∀k∈ks,V k<4){b}(r:b∈tA):fp (b|||oV V ks)=b|||oV V ks:=by
 refine aA (XW h) λp c e=>?_;rw[e];exact a4b b r p c
def WY(h:Gs σ S T A R w RL os tl V ρ 0 N)(r:dR σ w RL)(wf:WF w)(na:iT T nm V ρ w.au)(B:∀σ' F T',Gs σ' F T' A R w RL os tl V ρ (oR w V) N->T.Le T'->F.L=S.L->wB (n+3) rest [bS w,.d tl.h,.g 0<|dN nm,x3,x4,.d S.L.g,x6,x7,x8,x9,A_,A!,B',B!,C_,y'] σ' K):
 wB (n+3) (.d (.h .gt (.aT<|.n V0<|.k<|AV.f pQ) N0)
  [.j V5 26<|.j 12 [V1,.z (.B 14) (.n V0<|.k<|AV.f pQ) (I<|.h .lt (.v 14)<|.n V0<|.k<|AV.f j1)<|.n V2<|.v 14]]
  []::rest) [bS w,.d tl.h,.g 0<|dN nm,x3,x4,.d S.L.g,x6,x7,x8,x9,A_,A!,B',B!,C_,y'] σ K:=by
 apply bV;lk;refine E7 ⟨lm r.tl H,?_⟩;rw[ba];by_cases z:w.F=[];.rw[z];exact o9 (Y H)<|aw<|(((show oR w V=0 from by unfold oR;rw[z];rfl))▸B) σ S T h (.B T) H
 .refine uo (jH.mpr<|Di.mpr z)<|ry ?_;lk;refine E7 ⟨lm r.tl H,TV (n:=n+3) na (λx=>⟨H,H,H⟩) ?_⟩;obtain c:∀k∈w.F.filter (λk=>decide<|k<w.au),k<w.au:=λk d=>Y (cG.mp d).2;refine pM (.inl H) (aO h.tl h.hd.q.h) h.hd.q.y (na.FU c) (Lq na c) (by rw[ba];exact aV (k9 ..)<|bG r.tl H) λt σ' T' u hi=>?_;obtain hi:Is T' t<|fp<|0|||oR w V:=by rw[qh];exact hi
  obtain hi:=((EC (Ji na) (b:=0)<|Y H) ..)▸hi;obtain hi:=(qh ..)▸hi;obtain q:=h.hd.q.F<|ay h.tl u;exact mL q.j H<|aw<|B _ {S with D:={S.D with yA:=t}} T' ⟨⟨q.oh {S.D with yA:=t} H H,h.hd.gi.F u.c,h.hd.h4,⟨h.hd.c.d,h.hd.c.b,h.hd.c.F⟩,h.hd.r.F u.c,h.hd.aT,h.hd.u,h.hd.small,h.hd.g⟩,h.a,h.c,h.X,h.tl,.some hi (ED<|Ji na) (λe=>by
   have:aQ (oR w V) (14+V 0)=true:=yC.mpr ⟨0,cG.mpr ⟨(by
    rcases wf.F with e|e|e;.exact aP e z
    .rw[e];exact .head _
    .rw[e];exact .head _),bA wf.c0⟩,H⟩
   obtain this:=(e ..)▸this;obtain this:=(lX ..)▸this;exact dj this),h.ti,h.wI⟩ u.c H
def sS{a b}(h:oH V ρ z)(r:a<z)(u:b<z)(e:V a=V b):a=b:=by
 rw[<-h.s a r,e,h.s b u]
def G6:∀b∈tA,b<2^12:=Y H
def G7{b}(h:b∈tA)(e:aQ b i=U):i<12:=by
 refine m4 λz=>?_;rw[jR<|eR (G6 b h)<|pw z] at e;exact dj e
def WR:∀b∈tA,cw (((cO 14).filter b.testBit).map nQ)=kB b:=by decide+kernel
def AT{b:Nat}(e:bW bs=b|||oV V ws){i:Nat}:i∈bs↔aQ b i=U\/∃k∈ws,i=14+V k:=by
 rw[<-dT (p:=i∈bs),<-fF,e,fD,rh,yC]
def Ub{b}(h:oH V ρ z)(r:∀k∈ws,k<z)(nd:cg ws)(B:b∈tA)(u:cg bs)(e:bW bs=b|||oV V ws):O (cS bs)=O ws/\∀f R,RA (cS bs) f R=RA (ws.map V) f R:=by
 obtain inj:∀x∈ws,∀y∈ws,x≠y->14+V x≠14+V y:=λx d y g ne q=>ne<|sS h (r x d) (r y g)<|H6 q;obtain i:cg<|ws.map λk=>14+V k:=by
  clear e u;induction ws with
  |nil=>exact .nil
  |cons x ws o=>
   exact bY (fh.mp nd) λd nd=>fh.mpr ⟨λs=>aA (bp.mp s) λy g e=>inj x aZ y (bK _ g) (λq=>d<|ay q g) e.symm,o (jw r) nd λa t c v=>inj a (bK _ t) c<|bK _ v⟩
 obtain A:cS (ws.map λk=>14+V k)=ws.map V:=by
  unfold cS;rw[Au.mpr λx d=>by refine aA (bp.mp d) λk C j=>?_;subst j;exact kn.mpr<|fA ..,kM];exact R2 λk C=>uP ..
 obtain⟨m,n⟩:=Iz u i λp=>by
  rw[AT e,bp] at⊢;constructor
  .rintro(q|⟨k,l,q⟩);.have:=G7 B q;exact aP this (lq (jE 14 p) H)
   .exact⟨k,l,q.symm⟩
  .rintro⟨k,l,q⟩;exact .inr ⟨k,l,q.symm⟩
 rw[A] at m n;exact⟨m.trans<|ba ..,n⟩
def Uc{b}(r:b∈tA)(e:bW bs=b|||oV V ws):iN bs=kB b:=by
 refine WR b r▸km λi=>?_;rw[mK,mK];rw[gu,iG,iG] at⊢;constructor
 .rintro⟨x,f,t⟩;refine aA (bp.mp f) λc g d=>?_;subst d;rcases(AT e).mp g with q|⟨k,_,rfl⟩;.exact⟨_,dU<|cG.mpr ⟨eJ.mpr<|m3 (G7 r q)<|Y H,q⟩,t⟩
  .have z:nQ (14+V k)=0:=by
    unfold nQ;rw[Z<|lq (fA 14 _) H,Z<|lq (fA 14 _) H,Z<|Mb H,Z<|Mb H,Z<|lq (fA 14 _) H]
   obtain t:=(z ..)▸t;obtain t:=(lX ..)▸t;exact dj t
 .rintro⟨x,f,t⟩;refine aA (bp.mp f) λc g d=>?_;subst d;exact⟨_,dU<|(AT e).mpr<|.inl (cG.mp g).2,t⟩
def ZU:∀m∈[5,256,0,1,3072,64],(mz m).any oj=decide (m≠0):=by decide+kernel
def ZS:∀m∈[0,1],∀p,p<4->(mz<|m|||2^(14+p)).any oj=decide (m≠0):=by decide+kernel
def ZT(wf:WF w)(h:oH V ρ w.au)(h4:∀k,k<w.au->V k<4)(r:k<w.au):jz (BP w V ρ<|V k)=p0 (eu w k):=by
 unfold BP;rw[h.s k r];rcases e:eu w k with _|t;.rfl
 .obtain⟨m,o⟩:=t;rcases o with _|q;.exact ZU m (wf.r e).m
  .exact bY ((wf.r e).q q H) λhq b=>ZS m b (V q)<|h4 q hq
structure Mt(w:LW)(V:Nat->Nat)(R Ra:Nat->List cQ):Prop where
 c:∀k,k<w.au->R (V k)=Ra k
 out:∀p,(∀k,k<w.au->p≠V k)->R p=[]
def Ot:∀m∈Gi,m<2^14/\eV m=m:=by decide+kernel
def Mt.step(h:Mt w V R Ra)(wf:WF w)(na:iT T nm V ρ w.au)(hq:lH w.au q):Mt w V (RA (q.c.map V) (qP (decide<|1<q.d) (decide<|q.d=3) (BP w V ρ) q.e (kB q.b) (O q.c) q.a) R) (pY w q Ra) where
 c:=λk b=>by
  have e:V k∈q.c.map V↔k∈q.c:=by
   rw[bp] at⊢;exact⟨λf=>aA f λj c e=>aO (sS na.c (hq.nd.2 j c) b e) c,λh=>⟨k,h,H⟩⟩
  unfold pY RA;by_cases z:k∈q.c;.rw[ak z,ak<|e.mpr z,h.c k b];unfold qP pZ;rw[ZT wf na.c na.d b]
  .rw[Z z,Z λx=>z<|e.mp x,h.c k b]
 out:=λp d=>by
  unfold RA;rw[Z λx=>by refine aA (bp.mp x) λj c e=>?_;exact d j (hq.nd.2 j c) e.symm];exact h.out p d
def Gs.B{b st}(h:Gs σ S T A R w RL os tl V ρ tp N)(hd:Hd F (S.B S.D.c a1 b st l r) u a0 R' am am (BP w V ρ) (DP w V ρ) N')(le:T.Le u)(hv:kP r):Gs F (S.B S.D.c a1 b st l r) u a0 R' w RL os tl V ρ tp N':=
 ⟨hd,h.a,h.c,h.X,h.tl,h.A2.F le,hv.ti,h.wI⟩
def Ud{t}(g:bF T)(na:iT T nm V ρ w.au)(ho:jB w os)(r:S.D.a=os.map V)(hq:lH w.au q)(hi:Is T t tm)(e:tm=q.b|||oV V q.c):
 ∃bs,uC T S.D.a t tm bs/\O (cS bs)=O q.c/\(∀f R,RA (cS bs) f R=RA (q.c.map V) f R)/\iN bs=kB q.b:=by
 obtain⟨E,bs,p,j⟩:=hi;have c:=j.trans e;have l:=λk d=>na.d k<|hq.nd.2 k d;obtain⟨i,n⟩:=Ub na.c hq.nd.2 hq.nd.1 hq.b (p.w.q g<|p.h.imp hZ) c;have m:0<O q.c:=by rcases hq.aT with e|e<;>rw[e]<;>decide
 refine⟨bs,⟨⟨E,p⟩,j,(by
  rw[e];exact mG (oY (G6 _ hq.b) H)<|ED l),by rw[e];exact EC l hq.b,λb o s=>?_,λz=>?_⟩,i,n,Uc hq.b c⟩
 .rcases(AT c).mp o with z|⟨k,d,rfl⟩;.have:=kn.mp s;exact aP (G7 hq.b z) (lq this H)
  .rw[uP,r];exact dU<|(ho.h k).mpr<|hq.nd.2 k d
 .rw[z] at i;rw[<-i] at m;exact aP m<|Y H
abbrev Ov:List PS:=M6
def a0a(h:Gs σ S T A R w RL os tl V ρ tp N)(mt:Mt w V R Ra)(wf:WF w)(na:iT T nm V ρ w.au)(ho:jB w os)(hq:lH w.au q)(hN:N+4<=900)(hK:∀σ' S' T' A' R' A! B' y',Gs σ' S' T' A' R' w RL os tl V ρ tp (N+4)->Mt w V R' (pY w q Ra)->T.Le T'->S'.L=S.L->K .none [bS w,.d tl.h,.g 0<|dN nm,x3,x4,.d S.L.g,.a q.e,.a q.b,.r<|G q.c,.a q.d,.a q.a,A!,B',B!,C_,y'] σ'):
 wB (n+20) Ov [bS w,.d tl.h,.g 0<|dN nm,x3,x4,.d S.L.g,.a q.e,.a q.b,.r<|G q.c,.a q.d,.a q.a,A!,B',B!,C_,y'] σ K:=by
 obtain L:=Ot _ hq.e;obtain lw:=hq.aT;refine bX<|Fx (aO h.tl h.hd.q.h) h.hd.q.y L λs P Z B hs=>bX ?_;obtain q1:=h.hd.gU (h.hd.q.F<|h.tl▸B) B.c;obtain j:=na.M B.c.r;lk;refine⟨by rw[ba];rcases lw with e|e<;>rw[e]<;>decide,uv (g:=λk=>AV.a<|vC nm k) (λx Kt h=>h) (λk Q Ke hP=>?_) ?_⟩;.exact aA (na.id k<|hq.nd.2 k Q) λv hv a=>qB hv<|aO ((show vC nm k=v from by unfold vC;rw[hv];rfl)) hP
 rw[<-CH];refine BL B.h B.y (oY (G6 _ hq.b) H) (j.FU hq.nd.2) (Lq j hq.nd.2) (by rw[ba];rcases lw with e|e<;>rw[e]<;>decide) λt U D E hi=>bV ?_;have C:=q1.gU (q1.q.F<|h.tl▸E) E.c;obtain m:=hs.F E.c;obtain F:=B.c.q E.c;refine vA (Ud C.q.y (j.M E.c.r) ho h.a hq ((EC (λk Q=>na.d k<|hq.nd.2 k Q) hq.b)▸hi) H) λbs tg W wr rm=>?_;have rk:q.a<1024:=by
  rcases hq.a with⟨_,e⟩|⟨_,e⟩<;>revert e<;>generalize q.a=r<;>revert r<;>decide
 have I:N+2+O (cS bs)<=N+4:=by rw[W];exact jq (lw.elim (λz=>rd<|gG z) gG)<|N+2
 have bD:∀{σ₃ d f i b st l c o p},o=decide (1<q.d)->p=decide (q.d=3)->Hd σ₃ (S.B S.D.c i b st l c) d f (RA (cS bs) (qP o p (BP w V ρ) q.e (iN bs) (O<|cS bs) q.a) R) am am (BP w V ρ) (DP w V ρ) (N+2+O (cS bs))->D.Le d->kP c->∀A! B' y',K .none [bS w,.d tl.h,.g 0<|dN nm,x3,x4,.d S.L.g,.a q.e,.a q.b,.r<|G q.c,.a q.d,.a q.a,A!,B',B!,C_,y'] σ₃:=λ{σ₃ d f i b st l c o p} e1 e2 hd le u A! B' y'=>by
  obtain hd:=(wr ..)▸hd;obtain hd:=(W ..)▸hd;obtain hd:=(rm ..)▸hd;obtain hd:=(e1 ..)▸hd;obtain hd:=(e2 ..)▸hd;exact hK σ₃ _ d f _ A! B' y' (h.B (hd.fX (W▸I) hN) (F.q le) u) (mt.step wf na hq) (F.q le) H
 have w4:=hq.d;have y:=aV I hN;lk;by_cases z:q.d<2;.exact iw (jH.mpr z)<|ia<|Ou C (by rw[h.c];decide) m L tg rk (λζ=>H) y λσ₃ d f i b st l c hd le u=>⟨aE,aw<|aw<|bD (bR<|RT z).symm (bR<|Bs z H).symm hd le u _ _ _⟩
 .refine gW (iH.mpr<|fw.mp z)<|bV ?_;by_cases M:q.d=2;.refine gO (by rw[M];rfl)<|mg ?_;lk;exact fY C.q.j H (Po C h.c m L tg rk (λζ=>H) y λσ₃ d f i b st l c hd le u=>⟨aE,aw<|aw<|aw<|bD (bA<|lE z).symm (bR λe=>aP (M.symm.trans e)<|Y H).symm hd le u _ _ _⟩)
  .refine eh (λe=>M<|gI e)<|ia ?_;lk;have z3:=v6 (sz w4)<|RV (fw.mp z)<|q7 M;have X:q.a&&&16=0:=by
    rcases hq.a with⟨_,e⟩|⟨e,_⟩;.revert e;generalize q.a=r;revert r;decide
    .exact aP z3 e
   exact fY C.q.j H<|TJ C h.c m L tg rk X y λσ₃ d f i b st l c hd le u=>⟨aE,aw<|aw<|aw<|bD (bA<|lE z).symm (bA z3).symm hd le u _ _ _⟩
def rP(w:LW)(qs:List uW)(R:Nat->List cQ):Nat->List cQ:=qs.foldl (λR q=>pY w q R) R
def Gs.M(h:Gs σ S T A R w RL os tl V ρ tp N)(r:dR E! w RL):dR σ w RL:=
 ⟨r.a,r.b,r.d,r.l,r.tl,λk l e=>by
  exact h.hd.q.st.r _ (xy.mpr<|.inr<|(show(l,eE.b<|(RL k).map lg)∈S.X from by
   rw[h.X];exact Fd.mpr ⟨k,e,by rw[n6]⟩)),r.aT⟩
def a0j(u:∀σ,ok σ)(wf:WF w)(ho:jB w os):∀{qs N σ S T A R Ra x6 x7 x8 x9 A_ A! B' y' K},Gs σ S T A R w RL os tl V ρ tp N->Mt w V R Ra->iT T nm V ρ w.au->(∀q∈qs,lH w.au q)->N+4*O qs<=900->
 (∀σ' r T' B R' x6 x7 x8 x9 A_ A! B' y',Gs σ' r T' B R' w RL os tl V ρ tp (N+4*O qs)->Mt w V R' (rP w qs Ra)->T.Le T'->r.L=S.L->K .none [bS w,.d tl.h,.g 0<|dN nm,x3,x4,.d S.L.g,x6,x7,x8,x9,A_,A!,B',B!,C_,y'] σ')->
 cu (wB (n+20) Ov) (.a [6,7,8,9,10]) ok (qs.map lQ) [bS w,.d tl.h,.g 0<|dN nm,x3,x4,.d S.L.g,x6,x7,x8,x9,A_,A!,B',B!,C_,y'] σ K:=by
 intro qs;induction qs with
 |nil=>
  intro N σ S T A R Ra x6 x7 x8 x9 A_ A! B' y' K h mt _ _ _ b;exact b σ S T A R x6 x7 x8 x9 A_ A! B' y' h mt (.B T) H
 |cons q qs m=>
  intro N σ S T A R Ra x6 x7 x8 x9 A_ A! B' y' K h mt na hq g b;refine DD H<|a0a h mt wf na ho (lM hq) (uc g H) λc i j k l o p s t d br e1=>⟨u _,aO e1<|m t d (na.M br.r) (jw hq) (mi g) λσ' r T' B R' x6 x7 x8 x9 A_ A! B' y' h' e f v=>ay e1<|b σ' r T' B R' x6 x7 x8 x9 A_ A! B' y' ?_ e (br.q f) (v.trans e1)⟩;rw[show N+4*(O qs+1)=N+4+4*O qs from lT.symm];exact h'
def ZB{K}(M:dR σ w RL)(wf:WF w)(h:Laid σ tl T w nm V ρ)(ho:jB w os)(hq:∀q∈qs,lH w.au q)(B:O qs<=9)(hK:∀σ' u T' F R',Gs σ' u T' F R' w RL os tl V ρ (oR w V) 40->Mt w V R' (rP w qs λr=>[])->T.Le T'->K (.d u.L.g) σ'):
 W (n+21) 109 [bS w,.d tl.h,.g 0<|dN nm,.r<|G os,.r<|qs.map lQ] σ K:=bq [bS w,.d tl.h,.g 0<|dN nm,.r<|G os,.r<|qs.map lQ,.q,.q,.q,.q,.q,.q,.q,.q,.q,.q,.q] H (cq<|a0i H H H (λx=>⟨H,H,H⟩) M wf h ho λc g i=>WY i (i.M M) wf h.b.r λd j k l b m=>lf ⟨lm B H,aO m<|a0j (λr=>aE) wf ho l ⟨λr r=>H,λr r=>H⟩ (h.b.r.M b.r) hq (yP B H) λσ' u T' F R' x6 x7 x8 x9 A_ A! B' y' h' e f o=>f7<|aO o<|hK σ' u T' F R' ⟨h'.hd.fX (yP B H)<|Y H,h'.a,h'.c,h'.X,h'.tl,h'.A2,h'.ti,h'.wI⟩ e<|b.q f⟩)
noncomputable def HS.u(y:HS)(b:Bool):List<|Nat×Nat:=bif b then y.f else y.e
def Vr(b)(y:HS)(x)(h:jc x):(y.M x).u b=if x.s=(if b then 1 else 0) then k6 (y.u b) (x.m,x.r) else y.u b:=by
 unfold HS.M;rcases h.r with e|⟨e,_⟩|⟨e,_⟩
 .rw[e];refine gl (AM y x.m x.r) λc d f=>?_;induction b using Bool.casesOn;.exact c
  .exact d
 .rw[e];induction b using Bool.casesOn<;>rfl
 .rw[e];induction b using Bool.casesOn<;>rfl
structure QL(σ:av)(S:GS)(T:bP)(A:List<|Nat×Bool)(w:LW)(RL:Nat->List cQ):Prop where
 q:Q σ S T A
 M:dR σ w RL
theorem QL.F(h:QL σ S T A w RL)(wf:WF w)(u:Up S.tl σ T σ' T'):QL σ' S T' A w RL:=
 ⟨h.q.F u,h.M.cT wf λb b c e=>u.keeps e<|wE h.q.h<|.inr<|.inl c⟩
def dR.u{o}(h:dR σ w RL)(wf:WF w)(ht:l.t≠55):dR (σ.u l o) w RL:=h.cT wf λb d c e=>(cN λ(q:b=l)=>ht<|aO q c).trans e
def dR.r(h:dR σ w RL)(wf:WF w)(ht:l.t≠55):dR (σ.r l) w RL:=h.cT wf λb d c e=>(Z λ(q:b=l)=>ht<|aO q c).trans e
abbrev DQ:List PS:=M5
def TX{c b}(wf:WF w)(ct:c.t=62)(F:∀{σ},dR σ w RL->σ l=I (.b all)):∀{B:List cQ}{y es σ T x7 x8 K},QL σ (S.g c<|es.map lz) T A w RL->m6 T es (y.u b)->(∀x∈B,jc x)->O es+O B<=100->
 (∀σ' T' r x7 x8,QL σ' (S.g c<|r.map lz) T' A w RL->T.Le T'->m6 T' r ((B.foldl HS.M y).u b)->O r<=O es+O B->K .none [x0,.d S.tl.h,x2,.a<|if b then 1 else 0,x4,x5,.d c,x7,x8] σ')->
 cu (wB (n+4) DQ) (.B 7) (λσ'=>σ' l=I (.b all)) (B.map lg) [x0,.d S.tl.h,x2,.a<|if b then 1 else 0,x4,x5,.d c,x7,x8] σ K:=by
 intro B;induction B with
 |nil=>
  intro y es σ T x7 x8 K h o _ _ p;exact p σ T es x7 x8 h (.B T) o<|ce _
 |cons x B R=>
  intro y es σ T x7 x8 K h o s C p;have D:=lM s;refine fj<|bX ?_;lk;refine dh (lb H) H<|Fx h.q.h h.q.y D.m λt E i u hi=>dh (lb H) H<|bV ?_;obtain j:=h.F wf u;obtain g:=o.F u.c;obtain f:=Vr b y x D;lk;apply dh (lb H) H;have next:∀{r:List<|Nat×Nat×Nat}{d:av}{x7 x8:AV},QL d (S.g c<|r.map lz) i A w RL->m6 i r ((y.M x).u b)->O r<=O es+1->d l=I (.b all)/\cu (wB (n+4) DQ) (.B 7) (λσ'=>σ' l=I (.b all)) (B.map lg) [x0,.d S.tl.h,x2,.a<|if b then 1 else 0,x4,x5,.d c,x7,x8] d K:=λ{r d x7 x8} N U l2=>
   ⟨F N.M,R N U (jw s) (xe l2 C) λσ' T' m x7 x8 h' G V W=>p σ' T' m x7 x8 h' (u.c.q G) V<|yW W l2⟩
  have P:((x.s:Nat):Int)=(if b then 1 else 0)↔x.s=(if b then 1 else 0):=by
   clear F x7 x8 h o p s C u;induction b using Bool.casesOn;.exact⟨Ax.mp,be Int.ofNat⟩
   .exact⟨Ax.mp,be Int.ofNat⟩
  by_cases z:x.s=(if b then 1 else 0)
  .rw[ak z] at f;refine kC (P.mpr z)<|EP j.q.v (λv X=>?_) ?_;.refine aA (bp.mp X) λk Y L=>?_;subst L;rfl
   obtain Q:=GH j.q.y g hi;by_cases q:(x.m,x.r)∈y.u b;.rw[bA<|Q.mpr q];exact bd<|aw<|aw<|next j (ay (f.trans<|ak q) g)<|gR _
   .rw[bR λe=>q<|Q.mp e];refine bw<|mg ?_;lk;refine⟨mw j.q.v,lS j.q.v (lm (kX C:O es<=100) H) ⟨aE,aw<|aw ?_⟩⟩;rw[show es.map lz++[.B [.a t,.a x.r]]=(es++[(t,x.m,x.r)]).map lz from by rw[d9];rfl];refine next ⟨j.q.wn _,j.M.u wf<|by rw[ct];decide⟩ ?_ (ay eK<|ce _);rw[f.trans<|Z q];refine⟨by rw[d9,g.1];rfl,λk M=>Or.elim (fQ.mp M) (g.2 k) λM=>?_⟩;rw[d8.mp M];exact⟨hi,D.m⟩
  .rw[Z z] at f;exact fU (λe=>z<|P.mp e)<|bd<|aw<|aw<|next j (ay f g)<|gR _
abbrev dC(es:List<|Nat×List (Nat×Nat×Nat)):List<|AV×AV:=dM (λl=>AV.r<|l.map lz) es
structure oG(T:bP)(es:List<|Nat×List (Nat×Nat×Nat))(V:Nat->Nat)(f:Nat->List (Nat×Nat))(x!:Nat):Prop where
 nd:(ks es).Nodup
 g:∀e∈es,∃k,k<x!/\e.1=V k/\m6 T e.2 (f k)/\e.2≠[]
 a:∀k,k<x!->f k≠[]->V k∈ks es
 aT:es.length<=x!
theorem oG.F(h:oG T es V f x!)(le:T.Le T'):oG T' es V f x!:=
 ⟨h.nd,λe b=>vA (h.g e b) λk c d g h4=>⟨k,c,d,g.F le,h4⟩,h.a,h.aT⟩
def oG.skip(h:oG T es V f x!)(e:f x!=[]):oG T es V f<|x!+1:=
 ⟨h.nd,λe c=>aA (h.g e c) λk d g=>⟨k,tJ d,g⟩,λk i b=>(xS.mp i).elim (λq=>h.a k q b) λq=>aP e<|aO q b,rd h.aT⟩
def oG.M{l}(h:oG T es V f x!)(B:oH V ρ w.au)(u:x!<w.au)(r:m6 T l<|f x!)(hn:l≠[]):V x!∉ks es/\oG T (es++[(V x!,l)]) V f (x!+1):=by
 have i:V x!∉ks es:=λm=>by
  exact aA (bp.mp m) λe r q=>eW (h.g e r) λk b c p=>hZ b<|sS B (m3 b u) u<|c.symm.trans q
 obtain j:ks (es++[(V x!,l)])=ks es++[V x!]:=d9;refine⟨i,⟨?_,λe he'=>?_,λk n d=>?_,?_⟩⟩;.rw[j];exact kL.mpr ⟨h.nd,fh.mpr ⟨λh=>(nomatch h),.nil⟩,λx g y o e=>i<|d8.mp o▸e▸g⟩
 .rcases fQ.mp he' with he'|he';.exact aA (h.g e he') λk b c=>⟨k,tJ b,c⟩
  .exact ay (d8.mp he') ⟨x!,lY x!,H,r,hn⟩
 .rw[j];rcases xS.mp n with q|q;.exact jF _ (h.a k q d)
  .rw[q];exact gA _ aZ
 .rw[eK];exact jS h.aT
abbrev Jo:List PS:=[.g 6<|.L 62 [],
 .h (.B 7) (.n (.n V0<|.k<|AV.f mf) V5) DQ,
 .u 6,
 .d (.h .gt (.aT V6) N0)
  [.m V4 (.n (.n (.p V1 0)<|.n V2 V5) N1) V6]
  []]
def TY{o b}(wf:WF w)(M:o.t=61)(hr:∀k,∀x∈RL k,jc x):∀{m x! es σ T x5 x6 x7 x8 K},QL σ (S.h o<|dC es) T A w RL->oG T es V (λk=>(aM<|RL k).u b) x!->iT T nm V ρ w.au->x!+m=w.au->
 (∀σ' T' r x5 x6 x7 x8,QL σ' (S.h o<|dC r) T' A w RL->T.Le T'->oG T' r V (λk=>(aM<|RL k).u b) w.au->K .none [bS w,.d S.tl.h,.g 0<|dN nm,.a<|if b then 1 else 0,.d o,x5,x6,x7,x8] σ')->
 cu (wB (n+4) Jo) (.B 5) dc (kU x! m) [bS w,.d S.tl.h,.g 0<|dN nm,.a<|if b then 1 else 0,.d o,x5,x6,x7,x8] σ K:=by
 intro m;induction m with
 |zero=>
  intro x! es σ T x5 x6 x7 x8 K h q _ e B;exact B σ T es x5 x6 x7 x8 h (.B T)<|aO e q
 |succ m L=>
  intro x! es σ T x5 x6 x7 x8 K h q na e B;have s:=e▸xT (sx _);refine bc (qW h.M.l s) λF f=>fj<|cq ?_;intro j fr;obtain G:QL _ ((S.h o<|dC es).g ⟨62,j⟩ []) T A w RL:=⟨h.q.N (.b [])<|fr 62,h.M.u wf<|by show 62≠55;decide⟩;apply gg;lk;obtain g:=h.M.aT x!;refine yR (og (ay h.M.l<|bG h.M.a H) f<|yF (G.M.c x! F f) ⟨lm g H,TX (S:=S.h o<|dC es) (y:=HS.nil) (es:=[]) wf H (λh'=>h'.c x! F f) G ⟨by induction b using Bool.casesOn<;>rfl,dS⟩ (hr x!) (by show 0+_<=100;exact s6 g H) λi d l x7 x8 C le I N=>pg H C.q.v<|bV ?_⟩);have p:QL (i.r ⟨62,j⟩) (S.h o<|dC es) d A w RL:=⟨C.q.sF,C.M.r wf<|by show 62≠55;decide⟩;have t:=na.M le.r;have next:∀{r:List<|Nat×List (Nat×Nat×Nat)}{c:av}{x6 x7 x8:AV},QL c (S.h o<|dC r) d A w RL->oG d r V (λk=>(aM<|RL k).u b) (x!+1)->cu (wB (n+4) Jo) (.B 5) dc (kU ((x!+1:Nat):Int) m) [bS w,.d S.tl.h,.g 0<|dN nm,.a<|if b then 1 else 0,.d o,.a x!,x6,x7,x8] c K:=λ{r c x6 x7 x8} hq ht=>
   L hq ht t (lT.trans e) λσ' T' u x5 x6 x7 x8 h' D E=>B σ' T' u x5 x6 x7 x8 h' (le.q D) E
  lk;refine⟨(by rw[ba];exact aV N<|bG (jT (ce 0) g) H),?_⟩;rw[ba];by_cases z:l=[];.rw[z];exact o9 (Y H)<|aw ⟨aE,next p<|(q.F le).skip<|by rw[<-I.1,z];rfl⟩
  .refine uo (jH.mpr<|Di.mpr z)<|iY ?_;lk;refine aA (t.id x! s) λv O a=>aU p.q.h.h H<|qB O<|wX p.q.h p.q.y a (na.d x! s) ?_;obtain⟨P,ht⟩:=(q.F le).M na.c s I z;refine vg p.q.qv H (by rw[qT];exact aV q.aT<|aV (je s)<|bG h.M.a H)<|aw ⟨aE,?_⟩;rw[(show mV (dC es) (.a<|V x!) (.r<|l.map lz)=dC (es++[(V x!,l)]) from by
    have:=Cy (enc:=λl:List (Nat×Nat×Nat)=>AV.r<|l.map lz) l es<|V x!;obtain this:=(yo P)▸this;exact this)]
   exact next ⟨p.q.wp _,p.M.u wf<|by rw[M];decide⟩ ht
def Nt{b K}(h:QL σ S T A w RL)(wf:WF w)(r:∀k,∀x∈RL k,jc x)(na:iT T nm V ρ w.au)(u:∀σ' T' es,QL σ' S T' A w RL->T.Le T'->oG T' es V (λk=>(aM<|RL k).u b) w.au->K (.g 0<|dC es) σ'):
 W (n+5) 110 [bS w,.d S.tl.h,.g 0<|dN nm,.a<|if b then 1 else 0] σ K:=by
 refine bq [bS w,.d S.tl.h,.g 0<|dN nm,.a<|if b then 1 else 0,.q,.q,.q,.q,.q] H<|cq λj fr=>lf ?_;lk;exact rL ⟨zg H,lu h.M.a H,⟨by rw[rz];exact bG h.M.a H,TY (es:=[]) wf H r ⟨h.q.N (.a 0 [])<|fr 61,h.M.u wf<|by show 61≠55;decide⟩ ⟨.nil,dS,λk c=>aP c<|Dg k,ce 0⟩ na (n6 _) λσ' T' es x5 x6 x7 x8 h' le d=>p7 H h'.q.qv<|f7<|u _ T' es ⟨h'.q.wu,h'.M.r wf<|by show 61≠55;decide⟩ le d⟩⟩
def K0{R}:(∀x∈R,x.r<1024)->(aM R).az<=1024/\((aM R).az=1024->(aM R).c=C):=by
 refine wM (P:=λR=>(∀x∈R,x.r<1024)->(aM R).az<=1024/\((aM R).az=1024->(aM R).c=C)) (λg=>⟨ce _,λg=>H⟩) (λR x i h=>bY (i λy j=>h y<|jF _ j) λc f=>?_) R;have d:=h x<|gA _ aZ;rw[xj];unfold HS.M;by_cases z:x.s=2
 .rw[ak z];unfold HS.g;by_cases a:x.r<(aM R).az;.rw[ak a];exact⟨je d,λe=>aP e<|hZ d⟩
  .rw[Z a];by_cases b:x.r=(aM R).az;.rw[ak b];exact⟨c,λe=>aP e<|hZ<|gQ (lE a) d⟩
   .rw[Z b];exact⟨c,f⟩
 .rw[Z z];exact⟨c,f⟩
structure oF(T:bP)(es:List<|Nat×Nat)(V:Nat->Nat)(f:Nat->Option Nat)(x!:Nat):Prop where
 nd:(ks es).Nodup
 g:∀e∈es,∃k,k<x!/\e.1=V k/\sn T (some e.2) (f k)
 a:∀k,k<x!->f k≠none->V k∈ks es
 aT:es.length<=x!
theorem oF.F{es f}(h:oF T es V f x!)(le:T.Le T'):oF T' es V f x!:=
 ⟨h.nd,λe b=>eW (h.g e b) λk c d g=>⟨k,c,d,g.F le⟩,h.a,h.aT⟩
def oF.skip{es f}(h:oF T es V f x!)(e:f x!=C):oF T es V f<|x!+1:=
 ⟨h.nd,λe c=>aA (h.g e c) λk d g=>⟨k,tJ d,g⟩,λk i b=>(xS.mp i).elim (λq=>h.a k q b) λq=>aP e<|aO q b,rd h.aT⟩
def oF.M{es f t}(h:oF T es V f x!)(B:oH V ρ w.au)(u:x!<w.au)(r:sn T (I t)<|f x!):V x!∉ks es/\oF T (es++[(V x!,t)]) V f (x!+1):=by
 have i:V x!∉ks es:=λl=>by
  exact aA (bp.mp l) λe r q=>eW (h.g e r) λk b c o=>hZ b<|sS B (m3 b u) u<|c.symm.trans q
 obtain j:ks (es++[(V x!,t)])=ks es++[V x!]:=d9;refine⟨i,⟨?_,λe he'=>?_,λk m d=>?_,?_⟩⟩;.rw[j];exact kL.mpr ⟨h.nd,fh.mpr ⟨λh=>(nomatch h),.nil⟩,λx g y n e=>i<|d8.mp n▸e▸g⟩
 .rcases fQ.mp he' with he'|he';.exact aA (h.g e he') λk b c=>⟨k,tJ b,c⟩
  .exact ay (d8.mp he') ⟨x!,lY x!,H,r⟩
 .rw[j];rcases xS.mp m with q|q;.exact jF _ (h.a k q d)
  .rw[q];exact gA _ aZ
 .rw[eK];exact jS h.aT
abbrev IM:List PS:=M4
def S8{o}(wf:WF w)(M:o.t=63)(hr:∀k,∀x∈RL k,jc x)(B:∀k,∀x∈RL k,x.r<1024):∀{m x! es σ T x4 x5 x6 x7 x8 K},QL σ (S.h o<|dN es) T A w RL->oF T es V (λk=>(aM<|RL k).c) x!->iT T nm V ρ w.au->x!+m=w.au->
 (∀σ' T' r x4 x5 x6 x7 x8,QL σ' (S.h o<|dN r) T' A w RL->T.Le T'->oF T' r V (λk=>(aM<|RL k).c) w.au->K .none [bS w,.d S.tl.h,.g 0<|dN nm,.d o,x4,x5,x6,x7,x8] σ')->
 cu (wB (n+4) IM) (.B 4) dc (kU x! m) [bS w,.d S.tl.h,.g 0<|dN nm,.d o,x4,x5,x6,x7,x8] σ K:=by
 intro m;induction m with
 |zero=>
  intro x! es σ T x4 x5 x6 x7 x8 K h i _ e q;exact q σ T es x4 x5 x6 x7 x8 h (.B T)<|aO e i
 |succ m I=>
  intro x! es σ T x4 x5 x6 x7 x8 K h i na e q;obtain j:=e▸xT (sx _);refine bc (qW h.M.l j) λE l=>?_;obtain F:=h.M.c x! E l;have next:∀{r:List<|Nat×Nat}{d:av}{c:bP}{x5 x6 x7 x8:AV},QL d (S.h o<|dN r) c A w RL->T.Le c->oF c r V (λk=>(aM<|RL k).c) (x!+1)->cu (wB (n+4) IM) (.B 4) dc (kU ((x!+1:Nat):Int) m) [bS w,.d S.tl.h,.g 0<|dN nm,.d o,.a x!,x5,x6,x7,x8] d K:=λ{r d c x5 x6 x7 x8} hq le ht=>
   I hq ht (na.M le.r) (lT.trans e) λσ' T' p x4 x5 x6 x7 x8 h' s C=>q σ' T' p x4 x5 x6 x7 x8 h' (le.q s) C
  refine fj<|bX ?_;lk;refine yR<|og (ay h.M.l<|bG h.M.a H) l<|bX<|BM F (bG (h.M.aT x!) H) U<|bV ?_;lk;by_cases z:(aM<|RL x!).az<1024;.refine iw (jH.mpr z) (cq<|bY (qE (hr x!) z) λL G=>gg<|yZ (side:=2) F (bG (h.M.aT x!) H) ⟨(by rw[ba];exact aV (Hc ..)<|bG (jT (ce 0)<|h.M.aT x!) H),Bb (Lf:=λa b=>[bS w,.d S.tl.h,.g 0<|dN nm,.d o,.a x!,.d E,.a ((aM<|RL x!).az:Nat),a,b]) (λf f=>H) (λf f=>H) (λf f f=>H) (λf f f=>H) λy=>?_⟩);rw[qh];apply iY;lk;refine nS _<|Fx h.q.h h.q.y (.h G) λt D c u hi=>?_;have g:=h.F wf u;refine aA ((na.M u.c.r).id x! j) λv N a=>aU g.q.h.h H<|qB N<|wX g.q.h g.q.y a (na.d x! j) ?_;obtain⟨O,ht⟩:=(i.F u.c).M na.c j (by rw[L];exact⟨hi,.h G⟩);refine me g.q.qv (aV i.aT<|aV (je j)<|bG h.M.a H)<|aw<|aw ⟨aE,?_⟩;rw[yo O];exact next ⟨g.q.wp _,g.M.u wf<|by rw[M];decide⟩ u.c ht
  .exact gW (iH.mpr<|fw.mp z)<|aw<|aw ⟨aE,next h (.B T)<|i.skip<|((K0<|B x!)).2<|v6 ((K0<|B x!)).1<|lE z⟩
def Zs{K}(h:QL σ S T A w RL)(wf:WF w)(u:∀k,∀x∈RL k,jc x)(r:∀k,∀x∈RL k,x.r<1024)(na:iT T nm V ρ w.au)(B:∀σ' T' es,QL σ' S T' A w RL->T.Le T'->oF T' es V (λk=>(aM<|RL k).c) w.au->K (.g 0<|dN es) σ'):
 W (n+5) 111 [bS w,.d S.tl.h,.g 0<|dN nm] σ K:=by
 refine bq [bS w,.d S.tl.h,.g 0<|dN nm,.q,.q,.q,.q,.q,.q] H<|cq λj fr=>gg ?_;lk;exact rL ⟨dI _,lu h.M.a H,⟨by rw[rz];exact bG h.M.a H,S8 (es:=[]) wf H u r ⟨h.q.N (.a 0 [])<|fr 63,h.M.u wf<|by show 63≠55;decide⟩ ⟨.nil,dS,λk b=>aP b<|Dg k,ce 0⟩ na (n6 _) λσ' T' es x4 x5 x6 x7 x8 h' le c=>p7 H h'.q.qv<|f7<|B _ T' es ⟨h'.q.wu,h'.M.r wf<|by show 63≠55;decide⟩ le c⟩⟩
def Uz:∀{r b},Nm b->(∀k∈r,Nm k)->Nm (tR b r):=by
 intro r;induction r with
 |nil=>
  intro _ h _;exact h
 |cons k r d=>
  intro b h c;show Nm<|tR (if bn k b then k else b) r;refine d ?_ λj e=>c j<|bK _ e;by_cases z:bn k b=U;.rw[ak z];exact lM c
  .rw[Z z];exact h
def XS{o a f}{P:Nat->Prop}(ho:∀v,o=I v->P v)(r:∀v,a=I v->P v):(∀v,(sR o a f).1=I v->P v)/\∀v,(sR o a f).2=I v->P v:=by
 rcases o with _|m;.exact⟨r,λv=>cL⟩
 .unfold sR;by_cases z:(a.isNone||f m)=U;.simp only[ak z];exact⟨ho,r⟩
  .simp only[Z z];exact⟨r,ho⟩
def Ja(u:∀k,∀x∈RL k,jc x):(∀v,(jY w RL k).1=I v->Nm v)/\∀v,(jY w RL k).2=I v->Nm v:=by
 unfold jY;by_cases z:kQ RL k=U;.rw[ak z];exact⟨λv e=>fg e▸.h (yG λm b=>(zI u m b).1),λv=>cL⟩
 .rw[Z z];refine XS ((λv e=>by
   have b:∀m∈ou w RL k,Nm m:=λm b=>by
    refine aA (bp.mp b) λx f c=>?_;subst c;exact BC<|zI u x f
   unfold sP at e;rcases q:ou w RL k with _|⟨m,r⟩;.rw[q] at e;exact cL e
   .rw[q] at e b;by_cases z:(aM<|RL k).a&&&4≠0;.simp only[bA z] at e;rw[<-fg e,<-Ld b];exact Hg (y0:=U) b
    .simp only[bR z] at e;exact fg e▸PO b)) λv e=>?_
  obtain d:∀m∈fP RL k 1,Nm m:=zI u;rcases q:fP RL k 1 with _|⟨m,r⟩;.obtain e:=q▸e;exact cL e
  .rw[q] at e d;exact fg e▸Uz (lM d) λj g=>d j<|bK _ g
def TG.cI(h:TG z t):t.1<2^14:=m3 (yg t.1 h.m).1<|Y H
def Zv(wf:WF w)(r:∀k,∀x∈RL k,jc x):qX w RL where
 cI:=⟨λp v e=>((Ja r).1 v e).1,λp v e=>((Ja r).2 v e).1,λc c e=>(wf.r e).cI,λc c e=>(wf.dt e).cI⟩
 b:=λc c e=>⟨λq hq=>((wf.r e).q q hq).1⟩
 d:=λc c e=>⟨λq hq=>((wf.dt e).q q hq).1⟩
 e:=r
def J8(wf:WF w)(na:iT T nm V ρ w.au)(ho:jB w os)(mt:Mt w V R RL)(r:∀k,∀x∈RL k,jc x):zO w RL R (BP w V ρ) V ρ (os.map V) (oR w V) where
 c:=na.c
 e:=mt.c
 r:=r
 b:=λk c=>by
  unfold BP;rw[na.c.s k c];cases eu w k<;>rfl
 small:=λk t e=>⟨(yg t.1 (wf.r e).m).1,λq hq=>((wf.r e).q q hq).1⟩
 a:=λp=>by
  rw[bp] at⊢;exact⟨λd=>aA d λk c e=>⟨k,(ho.h k).mp c,e.symm⟩,λd=>aA d λk c e=>⟨k,(ho.h k).mpr c,e.symm⟩⟩
 d:=na.d
 F:=λk c=>by
  rw[gu,dT] at⊢;unfold oR;rw[yC] at⊢;constructor;.rintro⟨j,f,e⟩;exact bY (cG.mp f) λg i=>ay (sS na.c c (Y i)<|H6 e) g
  .exactλh=>⟨k,cG.mpr ⟨h,bA c⟩,H⟩
def TG.r(h:TG w.au t)(na:iT T nm V ρ w.au)(ho:jB w os):xD (os.map V) (jm V t) where
 nm:=⟨h.cI,(yg t.1 h.m).2.2.1⟩
 a:=λq e=>by
  obtain⟨m,o⟩:=t;rcases o with _|j;.exact cL e
  .cases e;exact dU<|(ho.h j).mpr (h.q j H).1
 g:=(h.tm na.d).g
 any:=(h.tm na.d).any
def SN(wf:WF w)(na:iT T nm V ρ w.au)(ho:jB w os)(mt:Mt w V R RL)(r:∀k,∀x∈RL k,jc x):Wt (os.map V) R (oR w V) (BP w V ρ) (DP w V ρ) (gT w RL V ρ) where
 fS:=λp c=>by
  obtain⟨k,f,rfl⟩:=bp.mp c;have lt:=(ho.h k).mp f;show jY w RL (ρ<|V k)=_;rw[na.c.s k lt];exact(Jc (J8 wf na ho mt r) lt).1.symm
 g:=λp c=>by
  obtain⟨k,f,rfl⟩:=bp.mp c;have lt:=(ho.h k).mp f;show kQ RL (ρ<|V k)=_;rw[na.c.s k lt];exact(Jc (J8 wf na ho mt r) lt).2.symm
 b:=λg=>H
 d:=λg=>H
 CE:=λp t e=>by
  have e:(eu w<|ρ p).map (jm V)=I t:=e;cases q:eu w (ρ p) with
  |none=>rw[q] at e;exact cL e
  |some i=>rw[q] at e;cases e;exact(wf.r q).r na ho
 Ph:=λp t e=>by
  have e:(mW w<|ρ p).map (jm V)=I t:=e;cases q:mW w (ρ p) with
  |none=>rw[q] at e;exact cL e
  |some i=>rw[q] at e;cases e;exact(wf.dt q).r na ho
structure uE(R:Nat->List cQ):Prop where
 r:∀k,∀x∈R k,jc x
 cI:∀k,∀x∈R k,x.r<1024
def a0d(h:Nm m):Nm<|oz m room:=by
 unfold oz;by_cases z:m-(m&&&room)=0;.rw[ak z];exact h
 .rw[Z z];exact h.rD room
def Xj:∀r∈[0,0,4,16,2],(r&&&16=0->r<=5)/\((r|||1)&&&16=0->(r|||1)<=5)/\(r|||1)<1024/\r<1024:=Y H
def Lj:∀r∈[0,0,2],(r|||1)<=3/\r<=3:=Y H
def lH.rk(h:lH z q)(m room k):mo m room k q.a<1024/\(mo m room k q.a&&&16=0->mo m room k q.a<=5)/\(q.d=3->mo m room k q.a<=3):=by
 obtain i:q.a∈[0,0,4,16,2]:=by
  rcases h.a with⟨_,e⟩|⟨_,e⟩;.revert e;generalize q.a=r;revert r;decide
  .exact e
 obtain g:=λf=>h.a.elim (·.2) λy=>aP f y.1;refine mm (Xj _ i) λa b c d=>?_;unfold mo;by_cases f:k≠1\/(m-(m&&&room)=0/\m≠0);.rw[ak f];exact⟨c,b,λy=>(Lj _<|g y).1⟩
 .rw[Z f];exact⟨d,a,λy=>(Lj _<|g y).2⟩
def ZE(h:lH z q)(k):∀x∈pZ w q.d (oz q.e<|kB q.b) (mo q.e (kB q.b) (O q.c) q.a) k,jc x/\x.r<1024:=λx c=>by
 obtain nm:=a0d<|Ot _ h.e;refine gl (h.rk q.e (kB q.b)<|O q.c) λd f g=>?_;generalize oz q.e (kB q.b)=m at c nm;generalize mo q.e (kB q.b) (O q.c) q.a=r at c d f g;unfold pZ mU at c;by_cases b:r&&&16≠0
 .rw[ak b] at c;unfold pL at c;by_cases y:m=4096;.rw[ak y] at c;cases c
  .rw[Z y] at c;rw[d8.mp c];exact⟨⟨nm,.inl H⟩,d⟩
 .rw[Z b] at c;rw[d8.mp c];refine⟨⟨?_,?_⟩,d⟩
  .by_cases y:(decide (1<q.d)&&!p0 (eu w k))=U;.rw[ak y];exact nm.unit.wi
   .rw[Z y];exact nm
  .by_cases y:q.d=3;.exact .inr (.inr ⟨ak<|bA y,g y⟩)
   .exact .inr<|.inl ⟨Z λe=>y<|Y e,f<|Decidable.not_not.mp b⟩
def uE.step(h:uE R)(hq:lH w.au q):uE<|pY w q R:=by
 obtain key:∀k,∀x∈pY w q R k,jc x/\x.r<1024:=λk x hx=>by
  unfold pY RA at hx;by_cases z:k∈q.c
  .rw[ak z] at hx;rcases fQ.mp hx with hx|hx;.exact⟨h.r k x hx,h.cI k x hx⟩
   .exact ZE hq k x hx
  .rw[Z z] at hx;exact⟨h.r k x hx,h.cI k x hx⟩
 exact⟨λk x hx=>(key k x hx).1,λk x hx=>(key k x hx).2⟩
def uE.u:∀{qs R},uE R->(∀q∈qs,lH w.au q)->uE (rP w qs R):=by
 intro qs;induction qs with
 |nil=>
  intro _ h _;exact h
 |cons q qs b=>
  intro R h hq;exact b (h.step<|lM hq) λp c=>hq p<|bK _ c
def JC:∀{a b:List Nat},cg a->(∀x∈a,x∈b)->O a<=O b:=by
 intro a;induction a with
 |nil=>
  intro _ _ _;exact jQ _
 |cons x a d=>
  intro b nd h;have:=d ((fh.mp nd)).2 λy c=>(List.mem_erase_of_ne λ(e:y=x)=>((fh.mp nd)).1<|aO e c).mpr<|h y<|bK _ c;obtain this:=(List.length_erase_of_mem<|h x aZ)▸this;exact Nat.add_le_of_le_sub (List.length_pos_of_mem<|h x aZ) ‹_›
def Ki(r:cg a)(u:cg b)(h:∀x,x∈a↔x∈b):O a=O b:=
 v6 (JC r λx c=>(h x).mp c) (JC u λx c=>(h x).mpr c)
theorem yU:∀{l}{p:Nat×α},cg (ks l)->p∈l->lk l p.1=I p.2
 |x::l,p,nd,h=>by
  refine bY (fh.mp<|show cg (x.1::ks l) from nd) λb nd=>?_;rcases cf.mp h with rfl|h;.exact ak H
  .exact(Z λ(e:x.1=p.1)=>b<|ay e<|dU (f:=HZ) h).trans<|yU nd h
def a01(g:bF T):∀{l a b},m6 T a l->m6 T b l->a=b:=by
 intro l;induction l with
 |nil=>
  intro a b c d;rw[lF.mp c.1,lF.mp d.1]
 |cons y l f=>
  intro a b c d;rcases a with _|⟨x,a⟩;.cases c.1
  .rcases b with _|⟨z,b⟩;.cases d.1
   .obtain⟨x1,x2⟩:=x;refine bY (oO c.1) λi j=>bY (oO d.1) λb1 b2=>?_;subst i;subst b1;rw[(Is.inj g (c.2 _ aZ).1 (d.2 _ aZ).1:x1=z.1),f ⟨j,λk e=>c.2 k<|bK _ e⟩ ⟨b2,λk e=>d.2 k<|bK _ e⟩]
def Mc{a b K}(h:σ l=I (.a 0 a))(r:O a=O b)(u:∀p∈a,∃v,dL b p.1=I v/\wR σ p.2 v)(B:K<|.e am):eZ σ .ne (.d l) (.g 0 b) K:=by
 show sG σ (.d l) (.g 0 b) λb=>K<|.e<|!b;unfold sG;rw[w7 h,zD h];exact⟨H,H,r,u,B⟩
def IQ{os:List Nat}(ho:jB w os){p:Nat}(r:p∈os.map V):∃k,k<w.au/\p=V k:=aA (bp.mp r) λk b e=>⟨k,(ho.h k).mp b,e.symm⟩
def Jm{b K}(h:Q σ S T A)(r:mF S.D.a T (S.V.bH b) λp=>(aM<|R p).u b)(u:oG T es V (λk=>(aM<|RL k).u b) w.au)(B:S.D.a=os.map V)(ho:jB w os)(mt:Mt w V R RL)(F:oH V ρ w.au)(M:K<|.e am):eZ σ .ne (.d<|S.L.bH b) (.g 0<|dC es) K:=by
 have key:∀e∈S.V.bH b,∃x,x∈es/\x.1=e.a/\x.2=e.es:=λe d=>by
  refine aA (IQ ho<|aO B<|r.g e d) λk i v=>?_;obtain m:=r.b e d;rw[v,mt.c k i] at m;obtain ne:=λz=>r.ne e d<|lF.mp<|m.1.trans z;refine aA (bp.mp<|u.a k i ne) λx f ex=>vA (u.g x f) λj l n o q=>?_;obtain D:=sS F l i<|n.symm.trans ex;clear F i ne;subst D;exact⟨x,f,ex.trans v.symm,a01 h.y o m⟩
 have g:=Ki r.nd u.nd λp=>⟨λs=>?_,λs=>?_⟩
 .refine Mc (h.wN b) ?_ (λp t=>?_) M;.rw[qT,qT,ba];obtain g:=(ba ..)▸g;obtain g:=(ba ..)▸g;exact g
  .refine aA (bp.mp t) λy C c=>?_;subst c;refine aA (bp.mp C) λe d c=>?_;clear C;subst c;refine eW (key e d) λx f x1 x2=>⟨.r<|e.es.map lz,?_,.inr ⟨e.es.map lz,?_,H,?_⟩⟩;.rw[po,<-x1,yU u.nd f,<-x2];rfl
   .unfold BE;simp only[h.xt b d]
   .rw[a62,gf] at⊢
    exactλq q=>H
 .refine aA (bp.mp s) λe d c=>?_;subst c;exact eW (key e d) λx f x1 q=>aO x1<|dU f
 .refine aA (bp.mp s) λx f c=>?_;subst c;exact vA (u.g x f) λj l n o E=>a7i λz=>E<|lF.mp<|o.1.trans<|aO (mt.c j l)<|r.out (V j) (ay B<|dU<|(ho.h j).mpr l)<|aO n z
def S7{es K}(h:Q σ S T A)(r:eC S.D.a S.V.c λp x=>sn T x (aM<|R p).c)(u:oF T es V (λk=>(aM<|RL k).c) w.au)(B:S.D.a=os.map V)(ho:jB w os)(mt:Mt w V R RL)(F:oH V ρ w.au)(M:K<|.e am):eZ σ .ne (.d S.L.c) (.g 0<|dN es) K:=by
 have key:∀y∈S.V.c,lk es y.1=I y.2/\y.1∈ks es:=λy d=>by
  obtain C:=r.g y.1<|dU d;refine aA (IQ ho<|aO B C) λk l D=>?_;obtain b:=r.b y.1 C;rw[yU r.nd d,D,mt.c k l] at b;rcases q:(aM<|RL k).c with _|m;.rw[q] at b;exact b.elim
  .rw[q] at b;obtain f:=u.a k l (by rw[q];intro z;exact l7 z);refine aA (bp.mp f) λx g ex=>eW (u.g x g) λj n o e=>?_;obtain G:=sS F n l<|o.symm.trans ex;clear F l f;subst G;rw[q] at e;rw[D,<-(Is.inj h.y e.1 b.1),<-ex];exact⟨yU u.nd g,dU g⟩
 refine Mc h.qE (by rw[qT,qT];exact(by
  have i:=Ki r.nd u.nd λp=>⟨λs=>?_,λs=>?_⟩;.obtain i:=(ba ..)▸i;obtain i:=(ba ..)▸i;exact i
  .refine aA (bp.mp s) λy d c=>?_;subst c;exact(key y d).2
  .refine aA (bp.mp s) λx g c=>?_;subst c;refine eW (u.g x g) λj n o e=>?_;obtain b:=r.b (V j)<|ay B<|dU<|(ho.h j).mpr n;rw[mt.c j n] at b;refine a7i λz=>?_;rw[MQ<|o▸z] at b;rcases q:(aM<|RL j).c with _|m;.obtain e:=q▸e;exact e.elim
   .rw[q] at b;exact b.elim)) (λJ t=>?_) M
 obtain⟨E,v,rfl⟩:=bp.mp t;refine⟨.a E.2,?_,.inl ⟨H,H⟩⟩;rw[po,(λy d=>(key y d).1) E v];rfl
def K3{w}(r:zM w):∀os now,k8 now->k8 (ju w 3 now os):=by
 intro os;induction os with
 |nil=>
  exactλc h=>h
 |cons o os b=>
  exactλnow h=>b _ (Ek r 3 now o h).2
theorem Em(w):∀{os now k},k∈os->∃m,ju w 3 now os k=I m
 |o::os,now,k,h=>by
  rcases cf.mp h with rfl|h;.exact⟨_,K4 w 3 os _ k _<|El w 3 now k λh=>by cases h⟩
  .exact Em w (os:=os) h
structure xC(T:bP)(es:List<|Nat×Nat)(V:Nat->Nat)(now:cJ)(done:List Nat):Prop where
 key:ks es=done.map V
 b:∀e∈es,∃k m,k∈done/\e.1=V k/\now k=some m/\Is T e.2 (eV m)
theorem xC.F{es}(h:xC T es V now done)(le:T.Le T'):xC T' es V now done:=
 ⟨h.key,λe b=>o6 (h.b e b) λk m c d f h4=>⟨k,m,c,d,f,h4.F le⟩⟩
def K1{K}(h:Q σ S T A)(r:m<2^14)(B:∀t σ' T',Up S.tl σ T σ' T'->Is T' t (eV m)->K (.a t) σ'):W (n+4) 107 [.d S.tl.h,.a m,.r []] σ K:=
 BL (us:=[]) h.h h.y r .nil dS (Y H) λt σ' T' u hi=>B t σ' T' u (by
  rw[show m|||cw []=m from n7 m,(lI r).1] at hi;exact hi)
abbrev IV:List PS:=M3
def Tc{o}(wf:WF w)(F:o.t=67)(M:eC (cO w.au) nw λq x=>x=now q)(lt:k8 now):
 ∀{os done es σ T y_ K},QL σ (S.h o<|dN es) T A w RL->xC T es V now done->iT T nm V ρ w.au->cg (done++os)->(∀k∈done++os,k<w.au)->(∀k∈os,∃m,now k=I m)->
 (∀σ' T' r y_,QL σ' (S.h o<|dN r) T' A w RL->T.Le T'->xC T' r V now (done++os)->K .none [x0,x1,x2,x3,x4,x5,x6,x7,x8,x9,A_,.d S.tl.h,.g 0<|dN nm,B!,C_,.g 0<|dN nw,.d o,y_,B_,E_,D!,D_,C!] σ')->
 cu (wB (n+4) IV) (.B 17) dc (G os) [x0,x1,x2,x3,x4,x5,x6,x7,x8,x9,A_,.d S.tl.h,.g 0<|dN nm,B!,C_,.g 0<|dN nw,.d o,y_,B_,E_,D!,D_,C!] σ K:=by
 intro D;induction D with
 |nil=>
  intro done es σ T y_ K h b _ _ _ _ i;exact i σ T es y_ h (.B T)<|by rw[jG];exact b
 |cons k os E=>
  intro done es σ T y_ K h b na nd d z i;have g:=d k<|gA _ aZ;obtain⟨m,l⟩:=z k aZ;refine fj<|iY ?_;lk;refine qB ((M.b k<|eJ.mpr g).trans l)<|K1 (S:=S.h o<|dN es) h.q (lt k m l) λt p B u hi=>?_;obtain c:=h.F wf u;refine aA ((na.M u.c.r).id k g) λv L a=>aU c.q.h.h H<|qB L<|wX c.q.h c.q.y a (na.d k g)<|me c.q.qv (by
   obtain e1:=be O b.key;rw[ba,ba] at e1;exact bG (aV (gG e1) (aV (kX<|aO eK<|sQ w.au (done++k::os) nd d) h.M.a):O es<=3) H) (aw ⟨aE,?_⟩)
  rw[yo (λf=>by
   obtain f:=b.key▸f;exact aA (bp.mp f) λj C e=>(λf=>(kL.mp nd).2.2 k f k aZ H)<|aO (sS na.c (d j<|jF _ C) g e) C)]
  obtain e3:done++k::os=(done++[k])++os:=by rw[gc];rfl
  rw[e3] at nd d;refine E ⟨c.q.wp _,c.M.u wf<|by rw[F];decide⟩ ⟨?_,λe he=>?_⟩ (na.M u.c.r) nd d (jw z) λσ' T' r y_ h' s y=>i σ' T' r y_ h' (u.c.q s)<|ay e3 y;.rw[show ks (es++[(V k,t)])=ks es++[V k] from d9,b.key,d9];rfl
  .rcases fQ.mp he with he|he;.exact gk ((b.F u.c).b e he) λj N P Q=>⟨j,N,jF _ P,Q⟩
   .exact ay (d8.mp he) ⟨k,m,gA _ aZ,H,l,hi⟩
def a0B:∀{os a},cg (ks a++os)->ks (os.foldl (λe o=>st e o 0) a)=ks a++os:=by
 intro os;induction os with
 |nil=>
  intro a _;exact(jG _).symm
 |cons o os c=>
  intro a nd;obtain e3:ks a++o::os=(ks a++[o])++os:=by rw[gc];rfl
  obtain b:ks (st a o 0)=ks a++[o]:=by rw[yo λh=>(kL.mp nd).2.2 o h o aZ H];exact d9
  rw[c<|ay b<|aO e3 nd,b,e3]
def s_{a b K}(r:O a=O b)(u:∀p∈a,lk b p.1=I p.2)(B:K<|.e am):eZ σ .ne (.g 0<|dN a) (.g 0<|dN b) K:=by
 refine(⟨H,H,by rw[qT,qT];exact r,λp d=>aA (bp.mp d) λy e c=>?_,B⟩:sG σ (.g 0<|dN a) (.g 0<|dN b) λb=>K<|.e<|!b);subst c;refine⟨.a y.2,?_,.inl ⟨H,H⟩⟩;rw[po,u y e];rfl
def Mm(na:iT T nm V ρ w.au)(ho:jB w os):cg<|os.map V:=by
 obtain f:=ho.nd;obtain b:=λk c=>(ho.h k).mp c;clear ho;induction os with
 |nil=>exact .nil
 |cons x os g=>
  exact bY (fh.mp f) λi nd=>fh.mpr ⟨λj=>aA (bp.mp j) λy d e=>i<|aO (sS na.c (b y<|bK _ d) (b x aZ) e) d,g nd λk c=>b k<|bK _ c⟩
def a43{es K}(h:Se σ S T A R B D F_ (ju (gT w RL V ρ) 3 (λr=>C)<|os.map V) fl)(hp:S.D.a=os.map V)(ho:jB w os)(na:iT T nm V ρ w.au)(ts:qX w RL)(M:xC T es V (ju (dk w RL) 3 (λr=>C) os) os)(F:ks ea=ks ((os.map V).foldl (λe o=>st e o 0) ([]:List<|Nat×Nat)))(ev:∀e∈ea,∃m,ju (gT w RL V ρ) 3 (λr=>C) (os.map V) e.1=I m/\Is T e.2 m)(hK:K<|.e am):
 eZ σ .ne (.g 0<|dN ea) (.g 0<|dN es) K:=by
 rw[a0B<|Mm na ho] at F;have F:ks ea=os.map V:=F;refine s_ ?_ (λe f=>?_) hK;.have e1:=be O<|F.trans M.key.symm;rw[ba,ba] at e1;exact e1
 .have g:e.1∈os.map V:=aO F<|dU f;obtain⟨m,e1,j⟩:=ev e f;obtain⟨x,i,ex⟩:=bp.mp (show e.1∈ks es from by rw[M.key];exact g);obtain⟨k,s,l,n,p,hi⟩:=M.b x i;have eq:=K2 na.c ts 3 os (λr=>C) (λr=>C) (λo c=>(ho.h o).mp c) (λr r=>H) k<|(ho.h k).mp l;rw[<-n,ex,e1,p] at eq;cases eq;have b:=h.h.b e.1<|ay hp g;rw[e1] at b;have d:Nm m:=by
   cases q:lk S.V.h e.1 with
   |none=>rw[q] at b;exact b.elim
   |some u=>rw[q] at b;exact b.2
  rw[d.2] at hi;exact aO ((Is.inj h.u.q.y hi j))<|aO ex<|yU (ay M.key<|Mm na ho) i
def Q.M(h:Q σ S T A)(u:∀p∈qI w.b RL 0,p∈S.X)(r:dR E! w RL):dR σ w RL:=
 ⟨r.a,r.b,r.d,r.l,r.tl,λk l e=>h.st.r _ (xy.mpr<|.inr<|u (l,.b<|(RL k).map lg)<|Fd.mpr ⟨k,e,by rw[n6]⟩),r.aT⟩
abbrev Vl:PE:=.n (.n (.p jP 0)<|.n k7<|.v 17) N1
abbrev Ka:List PS:=[.d (.h .ne (.j 78 [.v 14,Vl])<|.j 107 [jP,.n (.v 15)<|.v 17,.r []])
 [.c kF]
 []]
def a48(ho:jB w os)(ts:qX w RL)(hn:eC (cO w.au) nw λq x=>x=ju (dk w RL) 3 (λr=>C) os q):
 ∀{rs done σ S T fl y_ K},Se σ S T A R B D F_ (ju (gT w RL V ρ) 3 (λr=>C)<|done.map V) fl->Wt S.D.a R F_ B D (gT w RL V ρ)->O S.D.a<=3->(∀k,k<w.au->V k∈S.D.a)->iT T nm V ρ w.au->done++rs=os->(∀p∈qI w.b RL 0,p∈S.X)->
 (∀σ' F T' y_,Q σ' F T' A->(∀p∈qI w.b RL 0,p∈F.X)->K .none [x0,x1,x2,x3,x4,x5,x6,x7,x8,x9,A_,.d S.tl.h,.g 0<|dN nm,B!,.d S.L.g,.g 0<|dN nw,C',y_,B_,E_,D!,D_,C!] σ')->
 cu (wB (n+17) Ka) (.B 17) dc (G rs) [x0,x1,x2,x3,x4,x5,x6,x7,x8,x9,A_,.d S.tl.h,.g 0<|dN nm,B!,.d S.L.g,.g 0<|dN nw,C',y_,B_,E_,D!,D_,C!] σ K:=by
 intro W;induction W with
 |nil=>
  intro done σ S T fl y_ K h _ _ _ _ _ d e;exact e σ S T y_ h.u.q d
 |cons k rs X=>
  intro done σ S T fl y_ K h E f I na g d e;obtain b:=g▸gA _ aZ;have c:=(ho.h k).mp b;refine bc (Em (dk w RL) (now:=λr=>C) b) λm j=>aA (na.id k c) λv Y a=>fj<|bV ?_;lk;refine aU h.u.q.h.h H<|qB Y<|wX h.u.q.h h.u.q.y a (na.d k c)<|JW σ S T A _ fl (V k) _ h E (bG f H) (I k c) (aV zC f) λl L fo fa Z u s br M N r=>qB ((hn.b k<|eJ.mpr c).trans j)<|K1 (S:=S.j fo fa) s.u.q (K3 ts.cI os (λr=>C) (λr r=>cL) k m j) λt y P up hi=>i9 ?_;obtain U:=s.gU (s.u.q.F up) up.c;obtain e3:ju (gT w RL V ρ) 3 (λr=>C) ((done++[k]).map V)=(cc (gT w RL V ρ) 3 (ju (gT w RL V ρ) 3 (λr=>C)<|done.map V)<|V k).2:=by
   unfold ju;rw[d9,v8];rfl
  obtain e4:done++k::rs=(done++[k])++rs:=by rw[gc];rfl
  rw[(show(cc (gT w RL V ρ) 3 (ju (gT w RL V ρ) 3 (λr=>C)<|done.map V)<|V k).1=m from by
   have h4:=K4 (gT w RL V ρ) 3 (rs.map V) _ (V k) _ (jg e3▸(El (gT w RL V ρ) 3 (ju (gT w RL V ρ) 3 (λr=>C)<|done.map V) (V k) λh=>by cases h));rw[((show ju (gT w RL V ρ) 3 (ju (gT w RL V ρ) 3 (λr=>C)<|(done++[k]).map V) (rs.map V)=ju (gT w RL V ρ) 3 (λr=>C) (os.map V) from by
    unfold ju;rw[<-v8,<-d9,<-e4,g])),K2 na.c ts 3 os (λr=>C) (λr=>C) (λo z=>(ho.h o).mp z) (λr r=>H) k c,j] at h4
   exact(fg h4).symm)] at M N
  rw[bA<|be (λi:Nat=>(i:Int))<|Is.inj U.u.q.y (M.F up.c)<|aO N.2 hi];exact bd<|aw ⟨aE,X (S:=S.j fo fa) (jg e3▸U) E f I (na.M (br.q up.c).r) (aO e4 g) d e⟩
abbrev Ee:List PS:=[.j (.v 14) 43<|.w 68 0,
 .g 18 (.D (.h .eq iB N0) V9 V8),
 .g 15 (.j 101 [V3,.v 18]),
 .h (.B 17) (.v 18) Ka]
abbrev Kh:List PS:=.g 15 (.j 101 [V3,.v 13])::
 .g 16 (.w 67 0)::
 .h (.B 17) (.v 13) IV::
 .u 16::
 .d (.h .ne (.j 79 [.v 14])<|.v 16)
  [.c kF]
  []::Ee
def Se.a44(h:Se σ S T A R B D F_ now fl)(fr:qr σ j)(F:S.D.e=0)(M:O S.D.a<=3):
 Se ((σ.u ⟨68,j⟩<|.a 0 []).u S.L.g<|.d 1<|oA (gF S) 43<|.d ⟨68,j⟩) (S.F S.D.bM ⟨68,j⟩ {S.V with h:=[]}) T A R B D F_ (λr=>C) fl:=
 ⟨⟨h.u.q.L9<|fr 68,⟨h.u.gi.e,h.u.gi.f,h.u.gi.c,h.u.gi.az,h.u.gi.B,h.u.gi.i⟩,h.u.h4,h.u.r,h.u.a,h.u.aT,h.u.e⟩,
  ⟨.nil,dS,λr r=>aE⟩,h.a,by
   rw[F];exact jW (Az<|Sj _)<|lu (aV zC M) H⟩
structure Hk(side:Nat)(a b y! c:List Nat):Prop where
 fS:side=0\/side=1
 t:y!=if side=0 then a else b
 c:c=if side=0 then b else a
def Lr{u py:Prop}(h:side=0\/side=1)(B:side=0->u)(F:side≠0->py):eZ σ .eq (.a (side:Nat)) (.a 0) λr=>c7 σ r λc=>if c=U then u else py:=by
 rcases h with e|e;.subst e;exact gO H<|B H
 .subst e;exact eh (Y H)<|F<|Y H
def U7(h:Se σ S T A R B D F_ now fl)(wt:Wt S.D.a R F_ B D<|gT w RL V ρ)(F:O S.D.a<=3)(hp:∀k,k<w.au->V k∈S.D.a)(na:iT T nm V ρ w.au)(ts:qX w RL)(hs:S.D.e=0)(sd:Hk side a b y! z_)(ho:jB w z_)(M:∀p∈qI w.b RL 0,p∈S.X)(r:dR σ w RL)(u:A!=.d S.tl.h)(hK:∀σ' y' y_ B_,dR σ' w RL->K .none [x0,x1,x2,bS w,x4,x5,x6,x7,.r<|G a,.r<|G b,.a side,.d S.tl.h,.g 0<|dN nm,B!,.d S.L.g,y',C',y_,B_,E_,D!,D_,C!] σ'):
 wB (n+21) Ee [x0,x1,x2,bS w,x4,x5,x6,x7,.r<|G a,.r<|G b,.a side,A!,.g 0<|dN nm,B!,.d S.L.g,y',C',y_,B_,E_,D!,D_,C!] σ K:=by
 subst u;apply ry;lk
 refineλj fr=>mL (h.u.q.OK<|fr 68) H (cq ?_)
 obtain e:=h.a44 fr hs F;generalize(σ.u ⟨68,j⟩<|.a 0 []).u S.L.g (.d 1<|oA (gF S) 43<|.d ⟨68,j⟩)=c at e⊢;have bD:wB (n+21) (Ee.drop 2) [x0,x1,x2,bS w,x4,x5,x6,x7,.r<|G a,.r<|G b,.a side,.d S.tl.h,.g 0<|dN nm,B!,.d S.L.g,y',C',y_,.r<|G z_,E_,D!,D_,C!] c K:=by
  apply bX;obtain i:=aV ho.aT r.a;exact Nv ts (Q.M e.u.q M r) (λo f=>(ho.h o).mp f) (bG i H) λnw l=>lf ⟨lm i H,a48 (S:=S.F S.D.bM ⟨68,j⟩ {S.V with h:=[]}) ho ts l (done:=[]) e wt F hp na H M λσ' q T' y_ m g=>aw<|hK σ' _ y_ _<|Q.M m g r⟩
 obtain d:=sd.c;refine Lr sd.fS (λz=>?_) λz=>?_;.rw[ak z] at d;rw[d] at bD;exact bD
 .rw[Z z] at d;rw[d] at bD;exact bD
def Gs.se(h:Gs σ S T A R w RL y! tl V ρ (oR w V) 40)(mt:Mt w V R RL)(u:∀k,∀x∈RL k,jc x)(F:O S.D.a<=3):Se σ S T A R (BP w V ρ) (DP w V ρ) (oR w V) (λr=>C) λr=>false:=
 ⟨⟨h.hd.q,h.hd.gi,h.hd.h4,h.hd.r,h.A2,h.hd.aT,(λp x b=>by
  refine Ir λz=>?_;have:=mt.out p λk c e=>z<|u k x<|mt.c k c▸aO e b;obtain b:=this▸b;cases b)⟩,by rw[h.ti];exact⟨.nil,dS,λr r=>aE⟩,by rw[h.hd.g];exact⟨.nil,λr h=>(nomatch h),λr r=>H⟩,by
  rw[h.wI];exact jW (Az<|Sj _)<|lu (aV zC F) H⟩
structure zP(w:LW)(RL:Nat->List cQ)(T:bP)(nm:List<|Nat×Nat)(V ρ:Nat->Nat)(side:Nat)(a b y! z_:List Nat):Prop where
 wf:WF w
 e:uE RL
 na:iT T nm V ρ w.au
 u:Hk side a b y! z_
 ho:jB w y!
 ht:jB w z_
def U6(h:Gs σ S T A R w RL y! tl V ρ (oR w V) 40)(mt:Mt w V R RL)(r:zP w RL T nm V ρ side a b y! z_)(u:dR σ w RL)(F:∀σ' y' C' y_ B_,dR σ' w RL->K .none [x0,x1,x2,bS w,x4,x5,x6,x7,.r<|G a,.r<|G b,.a side,.d S.tl.h,.g 0<|dN nm,.r<|G y!,.d S.L.g,y',C',y_,B_,E_,D!,D_,C!] σ'):
 wB (n+21) Kh [x0,x1,x2,bS w,x4,x5,x6,x7,.r<|G a,.r<|G b,.a side,.d S.tl.h,.g 0<|dN nm,.r<|G y!,.d S.L.g,y',C',y_,B_,E_,D!,D_,C!] σ K:=by
 have ho:=r.ho;have ts:=Zv r.wf r.e.r;obtain g:=aV ho.aT u.a;obtain i:O S.D.a<=3:=by rw[h.a,ba];exact g
 obtain t:∀p∈qI w.b RL 0,p∈S.X:=λp D=>by rw[h.X];exact D
 have f:=SN r.wf r.na ho mt r.e.r;obtain f:=jg h.a▸f;refine bX (Nv ts u (λo l=>(ho.h o).mp l) (bG g H) λnw E=>bX λj fr=>lf ⟨lm g H,Tc (done:=[]) (es:=[]) r.wf H E (K3 ts.cI y! (λv=>C) λv v=>cL) ⟨h.hd.q.N (.a 0 [])<|fr 67,u.u r.wf<|by show 67≠55;decide⟩ ⟨H,dS⟩ r.na ho.nd (λk m=>(ho.h k).mp m) (λk=>Em _) λq x es y_ y le I=>p7 H y.q.qv<|bV ?_⟩);lk;refine a42 ((h.se mt r.e.r i).gU y.q.wu le) f i λs z fo fa fl L c d B ev=>?_;rw[h.a] at B c ev;obtain e:=r.na.M (le.q d).r;refine a43 c h.a ho e ts (I.F d) B ev<|bd<|aw<|U7 (S:=S.j fo fa) c f i (λk m=>?_) e ts h.wI r.u r.ht t (Q.M c.u.q t u) H λσ' y'=>F σ' y' _;rw[h.a];exact dU<|(ho.h k).mpr m
abbrev Kg:List PS:=.d (.y (.h .ne (.p (.v 14) 13)<|.j 110 [V3,jP,k7,N0])<|.h .ne (.p (.v 14) 14)<|.j 110 [V3,jP,k7,N1])
 [.c kF]
 []::
 .d (.h .ne (.p (.v 14) 16)<|.j 111 [V3,jP,k7])
  [.c kF]
  []::Kh
abbrev Kc:List PS:=.g 14 (.j 109 [V3,jP,k7,.v 13,V4])::Kg
abbrev Kd:List PS:=.g 13 (.D (.h .eq iB N0) V8 V9)::Kc
abbrev Kf:List PS:=.n [11,12] (.j 108 [V3,.D (.h .eq iB N0) V6<|.z (.B 22) (.M [ki 12]) C<|.n V6<|.q .sub (ki 11)<|.v 22,.h .eq iB N1])::
 Kd
def PU{a b K}(r:K<|.e<|decide<|a=b):eZ σ .eq (.a a) (.a b) K:=by
 obtain this:decide (AV.a a=AV.a b)=decide (a=b):=by simp
 exact⟨H,by rw[this];exact r⟩
theorem Gs.gU(h:Gs σ S T A R w RL y! tl V ρ tp N)(q:Q σ' S T' r)(le:T.Le T'):Gs σ' S T' r R w RL y! tl V ρ tp N:=
 ⟨h.hd.gU q le,h.a,h.c,h.X,h.tl,h.A2.F le,h.ti,h.wI⟩
def zP.F(h:zP w RL T nm V ρ side a b y! z_)(le:T.Le T'):zP w RL T' nm V ρ side a b y! z_:=
 ⟨h.wf,h.e,h.na.M le.r,h.u,h.ho,h.ht⟩
def U3(h:Gs σ S T A R w RL y! tl V ρ (oR w V) 40)(mt:Mt w V R RL)(r:zP w RL T nm V ρ side a b y! z_)(B:dR σ w RL)(F:∀σ' y' C' y_ B_,dR σ' w RL->K .none [x0,x1,x2,bS w,x4,x5,x6,x7,.r<|G a,.r<|G b,.a side,.d S.tl.h,.g 0<|dN nm,.r<|G y!,.d S.L.g,y',C',y_,B_,E_,D!,D_,C!] σ'):
 wB (n+21) Kg [x0,x1,x2,bS w,x4,x5,x6,x7,.r<|G a,.r<|G b,.a side,.d S.tl.h,.g 0<|dN nm,.r<|G y!,.d S.L.g,y',C',y_,B_,E_,D!,D_,C!] σ K:=by
 apply bV;lk;refine aU h.hd.q.j H<|Nt (b:=am) ⟨h.hd.q,B⟩ r.wf r.e.r r.na λj o v g br x=>?_;have p:=h.gU g.q br;have e:=r.F br;refine Jm (b:=am) g.q p.hd.gi.e x h.a r.ho mt e.na.c<|bd<|aU g.q.j H<|Nt (b:=U) g e.wf e.e.r e.na λk q y i f z=>?_;obtain s:=p.gU i.q f;obtain c:=e.F f;refine Jm (b:=U) i.q s.hd.gi.f z h.a r.ho mt c.na.c<|bd<|aw<|bV ?_;lk;refine aU i.q.j H<|Zs i c.wf c.e.r c.e.cI c.na λl t C m d D=>?_;obtain u:=s.gU m.q d;exact S7 m.q u.hd.gi.c D h.a r.ho mt (c.F d).na.c<|bd<|aw<|U6 u mt (c.F d) m.M F
def TN{K}(r:O od=12)(u:∀x,dg (ci L 22 x) 6=.r (G od)/\dg (ci L 22 x) 22=x)(B:K (G<|gZ od) σ):
 iJ (n8 (W n) C) (a6 (W n)<|.n V6<|.q .sub (ki 11)<|.v 22) (.B 22) dc L (G<|cO 12) σ K:=by
 refine uv (λx=>.a ((od[11-x]?).getD 0:Nat)) (λx f b=>b) (λx d g b=>?_) ?_;.rw[Cv,e3,(u _).1];dsimp only[iW];rw[e4,e1,e3,(u _).2];show gL σ (.r<|G od) (.a<|(11:Int)-x) _;rw[(xY<|sz<|eJ.mp d).symm];have c:=kN<|(gQ (pE 11 x) (r.symm▸lY 11):11-x<O od);rw[c] at b;exact og (by rw[r];decide) c b
 .have e:(cO 12).map (λx=>AV.a ((od[11-x]?).getD 0:Nat))=G (gZ od):=by
   refine List.ext_getElem (by rw[ba,ba,uR,Ij,r]) λi j k=>?_;rw[a6T,a6T,List.getElem_range,List.getElem_reverse,kN<|gQ (pE 11 i)<|r.symm▸lY 11];simp only[r,Option.getD_some]
  rw[e];exact B
structure Drawn(w:LW)(RL:Nat->List cQ)(qs:List uW)(od a b:List Nat):Prop where
 wf:WF w
 rl:RL=rP w qs λζ=>[]
 hq:∀q∈qs,lH w.au q
 l9:qs.length<=9
 ord:Ord w.au od
 BQ:od.length=12
 wa:jB w a
 wb:jB w b
def Ord.WX(h:Ord z od):Ord z<|gZ od:=
 ⟨(List.reverse_perm od).nodup_iff.mpr h.nd,λj b=>h.cI j<|uQ.mp b,λk c=>uQ.mpr<|h.a k c,by rw[uR];exact h.aT⟩
def Z7{t P}(u:iW (dg L j)=λK=>K<|dg L j)(B:iW (dg L k)=λK=>K<|dg L k)(h:a6 F! t L σ λx r=>c7 r x λc=>if c=U then P (dg L j) r else P (dg L k) r):a6 F! (.D t (.v j)<|.v k) L σ P:=by
 refine(?_:a6 F! t L σ λx r=>c7 r x λc=>if c=U then iW (dg L j) (λx=>P x r) else iW (dg L k) λx=>P x r);simp only[u,B];exact h
def a38{x y K}(h:K<|ci (ci L i x) j y):p9 L (.a [i,j]) (.B [x,y]) K:=⟨H,h⟩
def JT{t}(h:Drawn w RL qs od a b)(B:side=0\/side=1)(F:dR σ w RL)(ho:Ord w.au os)(M:∀σ' A! B' B! C_ y' C' y_ B_,dR σ' w RL->K .none [x0,x1,x2,bS w,.r<|qs.map lQ,x5,.r<|G od,x7,.r<|G a,.r<|G b,.a side,A!,B',B!,C_,y',C',y_,B_,E_,D!,D_,C!] σ'):
 W (n+21) 108 [bS w,.r<|G os,.e t] σ λv r=>p9 [x0,x1,x2,bS w,.r<|qs.map lQ,x5,.r<|G od,x7,.r<|G a,.r<|G b,.a side,A!,B',B!,C_,y',C',y_,B_,E_,D!,D_,C!] (.a [11,12]) v λu=>wB (n+21) Kd u r K:=by
 refine Zx F h.wf ho λr tl T nm V ρ i o=>a38 ?_;obtain c:=F.cT h.wf o;obtain go:∀y! z_,Hk side a b y! z_->jB w y!->jB w z_->wB (n+21) Kc [x0,x1,x2,bS w,.r<|qs.map lQ,x5,.r<|G od,x7,.r<|G a,.r<|G b,.a side,.d tl.h,.g 0<|dN nm,.r<|G y!,C_,y',C',y_,B_,E_,D!,D_,C!] r K:=λy! z_ sd wh p=>by
  refine bX<|ZB c h.wf i wh h.hq h.l9 λd j k l m e mt le=>?_;obtain q:=e.tl;subst q;exact U3 e (jg h.rl▸mt) ⟨h.wf,(h.rl▸uE.u ⟨λf f g=>(nomatch g),λf f g=>(nomatch g)⟩ h.hq),i.b.r.M le.r,sd,wh,p⟩ (e.M c) λσ'=>M σ' _ _ _ _
 exact bX<|Z7 H H<|Lr B (λz=>go a b ⟨B,by rw[ak z],by rw[ak z]⟩ h.wa h.wb) λz=>go b a ⟨B,by rw[Z z],by rw[Z z]⟩ h.wb h.wa
def JS(h:Drawn w RL qs od a b)(B:side=0\/side=1)(r:dR σ w RL)(u:∀σ' A! B' B! C_ y' C' y_ B_,dR σ' w RL->K .none [x0,x1,x2,bS w,.r<|qs.map lQ,x5,.r<|G od,x7,.r<|G a,.r<|G b,.a side,A!,B',B!,C_,y',C',y_,B_,E_,D!,D_,C!] σ'):
 wB (n+21) Kf [x0,x1,x2,bS w,.r<|qs.map lQ,x5,.r<|G od,x7,.r<|G a,.r<|G b,.a side,A!,B',B!,C_,y',C',y_,B_,E_,D!,D_,C!] σ K:=by
 apply tW;lk;rcases B with e|e;.subst e;exact gO H<|PU<|JT h (.inl H) r h.ord u
 .subst e;exact eh (Y H) ⟨Y H,Y H,⟨Y H,TN (n:=n+21) h.BQ (λx=>⟨H,H⟩)<|PU<|JT h (.inr H) r h.ord.WX u⟩⟩
theorem e35{K l i x}:a6 F! (.ze l i x) L σ K=a6 F! l L σ λl r=>ly r l=U/\a6 F! i L r λi B=>a6 F! x L B λx u=>mJ u l λa vs=>match i with
 |.a i=>0<=i/\i<=O vs/\K .j (u.u a<|.b<|vs.take (cY i)++x::vs.drop (cY i))
 |_=>False:=rfl
def ND:rP w (qs++[q]) R=pY w q (rP w qs R):=by
 unfold rP;rw[v8];rfl
structure Rw(σ:av)(d r:a7)(ys:List Int)(i:Nat)(w:LW)(qs:List uW):Prop where
 tk:Tk σ d ys i
 M:dR σ w (rP w qs λζ=>[])
 e:σ r=some (.b<|qs.map lQ)
 hq:∀q∈qs,lH w.au q
 aT:∀k,(rP w qs (λζ=>[]) k).length<=2*qs.length
def sub_neg{K}(h:σ l=I (.b<|vs++[v]))(r:O vs<=90)(u:K v):gL σ (.d l) (.a<|-1) K:=by
 obtain hi:o8 (O<|vs++[v]) (-1)=I (O vs):=by
  rw[eK];unfold o8;rw[Z<|Y H,ak<|by show(0:Int)<=-1+((O vs+1:Nat):Int);exact EY<|sx _];congr 1;exact My<|sx _
 unfold gL;rw[wL h];exact DT (σ:=σ) (by rw[eK];exact bG (jS r) H) hi (by simp) u
abbrev VE:List PS:=Fn
def WM(wf:WF w)(tr:r.t=65):∀{m a σ i qs x5 K},Rw σ d r ys i w qs->O qs+m<=5->i+6*m<=800->
 (∀σ' j u x5,Rw σ' d r ys j w u->O u<=5->j<=i+6*m->K .none (x0::x1::.d d::bS w::.d r::x5::y) σ')->
 cu (wB (n+3) VE) (.B 5) dc (kU a m) (x0::x1::.d d::bS w::.d r::x5::y) σ K:=by
 intro m;induction m with
 |zero=>
  intro a σ i qs x5 K h b hi c;exact c σ i qs x5 h b<|ce _
 |succ m D=>
  intro a σ i qs x5 K h b hi c;refine fj<|ia ?_;lk;refine⟨mw h.e,rL ?_⟩;have x:O (qs.map lQ)<=5:=by rw[ba];exact kX b
  refine Zz h.tk (kX hi) wf.c0 λq f j hq z A B=>lS (B _ _ (by rw[tr];decide) h.e) (bG x H) ⟨aE,ia ?_⟩;lk;refine sub_neg fc (bG x H) (ZA ((h.M.cT wf λl o b e=>B l o (by rw[b];decide) e).u wf<|by rw[tr];decide) wf hq h.aT (qJ (rc 2<|kX b) H) λg s t C=>⟨aE,aw ⟨aE,D (qs:=qs++[q]) ⟨(z.u<|by rw[tr];decide).cT λo e=>C d o (λv=>by have:=wf.a _ v;rw[z.a] at this;cases this) e,by rw[ND];exact s,?_,λp hp=>?_,λk=>?_⟩ (ay eK<|mi b) (yV A hi) λσ' E u x5 h' F G=>c σ' E u x5 h' F<|Fg A G⟩⟩);.rw[d9];exact C r _ (λv=>by have:=wf.a _ v;rw[tr] at this;cases this) fc
  .rcases fQ.mp hp with hp|hp;.exact h.hq p hp
   .rw[d8.mp hp];exact hq
  .rw[ND,eK];exact aV (t k)<|ce _
structure Jb(σ:av)(d r:a7)(ys:List Int)(i k:Nat)(od:List Nat):Prop where
 tk:Tk σ d ys i
 q:σ r=some (.b<|G od)
 nd:od.Nodup
 h:∀x,x∈od↔x<k
 aT:od.length=k
def Xv{v x}:x∈od.take v++k::od.drop v↔x=k\/x∈od:=by
 rw[fQ,cf] at⊢;constructor
 .rintro(h|h|h);.exact .inr (a6K h)
  .exact .inl h
  .exact .inr<|Ic h
 .rintro(h|h);.exact .inr (.inl h)
  .rw[<-xU v od] at h;rcases fQ.mp h with h|h;.exact .inl h
   .exact .inr<|.inr h
abbrev Z1:List PS:=Fm
def ZZ(tr:r.t=66):∀{m k σ i od x7 K},Jb σ d r ys i k od->k+m<=12->i+m<=900->(∀l o,l.t≠66->l.t≠64->E! l=I o->σ l=I o)->
 (∀σ' u x7,Jb σ' d r ys (i+m) (k+m) u->(∀l o,l.t≠66->l.t≠64->E! l=I o->σ' l=I o)->K .none (x0::x1::.d d::x3::x4::x5::.d r::x7::y) σ')->
 cu (wB (n+1) Z1) (.B 7) dc (kU k m) (x0::x1::.d d::x3::x4::x5::.d r::x7::y) σ K:=by
 intro m;induction m with
 |zero=>
  intro k σ i od x7 K h _ _ c f;exact f σ od x7 h c
 |succ m t=>
  intro k σ i od x7 K h b hi c f;refine fj<|ia ?_;lk;refine⟨mw h.q,om<|o5 h.tk (bG (kX hi) H) (sx k) λv g=>?_⟩;obtain j:O (G od)=k:=by rw[ba];exact h.aT
  refine lS (h.tk.F (by rw[tr];decide) h.q) (ay j<|bG (kX b:k<=12) H) ⟨dI _,by rw[j];exact iH.mpr<|sz g,aE,aw ⟨aE,?_⟩⟩;rw[(show(G od).take (cY (v:Int))++AV.a k::(G od).drop (cY (v:Int))=G (od.take v++k::od.drop v) from by
   rw[<-a6M,<-List.map_drop];exact(d9 (l₂:=k::od.drop v)).symm)]
  refine t ⟨(h.tk.go<|i+1).u (by rw[tr];decide),fc,(by
   obtain p:(od.take v++k::od.drop v).Perm<|k::od:=by
    have:=Ap (a:=k) (l₁:=od.take v) (l₂:=od.drop v);rw[xU] at this;exact this
   exact p.nodup_iff.mpr<|fh.mpr ⟨λz=>kK k<|(h.h k).mp z,h.nd⟩),λx=>?_,?_⟩ (mi b) (mi hi) (λl o s h4 e=>(cN λ(q:l=r)=>s<|ay q tr).trans<|h.tk.F h4<|c l o s h4 e) λσ' u x7 h' A=>f σ' u x7 ?_ A
  .rw[Xv,h.h x] at⊢;exact Or.comm.trans xS.symm
  .rw[eK,kq,xV,Ar,h.aT];rw[pF<|sz g,<-oM,Ao<|sz g]
  .rw[<-lT,<-lT];exact h'
abbrev NA:List PS:=[.h (.B 10) (.M [N2]) Kf,
 .c kT]
abbrev NB:List PS:=.g 8 (.z (.B 20) (.M [.n V3<|.k<|AV.f j1]) C<|.v 20)::
 .g 9 (.z (.B 21) (.M [.n V3<|.k<|AV.f j1]) C<|.q .sub (.q .sub (.n V3<|.k<|AV.f j1) N1)<|.v 21)::
 .d (.h .eq (.j 85 [V2,N2]) N1)
  [.n [8,9]<|.B [V9,V8]]
  []::NA
abbrev NC:List PS:=.u 4::
 .g 6 (.L 66 [])::
 .h (.B 7) (.M [ki 12])
  Fm::
 .u 6::NB
abbrev ZD:List PS:=.g 2 (.L 64 [N0,V1])::
 .g 3 (.j 103 [V2])::
 .g 4 (.L 65 [])::
 .h (.B 5) (.M [.q .add N2<|.j 85 [V2,N4]])
  Fn::NC
def JQ(h:Drawn w RL qs od a b)(r:dR σ w RL)(u:∀L σ',K (I<|.e U) L σ'):
 wB (n+21) NA [x0,x1,x2,bS w,.r<|qs.map lQ,x5,.r<|G od,x7,.r<|G a,.r<|G b,A_,A!,B',B!,C_,y',C',y_,B_,E_,D!,D_,C!] σ K:=gg ⟨Y H,Y H,⟨Y H,fj<|JS h (.inl H) r λc A! B' B! C_ y' C' y_ B_ e=>⟨aE,fj<|JS h (.inr H) e λd A! B' B! C_ y' C' y_ B_ f=>⟨aE,vw<|f7<|u _ _⟩⟩⟩⟩
def IP:jB w<|cO w.au:=⟨a6I,λb=>eJ⟩
def TL:∀c,c<4->cg ((cO c).map λx=>c-1-x):=Y H
def IS(h:w.au<=3):jB w<|(cO w.au).map λx=>w.au-1-x:=
 ⟨TL _<|Nat.lt_succ_of_le h,λk=>by
  rw[bp] at⊢;constructor;.rintro⟨x,c,e⟩;exact aO e<|Ks<|eJ.mp c
  .exactλb=>⟨w.au-1-k,eJ.mpr<|Ks b,RJ<|RW b⟩⟩
def a4U(tk:Tk σ d ys i)(hi:i<=900)(lw:dR σ w RL)(wf:WF w)(rl:RL=rP w qs λu=>[])(hq:∀q∈qs,lH w.au q)(l9:O qs<=9)(ord:Ord w.au od)(BQ:O od=12)(r:∀L σ',K (I<|.e U) L σ'):
 wB (n+21) NB [x0,x1,.d d,bS w,.r<|qs.map lQ,x5,.r<|G od,x7,.q,.q,.q,.q,.q,.q,.q,.q,.q,.q,.q,.q,.q,.q,.q] σ K:=by
 obtain c:=lw.a;apply bX;lk;refine rL ⟨dI _,lu c H,⟨by rw[rz];exact bG c H,?_⟩⟩;rw[Ew];refine uv (λx=>.a x) (λx k b=>b) (λx f g b=>b)<|bX ?_;lk;refine rL ⟨dI _,lu c H,?_⟩;show O (kU 0 w.au)<=aR/\iJ _ _ _ _ _ (kU 0 w.au) _ _;refine⟨by rw[rz];exact bG c H,?_⟩;rw[Ew];refine uv (λx=>.a (w.au-1-x:Nat)) (λx k b=>b) (λx f g b=>?_)<|bV ?_;.apply rL;show g (.a<|((w.au:Nat):Int)-1-x) σ;rw[show((w.au:Nat):Int)-1-x=((w.au-1-x:Nat):Int) from by rw[xY<|RW<|eJ.mp f,xY<|a6k<|gQ (jQ _)<|eJ.mp f];rfl];exact b
 rw[(show(cO w.au).map (λx=>AV.a (w.au-1-x:Nat))=G ((cO w.au).map λx=>w.au-1-x) from by
  show _=List.map _ (List.map _ _);rw[kM];rfl)]
 lk;refine o5 tk (bG hi H) (Y H) λv l=>?_;obtain j:=lw.u wf (by rw[tk.a];decide);by_cases z:v=1;.exact gO (by rw[z];rfl)<|tW ⟨H,aw<|JQ ⟨wf,rl,hq,l9,ord,BQ,IS c,IP⟩ j r⟩
 .exact eh (λe=>z<|gI e)<|aw<|JQ (n:=n) ⟨wf,rl,hq,l9,ord,BQ,IP,IS c⟩ j r
def Z0(h:Rw σ d r ys i w qs)(tr:r.t=65)(hi:i<=800)(wf:WF w)(u:O qs<=5)(B:∀L σ',K (I<|.e U) L σ'):
 wB (n+21) NC [x0,x1,.d d,bS w,.d r,x5,.q,.q,.q,.q,.q,.q,.q,.q,.q,.q,.q,.q,.q,.q,.q,.q,.q] σ K:=by
 refine pg H h.e<|cq ?_;obtain g:=h.tk.r (by rw[tr];decide);obtain c:=h.M.r wf (by rw[tr];decide);generalize σ.r r=E! at g c⊢
 exactλj fr=>gg ⟨Y H,Y H,⟨Y H,ZZ H ⟨g.u (by show 66≠64;decide),fc,.nil,λx=>⟨λh=>(nomatch h),λh=>aP h<|Dg x⟩,H⟩ (Y H) (qJ hi H) (λl o p y e=>(cN λ(q:l=⟨66,j⟩)=>p<|ay q H).trans e) λf od x7 b s=>pg H b.q<|a4U (b.tk.r<|by show 66≠64;decide) (qJ hi H) ((c.cT wf λl o m e=>s l o (by rw[m];decide) (by rw[m];decide) e).r wf<|by show 66≠55;decide) wf H h.hq (bG u H) ⟨b.nd,λx t=>(b.h x).mp t,λk v=>(b.h _).mpr<|oY (qj (eR v c.a) 8) H,gG b.aT⟩ b.aT B⟩⟩
noncomputable def fv:List Int:=[0,3,0,3,0,0,0,0,0,0,0,0,0,1,0,1,0,0,0,0,0,1,2,3,4,5,6,7,8,8,10,1]
def a2X(u:∀x,dg (ci L 19 x) 19=x):∀{r:List Int}{K},K ((r.map (·.fmod 999983)).map .a) σ->iJ (n8 (W n) C) (a6 (W n)<|.q .e (.v 19)<|ki 999983) (.B 19) dc L (r.map .a) σ K:=by
 intro r;induction r with
 |nil=>
  intro K b;exact b
 |cons x r c=>
  intro K b;refine qU<|bw ?_;rw[e4,e3,u];exact⟨Y H,aE,c b⟩
def a7A(u:List Int)(h:O u<=63):W (n+22) 112 [.r<|u.map .a] σ λv B=>v=.e true:=by
 refine bq [.r<|u.map .a,.q,.q,.q,.q,.q,.q,.q,.q,.q,.q,.q,.q,.q,.q,.q,.q,.q,.q,.q,.q,.q,.q] H<|cq ⟨Y H,lm h H,?_⟩;obtain o:(u.map AV.a).take (cY (48:Int))=(u.take 48).map AV.a:=a6M.symm;rw[o];refine⟨lm (a6Q _ _) H,a2X (λx=>H)<|bV ?_⟩;obtain f:∀x∈(u.take 48).map (·.fmod 999983),0<=x/\x<1000000:=λx p=>by
  refine aA (bp.mp p) λy B g=>?_;subst g;rw[Sn _<|Y H];exact⟨Int.emod_nonneg _<|Y H,Int.lt_trans (Int.emod_lt_of_pos _<|Y H)<|Y H⟩
 obtain b:O ((u.take 48).map (·.fmod 999983))<=48:=by rw[ba];exact a6Q _ _
 generalize(u.take 48).map (·.fmod 999983)=ms at f b⊢;lk;refine⟨lm b H,?_⟩;rw[ba];obtain bD:∀ys:List Int,0<O ys->O ys<=100->(∀x∈ys,0<=x/\x<1000000)->wB (n+21) ZD [.r<|u.map .a,.r<|ys.map .a,.q,.q,.q,.q,.q,.q,.q,.q,.q,.q,.q,.q,.q,.q,.q,.q,.q,.q,.q,.q,.q] σ λr B B=>r.getD .j=.e true:=λys q s f=>(by
  refine cq λj fr=>bX<|Zr ⟨fc,H,q,s,f⟩ (Y H) λw c i t hi lw wf=>bX λA C=>gg ?_;obtain k:Tk (c.u ⟨65,A⟩<|.b []) ⟨64,j⟩ ys i:=t.u (by show 65≠64;decide);lk;exact o5 k (bG hi H) (Y H) λv d=>om ⟨dI _,lu (jq (je d) 2) H,⟨by rw[rz];exact bG (jq (sz d) 2:2+v<=5) H,WM (qs:=[]) wf H ⟨k.go<|i+1,(lw.u wf<|by show 65≠55;decide).u wf (by show 64≠55;decide),k.F (by show 65≠64;decide) fc,dS,λD=>ce 0⟩ (ay a6R<|aV (gG<|n6 _)<|jq (sz d) 2) (bG (jT (jS hi)<|rc 6<|jq (je d) 2) H) λl G qs x5 E F m=>Z0 E H (aV m<|bG (jT (jS hi)<|rc 6<|jq (je d) 2) H) wf F λB B=>H⟩⟩)
 by_cases z:O ms=0;.refine gO (by rw[z];rfl)<|bX ?_;lk;exact aw<|bD fv (Y H) (Y H)<|Y H
 .exact eh (λe=>z<|gI e)<|aw<|bD ms (RQ z) (bG b H) f
end
end Mine.Internal
theorem PySem.Challenge.cw_xm0539_01_holds : PySem.Challenge.rw_xm0539_01.Holds :=
 Mine.Internal.a7F Mine.Internal.a7w (Mine.Internal.a7B 22 (by decide) λns h=>Mine.Internal.a7A (n:=0) ns h)
