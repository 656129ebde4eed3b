import PyProof.Rows.All
import Wide.All
import OpenK.AllK
import Wide.FinOn
import PyProof.AttrMissHeap
import KE.KDictOf
import KE.KSortTup
import KE.KDictSum
import PyProof.Rows.Walk
import PySem.Challenge.RW_nn0370_01
set_option linter.all false
set_option bootstrap.genMatcherCode false
set_option compiler.extract_closed false
set_option genSizeOf false
set_option genSizeOfSpec false
set_option tactic.hygienic false
set_option maxRecDepth 100000
set_option maxHeartbeats 8000000
noncomputable section
namespace Mine.Tactic
open Option renaming some->S,none->J,map_eq_some_iff->qk,isSome_iff_exists->ui,any_eq_true->uT,bind_eq_some_iff->yy,map_some->uc,isNone_iff_eq_none->C2,map_eq_none_iff->Gk,none_or->ZE
open List renaming length_map->aq,length_append->aY,getElem?_map->bx,append_assoc->bM,map_append->bK,getElem?_eq_some_iff->dk,getElem?_eq_getElem->du,mem_append->b8,mem_cons_self->cT,length_range->cP,all_eq_true->cF,mem_cons_of_mem->dA,mem_singleton->dm,getElem?_set_ne->dG,getElem?_append_left->eR,mem_map->bY,length_singleton->ee,map_map->b5,mem_cons->cy,append_nil->dg,getElem?_eq_none->eX,mem_of_getElem?->eY,mem_append_left->fh,take_of_length_le->gb,getElem?_append_right->iG,pairwise_append->gf,map_cons->dz,mem_append_right->ik,mem_filter->fK,take_append_drop->i6,ext_getElem?->gQ,getElem?_range->iJ,foldl_append->g8,length_filter_le->jZ,length_take->ig,mem_range->gw,pairwise_map->i7,filter_append->j_,getElem?_zipIdx->lG,drop_eq_getElem_cons->ov,eq_nil_of_length_eq_zero->qF,length_cons->jG,getElem?_set_self->om,nodup_iff_pairwise_ne->rK,filter_cons_of_pos->pP,filter_cons_of_neg->pQ,range_succ->kI,nodup_cons->kB,lookup_cons->k7,mem_of_mem_take->oF,foldl_cons->kW,flatMap_append->qb,mem_reverse->oH,mem_flatMap->oS,drop_of_length_le->sF,set_set->lX,nodup_append->qL,getElem?_set->rJ,prefix_append->tm,pairwise_cons->s6,length_drop->qZ,append_inj'->rf,all_map->nD,getElem?_of_mem->uI,mem_zipIdx_iff_getElem?->Bn,map_congr_left->vf,filter_eq_nil_iff->xj,map_singleton->vb,length_zipIdx->vc,set_append_right->xd,take_sublist->uK,getElem_of_mem->w8,getElem?_replicate->Am,take_append_of_le_length->GC,map_nil->qK,getElem?_take->xc,flatMap_singleton->Bc,length_replicate->AO,concat_eq_append->AY,size_toArray->v9,reverse_cons->xk,reverse_reverse->z6,mem_of_mem_drop->zY,getD_eq_getElem?_getD->Ep,getElem_mem->wU,exists_cons_of_length_eq_add_one->LJ,getElem?_eq_none_iff->DC,reverse_append->z5,set_comm->ur,filter_nil->x8,set_cons_succ->Bl,findIdx?_eq_some_iff_getElem->Kx,range_succ_eq_map->Eo,flatMap_cons->Bb,perm_append_comm->DX,pairwise_flatMap->F8,prefix_refl->A6,getElem_map->AV,any_eq_true->Ak,any_cons->vU,getLast?_append->Hc,dropLast_concat->Hd,length_set->Bm,forIn_cons->zr,map_set->xM,idxOf_lt_length_of_mem->NX,nodup_nil->Bj,pairwise_iff_getElem->Lj,append_eq_append_iff->Og,take_add_one->FO,map_take->Bp,zipIdx_cons->Gi,pairwise_singleton->L0,nodup_range->F6,map_fst_zip->Et,getLast?_singleton->P_,getElem_inj->FK,cons_append->CW,pairwise_lt_range->NH,any_map->yS,prefix_rfl->FU,nil_append->Eu,all_append->Ho,foldl_nil->F2,drop_zero->CF,take_succ_cons->Pg,replicate_succ->IG,map_eq_nil_iff->Mm,all_cons->Cp,zipIdx_append->Ot,getElem_idxOf->NY,append_of_mem->L3,take_length->Pp,eq_nil_iff_forall_not_mem->ylF,append_cons->Oi,zip_append->Mk,prefix_append_right_inj->ylR,of_mem_zip->J5,getElem?_concat_length->ymC,take_zero->PY,extract_eq_take_drop->ymT,take_add->Lm,map_drop->O0,mem_singleton_self->ynJ,find?_cons_of_neg->XJ,countP_mono_left->ynX,set_append_left->yoB,forall_mem_cons->yoC,filter_sublist->yoL,filterMap_cons->yoM,set_cons_zero->yoR,ne_nil_of_mem->yoS,map_replicate->yoT,countP_append->yoU,getElem_drop->ypD,filter_congr->ypE,drop_sublist->ypF,any_eq_false->ypG,not_mem_nil->YL,map_reverse->ypS,isEmpty_iff->Zk,countP_cons->ypU,cons_ne_nil->ypV,find?_cons->Xx,filter_map->yqH,take_left->yqM,range_add->yqN,drop_left->yqO,drop_drop->yqP
open Nat renaming le_of_eq->aK,le_trans->ba,le_refl->bb,le_antisymm->cg,le_of_lt->bX,le_add_of_sub_le->eI,lt_of_lt_of_le->d0,le_add_right->dH,sub_add_cancel->eH,lt_of_le_of_lt->eP,zero_lt_succ->eN,ne_of_lt->dx,le_of_lt_succ->fA,mul_le_mul_left->gk,exists_eq_succ_of_ne_zero->lh,le_of_not_lt->fB,lt_of_succ_lt->gu,zero_le->dO,add_le_add_left->iE,add_lt_add_left->i5,zero_add->fc,not_succ_le_zero->jB,add_sub_cancel_left->l7,ne_of_gt->fO,lt_succ_self->iQ,lt_of_not_le->iR,lt_trans->gh,min_eq_left->jI,le_succ_of_le->k9,min_le_left->lL,succ_le_succ->mU,not_lt_of_le->mD,exists_eq_add_of_le->sT,sub_self->kE,lt_succ_of_le->pH,sub_le->jA,eq_zero_of_not_pos->uB,min_le_right->qo,add_le_add_right->uH,add_comm->n5,not_lt->o_,le_succ->qP,add_le_add->tQ,lt_of_add_lt_add_left->DK,add_sub_cancel'->zT,lt_or_eq_of_le->yE,succ_le_of_lt->yO,lt_succ_of_lt->yC,lt_or_ge->uO,add_zero->tP,le_min->rW,lt_irrefl->vN,add_assoc->w6,le_add_left->zS,add_right_comm->EW,zero_lt_of_lt->DQ,sub_pos_of_lt->D4,not_le_of_lt->BV,min_eq_right->CB,succ_pos->yD,zero_lt_one->DT,sub_eq_zero_of_le->H8,le_of_sub_eq_zero->LF,le_of_ble_eq_true->HH,testBit_or->F1,add_sub_cancel->KY,zero_mul->BU,succ_lt_succ->K0,shiftLeft_eq->Np,max_eq_right->KS,le_max_right->HX,not_lt_zero->HI,mul_div_le->H9,shiftRight_eq_div_pow->W4,lt_add_of_pos_right->QP,zero_max->Ln,succ_add->HF,sub_le_iff_le_add'->ynT,lt_of_succ_lt_succ->ynU,lt_asymm->K6,le_of_succ_le_succ->XC,pow_le_pow_right->yoE,one_mul->HE,not_succ_le_self->QZ,lt_sub_of_add_lt->yoH,le_sub_of_add_le->yoI,add_mul->HD,add_add_add_comm->QJ,lt_mul_div_succ->S_,not_le->KN,lt_of_le_of_ne->ypB,eq_or_lt_of_le->ypC,lt_trichotomy->ypQ,succ_ne_self->Zj,sub_sub_self->yqE,add_pos_left->yqF,zero_lt_two->yqL
open Bool renaming false->ae,true->ab,and_eq_true_iff->dF,false_ne_true->gr,and_eq_true->fZ,or_eq_true->lY,not_eq_true'->oE,eq_iff_iff->qG,false_eq_true->y3,or_eq_true_iff->Kj,and_true->C1,false_or->IZ,eq_false_iff->ypK
open PySem renaming wpAny_bind->aG,Expr->aI,wpAny_pure->bA,Shared->aT,Addr->aO,wpAny_loadPart'->lj,wpAny_holding->jH,wpAny_truthy_bool->sC,wpAny_standAt->qM,wpAny_mono->mW,call_meets->pf,wpAny_newObj_type->yX,wpAny_rule->sr,wpAny_items_cons->y0,wpAny_typeNameOfWhole_keyiter->JK,wpAny_isTrue_BoolOp->EL,slot_list_getitem->Cz,wpAny_typeNameOf_keyiter->JL,wpAny_call_entry->CC,wpAny_callSpecial?_slot->Jq,wpAny_allTrue_And_cons->MQ,wpAny_items_nil->CG,codeAny_builtin->Du,wpAny_allTrue_Or_cons->MR,plainId_quiet->Dt,wpAny_typeOf->CD,wpAny_dictEntries->Jz,wpAny_Call_ofName->Jx,map_eq_self->Co,wpAny_execs_nil->JY,slicePick_plain->Jm,typeIs_int->Ci,callWith_type->YK,call_meetsIn->JB,wpAny_notOrdered_dict->Y5,wpAny_isOneOf_keyiter->Y6,wpAny_letTemporaryGo->XY,wpAny_field->Jp,wpAny_Tuple->Jt,wpAny_Constant_bool->WT,wpAny_Assign_stores->yqK
open PySem.Str renaming ofString->bZ
open Array renaming getElem?_toList->eL,length_toList->gP,toList_append->se,toList_inj->qY,getElem?_eq_getElem->zL,perm_iff_toList_perm->DE,toList_push->zC,toList_setIfInBounds->Kp,isEmpty_iff->Cj,toList_map->L6,getElem?_eq_some_iff->ymE,getElem?_eq_none->ynL,mem_of_getElem?->ynP,toList_extract->ynZ,any_toList->X0,size_map->yqI
open PyProof.Rows renaming wpS_bind->bq,wpS_pure->bB,wpS_forRange->l4,slot_tuple_getitem->yW,wpS_lift->uz,wpS_get->sZ,wpS_modify->zQ,assign_Tuple_tuple->JU,pairsOf_size->Eg,get?_update_seq->L9,listUpdate_at->L8,seqEpoch_at->L_,elem'_eq->DF
open PySem.Heap renaming get?_push_of_some->jE,get?_push_size->kU,lt_size->jf,get?_update_self->Cw,size_push->CY,get?_push_ne->yoZ,size_update->ypO
open Option.some renaming injEq->jF,inj->je
open List.cons renaming inj->iB
open Int renaming natCast_nonneg->mY,lt_trans->mR,ofNat_inj->pR,not_lt->lT,le_of_lt->sf,toNat_natCast->y_,ofNat_lt->vR,eq_ofNat_of_zero_le->IM,zero_add->Cx,ofNat_le->CA,le_trans->Cf,add_comm->Cg,max_eq_right->Jk,min_eq_left->Jl,fdiv_eq_ediv_of_nonneg->W5,add_nonneg->Pt,add_neg_cancel_right->ynK,le_of_eq->Jh,natAbs_of_nonneg->W6,add_le_add_right->X8,toNat_of_nonpos->X7,toNat_of_nonneg->Y3,sub_add_cancel->Yb,not_le->IL,lt_of_le_of_lt->W2,max_eq_left->X6
open Prod.mk renaming injEq->kY
open Nat.succ renaming inj->qU
open List.Perm renaming append_left->z7
open PySem.F renaming slot_dict_keyiterator_next->JI,plainAttrs_list->Di,slot_str_join->Ku,slot_list_getattribute->KC,slot_dict_get->Kt,slot_list_insert->ylW,slot_list_extend->ylX,slot_list_append->ylY,args_tuple_add_2->Xb,slot_list_index->ymF,entry_tuple_add->Xa,args_str_join_2->ymH,args_dict_get_3->ymI,slot_tuple_add->W_,slot_dict_iter->Y4,entry_str_join->ymO,entry_dict_get->ymP,slot_int_rmul->W9,slot_dict_len->YO,slot_list_lt->ynH
open PySem.Around renaming under_plainId->Dv
open PySem.StrLaws renaming sliceIdx_none_lo->Js,glued_eq_join->ymX,sliced_plain->Yj
open Prod renaming ext->wb,ext_iff->Qa
open Decidable renaming byContradiction->ylH
open Classical renaming byContradiction->ylI
open PySem.Calls renaming call_function_entry->YN,callWith_builtin->Jy,Name_function_global->WU
open BEq renaming rfl->wA
open Ne renaming symm->vZ
open PySem.WalksT renaming enumerate->Zb
open PySem.Obj renaming data_mapFields->Y7
open PySem.W renaming any_some->Cs
theorem bT {C:Prop}(h:ae=ab):C:=nomatch h
theorem jc {C:Prop}(h:ab=ae):C:=nomatch h
theorem aD {C:Prop}{b}{a:b}(h:J=S a):C:=nomatch h
theorem kO {C:Prop}{b}{a:b}(h:S a=J):C:=nomatch h
@[elab_as_elim] theorem Zrr {P:α->Prop}(h:a=b)(m:P b):P a:=h▸m
@[elab_as_elim] theorem Qz {P:c->Prop}(h:a=b)(m:P a):P b:=h▸m
theorem kr {f:c->Option q}{b}{G:Prop}(h:o.bind f=S b)(k:∀a,o=S a->f a=S b->G):G:=(yy.mp h).elim λa h=>k a h.1 h.2
theorem qj {q r u:Type _}{o:Option (q×r)}{f}{b:u}{G:Prop}(h:o.bind f=S b)(k:∀a c,o=S (a,c)->f (a,c)=S b->G):G:=(yy.mp h).elim λa h=>k _ _ h.1 h.2
theorem Hz {q r u x:Type _}{o:Option (q×r×u)}{f}{b:x}{G:Prop}(h:o.bind f=S b)(k:∀a c d,o=S (a,c,d)->f (a,c,d)=S b->G):G:=(yy.mp h).elim λa h=>k _ _ _ h.1 h.2
theorem gY {f:c->q}{b}{G:Prop}(h:o.map f=S b)(k:∀a,o=S a->f a=b->G):G:=(qk.mp h).elim λa h=>k a h.1 h.2
theorem ql {q r u:Type _}{o:Option (q×r)}{f}{b:u}{G:Prop}(h:o.map f=S b)(k:∀a c,o=S (a,c)->f (a,c)=b->G):G:=(qk.mp h).elim λa h=>k _ _ h.1 h.2
theorem QA {q r u x:Type _}{o:Option (q×r×u)}{f}{b:x}{G:Prop}(h:o.map f=S b)(k:∀a c d,o=S (a,c,d)->f (a,c,d)=b->G):G:=(qk.mp h).elim λa h=>k _ _ _ h.1 h.2
theorem QB {G:Prop}(h:P0/\P1/\a/\P3/\b/\c/\o/\q/\r/\u/\x/\y)(k:P0->P1->a->P3->b->c->o->q->r->u->x->y->G):G:=k h.1 h.2.1 h.2.2.1 h.2.2.2.1 h.2.2.2.2.1 h.2.2.2.2.2.1 h.2.2.2.2.2.2.1 h.2.2.2.2.2.2.2.1 h.2.2.2.2.2.2.2.2.1 h.2.2.2.2.2.2.2.2.2.1 h.2.2.2.2.2.2.2.2.2.2.1 h.2.2.2.2.2.2.2.2.2.2.2
theorem au {G:Prop}(h:P0/\P1)(k:P0->P1->G):G:=k h.1 h.2
theorem dp {G:Prop}(h:P0/\P1/\a)(k:P0->P1->a->G):G:=k h.1 h.2.1 h.2.2
theorem mB {G:Prop}(h:P0/\P1/\a/\P3)(k:P0->P1->a->P3->G):G:=k h.1 h.2.1 h.2.2.1 h.2.2.2
theorem BP {G:Prop}(h:P0/\P1/\a/\P3/\b)(k:P0->P1->a->P3->b->G):G:=k h.1 h.2.1 h.2.2.1 h.2.2.2.1 h.2.2.2.2
theorem QG {G:Prop}(h:P0/\P1/\a/\P3/\b/\c/\o)(k:P0->P1->a->P3->b->c->o->G):G:=k h.1 h.2.1 h.2.2.1 h.2.2.2.1 h.2.2.2.2.1 h.2.2.2.2.2.1 h.2.2.2.2.2.2
theorem HA {G:Prop}(h:P0/\P1/\a/\P3/\b/\c/\o/\q)(k:P0->P1->a->P3->b->c->o->q->G):G:=k h.1 h.2.1 h.2.2.1 h.2.2.2.1 h.2.2.2.2.1 h.2.2.2.2.2.1 h.2.2.2.2.2.2.1 h.2.2.2.2.2.2.2
theorem ao {P0:b->Prop}{G:Prop}(h:∃a,P0 a)(k:∀a,P0 a->G):G:=h.elim λa h=>k a h
theorem ah {P0 P1:b->Prop}{G:Prop}(h:∃a,P0 a/\P1 a)(k:∀a,P0 a->P1 a->G):G:=h.elim λa h=>k a h.1 h.2
theorem cD {P0 P1 b:c->Prop}{G:Prop}(h:∃a,P0 a/\P1 a/\b a)(k:∀a,P0 a->P1 a->b a->G):G:=h.elim λa h=>k a h.1 h.2.1 h.2.2
theorem o8 {P0 P1 b P3:c->Prop}{G:Prop}(h:∃a,P0 a/\P1 a/\b a/\P3 a)(k:∀a,P0 a->P1 a->b a->P3 a->G):G:=h.elim λa h=>k a h.1 h.2.1 h.2.2.1 h.2.2.2
theorem tN {P0 P1 b P3 c:o->Prop}{G:Prop}(h:∃a,P0 a/\P1 a/\b a/\P3 a/\c a)(k:∀a,P0 a->P1 a->b a->P3 a->c a->G):G:=h.elim λa h=>k a h.1 h.2.1 h.2.2.1 h.2.2.2.1 h.2.2.2.2
theorem fb {P0:c->o->Prop}{G:Prop}(h:∃a b,P0 a b)(k:∀a b,P0 a b->G):G:=h.elim λa h=>h.elim λb h=>k a b h
theorem dh {P0 P1:c->o->Prop}{G:Prop}(h:∃a b,P0 a b/\P1 a b)(k:∀a b,P0 a b->P1 a b->G):G:=h.elim λa h=>h.elim λb h=>k a b h.1 h.2
theorem bp {P0 P1 c:o->q->Prop}{G:Prop}(h:∃a b,P0 a b/\P1 a b/\c a b)(k:∀a b,P0 a b->P1 a b->c a b->G):G:=h.elim λa h=>h.elim λb h=>k a b h.1 h.2.1 h.2.2
theorem o9 {P0 P1 c P3:o->q->Prop}{G:Prop}(h:∃a b,P0 a b/\P1 a b/\c a b/\P3 a b)(k:∀a b,P0 a b->P1 a b->c a b->P3 a b->G):G:=h.elim λa h=>h.elim λb h=>k a b h.1 h.2.1 h.2.2.1 h.2.2.2
theorem yz {P0 P1 c P3 o:q->r->Prop}{G:Prop}(h:∃a b,P0 a b/\P1 a b/\c a b/\P3 a b/\o a b)(k:∀a b,P0 a b->P1 a b->c a b->P3 a b->o a b->G):G:=h.elim λa h=>h.elim λb h=>k a b h.1 h.2.1 h.2.2.1 h.2.2.2.1 h.2.2.2.2
theorem kP {P0 P1 c P3 o q:r->u->Prop}{G:Prop}(h:∃a b,P0 a b/\P1 a b/\c a b/\P3 a b/\o a b/\q a b)(k:∀a b,P0 a b->P1 a b->c a b->P3 a b->o a b->q a b->G):G:=h.elim λa h=>h.elim λb h=>k a b h.1 h.2.1 h.2.2.1 h.2.2.2.1 h.2.2.2.2.1 h.2.2.2.2.2
theorem QH {P0:o->q->r->Prop}{G:Prop}(h:∃a b c,P0 a b c)(k:∀a b c,P0 a b c->G):G:=h.elim λa h=>h.elim λb h=>h.elim λc h=>k a b c h
theorem iP {P0 P1:o->q->r->Prop}{G:Prop}(h:∃a b c,P0 a b c/\P1 a b c)(k:∀a b c,P0 a b c->P1 a b c->G):G:=h.elim λa h=>h.elim λb h=>h.elim λc h=>k a b c h.1 h.2
theorem yA {P0 P1 o:q->r->u->Prop}{G:Prop}(h:∃a b c,P0 a b c/\P1 a b c/\o a b c)(k:∀a b c,P0 a b c->P1 a b c->o a b c->G):G:=h.elim λa h=>h.elim λb h=>h.elim λc h=>k a b c h.1 h.2.1 h.2.2
theorem bU {P0 P1 o P3:q->r->u->Prop}{G:Prop}(h:∃a b c,P0 a b c/\P1 a b c/\o a b c/\P3 a b c)(k:∀a b c,P0 a b c->P1 a b c->o a b c->P3 a b c->G):G:=h.elim λa h=>h.elim λb h=>h.elim λc h=>k a b c h.1 h.2.1 h.2.2.1 h.2.2.2
theorem HB {P0 P1 o P3 q:r->u->x->Prop}{G:Prop}(h:∃a b c,P0 a b c/\P1 a b c/\o a b c/\P3 a b c/\q a b c)(k:∀a b c,P0 a b c->P1 a b c->o a b c->P3 a b c->q a b c->G):G:=h.elim λa h=>h.elim λb h=>h.elim λc h=>k a b c h.1 h.2.1 h.2.2.1 h.2.2.2.1 h.2.2.2.2
theorem n4 {P0 P1 o P3 q r:u->x->y->Prop}{G:Prop}(h:∃a b c,P0 a b c/\P1 a b c/\o a b c/\P3 a b c/\q a b c/\r a b c)(k:∀a b c,P0 a b c->P1 a b c->o a b c->P3 a b c->q a b c->r a b c->G):G:=h.elim λa h=>h.elim λb h=>h.elim λc h=>k a b c h.1 h.2.1 h.2.2.1 h.2.2.2.1 h.2.2.2.2.1 h.2.2.2.2.2
theorem vx {P0 P1:q->r->u->x->Prop}{G:Prop}(h:∃a b c o,P0 a b c o/\P1 a b c o)(k:∀a b c o,P0 a b c o->P1 a b c o->G):G:=h.elim λa h=>h.elim λb h=>h.elim λc h=>h.elim λo h=>k a b c o h.1 h.2
theorem qm {P0 P1 q:r->u->x->y->Prop}{G:Prop}(h:∃a b c o,P0 a b c o/\P1 a b c o/\q a b c o)(k:∀a b c o,P0 a b c o->P1 a b c o->q a b c o->G):G:=h.elim λa h=>h.elim λb h=>h.elim λc h=>h.elim λo h=>k a b c o h.1 h.2.1 h.2.2
theorem tO {P0 P1 q P3:r->u->x->y->Prop}{G:Prop}(h:∃a b c o,P0 a b c o/\P1 a b c o/\q a b c o/\P3 a b c o)(k:∀a b c o,P0 a b c o->P1 a b c o->q a b c o->P3 a b c o->G):G:=h.elim λa h=>h.elim λb h=>h.elim λc h=>h.elim λo h=>k a b c o h.1 h.2.1 h.2.2.1 h.2.2.2
theorem HC {P0 P1 q P3 r u x:y->D->H->I->Prop}{G:Prop}(h:∃a b c o,P0 a b c o/\P1 a b c o/\q a b c o/\P3 a b c o/\r a b c o/\u a b c o/\x a b c o)(k:∀a b c o,P0 a b c o->P1 a b c o->q a b c o->P3 a b c o->r a b c o->u a b c o->x a b c o->G):G:=h.elim λa h=>h.elim λb h=>h.elim λc h=>h.elim λo h=>k a b c o h.1 h.2.1 h.2.2.1 h.2.2.2.1 h.2.2.2.2.1 h.2.2.2.2.2.1 h.2.2.2.2.2.2
theorem BQ {P0 P1 u:D->H->I->L->x->y->Prop}{G:Prop}(h:∃a b c o q r,P0 a b c o q r/\P1 a b c o q r/\u a b c o q r)(k:∀a b c o q r,P0 a b c o q r->P1 a b c o q r->u a b c o q r->G):G:=h.elim λa h=>h.elim λb h=>h.elim λc h=>h.elim λo h=>h.elim λq h=>h.elim λr h=>k a b c o q r h.1 h.2.1 h.2.2
local macro_rules | `(tactic|rw[$e:term])=> `(tactic|first|with_reducible_and_instances refine Zrr $e ?_|with_reducible_and_instances refine Zrr (propext $e) ?_)
local macro_rules | `(tactic|rw[$e:term,$es,*])=> `(tactic| (rw[$e:term];rw[$es,*]))
theorem hC {a b c:Nat}(h:a<=b)(k:b<=c):a<=c:=ba h k
theorem dM {a b c:Nat}(h:a<b)(k:b<=c):a<c:=ba h k
theorem bw {a b c:Nat}(h:a<=b)(k:b<c):a<c:=eP h k
theorem dq {a b c:Nat}(h:a<b)(k:b<c):a<c:=gh h k
theorem qn {u v:Nat}(h:1<=u - v):u - v+v<=u:=aK (eH (bX (Nat.lt_of_sub_pos h)))
inductive LX where
 |n (k:Nat)|v (i:Nat)|p (a b:LX)|m (k:Nat)(a:LX)|r (a:LX)(k:Nat)
abbrev x0:LX:= .v 0
abbrev x1:LX:= .v 1
abbrev x2:LX:= .v 2
abbrev x3:LX:= .v 3
abbrev x4:LX:= .v 4
abbrev x5:LX:= .v 5
def Lg (c:List Nat)(i:Nat):Nat:=List.rec (motive:=λ_=>Nat->Nat) (λ_=>0) (λx _ a i=>Nat.rec x (λj _=>a j) i) c i
def Ld (c:List Nat)(e:LX):Nat:=LX.rec (λk=>k) (λi=>Lg c i) (λ_ _ x y=>x+y) (λk _ x=>k*x) (λ_ k x=>x*k) e
def Lc (i:Nat)(e:LX):Nat:=LX.rec (λ_=>0) (λj=>if j=i then 1 else 0) (λ_ _ x y=>x+y) (λk _ x=>k*x) (λ_ k x=>x*k) e
def Lk (e:LX):Nat:=LX.rec (λk=>k) (λ_=>0) (λ_ _ x y=>x+y) (λk _ x=>k*x) (λ_ k x=>x*k) e
def Ls (e:LX)(c:List Nat)(i:Nat):Nat:=List.rec (motive:=λ_=>Nat->Nat) (λ_=>0) (λx _ a i=>Lc i e*x+a (i+1)) c i
theorem QI (a b:LX)(c i):Ls (.p a b) c i=Ls a c i+Ls b c i:=by
 induction c generalizing i with
 |nil=>rfl
 |cons x r h=>exact(congr (congrArg _ (HD ..)) (h _)).trans (QJ ..)
theorem QK (k)(b:LX)(c i):Ls (.m k b) c i=k*Ls b c i:=by
 induction c generalizing i with
 |nil=>rfl
 |cons x r a=>exact(congr (congrArg _ (Nat.mul_assoc ..)) (a _)).trans (Nat.mul_add ..).symm
theorem QL (k)(b:LX)(c i):Ls (.r b k) c i=Ls b c i*k:=by
 induction c generalizing i with
 |nil=>exact(BU _).symm
 |cons x r a=>exact(congr (congrArg _ (Nat.mul_right_comm ..)) (a _)).trans (HD ..).symm
theorem QM (k)(c i):Ls (.n k) c i=0:=by
 induction c generalizing i with
 |nil=>rfl
 |cons x r a=>exact(congr (congrArg _ (BU ..)) (a _))
theorem QN (j)(c i)(h:j<i):Ls (.v j) c i=0:=by
 induction c generalizing i with
 |nil=>rfl
 |cons x r a=>exact congr (congrArg _ ((congrArg (· *x) (if_neg (dx h))).trans (BU x))) (a _ (yC h))
theorem QO (j)(c i):Ls (.v (i+j)) c i=Lg c j:=by
 induction c generalizing i j with
 |nil=>rfl
 |cons x r a=>
  cases j with
  |zero=>exact(congr (congrArg HAdd.hAdd ((congrArg (· *x) (if_pos rfl)).trans (HE x))) (QN i r _ (iQ i))).trans (tP x)
  |succ j=>exact(congr (congrArg _ ((congrArg (· *x) (if_neg (fO (QP (yD j))))).trans (BU x))) ((congrArg (λt=>Ls (.v t) r (i+1)) (HF i j).symm).trans (a j (i+1)))).trans (fc _)
theorem HG (e:LX)(c):Ld c e=Lk e+Ls e c 0:=by
 induction e with
 |n k=>exact(congrArg (k+ ·) (QM k c 0)).symm
 |v i=>exact((congrArg (0+ ·) (((congrArg (λt=>Ls (.v t) c 0) (fc i)).symm.trans (QO i c 0)))).trans (fc _)).symm
 |p a b o q=>exact(congr (congrArg _ o) q).trans ((QJ ..).trans (congrArg _ (QI a b c 0).symm))
 |m k a h=>exact(congrArg (k* ·) h).trans ((Nat.mul_add ..).trans (congrArg _ (QK k a c 0).symm))
 |r a k h=>exact(congrArg (· *k) h).trans ((HD ..).trans (congrArg _ (QL k a c 0).symm))
def Lb (a b:LX)(n:Nat):Bool:=Nat.rec (Nat.ble (Lk a) (Lk b)) (λi x=>Nat.ble (Lc i a) (Lc i b) &&x) n
theorem QU {a b:LX}{n}(h:Lb a b n=ab):Lk a<=Lk b:=by
 induction n with
 |zero=>exact HH h
 |succ n c=>exact c (dF.mp h).2
theorem QV {a b:LX}{n i}(h:Lb a b n=ab)(c:i<n):Lc i a<=Lc i b:=by
 induction n with
 |zero=>exact(HI _ c).elim
 |succ n k=>exact(yE (fA c)).elim (k (dF.mp h).2) λz=>z▸HH (dF.mp h).1
theorem QW {a b:LX}(c i)(h:∀j,j<i+c.length->Lc j a<=Lc j b):Ls a c i<=Ls b c i:=by
 induction c generalizing i with
 |nil=>exact bb _
 |cons x r k=>exact tQ (Nat.mul_le_mul_right _ (h i (QP (yD _)))) (k (i+1) λj q=>h j (show j<(i+r.length).succ from HF i r.length▸q))
theorem QX {a b:LX}{c}(h:Lb a b c.length=ab):Ld c a<=Ld c b:=
 HG a c▸HG b c▸tQ (QU h) (QW c 0 λj q=>QV h ((fc c.length)▸q))
def LH (c:List Nat)(G:Prop)(a:List (LX×LX)):Prop:=List.rec G (λh _ x=>Ld c h.1<=Ld c h.2->x) a
def Ll (a:List (LX×LX)):LX:=List.rec (.n 0) (λh _ x=> .p h.1 x) a
def Lr (a:List (LX×LX)):LX:=List.rec (.n 0) (λh _ x=> .p h.2 x) a
theorem QY {c G}(a)(h:Ld c (Ll a)<=Ld c (Lr a)->G):LH c G a:=by
 induction a with
 |nil=>exact h (bb _)
 |cons x r b=>exact λhx=>b λhr=>h (tQ hx hr)
theorem ai (c:List Nat)(a:List (LX×LX))(m:Nat)(l r:LX)(h:Lb (.p (.m m l) (.p (Lr a) (.n 1))) (.p (.m m r) (.p (Ll a) (.n m))) c.length=ab):LH c (Ld c l<=Ld c r) a:=
 QY a λq=>fB λz=>
  QZ _ (Nat.le_of_add_le_add_left (ba (QX h) (ba (aK ((Nat.add_left_comm ..).trans (n5 ..))) (tQ (gk m z) q))))
instance (n:Nat):OfNat LX n:=⟨.n n⟩
instance:Add LX:=⟨.p⟩
section
variable {a b c d e f g h i j k l m n o p q r s t u v w x y z:Nat}
theorem q0:a<=b+ (a - b):=ai [a,b,(a - b)] [(x0,x2+x1)] 1 x0 (x1+x2) rfl (eI (bb (a - b)))
theorem q1 (h0:a+64<b):a+1<b:=ai [a,b] [(x0+64+1,x1)] 1 (x0+1+1) x1 rfl h0
theorem q2:0≠1+a:=dx (ai [a] [] 1 (0+1) (1+x0) rfl)
theorem q3 (h0:a<=2^21+1):a<4194304:=ai [a] [(x0,(LX.n ((2^21)))+1)] 1 (x0+1) 4194304 rfl h0
theorem q4 (h0:a<1):a=0:=cg (ai [a] [(x0+1,1)] 1 x0 0 rfl h0) (ai [a] [] 1 0 x0 rfl)
theorem q5 (h0:a<=3):a+1<4194304:=ai [a] [(x0,3)] 1 (x0+1+1) 4194304 rfl h0
theorem q6 (h0:b<a):a - (b+1)<a - b:=ai [b,a,(a - (b+1)),(a - b)] [(x1,x3+x0),(x2+(x0+1),x1)] 1 (x2+1) x3 rfl (eI (bb (a - b))) (aK (eH h0))
theorem q7 (h0:a<b):a+1<b+1:=ai [a,b] [(x0+1,x1)] 1 (x0+1+1) (x1+1) rfl h0
theorem q8 (h0:a<b):a<b+1:=ai [a,b] [(x0+1,x1)] 1 (x0+1) (x1+1) rfl h0
theorem q9:1+a+1≠1+a+2:=dx (ai [a] [] 1 (1+x0+1+1) (1+x0+2) rfl)
theorem HJ:0≠1+a+1:=dx (ai [a] [] 1 (0+1) (1+x0+1) rfl)
theorem HK:0≠1+a+2:=dx (ai [a] [] 1 (0+1) (1+x0+2) rfl)
theorem HL (h0:a<=2^21+1):a - 0<2^22:=ai [a,(a - 0)] [(x0,(LX.n ((2^21)))+1),(x1,x0)] 1 (x1+1) (LX.n ((2^22))) rfl h0 (jA a 0)
theorem HM (h0:0<a):a=a - 1+1:=cg (ai [a,(a - 1)] [(x0,x1+1)] 1 x0 (x1+1) rfl (eI (bb (a - 1)))) (aK (eH (ai [a,(a - 1)] [(0+1,x0)] 1 1 x0 rfl h0)))
theorem HN (h0:a<=b):a+ (b - a)=b:=cg (ai [a,b,(b - a)] [(x2+x0,x1)] 1 (x0+x2) x1 rfl (aK (eH h0))) (ai [a,b,(b - a)] [(x1,x2+x0)] 1 x1 (x0+x2) rfl (eI (bb (b - a))))
theorem HO (h0:a+64<d)(D:b<=4):a+1+min b c<d:=ai [a,d,b,(min b c),c] [(x0+64+1,x1),(x2,4),(x3,x2)] 1 (x0+1+x3+1) x1 rfl h0 D (lL b c)
theorem HP (h0:a+ (c+1)=b):a<b:=ai [a,c,b] [(x0+(x1+1),x2)] 1 (x0+1) x2 rfl (aK h0)
theorem HQ (h0:a+ (b+1)=c):a+1+b=c:=cg (ai [a,b,c] [(x0+(x1+1),x2)] 1 (x0+1+x1) x2 rfl (aK h0)) (ai [a,b,c] [(x2,x0+(x1+1))] 1 x2 (x0+1+x1) rfl (aK h0.symm))
theorem HR (h0:a+64<d)(D:b<=4):a+min b c<d:=ai [a,d,b,(min b c),c] [(x0+64+1,x1),(x2,4),(x3,x2)] 1 (x0+x3+1) x1 rfl h0 D (lL b c)
theorem HS (h0:a<=3):a+2<4194304:=ai [a] [(x0,3)] 1 (x0+2+1) 4194304 rfl h0
theorem HU (h0:b<c - a):a+b<c:=ai [b,(c - a),c,a] [(x0+1,x1),(x1+x3,x2)] 1 (x3+x0+1) x2 rfl h0 (qn (ai [b,(c - a),c,a] [(x0+1,x1)] 1 1 x1 rfl h0))
theorem HV (h0:a=b.succ):a<=b+1:=ai [a,b] [(x0,x1+1)] 1 x0 (x1+1) rfl (aK h0)
theorem HW (h0:b+max 0 c<=c+a)(D:a<=b):a=b:=cg D (ai [b,(max 0 c),c,a] [(x2,x1),(x0+x1,x2+x3)] 1 x0 x3 rfl (HX 0 c) h0)
theorem HY (h0:a<b)(D:b+1<=a):False:=(jB 0 (ai [a,b] [(x0+1,x1),(x1+1,x0)] 0 1 0 rfl h0 D)).elim
theorem HZ (h0:a<b)(D:a=b):False:=(jB 0 (ai [a,b] [(x0+1,x1),(x1,x0)] 0 1 0 rfl h0 (aK D.symm))).elim
theorem H0 {A:Prop}(h0:a<=10)(D:c<=4/\A)(G:b<=11*c):a+ (0+1+1+1)+b<4194304:=ai [a,c,b] [(x0,10),(.m 11 x1,.m 11 4),(x2,(LX.m 11 x1))] 1 (x0+(0+1+1+1)+x2+1) 4194304 rfl h0 (gk 11 D.1) G
theorem H2 (h0:a+80<b):a+64<b:=ai [a,b] [(x0+80+1,x1)] 1 (x0+64+1) x1 rfl h0
theorem H3 (h0:a=b+2+b):0<a:=ai [a,b] [(x1+2+x1,x0)] 1 (0+1) x0 rfl (aK h0.symm)
theorem H4 (h0:b<=3)(D:a=b+2+b):a<1000:=ai [b,a] [(.m 2 x0,.m 2 3),(x1,x0+2+x0)] 1 (x1+1) 1000 rfl (gk 2 h0) (aK D)
theorem H5 (h0:a<b+1 - b):a=0:=cg (ai [a,((b+1) - b),b] [(x0+1,x1),(x1+x2,x2+1)] 1 x0 0 rfl h0 (aK (eH (ai [a,((b+1) - b),b] [] 1 x2 (x2+1) rfl)))) (ai [a,((b+1) - b),b] [] 1 0 x0 rfl)
theorem H6:a<a+1:=ai [a] [] 1 (x0+1) (x0+1) rfl
theorem H7 (h0:a<b):a+1<2*b+1/\b<2*b+1:=⟨(ai [a,b] [(x0+1,x1)] 1 (x0+1+1) ((LX.m 2 x1)+1) rfl h0),(ai [a,b] [] 1 (x1+1) ((LX.m 2 x1)+1) rfl)⟩
theorem Q0 (h0:b<=c - (a+1))(D:b>0):a+1+b<=c:=ai [b,(c - (a+1)),c,a] [(x0,x1),(x1+(x3+1),x2)] 1 (x3+1+x0) x2 rfl h0 (qn (ai [b,(c - (a+1)),c,a] [(x0,x1),(0+1,x0)] 1 1 x1 rfl h0 D))
theorem Q3 {A B C:Prop}:a<0->A->B->C:=λD=>(λG=>(λH=>(jB 0 (ai [a] [(x0+1,0)] 0 1 0 rfl D)).elim))
theorem Q4 (h0:a<b+1)(D:a >= b):a=b:=cg (ai [a,b] [(x0+1,x1+1)] 1 x0 x1 rfl h0) D
theorem Q5 (h0:a<=6):1+a<4194304:=ai [a] [(x0,6)] 1 (1+x0+1) 4194304 rfl h0
theorem Q6:a+1+1=1+a+1:=cg (ai [a] [] 1 (x0+1+1) (1+x0+1) rfl) (ai [a] [] 1 (1+x0+1) (x0+1+1) rfl)
theorem Q7 (h0:c<=a/\a<b):1+a≠1+b+1:=dx (ai [c,a,b] [(x1+1,x2)] 1 (1+x1+1) (1+x2+1) rfl h0.2)
theorem Q8 (h0:c<=a/\a<b):1+a≠1+b+2:=dx (ai [c,a,b] [(x1+1,x2)] 1 (1+x1+1) (1+x2+2) rfl h0.2)
theorem Q9 (h0:b<=3)(D:a<=28):a+ (b+1)<4194304:=ai [b,a] [(x0,3),(x1,28)] 1 (x1+(x0+1)+1) 4194304 rfl h0 D
theorem Q_ {A:Prop}(h0:a<b/\A):1+a≠1+b+1:=dx (ai [a,b] [(x0+1,x1)] 1 (1+x0+1) (1+x1+1) rfl h0.1)
theorem Ra {A:Prop}(h0:a<b/\A):1+a≠1+b+2:=dx (ai [a,b] [(x0+1,x1)] 1 (1+x0+1) (1+x1+2) rfl h0.1)
theorem Rb (h0:b<a):1+a≠1+b:=fO (ai [b,a] [(x0+1,x1)] 1 (1+x0+1) (1+x1) rfl h0)
theorem Rd:1+a≠1+a+1:=dx (ai [a] [] 1 (1+x0+1) (1+x0+1) rfl)
theorem Rf:1+a≠1+a+2:=dx (ai [a] [] 1 (1+x0+1) (1+x0+2) rfl)
theorem Rg (h0:c+d+e<=b)(D:a+1<c+d):a<b:=ai [c,d,e,b,a] [(x0+x1+x2,x3),(x4+1+1,x0+x1)] 1 (x4+1) x3 rfl h0 D
theorem Rh (h0:c+d+e<=b)(D:a+1<c+d):a+1<b:=ai [c,d,e,b,a] [(x0+x1+x2,x3),(x4+1+1,x0+x1)] 1 (x4+1+1) x3 rfl h0 D
theorem Ri (h0:1<=c)(D:a+c<=b):a<=b:=ai [c,a,b] [(1,x0),(x1+x0,x2)] 1 x1 x2 rfl h0 D
theorem Rj (h0:c<=d)(D:e<c - d):a<=b:=ai [c,d,e,(c - d),a,b] [(x2+1,x3),(x3,0)] 0 x4 x5 rfl D (aK (H8 h0))
theorem Rk (h0:a+64<b):a<b:=ai [a,b] [(x0+64+1,x1)] 1 (x0+1) x1 rfl h0
theorem Rl:0<a*16+ (b+1):=ai [a,b] [] 1 (0+1) ((LX.r x0 16)+(x1+1)) rfl
theorem Ro (h0:a<1000):a+1<4194304:=ai [a] [(x0+1,1000)] 1 (x0+1+1) 4194304 rfl h0
theorem Rp (h0:b<c):a*16+ (b+1)<=a*16+ (c+1):=ai [b,c,a] [(x0+1,x1)] 1 ((LX.r x2 16)+(x0+1)) ((LX.r x2 16)+(x1+1)) rfl h0
theorem Rq (h0:a.succ+b+c+3<=d+e):a+b+ (c+1)+3<=d+e:=ai [a,b,c,d,e] [(x0+1+x1+x2+3,x3+x4)] 1 (x0+x1+(x2+1)+3) (x3+x4) rfl h0
theorem Rr (h0:a+b.succ+c+3<=d+e):a+b+ (c+1)+3<=d+e:=ai [a,b,c,d,e] [(x0+(x1+1)+x2+3,x3+x4)] 1 (x0+x1+(x2+1)+3) (x3+x4) rfl h0
theorem Rt {A:Prop}(h0:a=b)(D:a<b):A:=(jB 0 (ai [a,b] [(x1,x0),(x0+1,x1)] 0 1 0 rfl (aK h0.symm) D)).elim
theorem Ru {A:Prop}(h0:a=b)(D:b<a):A:=(jB 0 (ai [a,b] [(x0,x1),(x1+1,x0)] 0 1 0 rfl (aK h0) D)).elim
theorem Rv {A:Prop}(h0:a<a):A:=(jB 0 (ai [a] [(x0+1,x0)] 0 1 0 rfl h0)).elim
theorem Rw {A:Prop}(h0:a<b)(D:b<a):A:=(jB 0 (ai [a,b] [(x0+1,x1),(x1+1,x0)] 0 1 0 rfl h0 D)).elim
theorem Rx (h0:0<a):a - 1<a:=aK (eH (ai [a,(a - 1)] [(0+1,x0)] 1 1 x0 rfl h0))
theorem Ry (h0:a+16<b):a<b:=ai [a,b] [(x0+16+1,x1)] 1 (x0+1) x1 rfl h0
theorem Rz (h0:b=a+c):a<=b:=ai [b,a,c] [(x1+x2,x0)] 1 x1 x0 rfl (aK h0.symm)
theorem RB (h0:b=a)(D:¬b<2):1<=a:=ai [b,a] [(x0,x1),(2,x0)] 1 1 x1 rfl (aK h0) (fB D)
theorem RC (h0:b+0=a):a<=b:=ai [b,a] [(x1,x0+0)] 1 x1 x0 rfl (aK h0.symm)
theorem RD (h0:a+ (c+1)<b):a<b:=ai [a,c,b] [(x0+(x1+1)+1,x2)] 1 (x0+1) x2 rfl h0
theorem RE (h0:d+ (b+1)<c)(D:a<=d+1):a+b<c:=ai [d,b,c,a] [(x0+(x1+1)+1,x2),(x3,x0+1)] 1 (x3+x1+1) x2 rfl h0 D
theorem RF (h0:a+1<c)(D:c=b+1):a<b:=ai [a,c,b] [(x0+1+1,x1),(x1,x2+1)] 1 (x0+1) x2 rfl h0 (aK D)
theorem RG (h0:3<=c)(D:c<a/\a<b):a<b/\a≠0/\a≠1/\a≠c:=⟨D.2,⟨(fO (ai [c,a,b] [(3,x0),(x0+1,x1)] 1 (0+1) x1 rfl h0 D.1)),⟨(fO (ai [c,a,b] [(3,x0),(x0+1,x1)] 1 (1+1) x1 rfl h0 D.1)),(fO D.1)⟩⟩⟩
theorem RH (h0:c<d/\d<b)(D:1<a/\a<c):a<b/\a≠0/\a≠1/\a≠c:=⟨(dq (dq D.2 h0.1) h0.2),⟨(fO (ai [c,d,b,a] [(1+1,x3)] 1 (0+1) x3 rfl D.1)),⟨(fO D.1),(dx D.2)⟩⟩⟩
theorem RJ (h0:a=b+1)(D:b<=6):a<=7:=ai [a,b] [(x0,x1+1),(x1,6)] 1 x0 7 rfl (aK h0) D
theorem RK (h0:a<d)(D:b<a)(G:d=b+1+c):a - b - 1<c:=ai [a,d,b,c,((a - b) - 1),(a - b)] [(x0+1,x1),(x1,x2+1+x3),(x5+x2,x0),(x4+1,x5)] 1 (x4+1) x3 rfl h0 (aK G) (aK (eH (bX D))) (aK (eH (ai [a,d,b,c,((a - b) - 1),(a - b)] [(x2+1,x0),(x0,x5+x2)] 1 1 x5 rfl D (eI (bb (a - b))))))
theorem RL (h0:c=d+1)(D:a - b - 1<d):a - b - 1+1<c:=ai [c,d,((a - b) - 1),(a - b),a,b] [(x1+1,x0),(x2+1,x1)] 1 (x2+1+1) x0 rfl (aK h0.symm) D
theorem RM (h0:a<b):a+1+ (b - a - 1)=b:=cg (ai [a,b,((b - a) - 1),(b - a)] [(x3+x0,x1),(x2+1,x3)] 1 (x0+1+x2) x1 rfl (aK (eH (bX h0))) (aK (eH (ai [a,b,((b - a) - 1),(b - a)] [(x0+1,x1),(x1,x3+x0)] 1 1 x3 rfl h0 (eI (bb (b - a))))))) (ai [a,b,((b - a) - 1),(b - a)] [(x1,x3+x0),(x3,x2+1)] 1 x1 (x0+1+x2) rfl (eI (bb (b - a))) (eI (bb ((b - a) - 1))))
theorem RN (h0:a - b<0+1):a - b=0:=cg (ai [(a - b),a,b] [(x0+1,0+1)] 1 x0 0 rfl h0) (ai [(a - b),a,b] [] 1 0 x0 rfl)
theorem RO (h0:a<=4*c)(D:d<=3)(G:e<=7)(H:c<e)(I:b<=d):a+b<100:=ai [a,c,d,e,b] [(x0,(LX.m 4 x1)),(x2,3),(.m 4 x3,.m 4 7),(.m 4 (x1+1),.m 4 x3),(x4,x2)] 1 (x0+x4+1) 100 rfl h0 D (gk 4 G) (gk 4 H) I
theorem RP (h0:a<=1000):a - 0<2^22:=ai [a,(a - 0)] [(x0,1000),(x1,x0)] 1 (x1+1) (LX.n ((2^22))) rfl h0 (jA a 0)
theorem RQ (h0:b+1<=a):a - (b+1)<a:=ai [b,a,(a - (b+1))] [(x2+(x0+1),x1)] 1 (x2+1) x1 rfl (aK (eH h0))
theorem RR (h0:b+1<=a):a - b=a - (b+1)+1:=cg (ai [b,a,(a - b),(a - (b+1))] [(x1,x3+(x0+1)),(x2+x0,x1)] 1 x2 (x3+1) rfl (eI (bb (a - (b+1)))) (aK (eH (bX h0)))) (ai [b,a,(a - b),(a - (b+1))] [(x1,x2+x0),(x3+(x0+1),x1)] 1 (x3+1) x2 rfl (eI (bb (a - b))) (aK (eH h0)))
theorem RT (h0:min a b - c=0):min a b<=c:=ai [((min a b) - c),(min a b),a,b,c] [(x1,x0+x4),(x0,0)] 1 x1 x4 rfl (eI (bb ((min a b) - c))) (aK h0)
theorem RU (h0:min b c - a=d+1):a<b:=ai [((min b c) - a),(min b c),b,c,a,d] [(x1,x2),(x5+1,x0),(x0+x4,x1)] 1 (x4+1) x2 rfl (lL b c) (aK h0.symm) (qn (ai [((min b c) - a),(min b c),b,c,a,d] [(x5+1,x0)] 1 1 x0 rfl (aK h0.symm)))
theorem RW (h0:min c b - a=d+1):a<b:=ai [((min c b) - a),(min c b),c,b,a,d] [(x1,x3),(x5+1,x0),(x0+x4,x1)] 1 (x4+1) x3 rfl (qo c b) (aK h0.symm) (qn (ai [((min c b) - a),(min c b),c,b,a,d] [(x5+1,x0)] 1 1 x0 rfl (aK h0.symm)))
theorem RX (h0:min b c - a=d+1):a<min b c:=ai [((min b c) - a),(min b c),b,c,a,d] [(x5+1,x0),(x0+x4,x1)] 1 (x4+1) x1 rfl (aK h0.symm) (qn (ai [((min b c) - a),(min b c),b,c,a,d] [(x5+1,x0)] 1 1 x0 rfl (aK h0.symm)))
theorem RY (h0:min a b - c=d+1)(D:c<min a b):min a b - (c+1)=d:=cg (ai [((min a b) - c),(min a b),a,b,c,d,((min a b) - (c+1))] [(x1,x0+x4),(x0,x5+1),((LX.v 6)+(x4+1),x1)] 1 (LX.v 6) x5 rfl (eI (bb ((min a b) - c))) (aK h0) (aK (eH D))) (ai [((min a b) - c),(min a b),a,b,c,d,((min a b) - (c+1))] [(x5+1,x0),(x1,(LX.v 6)+(x4+1)),(x0+x4,x1)] 1 x5 (LX.v 6) rfl (aK h0.symm) (eI (bb ((min a b) - (c+1)))) (aK (eH (bX D))))
theorem RZ (h0:a=2*b+3):a≠1:=fO (ai [a,b] [((LX.m 2 x1)+3,x0)] 1 (1+1) x0 rfl (aK h0.symm))
theorem R0 (h0:a=2*b+3):1<a:=ai [a,b] [((LX.m 2 x1)+3,x0)] 1 (1+1) x0 rfl (aK h0.symm)
theorem R1 (h0:a<b):2*a+3≠2*b+3:=dx (ai [a,b] [(.m 2 (x0+1),.m 2 x1)] 1 ((LX.m 2 x0)+3+1) ((LX.m 2 x1)+3) rfl (gk 2 h0))
theorem R2 (h0:a<b):2*a+4≠2*b+4:=dx (ai [a,b] [(.m 2 (x0+1),.m 2 x1)] 1 ((LX.m 2 x0)+4+1) ((LX.m 2 x1)+4) rfl (gk 2 h0))
theorem R3:1≠2*a+3:=dx (ai [a] [] 1 (1+1) ((LX.m 2 x0)+3) rfl)
theorem R4 (h0:a=2*c+3)(D:b<0+c):a≠2*b+3:=fO (ai [a,c,b] [((LX.m 2 x1)+3,x0),(.m 2 (x2+1),.m 2 (0+x1))] 1 ((LX.m 2 x2)+3+1) x0 rfl (aK h0.symm) (gk 2 D))
theorem R5 (h0:b=2*c+3)(D:a<0+c):2*a+3<b:=ai [b,c,a] [((LX.m 2 x1)+3,x0),(.m 2 (x2+1),.m 2 (0+x1))] 1 ((LX.m 2 x2)+3+1) x0 rfl (aK h0.symm) (gk 2 D)
theorem R6:1≠2*a+4:=dx (ai [a] [] 1 (1+1) ((LX.m 2 x0)+4) rfl)
theorem R7 (h0:b=2*c+3)(D:a<0+c):2*a+4<b:=ai [b,c,a] [((LX.m 2 x1)+3,x0),(.m 2 (x2+1),.m 2 (0+x1))] 1 ((LX.m 2 x2)+4+1) x0 rfl (aK h0.symm) (gk 2 D)
theorem R8 (h0:a<b - 1):a<b:=ai [a,(b - 1),b] [(x1,x2),(x0+1,x1)] 1 (x0+1) x2 rfl (jA b 1) h0
theorem R9 (h0:a<b - 1):a+1<b:=ai [a,(b - 1),b] [(x0+1,x1),(x1+1,x2)] 1 (x0+1+1) x2 rfl h0 (aK (eH (ai [a,(b - 1),b] [(x1,x2),(x0+1,x1)] 1 1 x2 rfl (jA b 1) h0)))
theorem R_ (h0:c<b)(D:d<=c)(G:a<d - 1):a<b:=ai [c,b,d,a,(d - 1)] [(x0+1,x1),(x2,x0),(x4,x2),(x3+1,x4)] 1 (x3+1) x1 rfl h0 D (jA d 1) G
theorem Sa (h0:c<b)(D:d<=c)(G:a<d - 1):a+1<b:=ai [c,b,d,a,(d - 1)] [(x0+1,x1),(x2,x0),(x4,x2),(x3+1,x4)] 1 (x3+1+1) x1 rfl h0 D (jA d 1) G
theorem Sb (h0:a<=d+c)(D:d<=b+1):a<=b+ (c+1):=ai [a,d,c,b] [(x0,x1+x2),(x1,x3+1)] 1 x0 (x3+(x2+1)) rfl h0 D
theorem Sd (h0:1<=a):0<a:=ai [a] [(1,x0)] 1 (0+1) x0 rfl h0
theorem Se (h0:a<=5):a+1<4194304:=ai [a] [(x0,5)] 1 (x0+1+1) 4194304 rfl h0
theorem Sf (h0:a<=5)(D:b<=3):a+1+b<4194304:=ai [a,b] [(x0,5),(x1,3)] 1 (x0+1+x1+1) 4194304 rfl h0 D
theorem Sg (h0:3<=a):0<a:=ai [a] [(3,x0)] 1 (0+1) x0 rfl h0
theorem Sh (h0:c<=d+b):a+b+c<=a+b+d+b:=ai [c,d,b,a] [(x0,x1+x2)] 1 (x3+x2+x0) (x3+x2+x1+x2) rfl h0
theorem Si:2*a+1+1=2* (a+1):=cg (ai [a] [] 1 ((LX.m 2 x0)+1+1) ((LX.m 2 (x0+1))) rfl) (ai [a] [] 1 ((LX.m 2 (x0+1))) ((LX.m 2 x0)+1+1) rfl)
theorem Sj (h0:a+2* (c+1)+2<b):a<b:=ai [a,c,b] [(x0+(LX.m 2 (x1+1))+2+1,x2)] 1 (x0+1) x2 rfl h0
theorem Sk (h0:a+2* (c+1)+2<b):a+1<b:=ai [a,c,b] [(x0+(LX.m 2 (x1+1))+2+1,x2)] 1 (x0+1+1) x2 rfl h0
theorem Sl (h0:a+2* (b+1)+2<c):a+1+1+2*b+2<c:=ai [a,b,c] [(x0+(LX.m 2 (x1+1))+2+1,x2)] 1 (x0+1+1+(LX.m 2 x1)+2+1) x2 rfl h0
theorem Sm (h0:a+8* (b+1)+100<c):a+1+3+8*b+100<c:=ai [a,b,c] [(x0+(LX.m 8 (x1+1))+100+1,x2)] 1 (x0+1+3+(LX.m 8 x1)+100+1) x2 rfl h0
theorem Sn (h0:a+8<b):a<b:=ai [a,b] [(x0+8+1,x1)] 1 (x0+1) x1 rfl h0
theorem So:¬a+2<2:=mD (ai [a] [] 1 2 (x0+2) rfl)
theorem Sp (h0:b=(c+1).succ+a):a+1<b:=ai [b,c,a] [(x1+1+1+x2,x0)] 1 (x2+1+1) x0 rfl (aK h0.symm)
theorem Sq (h0:c=(a+1).succ+b):a+ (b+1)+1=c:=cg (ai [c,a,b] [(x1+1+1+x2,x0)] 1 (x1+(x2+1)+1) x0 rfl (aK h0.symm)) (ai [c,a,b] [(x0,x1+1+1+x2)] 1 x0 (x1+(x2+1)+1) rfl (aK h0))
theorem Sr (h0:c=(a+1).succ+b):a+1+b+1=c:=cg (ai [c,a,b] [(x1+1+1+x2,x0)] 1 (x1+1+x2+1) x0 rfl (aK h0.symm)) (ai [c,a,b] [(x0,x1+1+1+x2)] 1 x0 (x1+1+x2+1) rfl (aK h0))
theorem Su (h0:a=b):0+a=b:=cg (ai [a,b] [(x0,x1)] 1 (0+x0) x1 rfl (aK h0)) (ai [a,b] [(x1,x0)] 1 x1 (0+x0) rfl (aK h0.symm))
theorem Sv (h0:a+80<b):a+1+66<b:=ai [a,b] [(x0+80+1,x1)] 1 (x0+1+66+1) x1 rfl h0
theorem Sw:a+b<=a+1+b:=ai [a,b] [] 1 (x0+x1) (x0+1+x1) rfl
theorem Sx (h0:a<=b):a<=b+ (0+1):=ai [a,b] [(x0,x1)] 1 x0 (x1+(0+1)) rfl h0
theorem Sy (h0:b<=a):a=b+ (a - b):=cg (ai [b,a,(a - b)] [(x1,x2+x0)] 1 x1 (x0+x2) rfl (eI (bb (a - b)))) (ai [b,a,(a - b)] [(x2+x0,x1)] 1 (x0+x2) x1 rfl (aK (eH h0)))
theorem Sz (h0:b<=4*c)(D:a<=3):a+1+b<=4* (c+1):=ai [b,c,a] [(x0,(LX.m 4 x1)),(x2,3)] 1 (x2+1+x0) ((LX.m 4 (x1+1))) rfl h0 D
theorem SA (h0:a<=b)(D:b<=4*c)(G:c<=7):a<=28:=ai [a,b,c] [(x0,x1),(x1,(LX.m 4 x2)),(.m 4 x2,.m 4 7)] 1 x0 28 rfl h0 D (gk 4 G)
theorem SD (h0:a=a+1):False:=(jB 0 (ai [a] [(x0+1,x0)] 0 1 0 rfl (aK h0.symm))).elim
theorem SE (h0:a+2* (b+1)+2<c):a+1+2*b+2<c:=ai [a,b,c] [(x0+(LX.m 2 (x1+1))+2+1,x2)] 1 (x0+1+(LX.m 2 x1)+2+1) x2 rfl h0
theorem SF (h0:a+8* (b+1)+100<c):a+3+8*b+100<c:=ai [a,b,c] [(x0+(LX.m 8 (x1+1))+100+1,x2)] 1 (x0+3+(LX.m 8 x1)+100+1) x2 rfl h0
theorem SH (h0:b<=3)(D:a<=b):a+1<4194304:=ai [b,a] [(x0,3),(x1,x0)] 1 (x1+1+1) 4194304 rfl h0 D
theorem SI (h0:b<=3)(D:a<=b):a+2<4194304:=ai [b,a] [(x0,3),(x1,x0)] 1 (x1+2+1) 4194304 rfl h0 D
theorem SJ {A:Prop}(h0:a=b.succ.succ)(D:c=d.succ.succ)(G:e+f+max 0 (b.succ.succ+d.succ.succ)+3<=a+c):A:=(jB 0 (ai [a,b,c,d,e,f,(max 0 (((b+1)+1)+ ((d+1)+1)))] [(x0,x1+1+1),(x2,x3+1+1),(x1+1+1+(x3+1+1),(LX.v 6)),(x4+x5+(LX.v 6)+3,x0+x2)] 0 1 0 rfl (aK h0) (aK D) (HX 0 (((b+1)+1)+ ((d+1)+1))) G)).elim
theorem SK (h0:b=a.succ.succ):a<b:=ai [b,a] [(x1+1+1,x0)] 1 (x1+1) x0 rfl (aK h0.symm)
theorem SM (h0:b=a.succ.succ):a+1<b:=ai [b,a] [(x1+1+1,x0)] 1 (x1+1+1) x0 rfl (aK h0.symm)
theorem SN (h0:c=a.succ.succ)(D:d=b.succ.succ):a+b+0+3<=c+d:=ai [c,a,d,b] [(x1+1+1,x0),(x3+1+1,x2)] 1 (x1+x3+0+3) (x0+x2) rfl (aK h0.symm) (aK D.symm)
theorem SO (h0:a+8<d)(D:b<=4):a+min b c<d:=ai [a,d,b,(min b c),c] [(x0+8+1,x1),(x2,4),(x3,x2)] 1 (x0+x3+1) x1 rfl h0 D (lL b c)
theorem SP (h0:a<b)(D:b=a):False:=(jB 0 (ai [a,b] [(x0+1,x1),(x1,x0)] 0 1 0 rfl h0 (aK D))).elim
theorem SQ:¬a*16+ (b+1)<=0:=BV (ai [a,b] [] 1 (0+1) ((LX.r x0 16)+(x1+1)) rfl)
theorem SR (h0:a+c+d<=b):min a b=a:=cg (ai [a,c,d,b,(min a b)] [(x4,x0)] 1 x4 x0 rfl (lL a b)) (rW.2 ⟨(ai [a,c,d,b,(min a b)] [] 1 x0 x0 rfl),(ai [a,c,d,b,(min a b)] [(x0+x1+x2,x3)] 1 x0 x3 rfl h0)⟩)
theorem SU (h0:c+a+d<=b):min a (b - c)=a:=cg (ai [c,a,d,b,(min a (b - c)),(b - c)] [(x4,x1)] 1 x4 x1 rfl (lL a (b - c))) (rW.2 ⟨(ai [c,a,d,b,(min a (b - c)),(b - c)] [] 1 x1 x1 rfl),(ai [c,a,d,b,(min a (b - c)),(b - c)] [(x0+x1+x2,x3),(x3,x5+x0)] 1 x1 x5 rfl h0 (eI (bb (b - c))))⟩)
theorem SW (h0:c+d+a<=b):min a (b - c - d)=a:=cg (ai [c,d,a,b,(min a ((b - c) - d)),((b - c) - d),(b - c)] [(x4,x2)] 1 x4 x2 rfl (lL a ((b - c) - d))) (rW.2 ⟨(ai [c,d,a,b,(min a ((b - c) - d)),((b - c) - d),(b - c)] [] 1 x2 x2 rfl),(ai [c,d,a,b,(min a ((b - c) - d)),((b - c) - d),(b - c)] [(x0+x1+x2,x3),(x3,(LX.v 6)+x0),((LX.v 6),x5+x1)] 1 x2 x5 rfl h0 (eI (bb (b - c))) (eI (bb ((b - c) - d))))⟩)
theorem SX (h0:a+b<1000):a+b<4194304:=ai [a,b] [(x0+x1+1,1000)] 1 (x0+x1+1) 4194304 rfl h0
theorem SY {A:Prop}(h0:a >= b)(D:a<b):A:=(jB 0 (ai [b,a] [(x0,x1),(x1+1,x0)] 0 1 0 rfl h0 D)).elim
theorem S2 (h0:a.succ+b+c+3<=d+e):a+b+c+3<=d+e:=ai [a,b,c,d,e] [(x0+1+x1+x2+3,x3+x4)] 1 (x0+x1+x2+3) (x3+x4) rfl h0
theorem S3 (h0:a=c+1+d)(D:d<=4*b)(G:c<=3):a<=4* (b+1):=ai [a,c,d,b] [(x0,x1+1+x2),(x2,(LX.m 4 x3)),(x1,3)] 1 x0 ((LX.m 4 (x3+1))) rfl (aK h0) D G
theorem S4 (h0:c<b):a+b≠a+c:=fO (ai [c,b,a] [(x0+1,x1)] 1 (x2+x0+1) (x2+x1) rfl h0)
theorem S5 (h0:a<=10)(D:b<=11* (c+1)):a+1+b<=11* (c+1+1):=ai [a,b,c] [(x0,10),(x1,(LX.m 11 (x2+1)))] 1 (x0+1+x1) ((LX.m 11 (x2+1+1))) rfl h0 D
theorem S6 (h0:a<=820)(D:c<=9)(G:d<c)(H:b<=d):a+b<4194304:=ai [a,c,d,b] [(x0,820),(x1,9),(x2+1,x1),(x3,x2)] 1 (x0+x3+1) 4194304 rfl h0 D G H
theorem S7 (h0:a<=6)(D:b<=3):a+b<1000:=ai [a,b] [(x0,6),(x1,3)] 1 (x0+x1+1) 1000 rfl h0 D
theorem S8 (h0:a<=6)(D:b<=3):a+b<=9:=ai [a,b] [(x0,6),(x1,3)] 1 (x0+x1) 9 rfl h0 D
theorem S9 (h0:a<=6)(D:b<=3):a+b<2^22:=ai [a,b] [(x0,6),(x1,3)] 1 (x0+x1+1) (LX.n ((2^22))) rfl h0 D
theorem S' (h0:b+c<=d+a)(D:¬a >= b):a<=(a+b) /2/\(a+b) /2<b/\(a+b) /2+ (c+1)<=d+a/\b+ (c+1)<=d+ (a+b) /2+1:=⟨(ai [c,d,b,a,((a+b) /2)] [(x3+1,x2),(x3+x2+1,(LX.m 2 (x4+1)))] 2 x3 x4 rfl (iR D) (S_ (a+b) (by decide))),⟨(ai [c,d,b,a,((a+b) /2)] [(x3+1,x2),((LX.m 2 x4),x3+x2)] 2 (x4+1) x2 rfl (iR D) (H9 (a+b) 2)),⟨(ai [c,d,b,a,((a+b) /2)] [(.m 2 (x2+x0),.m 2 (x1+x3)),(x3+1,x2),((LX.m 2 x4),x3+x2)] 2 (x4+(x0+1)) (x1+x3) rfl (gk 2 h0) (iR D) (H9 (a+b) 2)),(ai [c,d,b,a,((a+b) /2)] [(.m 2 (x2+x0),.m 2 (x1+x3)),(x3+1,x2),(x3+x2+1,(LX.m 2 (x4+1)))] 2 (x2+(x0+1)) (x1+x4+1) rfl (gk 2 h0) (iR D) (S_ (a+b) (by decide)))⟩⟩⟩
theorem Ta (h0:a<=c+b)(D:b<=a):a - b+ (c+b - a)=c:=cg (ai [a,c,b,(a - b),((c+b) - a)] [(x3+x2,x0),(x4+x0,x1+x2)] 1 (x3+x4) x1 rfl (aK (eH D)) (aK (eH (ai [a,c,b,(a - b),((c+b) - a)] [(x0,x1+x2)] 1 x0 (x1+x2) rfl h0)))) (ai [a,c,b,(a - b),((c+b) - a)] [(x0,x3+x2),(x1+x2,x4+x0)] 1 x1 (x3+x4) rfl (eI (bb (a - b))) (eI (bb ((c+b) - a))))
theorem Tb (h0:b<=c - a)(D:b>0):a+b<=c:=ai [b,(c - a),c,a] [(x0,x1),(x1+x3,x2)] 1 (x3+x0) x2 rfl h0 (qn (ai [b,(c - a),c,a] [(x0,x1),(0+1,x0)] 1 1 x1 rfl h0 D))
theorem Tc (h0:b+1=a):a - 1=b:=cg (ai [b,a,(a - 1)] [(x1,x0+1),(x2+1,x1)] 1 x2 x0 rfl (aK h0.symm) (aK (eH (ai [b,a,(a - 1)] [(x0+1,x1)] 1 1 x1 rfl (aK h0))))) (ai [b,a,(a - 1)] [(x0+1,x1),(x1,x2+1)] 1 x0 x2 rfl (aK h0) (eI (bb (a - 1))))
theorem Td (h0:b<=7)(D:c<b)(G:a<=c):a+1<4194304:=ai [b,c,a] [(x0,7),(x1+1,x0),(x2,x1)] 1 (x2+1+1) 4194304 rfl h0 D G
theorem Te (h0:a<=c+1)(D:c<=b):a<=b+1:=ai [a,c,b] [(x0,x1+1),(x1,x2)] 1 x0 (x2+1) rfl h0 D
theorem Tf (h0:a<=c/\c<b):a<=a+b - 1 - c/\a+b - 1 - c<b:=⟨(ai [a,c,b,(((a+b) - 1) - c),((a+b) - 1)] [(x1+1,x2),(x0+x2,x4+1),(x4,x3+x1)] 1 x0 x3 rfl h0.2 (eI (bb ((a+b) - 1))) (eI (bb (((a+b) - 1) - c)))),(ai [a,c,b,(((a+b) - 1) - c),((a+b) - 1)] [(x0,x1),(x4+1,x0+x2),(x3+x1,x4)] 1 (x3+1) x2 rfl h0.1 (aK (eH (ai [a,c,b,(((a+b) - 1) - c),((a+b) - 1)] [(x1+1,x2)] 1 1 (x0+x2) rfl h0.2))) (aK (eH (ai [a,c,b,(((a+b) - 1) - c),((a+b) - 1)] [(x1+1,x2),(x0+x2,x4+1)] 1 x1 x4 rfl h0.2 (eI (bb ((a+b) - 1)))))))⟩
theorem Tg (h0:a+c+1=b):a<b:=ai [a,c,b] [(x0+x1+1,x2)] 1 (x0+1) x2 rfl (aK h0)
theorem Th (h0:c+d+1=b):a+ (a+b) - 1 - (a+c)=a+d:=cg (ai [c,d,b,(((a+ (a+b)) - 1) - (a+c)),((a+ (a+b)) - 1),a] [(x2,x0+x1+1),(x4+1,x5+(x5+x2)),(x3+(x5+x0),x4)] 1 x3 (x5+x1) rfl (aK h0.symm) (aK (eH (ai [c,d,b,(((a+ (a+b)) - 1) - (a+c)),((a+ (a+b)) - 1),a] [(x0+x1+1,x2)] 1 1 (x5+(x5+x2)) rfl (aK h0)))) (aK (eH (ai [c,d,b,(((a+ (a+b)) - 1) - (a+c)),((a+ (a+b)) - 1),a] [(x0+x1+1,x2),(x5+(x5+x2),x4+1)] 1 (x5+x0) x4 rfl (aK h0) (eI (bb ((a+ (a+b)) - 1))))))) (ai [c,d,b,(((a+ (a+b)) - 1) - (a+c)),((a+ (a+b)) - 1),a] [(x0+x1+1,x2),(x5+(x5+x2),x4+1),(x4,x3+(x5+x0))] 1 (x5+x1) x3 rfl (aK h0) (eI (bb ((a+ (a+b)) - 1))) (eI (bb (((a+ (a+b)) - 1) - (a+c)))))
theorem Ti (h0:a<=1000000):a+7 - 0<2^22:=ai [a,((a+7) - 0)] [(x0,1000000),(x1,x0+7)] 1 (x1+1) (LX.n ((2^22))) rfl h0 (jA (a+7) 0)
theorem Tj (h0:b<=1000000)(D:a<=b+14):a<4194304:=ai [b,a] [(x0,1000000),(x1,x0+14)] 1 (x1+1) 4194304 rfl h0 D
theorem Tn (h0:a<=b+7):a<=b+14:=ai [a,b] [(x0,x1+7)] 1 x0 (x1+14) rfl h0
theorem To (h0:d<=b+c)(D:a<=d+1):a<=b+ (c+1):=ai [d,b,c,a] [(x0,x1+x2),(x3,x0+1)] 1 x3 (x1+(x2+1)) rfl h0 D
theorem Tp (h0:c<=b+7)(D:a<=c+d)(G:d<=7):a<=b+14:=ai [c,b,a,d] [(x0,x1+7),(x2,x0+x3),(x3,7)] 1 x2 (x1+14) rfl h0 D G
theorem Tq (h0:c<=a)(D:b<c):a+7 - (b+1)<a+7 - b:=ai [c,a,b,((a+7) - (b+1)),((a+7) - b)] [(x1+7,x4+x2),(x3+(x2+1),x1+7)] 1 (x3+1) x4 rfl (eI (bb ((a+7) - b))) (aK (eH (ai [c,a,b,((a+7) - (b+1)),((a+7) - b)] [(x0,x1),(x2+1,x0)] 1 (x2+1) (x1+7) rfl h0 D)))
theorem Ts (h0:a<=b):a<=b+7:=ai [a,b] [(x0,x1)] 1 x0 (x1+7) rfl h0
theorem Tt (h0:b<a):¬a+1<=b:=BV (ai [b,a] [(x0+1,x1)] 1 (x0+1) (x1+1) rfl h0)
theorem Tu (h0:a+1<=a):False:=(jB 0 (ai [a] [(x0+1,x0)] 0 1 0 rfl h0)).elim
theorem Tv (h0:a<b)(D:a=b+1):False:=(jB 0 (ai [a,b] [(x0+1,x1),(x1+1,x0)] 0 1 0 rfl h0 (aK D.symm))).elim
theorem Tw:a+1≠a:=fO (ai [a] [] 1 (x0+1) (x0+1) rfl)
theorem Tx:a≠a+1:=dx (ai [a] [] 1 (x0+1) (x0+1) rfl)
theorem Tz (h0:a+1<a):False:=(jB 0 (ai [a] [(x0+1+1,x0)] 0 1 0 rfl h0)).elim
theorem TA {A:Prop}(h0:a+1<b)(D:c<d)(G:max 0 (b+d)+1<=a+c):A:=(jB 0 (ai [a,b,c,d,(max 0 (b+d))] [(x0+1+1,x1),(x2+1,x3),(x1+x3,x4),(x4+1,x0+x2)] 0 1 0 rfl h0 D (HX 0 (b+d)) G)).elim
theorem TB (h0:b<a+1):a+1=b+1+ (a - b):=cg (ai [b,a,(a - b)] [(x1,x2+x0)] 1 (x1+1) (x0+1+x2) rfl (eI (bb (a - b)))) (ai [b,a,(a - b)] [(x2+x0,x1)] 1 (x0+1+x2) (x1+1) rfl (aK (eH (ai [b,a,(a - b)] [(x0+1,x1+1)] 1 x0 x1 rfl h0))))
theorem TC:a+b<=a+ (b+c+d):=ai [a,b,c,d] [] 1 (x0+x1) (x0+(x1+x2+x3)) rfl
theorem TF (h0:a<=b+1)(D:a >= b+1):a=b+1:=cg (ai [a,b] [(x0,x1+1)] 1 x0 (x1+1) rfl h0) D
theorem TG (h0:a<=28):a+1<4194304:=ai [a] [(x0,28)] 1 (x0+1+1) 4194304 rfl h0
theorem TH:a+1+b=a+ (b+1):=cg (ai [a,b] [] 1 (x0+1+x1) (x0+(x1+1)) rfl) (ai [a,b] [] 1 (x0+(x1+1)) (x0+1+x1) rfl)
theorem TJ (h0:a=0+b):a=b:=cg (ai [a,b] [(x0,0+x1)] 1 x0 x1 rfl (aK h0)) (ai [a,b] [(0+x1,x0)] 1 x1 x0 rfl (aK h0.symm))
theorem TK:a=0+a:=cg (ai [a] [] 1 x0 (0+x0) rfl) (ai [a] [] 1 (0+x0) x0 rfl)
theorem TL (h0:e<=d)(D:a+b+c+f<=e):a+b+c<=d:=ai [e,d,a,b,c,f] [(x0,x1),(x2+x3+x4+x5,x0)] 1 (x2+x3+x4) x1 rfl h0 D
theorem TM (h0:a+b+c<=d):a+ (b+c)<=d:=ai [a,b,c,d] [(x0+x1+x2,x3)] 1 (x0+(x1+x2)) x3 rfl h0
theorem TN:a+ (b+1)+1=a+ (b+1+1):=cg (ai [a,b] [] 1 (x0+(x1+1)+1) (x0+(x1+1+1)) rfl) (ai [a,b] [] 1 (x0+(x1+1+1)) (x0+(x1+1)+1) rfl)
theorem TO (h0:a+b+c+e<=f)(D:f<=d):a+ (b+c)<=d:=ai [a,b,c,e,f,d] [(x0+x1+x2+x3,x4),(x4,x5)] 1 (x0+(x1+x2)) x5 rfl h0 D
theorem TP (h0:27<=a):¬a<=6:=BV (ai [a] [(27,x0)] 1 (6+1) x0 rfl h0)
theorem TR (h0:a<c)(D:b<16):a*16+ (b+1)<c*16+ (d+1):=ai [a,c,b,d] [(.m 16 (x0+1),.m 16 x1),(x2+1,16)] 1 ((LX.r x0 16)+(x2+1)+1) ((LX.r x1 16)+(x3+1)) rfl (gk 16 h0) D
theorem TS (h0:a=b):a<b+1:=ai [a,b] [(x0,x1)] 1 (x0+1) (x1+1) rfl (aK h0)
theorem TU (h0:a<b)(D:b<a):False:=(jB 0 (ai [a,b] [(x0+1,x1),(x1+1,x0)] 0 1 0 rfl h0 D)).elim
theorem TX (h0:b<=c)(D:a<=4*b)(G:c<=7):a<=28:=ai [b,c,a] [(.m 4 x0,.m 4 x1),(x2,(LX.m 4 x0)),(.m 4 x1,.m 4 7)] 1 x2 28 rfl (gk 4 h0) D (gk 4 G)
theorem TY (h0:a+8*c+100<b):a+80<b:=ai [a,c,b] [(x0+(LX.m 8 x1)+100+1,x2)] 1 (x0+80+1) x2 rfl h0
theorem TZ (h0:a<=3):0<6 - a:=ai [a,(6 - a)] [(x0,3),(6,x1+x0)] 1 (0+1) x1 rfl h0 (eI (bb (6 - a)))
theorem T3:6 - a<1000:=ai [a,(6 - a)] [(x1,6)] 1 (x1+1) 1000 rfl (jA 6 a)
theorem T4 (h0:a<6 - b):1+a<4194304:=ai [b,a,(6 - b)] [(x2,6),(x1+1,x2)] 1 (1+x1+1) 4194304 rfl (jA 6 b) h0
theorem T5 (h0:1<=b)(D:a=b):0<a:=ai [b,a] [(1,x0),(x0,x1)] 1 (0+1) x1 rfl h0 (aK D.symm)
theorem T6 (h0:a<=3):a+2+a<4194304:=ai [a] [(.m 2 x0,.m 2 3)] 1 (x0+2+x0+1) 4194304 rfl (gk 2 h0)
theorem T7 (h0:a=c)(D:d<6 - c)(G:e<1+d)(H:b=e):a+b<1000:=ai [a,c,d,(6 - c),e,b] [(x0,x1),(x2+1,x3),(x4+1,1+x2),(x5,x4),(x3+x1,6)] 1 (x0+x5+1) 1000 rfl (aK h0) D G (aK H) (qn (ai [a,c,d,(6 - c),e,b] [(x2+1,x3)] 1 1 x3 rfl D))
theorem T8 (h0:a=c)(D:d<6 - c)(G:b=1+d):a+b<=6:=ai [a,c,d,(6 - c),b] [(x0,x1),(x2+1,x3),(x4,1+x2),(x3+x1,6)] 1 (x0+x4) 6 rfl (aK h0) D (aK G) (qn (ai [a,c,d,(6 - c),b] [(x2+1,x3)] 1 1 x3 rfl D))
theorem T9 (h0:a<=10):a+ (0+1+1+1)<4194304:=ai [a] [(x0,10)] 1 (x0+(0+1+1+1)+1) 4194304 rfl h0
theorem T_ {A:Prop}(h0:b<=4/\A)(D:a<=11*b):a<4194304:=ai [b,a] [(.m 11 x0,.m 11 4),(x1,(LX.m 11 x0))] 1 (x1+1) 4194304 rfl (gk 11 h0.1) D
theorem Ua (h0:f+b+c+3<=d+e)(D:a.succ<=f+1):a+b+c+3<=d+e:=ai [f,b,c,d,e,a] [(x0+x1+x2+3,x3+x4),(x5+1,x0+1)] 1 (x5+x1+x2+3) (x3+x4) rfl h0 D
theorem Ub:821 - 0<2^22:=ai [(821 - 0)] [(x0,821)] 1 (x0+1) (LX.n ((2^22))) rfl (jA 821 0)
theorem Uc (h0:b<=c):min a b<=c:=ai [b,c,(min a b),a] [(x0,x1),(x2,x0)] 1 x2 x1 rfl h0 (qo a b)
theorem Ud (h0:b<=d)(D:a+2*d+2<c):a+2*b+2<c:=ai [b,d,a,c] [(.m 2 x0,.m 2 x1),(x2+(LX.m 2 x1)+2+1,x3)] 1 (x2+(LX.m 2 x0)+2+1) x3 rfl (gk 2 h0) D
theorem Ue (h0:b<=d)(D:a+8*d+100<c):a+8*b+100<c:=ai [b,d,a,c] [(.m 8 x0,.m 8 x1),(x2+(LX.m 8 x1)+100+1,x3)] 1 (x2+(LX.m 8 x0)+100+1) x3 rfl (gk 8 h0) D
theorem Ug (h0:a<=c):a*16+ (b+1)<=c*16+ (b+1):=ai [a,c,b] [(.m 16 x0,.m 16 x1)] 1 ((LX.r x0 16)+(x2+1)) ((LX.r x1 16)+(x2+1)) rfl (gk 16 h0)
theorem Uh (h0:a<=b+1)(D:¬c<=b)(G:c<=a):a=b+1:=cg (ai [a,b,c] [(x0,x1+1)] 1 x0 (x1+1) rfl h0) (dM (iR D) G)
theorem Ui (h0:c<d)(D:d<b)(G:a<=c):a+1<b:=ai [c,d,b,a] [(x0+1,x1),(x1+1,x2),(x3,x0)] 1 (x3+1+1) x2 rfl h0 D G
theorem Uj (h0:a=b+1+c):a=b+ (c+1):=cg (ai [a,b,c] [(x0,x1+1+x2)] 1 x0 (x1+(x2+1)) rfl (aK h0)) (ai [a,b,c] [(x1+1+x2,x0)] 1 (x1+(x2+1)) x0 rfl (aK h0.symm))
theorem Uk (h0:b=a+0):a=b:=cg (ai [b,a] [(x1+0,x0)] 1 x1 x0 rfl (aK h0.symm)) (ai [b,a] [(x0,x1+0)] 1 x0 x1 rfl (aK h0))
theorem Ul (h0:a=b+ (c+1)):a=b+1+c:=cg (ai [a,b,c] [(x0,x1+(x2+1))] 1 x0 (x1+1+x2) rfl (aK h0)) (ai [a,b,c] [(x1+(x2+1),x0)] 1 (x1+1+x2) x0 rfl (aK h0.symm))
theorem Um (h0:d<c)(D:d=a+ (b+e)):a+b<c:=ai [d,c,a,b,e] [(x0+1,x1),(x2+(x3+x4),x0)] 1 (x2+x3+1) x1 rfl h0 (aK D.symm)
theorem Un (h0:b<64)(D:a<=b+1):a<=16777216+1:=ai [b,a] [(x0+1,64),(x1,x0+1)] 1 x1 (16777216+1) rfl h0 D
theorem Uo (h0:b=c)(D:c<b):a=0:=cg (ai [b,c,a] [(x0,x1),(x1+1,x0)] 0 x2 0 rfl (aK h0) D) (ai [b,c,a] [] 1 0 x2 rfl)
theorem Up:1+a+b=a+b+1:=cg (ai [a,b] [] 1 (1+x0+x1) (x0+x1+1) rfl) (ai [a,b] [] 1 (x0+x1+1) (1+x0+x1) rfl)
theorem Uq (h0:¬a<=1):a - 2+1<a:=ai [a,(a - 2)] [(x1+2,x0)] 1 (x1+1+1) x0 rfl (aK (eH (ai [a,(a - 2)] [(1+1,x0)] 1 2 x0 rfl (iR h0))))
theorem Ur (h0:a+64<b):a+1+1+16<b:=ai [a,b] [(x0+64+1,x1)] 1 (x0+1+1+16+1) x1 rfl h0
theorem ais {a b c:Nat}(h0:2<=b)(D:a=b):0<a:=ai [c,b,a] [(2,x1),(x1,x2)] 1 (0+1) x2 rfl h0 (aK D.symm)
theorem Us (h0:a+f.succ+c+3<=d+e)(D:b.succ.succ<=f.succ+2 - 1):a+b+c+3<=d+e:=ai [a,f,c,d,e,b,(((f+1)+2) - 1)] [(x0+(x1+1)+x2+3,x3+x4),((LX.v 6),x1+1+2),(x5+1+1,(LX.v 6))] 1 (x0+x5+x2+3) (x3+x4) rfl h0 (jA ((f+1)+2) 1) D
theorem Ut (h0:a+b.succ+c+3<=d+e):a+b+c+3<=d+e:=ai [a,b,c,d,e] [(x0+(x1+1)+x2+3,x3+x4)] 1 (x0+x1+x2+3) (x3+x4) rfl h0
theorem Uu:a+b+c+d=a+ (b+c+d):=cg (ai [a,b,c,d] [] 1 (x0+x1+x2+x3) (x0+(x1+x2+x3)) rfl) (ai [a,b,c,d] [] 1 (x0+(x1+x2+x3)) (x0+x1+x2+x3) rfl)
theorem Uv (h0:b<=2^21+1)(D:a<b):a<4194304:=ai [b,a] [(x0,(LX.n ((2^21)))+1),(x1+1,x0)] 1 (x1+1) 4194304 rfl h0 D
theorem Uw (h0:1<=d)(D:a+d+b<=c):a+ (b+1)<=c:=ai [d,a,b,c] [(1,x0),(x1+x0+x2,x3)] 1 (x1+(x2+1)) x3 rfl h0 D
theorem Ux (h0:a<900):a+1<1000:=ai [a] [(x0+1,900)] 1 (x0+1+1) 1000 rfl h0
theorem Uy:1+a=a+1:=cg (ai [a] [] 1 (1+x0) (x0+1) rfl) (ai [a] [] 1 (x0+1) (1+x0) rfl)
theorem Uz:1+a+1=a+1+1:=cg (ai [a] [] 1 (1+x0+1) (x0+1+1) rfl) (ai [a] [] 1 (x0+1+1) (1+x0+1) rfl)
theorem UA:1+a+2=a+2+1:=cg (ai [a] [] 1 (1+x0+2) (x0+2+1) rfl) (ai [a] [] 1 (x0+2+1) (1+x0+2) rfl)
theorem UB (h0:a<=63):a<=min 63 a:=rW.2 ⟨h0,(ai [a] [] 1 x0 x0 rfl)⟩
theorem UC (h0:a+1<b):a<=a/\a<b:=⟨(ai [a,b] [] 1 x0 x0 rfl),(ai [a,b] [(x0+1+1,x1)] 1 (x0+1) x1 rfl h0)⟩
theorem UD:2*a+3≠2*a+4:=dx (ai [a] [] 1 ((LX.m 2 x0)+3+1) ((LX.m 2 x0)+4) rfl)
theorem UE:a+a=a*2:=cg (ai [a] [] 1 (x0+x0) (LX.r x0 2) rfl) (ai [a] [] 1 (LX.r x0 2) (x0+x0) rfl)
theorem UG (h0:¬a >= b):a+ (b - a) /2<b:=ai [a,b,((b - a) /2),(b - a)] [(x0+1,x1),(x1,x3+x0),((LX.m 2 x2),x3),(.m 2 (x3+x0),.m 2 x1)] 2 (x0+x2+1) x1 rfl (iR h0) (eI (bb (b - a))) (H9 (b - a) 2) (gk 2 (aK (eH (bX (iR h0)))))
theorem UH (h0:a+b<=c+d):a+ (b+1)<=c+ (d+ (a - d) /2+1):=ai [a,b,c,d,((a - d) /2),(a - d)] [(x0+x1,x2+x3)] 1 (x0+(x1+1)) (x2+(x3+x4+1)) rfl h0
theorem UI (h0:b+c<=d+a)(D:a+ (b - a) /2<b):a+ (b - a) /2+ (c+1)<=d+a:=ai [b,c,d,a,((b - a) /2),(b - a)] [(x0+x1,x2+x3),(x3+x4+1,x0)] 1 (x3+x4+(x1+1)) (x2+x3) rfl h0 D
theorem UJ (h0:b<=3*c)(D:d<=3)(G:a<=d):a+b<=3* (c+1):=ai [b,c,d,a] [(x0,(LX.m 3 x1)),(x2,3),(x3,x2)] 1 (x3+x0) ((LX.m 3 (x1+1))) rfl h0 D G
end
set_option genCtorIdx false in
set_option genInjectivity false in
inductive KT where
 |int|str|ints (u:Unit)|strs
noncomputable def KT.n:KT->Nat| .int=>0| .str=>1| .ints _=>2| .strs=>3
noncomputable instance:DecidableEq KT:=λa b=>decidable_of_iff (a.n=b.n) ⟨λh=>(show∀a:KT,[KT.int,.str,.ints (),.strs].getD a.n .int=a from λa=>by cases a<;>rfl) a▸h▸(show∀a:KT,[KT.int,.str,.ints (),.strs].getD a.n .int=a from λa=>by cases a<;>rfl) b,congrArg _⟩
inductive V where
 |none
 |bool (b:Bool)
 |int (i:Int)
 |str (s:List Nat)
 |tup (xs:List V)
 |lst (xs:List V)
 |aU (t:KT)(ak:List (V×V))
 |obj (c:Nat)(fs:List (Nat×V))
 deriving Inhabited
inductive X where
 |v (a:V)
 |ref (n:Nat)
 deriving Inhabited
inductive Cell where
 |dead
 |lst (xs:List X)
 |aU (t:KT)(ak:List (V×X))
 |obj (c:Nat)(fs:List (Nat×X))
 deriving Inhabited
abbrev Env:=List (Option X)
abbrev Hp:=List Cell
set_option genCtorIdx false
set_option genInjectivity false in
inductive qp where
 |add|sub|mul|mod|fdiv|pow (u:Unit)|bor|band|shl|shr
set_option genInjectivity false in
inductive yF where
 |eq|ne|lt|le|gt (u:Unit)|ge|isIn|iu
set_option genInjectivity false in
inductive tR where
 |len|list|tuple|sorted|sum|dict (t:KT)|abs|int
set_option genInjectivity false in
inductive mF where
 |append|insert (u:Unit)|extend|index|get|join
set_option genInjectivity false in
inductive jC where
 |one (i:Nat)|two (i j:Nat)
set_option genInjectivity false in
mutual
inductive E where
 |var (i:Nat)
 |cst (a:V)
 |glob (g:Nat)
 |attr (o:E)(f:Nat)
 |idx (o i:E)
 |kQ (o hi:E)
 |vy (o lo:E)
 |bin (m:Bool)(op:qp)(l r:E)
 |cmp (op:yF)(l r:E)
 |isNone (neg:Bool)(e:E)
 |and (l r:E)
 |or (l r:E)
 |not (e:E)
 |ite (c t f:E)
 |tup (es:Es)
 |lst (m:Bool)(es:Es)
 |aU (m:Bool)(t:KT)(ks vs:Es)
 |comp (m:Bool)(t:jC)(it:It)(cp:E)
 |iT (m:Bool)(t:jC)(it:It)(cond cp:E)
 |bf (m:Bool)(f:tR)(e:E)
 |da (o:E)(f:mF)(es:Es)
 |call (f:Nat)(es:Es)
 |bN (o:E)(c f:Nat)(es:Es)
 |new (c:Nat)(es:Es)
inductive Es where
 |nil
 |cons (e:E)(es:Es)
inductive It where
 |of (e:E)
 |hE (e:E)
 |range (e:E)
 |rX (a b:E)
 |enum (e:E)
end
set_option genInjectivity false in
mutual
inductive fj where
 |set (i:Nat)(e:E)
 |mG (is:List Nat)(e:E)
 |qq (is:List Nat)(es:Es)
 |dy (o:E)(f:Nat)(e:E)
 |gm (o k e:E)
 |ex (e:E)
 |ite (c:E)(t f:Ss)
 |cq (t:jC)(it:It)(b:Ss)
 |mH (c:E)(b:Ss)
 |ret (e:E)
 |raise
 |iw (i:Nat)
inductive Ss where
 |nil
 |cons (s:fj)(r:Ss)
end
set_option genCtorIdx true
inductive Flow where
 |next
 |ret (x:X)
set_option genInjectivity false in
structure Fn where
 lM:Nat
 defs:List V
 H':Nat
 pure:Bool
 body:Ss
set_option genInjectivity false in
structure Prog where
 fns:List Fn
 init:List Nat
 vA:List Bool
 fk:List V
noncomputable def aE:Nat:=2^22
noncomputable def W:Nat:=2^22
mutual
noncomputable def gJ:V->V->Bool
 | .none,.none=>ab
 | .int a,.int b=>decide (a=b)
 | .str a,.str b=>decide (a=b)
 | .tup xs,.tup c=>lN xs c
 | .lst xs,.lst c=>lN xs c
 |_,_=>ae
noncomputable def lN:List V->List V->Bool
 | [],[]=>ab
 |x::xs,y::a=>gJ x y&&lN xs a
 |_,_=>ae
end
noncomputable def mI (s:List Nat):Bool:=decide (s.length<aE) &&s.all λc=>decide (c<55296)
noncomputable def isData:Nat->V->Bool
 |_,.none=>ab
 |_,.int _=>ab
 |_,.str s=>mI s
 |k+1,.tup xs=>xs.all (isData k)
 |k+1,.lst xs=>xs.all (isData k)
 |_,_=>ae
def eqv (a b:V):Option Bool:=if isData 4 a/\isData 4 b then S (gJ a b)else J
noncomputable def isInt:V->Bool
 | .int _=>ab
 |_=>ae
noncomputable def isStr:V->Bool
 | .str _=>ab
 |_=>ae
theorem H_ {l:List _}:(l.map .str).all isStr=true:=cF.mpr λ_ h=>by
 refine ah (bY.mp h) λs _ O=> ?_;subst O;rfl
def dS:KT->V->Bool
 | .int,.int _=>ab
 | .str,.str _=>ab
 | .ints _,.tup xs=>xs.all isInt
 | .strs,.tup xs=>xs.all isStr
 |_,_=>ae
noncomputable def dN (a b:V):Bool:=gJ a b
noncomputable def ck {a:Type}(k:V):List (V×a)->Option a
 | []=>J
 |p::r=>if dN p.1 k then S p.2 else ck k r
theorem BW {r:List (V×a)}:ck k (p::r)=if dN p.1 k then S p.2 else ck k r:=rfl
noncomputable def ec {a:Type}(k:V)(x:a):List (V×a)->List (V×a)
 | []=> [(k,x)]
 |p::r=>if dN p.1 k then(p.1,x)::r else p::ec k x r
theorem UK {x:a}:ec k x []= [(k,x)]:=rfl
theorem yG {r:List (V×a)}:ec k x (p::r)=if dN p.1 k then(p.1,x)::r else p::ec k x r:=rfl
noncomputable def n6 {a:Type}(f:Nat):List (Nat×a)->Option a
 | []=>J
 |p::r=>if p.1=f then S p.2 else n6 f r
theorem Ia {r:List (Nat×a)}:n6 f (p::r)=if p.1=f then S p.2 else n6 f r:=rfl
noncomputable def lO {a:Type}(f:Nat)(x:a):List (Nat×a)->List (Nat×a)
 | []=> [(f,x)]
 |p::r=>if p.1=f then(f,x)::r else p::lO f x r
theorem BX {r:List (Nat×a)}:lO f x (p::r)=if p.1=f then(f,x)::r else p::lO f x r:=rfl
noncomputable def X.toV:X->Option V
 | .v a=>S a
 | .ref _=>J
noncomputable def fD:List X->Option (List V)
 | []=>S []
 | .v a::r=>(fD r).map (a:: ·)
 | .ref _::_=>J
theorem ait:fD (.v a::r)=(fD r).map (a:: ·):=rfl
noncomputable def lP (i:Int)(n:Nat):Option Nat:=
 if 0<=i then(if i<n/\i<aE then S i.toNat else J)
 else if 0<=i+n/\ -aE<i then S (i+n).toNat else J
noncomputable def vB (σ:Hp):X->Option Nat
 | .v (.lst xs)=>S xs.length
 | .v (.tup xs)=>S xs.length
 | .v (.aU _ a)=>S a.length
 | .ref n=>(σ[n]?).bind λc=>match c with
  | .lst xs=>S xs.length
  | .aU _ a=>S a.length
  |_=>J
 |_=>J
def b4 (σ:Hp)(o:X)(i:V):Option X:=match o with
 | .v (.lst xs)=>match i with
  | .int i=>((lP i xs.length).bind (xs[·]?)).map .v
  |_=>J
 | .v (.tup xs)=>match i with
  | .int i=>((lP i xs.length).bind (xs[·]?)).map .v
  |_=>J
 | .v (.aU t ak)=>if dS t i then(ck i ak).map .v else J
 | .ref n=>(σ[n]?).bind λc=>match c with
  | .lst xs=>match i with
   | .int i=>(lP i xs.length).bind (xs[·]?)
   |_=>J
  | .aU t ak=>if dS t i then ck i ak else J
  |_=>J
 |_=>J
noncomputable def hJ (c f:Nat):Bool:=match c with
 |0=>decide (f<=6)
 |1=>decide (7<=f/\f<=16)
 |2=>decide (f=0\/(17<=f/\f<=21))
 |3=>decide (f=22\/f=23)
 |4=>decide (f=22\/f=24)
 |5=>decide (f=22\/(24<=f/\f<=26))
 |_=>ae
def ef (σ:Hp)(o:X)(f:Nat):Option X:=match o with
 | .v (.obj c a)=>if hJ c f then(n6 f a).map .v else J
 | .ref n=>(σ[n]?).bind λc=>match c with
  | .obj c a=>if hJ c f then n6 f a else J
  |_=>J
 |_=>J
def n7 (σ:Hp)(o:X):Option Nat:=match o with
 | .v (.obj c a)=>if a.all (λp=>hJ c p.1)then S c else J
 | .ref n=>(σ[n]?).bind λc=>match c with
  | .obj c a=>if a.all (λp=>hJ c p.1)then S c else J
  |_=>J
 |_=>J
noncomputable def lQ (a:Int)(n:Nat):Nat:=if a<0 then(a+n).toNat else min a.toNat n
def mJ (o:V)(a:V):Option V:=match a with
 | .int h=>match o with
  | .lst xs=>if xs.length<aE then S (.lst (xs.take (lQ h xs.length)))else J
  | .tup xs=>if xs.length<aE then S (.tup (xs.take (lQ h xs.length)))else J
  | .str s=>if s.length<aE/\0<=h then S (.str (s.take h.toNat))else J
  |_=>J
 |_=>J
def tS (o:V)(lo:V):Option V:=match lo with
 | .int h=>match o with
  | .lst xs=>if xs.length<aE then S (.lst (xs.drop (lQ h xs.length)))else J
  | .tup xs=>if xs.length<aE then S (.tup (xs.drop (lQ h xs.length)))else J
  |_=>J
 |_=>J
noncomputable def binI (c:qp)(a b:Int):Option Int:=match c with
 | .add=>S (a+b)
 | .sub=>S (a - b)
 | .mul=>if a.natAbs<2^62\/b.natAbs<2^62 then S (a*b)else J
 | .mod=>if 0<b/\b<1000000000 then S (a.fmod b)else J
 | .fdiv=>if 0<b/\b<1000000000 then S (a.fdiv b)else J
 | .pow _=>if 0<=b/\a.natAbs<1000/\b<1000 then S (a^b.toNat)else J
 | .bor=>if 0<=a/\0<=b then S ((a.toNat|||b.toNat:Nat):Int)else J
 | .band=>if 0<=a/\0<=b then S ((a.toNat&&&b.toNat:Nat):Int)else J
 | .shl=>if 0<=b/\b<=1000000/\0<=a/\a<2^62 then S (a*2^b.toNat)else J
 | .shr=>if 0<=b/\0<=a then S ((a.toNat>>>b.toNat:Nat):Int)else J
def cV (c:qp)(a b:V):Option V:=match a,b with
 | .int a,.int b=>(binI c a b).map .int
 | .str a,.str b=>match c with
  | .add=>if a.length+b.length<aE then S (.str (a++b))else J
  |_=>J
 | .tup a,.tup b=>match c with
  | .add=>if a.length+b.length<aE then S (.tup (a++b))else J
  |_=>J
 | .lst a,.lst b=>match c with
  | .add=>if a.length+b.length<aE then S (.lst (a++b))else J
  |_=>J
 | .lst a,.int n=>match c with
  | .mul=>if 0<=n/\a.length*n.toNat<aE/\n<aE then S (.lst ((List.replicate n.toNat a).flatten))else J
  |_=>J
 |_,_=>J
def mK (x:V)(a:List V):Option Bool:=if isData 4 x/\a.all (isData 4)then S (a.any λy=>gJ y x)else J
def indexOf (x:V)(a:List V):Option Nat:=if isStr x=ab/\a.all isStr=ab/\a.length<aE then a.findIdx? λy=>gJ y x else J
def n8 (σ:Hp)(x:V)(o:X):Option Bool:=match o with
 | .v (.lst a)=>mK x a
 | .v (.tup a)=>mK x a
 | .v (.aU t b)=>if dS t x then S (ck x b).isSome else J
 | .ref n=>(σ[n]?).bind λc=>match c with
  | .lst a=>(fD a).bind (mK x)
  | .aU t b=>if dS t x then S (ck x b).isSome else J
  |_=>J
 |_=>J
noncomputable def vD (f:Int->Int->Bool):X->X->Option Bool
 | .v (.int a),.v (.int b)=>S (f a b)
 |_,_=>J
noncomputable def BY (f:Bool->Bool->Bool)(g:V->V->Option Bool):X->X->Option Bool
 | .v (.bool a),.v (.bool b)=>S (f a b)
 | .v a,.v b=>g a b
 |_,_=>J
def cO (σ:Hp)(c:yF)(a b:X):Option Bool:=match c with
 | .eq=>BY (· == ·) eqv a b
 | .ne=>BY (· != ·) (λa b=>(eqv a b).map not) a b
 | .lt=>vD (λa b=>decide (a<b)) a b
 | .le=>vD (λa b=>decide (a<=b)) a b
 | .gt _=>vD (λa b=>decide (b<a)) a b
 | .ge=>vD (λa b=>decide (b<=a)) a b
 | .isIn=>match a with
  | .v a=>n8 σ a b
  |_=>J
 | .iu=>match a with
  | .v a=>(n8 σ a b).map not
  |_=>J
mutual
noncomputable def dc:V->V->Bool
 | .int a,.int b=>decide (a<b)
 | .tup xs,.tup c=>kR xs c
 | .lst xs,.lst c=>kR xs c
 |_,_=>ae
noncomputable def kR:List V->List V->Bool
 | [],[]=>ae
 | [],_::_=>ab
 |_::_,[]=>ae
 |x::xs,y::a=>if dN x y then kR xs a else dc x y
end
def iU:V->Bool
 | .tup xs=>decide (xs.length=2) &&xs.all isInt
 |_=>ae
def rY:V->Bool
 | .lst xs=>xs.all iU
 |_=>ae
def mL (xs:List V):Bool:=(xs.all isInt||xs.all rY||xs.all iU) &&decide (xs.length<aE)
noncomputable def tU (x:V):List V->List V
 | []=> [x]
 |y::a=>if dc x y then x::y::a else y::tU x a
noncomputable def gn:List V->List V
 | []=> []
 |x::xs=>tU x (gn xs)
noncomputable def keysOf {a:Type}:List (V×a)->List V:=List.map (·.1)
def rZ (σ:Hp):X->Option (List V)
 | .v (.lst xs)=>S xs
 | .v (.tup xs)=>S xs
 | .v (.aU _ a)=>S (keysOf a)
 | .ref n=>(σ[n]?).bind λc=>match c with
  | .lst xs=>fD xs
  | .aU _ a=>S (keysOf a)
  |_=>J
 |_=>J
noncomputable def tV:List V->Int->Option Int
 | [],a=>S a
 | .int i::r,a=>tV r (a+i)
 |_,_=>J
noncomputable def r5 (t:KT):List V->List (V×V)->Option (List (V×V))
 | [],acc=>S acc
 | .tup [k,x]::r,acc=>if dS t k then r5 t r (ec k x acc)else J
 |_,_=>J
noncomputable def vE (a:List Nat):List V->Option (List Nat)
 | []=>S []
 | [.str s]=>S s
 | .str s::r=>(vE a r).map λt=>s++a++t
 |_=>J
noncomputable def kS {b:Type}(x:X)(f:V->Option b):Option b:=match x with
 | .v a=>f a
 | .ref _=>J
noncomputable def r6 {a:Type}(x:X)(f:Int->Option a):Option a:=match x with
 | .v (.int n)=>f n
 |_=>J
noncomputable def qr {a:Type}(x:X)(f:List V->Option a):Option a:=match x with
 | .v (.lst n)=>f n
 |_=>J
noncomputable def Ib {a:Type}(x:X)(f:List V->Option a):Option a:=match x with
 | .v (.tup n)=>f n
 |_=>J
noncomputable def Ic {a:Type}(x:X)(f:KT->List (V×V)->Option a):Option a:=match x with
 | .v (.aU t b)=>f t b
 |_=>J
noncomputable def onStr {a:Type}(x:X)(f:List Nat->Option a):Option a:=match x with
 | .v (.str s)=>f s
 |_=>J
noncomputable def onSeq {a:Type}(x:X)(f:List V->Option a):Option a:=match x with
 | .v (.lst n)=>f n
 | .v (.tup n)=>f n
 |_=>J
noncomputable def tW {a:Type}(as:List X)(f:X->Option a):Option a:=match as with
 | [x]=>f x
 |_=>J
noncomputable def yH {a:Type}(as:List X)(f:X->X->Option a):Option a:=match as with
 | [x,y]=>f x y
 |_=>J
noncomputable def yI {a:Type}(σ:Hp)(o:X)(f:Nat->List X->Option a):Option a:=match o with
 | .ref n=>(σ[n]?).bind λc=>match c with
  | .lst xs=>f n xs
  |_=>J
 | .v _=>J
noncomputable def Ie {a:Type}(σ:Hp)(o:X)(f:Nat->KT->List (V×X)->Option a):Option a:=match o with
 | .ref n=>(σ[n]?).bind λc=>match c with
  | .aU t b=>f n t b
  |_=>J
 | .v _=>J
inductive BR where
 |val (a:V)
 |items (xs:List V)
def cB (σ:Hp)(f:tR)(x:X):Option BR:=match f with
 | .len=>(vB σ x).bind λn=>if n<aE then S (.val (.int n))else J
 | .list=>onSeq x λxs=>if xs.length<aE then S (.items xs)else J
 | .tuple=>qr x λxs=>if xs.length<aE then S (.val (.tup xs))else J
 | .sorted=>(rZ σ x).bind λxs=>if mL xs=ab then S (.items (gn xs))else J
 | .sum=>qr x λxs=>(tV xs 0).map λn=> .val (.int n)
 | .dict t=>qr x λxs=>if xs.length<aE then(r5 t xs []).map λc=> .val (.aU t c)else J
 | .abs=>r6 x λi=>S (.val (.int i.natAbs))
 | .int=>kS x λa=>match a with
  | .int i=>S (.val (.int i))
  | .bool b=>S (.val (.int (if b then 1 else 0)))
  |_=>J
noncomputable def mF.ty:mF->String
 | .append=> "list" | .insert _=> "list" | .extend=> "list" | .index=> "list" | .get=> "dict" | .join=> "str"
noncomputable def r7 (σ:Hp):X->Option String
 | .v (.lst _)=>S "list"
 | .v (.aU _ _)=>S "dict"
 | .v (.str _)=>S "str"
 | .ref n=>(σ[n]?).bind λc=>match c with
  | .lst _=>S "list"
  | .aU _ _=>S "dict"
  |_=>J
 |_=>J
def gK (σ:Hp)(f:mF)(o:X)(as:List X):Option (X×Hp):=match f with
 | .append=>yI σ o λn xs=>tW as λx=>if xs.length<aE then S (.v .none,σ.set n (.lst (xs++ [x])))else J
 | .insert _=>yI σ o λn xs=>yH as λa x=>r6 a λi=>if xs.length<aE/\0<=i/\i<=xs.length then S (.v .none,σ.set n (.lst (xs.take i.toNat++ [x]++xs.drop i.toNat)))else J
 | .extend=>yI σ o λn xs=>tW as λa=>qr a λc=>if xs.length+c.length<aE then S (.v .none,σ.set n (.lst (xs++c.map .v)))else J
 | .index=>qr o λxs=>tW as λa=>kS a λx=>(indexOf x xs).map λ(k:Nat)=>(.v (.int (k:Int)),σ)
 | .get=>yH as λa d=>kS a λk=>match o with
  | .v _=>Ic o λt b=>if dS t k then S (match ck k b with|some a=> .v a|Option.none=>d,σ)else J
  | .ref _=>Ie σ o λ_ t b=>if dS t k then S ((ck k b).getD d,σ)else J
 | .join=>onStr o λh=>tW as λa=>onSeq a λxs=>(vE h xs).bind λs=>if s.length<aE/\h.length<aE then S (.v (.str s),σ)else J
def mM (σ:Hp)(o:X)(k:V)(x:X):Option Hp:=match o with
 | .ref n=>(σ[n]?).bind λc=>match c with
  | .lst xs=>match k with
   | .int i=>if 0<=i/\i<xs.length/\i<aE then S (σ.set n (.lst (xs.set i.toNat x)))else J
   |_=>J
  | .aU t a=>if dS t k/\a.length<aE then S (σ.set n (.aU t (ec k x a)))else J
  |_=>J
 |_=>J
def r8 (σ:Hp)(o:X)(f:Nat)(x:X):Option Hp:=match o with
 | .ref n=>(σ[n]?).bind λc=>match c with
  | .obj c a=>if a.length<64/\hJ c f=ab then S (σ.set n (.obj c (lO f x a)))else J
  |_=>J
 |_=>J
noncomputable def jD {a b:Type}(f:Hp->a->Option (b×Hp)):Hp->List a->Option (List b×Hp)
 |σ,[]=>S ([],σ)
 |σ,x::r=>(f σ x).bind λp=>(jD f p.2 r).map λq=>(p.1::q.1,q.2)
def Ig (f:Hp->X->Option (V×Hp))(σ:Hp)(c:Cell):Option (V×Hp):=match c with
 | .lst xs=>(jD f σ xs).map λp=>(.lst p.1,p.2)
 | .aU t a=>(jD (λσ p=>(f σ p.2).map λq=>((p.1,q.1),q.2)) σ a).map λp=>(.aU t p.1,p.2)
 | .obj c b=>(jD (λσ p=>(f σ p.2).map λq=>((p.1,q.1),q.2)) σ b).map λp=>(.obj c p.1,p.2)
 | .dead=>J
noncomputable def fz:Nat->Hp->X->Option (V×Hp)
 |_,σ,.v a=>S (a,σ)
 |0,_,.ref _=>J
 |k+1,σ,.ref n=>(σ[n]?).bind (Ig (fz k) (σ.set n .dead))
noncomputable def FZ:Nat:=8
set_option genInjectivity false in
structure Cl where
 call:Nat->List X->Hp->Option (X×Hp)
 new:Nat->List X->Hp->Option (X×Hp)
 fk:List V
noncomputable def slot (ρ:Env)(i:Nat):Option X:=(ρ[i]?).join
noncomputable def UL {a:Type}:List a->Option (a×a)
 | []=>J
 |x::r=>match r with
  | []=>J
  |y::r=>match r with
   | []=>S (x,y)
   |_::_=>J
def BZ:V->Option (V×V)
 | .tup xs=>UL xs
 |_=>J
def bV (t:jC)(a:V)(ρ:Env):Option Env:=match t with
 | .one i=>S (ρ.set i (S (.v a)))
 | .two i j=>(BZ a).map λp=>(ρ.set i (S (.v p.1))).set j (S (.v p.2))
noncomputable def gZ:List Nat->List X->Env->Option Env
 | [],[],ρ=>S ρ
 |i::is,x::xs,ρ=>gZ is xs (ρ.set i (S x))
 |_,_,_=>J
def kx (m:Bool)(xs:List X)(σ:Hp):Option (X×Hp):=
 if xs.length<aE then
  (if m then S (.ref σ.length,σ++ [.lst xs])else(fD xs).map λa=>(.v (.lst a),σ))
 else J
noncomputable def vF (m:Bool)(xs:List V)(σ:Hp):Option (X×Hp):=
 if m then S (.ref σ.length,σ++ [.lst (xs.map .v)])else S (.v (.lst xs),σ)
noncomputable def Ih:List X->List X->Option (List (V×X))
 | [],[]=>S []
 | .v k::a,x::xs=>(Ih a xs).map ((k,x):: ·)
 |_,_=>J
def storeAll (a:List (V×X)):List (V×X):=a.foldl (λacc p=>ec p.1 p.2 acc) []
noncomputable def qs:List (V×X)->Option (List (V×V))
 | []=>S []
 | (k,.v a)::r=>(qs r).map ((k,a):: ·)
 | (_,.ref _)::_=>J
theorem UM:qs ((k,.v a)::r)=(qs r).map ((k,a):: ·):=rfl
def B0 (m:Bool)(t:KT)(b c:List X)(σ:Hp):Option (X×Hp):=
 (Ih b c).bind λa=>if a.all (λp=>dS t p.1)then
  (if m then S (.ref σ.length,σ++ [.aU t (storeAll a)])else(qs (storeAll a)).map λd=>(.v (.aU t d),σ))
 else J
noncomputable def mN (a b:Int):List V:=(List.range (b - a).toNat).map λ(i:Nat)=>V.int (a+i)
noncomputable def lR:Nat->List V->List V
 |_,[]=> []
 |k,x::xs=> .tup [.int k,x]::lR (k+1) xs
theorem UN:lR k (x::xs)= .tup [.int k,x]::lR (k+1) xs:=rfl
def kT:V->Option (List V)
 | .lst xs=>S xs
 | .tup xs=>S xs
 | .aU _ a=>S (keysOf a)
 |_=>J
noncomputable def mO (f:V->Hp->Option (X×Hp)):List V->Hp->Option (List X×Hp)
 | [],σ=>S ([],σ)
 |a::r,σ=>(f a σ).bind λp=>(mO f r p.2).map λq=>(p.1::q.1,q.2)
noncomputable def qt (c:V->Hp->Option (Bool×Hp))(f:V->Hp->Option (X×Hp)):List V->Hp->Option (List X×Hp)
 | [],σ=>S ([],σ)
 |a::r,σ=>(c a σ).bind λb=>match b.1 with
  |true=>(f a b.2).bind λp=>(qt c f r p.2).map λq=>(p.1::q.1,q.2)
  |false=>qt c f r b.2
noncomputable def gp:X×Hp->Option (Bool×Hp)
 | (.v (.bool b),σ)=>S (b,σ)
 |_=>J
noncomputable def Ii (m:Bool)(σ:Hp)(r:BR):Option (X×Hp):=match r with
 | .val a=>S (.v a,σ)
 | .items xs=>vF m xs σ
noncomputable def mkBin (m:Bool)(o:Option V)(σ:Hp):Option (X×Hp):=match m with
 |false=>o.map λx=>(.v x,σ)
 |true=>o.bind λa=>match a with
  | .lst xs=>S (.ref σ.length,σ++ [.lst (xs.map .v)])
  |_=>J
noncomputable def tX (n:Bool):X->Bool
 | .v .none=> !n
 |_=>n
mutual
noncomputable def az (cl:Cl):E->Env->Hp->Option (X×Hp)
 | .var i,ρ,σ=>(slot ρ i).map λx=>(x,σ)
 | .cst a,_,σ=>S (.v a,σ)
 | .glob g,_,σ=>(cl.fk[g]?).map λa=>(.v a,σ)
 | .attr o f,ρ,σ=>(az cl o ρ σ).bind λp=>(ef p.2 p.1 f).map λx=>(x,p.2)
 | .idx o i,ρ,σ=>(az cl o ρ σ).bind λp=>(az cl i ρ p.2).bind λq=>kS q.1 λk=>(b4 q.2 p.1 k).map λx=>(x,q.2)
 | .kQ o h,ρ,σ=>(az cl o ρ σ).bind λp=>(az cl h ρ p.2).bind λq=>kS p.1 λa=>kS q.1 λh=>(mJ a h).map λx=>(.v x,q.2)
 | .vy o h,ρ,σ=>(az cl o ρ σ).bind λp=>(az cl h ρ p.2).bind λq=>kS p.1 λa=>kS q.1 λh=>(tS a h).map λx=>(.v x,q.2)
 | .bin m y l r,ρ,σ=>(az cl l ρ σ).bind λp=>(az cl r ρ p.2).bind λq=>kS p.1 λa=>kS q.1 λb=>mkBin m (cV y a b) q.2
 | .cmp y l r,ρ,σ=>(az cl l ρ σ).bind λp=>(az cl r ρ p.2).bind λq=>(cO q.2 y p.1 q.1).map λb=>(.v (.bool b),q.2)
 | .isNone neg e,ρ,σ=>(az cl e ρ σ).map λp=>(.v (.bool (tX neg p.1)),p.2)
 | .and l r,ρ,σ=>((az cl l ρ σ).bind gp).bind λp=>match p.1 with
  |true=>((az cl r ρ p.2).bind gp).map λq=>(.v (.bool q.1),q.2)
  |false=>S (.v (.bool ae),p.2)
 | .or l r,ρ,σ=>((az cl l ρ σ).bind gp).bind λp=>match p.1 with
  |true=>S (.v (.bool ab),p.2)
  |false=>((az cl r ρ p.2).bind gp).map λq=>(.v (.bool q.1),q.2)
 | .not e,ρ,σ=>((az cl e ρ σ).bind gp).map λp=>(.v (.bool (!p.1)),p.2)
 | .ite c t f,ρ,σ=>((az cl c ρ σ).bind gp).bind λp=>match p.1 with
  |true=>az cl t ρ p.2
  |false=>az cl f ρ p.2
 | .tup es,ρ,σ=>(fW cl es ρ σ).bind λp=>if p.1.length<aE then(fD p.1).map λvs=>(.v (.tup vs),p.2)else J
 | .lst m es,ρ,σ=>(fW cl es ρ σ).bind λp=>kx m p.1 p.2
 | .aU m t G vs,ρ,σ=>(fW cl G ρ σ).bind λp=>(fW cl vs ρ p.2).bind λq=>B0 m t p.1 q.1 q.2
 | .comp m t it D,ρ,σ=>(ix cl it ρ σ).bind λp=>
  (mO (λa u=>(bV t a ρ).bind λρ'=>az cl D ρ' u) p.1 p.2).bind λq=>kx m q.1 q.2
 | .iT m t it c D,ρ,σ=>(ix cl it ρ σ).bind λp=>
  (qt (λa u=>(bV t a ρ).bind λρ'=>(az cl c ρ' u).bind gp) (λa u=>(bV t a ρ).bind λρ'=>az cl D ρ' u) p.1 p.2).bind λq=>kx m q.1 q.2
 | .bf m f e,ρ,σ=>(az cl e ρ σ).bind λp=>(cB p.2 f p.1).bind λr=>Ii m p.2 r
 | .da o f es,ρ,σ=>(az cl o ρ σ).bind λp=>if r7 p.2 p.1=S f.ty then(fW cl es ρ p.2).bind λq=>gK q.2 f p.1 q.1 else J
 | .call f es,ρ,σ=>(fW cl es ρ σ).bind λq=>cl.call f q.1 q.2
 | .bN o c f es,ρ,σ=>(az cl o ρ σ).bind λp=>
  if n7 p.2 p.1=S c then(fW cl es ρ p.2).bind λq=>cl.call f (p.1::q.1) q.2 else J
 | .new c es,ρ,σ=>(fW cl es ρ σ).bind λq=>cl.new c q.1 q.2
noncomputable def fW (cl:Cl):Es->Env->Hp->Option (List X×Hp)
 | .nil,_,σ=>S ([],σ)
 | .cons e es,ρ,σ=>(az cl e ρ σ).bind λp=>(fW cl es ρ p.2).map λq=>(p.1::q.1,q.2)
noncomputable def ix (cl:Cl):It->Env->Hp->Option (List V×Hp)
 | .of e,ρ,σ=>(az cl e ρ σ).bind λp=>kS p.1 λa=>(kT a).map λxs=>(xs,p.2)
 | .hE e,ρ,σ=>(az cl e ρ σ).bind λp=>qr p.1 λxs=>S (xs,p.2)
 | .range e,ρ,σ=>(az cl e ρ σ).bind λp=>r6 p.1 λn=>if n<aE/\ -aE<n then S (mN 0 n,p.2)else J
 | .rX a b,ρ,σ=>(az cl a ρ σ).bind λp=>(az cl b ρ p.2).bind λq=>r6 p.1 λa=>r6 q.1 λb=>if a<aE/\ -aE<a/\b<aE/\ -aE<b then S (mN a b,q.2)else J
 | .enum e,ρ,σ=>(az cl e ρ σ).bind λp=>qr p.1 λxs=>if xs.length<aE then S (lR 0 xs,p.2)else J
end
abbrev RS:=Option (Flow×Env×Hp)
noncomputable def n9 (t:jC)(b:Env->Hp->RS):List V->Env->Hp->RS
 | [],ρ,σ=>S (.next,ρ,σ)
 |a::r,ρ,σ=>(bV t a ρ).bind λρ'=>(b ρ' σ).bind λp=>match p.1 with
  | .next=>n9 t b r p.2.1 p.2.2
  | .ret x=>S (.ret x,p.2)
noncomputable def qu (c:Env->Hp->Option (Bool×Hp))(b:Env->Hp->RS):Nat->Env->Hp->RS
 |0,_,_=>J
 |k+1,ρ,σ=>(c ρ σ).bind λp=>match p.1 with
  |false=>S (.next,ρ,p.2)
  |true=>(b ρ p.2).bind λq=>match q.1 with
   | .next=>qu c b k q.2.1 q.2.2
   | .ret x=>S (.ret x,q.2)
mutual
noncomputable def qw (cl:Cl):fj->Env->Hp->RS
 | .set i e,ρ,σ=>(az cl e ρ σ).map λp=>(.next,ρ.set i (S p.1),p.2)
 | .mG is e,ρ,σ=>(az cl e ρ σ).bind λp=>Ib p.1 λxs=>(gZ is (xs.map .v) ρ).map λρ'=>(.next,ρ',p.2)
 | .qq is es,ρ,σ=>(fW cl es ρ σ).bind λp=>(gZ is p.1 ρ).map λρ'=>(.next,ρ',p.2)
 | .dy o f e,ρ,σ=>(az cl e ρ σ).bind λp=>(az cl o ρ p.2).bind λq=>(r8 q.2 q.1 f p.1).map λa=>(.next,ρ,a)
 | .gm o k e,ρ,σ=>(az cl e ρ σ).bind λp=>(az cl o ρ p.2).bind λq=>(az cl k ρ q.2).bind λr=>kS r.1 λk=>(mM r.2 q.1 k p.1).map λa=>(.next,ρ,a)
 | .ex e,ρ,σ=>(az cl e ρ σ).map λp=>(.next,ρ,p.2)
 | .ite c t f,ρ,σ=>((az cl c ρ σ).bind gp).bind λp=>match p.1 with
  |true=>aZ cl t ρ p.2
  |false=>aZ cl f ρ p.2
 | .cq t it b,ρ,σ=>(ix cl it ρ σ).bind λp=>n9 t (λρ' a=>aZ cl b ρ' a) p.1 ρ p.2
 | .mH c b,ρ,σ=>qu (λρ' a=>(az cl c ρ' a).bind gp) (λρ' a=>aZ cl b ρ' a) W ρ σ
 | .ret e,ρ,σ=>(az cl e ρ σ).map λp=>(.ret p.1,ρ,p.2)
 | .raise,_,_=>J
 | .iw i,ρ,σ=>(slot ρ i).bind λx=>(fz FZ σ x).map λp=>(.next,ρ.set i (S (.v p.1)),p.2)
noncomputable def aZ (cl:Cl):Ss->Env->Hp->RS
 | .nil,ρ,σ=>S (.next,ρ,σ)
 | .cons s r,ρ,σ=>(qw cl s ρ σ).bind λp=>match p.1 with
  | .next=>aZ cl r p.2.1 p.2.2
  | .ret x=>S (.ret x,p.2)
end
noncomputable def frameOf (fn:Fn)(as:List X):Option Env:=
 if as.length<=fn.lM/\fn.lM<=as.length+fn.defs.length then
  S ((as.map S)++ ((fn.defs.drop (as.length+fn.defs.length - fn.lM)).map λa=>S (.v a))++List.replicate (fn.H' - fn.lM) J)
 else J
def n_ (cl:Cl)(fn:Fn)(as:List X)(σ:Hp):Option (X×Hp):=
 (frameOf fn as).bind λρ=>(aZ cl fn.body ρ σ).map λp=>match p.1 with
  | .next=>(.v .none,p.2.2)
  | .ret x=>(x,p.2.2)
def B1 (cl:Cl)(P:Prog)(f:Nat)(as:List X)(σ:Hp):Option (X×Hp):=
 (P.fns[f]?).bind λfn=>match fn.pure with
  |true=>(fD as).bind λ_=>(n_ cl fn as []).bind λp=>(fz FZ p.2 p.1).map λq=>(.v q.1,σ)
  |false=>n_ cl fn as σ
def B2 (cl:Cl)(P:Prog)(c:Nat)(as:List X)(σ:Hp):Option (X×Hp):=
 (P.init[c]?).bind λf=>(P.fns[f]?).bind λfn=>(P.vA[c]?).bind λa=>match a with
  |true=>(fD as).bind λ_=>(n_ cl fn (.ref 0::as) [.obj c []]).bind λp=>match p.1 with
   | .v .none=>(fz FZ p.2 (.ref 0)).map λq=>(.v q.1,σ)
   |_=>J
  |false=>(n_ cl fn (.ref σ.length::as) (σ++ [.obj c []])).bind λp=>match p.1 with
   | .v .none=>S (.ref σ.length,p.2)
   |_=>J
noncomputable def aQ (P:Prog):Nat->Cl
 |0=>⟨λ_ _ _=>J,λ_ _ _=>J,P.fk⟩
 |d+1=>⟨B1 (aQ P d) P,B2 (aQ P d) P,P.fk⟩
theorem bind_some {c k:Type}{o}{f:c->Option k}{b}(h:o.bind f=S b):∃a,o=S a/\f a=S b:=yy.mp h
theorem Ij {c k:Type}{o}{f:c->k}{b}(h:o.map f=S b):∃a,o=S a/\f a=b:=qk.mp h
def OB {b:Type}(o:Option b)(P:b->Prop):Prop:=∀a,o=S a->P a
section
variable {α β:Type} {o:Option α} {P:β->Prop} {x:X}
theorem cv (h:∀a,o=S a->OB (f a) P):OB (o.bind f) P:=λb e=>(bind_some e).elim λa e=>h a e.1 b e.2
theorem UO (h:OB o λa=>OB (f a) P):OB (o.bind f) P:=λb e=>(bind_some e).elim λa e=>h a e.1 b e.2
theorem fe (h:∀a,o=S a->P (f a)):OB (o.map f) P:=λ_ e=>(Ij e).elim λa e=>e.2▸h a e.1
theorem cH (h:P a):OB (S a) P:=λ_ e=>je e▸h
theorem fX:OB .none P:=λ_ e=>nomatch e
theorem fE [Decidable c]{x}(h:c->OB x P):OB (if c then x else .none) P:=λb e=>by
 by_cases q:c
 . rw[if_pos q]at e;exact h q b e
 . rw[if_neg q]at e;exact aD e
theorem lS (h:∀a,x= .v a->OB (f a) P):OB (kS x f) P:=by
 cases x with
 |ref n=>exact fX
 |v a=>exact h a rfl
theorem vH (h:∀a,x= .v (.int a)->OB (f a) P):OB (r6 x f) P:=by
 cases x with
 |ref n=>exact fX
 |v a=>cases a<;>first|exact fX|exact h _ rfl
theorem r9 (h:∀a,x= .v (.lst a)->OB (f a) P):OB (qr x f) P:=by
 cases x with
 |ref n=>exact fX
 |v a=>cases a<;>first|exact fX|exact h _ rfl
theorem UP (h:∀a,x= .v (.tup a)->OB (f a) P):OB (Ib x f) P:=by
 cases x with
 |ref n=>exact fX
 |v a=>cases a<;>first|exact fX|exact h _ rfl
theorem UQ (h:∀t b,x= .v (.aU t b)->OB (f t b) P):OB (Ic x f) P:=by
 cases x with
 |ref n=>exact fX
 |v a=>cases a<;>first|exact fX|exact h _ _ rfl
theorem UR (h:∀a,x= .v (.str a)->OB (f a) P):OB (onStr x f) P:=by
 cases x with
 |ref n=>exact fX
 |v a=>cases a<;>first|exact fX|exact h _ rfl
theorem Ik (h:∀a,x= .v (.lst a)\/x= .v (.tup a)->OB (f a) P):OB (onSeq x f) P:=by
 cases x with
 |ref n=>exact fX
 |v a=>cases a<;>first|exact fX|exact h _ (.inl rfl)|exact h _ (.inr rfl)
theorem yJ (h:∀a,as= [a]->OB (f a) P):OB (tW as f) P:=by
 rcases as with _| ⟨a,_| ⟨_,_⟩⟩<;>first|exact fX|exact h _ rfl
theorem Il (h:∀a b,as= [a,b]->OB (f a b) P):OB (yH as f) P:=by
 rcases as with _| ⟨a,_| ⟨b,_| ⟨_,_⟩⟩⟩<;>first|exact fX|exact h _ _ rfl
theorem B3 (h:∀n xs,x= .ref n->σ[n]?=S (.lst xs)->OB (f n xs) P):OB (yI σ x f) P:=by
 cases x with
 |v a=>exact fX
 |ref n=>exact cv λc b=>by cases c<;>first|exact fX|exact h _ _ rfl b
theorem UT (h:∀n t b,x= .ref n->σ[n]?=S (.aU t b)->OB (f n t b) P):OB (Ie σ x f) P:=by
 cases x with
 |v a=>exact fX
 |ref n=>exact cv λc k=>by cases c<;>first|exact fX|exact h _ _ _ rfl k
end
noncomputable def UU:Ss:=(.cons (.ite (.cmp .eq (.bin ae .band (.bin ae .shr (.idx (.var 1) (.var 3)) (.var 2)) (.cst (.int 1))) (.cst (.int 1))) (.cons (.gm (.var 1) (.var 3) (.bin ae .bor (.idx (.var 1) (.var 3)) (.idx (.var 1) (.var 2)))) .nil) .nil) .nil)
def UW:Ss:=(.cons (.cq (.one 3) (.range (.bf ae .len (.var 1))) UU) .nil)
def UX:Fn:=⟨1,[],4,ab,
 (.cons (.set 1 (.bf ab .list (.var 0))) (.cons (.cq (.one 2) (.range (.bf ae .len (.var 1))) UW) (.cons (.ret (.var 1)) .nil)))⟩
noncomputable def UY:Ss:=(.cons (.ite (.cmp .eq (.bin ae .band (.var 3) (.cst (.int 1))) (.cst (.int 1))) (.cons (.ex (.da (.var 1) .append (.cons (.var 2) .nil))) .nil) .nil) (.cons (.set 3 (.bin ae .shr (.var 3) (.cst (.int 1)))) (.cons (.set 2 (.bin ae .add (.var 2) (.cst (.int 1)))) .nil)))
def UZ:Fn:=⟨1,[],4,ab,
 (.cons (.set 1 (.lst ab .nil)) (.cons (.set 2 (.cst (.int 0))) (.cons (.set 3 (.var 0)) (.cons (.mH (.cmp (.gt ()) (.var 3) (.cst (.int 0))) UY) (.cons (.ret (.var 1)) .nil)))))⟩
noncomputable def U0:Fn:=⟨8,[.int (-1),.none,.int 0,.int 0],8,ab,
 (.cons (.dy (.var 0) 0 (.var 1)) (.cons (.dy (.var 0) 1 (.var 2)) (.cons (.dy (.var 0) 2 (.var 3)) (.cons (.dy (.var 0) 3 (.var 4)) (.cons (.dy (.var 0) 4 (.var 5)) (.cons (.dy (.var 0) 5 (.var 6)) (.cons (.dy (.var 0) 6 (.var 7)) .nil)))))))⟩
noncomputable def U1:Ss:=(.cons (.ex (.da (.idx (.attr (.var 0) 13) (.attr (.var 7) 1)) .append (.cons (.attr (.var 7) 0) .nil))) (.cons (.ex (.da (.attr (.var 0) 14) .append (.cons (.bf ae .len (.attr (.var 0) 15)) .nil))) (.cons (.ex (.da (.attr (.var 0) 15) .extend (.cons (.bin ae .mul (.lst ae (.cons (.attr (.var 7) 0) .nil)) (.bin ae .add (.bf ae .len (.attr (.var 7) 2)) (.cst (.int 1)))) .nil))) .nil)))
def U2:Fn:=⟨7,[],9,ab,
 (.cons (.dy (.var 0) 7 (.var 1)) (.cons (.dy (.var 0) 8 (.var 2)) (.cons (.dy (.var 0) 9 (.var 3)) (.cons (.dy (.var 0) 10 (.var 4)) (.cons (.dy (.var 0) 11 (.var 5)) (.cons (.dy (.var 0) 12 (.var 6)) (.cons (.dy (.var 0) 13 (.comp ab (.one 8) (.of (.attr (.var 0) 7)) (.lst ab .nil))) (.cons (.dy (.var 0) 14 (.lst ab .nil)) (.cons (.dy (.var 0) 15 (.lst ab .nil)) (.cons (.cq (.one 7) (.of (.attr (.var 0) 9)) U1) (.cons (.dy (.var 0) 16 (.bf ae .len (.attr (.var 0) 15))) .nil)))))))))))⟩
noncomputable def U3:Fn:=⟨1,[],1,ab,
 (.cons (.ret (.bf ae .len (.attr (.var 0) 7))) .nil)⟩
noncomputable def U4:Fn:=⟨2,[],2,ab,
 (.cons (.ret (.ite (.cmp .isIn (.var 1) (.attr (.var 0) 7)) (.da (.attr (.var 0) 7) .index (.cons (.var 1) .nil)) (.cst (.int (-1))))) .nil)⟩
noncomputable def U5:Fn:=⟨2,[],2,ab,
 (.cons (.ret (.bf ae .list (.idx (.attr (.var 0) 13) (.var 1)))) .nil)⟩
noncomputable def U6:Fn:=⟨3,[],3,ab,
 (.cons (.ret (.bin ae .add (.idx (.attr (.var 0) 14) (.var 1)) (.var 2))) .nil)⟩
noncomputable def U7:Fn:=⟨2,[],2,ab,
 (.cons (.ret (.idx (.attr (.var 0) 15) (.var 1))) .nil)⟩
noncomputable def U8:Fn:=⟨2,[],2,ab,
 (.cons (.ret (.bin ae .sub (.var 1) (.idx (.attr (.var 0) 14) (.idx (.attr (.var 0) 15) (.var 1))))) .nil)⟩
noncomputable def U9:Fn:=⟨2,[],4,ab,
 (.cons (.set 2 (.attr (.idx (.attr (.var 0) 9) (.idx (.attr (.var 0) 15) (.var 1))) 2)) (.cons (.set 3 (.bin ae .sub (.var 1) (.idx (.attr (.var 0) 14) (.idx (.attr (.var 0) 15) (.var 1))))) (.cons (.ret (.ite (.cmp .lt (.var 3) (.bf ae .len (.var 2))) (.idx (.var 2) (.var 3)) (.cst (.int (-1))))) .nil)))⟩
noncomputable def U_:Fn:=⟨3,[.int (-1)],6,ab,
 (.cons (.set 3 (.idx (.attr (.var 0) 9) (.var 1))) (.cons (.set 4 (.comp ab (.one 5) (.of (.attr (.var 3) 2)) (.idx (.attr (.var 0) 7) (.var 5)))) (.cons (.ite (.cmp .ge (.var 2) (.cst (.int 0))) (.cons (.ex (.da (.var 4) (.insert ()) (.cons (.var 2) (.cons (.cst (.str [46])) .nil)))) .nil) .nil) (.cons (.iw 4) (.cons (.ret (.bin ae .add (.bin ae .add (.idx (.attr (.var 0) 7) (.attr (.var 3) 1)) (.cst (.str [32,58,32]))) (.da (.cst (.str [32])) .join (.cons (.var 4) .nil)))) .nil)))))⟩
noncomputable def Va:Fn:=⟨2,[],2,ab,
 (.cons (.ret (.call 11 (.cons (.var 0) (.cons (.bN (.var 0) 1 8 (.cons (.var 1) .nil)) (.cons (.bN (.var 0) 1 9 (.cons (.var 1) .nil)) .nil))))) .nil)⟩
noncomputable def Vb:Ss:=(.cons (.ite (.cmp .lt (.var 3) (.var 1)) (.cons (.set 2 (.var 3)) .nil) .nil) .nil)
def Vc:Fn:=⟨2,[],4,ab,
 (.cons (.set 2 (.cst (.int (-1)))) (.cons (.cq (.one 3) (.of (.var 0)) Vb) (.cons (.ret (.var 2)) .nil)))⟩
noncomputable def Im:Ss:=(.cons (.ite (.or (.cmp .eq (.var 3) (.cst (.str [101,114,114,111,114]))) (.cmp .isIn (.kQ (.var 3) (.cst (.int 1))) (.tup (.cons (.cst (.str [])) (.cons (.cst (.str [36])) (.cons (.cst (.str [39])) .nil)))))) (.cons .raise .nil) .nil) (.cons (.ite (.cmp .iu (.var 3) (.var 2)) (.cons (.ex (.da (.var 2) .append (.cons (.var 3) .nil))) .nil) .nil) .nil))
noncomputable def Ve:Ss:=(.cons (.ite (.and (.cmp .iu (.var 7) (.var 2)) (.cmp .iu (.var 7) (.var 6))) (.cons (.ex (.da (.var 6) .append (.cons (.var 7) .nil))) .nil) .nil) .nil)
def Io:Ss:=(.cons (.cq (.one 7) (.of (.var 4)) Ve) .nil)
noncomputable def Ip:Ss:=(.cons (.set 10 (.bf ae .tuple (.comp ae (.one 11) (.of (.var 4)) (.da (.var 6) .index (.cons (.var 11) .nil))))) (.cons (.ex (.da (.var 9) .append (.cons (.new 0 (.cons (.bf ae .len (.var 9)) (.cons (.da (.var 6) .index (.cons (.var 3) .nil)) (.cons (.var 10) (.cons (.call 13 (.cons (.var 10) (.cons (.var 8) .nil))) .nil))))) .nil))) .nil))
def Vf:Fn:=⟨2,[.none],12,ab,
 (.cons (.set 2 (.lst ab .nil)) (.cons (.cq (.two 3 4) (.hE (.var 0)) Im) (.cons (.iw 2) (.cons (.set 5 (.ite (.or (.isNone ab (.var 1)) (.cmp .eq (.var 2) (.lst ae .nil))) (.var 1) (.idx (.var 2) (.cst (.int 0))))) (.cons (.ite (.cmp .iu (.var 5) (.var 2)) (.cons .raise .nil) .nil) (.cons (.set 6 (.bf ab .list (.glob 2))) (.cons (.cq (.two 3 4) (.hE (.var 0)) Io) (.cons (.iw 6) (.cons (.set 8 (.bf ae .len (.var 6))) (.cons (.set 6 (.bin ae .add (.bin ae .add (.var 6) (.lst ae (.cons (.cst (.str [36,97,99,99,101,112,116])) .nil))) (.var 2))) (.cons (.set 9 (.lst ab (.cons (.new 0 (.cons (.cst (.int 0)) (.cons (.var 8) (.cons (.tup (.cons (.da (.var 6) .index (.cons (.var 5) .nil)) (.cons (.glob 1) .nil))) (.cons (.glob 1) .nil))))) .nil))) (.cons (.cq (.two 3 4) (.hE (.var 0)) Ip) (.cons (.iw 9) (.cons (.ret (.new 1 (.cons (.var 6) (.cons (.var 8) (.cons (.var 9) (.cons (.aU ae .str .nil .nil) (.cons (.cst .none) (.cons (.da (.var 6) .index (.cons (.var 5) .nil)) .nil)))))))) .nil))))))))))))))⟩
noncomputable def Vg:Fn:=⟨4,[],4,ae,
 (.cons (.dy (.var 0) 0 (.var 1)) (.cons (.dy (.var 0) 17 (.var 2)) (.cons (.dy (.var 0) 18 (.var 3)) (.cons (.dy (.var 0) 19 (.lst ae .nil)) (.cons (.dy (.var 0) 20 (.aU ab .int .nil .nil)) (.cons (.dy (.var 0) 21 (.lst ae .nil)) .nil))))))⟩
noncomputable def Vh:Fn:=⟨2,[],2,ab,
 (.cons (.ret (.da (.attr (.var 0) 20) .get (.cons (.var 1) (.cons (.glob 0) .nil)))) .nil)⟩
noncomputable def Vi:Ss:=(.cons (.ite (.cmp (.gt ()) (.bf ae .len (.attr (.var 3) 2)) (.cst (.int 0))) (.cons (.gm (.var 2) (.attr (.var 3) 1) (.bin ae .bor (.idx (.var 2) (.attr (.var 3) 1)) (.bin ae .shl (.cst (.int 1)) (.idx (.attr (.var 3) 2) (.cst (.int 0)))))) .nil) .nil) .nil)
def Vj:Fn:=⟨2,[],4,ab,
 (.cons (.dy (.var 0) 22 (.var 1)) (.cons (.set 2 (.bin ab .mul (.lst ae (.cons (.cst (.int 0)) .nil)) (.bN (.var 1) 1 4 .nil))) (.cons (.cq (.one 3) (.of (.attr (.var 1) 9)) Vi) (.cons (.iw 2) (.cons (.dy (.var 0) 23 (.call 0 (.cons (.var 2) .nil))) .nil)))))⟩
noncomputable def Vk:Ss:=(.cons (.set 4 (.bN (.attr (.var 0) 22) 1 10 (.cons (.var 3) .nil))) (.cons (.ite (.cmp .ge (.var 4) (.cst (.int 0))) (.cons (.set 2 (.bin ae .bor (.bin ae .bor (.var 2) (.bin ae .shl (.cst (.int 1)) (.var 4))) (.idx (.attr (.var 0) 23) (.var 4)))) .nil) .nil) .nil))
def Vl:Fn:=⟨2,[],5,ab,
 (.cons (.set 2 (.cst (.int 0))) (.cons (.cq (.one 3) (.of (.var 1)) Vk) (.cons (.ret (.var 2)) .nil)))⟩
noncomputable def Vm:Ss:=(.cons (.set 5 (.bN (.attr (.var 0) 22) 1 7 (.cons (.var 4) (.cons (.cst (.int 0)) .nil)))) (.cons (.ite (.cmp .iu (.var 5) (.var 1)) (.cons (.ex (.da (.var 2) .append (.cons (.var 5) .nil))) .nil) .nil) .nil))
def Vn:Ss:=(.cons (.cq (.one 4) (.of (.bN (.attr (.var 0) 22) 1 6 (.cons (.var 3) .nil))) Vm) .nil)
def Vo:Fn:=⟨2,[],6,ab,
 (.cons (.set 2 (.lst ab .nil)) (.cons (.cq (.one 3) (.of (.call 1 (.cons (.bN (.var 0) 3 18 (.cons (.var 1) .nil)) .nil))) Vn) (.cons (.ret (.bf ae .sorted (.var 2))) .nil)))⟩
noncomputable def Vp:Fn:=⟨2,[],2,ab,
 (.cons (.ret (.bin ae .add (.bf ae .sorted (.var 1)) (.bN (.var 0) 3 19 (.cons (.var 1) .nil)))) .nil)⟩
noncomputable def Vq:Fn:=⟨2,[],2,ab,
 (.cons (.ret (.bN (.new 3 (.cons (.var 0) .nil)) 3 20 (.cons (.var 1) .nil))) .nil)⟩
noncomputable def Vr:Fn:=⟨2,[],2,ab,
 (.cons (.ret (.bN (.var 0) 1 7 (.cons (.bN (.var 0) 1 8 (.cons (.var 1) .nil)) (.cons (.bin ae .add (.bN (.var 0) 1 9 (.cons (.var 1) .nil)) (.cst (.int 1))) .nil)))) .nil)⟩
noncomputable def Vs:Ss:=(.cons (.set 4 (.bN (.var 0) 1 10 (.cons (.var 3) .nil))) (.cons (.ite (.cmp .ge (.var 4) (.cst (.int 0))) (.cons (.ite (.cmp .iu (.var 4) (.var 2)) (.cons (.gm (.var 2) (.var 4) (.lst ab .nil)) .nil) .nil) (.cons (.ex (.da (.idx (.var 2) (.var 4)) .append (.cons (.call 22 (.cons (.var 0) (.cons (.var 3) .nil))) .nil))) .nil)) .nil) .nil))
noncomputable def Vt:Ss:=(.cons (.gm (.var 5) (.var 4) (.bf ae .tuple (.bf ae .sorted (.idx (.var 2) (.var 4))))) .nil)
def Vu:Fn:=⟨2,[],6,ab,
 (.cons (.set 2 (.aU ab .int .nil .nil)) (.cons (.cq (.one 3) (.of (.var 1)) Vs) (.cons (.set 5 (.aU ab .int .nil .nil)) (.cons (.cq (.one 4) (.of (.bf ae .sorted (.var 2))) Vt) (.cons (.ret (.var 5)) .nil)))))⟩
noncomputable def Vv:Ss:=(.cons (.ite (.and (.cmp .lt (.bN (.var 0) 1 10 (.cons (.var 3) .nil)) (.cst (.int 0))) (.cmp .ne (.bN (.var 0) 1 8 (.cons (.var 3) .nil)) (.cst (.int 0)))) (.cons (.ex (.da (.var 2) .append (.cons (.bN (.var 0) 1 8 (.cons (.var 3) .nil)) .nil))) .nil) .nil) .nil)
def Vw:Fn:=⟨2,[],4,ab,
 (.cons (.set 2 (.lst ab .nil)) (.cons (.cq (.one 3) (.of (.var 1)) Vv) (.cons (.ret (.bf ae .sorted (.var 2))) .nil)))⟩
noncomputable def Vx:Fn:=⟨3,[],3,ae,
 (.cons (.dy (.var 0) 22 (.var 1)) (.cons (.dy (.var 0) 24 (.var 2)) .nil))⟩
noncomputable def Vy:Fn:=⟨3,[],3,ab,
 (.cons (.ret (.bN (.idx (.attr (.var 0) 24) (.var 1)) 2 16 (.cons (.var 2) .nil))) .nil)⟩
noncomputable def Vz:Ss:=(.cons (.ite (.cmp .eq (.var 3) (.glob 0)) (.cons (.ret (.glob 0)) .nil) .nil) (.cons (.set 3 (.bN (.var 0) 4 26 (.cons (.var 3) (.cons (.var 4) .nil)))) .nil))
def VA:Fn:=⟨3,[],5,ab,
 (.cons (.set 3 (.var 1)) (.cons (.cq (.one 4) (.of (.var 2)) Vz) (.cons (.ret (.var 3)) .nil)))⟩
noncomputable def VB:Ss:=(.cons (.set 5 (.bN (.var 0) 4 26 (.cons (.idx (.var 3) (.cst (.int (-1)))) (.cons (.var 4) .nil)))) (.cons (.ite (.cmp .eq (.var 5) (.glob 0)) (.cons (.ret (.var 3)) .nil) .nil) (.cons (.ex (.da (.var 3) .append (.cons (.var 5) .nil))) .nil)))
def VC:Fn:=⟨3,[],6,ab,
 (.cons (.set 3 (.lst ab (.cons (.var 1) .nil))) (.cons (.cq (.one 4) (.of (.var 2)) VB) (.cons (.ret (.var 3)) .nil)))⟩
noncomputable def VE:Fn:=⟨1,[],1,ab,
 (.cons (.ret (.bN (.var 0) 4 27 (.cons (.cst (.int 0)) (.cons (.attr (.idx (.attr (.attr (.var 0) 22) 9) (.cst (.int 0))) 2) .nil)))) .nil)⟩
noncomputable def VF:Fn:=⟨1,[],2,ab,
 (.cons (.ret (.bf ae .sum (.comp ae (.one 1) (.of (.attr (.var 0) 24)) (.bf ae .len (.attr (.var 1) 20))))) .nil)⟩
noncomputable def VG:Fn:=⟨2,[],2,ae,
 (.cons (.dy (.var 0) 22 (.var 1)) (.cons (.dy (.var 0) 25 (.new 3 (.cons (.var 1) .nil))) (.cons (.dy (.var 0) 24 (.lst ab .nil)) (.cons (.dy (.var 0) 26 (.aU ab (.ints ()) .nil .nil)) .nil))))⟩
noncomputable def VH:Fn:=⟨3,[],3,ae,
 (.cons (.ite (.cmp .iu (.var 1) (.attr (.var 0) 26)) (.cons (.gm (.attr (.var 0) 26) (.var 1) (.bf ae .len (.attr (.var 0) 24))) (.cons (.ex (.da (.attr (.var 0) 24) .append (.cons (.new 2 (.cons (.bf ae .len (.attr (.var 0) 24)) (.cons (.var 1) (.cons (.var 2) .nil)))) .nil))) .nil)) .nil) (.cons (.ret (.idx (.attr (.var 0) 26) (.var 1))) .nil))⟩
noncomputable def VI:Ss:=(.cons (.gm (.attr (.var 1) 20) (.var 3) (.bN (.var 0) 5 32 (.cons (.idx (.var 2) (.var 3)) (.cons (.var 3) .nil)))) .nil)
def VJ:Fn:=⟨2,[],4,ae,
 (.cons (.dy (.var 1) 19 (.bN (.attr (.var 0) 25) 3 20 (.cons (.attr (.var 1) 17) .nil))) (.cons (.dy (.var 1) 21 (.call 24 (.cons (.attr (.var 0) 22) (.cons (.attr (.var 1) 19) .nil)))) (.cons (.set 2 (.call 23 (.cons (.attr (.var 0) 22) (.cons (.attr (.var 1) 19) .nil)))) (.cons (.cq (.one 3) (.of (.var 2)) VI) .nil))))⟩
noncomputable def VK:Ss:=(.cons (.ex (.bN (.var 0) 5 33 (.cons (.idx (.attr (.var 0) 24) (.var 1)) .nil))) (.cons (.set 1 (.bin ae .add (.var 1) (.cst (.int 1)))) .nil))
def VL:Fn:=⟨1,[],2,ae,
 (.cons (.ex (.bN (.var 0) 5 32 (.cons (.tup (.cons (.bN (.attr (.var 0) 22) 1 7 (.cons (.cst (.int 0)) (.cons (.cst (.int 0)) .nil))) .nil)) (.cons (.glob 0) .nil)))) (.cons (.set 1 (.cst (.int 0))) (.cons (.mH (.cmp .lt (.var 1) (.bf ae .len (.attr (.var 0) 24))) VK) (.cons (.ret (.new 4 (.cons (.attr (.var 0) 22) (.cons (.attr (.var 0) 24) .nil)))) .nil))))⟩
noncomputable def VM:Fn:=⟨1,[],1,ab,
 (.cons (.ret (.bN (.new 5 (.cons (.var 0) .nil)) 5 34 .nil)) .nil)⟩
noncomputable def VN:Ss:=(.cons (.ex (.da (.idx (.var 1) (.idx (.attr (.var 2) 20) (.var 3))) .append (.cons (.attr (.var 2) 0) .nil))) .nil)
def VO:Ss:=(.cons (.cq (.one 3) (.of (.attr (.var 2) 20)) VN) .nil)
def VQ:Fn:=⟨1,[],5,ab,
 (.cons (.set 1 (.comp ab (.one 4) (.of (.attr (.var 0) 24)) (.lst ab .nil))) (.cons (.cq (.one 2) (.of (.attr (.var 0) 24)) VO) (.cons (.ret (.var 1)) .nil)))⟩
noncomputable def VS:Ss:=(.cons (.gm (.var 6) (.var 8) (.cst (.bool ab))) .nil)
def VT:Ss:=(.cons (.cq (.one 8) (.of (.idx (.var 3) (.var 7))) VS) .nil)
def VU:Ss:=(.cons (.set 6 (.aU ab .int .nil .nil)) (.cons (.cq (.one 7) (.of (.var 4)) VT) (.cons (.set 4 (.bf ae .sorted (.var 6))) .nil)))
def VV:Fn:=⟨3,[],9,ab,
 (.cons (.set 3 (.call 36 (.cons (.var 0) .nil))) (.cons (.set 4 (.lst ae (.cons (.var 1) .nil))) (.cons (.cq (.one 5) (.range (.var 2)) VU) (.cons (.ret (.var 4)) .nil))))⟩
noncomputable def Iq:Ss:=(.cons (.ite (.isNone ae (.idx (.var 2) (.idx (.var 6) (.var 7)))) (.cons (.gm (.var 2) (.idx (.var 6) (.var 7)) (.bin ae .add (.idx (.var 2) (.var 5)) (.tup (.cons (.var 7) .nil)))) (.cons (.ex (.da (.var 3) .append (.cons (.idx (.var 6) (.var 7)) .nil))) .nil)) .nil) .nil)
def VW:Ss:=(.cons (.set 5 (.idx (.var 3) (.var 4))) (.cons (.set 6 (.attr (.idx (.attr (.var 0) 24) (.var 5)) 20)) (.cons (.cq (.one 7) (.of (.var 6)) Iq) (.cons (.set 4 (.bin ae .add (.var 4) (.cst (.int 1)))) .nil))))
def VX:Fn:=⟨2,[],9,ab,
 (.cons (.set 2 (.comp ab (.one 8) (.of (.attr (.var 0) 24)) (.cst .none))) (.cons (.gm (.var 2) (.var 1) (.tup .nil)) (.cons (.set 3 (.lst ab (.cons (.var 1) .nil))) (.cons (.set 4 (.cst (.int 0))) (.cons (.mH (.cmp .lt (.var 4) (.bf ae .len (.var 3))) VW) (.cons (.ret (.var 2)) .nil))))))⟩
noncomputable def VY:Fn:=⟨2,[],2,ab,
 (.cons (.ret (.idx (.call 38 (.cons (.var 0) (.cons (.cst (.int 0)) .nil))) (.var 1))) .nil)⟩
noncomputable def VZ:Fn:=⟨2,[],2,ab,
 (.cons (.ret (.cmp .ne (.bN (.var 0) 4 27 (.cons (.cst (.int 0)) (.cons (.var 1) .nil))) (.glob 0))) .nil)⟩
noncomputable def V0:Fn:=⟨2,[],3,ab,
 (.cons (.set 2 (.bN (.var 0) 4 27 (.cons (.cst (.int 0)) (.cons (.var 1) .nil)))) (.cons (.ite (.cmp .eq (.var 2) (.glob 0)) (.cons (.ret (.lst ae .nil)) .nil) .nil) (.cons (.ret (.bf ae .sorted (.attr (.idx (.attr (.var 0) 24) (.var 2)) 19))) .nil)))⟩
noncomputable def V1:Fn:=⟨2,[],3,ab,
 (.cons (.ret (.comp ae (.one 2) (.of (.attr (.idx (.attr (.var 0) 24) (.var 1)) 19)) (.call 12 (.cons (.attr (.var 0) 22) (.cons (.var 2) .nil))))) .nil)⟩
noncomputable def V2:Ss:=(.cons (.set 1 (.bin ae .add (.bin ae .add (.bin ae .mul (.var 1) (.cst (.int 1009))) (.bin ae .mul (.cst (.int 2)) (.bf ae .abs (.bf ae .int (.var 2))))) (.bf ae .int (.cmp .lt (.var 2) (.cst (.int 0)))))) .nil)
def V3:Fn:=⟨1,[],3,ae,
 (.cons (.set 1 (.cst (.int 7))) (.cons (.cq (.one 2) (.of (.kQ (.var 0) (.cst (.int 63)))) V2) (.cons (.ret (.lst ab (.cons (.var 1) (.cons (.cst (.int 0)) .nil)))) .nil)))⟩
noncomputable def V4:Fn:=⟨2,[],3,ae,
 (.cons (.ite (.cmp .eq (.idx (.var 0) (.cst (.int 0))) (.cst (.int 0))) (.cons (.gm (.var 0) (.cst (.int 1)) (.bin ae .add (.idx (.var 0) (.cst (.int 1))) (.cst (.int 1)))) (.cons (.gm (.var 0) (.cst (.int 0)) (.bin ae .add (.bin ae .mul (.cst (.int 1009)) (.idx (.var 0) (.cst (.int 1)))) (.cst (.int 5419)))) .nil)) .nil) (.cons (.set 2 (.bin ae .mod (.idx (.var 0) (.cst (.int 0))) (.var 1))) (.cons (.gm (.var 0) (.cst (.int 0)) (.bin ae .fdiv (.idx (.var 0) (.cst (.int 0))) (.var 1))) (.cons (.ret (.var 2)) .nil))))⟩
noncomputable def V5:Fn:=⟨2,[],2,ae,
 (.cons (.ret (.idx (.var 1) (.call 44 (.cons (.var 0) (.cons (.bf ae .len (.var 1)) .nil))))) .nil)⟩
noncomputable def V6:Ss:=(.cons (.ex (.da (.var 2) .append (.cons (.tup (.cons (.var 3) (.cons (.bf ae .tuple (.comp ae (.one 6) (.range (.call 44 (.cons (.var 0) (.cons (.cst (.int 3)) .nil)))) (.call 45 (.cons (.var 0) (.cons (.lst ae (.cons (.cst (.str [97])) (.cons (.cst (.str [98])) .nil))) .nil))))) .nil))) .nil))) .nil)
noncomputable def V7:Ss:=(.cons (.qq [3,5] (.cons (.call 45 (.cons (.var 0) (.cons (.var 1) .nil))) (.cons (.call 44 (.cons (.var 0) (.cons (.cst (.int 4)) .nil))) .nil))) (.cons (.ex (.da (.var 2) .append (.cons (.tup (.cons (.var 3) (.cons (.bf ae .tuple (.comp ae (.one 7) (.range (.var 5)) (.call 45 (.cons (.var 0) (.cons (.bin ae .add (.bin ae .add (.var 1) (.lst ae (.cons (.cst (.str [97])) (.cons (.cst (.str [98])) .nil)))) (.var 1)) .nil))))) .nil))) .nil))) .nil))
def V8:Fn:=⟨1,[],8,ae,
 (.cons (.set 1 (.kQ (.lst ae (.cons (.cst (.str [83])) (.cons (.cst (.str [84])) (.cons (.cst (.str [85])) .nil)))) (.bin ae .add (.cst (.int 1)) (.call 44 (.cons (.var 0) (.cons (.cst (.int 3)) .nil)))))) (.cons (.set 2 (.lst ab .nil)) (.cons (.cq (.one 3) (.of (.var 1)) V6) (.cons (.cq (.one 4) (.range (.bin ae .add (.cst (.int 1)) (.call 44 (.cons (.var 0) (.cons (.bin ae .sub (.cst (.int 6)) (.bf ae .len (.var 1))) .nil))))) V7) (.cons (.ret (.var 2)) .nil)))))⟩
noncomputable def V9:Ss:=(.cons (.gm (.var 1) (.idx (.var 3) (.cst (.int 0))) (.bin ae .add (.da (.var 1) .get (.cons (.idx (.var 3) (.cst (.int 0))) (.cons (.lst ae .nil) .nil))) (.lst ae (.cons (.tup (.cons (.var 2) (.cons (.idx (.var 3) (.cst (.int 1))) .nil))) .nil)))) .nil)
def V_:Fn:=⟨1,[],4,ab,
 (.cons (.set 1 (.aU ab .str .nil .nil)) (.cons (.cq (.two 2 3) (.enum (.var 0)) V9) (.cons (.ret (.var 1)) .nil)))⟩
noncomputable def Wa:Ss:=(.cons (.set 9 (.kQ (.var 9) (.cst (.int (-1))))) .nil)
def Ir:Ss:=(.cons (.set 9 (.bin ae .add (.kQ (.var 6) (.cst (.int (-1)))) (.var 8))) (.cons (.mH (.and (.cmp .ne (.var 9) (.tup .nil)) (.cmp .iu (.idx (.var 9) (.cst (.int (-1)))) (.var 0))) Wa) (.cons (.ite (.and (.cmp .ne (.var 9) (.tup .nil)) (.and (.cmp .le (.bf ae .len (.var 9)) (.var 1)) (.cmp .iu (.var 9) (.var 4)))) (.cons (.gm (.var 4) (.var 9) (.cst (.bool ab))) (.cons (.ex (.da (.var 3) .append (.cons (.var 9) .nil))) .nil)) .nil) .nil)))
def Wb:Ss:=(.cons (.set 6 (.idx (.var 3) (.var 5))) (.cons (.cq (.two 7 8) (.hE (.idx (.var 0) (.idx (.var 6) (.cst (.int (-1)))))) Ir) (.cons (.ite (.cmp (.gt ()) (.bf ae .len (.var 3)) (.var 2)) (.cons (.ret (.cst .none)) .nil) .nil) (.cons (.set 5 (.bin ae .add (.var 5) (.cst (.int 1)))) .nil))))
def Wd:Fn:=⟨3,[],10,ab,
 (.cons (.qq [3,4,5] (.cons (.lst ab (.cons (.tup (.cons (.cst (.str [36,97,99,99,101,112,116])) .nil)) .nil)) (.cons (.aU ab .strs (.cons (.tup (.cons (.cst (.str [36,97,99,99,101,112,116])) .nil)) .nil) (.cons (.cst (.bool ab)) .nil)) (.cons (.cst (.int 0)) .nil)))) (.cons (.mH (.cmp .lt (.var 5) (.bf ae .len (.var 3))) Wb) (.cons (.ret (.var 3)) .nil)))⟩
noncomputable def We:Ss:=(.cons (.set 2 (.call 48 (.cons (.var 0) (.cons (.bin ae .add (.var 1) (.cst (.int 3))) (.cons (.cst (.int 160)) .nil))))) (.cons (.ite (.isNone ab (.var 2)) (.cons (.ret (.tup (.cons (.var 1) (.cons (.var 2) .nil)))) .nil) .nil) .nil))
def Wf:Fn:=⟨1,[],3,ab,
 (.cons (.cq (.one 1) (.of (.tup (.cons (.cst (.int 3)) (.cons (.cst (.int 2)) .nil)))) We) (.cons (.ret (.tup (.cons (.cst (.int 1)) (.cons (.call 48 (.cons (.var 0) (.cons (.cst (.int 4)) (.cons (.bin ae (.pow ()) (.cst (.int 10)) (.cst (.int 6))) .nil)))) .nil)))) .nil))⟩
noncomputable def Wg:Ss:=(.cons (.set 8 (.bin ae .add (.kQ (.var 4) (.cst (.int (-1)))) (.kQ (.var 6) (.var 7)))) (.cons (.ite (.cmp .le (.bf ae .len (.var 8)) (.var 2)) (.cons (.gm (.var 3) (.var 8) (.bin ae .add (.da (.var 3) .get (.cons (.var 8) (.cons (.lst ae .nil) .nil))) (.lst ae (.cons (.tup (.cons (.var 5) (.cons (.var 7) .nil))) .nil)))) .nil) .nil) .nil))
def Wh:Ss:=(.cons (.cq (.one 7) (.range (.bin ae .add (.bf ae .len (.var 6)) (.cst (.int 1)))) Wg) .nil)
def Wi:Ss:=(.cons (.cq (.two 5 6) (.hE (.idx (.var 0) (.idx (.var 4) (.cst (.int (-1)))))) Wh) .nil)
def Wj:Fn:=⟨3,[],10,ab,
 (.cons (.set 3 (.aU ab .strs .nil .nil)) (.cons (.cq (.one 4) (.of (.var 1)) Wi) (.cons (.iw 3) (.cons (.ret (.bf ae (.dict .strs) (.comp ae (.one 9) (.of (.var 3)) (.tup (.cons (.var 9) (.cons (.bf ae .sorted (.idx (.var 3) (.var 9))) .nil)))))) .nil))))⟩
noncomputable def Wk:Ss:=(.cons (.ex (.da (.var 2) .append (.cons (.tup (.cons (.idx (.attr (.var 0) 7) (.attr (.var 3) 1)) (.cons (.bf ae .tuple (.comp ae (.one 4) (.of (.attr (.var 3) 2)) (.idx (.attr (.var 0) 7) (.var 4)))) .nil))) .nil))) .nil)
def Wl:Fn:=⟨2,[],5,ab,
 (.cons (.set 2 (.lst ab .nil)) (.cons (.cq (.one 3) (.of (.attr (.var 0) 9)) Wk) (.cons (.iw 2) (.cons (.ret (.cmp .eq (.var 2) (.var 1))) .nil))))⟩
noncomputable def Wm:Fn:=⟨4,[],13,ab,
 (.cons (.set 4 (.bf ae .sorted (.comp ae (.two 7 8) (.hE (.var 3)) (.bN (.var 0) 1 7 (.cons (.var 7) (.cons (.var 8) .nil)))))) (.cons (.set 5 (.bf ae .sorted (.iT ae (.two 9 10) (.hE (.var 3)) (.or (.cmp (.gt ()) (.var 10) (.cst (.int 0))) (.cmp .eq (.var 9) (.cst (.int 0)))) (.bN (.var 0) 1 7 (.cons (.var 9) (.cons (.var 10) .nil)))))) (.cons (.set 6 (.iT ae (.two 11 12) (.hE (.var 3)) (.and (.cmp (.gt ()) (.var 11) (.cst (.int 0))) (.cmp .eq (.var 12) (.bf ae .len (.attr (.idx (.attr (.var 0) 9) (.var 11)) 2)))) (.var 11))) (.cons (.ite (.or (.cmp .ne (.bf ae .sorted (.attr (.var 1) 19)) (.var 4)) (.or (.cmp .ne (.bf ae .list (.attr (.var 1) 17)) (.var 5)) (.cmp .ne (.kQ (.bf ae .list (.attr (.var 1) 19)) (.bf ae .len (.var 5))) (.var 5)))) (.cons (.ret (.cst (.bool ae))) .nil) .nil) (.cons (.ret (.and (.cmp .eq (.bf ae .list (.attr (.var 1) 21)) (.var 6)) (.cmp .eq (.attr (.var 1) 18) (.ite (.cmp .ne (.var 2) (.tup .nil)) (.bN (.var 0) 1 5 (.cons (.idx (.var 2) (.cst (.int (-1)))) .nil)) (.cst (.int (-1))))))) .nil)))))⟩
noncomputable def B4:Ss:=(.cons (.set 11 (.bN (.var 1) 4 26 (.cons (.var 8) (.cons (.var 9) .nil)))) (.cons (.ite (.cmp .ne (.cmp .ge (.var 11) (.cst (.int 0))) (.cmp .isIn (.bin ae .add (.var 7) (.tup (.cons (.var 10) .nil))) (.var 2))) (.cons (.ret (.cst .none)) .nil) .nil) (.cons (.ite (.cmp .ge (.var 11) (.cst (.int 0))) (.cons (.ex (.da (.var 4) .append (.cons (.tup (.cons (.bin ae .add (.var 7) (.tup (.cons (.var 10) .nil))) (.cons (.var 11) .nil))) .nil))) .nil) .nil) .nil)))
def Wn:Ss:=(.cons (.mG [7,8] (.idx (.var 4) (.var 6))) (.cons (.ite (.cmp .eq (.var 8) (.bf ae .len (.var 5))) (.cons (.ite (.not (.call 52 (.cons (.var 0) (.cons (.idx (.attr (.var 1) 24) (.var 8)) (.cons (.var 7) (.cons (.idx (.var 2) (.var 7)) .nil)))))) (.cons (.ret (.cst .none)) .nil) .nil) (.cons (.ex (.da (.var 5) .append (.cons (.var 7) .nil))) .nil)) .nil) (.cons (.ite (.or (.cmp (.gt ()) (.var 8) (.bf ae .len (.var 5))) (.cmp .ne (.idx (.var 2) (.idx (.var 5) (.var 8))) (.idx (.var 2) (.var 7)))) (.cons (.ret (.cst .none)) .nil) .nil) (.cons (.ite (.cmp .lt (.bf ae .len (.var 7)) (.var 3)) (.cons (.cq (.two 9 10) (.enum (.attr (.var 0) 7)) B4) .nil) .nil) (.cons (.set 6 (.bin ae .add (.var 6) (.cst (.int 1)))) .nil)))))
def Wo:Fn:=⟨4,[],12,ab,
 (.cons (.qq [4,5,6] (.cons (.lst ab (.cons (.tup (.cons (.tup .nil) (.cons (.cst (.int 0)) .nil))) .nil)) (.cons (.lst ab .nil) (.cons (.cst (.int 0)) .nil)))) (.cons (.mH (.cmp .lt (.var 6) (.bf ae .len (.var 4))) Wn) (.cons (.iw 4) (.cons (.iw 5) (.cons (.ret (.tup (.cons (.var 4) (.cons (.var 5) .nil)))) .nil)))))⟩
noncomputable def Wq:Ss:=(.cons (.ite (.or (.isNone ae (.var 5)) (.cmp .ne (.bN (.var 0) 4 27 (.cons (.cst (.int 0)) (.cons (.var 5) .nil))) (.var 4))) (.cons (.ret (.cst (.bool ae))) .nil) .nil) (.cons (.ite (.ite (.cmp .lt (.var 4) (.bf ae .len (.var 1))) (.cmp .ne (.var 5) (.idx (.var 1) (.var 4))) (.cmp .le (.bf ae .len (.var 5)) (.var 2))) (.cons (.ret (.cst (.bool ae))) .nil) .nil) .nil))
def Wr:Fn:=⟨3,[],6,ab,
 (.cons (.set 3 (.call 38 (.cons (.var 0) (.cons (.cst (.int 0)) .nil)))) (.cons (.ite (.cmp .ne (.bf ae .len (.var 3)) (.bf ae .len (.attr (.var 0) 24))) (.cons (.ret (.cst (.bool ae))) .nil) .nil) (.cons (.cq (.two 4 5) (.enum (.var 3)) Wq) (.cons (.ret (.cmp .eq (.call 39 (.cons (.var 0) (.cons (.bin ae .sub (.bf ae .len (.var 3)) (.cst (.int 1))) .nil))) (.idx (.var 3) (.cst (.int (-1)))))) .nil))))⟩
noncomputable def Ws:Ss:=(.cons (.ex (.da (.var 3) .append (.cons (.idx (.attr (.idx (.attr (.var 0) 24) (.idx (.var 3) (.cst (.int (-1))))) 20) (.var 4)) .nil))) .nil)
noncomputable def Wt:Ss:=(.cons (.ex (.da (.idx (.var 5) (.var 7)) .append (.cons (.attr (.var 6) 0) .nil))) .nil)
def Wu:Ss:=(.cons (.cq (.one 7) (.of (.bf ae (.dict .int) (.comp ae (.one 12) (.of (.attr (.var 6) 20)) (.tup (.cons (.idx (.attr (.var 6) 20) (.var 12)) (.cons (.cst (.bool ab)) .nil)))))) Wt) .nil)
noncomputable def Wv:Ss:=(.cons (.set 9 (.iT ae (.one 14) (.range (.bf ae .len (.var 5))) (.cmp .ne (.iT ae (.one 15) (.of (.var 9)) (.cmp .isIn (.var 14) (.idx (.var 5) (.var 15))) (.var 15)) (.lst ae .nil)) (.var 14))) .nil)
def Ww:Fn:=⟨3,[],16,ab,
 (.cons (.set 3 (.lst ab (.cons (.cst (.int 0)) .nil))) (.cons (.cq (.one 4) (.of (.var 1)) Ws) (.cons (.iw 3) (.cons (.ite (.or (.cmp .ne (.idx (.var 3) (.cst (.int (-1)))) (.var 2)) (.or (.cmp .ne (.bN (.var 0) 4 28 (.cons (.cst (.int 0)) (.cons (.var 1) .nil))) (.var 3)) (.cmp .ne (.bN (.var 0) 4 28 (.cons (.cst (.int 0)) (.cons (.bin ae .add (.var 1) (.lst ae (.cons (.cst (.int 1)) (.cons (.cst (.int 1)) .nil)))) .nil))) (.var 3)))) (.cons (.ret (.cst (.bool ae))) .nil) .nil) (.cons (.set 5 (.comp ab (.one 11) (.of (.attr (.var 0) 24)) (.lst ab .nil))) (.cons (.cq (.one 6) (.of (.attr (.var 0) 24)) Wu) (.cons (.set 8 (.bf ae .sum (.comp ae (.one 13) (.of (.attr (.var 0) 24)) (.bf ae .len (.attr (.var 13) 20))))) (.cons (.iw 5) (.cons (.ite (.or (.cmp .ne (.call 36 (.cons (.var 0) .nil)) (.var 5)) (.cmp .ne (.bN (.var 0) 4 30 .nil) (.var 8))) (.cons (.ret (.cst (.bool ae))) .nil) .nil) (.cons (.set 9 (.lst ae (.cons (.var 2) .nil))) (.cons (.cq (.one 10) (.range (.bf ae .len (.var 1))) Wv) (.cons (.ret (.and (.cmp .eq (.call 37 (.cons (.var 0) (.cons (.var 2) (.cons (.bf ae .len (.var 1)) .nil)))) (.var 9)) (.cmp .isIn (.cst (.int 0)) (.var 9)))) .nil))))))))))))⟩
noncomputable def Wx:Fn:=⟨3,[],5,ab,
 (.cons (.mG [3,4] (.idx (.var 0) (.var 1))) (.cons (.ret (.bin ae .add (.bin ae .add (.var 3) (.cst (.str [32,58,32]))) (.da (.cst (.str [32])) .join (.cons (.bin ae .add (.bin ae .add (.kQ (.var 4) (.var 2)) (.tup (.cons (.cst (.str [46])) .nil))) (.vy (.var 4) (.var 2))) .nil)))) .nil))⟩
noncomputable def Wy:Fn:=⟨1,[],29,ab,
 (.cons (.set 1 (.call 46 (.cons (.call 43 (.cons (.var 0) .nil)) .nil))) (.cons (.iw 1) (.cons (.set 2 (.bin ae .add (.lst ae (.cons (.tup (.cons (.cst (.str [36,97,99,99,101,112,116])) (.cons (.tup (.cons (.cst (.str [83])) (.cons (.cst (.str [36,101,110,100])) .nil))) .nil))) .nil)) (.var 1))) (.cons (.set 3 (.call 14 (.cons (.comp ae (.two 19 20) (.hE (.var 1)) (.tup (.cons (.var 19) (.cons (.bf ae .list (.var 20)) .nil)))) .nil))) (.cons (.ite (.not (.call 51 (.cons (.var 3) (.cons (.var 2) .nil)))) (.cons (.ret (.cst (.bool ae))) .nil) .nil) (.cons (.set 4 (.call 47 (.cons (.var 2) .nil))) (.cons (.mG [5,6] (.call 49 (.cons (.var 4) .nil))) (.cons (.qq [7,8] (.cons (.call 50 (.cons (.var 4) (.cons (.var 6) (.cons (.var 5) .nil)))) (.cons (.call 35 (.cons (.var 3) .nil)) .nil))) (.cons (.set 9 (.call 53 (.cons (.var 3) (.cons (.var 8) (.cons (.var 7) (.cons (.var 5) .nil)))))) (.cons (.ite (.or (.isNone ae (.var 9)) (.cmp .ne (.bf ae .len (.idx (.var 9) (.cst (.int 0)))) (.bf ae .len (.var 7)))) (.cons (.ret (.cst (.bool ae))) .nil) .nil) (.cons (.mG [10,11] (.var 9)) (.cons (.set 12 (.bf ae .sorted (.comp ae (.one 21) (.of (.var 11)) (.idx (.var 7) (.var 21))))) (.cons (.set 13 (.comp ae (.one 22) (.of (.var 11)) (.bf ae .tuple (.comp ae (.one 23) (.of (.var 22)) (.bN (.var 3) 1 5 (.cons (.var 23) .nil)))))) (.cons (.ite (.or (.cmp .ne (.iT ae (.one 24) (.rX (.cst (.int 1)) (.bf ae .len (.var 12))) (.cmp .eq (.idx (.var 12) (.bin ae .sub (.var 24) (.cst (.int 1)))) (.idx (.var 12) (.var 24))) (.var 24)) (.lst ae .nil)) (.not (.call 54 (.cons (.var 8) (.cons (.var 13) (.cons (.var 5) .nil)))))) (.cons (.ret (.cst (.bool ae))) .nil) .nil) (.cons (.mG [14,15] (.idx (.var 10) (.cst (.int (-1))))) (.cons (.set 16 (.comp ae (.one 25) (.of (.var 14)) (.bN (.var 3) 1 5 (.cons (.var 25) .nil)))) (.cons (.set 17 (.bf ae .sorted (.comp ae (.two 26 27) (.hE (.idx (.var 7) (.var 14))) (.bN (.var 3) 1 7 (.cons (.var 26) (.cons (.var 27) .nil)))))) (.cons (.ite (.or (.cmp .ne (.call 41 (.cons (.var 8) (.cons (.var 16) .nil))) (.var 17)) (.or (.not (.call 40 (.cons (.var 8) (.cons (.var 16) .nil)))) (.call 40 (.cons (.var 8) (.cons (.bin ae .add (.var 16) (.lst ae (.cons (.cst (.int 1)) .nil))) .nil))))) (.cons (.ret (.cst (.bool ae))) .nil) .nil) (.cons (.ite (.cmp .ne (.call 41 (.cons (.var 8) (.cons (.bin ae .add (.var 16) (.lst ae (.cons (.cst (.int 1)) (.cons (.cst (.int 0)) .nil)))) .nil))) (.lst ae .nil)) (.cons (.ret (.cst (.bool ae))) .nil) .nil) (.cons (.ite (.or (.cmp .ne (.bN (.var 8) 4 29 .nil) (.bN (.var 8) 4 27 (.cons (.cst (.int 0)) (.cons (.lst ae (.cons (.bN (.var 3) 1 5 (.cons (.cst (.str [83])) .nil)) (.cons (.cst (.int 0)) .nil))) .nil)))) (.not (.call 55 (.cons (.var 8) (.cons (.var 16) (.cons (.var 15) .nil)))))) (.cons (.ret (.cst (.bool ae))) .nil) .nil) (.cons (.set 18 (.comp ae (.one 28) (.of (.attr (.idx (.attr (.var 8) 24) (.var 15)) 19)) (.call 56 (.cons (.var 2) (.cons (.bN (.var 3) 1 8 (.cons (.var 28) .nil)) (.cons (.bN (.var 3) 1 9 (.cons (.var 28) .nil)) .nil)))))) (.cons (.ret (.and (.cmp .eq (.call 42 (.cons (.var 8) (.cons (.var 15) .nil))) (.var 18)) (.cmp .eq (.call 21 (.cons (.var 3) (.cons (.attr (.idx (.attr (.var 8) 24) (.var 15)) 17) .nil))) (.attr (.idx (.attr (.var 8) 24) (.var 15)) 19)))) .nil))))))))))))))))))))))⟩
def prog:Prog where
 fns:= [UX,UZ,U0,U2,U3,U4,U5,U6,U7,U8,U9,U_,Va,Vc,Vf,Vg,Vh,Vj,Vl,Vo,Vp,Vq,Vr,Vu,Vw,Vx,Vy,VA,VC,VE,VF,VG,VH,VJ,VL,VM,VQ,VV,VX,VY,VZ,V0,V1,V3,V4,V5,V8,V_,Wd,Wf,Wj,Wl,Wm,Wo,Wr,Ww,Wx,Wy]
 init:= [2,3,15,17,25,31]
 vA:= [ab,ab,ae,ab,ae,ae]
 fk:= [.int (-1),.int 0,.tup [.str [36,101,110,100],.str [101,114,114,111,114],.str [36,117,110,100,101,102,105,110,101,100]]]
section
open PySem PySem.W PySem.Calls PyProof.Rows
noncomputable def one {α:Type}:(l:List α)->Option {a:α//l= [a]}
 | [a]=>S ⟨a,rfl⟩
 |_=>J
noncomputable def nl {a:Type}:(l:List a)->Option (PLift (l= []))
 | []=>S ⟨rfl⟩
 |_=>J
noncomputable def oe (e:aI):Option {x:Str×Pos//e= .Name x.1 x.2}:=if h:e.ctorIdx=23 then S (PySem.Expr.Name.elim e h (λa b=>⟨(a,b),rfl⟩))else J
noncomputable def B5 (e:aI):Option {x:aI×Str×Pos//e= .Attribute x.1 x.2.1 x.2.2}:=if h:e.ctorIdx=20 then S (PySem.Expr.Attribute.elim e h (λa b c=>⟨(a,b,c),rfl⟩))else J
noncomputable def B6 (e:aI):Option {x:aI×aI×Pos//e= .Subscript x.1 x.2.1 x.2.2}:=if h:e.ctorIdx=21 then S (PySem.Expr.Subscript.elim e h (λa b c=>⟨(a,b,c),rfl⟩))else J
noncomputable def Wz (e:aI):Option {x:Option aI×Option aI×Option aI×Pos//e= .Slice x.1 x.2.1 x.2.2.1 x.2.2.2}:=if h:e.ctorIdx=26 then S (PySem.Expr.Slice.elim e h (λa b c d=>⟨(a,b,c,d),rfl⟩))else J
noncomputable def WA (e:aI):Option {x:aI×PySem.Operator×aI×Pos//e= .BinOp x.1 x.2.1 x.2.2.1 x.2.2.2}:=if h:e.ctorIdx=2 then S (PySem.Expr.BinOp.elim e h (λa b c d=>⟨(a,b,c,d),rfl⟩))else J
noncomputable def WB (e:aI):Option {x:aI×List PySem.CmpOp×List aI×Pos//e= .Compare x.1 x.2.1 x.2.2.1 x.2.2.2}:=if h:e.ctorIdx=15 then S (PySem.Expr.Compare.elim e h (λa b c d=>⟨(a,b,c,d),rfl⟩))else J
noncomputable def qx (e:aI):Option {x:PySem.Const×Nat×Pos//e= .Constant x.1 x.2.1 x.2.2}:=if h:e.ctorIdx=19 then S (PySem.Expr.Constant.elim e h (λa b c=>⟨(a,b,c),rfl⟩))else J
noncomputable def vBool (e:aI):Option {x:PySem.BoolOp×List aI×Pos//e= .BoolOp x.1 x.2.1 x.2.2}:=if h:e.ctorIdx=0 then S (PySem.Expr.BoolOp.elim e h (λa b c=>⟨(a,b,c),rfl⟩))else J
noncomputable def Iu (e:aI):Option {x:PySem.UnaryOp×aI×Pos//e= .UnaryOp x.1 x.2.1 x.2.2}:=if h:e.ctorIdx=3 then S (PySem.Expr.UnaryOp.elim e h (λa b c=>⟨(a,b,c),rfl⟩))else J
noncomputable def Iv (e:aI):Option {x:aI×aI×aI×Pos//e= .IfExp x.1 x.2.1 x.2.2.1 x.2.2.2}:=if h:e.ctorIdx=5 then S (PySem.Expr.IfExp.elim e h (λa b c d=>⟨(a,b,c,d),rfl⟩))else J
noncomputable def qz (e:aI):Option {x:List aI×Nat×Pos//e= .Tuple x.1 x.2.1 x.2.2}:=if h:e.ctorIdx=25 then S (PySem.Expr.Tuple.elim e h (λa b c=>⟨(a,b,c),rfl⟩))else J
noncomputable def WC (e:aI):Option {x:List aI×Pos//e= .List x.1 x.2}:=if h:e.ctorIdx=24 then S (PySem.Expr.List.elim e h (λa b=>⟨(a,b),rfl⟩))else J
noncomputable def Iw (e:aI):Option {x:List (Option aI)×List aI×Pos//e= .Dict x.1 x.2.1 x.2.2}:=if h:e.ctorIdx=6 then S (PySem.Expr.Dict.elim e h (λa b c=>⟨(a,b,c),rfl⟩))else J
noncomputable def Iy (e:aI):Option {x:aI×List PySem.Comprehension×PySem.Scope×Pos//e= .ListComp x.1 x.2.1 x.2.2.1 x.2.2.2}:=if h:e.ctorIdx=8 then S (PySem.Expr.ListComp.elim e h (λa b c d=>⟨(a,b,c,d),rfl⟩))else J
noncomputable def B7 (e:aI):Option {x:aI×List aI×List PySem.Keyword×Pos//e= .Call x.1 x.2.1 x.2.2.1 x.2.2.2}:=if h:e.ctorIdx=16 then S (PySem.Expr.Call.elim e h (λa b c d=>⟨(a,b,c,d),rfl⟩))else J
noncomputable def Iz (c:PySem.Const):Option (PLift (c= .none)):=if h:c.ctorIdx=0 then S (PySem.Const.none.elim c h ⟨rfl⟩)else J
noncomputable def cStr (c:PySem.Const):Option {s:Str//c= .str s}:=if h:c.ctorIdx=5 then S (PySem.Const.str.elim c h (λa=>⟨a,rfl⟩))else J
noncomputable def cBool (c:PySem.Const):Option {s:Bool//c= .bool s}:=if h:c.ctorIdx=1 then S (PySem.Const.bool.elim c h (λa=>⟨a,rfl⟩))else J
noncomputable def cInt (c:PySem.Const):Option {i:Int//c= .int i}:=if h:c.ctorIdx=2 then S (PySem.Const.int.elim c h (λa=>⟨a,rfl⟩))else J
noncomputable def WD (s:PySem.Stmt):Option {x:List aI×aI×Pos//s= .Assign x.1 x.2.1 x.2.2}:=if h:s.ctorIdx=5 then S (PySem.Stmt.Assign.elim s h (λa b c=>⟨(a,b,c),rfl⟩))else J
noncomputable def WE (s:PySem.Stmt):Option {x:aI×Pos//s= .Expr x.1 x.2}:=if h:s.ctorIdx=24 then S (PySem.Stmt.Expr.elim s h (λa b=>⟨(a,b),rfl⟩))else J
noncomputable def WG (s:PySem.Stmt):Option {x:aI×List PySem.Stmt×List PySem.Stmt×Pos//s= .If x.1 x.2.1 x.2.2.1 x.2.2.2}:=if h:s.ctorIdx=12 then S (PySem.Stmt.If.elim s h (λa b c d=>⟨(a,b,c,d),rfl⟩))else J
noncomputable def WH (s:PySem.Stmt):Option {x:aI×aI×List PySem.Stmt×List PySem.Stmt×Pos//s= .For x.1 x.2.1 x.2.2.1 x.2.2.2.1 x.2.2.2.2}:=if h:s.ctorIdx=9 then S (PySem.Stmt.For.elim s h (λa b c d f=>⟨(a,b,c,d,f),rfl⟩))else J
noncomputable def WI (s:PySem.Stmt):Option {x:aI×List PySem.Stmt×List PySem.Stmt×Pos//s= .While x.1 x.2.1 x.2.2.1 x.2.2.2}:=if h:s.ctorIdx=11 then S (PySem.Stmt.While.elim s h (λa b c d=>⟨(a,b,c,d),rfl⟩))else J
noncomputable def WJ (s:PySem.Stmt):Option {x:Option aI×Pos//s= .Return x.1 x.2}:=if h:s.ctorIdx=3 then S (PySem.Stmt.Return.elim s h (λa b=>⟨(a,b),rfl⟩))else J
def vJ (e:aI):Option Str:=(oe e).map λx=>x.1.1
theorem WK (h:vJ e=S x):∃p,e= .Name x p:=by
 refine gY h λO _ q=> ?_;obtain ⟨a,e⟩:=O;obtain ⟨y,p⟩:=a
 cases q
 exact⟨p,e⟩
noncomputable abbrev upd (s:PySem.Shared)(h:PySem.Heap)(t:Nat):PySem.Shared:= {s with heap:=h,toks:=t}
structure WL (K:Frag)(C:aO):Prop where
 ga:findIn K (.ref C) "__getattribute__" =S (S (.builtin "object.__getattribute__"))
 gx:findIn K (.ref C) "__getattr__" =S J
 sa:findIn K (.ref C) "__setattr__" =S (S (.builtin "object.__setattr__"))
 over:plainOver K C=ab
 dict:(clsIn K C).any (·.hasDict)=ab
 make:makesIn K C=ab
noncomputable def qA:List Str:= ["len","list","tuple","sorted","sum","dict","abs","int","range","enumerate"]
set_option genInjectivity false in
structure CX where
 prog:Program
 w:World
 K:Frag
 h₀:Heap
 p:Program
 loose:List Str
 mg:Str->Option Value
 mb:Str->Option Value
 T:TopRead p loose mg mb h₀
 X:K.In h₀
 cls:Nat->aO
 fld:Nat->Str
 B8:∀f g,fld f=fld g->f=g
 yK:∀c,c<6->WL K (cls c)
 B9:∀c f,hJ c f=ab->findIn K (.ref (cls c)) (fld f)=S J
 IA:∀x∈qA,nsIn K mainGlobals x=S J
noncomputable abbrev CX.M (C:CX):Model:=model C.prog C.w
noncomputable def intOf:V->Int
 | .int i=>i
 |_=>0
noncomputable def B_:V->Str
 | .str s=>⟨s.toArray⟩
 |_=>⟨#[]⟩
def kh (C:CX):KT->V->Int
 | .int,a=>(intKind C.prog C.w).hash (intOf a)
 | .str,a=>(strKind C.prog C.w).hash (B_ a)
 | .ints _,.tup xs=>(tupleKind (intKind C.prog C.w)).hash (xs.map intOf)
 | .strs,.tup xs=>(tupleKind (strKind C.prog C.w)).hash (xs.map B_)
 |_,_=>0
mutual
noncomputable def VR (C:CX)(h:Heap)(N:aO->Prop):V->Value->Prop
 | .none,v=>v= .none
 | .bool b,v=>v= .bool b
 | .int i,v=>∃t,v= .int i t
 | .str s,v=>∃t,v= .str ⟨s.toArray⟩ t
 | .tup xs,v=>∃a n k,v= .ref a/\¬N a/\h.get? a=S (seqObj "tuple" k n)/\bI C h N xs k.toList
 | .lst xs,v=>∃a n k,v= .ref a/\¬N a/\h.get? a=S (seqObj "list" k n)/\bI C h N xs k.toList
 | .aU t o,v=>∃a n es,v= .ref a/\¬N a/\(a==sysModules)=ae/\h.get? a=S (dictOf es n)/\iV C h N t o es/\(o.map (·.1)).Nodup
 | .obj c q,v=>∃a d n es,v= .ref a/\¬N a/\¬N d/\h.get? a=S (instObj (C.cls c) d)/\h.get? d=S (dictOf es n)/\og C h N q es/\(q.map (·.1)).Nodup
noncomputable def bI (C:CX)(h:Heap)(N:aO->Prop):List V->List Value->Prop
 | [],a=>a= []
 |x::xs,a=>∃v r,a=v::r/\VR C h N x v/\bI C h N xs r
noncomputable def iV (C:CX)(h:Heap)(N:aO->Prop)(t:KT):List (V×V)->List DictEntry->Prop
 | [],es=>es= []
 | (k,x)::r,es=>∃e a,es=e::a/\dS t k=ab/\e.hash=kh C t k/\VR C h N k e.key/\VR C h N x e.val/\iV C h N t r a
noncomputable def og (C:CX)(h:Heap)(N:aO->Prop):List (Nat×V)->List DictEntry->Prop
 | [],es=>es= []
 | (f,x)::r,es=>∃e a b,es=e::a/\e.key= .str (C.fld f) b/\VR C h N x e.val/\og C h N r a
end
theorem bI.length:∀ {xs:List V} {vs:List _},bI C h N xs vs->xs.length=vs.length:=by
 intro a
 induction a with
 |nil=>
  intro vs e
  cases e;rfl
 |cons x xs b=>
  intro vs e
  refine bp e λv r O _ hr=> ?_;clear e;subst O
  simp[b hr]
structure Kept (h h':Heap)(N N':aO->Prop):Prop where
 get:∀b o,h.get? b=S o->¬N b->h'.get? b=S o
 low:∀b o,h.get? b=S o->N' b->N b
theorem Kept.refl (h)(N):Kept h h N N:=⟨λ_ _ e _=>e,λ_ _ _ n=>n⟩
theorem Kept.trans {N k r}(a:Kept h h' N k)(b:Kept h' u k r)(ha:∀c o,h.get? c=S o->¬N c->¬k c):Kept h u N r:=
 ⟨λc o e n=>b.get c o (a.get c o e n) (ha c o e n),λc o e n=>by
  by_cases q:N c
  . exact q
  exact a.low c o e (b.low c o (a.get c o e q) n)⟩
variable {C:CX} {h h':Heap} {N N':aO->Prop}
mutual
theorem VR.mono (k:Kept h h' N N'):∀ {x:V} {v:Value},VR C h N x v->VR C h' N' x v
 | .none,_,e=>e
 | .bool _,_,e=>e
 | .int _,_,e=>e
 | .str _,_,e=>e
 | .tup xs,v,e=>by
  ((refine bU e λa n r O hn b o=> ?_;clear e);obtain rfl:=O)
  exact⟨a,n,r,rfl,λq=>hn (k.low _ _ b q),k.get _ _ b hn,bI.mono k o⟩
 | .lst xs,v,e=>by
  ((refine bU e λa n r O hn b o=> ?_;clear e);obtain rfl:=O)
  exact⟨a,n,r,rfl,λq=>hn (k.low _ _ b q),k.get _ _ b hn,bI.mono k o⟩
 | .aU t G,v,e=>by
  ((refine n4 e λa n es O hn D b o nd=> ?_;clear e);obtain rfl:=O)
  exact⟨a,n,es,rfl,λq=>hn (k.low _ _ b q),D,k.get _ _ b hn,iV.mono k o,nd⟩
 | .obj c H,v,e=>by
  ((refine HC e λa d n es O hn u b y o nd=> ?_;clear e);obtain rfl:=O)
  exact⟨a,d,n,es,rfl,λq=>hn (k.low _ _ b q),λq=>u (k.low _ _ y q),k.get _ _ b hn,k.get _ _ y u,og.mono k o,nd⟩
theorem bI.mono (k:Kept h h' N N'):∀ {xs:List V} {a:List Value},bI C h N xs a->bI C h' N' xs a
 | [],_,e=>e
 |x::xs,a,e=>by
  ((refine bp e λv r O b hr=> ?_;clear e);obtain rfl:=O)
  exact⟨v,r,rfl,VR.mono k b,bI.mono k hr⟩
theorem iV.mono (k:Kept h h' N N'){t:KT}:∀ {b:List (V×V)} {es:List DictEntry},iV C h N t b es->iV C h' N' t b es
 | [],_,e=>e
 | (a,x)::r,es,e=>by
  (revert e;intro O;refine kP O λe c o q u y D G=> ?_;clear O;obtain rfl:=o)
  exact⟨e,c,rfl,q,u,VR.mono k y,VR.mono k D,iV.mono k G⟩
theorem og.mono (k:Kept h h' N N'):∀ {b:List (Nat×V)} {es:List DictEntry},og C h N b es->og C h' N' b es
 | [],_,e=>e
 | (a,x)::r,es,e=>by
  (revert e;intro O;refine bU O λe c o q u y D=> ?_;clear O;obtain rfl:=q)
  exact⟨e,c,o,rfl,u,VR.mono k y,og.mono k D⟩
end
abbrev Lay:=List (aO×aO)
noncomputable def Cell.isDead:Cell->Bool
 | .dead=>ab
 |_=>ae
def own (ι:Lay)(σ:Hp)(b:aO):Prop:=∃(n:Nat) (p:aO×aO) (c:Cell),ι[n]?=S p/\σ[n]?=S c/\c.isDead=ae/\(b=p.1\/b=p.2)
def NN (F:aO->Prop)(ι:Lay)(σ:Hp)(b:aO):Prop:=F b\/own ι σ b
def XR (C:CX)(h:Heap)(N:aO->Prop)(ι:Lay):X->Value->Prop
 | .v a,v=>VR C h N a v
 | .ref n,v=>∃p,ι[n]?=S p/\v= .ref p.1
noncomputable def bJ (C:CX)(h:Heap)(N:aO->Prop)(ι:Lay):List X->List Value->Prop
 | [],a=>a= []
 |x::xs,a=>∃v r,a=v::r/\XR C h N ι x v/\bJ C h N ι xs r
noncomputable def fY (C:CX)(h:Heap)(N:aO->Prop)(ι:Lay)(t:KT):List (V×X)->List DictEntry->Prop
 | [],es=>es= []
 | (k,x)::r,es=>∃e a,es=e::a/\dS t k=ab/\e.hash=kh C t k/\VR C h N k e.key/\XR C h N ι x e.val/\fY C h N ι t r a
noncomputable def g4 (C:CX)(h:Heap)(N:aO->Prop)(ι:Lay):List (Nat×X)->List DictEntry->Prop
 | [],es=>es= []
 | (f,x)::r,es=>∃e a b,es=e::a/\e.key= .str (C.fld f) b/\XR C h N ι x e.val/\g4 C h N ι r a
theorem XR.mono {h c}{N o}{ι r}(k:Kept h c N o)(e:∀(n:Nat) p,ι[n]?=S p->r[n]?=S p):∀ {x:X} {v:Value},XR C h N ι x v->XR C c o r x v
 | .v _,_,q=>VR.mono k q
 | .ref n,_,⟨p,a,b⟩=>⟨p,e n p a,b⟩
theorem bJ.mono {h c}{N o}{ι u}(k:Kept h c N o)(e:∀(n:Nat) p,ι[n]?=S p->u[n]?=S p):∀ {xs:List X} {x:List _},bJ C h N ι xs x->bJ C c o u xs x:=by
 intro y
 induction y with
 |nil=>
  intro _ q
  exact q
 |cons _ G D=>
  intro _ O;exact bp O λv r q a b=>⟨v,r,q,a.mono k e,D b⟩
theorem fY.mono {h o}{N u}{ι x}(k:Kept h o N u)(e:∀(n:Nat) p,ι[n]?=S p->x[n]?=S p){t}:∀ {xs:List _} {y:List _},fY C h N ι t xs y->fY C o u x t xs y:=by
 intro D
 induction D with
 |nil=>
  intro _ q
  exact q
 |cons H I G=>
  intro _ O;exact kP O λv r q a b c d f=>⟨v,r,q,a,b,c.mono k,d.mono k e,G f⟩
theorem g4.mono {h o}{N u}{ι x}(k:Kept h o N u)(e:∀(n:Nat) p,ι[n]?=S p->x[n]?=S p):∀ {xs:List _} {y:List _},g4 C h N ι xs y->g4 C o u x xs y:=by
 intro D
 induction D with
 |nil=>
  intro _ q
  exact q
 |cons I L G=>
  intro _ O;exact bU O λv r H q a b c=>⟨v,r,H,q,a,b.mono k e,G c⟩
theorem bJ.length:∀ {xs:List X} {vs:List _},bJ C h N ι xs vs->xs.length=vs.length:=by
 intro a
 induction a with
 |nil=>
  intro _ e
  cases e;rfl
 |cons _ c b=>
  intro _ O;refine bp O λ_ _ e _ hr=> ?_;clear O
  subst e;simp[b hr]
def tZ (C:CX)(h:Heap)(N:aO->Prop)(ι:Lay)(p:aO×aO):Cell->Prop
 | .dead=>True
 | .lst xs=>p.2=p.1/\∃n a,h.get? p.1=S (seqObj "list" a n)/\bJ C h N ι xs a.toList
 | .aU t b=>p.2=p.1/\(p.1==sysModules)=ae/\∃n es,h.get? p.1=S (dictOf es n)/\fY C h N ι t b es/\(b.map (·.1)).Nodup
 | .obj c k=>p.2≠p.1/\h.get? p.1=S (instObj (C.cls c) p.2)/\∃n es,h.get? p.2=S (dictOf es n)/\g4 C h N ι k es/\(k.map (·.1)).Nodup
structure aL (C:CX)(F:aO->Prop)(ι:Lay)(σ:Hp)(h:Heap):Prop where
 len:ι.length=σ.length
 base:∀b o,C.h₀.get? b=S o->h.get? b=S o
 cells:∀(n:Nat) p c,ι[n]?=S p->σ[n]?=S c->tZ C h (NN F ι σ) ι p c
 apart:∀(n m:Nat) p q c d,ι[n]?=S p->ι[m]?=S q->σ[n]?=S c->σ[m]?=S d->c.isDead=ae->d.isDead=ae->n≠m->
  p.1≠q.1/\p.1≠q.2/\p.2≠q.1/\p.2≠q.2
 fresh:∀b,own ι σ b->C.h₀.get? b=J/\¬F b
 frames:∀b,F b->C.h₀.get? b=J/\∃o,h.get? b=S o
structure Step (C:CX)(F:aO->Prop)(ι:Lay)(σ:Hp)(h:Heap)(ag:Lay)(af:Hp)(h':Heap):Prop where
 inv:aL C F ag af h'
 keep:∀b o,h.get? b=S o->¬own ι σ b->h'.get? b=S o
 ext:∀(n:Nat) p,ι[n]?=S p->ag[n]?=S p
 new:∀b o,h.get? b=S o->own ag af b->own ι σ b
variable {F:aO->Prop} {ι ag gL:Lay} {σ af gq:Hp} {ky:Heap}
theorem Step.refl (i:aL C F ι σ h):Step C F ι σ h ι σ h:=⟨i,λ_ _ e _=>e,λ_ _ e=>e,λ_ _ _ q=>q⟩
theorem Step.trans (a:Step C F ι σ h ag af h')(b:Step C F ag af h' gL gq ky):Step C F ι σ h gL gq ky:=
 ⟨b.inv,λc o e n=>b.keep c o (a.keep c o e n) λq=>n (a.new c o e q),λn p e=>b.ext n p (a.ext n p e),λc o e q=>by
  by_cases n:own ι σ c
  . exact n
  exact a.new c o e (b.new c o (a.keep c o e n) q)⟩
theorem Step.kept (a:Step C F ι σ h ag af h'):Kept h h' (NN F ι σ) (NN F ag af):=
 ⟨λb o e n=>a.keep b o e λq=>n (.inr q),λb o e n=>n.elim .inl λq=> .inr (a.new b o e q)⟩
theorem Step.xr (a:Step C F ι σ h ag af h'){x}{v}(q:XR C h (NN F ι σ) ι x v):XR C h' (NN F ag af) ag x v:=q.mono a.kept a.ext
theorem Step.fm (a:Step C F ι σ h ag af h'){x}{v}(q:bJ C h (NN F ι σ) ι x v):bJ C h' (NN F ag af) ag x v:=q.mono a.kept a.ext
theorem Step.vr (a:Step C F ι σ h ag af h'){x}{v}(q:VR C h (NN F ι σ) x v):VR C h' (NN F ag af) x v:=q.mono a.kept
theorem Step.kz (a:Step C F ι σ h ag af h'){x}{v}(q:bI C h (NN F ι σ) x v):bI C h' (NN F ag af) x v:=q.mono a.kept
def PV (C:CX)(F:aO->Prop)(ι:Lay)(σ:Hp)(s:aT)(x:X)(c:Hp)(Q:Value->aT->Prop):Prop:=∀v a k b,Step C F ι σ s.heap b c a->XR C a (NN F b c) b x v->Q v (upd s a k)
def EV (C:CX)(A:Around)(F:aO->Prop)(ι:Lay)(σ:Hp)(s:aT)(t:Sem Value)(x:X)(a:Hp):Prop:=
 ∀(Q:Value->aT->Prop) (E:Value->aT->Prop),
  PV C F ι σ s x a Q->wpAny C.M A t Q E s
theorem yL {Q:c->aT->Prop}{E}{s}(h:∀a b,(∀v s,Q v s->a v s)->wpAny M A t a b s):wpAny M A t Q E s:=h Q E λ_ _ h=>h
structure cQ (F:aO->Prop)(env:PySem.Env):Prop where
 kind:env.scope.kind= .function
 glob:env.globals=mainGlobals
 blt:env.builtins=builtinsNs
 loc:F env.locals
 mP:∀x c,env.cells.lookup x=S c->F c
 apart:∀x y c,env.cells.lookup x=S c->env.cells.lookup y=S c->x=y
 Cb:∀x c,env.cells.lookup x=S c->c≠env.locals
abbrev SL:=List (Str×Nat)
structure cx (C:CX)(h:Heap)(N:aO->Prop)(ι:Lay)(env:PySem.Env)(sl:SL)(ρ:Env):Prop where
 ns:∃m,h.Ns env.locals m/\∀x i,sl.lookup x=S i->env.kindOf x=S .local->∀val,slot ρ i=S val->∃v,m x=S v/\XR C h N ι val v
 cl:∀x i,sl.lookup x=S i->(env.kindOf x=S .cell\/env.kindOf x=S .free)->∃c w,env.cells.lookup x=S c/\h.IsCell c w/\∀val,slot ρ i=S val->∃v,w=S v/\XR C h N ι val v
variable {A:Around} {s:aT} {env:PySem.Env} {sl:SL} {ρ:Env}
theorem cx.step (fr:cx C h (NN F ι σ) ι env sl ρ)(ok:cQ F env)(i:aL C F ι σ h)(st:Step C F ι σ h ag af h'):cx C h' (NN F ag af) ag env sl ρ:=have y:=λb hb q=>(i.fresh b q).2 hb;ah fr.ns λm hm hr=>⟨⟨m,iP hm λo es D k r=>⟨o,es,D,st.keep _ _ k (y _ ok.loc),r⟩,λx j hx hk val u=>ah (hr x j hx hk _ u) λv a b=>⟨v,a,st.xr b⟩⟩,λx j hx hk=>bp (fr.cl x j hx hk) λc w a O b=>ah O λo k G=>⟨c,w,a,⟨o,st.keep _ _ k (y _ (ok.mP _ _ a)),G⟩,λval u=>ah (b _ u) λv e q=>⟨v,e,st.xr q⟩⟩⟩
theorem EV.Cc (i:aL C F ι σ s.heap){t}{x}{v}(hx:XR C s.heap (NN F ι σ) ι x v)
 (h:∀(Q:Value->aT->Prop) E,(∀a,Q v {s with toks:=a})->wpAny C.M A t Q E s):EV C A F ι σ s t x σ:=λQ E k=>h Q E (k v _ · ι (.refl i) hx)
theorem aiu {x:Str}(h:(x != "__debug__")=ab):(x== "__debug__")=false:=by
 simpa [bne]using h
theorem WM {j}{val}(ok:cQ F env)(i:aL C F ι σ s.heap)(fr:cx C s.heap (NN F ι σ) ι env sl ρ)
 (hx:sl.lookup x=S j)(hk:env.kindOf x=S .local\/env.kindOf x=S .cell\/env.kindOf x=S .free)(b:(x== "__debug__")=ae)(D:(x== "__classdict__")=ae)
 (q:slot ρ j=S val):EV C A F ι σ s (eval (.Name x pos) env) val σ:=by
 rcases hk with hk|hk|hk
 . exact ah fr.ns λm hm hr=>ah (hr x j hx hk _ q) λv G a=> .Cc i a λQ E k=>wpAny_Name (wpAny_loadName_local ok.kind hk hm G (k _)) b
 . refine bp (fr.cl x j hx (.inl hk)) λc w r O hr=>ah O λo u y=> ?_;clear O
   refine ah (hr _ q) λv O a=> ?_;subst O
   exact .Cc i a λQ E k=>wpAny_Name (wpAny_loadName_cell ok.kind hk r ⟨o,u,y⟩ (k _)) b
 . refine bp (fr.cl x j hx (.inr hk)) λc w r O hr=>ah O λo u y=> ?_;clear O
   refine ah (hr _ q) λv O a=> ?_;subst O
   exact .Cc i a λQ E k=>wpAny_Name (wpAny_loadName_free ok.kind hk r ⟨o,u,y⟩ (k _) D) b
theorem WN (i:aL C F ι σ s.heap):EV C A F ι σ s (eval (.Constant (.int n) k pos) env) (.v (.int n)) σ:=λQ E q=>wpAny_Constant_int (q _ _ _ ι (.refl i) ⟨_,rfl⟩)
theorem WO (i:aL C F ι σ s.heap):EV C A F ι σ s (eval (.UnaryOp .USub (.Constant (.int n) k pos) a) env) (.v (.int (-n))) σ:=λQ E q=>wpAny_UnaryOp (wpAny_Constant_int (PyProof.Rows.neg_int (q _ _ _ ι (.refl i) ⟨_,rfl⟩)))
theorem WQ (i:aL C F ι σ s.heap):EV C A F ι σ s (eval (.Constant (.str x) k pos) env) (.v (.str x.cps.toList)) σ:=λQ E q=>wpAny_Constant_str (q _ _ _ ι (.refl i) ⟨_,rfl⟩)
theorem WR (i:aL C F ι σ s.heap):EV C A F ι σ s (eval (.Constant (.bool b) k pos) env) (.v (.bool b)) σ:=λQ E q=>WT (q _ _ _ ι (.refl i) rfl)
theorem Cd (i:aL C F ι σ s.heap):EV C A F ι σ s (eval (.Constant .none k pos) env) (.v .none) σ:=λQ E q=>wpAny_Constant_none (q _ _ _ ι (.refl i) rfl)
theorem IC {v}{Q}{E}(ok:cQ F env)(i:aL C F ι σ s.heap)
 (hk:env.kindOf x=S .globalImplicit)(a:(x== "__debug__")=ae)(e:nsIn C.K mainGlobals x=S (S v))(q:Q v s):wpAny C.M A (eval (.Name x pos) env) Q E s:=WU ok.kind hk (loadGlobal_global (by rw[ok.glob];exact C.T.g.keeps i.base) (mg_of C.X C.T.g e) q) a
theorem WW {v}{Q}{E}(ok:cQ F env)(i:aL C F ι σ s.heap)
 (hk:env.kindOf x=S .globalImplicit)(a:(x== "__debug__")=ae)(e:nsIn C.K mainGlobals x=S J)(c:bootBuiltins x=S v)(hn:x≠ "__name__")(q:Q v s):
 wpAny C.M A (eval (.Name x pos) env) Q E s:=WU ok.kind hk (loadGlobal_builtin (by rw[ok.glob];exact C.T.g.keeps i.base) (mg_none_of C.X C.T.g e) (by rw[ok.blt];exact C.T.b.keeps i.base) ((C.T.builtins x hn).trans c) q) a
theorem WX {x y z}{b a o}
 (hl:EV C A F ι σ s (eval l env) x b)
 (hr:∀h' c ag,Step C F ι σ s.heap ag b h'->EV C A F ag b (upd s h' c) (eval r env) y a)
 (G:∀h' c ag v u,aL C F ag a h'->XR C h' (NN F ag a) ag x v->XR C h' (NN F ag a) ag y u->EV C A F ag a (upd s h' c) (binaryOp H v u) z o):
 EV C A F ι σ s (eval (.BinOp l H r pos) env) z o:=λQ E q=>wpAny_BinOp (hl _ _ λv U Y bh D hx=>hr _ _ _ D _ _ λu bF de eK k I=>G _ _ _ v u k.inv (k.xr hx) I _ _ λw h₃ qB dw L O=>q w _ _ _ ((D.trans k).trans L) O)
theorem vL (i:aL C F ι σ h){b}(q:own ι σ b):∃o,h.get? b=S o:=by
 refine bU q λn p c x y u hb=> ?_;clear q
 have r:=i.cells n p c x y
 cases c with
 |dead=>exact jc u
 |lst xs=>
  refine au r λe k=>dh k λ_ _ a _=> ?_;rcases hb with rfl|rfl
  . exact⟨_,a⟩
  exact Zrr e ⟨_,a⟩
 |aU t D=>
  refine dp r λe _ k=>dh k λ_ _ a _=> ?_;rcases hb with rfl|rfl
  . exact⟨_,a⟩
  exact Zrr e ⟨_,a⟩
 |obj c G=>
  refine dp r λ_ a k=>dh k λ_ _ u _=> ?_;rcases hb with rfl|rfl
  . exact⟨_,a⟩
  exact⟨_,u⟩
theorem ID (i:aL C F ι σ h){b}(q:NN F ι σ b):∃o,h.get? b=S o:=q.elim (λf=>(i.frames b f).2) (vL i)
theorem r_ (i:aL C F ι σ h){b}(e:h.get? b=J):¬NN F ι σ b:=λq=>by
 refine ao (ID i q) λo a=> ?_
 rw[e]at a;exact aD a
theorem gM (h:Heap):h.get? h.objs.size=none:=by
 cases e:h.get? _ with
 |none=>rfl
 |some o=>exact absurd (jf e) (vN _)
theorem Ce {a:aO}(ha:h.objs.size<=a):h.get? a=none:=by
 cases e:h.get? a with
 |none=>rfl
 |some o=>exact absurd (jf e) (o_.mpr ha)
theorem tZ.mono (k:Kept h h' N N')(e:∀(n:Nat) p,ι[n]?=S p->ag[n]?=S p){p}{c}
 (D:∀b o,b=p.1\/b=p.2->c.isDead=ae->h.get? b=S o->h'.get? b=S o)(r:tZ C h N ι p c):tZ C h' N' ag p c:=by
 cases c with
 |dead=>exact trivial
 |lst xs=>
  exact au r λq a=>dh a λn G u x=>⟨q,n,G,D _ _ (.inl rfl) rfl u,x.mono k e⟩
 |aU t I=>
  exact dp r λq y a=>bp a λn es u x nd=>⟨q,y,n,es,D _ _ (.inl rfl) rfl u,x.mono k e,nd⟩
 |obj c L=>
  exact dp r λq u a=>bp a λn es H x nd=>⟨q,D _ _ (.inl rfl) rfl u,n,es,D _ _ (.inr rfl) rfl H,x.mono k e,nd⟩
theorem iy (i:aL C F ι σ h)(k:∀b o,h.get? b=S o->h'.get? b=S o):Step C F ι σ h ι σ h':=have K:=⟨λb o e _=>k b o e,λ_ _ _ q=>q⟩;⟨⟨i.len,λb o e=>k b o (i.base b o e),λn p c a r=>(i.cells n p c a r).mono K (λ_ _ e=>e) λb o _ _ e=>k b o e,i.apart,i.fresh,
 λb f=>⟨(i.frames b f).1,let⟨o,u⟩:=(i.frames b f).2;⟨o,k _ _ u⟩⟩⟩,λb o e _=>k b o e,λ_ _ e=>e,λ_ _ _ q=>q⟩
theorem eQ (h:Heap)(o):∀b a,h.get? b=S a->(h.push o).get? b=S a:=λ_ _ e=>jE o e
theorem sd (hl:ι.length=σ.length){b}(q:own (ι++ [p]) (σ++ [c]) b):own ι σ b\/b=p.1\/b=p.2:=by
 refine bU q λn o r a k u hb=> ?_;by_cases hn:n<ι.length
 . rw[eR hn]at a
   rw[eR (hl▸hn)]at k
   exact .inl ⟨n,o,r,a,k,u,hb⟩
 . have:n=ι.length:=by
    have:=(dk.mp a).1
    simp at this;lia
   subst this
   simp at a
   subst a
   exact .inr hb
theorem vO (i:aL C F ι σ h)(k:∀b o,h.get? b=S o->h'.get? b=S o){p}{c}(x:h.get? p.1=J)(y:h.get? p.2=J)
 (r:tZ C h' (NN F (ι++ [p]) (σ++ [c])) (ι++ [p]) p c):Step C F ι σ h (ι++ [p]) (σ++ [c]) h':=by
 have ex:∀(n:Nat) q,ι[n]?=S q->(ι++ [p])[n]?=S q:=λn q e=>by
  rw[eR (dk.mp e).1];exact e
 have low:∀b o,h.get? b=S o->own (ι++ [p]) (σ++ [c]) b->own ι σ b:=λb o e q=>by
  rcases sd i.len q with q|rfl|rfl
  . exact q
  . rw[x]at e;exact aD e
  . rw[y]at e;exact aD e
 have D:∀(n:Nat) q d,(ι++ [p])[n]?=S q->(σ++ [c])[n]?=S d->n<ι.length/\ι[n]?=S q/\σ[n]?=S d\/n=ι.length/\q=p/\d=c:=λn q d a b=>by
  by_cases hn:n<ι.length
  . rw[eR hn]at a
    rw[eR (i.len▸hn)]at b
    exact .inl ⟨hn,a,b⟩
  . have:n=ι.length:=by
     have:=(dk.mp a).1
     simp at this;lia
    subst this
    rw[i.len]at b
    simp at a b
    exact .inr ⟨rfl,a.symm,b.symm⟩
 have U:∀(n:Nat) q d,ι[n]?=S q->σ[n]?=S d->d.isDead=ae->q.1≠p.1/\q.1≠p.2/\q.2≠p.1/\q.2≠p.2:=λn q d a b e=>by
  refine ao (vL i ⟨n,q,d,a,b,e,.inl rfl⟩) λo1 G=>ao (vL i ⟨n,q,d,a,b,e,.inr rfl⟩) λo2 H=> ?_
  refine⟨?_,?_,?_,?_⟩<;>intro z<;>first|rw[z,x]at G;exact aD G|rw[z,y]at G;exact aD G|rw[z,x]at H;exact aD H|rw[z,y]at H;exact aD H
 refine⟨⟨by simp[i.len],λb o e=>k b o (i.base b o e),λn q d a b=> ?_,λn m q I d L a Y b b' e e' oh=> ?_,λb q=> ?_,
  λb f=>⟨(i.frames b f).1,let⟨o,u⟩:=(i.frames b f).2;⟨o,k _ _ u⟩⟩⟩,λb o e _=>k b o e,ex,low⟩
 . rcases D n q d a b with ⟨_,a,b⟩| ⟨_,rfl,rfl⟩
   . exact(i.cells n q d a b).mono ⟨λb o e _=>k b o e,λb o e q=>q.elim .inl λq=> .inr (low b o e q)⟩ ex λb o _ _ e=>k b o e
   exact r
 . rcases D n q d a b with ⟨_,x1,x2⟩| ⟨hn,hq,hd⟩
   . rcases D m I L Y b' with ⟨_,O,Q⟩| ⟨hm,vQ,er⟩
     . exact i.apart n m q I d L x1 O x2 Q e e' oh
     . rw[vQ];exact U n q d x1 x2 e
   . rcases D m I L Y b' with ⟨_,O,Q⟩| ⟨hm,vQ,er⟩
     . exact mB (U m I L O Q e') λz1 z2 z3 z4=>Zrr hq ⟨z1.symm,z3.symm,z2.symm,z4.symm⟩
     exact absurd (hn.trans hm.symm) oh
 . rcases sd i.len q with q|rfl|rfl
   . exact i.fresh b q
   . refine⟨?_,λf=> ?_⟩
     . cases e:C.h₀.get? _ with
       |none=>rfl
       |some o=>rw[i.base _ _ e]at x;exact kO x
     . refine ao (i.frames _ f).2 λo u=> ?_
       rw[x]at u;exact aD u
   . refine⟨?_,λf=> ?_⟩
     . cases e:C.h₀.get? _ with
       |none=>rfl
       |some o=>rw[i.base _ _ e]at y;exact kO y
     . refine ao (i.frames _ f).2 λo u=> ?_
       rw[y]at u;exact aD u
theorem qD (h:Heap)(o)(a:o.isFreed=ae):(h.push o).get? h.objs.size=S o:=kU _ a
theorem yM (i:aL C F ι σ h){xs}{a}(r:bI C h (NN F ι σ) xs a.toList):
 Step C F ι σ h ι σ (h.push {cls:= .type "tuple",data:= .seq a})/\VR C (h.push {cls:= .type "tuple",data:= .seq a}) (NN F ι σ) (.tup xs) (.ref h.objs.size):=have st:=iy i (eQ _ _);⟨st,⟨_,0,a,rfl,r_ i (gM h),qD _ _ rfl,st.kz r⟩⟩
theorem yN (i:aL C F ι σ h){xs}{a}(r:bI C h (NN F ι σ) xs a.toList):
 Step C F ι σ h ι σ (h.push {cls:= .type "list",data:= .seq a})/\VR C (h.push {cls:= .type "list",data:= .seq a}) (NN F ι σ) (.lst xs) (.ref h.objs.size):=have st:=iy i (eQ _ _);⟨st,⟨_,0,a,rfl,r_ i (gM h),qD _ _ rfl,st.kz r⟩⟩
theorem IE (i:aL C F ι σ h){xs}{a}(r:bJ C h (NN F ι σ) ι xs a.toList):
 Step C F ι σ h (ι++ [(h.objs.size,h.objs.size)]) (σ++ [.lst xs]) (h.push {cls:= .type "list",data:= .seq a}):=by
 refine vO i (eQ _ _) (gM h) (gM h) ⟨rfl,0,a,qD _ _ rfl,r.mono ⟨λb o e _=>eQ _ _ b o e,λb o e q=>q.elim .inl λq=>by
  rcases sd i.len q with q|rfl|rfl
  . exact .inr q
  . rw[gM]at e;exact aD e
  . rw[gM]at e;exact aD e⟩ λn q e=> ?_⟩
 rw[eR (dk.mp e).1];exact e
theorem t7 (hl:ι.length=σ.length){p}{h}{N}:XR C h N (ι++ [p]) (.ref σ.length) (.ref p.1):=⟨p,by rw[hl.symm];simp,rfl⟩
theorem bI.fm:∀ {xs:List V} {c:List _},bI C h N xs c->bJ C h N ι (xs.map .v) c:=by
 intro k
 induction k with
 |nil=>
  intro _ e
  cases e;rfl
 |cons x xs o=>
  intro _ e
  refine bp e λv r O a b=> ?_;clear e;subst O
  exact⟨v,r,rfl,a,o b⟩
theorem bJ.kz:∀ {xs:List X} {as:List V} {b:List _},fD xs=S as->bJ C h N ι xs b->bI C h N as b:=by
 intro c
 induction c with
 |nil=>exact λe r=>by cases e;cases r;rfl
 |cons x xs k=>
  intro as b e r
  revert r;intro O;refine bp O λv r o hx y=> ?_;clear O;subst o
  cases x with
  |ref _=>exact aD e
  |v a=>
   refine gY e λbs q O=> ?_;subst O
   exact⟨v,r,rfl,hx,k q y⟩
theorem bI.append:∀ {xs c:List V} {k o:List _},bI C h N xs k->bI C h N c o->bI C h N (xs++c) (k++o):=by
 intro u
 induction u with
 |nil=>
  intro _ _ _ e r
  cases e;exact r
 |cons x xs y=>
  intro _ _ _ e r
  refine bp e λv q O a b=> ?_;clear e;subst O
  exact⟨v,_,rfl,a,y b r⟩
theorem bJ.append:∀ {xs c:List X} {k o:List _},bJ C h N ι xs k->bJ C h N ι c o->bJ C h N ι (xs++c) (k++o):=by
 intro u
 induction u with
 |nil=>
  intro _ _ _ e r
  cases e;exact r
 |cons x xs y=>
  intro _ _ _ O;refine bp O λv q e a b=> ?_;clear O;intro r
  subst e;exact⟨v,_,rfl,a,y b r⟩
theorem bI.get:∀ {xs:List V} {c:List _} {n:Nat} {x:V},bI C h N xs c->xs[n]?=S x->∃v,c[n]?=S v/\VR C h N x v:=by
 intro k
 induction k with
 |nil=>
  intro _ _ _ _ e
  exact aD e
 |cons x xs o=>
  intro _ n y r e
  refine bp r λv q O a b=> ?_;clear r;subst O
  cases n with
  |zero=>simp at e;subst e;exact⟨v,rfl,a⟩
  |succ n=>simpa using o b e
theorem bJ.get:∀ {xs:List X} {c:List _} {n:Nat} {x:X},bJ C h N ι xs c->xs[n]?=S x->∃v,c[n]?=S v/\XR C h N ι x v:=by
 intro k
 induction k with
 |nil=>
  intro _ _ _ _ e
  exact aD e
 |cons x xs o=>
  intro _ n y O;refine bp O λv q r a b=> ?_;clear O;subst r;intro e
  cases n with
  |zero=>simp at e;subst e;exact⟨v,rfl,a⟩
  |succ n=>simpa using o b e
theorem bI.drop:∀ {xs:List V} {c:List _} (n:Nat),bI C h N xs c->bI C h N (xs.drop n) (c.drop n):=by
 intro k
 induction k with
 |nil=>exact λn r=>by cases r;cases n<;>rfl
 |cons x xs o=>
  intro c n r
  cases n with
  |zero=>exact r
  |succ n=>
   refine bp r λv q O a b=> ?_;clear r;subst O
   exact o n b
theorem bI.take:∀ {xs:List V} {vs:List _} (n:Nat),bI C h N xs vs->bI C h N (xs.take n) (vs.take n):=by
 intro c
 induction c with
 |nil=>exact λn r=>by cases r;cases n<;>rfl
 |cons x xs k=>
  intro vs n r
  cases n with
  |zero=>rfl
  |succ n=>
   refine bp r λv q O a b=> ?_;clear r;subst O
   exact⟨v,_,rfl,a,k n b⟩
noncomputable def qp.py:qp->PySem.Operator
 | .add=> .Add| .sub=> .Sub| .mul=> .Mult| .mod=> .Mod| .fdiv=> .FloorDiv| .pow _=> .Pow
 | .bor=> .BitOr| .band=> .BitAnd| .shl=> .LShift| .shr=> .RShift
theorem WY:aE<=sizeLine:=by decide
theorem fQ (h:n<aE):n<=sizeLine:=bX (d0 h WY)
theorem IF (h:a.natAbs<2^62):Builtin.Int.intBits a<=64:=by
 unfold Builtin.Int.intBits
 split
 . exact dO _
 . have:a.natAbs.log2<62:=by
    refine if h0:a.natAbs=0 then ?_ else(Nat.log2_lt h0).mpr h
    . rw[h0];decide
   exact ba (yO this) (by simp)
theorem WZ (items):∀(n:Nat) (acc:Array Value),(List.foldl (λx1 x2=>x1++x2) acc (.replicate n items)).toList=acc.toList++ (List.replicate n items.toList).flatten:=by
 intro a
 induction a with
 |zero=>
  exact λacc=>(dg _).symm
 |succ n b=>
  intro acc
  rw[IG,kW,b _,se,bM _ _ _];rfl
theorem kX {a:Type}{c} [Decidable c]{x y:a}(h:(if c then S x else J)=S y):c/\x=y:=by
 by_cases q:c
 . rw[if_pos q]at h;exact⟨q,je h⟩
 . rw[if_neg q]at h;exact aD h
theorem yP {a b:Type}{o}{f:a->b}{y}(h:o.map f=S y):∃x,o=S x/\f x=y:=qk.mp h
theorem oj {a b:Type}{o}{f:a->Option b}{y}(h:o.bind f=S y):∃x,o=S x/\f x=S y:=yy.mp h
theorem qE {a:Type}{c} [Decidable c]{o}{y:a}(h:(if c then o else J)=S y):c/\o=S y:=by
 by_cases q:c
 . rw[if_pos q]at h;exact⟨q,h⟩
 . rw[if_neg q]at h;exact aD h
inductive t8:qp->V->V->V->Prop
 |int {op a b c}:binI op a b=some c->t8 op (.int a) (.int b) (.int c)
 |str {a b}:a.length+b.length<aE->t8 .add (.str a) (.str b) (.str (a++b))
 |tup {a b}:a.length+b.length<aE->t8 .add (.tup a) (.tup b) (.tup (a++b))
 |lst {a b}:a.length+b.length<aE->t8 .add (.lst a) (.lst b) (.lst (a++b))
 |rep {a} {n:Int}:0<=n/\a.length*n.toNat<aE/\n<aE->t8 .mul (.lst a) (.int n) (.lst ((List.replicate n.toNat a).flatten))
theorem IH (e:cV k a b=S c):t8 k a b c:=by
 cases a with
 |int x=>cases b with
  |int y=>refine ah (yP e) λc h O=> ?_;subst O;exact .int h
  |_=>exact aD e
 |str x=>cases b with
  |str y=>cases k with
   |add=>refine au (kX e) λh O=> ?_;subst O;exact .str h
   |_=>exact aD e
  |_=>exact aD e
 |tup x=>cases b with
  |tup y=>cases k with
   |add=>refine au (kX e) λh O=> ?_;subst O;exact .tup h
   |_=>exact aD e
  |_=>exact aD e
 |lst x=>cases b with
  |lst y=>cases k with
   |add=>refine au (kX e) λh O=> ?_;subst O;exact .lst h
   |_=>exact aD e
  |int y=>cases k with
   |mul=>refine au (kX e) λh O=> ?_;subst O;exact .rep h
   |_=>exact aD e
  |_=>exact aD e
 |_=>exact aD e
theorem EV.int (i:aL C F ι σ s.heap){t}{n}(h:∀(Q:Value->aT->Prop) E,Q (.int n s.toks) {s with toks:=s.toks+1}->wpAny C.M A t Q E s):EV C A F ι σ s t (.v (.int n)) σ:=
 λQ E q=>h Q E (q _ _ _ ι (.refl i) ⟨_,rfl⟩)
theorem II {k:Int}(h:0<=k): -2^63<=k:=Cf (by decide) h
theorem IJ {k:Int}(h:k<aE):k<2^63:=mR h (by decide)
theorem IK {k:Int}(h:0<=k)(l:k<aE):¬(!Builtin.List.listFitsIndex k)=true:=
 have e:Builtin.List.listFitsIndex k=true:=dF.mpr ⟨decide_eq_true (II h),decide_eq_true (IJ l)⟩
 Zrr e gr
theorem W0 (h:0<=a/\0<=b):Builtin.bitOr a b=a.toNat|||b.toNat:=by
 have c:∀x,Builtin.bitNot (Builtin.bitNot x)=x:=λx=>(congrArg (· - 1) ((Int.neg_sub ..).trans (Int.sub_neg ..))).trans (by rw[Cg 1 x];exact Int.add_sub_cancel ..)
 have k:∀ {x},0<=x->¬0<=Builtin.bitNot x:=λh=>IL.mpr (W2 (Int.sub_le_sub_right (Int.neg_nonpos_of_nonneg h) 1) (by decide))
 unfold Builtin.bitOr
 rw[bitAnd_nn (k h.1) (k h.2),c _,c _,c _];rfl
theorem W3 {a b:Int}(h:0<=a):a.fdiv (2^b.toNat)=a.toNat>>>b.toNat:=by
 refine ao (IM h) λx O=> ?_;subst O
 rw[W4 _ _]
 exact Zrr (W5 _ (by exact_mod_cast dO _)) rfl
theorem IP {b:Int}{n:Nat}(h:0<=b)(k:b<n):b.natAbs<n:=vR.mp ((W6 h).symm▸k)
theorem W7 (i:aL C F ι σ s.heap){o:qp}{a b:Int}{t u:Tok}:OB (binI o a b) λc=>EV C A F ι σ s (binaryOp o.py (.int a t) (.int b u)) (.v (.int c)) σ:=by
 cases o
 . exact cH (.int i λQ E q=>PyProof.Rows.add_int q)
 . exact cH (.int i λQ E q=>PyProof.Rows.sub_int q)
 . exact fE λk=>cH (.int i λQ E q=>PyProof.Rows.mul_int q (k.elim (λz=> .of_left (IF z)) λz=> .of_right (IF z)))
 . exact fE λk=>cH (.int i λQ E q=>PyProof.Rows.mod_int' (Int.ne_of_gt k.1) q)
 . exact fE λk=>cH (.int i λQ E q=>PyProof.Rows.floordiv_int (Int.ne_of_gt k.1) q (.inl (PyProof.noPylong_small (IP (sf k.1) (mR k.2 (by decide))))))
 . exact fE λk=>cH (.int i λQ E q=>PyProof.Rows.pow_int_small k.1 (sf (mR k.2.2 (by decide))) (gh k.2.1 (by decide)) q)
 . exact fE λk=>cH (.int i λQ E q=>PyProof.Rows.or_int (by rw[W0 k];exact q))
 . exact fE λk=>cH (.int i λQ E q=>PyProof.Rows.and_int (by rw[bitAnd_pp k.1 k.2];exact q))
 . exact fE λk=>cH (.int i λQ E q=>PyProof.Rows.lshift_int_small k.1 k.2.1 (IP k.2.2.1 (mR k.2.2.2 (by decide))) q)
 . exact fE λk=>cH (.int i λQ E q=>PyProof.Rows.rshift_int k.1 (by rw[W3 k.2];exact q))
theorem W8 (h:bI C s.heap N as a):∀m,bI C s.heap N (List.replicate m as).flatten (List.replicate m a).flatten:=by
 intro b
 induction b with
 |zero=>
  exact rfl
 |succ m c=>
  rw[IG];exact h.append c
theorem IQ {v u}{Q}{E}(ha:VR C s.heap N (.lst as) v)(hb:VR C s.heap N (.lst bs) u)(b:as.length+bs.length<aE)
 (q:∀a,bI C s.heap N (as++bs) a.toList->Q (.ref s.heap.objs.size) {s with heap:=s.heap.push {cls:= .type "list",data:= .seq a}}):wpAny C.M A (binaryOp .Add v u) Q E s:=by
 refine bU ha λl n a O _ hl c=> ?_;clear ha;subst O
 refine bU hb λr m o O _ hr k=> ?_;clear hb;subst O
 exact PySem.P.add_list hl hr (q _ (by rw[se];exact c.append k)) (by rw[c.length,k.length]at b;exact fQ b)
theorem IS {v u}{Q}{E}(ha:VR C s.heap N (.lst as) v)(hb:VR C s.heap N (.int k) u)(c:0<=k/\as.length*k.toNat<aE/\k<aE)
 (q:∀a,bI C s.heap N (List.replicate k.toNat as).flatten a.toList->Q (.ref s.heap.objs.size) {s with heap:=s.heap.push {cls:= .type "list",data:= .seq a}}):wpAny C.M A (binaryOp .Mult v u) Q E s:=by
 refine bU ha λl n a O _ hl b=> ?_;clear ha;subst O
 refine ao hb λt O=> ?_;clear hb;subst O
 have hsz:a.size*k.toNat<aE:=by have:=c.2.1;rwa[b.length]at this
 refine wpAny_binaryOp_repeat_ref rfl ⟨_,hl,rfl⟩ (Ci · k t) noFill_list_mul PySem.F.fills_int_mul W9 repeat_list PySem.F.slot_int_index.lookup
  (pf W9 (Ci s k t) PySem.F.entry_int_rmul (PySem.F.args_int_rmul_2 _ _) (int___rmul___int_list k t l a n)
   ⟨hl,rfl,⟨_,hl,rfl⟩,pf PySem.F.slot_list_mul ⟨_,hl,rfl⟩ PySem.F.entry_list_mul (PySem.F.args_list_mul_2 _ _)
    (AutoListH.list___mul___list_int_3 l a n k t (IK c.1 c.2.2) (λz=>mD (bX (gh hsz (by decide))) z) (λz=>mD (fQ hsz) (of_decide_eq_true z)))
    ⟨hl,q _ ?_⟩⟩)
 rw[WZ _ _ _];by_cases he:a.isEmpty=ab
 . rw[if_pos he]
   rw[Cj.mp he]at b
   rw[qF b.length,List.flatten_replicate_nil];rfl
 exact Zrr (if_neg he) (W8 b _)
set_option tactic.hygienic true in
theorem W' (i:aL C F ι σ s.heap){U:qp}{a b c:V}{v u:Value}(ha:VR C s.heap (NN F ι σ) a v)(hb:VR C s.heap (NN F ι σ) b u)(e:cV U a b=S c):EV C A F ι σ s (binaryOp U.py v u) (.v c) σ:=by
 cases IH e with
 |int e'=>
  ((refine ao ha λt O=> ?_;clear ha);obtain rfl:=O)
  ((refine ao hb λt' O=> ?_;clear hb);obtain rfl:=O)
  exact W7 i _ e'
 |str o=>
  ((refine ao ha λt O=> ?_;clear ha);obtain rfl:=O)
  ((refine ao hb λt' O=> ?_;clear hb);obtain rfl:=O)
  intro Q E q
  rename_i x y
  refine PySem.SB.add (λY k=>q _ s.heap k ι (.refl i) ⟨Y,?_⟩) (fQ o)
  show Value.str ⟨x.toArray++y.toArray⟩ Y=_
  rw[List.append_toArray _ _];rfl
 |lst o=>
  intro Q E q
  refine IQ ha hb o λG D=> ?_
  refine au (yN i D) λst r=> ?_
  exact q _ _ s.toks ι st r
 |rep o=>
  intro Q E q
  refine IS ha hb o λG D=> ?_
  refine au (yN i D) λst r=> ?_
  exact q _ _ s.toks ι st r
 |tup o=>
  rename_i x y
  have pg:=ha
  have ph:=hb
  ((refine bU ha λl n G O _ hl D=> ?_;clear ha);obtain rfl:=O)
  ((refine bU hb λr m I O _ hr L=> ?_;clear hb);obtain rfl:=O)
  rw[D.length,L.length]at o
  intro Q E q
  by_cases H:G.isEmpty=ab
  . have h0:=qF (by(rw[D.length,Cj.mp H]);rfl)
    rw[h0]at q
    exact concat_meets ⟨_,hl,rfl⟩ ⟨_,hr,rfl⟩ noFill_tuple_add seq_tuple_add W_ Xa (Xb _ _)
     (tuple_addW0 l r G I n m J J #[] #[] H) ⟨hl,hr,q _ s.heap s.toks ι (.refl i) ph⟩
  by_cases hw:I.isEmpty=ab
  . have h0:=qF (by(rw[L.length,Cj.mp hw]);rfl)
    rw[h0,dg]at q
    exact concat_meets ⟨_,hl,rfl⟩ ⟨_,hr,rfl⟩ noFill_tuple_add seq_tuple_add W_ Xa (Xb _ _)
     (tuple_addW1 l r G I n m J J #[] #[] H hw) ⟨hl,hr,q _ s.heap s.toks ι (.refl i) pg⟩
  refine PySem.P.add_tuple hl hr H hw ?_ (fQ o)
  refine au (yM i (by rw[se];exact D.append L)) λst r=> ?_
  exact q _ _ s.toks ι st r
theorem Xc (i:aL C F ι σ s.heap){k}{a b}{xs}{v u}
 (ha:VR C s.heap (NN F ι σ) a v)(hb:VR C s.heap (NN F ι σ) b u)(e:cV k a b=S (.lst xs)):EV C A F ι σ s (binaryOp k.py v u) (.ref σ.length) (σ++ [.lst (xs.map .v)]):=by
 intro Q E q
 have fin:∀o,bI C _ _ xs _->Q _ {s with heap:=s.heap.push {cls:= .type _,data:= .seq o}}:=λo r=>
  q _ _ _ _ (IE i r.fm) (t7 i.len)
 cases IH e with
 |lst c=>exact IQ ha hb c fin
 |rep c=>exact IS ha hb c fin
mutual
noncomputable def eU:V->PyData
 | .none=> .none
 | .bool b=> .bool b
 | .int i=> .int i
 | .str s=> .str ⟨s.toArray⟩
 | .tup xs=> .tuple (iW xs)
 | .lst xs=> .list (iW xs)
 | .aU _ _=> .none
 | .obj _ _=> .none
noncomputable def iW:List V->List PyData
 | []=> []
 |x::xs=>eU x::iW xs
end
theorem Xd:∀xs,iW xs=xs.map eU:=by
 intro a
 induction a with
 |nil=>
  exact rfl
 |cons x xs b=>
  exact congrArg _ b
inductive Dk:Nat->V->Prop
 |none {k}:Dk k .none
 |int {k i}:Dk k (.int i)
 |str {k s}:mI s=true->Dk k (.str s)
 |tup {k xs}:(∀x∈xs,Dk k x)->Dk (k+1) (.tup xs)
 |lst {k xs}:(∀x∈xs,Dk k x)->Dk (k+1) (.lst xs)
theorem vS (k):∀a,isData k a=ab->Dk k a:=by
 induction k with
 |zero=>
  intro a h
  cases a with
  |none=>exact .none
  |int i=>exact .int
  |str s=>exact .str h
  |_=>exact bT h
 |succ k b=>
  intro a h
  cases a with
  |none=>exact .none
  |int i=>exact .int
  |str s=>exact .str h
  |tup xs=>exact .tup λx m=>b x (cF.mp h x m)
  |lst xs=>exact .lst λx m=>b x (cF.mp h x m)
  |_=>exact bT h
theorem yQ {xs}(h:∀x∈xs,(eU x).canLay0=ab/\(eU x).depth<=k):PyData.canLayAll0 (iW xs)=ab/\PyData.depthAll (iW xs)<=k:=by
 induction xs with
 |nil=>exact⟨rfl,k.zero_le⟩
 |cons x xs c=>
  exact have a:=h x (.head _);have b:=c λy m=>h y (.tail _ m);⟨dF.mpr ⟨a.1,b.1⟩,Nat.max_le.mpr ⟨a.2,b.2⟩⟩
theorem Xe (h:Dk k a):(eU a).canLay0=ab/\(eU a).depth<=k:=by
 induction h with
 |none=>exact⟨rfl,dO _⟩
 |int=>exact⟨rfl,dO _⟩
 |str h=>
  refine⟨?_,dO _⟩
  show PyData.strOk _=ab
  simp only[PyData.strOk,List.all_toArray,cF,decide_eq_true_eq]
  exact λx hx=>gh (of_decide_eq_true (cF.mp (dF.mp h).2 x hx)) (by simp)
 |tup _ b=>exact⟨(yQ b).1,mU (yQ b).2⟩
 |lst _ b=>exact⟨(yQ b).1,mU (yQ b).2⟩
theorem pj (k)(a)(h:isData k a=ab):(eU a).canLay0=ab/\(eU a).depth<=k:=Xe (vS k a h)
theorem IU {xs}(c:∀x∈xs,∀b j,Dk j b->(eU x).eqv (eU b)=gJ x b):∀ {a:List V},(∀y∈a,Dk j y)->PyData.eqvAll (iW xs) (iW a)=lN xs a:=by
 induction xs with
 |nil=>intro a _;cases a<;>rfl
 |cons x xs h=>
  intro a k
  cases a with
  |nil=>rfl
  |cons y a=>exact congr (congrArg _ (c x (.head _) y j (k y (.head _)))) (h (λz m=>c z (.tail _ m)) λz m=>k z (.tail _ m))
theorem Xf {k j}(ha:Dk k a)(hb:Dk j b):(eU a).eqv (eU b)=gJ a b:=by
 induction ha generalizing b j with
 |none=>cases hb<;>rfl
 |int=>cases hb<;>rfl
 | @str k s h=>
  cases hb with
  | @str _ t _=>
   show((⟨_⟩:Str)==⟨_⟩)=decide _
   rw[qG,propext beq_iff_eq];exact Zrr decide_eq_true_eq ⟨congrArg λz:Str=>z.cps.toList,λe=>e▸rfl⟩
  |_=>rfl
 |tup _ c=>
  cases hb with
  |tup h=>exact IU (λx m b j hb=>c x m hb) h
  |_=>rfl
 |lst _ c=>
  cases hb with
  |lst h=>exact IU (λx m b j hb=>c x m hb) h
  |_=>rfl
theorem yR (a b)(k j)(ha:isData k a=ab)(hb:isData j b=ab):(eU a).eqv (eU b)=gJ a b:=Xf (vS k a ha) (vS j b hb)
theorem Ck (o:∀x∈xs,∀v,VR C h N x v->∃as,Reads h v (eU x) as):∀ {c:List _},bI C h N xs c->∃as,ReadsAll h c (iW xs) as:=by
 induction xs with
 |nil=>intro c r;cases r;exact⟨_,.nil⟩
 |cons x xs k=>
  intro c r
  refine bp r λv q O a b=> ?_;clear r;subst O
  exact ao (o x (.head _) v a) λas u=>ao (k (λy m=>o y (.tail _ m)) b) λbs D=>⟨_,.cons u D⟩
theorem IV {k}(y:Dk k a)(r:VR C h N a v):∃as,Reads h v (eU a) as:=by
 induction y generalizing v with
 |none=>cases r;exact⟨[],.none⟩
 |int=>refine ao r λt O=> ?_;clear r;subst O;exact⟨[],.int _ t⟩
 |str=>refine ao r λt O=> ?_;clear r;subst O;exact⟨[],.str _ t⟩
 |tup _ b=>
  refine bU r λa n D O _ c o=> ?_;clear r;subst O
  exact ao (Ck (λx m v q=>b x m q) o) λas u=>⟨as,.tuple c rfl rfl u⟩
 |lst _ b=>
  refine bU r λa n D O _ c o=> ?_;clear r;subst O
  exact ao (Ck (λx m v q=>b x m q) o) λas u=>⟨_,.list c rfl rfl u⟩
theorem VR.reads (k)(b:isData k a=ab)(r:VR C h N a v):∃as,Reads h v (eU a) as:=IV (vS k a b) r
theorem bI.reads (k)(a:xs.all (isData k)=ab)(r:bI C h N xs b):∃as,ReadsAll h b (iW xs) as:=
 Ck (λx m _ q=>IV (vS k x (cF.mp a x m)) q) r
noncomputable def yF.py:yF->PySem.CmpOp
 | .eq=> .Eq| .ne=> .NotEq| .lt=> .Lt| .le=> .LtE| .gt _=> .Gt| .ge=> .GtE| .isIn=> .In| .iu=> .NotIn
theorem Xg {v u}{c}{Q}{E}(ha:VR C s.heap N a v)(hb:VR C s.heap N b u)(e:eqv a b=S c)(o:A.units+64<cLine)
 (q:Q (.bool c) s):wpAny C.M A (compareOp .Eq v u) Q E s:=by
 unfold eqv at e
 split at e
 . rename_i k
   refine ao (ha.reads 4 k.1) λas r=>ao (hb.reads 4 k.2) λbs x=>au (pj 4 a k.1) λy D=>au (pj 4 b k.2) λG H=> ?_
   simp only[jF]at e
   refine SeqAt.compareEq_reads r x y G ?_ ?_
   . have:=lL (eU a).depth (eU b).depth
     exact HR o D
   . rw[yR a b 4 4 k.1 k.2];exact Zrr e q
 exact aD e
theorem Xh {v u}{c}{Q}{E}(ha:VR C s.heap N a v)(hb:VR C s.heap N b u)(e:eqv a b=S c)(o:A.units+64<cLine)
 (q:Q (.bool !c) s):wpAny C.M A (compareOp .NotEq v u) Q E s:=by
 unfold eqv at e
 split at e
 . rename_i k
   refine ao (ha.reads 4 k.1) λas r=>ao (hb.reads 4 k.2) λbs x=>au (pj 4 a k.1) λy D=>au (pj 4 b k.2) λG H=> ?_
   simp only[jF]at e
   refine SeqAt.compareNe_reads r x y G ?_ ?_
   . have:=lL (eU a).depth (eU b).depth
     exact HR o D
   . rw[yR a b 4 4 k.1 k.2];exact Zrr e q
 exact aD e
theorem iV.Xi:∀ {a:List _} {es:List _},iV C h N t a es->fY C h N ι t (a.map λp=>(p.1,.v p.2)) es:=by
 intro b
 induction b with
 |nil=>
  intro _ r
  cases r;rfl
 |cons D r c=>
  intro _ e
  revert e;intro O;refine kP O λe G k o q u x y=> ?_;clear O;subst k
  exact⟨e,_,rfl,o,q,u,x,c y⟩
theorem fY.Xj:∀ {b:List _} {c:List _} {es:List _},qs b=S c->fY C h N ι t b es->iV C h N t c es:=by
 intro o
 induction o with
 |nil=>exact λq r=>by cases q;cases r;rfl
 |cons p b u=>
  intro c es q r
  obtain ⟨k,x⟩:=p
  refine kP r λe L O y D G H I=> ?_;clear r;subst O
  cases x with
  |ref _=>exact aD q
  |v a=>
   refine gY q λbs q1 O=> ?_;subst O
   exact⟨e,_,rfl,y,D,G,H,u q1 I⟩
theorem Cm (f:c->o)(k):∀l,ck k (l.map λp=>(p.1,f p.2))=(ck k l).map f:=by
 intro a
 induction a with
 |nil=>
  exact rfl
 |cons p r b=>
  simp only[dz,BW]
  split
  . rfl
  exact b
structure kA (C:CX)(t:KT){K:Type} [DecidableEq K](bG:KeyKind C.prog C.w K)(aH:K->V):Prop where
 kt:∀k,dS t (aH k)=ab
 of:∀a,dS t a=ab->∃k,a=aH k
 eq:∀a b,gJ (aH a) (aH b)=decide (a=b)
 inj:∀a b,aH a=aH b->a=b
 hash:∀k,kh C t (aH k)=bG.hash k
 is:∀ {h N k v},VR C h N (aH k) v->bG.is k v=ab
 Cn:∀ {h N k v},bG.is k v=ab->VR C h N (aH k) v
theorem qH (C):kA C .int (intKind _ _) .int where
 kt:=λ_=>rfl
 of:=λa h=>by cases a<;>first|exact⟨_,rfl⟩|exact bT h
 eq:=λa b=>rfl
 inj:=λa b e=>by injection e
 hash:=λ_=>rfl
 is:=λr=>by refine ao r λt O=> ?_;clear r;subst O;simp[intKind,Value.isInt]
 Cn:=λr=>by refine ao (Value.isInt_shape r) λt O=> ?_;subst O;exact⟨t,rfl⟩
noncomputable def IW (x:Str):V:= .str x.cps.toList
theorem qI (C):kA C .str (strKind _ _) IW where
 kt:=λ_=>rfl
 of:=λa h=>by
  cases a<;>first|exact⟨⟨_⟩,rfl⟩|exact bT h
 eq:=λ⟨⟨a⟩⟩ ⟨⟨b⟩⟩=>decide_eq_decide.mpr ⟨congrArg λl=>Str.mk _,congrArg λs:Str=>s.cps.toList⟩
 inj:=λ⟨_⟩ ⟨_⟩ e=>congrArg (λl=>Str.mk (.mk l)) (V.str.inj e)
 hash:=λk=>rfl
 is:=λ{h N k v} r=>by
  refine ao r λt O=> ?_;clear r;subst O
  simp[PySem.strKind,Value.isStrOf]
 Cn:=λ{h N k v} r=>by
  refine ao (Value.isStrOf_shape r) λt O=> ?_;subst O
  exact⟨_,rfl⟩
inductive h_ (C:CX)(h:Heap)(N:Addr->Prop)(ι:Lay){K:Type}(aH:K->V):List (V×X)->List (K×Value)->Prop
 |nil:h_ C h N ι aH [] []
 |cons {k:K} {x:X} {v:Value} {r:List (V×X)} {r':List (K×Value)}:XR C h N ι x v->h_ C h N ι aH r r'->h_ C h N ι aH ((aH k,x)::r) ((k,v)::r')
section
variable {t:KT} {K:Type} [DecidableEq K] {bG:KeyKind C.prog C.w K} {aH:K->V}
theorem h_.keys (c:h_ C h N ι aH r a):r.map (·.1)=(a.map (·.1)).map aH:=by
 induction c with
 |nil=>rfl
 |cons _ _ b=>simp[b]
theorem h_.length (c:h_ C h N ι aH r r'):r.length=r'.length:=by
 induction c with
 |nil=>rfl
 |cons _ _ a=>simp[a]
theorem IX (o:kA C t bG aH):∀ {l:List K},(l.map aH).Nodup↔l.Nodup:=by
 intro q
 induction q with
 |nil=>
  simp
 |cons a l r=>
  simp only[dz,kB,r,bY,not_exists,not_and]
  constructor
  . intro O;exact au O λc k=>⟨(c a · rfl),k⟩
  . intro O;exact au O λc k=>⟨λb m e=>c (o.inj _ _ e▸m),k⟩
theorem Xk (b:kA C t bG aH):∀ {o:List _} {es:List _},fY C h N ι t o es->∃u,h_ C h N ι aH o u/\Pairs bG es u/\∀e∈es,∃k,bG.is k e.key=ab/\e.hash=bG.hash k:=by
 intro D
 induction D with
 |nil=>
  intro _ r
  cases r;exact⟨[],.nil,.nil,λ_ h=>nomatch h⟩
 |cons G o H=>
  obtain ⟨a,x⟩:=G
  intro _ O;refine kP O λe eh z I L y Q U=> ?_;clear O
  subst z
  refine ao (b.of a I) λk O=> ?_;subst O
  refine cD (H U) λu c p q=>⟨_,.cons Q c,.cons (b.is y) rfl p,λY he=> ?_⟩
  rcases cy.mp he with rfl|he
  . exact⟨k,b.is y,by rw[L,b.hash _];rfl⟩
  exact q Y he
set_option tactic.hygienic true in
theorem Xl (o:kA C t bG aH):∀ {u:List _} {y:List _} {es:List _},h_ C h N ι aH u y->Pairs bG es y->(∀e∈es,∃k,bG.is k e.key=ab/\e.hash=bG.hash k)->fY C h N ι t u es:=by
 intro u y es c
 induction c generalizing es with
 |nil=>intro p _;cases p;rfl
 | @cons k x v r L hx c G=>
  intro p q
  cases p with
  |cons D H p=>
   rename_i e es
   refine⟨e,es,rfl,o.kt k,?_,o.Cn D,?_,G p λe he=>q e (dA _ he)⟩
   . refine ah (q e cT) λI a b=> ?_
     rw[(bG.inj _ _ _ D a:k=I),b,o.hash _];rfl
   exact Zrr H hx
theorem vT (o:kA C t bG aH){a}{n}{b}{es}(u:h.get? a=S (dictOf es n))(r:fY C h N ι t b es)(nd:(b.map (·.1)).Nodup):
 ∃k,h_ C h N ι aH b k/\h.DictOf bG a k:=by
 refine cD (Xk o r) λk c p q=>⟨_,c,_,_,n,u,⟨rfl,rfl,rfl⟩,rfl,λe he=>q e (by simpa using he),by simpa using p,?_⟩
 rw[c.keys]at nd
 exact(IX o).mp nd
theorem IY (k:kA C t bG aH){a}{b}{o}(c:h_ C h N ι aH b o)(d:h.DictOf bG a o):
 ∃n es,h.get? a=S (dictOf es n)/\fY C h N ι t b es/\(b.map (·.1)).Nodup:=by
 refine n4 d λO es n D q r hk G hn=> ?_;obtain ⟨cl,H,I,sl⟩:=O;refine dp q λu x y=> ?_;clear q
 simp only at u x y r
 subst u x y r
 exact⟨n,_,by simpa using D,Xl k c G λe he=>hk e (by simpa using he),Zrr c.keys ((IX k).mpr hn)⟩
theorem h_.look (G:kA C t bG aH){k}{r}{D}(c:h_ C h N ι aH r D):
 ck (aH k) r=J/\valueAt D k=J\/∃x v,ck (aH k) r=S x/\valueAt D k=S v/\XR C h N ι x v:=by
 induction c with
 |nil=>exact .inl ⟨rfl,rfl⟩
 | @cons j x v r D hx c H=>
  simp only[BW,dN,G.eq]
  by_cases o:j=k
  . subst o
    exact .inr ⟨x,v,by simp,by simp[valueAt],hx⟩
  . rcases H with ⟨a,b⟩| ⟨y,u,a,b,q⟩
    . exact .inl ⟨by simpa [o]using a,by simpa [valueAt,o]using b⟩
    exact .inr ⟨y,u,by simpa [o]using a,by simpa [valueAt,o]using b,q⟩
theorem Xm {v u}{a:List (K×Value)}(hn:k∉a.map (·.1)):stored ((k,u)::a) k v=(k,v)::a:=by
 have:=map_store_of_not_mem a k v hn
 simp[stored,this]
theorem Xn {v u}{a:List (K×Value)}(b:j≠k):stored ((j,u)::a) k v=(j,u)::stored a k v:=by
 simp only[stored,vU,b,decide_false,IZ,dz,if_false]
 split<;>simp
theorem h_.store (q:kA C t bG aH){k}{y}{u}(o:XR C h N ι y u){r}{a}(c:h_ C h N ι aH r a):(a.map (·.1)).Nodup->h_ C h N ι aH (ec (aH k) y r) (stored a k u):=by
 induction c with
 |nil=>intro _;exact .cons o .nil
 | @cons j x v r a hx c D=>
  intro nd
  rw[dz,kB]at nd
  simp only[yG,dN,q.eq]
  by_cases b:j=k
  . subst b
    rw[Xm nd.1]
    simp only
    exact .cons o c
  . rw[Xn b]
    simp only[b]
    exact .cons hx (D nd.2)
omit [DecidableEq K]in
theorem h_.mono {a:Heap}{b:aO->Prop}(k:Kept h a N b)(e:∀(n:Nat) p,ι[n]?=S p->ag[n]?=S p){r:List (V×X)}{o:List (K×Value)}(c:h_ C h N ι aH r o):h_ C a b ag aH r o:=by
 induction c with
 |nil=>exact .nil
 |cons hx _ q=>exact .cons (hx.mono k e) q
end
structure gN (C:CX)(t:KT){K:Type} [DecidableEq K](bG:KeyKind C.prog C.w K)(aH:K->V):Prop where
 kt:∀ks:List K,dS t (.tup (ks.map aH))=ab
 of:∀a,dS t a=ab->∃ks:List K,a= .tup (ks.map aH)
 eq:∀a b,gJ (aH a) (aH b)=decide (a=b)
 inj:∀a b,aH a=aH b->a=b
 hash:∀ks:List K,kh C t (.tup (ks.map aH))=(tupleKind bG).hash ks
 is:∀ {h N k v},VR C h N (aH k) v->bG.is k v=ab
theorem Xo {K:Type} [DecidableEq K]{c}(he:∀a b,gJ (c a) (c b)=decide (a=b)):∀a b:List K,lN (a.map c) (b.map c)=decide (a=b):=by
 intro a
 induction a with
 |nil=>intro b;cases b<;>rfl
 |cons x xs k=>
  intro b
  cases b with
  |nil=>rfl
  |cons y o=>
   refine(congr (congrArg _ (he x y)) (k o)).trans ((Bool.decide_and ..).symm.trans (decide_eq_decide.mpr ⟨λh=> ?_,iB⟩))
   rw[h.1,h.2];rfl
theorem gN.I0 {K} [DecidableEq K]{k}{c}(o:gN C t k c)(a b:List K):gJ (.tup (a.map c)) (.tup (b.map c))=decide (a=b):=Xo o.eq a b
theorem Xp {c k:Type}{f:c->k}(hf:∀a b,f a=f b->a=b){a b:List c}:a.map f=b.map f->a=b:=(List.map_inj_right hf).mp
theorem gN.Xq {K} [DecidableEq K]{k}{c}(o:gN C t k c)(a b:List K)(e:V.tup (a.map c)= .tup (b.map c)):a=b:=by
 injection e with e
 exact Xp o.inj e
theorem vV (C):gN C (.ints ()) (intKind _ _) .int where
 kt:=λb=>cF.mpr λ_ m=>(bY.mp m).elim λ_ q=>q.2▸rfl
 of:=λa h=>by
  cases a<;>first|exact bT h|skip
  refine⟨xs.map intOf,?_⟩
  congr 1
  rw[b5]
  symm
  refine Co λx hx=> ?_
  have:=cF.mp h x hx
  cases x<;>first|rfl|exact bT this
 eq:=(qH C).eq
 inj:=(qH C).inj
 hash:=λb=>congrArg (tupleKind _).hash ((b5 ..).trans (Co λ_ _=>rfl))
 is:=(qH C).is
theorem vW (C):gN C .strs (PySem.strKind _ _) IW where
 kt:=λb=>cF.mpr λ_ m=>(bY.mp m).elim λ_ q=>q.2▸rfl
 of:=λa h=>by
  cases a<;>first|exact bT h|skip
  refine⟨xs.map B_,?_⟩
  congr 1
  rw[b5]
  symm
  refine Co λx hx=> ?_
  have:=cF.mp h x hx
  cases x<;>first|rfl|exact bT this
 eq:=(qI C).eq
 inj:=(qI C).inj
 hash:=λb=>congrArg (tupleKind _).hash ((b5 ..).trans (Co λ_ _=>rfl))
 is:=(qI C).is
inductive gO (C:CX)(h:Heap)(N:Addr->Prop)(ι:Lay){K:Type}(aH:K->V):List (V×X)->List (List K×Addr×Value)->Prop
 |nil:gO C h N ι aH [] []
 |cons {k:List K} {a:Addr} {x:X} {v:Value} {r:List (V×X)} {r':List (List K×Addr×Value)}:VR C h N (.tup (k.map aH)) (.ref a)->XR C h N ι x v->gO C h N ι aH r r'->gO C h N ι aH ((.tup (k.map aH),x)::r) ((k,a,v)::r')
section
variable {t:KT} {K:Type} [DecidableEq K] {bG:KeyKind C.prog C.w K} {aH:K->V}
theorem Xr (u:gN C t bG aH):∀ {c:List K} {o:List _},bI C h N (c.map aH) o->ItemsAre bG c o:=by
 intro x
 induction x with
 |nil=>
  intro _ r
  cases r;exact .nil
 |cons k c y=>
  intro _ r
  refine bp r λv q O a b=> ?_;clear r;subst O
  exact .cons (u.is a) (y b)
theorem sh (k:gN C t bG aH){c}{b}(r:VR C h N (.tup (c.map aH)) (.ref b)):IsTupleKey bG h c b:=by
 refine bU r λa n o e _ q u=> ?_;injection e with e;subst e
 exact⟨_,o,n,q,rfl,rfl,Xr k u⟩
theorem t9 (r:VR C h N (.tup xs) v):∃b,v= .ref b:=iP r λa _ _ e _=>⟨a,e⟩
theorem gO.keys (c:gO C h N ι aH r a):r.map (·.1)=(a.map (·.1)).map λk=> .tup (k.map aH):=by
 induction c with
 |nil=>rfl
 |cons _ _ _ b=>simp[b]
theorem gO.length (c:gO C h N ι aH r r'):r.length=r'.length:=by
 induction c with
 |nil=>rfl
 |cons _ _ _ a=>simp[a]
theorem I1 (q:gN C t bG aH):∀ {l:List (List K)},(l.map λk=>V.tup (k.map aH)).Nodup↔l.Nodup:=by
 intro r
 induction r with
 |nil=>
  simp
 |cons a l u=>
  simp only[dz,kB,u,bY,not_exists,not_and]
  constructor
  . intro O;exact au O λc o=>⟨(c a · rfl),o⟩
  . intro O;exact au O λc o=>⟨λb m e=>c (q.Xq _ _ e▸m),o⟩
theorem Xu (y:gN C t bG aH):∀ {o:List _} {es:List _},fY C h N ι t o es->∃q,gO C h N ι aH o q/\es=q.map (entryOfKey (tupleKind bG)):=by
 intro H
 induction H with
 |nil=>
  intro _ r
  cases r;exact⟨[],.nil,rfl⟩
 |cons I o L=>
  obtain ⟨a,x⟩:=I
  intro _ O;refine kP O λQ eh z U D u G Y=> ?_;clear O;obtain ⟨hs,key,val⟩:=Q
  subst z
  refine ao (y.of a U) λk O=> ?_;subst O
  refine ah (L Y) λq c p=>ao (t9 u) λb hb=> ?_
  simp only at D u G hb
  subst hb
  refine⟨_,.cons u G c,?_⟩
  rw[dz,p.symm,D,y.hash _]
  rfl
theorem Xv (b:gN C t bG aH){o}{q}(c:gO C h N ι aH o q):fY C h N ι t o (q.map (entryOfKey (tupleKind bG))):=by
 induction c with
 |nil=>rfl
 | @cons k a x v r y ha hx c u=>exact⟨_,_,rfl,b.kt k,(b.hash k).symm,ha,hx,u⟩
theorem gO.Xw (b:gN C t bG aH){k}{a}(c:gO C h N ι aH k a):∀x∈a,(tupleKind bG).is h x.1 x.2.1:=by
 induction c with
 |nil=>intro x hx;cases hx
 |cons ha _ _ o=>
  intro x hx
  rcases cy.mp hx with rfl|hx
  . exact sh b ha
  exact o x hx
theorem vY (b:gN C t bG aH){a}{n}{k}{es}(q:h.get? a=S (dictOf es n))(r:fY C h N ι t k es)(nd:(k.map (·.1)).Nodup):
 ∃o,gO C h N ι aH k o/\h.DictOfH (tupleKind bG) a o:=by
 refine ah (Xu b r) λo c p=>⟨_,c,_,_,n,q,⟨rfl,rfl,rfl⟩,rfl,by simpa using p,c.Xw b,?_⟩
 rw[c.keys]at nd
 exact(I1 b).mp nd
theorem I2 (k:gN C t bG aH){a}{b}{o}(c:gO C h N ι aH b o)(d:h.DictOfH (tupleKind bG) a o):
 ∃n es,h.get? a=S (dictOf es n)/\fY C h N ι t b es/\(b.map (·.1)).Nodup:=by
 refine n4 d λO es n D q r hk G hn=> ?_;obtain ⟨cl,H,I,sl⟩:=O;refine dp q λu x y=> ?_;clear q
 simp only at u x y r
 subst u x y r
 exact⟨n,_,by simpa using D,by rw[hk];exact Xv k c,Zrr c.keys ((I1 k).mpr hn)⟩
theorem gO.look (G:gN C t bG aH){k}{r}{D}(c:gO C h N ι aH r D):
 ck (.tup (k.map aH)) r=J/\atKey D k=J\/∃x p,ck (.tup (k.map aH)) r=S x/\atKey D k=S p/\XR C h N ι x p.2:=by
 induction c with
 |nil=>exact .inl ⟨rfl,rfl⟩
 | @cons j a x v r D ha hx c H=>
  simp only[BW,dN,G.I0]
  by_cases o:j=k
  . subst o
    exact .inr ⟨x,(a,v),by simp,by simp[atKey],hx⟩
  . rcases H with ⟨a,b⟩| ⟨y,u,a,b,q⟩
    . exact .inl ⟨by simpa [o]using a,by simpa [atKey,o]using b⟩
    exact .inr ⟨y,u,by simpa [o]using a,by simpa [atKey,o]using b,q⟩
theorem aiv:∀ {a:List (List K×aO×Value)},k∉a.map (·.1)->atKey a k=none:=by
 intro b
 induction b with
 |nil=>
  exact λ_=>rfl
 |cons x r c=>
  intro h
  simp only[dz,cy,not_or]at h
  have:=c h.2
  simp only[atKey]at this ⊢
  simp only[Xx,vZ h.1,decide_false]
  exact this
theorem Xy {v u}{c:List (List K×aO×Value)}(hn:k∉c.map (·.1)):storedH ((k,b,u)::c) k a v=(k,b,v)::c:=by
 have:=map_putAt_of_not_mem c k v hn
 simp[storedH,atKey,putAt,this]
theorem Xz {a:List (List K×aO×Value)}(c:j≠k):atKey ((j,b,u)::a) k=atKey a k:=by
 simp only[atKey,Xx,c,decide_false]
theorem XA {v u}{c:List (List K×aO×Value)}(o:j≠k):storedH ((j,b,u)::c) k a v=(j,b,u)::storedH c k a v:=by
 unfold storedH
 rw[Xz o]
 cases (atKey c k).isSome
 . rfl
 simp[putAt,o]
theorem gO.store (G:gN C t bG aH){k}{a}{y}{u}(ha:VR C h N (.tup (k.map aH)) (.ref a))(D:XR C h N ι y u){r}{o}(c:gO C h N ι aH r o):
 (o.map (·.1)).Nodup->gO C h N ι aH (ec (.tup (k.map aH)) y r) (storedH o k a u):=by
 induction c with
 |nil=>intro _;exact .cons ha D .nil
 | @cons j b x v r o hb hx c H=>
  intro nd
  rw[dz,kB]at nd
  simp only[yG,dN,G.I0]
  by_cases q:j=k
  . subst q
    rw[Xy nd.1]
    simp only
    exact .cons hb D c
  . rw[XA q]
    simp only[q]
    exact .cons hb hx (H nd.2)
omit [DecidableEq K]in
theorem gO.mono {a:Heap}{b:aO->Prop}(k:Kept h a N b)(e:∀(n:Nat) p,ι[n]?=S p->ag[n]?=S p){r:List (V×X)}{o:List (List K×aO×Value)}(c:gO C h N ι aH r o):gO C a b ag aH r o:=by
 induction c with
 |nil=>exact .nil
 |cons ha hx _ q=>exact .cons (ha.mono k) (hx.mono k e) q
end
structure DictAt (C:CX)(h:Heap)(N:aO->Prop)(ι:Lay)(a:aO)(t:KT)(ak:List (V×X)):Prop where
 low:(a==sysModules)=ae
 at_:∃n es,h.get? a=S (dictOf es n)/\fY C h N ι t ak es/\(ak.map (·.1)).Nodup
theorem I3 {c:List (V×X)}{q:Type}{o:Option q}(e:ck k c=J/\o=J\/∃x v,ck k c=S x/\o=S v):(ck k c).isSome=o.isSome:=by
 rcases e with ⟨a,b⟩| ⟨x,v,a,b⟩<;>(rw[a,b])<;>rfl
theorem I4 {E}(D:DictAt C s.heap N ι a t ak)(hk:dS t k=ab)(L:VR C s.heap N k u)(hx:ck k ak=S x)
 (hr:A.units+64<cLine)(q:∀v tk,XR C s.heap N ι x v->Q v {s with toks:=tk}):wpAny C.M A (getItem (.ref a) u) Q E s:=by
 obtain ⟨low,n,es,ho,r,nd⟩:=D
 have one:∀ {K:Type} [DecidableEq K] {o:KeyKind _ _ K} {G:K->V},kA C t o G->wpAny C.M A (getItem (.ref a) u) Q E s:=by
  intro K _ o G H
  refine ah (vT H ho r nd) λcE c d=>ao (H.of k hk) λk' O=> ?_;subst O
  rcases c.look H with ⟨e,_⟩| ⟨y,v,e,U,Y⟩
  . rw[hx]at e;exact kO e
  . rw[hx]at e;cases e
    exact wpAny_getItem_of (H.is L) d.mapOf U (q v _ Y)
 have two:∀ {K:Type} [DecidableEq K] {o:KeyKind _ _ K} {G:K->V},gN C t o G->wpAny C.M A (getItem (.ref a) u) Q E s:=by
  intro K _ o G I
  refine ah (vY I ho r nd) λcE c d=>ao (I.of k hk) λk' O=> ?_;subst O
  refine ao (t9 L) λb O=> ?_;subst O
  rcases c.look I with ⟨e,_⟩| ⟨y,v,e,U,Y⟩
  . rw[hx]at e;exact kO e
  . rw[hx]at e;cases e
    exact wpAny_getItem_heap (by show A.in1.units<cLine;simp;exact q1 hr) (sh I L) d U (q _ _ Y)
 cases t
 . exact one (qH C)
 . exact one (qI C)
 . exact two (vV C)
 exact two (vW C)
theorem I5 {neg:Bool}{Q}{E}(D:DictAt C s.heap N ι a t U)(hk:dS t k=ab)(o:VR C s.heap N k u)
 (hr:A.units+64<cLine)(q:∀tk,Q (.bool (if neg then !(ck k U).isSome else(ck k U).isSome)) {s with toks:=tk}):wpAny C.M A (compareOp (if neg then .NotIn else .In) u (.ref a)) Q E s:=by
 obtain ⟨low,n,es,Y,r,nd⟩:=D
 have one:∀ {K:Type} [DecidableEq K] {x:KeyKind _ _ K} {G:K->V},kA C t x G->wpAny C.M A (compareOp (if neg then .NotIn else .In) u (.ref a)) Q E s:=by
  intro K _ x G H
  refine ah (vT H Y r nd) λcE c d=>ao (H.of k hk) λk' O=> ?_;subst O
  rw[(I3 ((c.look H).imp id (bp · λy v e L _=>⟨y,v,e,L⟩)))]at q
  cases neg
  . exact wpAny_in_of (H.is o) low d.mapOf (q _)
  exact wpAny_notIn_of (H.is o) low d.mapOf (q _)
 have two:∀ {K:Type} [DecidableEq K] {x:KeyKind _ _ K} {G:K->V},gN C t x G->wpAny C.M A (compareOp (if neg then .NotIn else .In) u (.ref a)) Q E s:=by
  intro K _ x G I
  refine ah (vY I Y r nd) λcE c d=>ao (I.of k hk) λk' O=> ?_;subst O
  refine ao (t9 o) λb O=> ?_;subst O
  have e:=I3 ((c.look I (k:=k')).imp id (bp · λy v e L _=>⟨y,v,e,L⟩))
  rw[e]at q
  cases neg
  . exact wpAny_in_heap (by show A.in1.units<cLine;simp;exact q1 hr) (sh I o) low d (q _)
  exact wpAny_notIn_heap (by show A.in1.units<cLine;simp;exact q1 hr) (sh I o) low d (q _)
 cases t
 . exact one (qH C)
 . exact one (qI C)
 . exact two (vV C)
 exact two (vW C)
theorem XB {x}{Q}{E}(D:DictAt C s.heap N ι a t ak)(hk:dS t k=ab)(U:VR C s.heap N k u)(hv:XR C s.heap N ι x v)
 (hr:A.units+64<cLine)(hz:ak.length<aE)(ha:N a)
 (q:∀h' tk,Heap.SameBut a s.heap h'->DictAt C h' N ι a t (ec k x ak)->Q () (upd s h' tk)):wpAny C.M A (setItem (.ref a) u v) Q E s:=by
 obtain ⟨low,n,es,ho,r,nd⟩:=D
 have kept:∀ {h':Heap},Heap.SameBut a _ h'->Kept s.heap h' N N:=λy=>⟨λb o e n=>(y.2 b λz=>n (z▸ha)).trans e,λ_ _ _ z=>z⟩
 have one:∀ {K:Type} [DecidableEq K] {G:KeyKind _ _ K} {H:K->V},kA C t G H->wpAny C.M A (setItem (.ref a) u v) Q E s:=by
  intro K _ G H I
  refine ah (vT I ho r nd) λcE c d=>ao (I.of k hk) λk' O=> ?_;subst O
  refine n4 (id d) λ_ _ _ _ _ _ _ _ hn=>wpAny_setItem_pairs (I.is U) d (λh' Y y=>q h' _ y ⟨low,IY I ((c.store I hv hn).mono (kept y) λ_ _ e=>e) Y⟩) ?_
  rw[c.length.symm];exact fQ hz
 have two:∀ {K:Type} [DecidableEq K] {G:KeyKind _ _ K} {H:K->V},gN C t G H->wpAny C.M A (setItem (.ref a) u v) Q E s:=by
  intro K _ G H L
  refine ah (vY L ho r nd) λcE c d=>ao (L.of k hk) λk' O=> ?_;subst O
  refine ao (t9 U) λb O=> ?_;subst O
  refine n4 (id d) λ_ _ _ _ _ _ _ _ hn=>wpAny_setItem_heap (by show A.in1.units<cLine;simp;exact q1 hr) (sh L U) d (λh' Y y=>q h' _ y ⟨low,I2 L ((c.store L U hv hn).mono (kept y) λ_ _ e=>e) Y⟩) ?_
  rw[c.length.symm];exact fQ hz
 cases t
 . exact one (qH C)
 . exact one (qI C)
 . exact two (vV C)
 exact two (vW C)
theorem VR.dictAt (r:VR C h N (.aU t b) v):∃a,v= .ref a/\¬N a/\DictAt C h N ι a t (b.map λp=>(p.1,.v p.2)):=by
 refine n4 r λa n es O hn low c k nd=> ?_;clear r;subst O
 exact⟨a,rfl,hn,low,n,es,c,k.Xi,Zrr b5 nd⟩
theorem si (i:aL C F ι σ h){n:Nat}{p}{t}{a}(b:ι[n]?=S p)(c:σ[n]?=S (.aU t a)):DictAt C h (NN F ι σ) ι p.1 t a:=dp (i.cells n p _ b c) λ_ low o=>bp o λk es q r nd=>⟨low,k,es,q,r,nd⟩
theorem qJ (i:aL C F ι σ h){n:Nat}{p}{xs}(b:ι[n]?=S p)(c:σ[n]?=S (.lst xs)):∃k a,h.get? p.1=S (seqObj "list" a k)/\bJ C h (NN F ι σ) ι xs a.toList:=au (i.cells n p _ b c) λ_ o=>dh o λk a q r=>⟨k,a,q,r⟩
theorem I6 (b:a.all (isData 4)=ab):PyData.canLayAll0 (iW a)=ab/\PyData.depthAll (iW a)<=4:=have:=pj 5 (.lst a) b;⟨this.1,XC this.2⟩
theorem I7 (hx:isData 4 x=ab)(b:a.all (isData 4)=ab):(iW a).any (·.eqv (eU x))=a.any (gJ · x):=by
 rw[Xd _,yS]
 induction a with
 |nil=>rfl
 |cons y a c=>
  simp only[Cp,fZ]at b
  simp only[vU,Function.comp,yR y x 4 4 b.1 hx]
  rw[(c b.2).symm];rfl
theorem I8 {v}{a}{n}{o}{neg c:Bool}{Q}{E}(I:VR C s.heap N x v)
 (r:s.heap.get? a=S (seqObj "list" o n))(L:bI C s.heap N k o.toList)(e:mK x k=S c)(hr:A.units+64<cLine)(q:Q (.bool (if neg then !c else c)) s):
 wpAny C.M A (compareOp (if neg then .NotIn else .In) v (.ref a)) Q E s:=by
 unfold mK at e
 split at e
 . rename_i b
   simp only[jF]at e;subst e
   refine ao (bI.reads 4 b.2 L) λas u=>ao (I.reads 4 b.1) λbs y=>au (pj 4 x b.1) λD U=>au (I6 b.2) λG O=> ?_
   have H:A.units+1+min (PyData.depthAll (iW k)) (eU x).depth<cLine:=by have:=(PyData.depthAll (iW k)).min_le_left (eU x).depth;exact HO hr O
   rw[<-I7 b.1 b.2]at q
   cases neg
   . exact SeqAt.in_list_reads (.list r rfl rfl u) y G D H q
   exact SeqAt.notIn_list_reads (.list r rfl rfl u) y G D H q
 exact aD e
theorem XD {v}{a}{n}{o}{neg c:Bool}{Q}{E}(I:VR C s.heap N x v)
 (r:s.heap.get? a=S (seqObj "tuple" o n))(L:bI C s.heap N k o.toList)(e:mK x k=S c)(hr:A.units+64<cLine)(q:Q (.bool (if neg then !c else c)) s):
 wpAny C.M A (compareOp (if neg then .NotIn else .In) v (.ref a)) Q E s:=by
 unfold mK at e
 split at e
 . rename_i b
   simp only[jF]at e;subst e
   refine ao (bI.reads 4 b.2 L) λas u=>ao (I.reads 4 b.1) λbs y=>au (pj 4 x b.1) λD U=>au (I6 b.2) λG O=> ?_
   have H:A.units+1+min (PyData.depthAll (iW k)) (eU x).depth<cLine:=by have:=(PyData.depthAll (iW k)).min_le_left (eU x).depth;exact HO hr O
   rw[<-I7 b.1 b.2]at q
   cases neg
   . exact SeqAt.in_tuple_reads (.tuple r rfl rfl u) y G D H q
   exact SeqAt.notIn_tuple_reads (.tuple r rfl rfl u) y G D H q
 exact aD e
theorem XE (k)(a):(ck k (a.map λp=>(p.1,X.v p.2))).isSome=(ck k a).isSome:=by
 rw[Cm _ _ _];simp
theorem I9 (i:aL C F ι σ s.heap){neg c:Bool}{a}{b}{v u}(ha:VR C s.heap (NN F ι σ) a v)(hb:XR C s.heap (NN F ι σ) ι b u)(e:n8 σ a b=S c)(hr:A.units+64<cLine)
 {Q}{E}(q:∀x,Q (.bool (if neg then !c else c)) {s with toks:=x}):wpAny C.M A (compareOp (if neg then .NotIn else .In) v u) Q E s:=by
 cases b with
 |v b=>
  cases b with
  |lst y=>
   refine bU hb λl n G O _ o r=> ?_;clear hb;subst O
   exact I8 ha o r e hr (q _)
  |tup y=>
   refine bU hb λl n G O _ o r=> ?_;clear hb;subst O
   exact XD ha o r e hr (q _)
  |aU t L=>
   refine au (kX e) λhk O=> ?_;subst O
   refine cD (hb.dictAt (ι:=ι)) λd O _ D=> ?_;subst O
   refine I5 D hk ha hr λx=> ?_
   rw[XE _ _];exact q x
  |_=>exact aD e
 |ref n=>
  refine ah hb λp H O=> ?_;subst O
  refine ah (oj e) λU I e=> ?_
  cases U with
  |lst y=>
   exact dh (qJ i H I) λk G o r=>ah (oj e) λas Y e=>I8 ha o (r.kz Y) e hr (q _)
  |aU t L=>
   refine au (kX e) λhk O=> ?_;subst O
   exact I5 (si i H I) hk ha hr q
  |_=>exact aD e
theorem yT {a b}{v u}(ha:XR C h N ι a v)(hb:XR C h N ι b u)(e:vD f a b=S c):∃x y t k,v= .int x t/\u= .int y k/\f x y=c:=by
 cases a with
 |ref _=>exact aD e
 |v a=>cases a with
  |int x=>cases b with
   |ref _=>exact aD e
   |v b=>cases b with
    |int y=>
     refine ao ha λt O=> ?_;clear ha;subst O
     refine ao hb λk O=> ?_;clear hb;subst O
     exact⟨x,y,t,k,rfl,rfl,je e⟩
    |_=>exact aD e
  |_=>cases b with
   |ref _=>exact aD e
   |v b=>exact aD e
theorem I' {a b}{v u}(ha:XR C h N ι a v)(hb:XR C h N ι b u)(e:BY f g a b=S c):(∃x y,v= .bool x/\u= .bool y/\f x y=c)\/∃x y,VR C h N x v/\VR C h N y u/\g x y=S c:=by
 cases a with
 |ref _=>exact aD e
 |v x=>cases b with
  |ref _=>cases x<;>(first|exact aD e|cases e)
  |v y=>
   have k:g x y=S c->(∃x y,v= .bool x/\u= .bool y/\f x y=c)\/∃x y,VR C h N x v/\VR C h N y u/\g x y=S c:=λe=> .inr ⟨x,y,ha,hb,e⟩
   cases x with
   |bool x=>cases y with
    |bool y=>exact .inl ⟨x,y,ha,hb,je e⟩
    |_=>exact k e
   |_=>exact k e
theorem Ja (i:aL C F ι σ s.heap){r}{c}{a b}{v u}(ha:XR C s.heap (NN F ι σ) ι a v)(hb:XR C s.heap (NN F ι σ) ι b u)(e:cO σ r a b=S c)(hr:A.units+64<cLine)
 {Q}{E}(q:∀I,Q (.bool c) {s with toks:=I}):wpAny C.M A (compareOp r.py v u) Q E s:=by
 cases r with
 |eq=>
  rcases I' ha hb e with ⟨x,y,rfl,rfl,rfl⟩| ⟨x,y,hx,D,e⟩
  . exact PyProof.Rows.eq_bool (q s.toks)
  exact Xg hx D e hr (q s.toks)
 |ne=>
  rcases I' ha hb e with ⟨x,y,rfl,rfl,rfl⟩| ⟨x,y,hx,D,e⟩
  . exact PyProof.Rows.ne_bool (q s.toks)
  . refine ah (yP e) λd G O=> ?_;subst O
    exact Xh hx D G hr (q s.toks)
 |lt=>
  refine qm (yT ha hb e) λx y t H O k o=> ?_;subst O;subst k;subst o
  exact PyProof.Rows.lt_int (q s.toks)
 |le=>
  refine qm (yT ha hb e) λx y t H O k o=> ?_;subst O;subst k;subst o
  exact PyProof.Rows.le_int (q s.toks)
 |gt=>
  refine qm (yT ha hb e) λx y t H O k o=> ?_;subst O;subst k;subst o
  exact PyProof.Rows.gt_int (q s.toks)
 |ge=>
  refine qm (yT ha hb e) λx y t H O k o=> ?_;subst O;subst k;subst o
  exact PyProof.Rows.ge_int (q s.toks)
 |isIn=>cases a with
  |v a=>exact I9 (neg:=ae) i ha hb e hr q
  |ref _=>exact aD e
 |iu=>cases a with
  |v a=>
   refine ah (yP e) λd G O=> ?_;subst O
   exact I9 (neg:=ab) i ha hb G hr q
  |ref _=>exact aD e
def v7:X->Bool:=tX ae
theorem Jb (neg)(a):tX neg a=if neg then !v7 a else v7 a:=by
 cases neg with
 |false=>rfl
 |true=>cases a with
  |v a=>cases a<;>rfl
  |ref n=>rfl
theorem XG (ha:XR C h N ι a v):plainIs v .none=ab/\(v== .none)=v7 a:=by
 cases a with
 |ref n=>refine ah ha λp _ O=> ?_;subst O;exact⟨rfl,rfl⟩
 |v a=>
  cases a with
  |none=>cases ha;exact⟨rfl,rfl⟩
  |bool b=>cases ha;exact⟨rfl,rfl⟩
  |int b=>refine ao ha λt O=> ?_;clear ha;subst O;exact⟨rfl,rfl⟩
  |str b=>refine ao ha λt O=> ?_;clear ha;subst O;exact⟨rfl,rfl⟩
  |tup xs=>refine iP ha λ_ _ _ O _=> ?_;clear ha;subst O;exact⟨rfl,rfl⟩
  |lst xs=>refine iP ha λ_ _ _ O _=> ?_;clear ha;subst O;exact⟨rfl,rfl⟩
  |aU _ _=>refine iP ha λ_ _ _ O _=> ?_;clear ha;subst O;exact⟨rfl,rfl⟩
  |obj _ _=>refine vx ha λ_ _ _ _ O _=> ?_;clear ha;subst O;exact⟨rfl,rfl⟩
theorem Jc (neg:Bool){a}{v}(ha:XR C s.heap N ι a v){Q}{E}
 (q:Q (.bool (if neg then !v7 a else v7 a)) s):wpAny C.M A (compareOp (if neg then .IsNot else .Is) v .none) Q E s:=by
 refine au (XG ha) λb c=> ?_
 cases neg
 . exact wpAny_is_plain b (Zrr c q)
 exact wpAny_isNot_plain b (Zrr c q)
theorem Cq (k:σ[n]?=S c)(r:c.isDead=ae)(u:o.isDead=ae)(b):own ι (σ.set n o) b↔own ι σ b:=by
 constructor
 . intro O;refine bU O λm p d a hm he hb=> ?_;clear O
   by_cases q:m=n
   . subst q;exact⟨m,p,c,a,k,r,hb⟩
   . rw[dG (.symm q)]at hm;exact⟨m,p,d,a,hm,he,hb⟩
 . intro O;refine bU O λm p d a hm he hb=> ?_;by_cases q:m=n
   . subst q;exact⟨m,p,o,a,by rw[om (dk.mp k).1];rfl,u,hb⟩
   exact⟨m,p,d,a,by rw[dG (.symm q)];exact hm,he,hb⟩
theorem XH (a:σ[n]?=S c)(k:c.isDead=ae)(o:q.isDead=ae):NN F ι (σ.set n q)=NN F ι σ:=by
 funext b;exact propext (or_congr .rfl (Cq a k o b))
theorem yU (i:aL C F ι σ h){n}{p}{c G}(H:ι[n]?=S p)(u:σ[n]?=S c)(D:c.isDead=ae)(O:G.isDead=ae)
 (k:∀b o,h.get? b=S o->b≠p.1->b≠p.2->h'.get? b=S o)(r:tZ C h' (NN F ι σ) ι p G):Step C F ι σ h ι (σ.set n G) h':=by
 have hn:=(dk.mp u).1
 have Q:∀b,¬own ι σ b->b≠p.1/\b≠p.2:=λb q=>⟨λe=>q ⟨n,p,c,H,u,D,.inl e⟩,λe=>q ⟨n,p,c,H,u,D,.inr e⟩⟩
 have I:=λb o e q=>k b o e (Q b q).1 (Q b q).2
 refine⟨⟨by simp[i.len],λb o e=>I b o (i.base b o e) λq=> ?_,λm q d a b=> ?_,λm U q q' d L a a' b b' e e' ne=> ?_,λb q=>i.fresh b ((Cq u D O b).mp q),λb f=> ?_⟩,
  I,λ_ _ e=>e,λb _ _ q=>(Cq u D O b).mp q⟩
 . have:=(i.fresh b q).1;rw[e]at this;exact kO this
 . rw[XH (F:=F) (ι:=ι) u D O]
   by_cases z:m=n
   . subst z
     rw[om hn]at b
     cases b
     rw[H]at a
     cases a
     exact r
   . rw[dG (.symm z)]at b
     cases Y:d.isDead with
     |true=>cases d<;>first|exact trivial|exact bT Y
     |false=>
      refine mB (i.apart m n q p d c a H b u Y D z) λx1 x2 x3 x4=>(i.cells m q d a b).mono ⟨λb o e q=>I b o e λz=>q (.inr z),λ_ _ _ q=>q⟩ (λ_ _ e=>e) λy o hy _ ho=>k y o ho ?_ ?_
      . rcases hy with rfl|rfl
        . exact x1
        exact x3
      . rcases hy with rfl|rfl
        . exact x2
        exact x4
 . have ej:∀(m:Nat) d,(σ.set n G)[m]?=S d->d.isDead=ae->∃L,σ[m]?=S L/\L.isDead=false:=λm d a b=>by
    by_cases z:m=n
    . subst z;exact⟨c,u,D⟩
    . rw[dG (.symm z)]at a;exact⟨d,a,b⟩
   exact ah (ej m d b e) λd1 y1 z1=>ah (ej U L b' e') λd2 y2 z2=>i.apart m U q q' d1 d2 a a' y1 y2 z1 z2 ne
 exact au (i.frames b f) λx aF=>ao aF λo y=>⟨x,o,I b o y λq=>(i.fresh b q).2 f⟩
theorem XR.handed (r:XR C h N ι x v):handedIn v=true:=by
 cases x with
 |ref n=>refine ah r λp _ O=> ?_;clear r;subst O;rfl
 |v a=>
  cases a with
  |none=>cases r;rfl
  |bool b=>cases r;rfl
  |int b=>refine ao r λt O=> ?_;clear r;subst O;rfl
  |str b=>refine ao r λt O=> ?_;clear r;subst O;rfl
  |tup xs=>refine iP r λ_ _ _ O _=> ?_;clear r;subst O;rfl
  |lst xs=>refine iP r λ_ _ _ O _=> ?_;clear r;subst O;rfl
  |aU _ _=>refine iP r λ_ _ _ O _=> ?_;clear r;subst O;rfl
  |obj _ _=>refine vx r λ_ _ _ _ O _=> ?_;clear r;subst O;rfl
theorem og.XI:∀ {k:List _} {es:List _},og C h N k es->g4 C h N ι (k.map λp=>(p.1,.v p.2)) es:=by
 intro o
 induction o with
 |nil=>
  intro _ e
  cases e;rfl
 |cons y r q=>
  intro _ e
  revert e;intro O;refine bU O λe D u x a b c=> ?_;clear O;subst x
  exact⟨e,_,u,rfl,a,b,q c⟩
theorem g4.find:∀ {k:List _} {es:List _} {f:Nat} {x:X},g4 C h N ι k es->n6 f k=S x->∃v,getL (C.fld f) es=S (S v)/\XR C h N ι x v:=by
 intro u
 induction u with
 |nil=>
  intro _ _ _ _ e
  exact aD e
 |cons D r y=>
  intro _ f x O;refine bU O λe G H q a b c=> ?_;clear O;intro hx
  subst q
  simp only[Ia]at hx
  split at hx
  . rename_i z;subst z
    cases hx
    refine⟨_,?_,b⟩
    unfold getL
    exact Zrr (List.find?_cons_of_pos (by rw[a];simp[Value.isStr])) rfl
  . rename_i z
    refine ah (y c hx) λv o q=>⟨v,?_,q⟩
    unfold getL at o ⊢
    have n1:e.key.isStr (C.fld f)=false:=by rw[a];simp only[Value.isStr,beq_eq_false_iff_ne];exact λw=>z (C.B8 _ _ w)
    refine Zrr (XJ (by rw[n1];decide)) ?_
    rw[vU,(by unfold DictEntry.refKey;rw[a];rfl:e.refKey=ae)];exact Zrr (IZ _) o
theorem g4.XM:∀ {k:List _} {es:List _},g4 C h N ι k es->es.any (·.refKey)=false:=by
 intro o
 induction o with
 |nil=>
  intro _ e
  cases e;rfl
 |cons x r u=>
  intro _ O;refine bU O λe y D q a b c=> ?_;clear O
  subst q
  rw[vU,(by unfold DictEntry.refKey;rw[a];rfl:e.refKey=ae),u c];rfl
theorem g4.absent:∀ {k:List _} {es:List _},g4 C h N ι k es->(∀p∈k,C.fld p.1≠name)->getL name es=S none:=by
 intro u
 induction u with
 |nil=>
  intro _ e _
  cases e;rfl
 |cons x r D=>
  obtain ⟨g,y⟩:=x
  intro _ O;refine bU O λe H I q a b c=> ?_;clear O;intro hn
  subst q
  have o:=D c λp G=>hn p (.tail _ G)
  unfold getL at o ⊢
  refine Zrr (XJ (by rw[(by rw[a];simp only[Value.isStr,beq_eq_false_iff_ne];exact hn _ (.head _):e.key.isStr _=ae)];decide)) ?_
  rw[vU,(by unfold DictEntry.refKey;rw[a];rfl:e.refKey=ae)];exact Zrr (IZ _) o
theorem XN:∀ {a:List (Nat×X)},(∀p∈a,p.1≠f)->lO f x a=a++ [(f,x)]:=by
 intro b
 induction b with
 |nil=>
  exact λ_=>rfl
 |cons p r c=>
  intro h
  simp only[BX,if_neg (h p (.head _))]
  rw[c λq k=>h q (.tail _ k)];rfl
theorem XO:∀ {a:List (Nat×X)},f∈a.map (·.1)->(lO f x a).map (·.1)=a.map (·.1):=by
 intro b
 induction b with
 |nil=>
  intro h
  cases h
 |cons p r c=>
  intro h
  simp only[BX]
  split
  . rename_i e;simp[e]
  . rename_i e
    rw[dz];exact Zrr (c (by simp only[dz,cy]at h;exact h.resolve_left λq=>e q.symm)) rfl
theorem XQ {c:List (Nat×X)}(h:(c.map (·.1)).Nodup):((lO f x c).map (·.1)).Nodup:=by
 by_cases q:f∈c.map (·.1)
 . rw[XO q];exact h
 . rewrite[XN λp k e=>q (bY.mpr ⟨p,k,e⟩)]
   simp only[bK,dz,qK]
   refine qL.mpr ⟨h,by simp,λa ha b hb=> ?_⟩
   simp only[dm]at hb
   subst hb
   exact λe=>q (e▸ha)
theorem g4.store {x}{v}{u}{k}(hx:XR C h N ι x v):∀ {o:List _} {es:List _},g4 C h N ι o es->g4 C h N ι (lO f x o) (putL (C.fld f) u (.str (C.fld f) k) v es):=by
 intro D
 induction D with
 |nil=>
  intro _ e
  cases e;exact⟨_,[],k,rfl,rfl,hx,rfl⟩
 |cons G r H=>
  obtain ⟨g,y⟩:=G
  intro _ O;refine bU O λe I tk' q a b c=> ?_;clear O
  subst q
  simp only[BX,putL]
  by_cases z:g=f
  . subst z
    rw[if_pos rfl];exact Zrr (if_pos (by rw[a];simp[Value.isStr])) ⟨_,_,_,rfl,a,hx,c⟩
  . rw[if_neg z];exact Zrr (if_neg (by rw[a];simp only[Value.isStr,beq_iff_eq];exact λw=>z (C.B8 _ _ w))) ⟨e,_,_,rfl,a,b,H c⟩
theorem XS (name)(a)(k v):∀es,(putL name a k v es).length<=es.length+1:=by
 intro b
 induction b with
 |nil=>
  simp[putL]
 |cons e r c=>
  simp only[putL]
  split
  . simp
  . simp only[jG];exact mU ‹_›
theorem g4.length:∀ {a:List _} {es:List _},g4 C h N ι a es->a.length=es.length:=by
 intro b
 induction b with
 |nil=>
  intro _ e
  cases e;rfl
 |cons _ o k=>
  intro _ O;refine bU O λ_ _ _ q _ _ c=> ?_;clear O
  subst q;simp[k c]
structure t_ (C:CX)(h:Heap)(N:aO->Prop)(ι:Lay)(c:Nat)(fs:List (Nat×X))(v:Value):Prop where
 at_:∃a d n es,v= .ref a/\h.get? a=S (instObj (C.cls c) d)/\h.get? d=S (dictOf es n)/\g4 C h N ι fs es
theorem Jd (r:XR C h N ι (.v (.obj c b)) v):t_ C h N ι c (b.map λp=>(p.1,.v p.2)) v:=by
 refine HC r λa d n es O _ _ k o hf _=> ?_;clear r;subst O
 exact⟨a,d,n,es,rfl,k,o,hf.XI⟩
theorem Je (i:aL C F ι σ h){n c}{a}{v}(b:σ[n]?=S (.obj c a))(r:XR C h N ι (.ref n) v):t_ C h (NN F ι σ) ι c a v:=by
 refine ah r λp o O=> ?_;clear r;subst O
 exact dp (i.cells n p _ o b) λ_ q u=>bp u λk es x hf _=>⟨_,_,k,es,rfl,q,x,hf⟩
theorem t_.inst (o:t_ C h N ι c b v):∃a d n es,v= .ref a/\g4 C h N ι b es/\InstAt h a (instObj (C.cls c) d) (C.cls c) (S (dictOf es n)):=by
 refine tO o.at_ λa d n es O k q hf=> ?_;subst O
 exact⟨a,d,n,es,rfl,hf,k,rfl,rfl,q⟩
theorem XT (f):∀a,n6 f (a.map λp=>(p.1,X.v p.2))=(n6 f a).map .v:=by
 intro b
 induction b with
 |nil=>
  exact rfl
 |cons p r c=>
  simp only[dz,Ia]
  split
  . rfl
  exact c
theorem XU (i:aL C F ι σ h){o x}{f}{v}(k:XR C h (NN F ι σ) ι o v)(e:ef σ o f=S x):∃c b,hJ c f=ab/\n6 f b=S x/\t_ C h (NN F ι σ) ι c b v:=by
 cases o with
 |v a=>cases a with
  |obj c b=>
   exact au (qE e) λhf e=>⟨c,_,hf,by rw[XT _ _];exact e,Jd k⟩
  |_=>exact aD e
 |ref n=>
  refine ah (oj e) λq r e=> ?_
  cases q with
  |obj c b=>
   exact au (qE e) λhf e=>⟨c,b,hf,e,Je i r k⟩
  |_=>exact aD e
theorem Cr (e:hJ c f=ab):c<6:=by
 rcases c.lt_or_ge 6 with q|q
 . exact q
 . refine ao (Nat.exists_eq_add_of_le' q) λd O=> ?_;subst O
   exact bT e
theorem v8 {a:c}{b:o}(h:m=S a)(k:f a=S b):m.bind f=S b:=Zrr h k
theorem XW (i:aL C F ι σ s.heap){o x}{f}{v}{b}{Q}{E}(k:XR C s.heap (NN F ι σ) ι o v)(e:ef σ o f=S x)
 (q:∀u r,XR C s.heap (NN F ι σ) ι x u->Q u {s with toks:=r}):wpAny C.M A (getAttr v (C.fld f) b) Q E s:=by
 refine bp (XU i k e) λc U hf hl y=>qm y.inst λa d n es O D I=> ?_;subst O
 exact ah (D.find hl) λu G hx=>have ok:=C.yK c (Cr hf);ah (Cs ok.dict) λcd H L=>get_value (λb o e=>i.base b o (C.X b o e)) I ok.ga (v8 H (v8 (C.B9 c f hf) (v8 rfl (v8 rfl (v8 (a:=S u) (by simp only[PySem.W.ownOf,L,if_true,lookIn_dict,G]) rfl))))) hx.handed (q u _ hx)
def pn (e:aI):Bool:=(B7 e).all λx=> !x.1.2.1.isEmpty
theorem Cv (h:pn o=ab):attributeBase o attr env a=a:=by
 cases o with
 |Call f as b p=>
  cases as with
  |nil=>exact(gr h).elim
  |cons=>cases f<;>rfl
 |_=>rfl
theorem XX {f}{a}{e}{env}{pos}(hb:pn e=ab)
 (he:EV C A F ι σ s (eval e env) o a)(ha:ef a o f=S x):EV C A F ι σ s (eval (.Attribute e (C.fld f) pos) env) x a:=by
 intro Q E q
 rw[arm_eval_Attribute _ _ _ _,Cv hb]
 exact aG (he _ _ λv r y D b c=>aG (qM (aG (jH (XW b.inv c ha λu k hx=>aG (XY (bA (q u _ k _ b hx))))))))
theorem update_other (h:Heap)(a)(f){b}(hb:b≠a){o}(e:h.get? b=S o):(h.update a f).get? b=S o:=by
 rw[h.get?_update_ne b a f hb];exact e
theorem XZ (i:aL C F ι σ s.heap){o x}{f}{v u}{Q}{E}(L:XR C s.heap (NN F ι σ) ι o v)(hx:XR C s.heap (NN F ι σ) ι x u)
 (e:r8 σ o f x=S af)(q:∀h' tk,Step C F ι σ s.heap ι af h'->Q () (upd s h' tk)):wpAny C.M A (setAttr v (C.fld f) u) Q E s:=by
 cases o with
 |v a=>exact aD e
 |ref n=>
  refine ah (oj e) λcc D e=> ?_
  cases cc with
  |obj c fs=>
   refine au (kX e) λhlt O=> ?_;subst O
   refine ah L λp G O=> ?_;clear L;subst O
   refine dp (i.cells n p _ G D) λne H U=>bp U λk es r hf nd=> ?_;clear U
   have ok:=C.yK c (Cr hlt.2)
   have X:C.K.In s.heap:=λb o e=>i.base b o (C.X b o e)
   have I:InstAt s.heap p.1 (instObj (C.cls c) p.2) (C.cls c) (S (dictOf es k)):=⟨H,rfl,rfl,r⟩
   refine set_plain X I ok.sa ?_
   obtain ⟨y,g,d,t,os⟩:=s
   refine osa_open (s:=⟨y,g,d,t+1,os⟩) X I ok.over (by unfold takerIn;rw[(C.B9 c f hlt.2)];rfl) λb=>ah (Cs ok.dict) λcd Ct Cu=> ?_
   refine aG (bA (aG (aG (wpAny_loadPart H (aG (looks_clsIn X Ct _ _ _ _ (λ_ _ e=>e) (Zrr Cu (bA (aG (bA (aG ?_)))))))))))
   unfold nsSet
   refine aG (aG (wpAny_askSetting (bA (aG (wpAny_mkText (aG (wpAny_loadPart r ?_)))))))
   dsimp only
   refine Zrr (by rw[aRefKeyMayBeTheName_at _ _,X0.symm,X0.symm,hf.XM,Bool.and_false _];rfl:aRefKeyMayBeTheName (C.fld f) es.toArray=ae) (wpAny_updatePart r ?_)
   have hl:es.length<64:=Zrr hf.length.symm hlt.1
   have Y:(y.update p.2 (.putName (C.fld f) (PyData.keyHash C.w.params (C.fld f)) (.str (C.fld f) (t+1)) u)).get? p.2=S (dictOf (putL (C.fld f) (PyData.keyHash C.w.params (C.fld f)) (.str (C.fld f) (t+1)) u es) (putN (C.fld f) es k)):=by
    refine Zrr (Cw _ r (by rewrite[putName_dict];rfl)) ?_;rewrite[putName_dict];rfl
   exact aG (wpAny_lookBehind Y (pastItsLine_dict (by rw[v9,sizeLine_eq];have:=XS (C.fld f) (PyData.keyHash C.w.params (C.fld f)) (.str (C.fld f) (t+1)) u es;exact Un hl this)) (bA (q _ _ (have K:Kept y (y.update p.2 (.putName (C.fld f) (PyData.keyHash C.w.params (C.fld f)) (.str (C.fld f) (t+1)) u)) (NN F ι σ) (NN F ι σ):=
    ⟨λb o e n'=>update_other _ _ _ (λz=>n' (.inr ⟨n,p,_,G,D,rfl,.inr z⟩)) e,λ_ _ _ q=>q⟩;yU i G D rfl rfl (λb o e _ h2=>update_other _ _ _ h2 e) ⟨ne,update_other _ _ _ ne.symm H,_,_,Y,.store (hx.mono K λ_ _ e=>e) (hf.mono K λ_ _ e=>e),XQ nd⟩))))
  |_=>exact aD e
theorem X1 {o x}{f}{u}{b c}{e}{env}{pos}(i:aL C F ι σ s.heap)(hx:XR C s.heap (NN F ι σ) ι x u)
 (he:EV C A F ι σ s (eval e env) o b)(ha:r8 b o f x=S c){Q}{E}(q:∀h' k ag,Step C F ι σ s.heap ag c h'->Q () (upd s h' k)):
 wpAny C.M A (assign (.Attribute e (C.fld f) pos) env u) Q E s:=aG (jH (he _ _ λv D G H a r=>aG (qM (aG (jH (XZ a.inv r (a.xr hx) ha λI L y=>wpAny_release (q _ _ _ (a.trans y))))))))
theorem X2 (i:aL C F ι σ s.heap){o}{c}{name}{fa}{v}{y}{Q}{E}(x:XR C s.heap (NN F ι σ) ι o v)
 (e:n7 σ o=S c)(D:c<6)(hf:findIn C.K (.ref (C.cls c)) name=S (S (.ref fa)))(G:typeIn C.K (.ref fa)=S (.type "function"))(hn:∀f,hJ c f=ab->C.fld f≠name)
 (q:Q (.ref fa,[v]) s):wpAny C.M A (getMethod v name y) Q E s:=by
 have ok:=C.yK c D
 have key:∃k,t_ C s.heap (NN F ι σ) ι c k v/\∀p∈k,hJ c p.1=true:=by
  cases o with
  |v a=>cases a with
   |obj c k=>
    refine au (kX e) λr O=> ?_;subst O
    refine⟨_,Jd x,λp u=>ah (bY.mp u) λH L O=> ?_⟩;subst O
    exact cF.mp r H L
   |_=>exact aD e
  |ref n=>
   refine ah (oj e) λU Y e=> ?_
   cases U with
   |obj c k=>
    refine au (kX e) λr O=> ?_;subst O
    exact⟨_,Je i Y x,λp u=>cF.mp r p u⟩
   |_=>exact aD e
 refine ah key λk oa r=> ?_;clear key
 refine qm oa.inst λa d n es O xf I=> ?_;subst O
 refine method_fn (λb o e=>i.base b o (C.X b o e)) I ok.ga ok.gx hf G ?_ q
 unfold shadowIn
 dsimp only
 rw[lookIn_dict _ _ _,xf.absent λp u=>hn _ (r p u)]
 rfl
theorem sj {b a}{o i}{T id}{c}{Q}{E}(k:s.TypeIs o T)(hl:typeLookup (.type T) "__getitem__" =pure (S (.builtin id)))
 (q:subscripted a ae o i=operate c (getItem o i))(h:wpAny C.M A (getItem o i) Q E s):wpAny C.M A (subscriptTail b a o i) Q E s:=by
 refine aG (aG (wpAny_specialOf k hl ?_))
 first
  |exact bA (aG (Zrr q (wpAny_operating (mW h (λr u h₃=>aG (XY (bA h₃))) λ_ _ x=>x))))
  |exact aG _
  |exact aG _
theorem Jf {k j:Int}{n:Nat}(e:(if k<0 then k+n else k)=j)(h:0<=j)(l:j<n):seqIndex? k n=S j.toNat:=by
 unfold seqIndex?
 rw[e];exact if_pos (dF.mpr ⟨decide_eq_true h,decide_eq_true l⟩)
theorem Jg (e:lP k n=S j):seqIndex? k n=S j/\ -2^63<=k/\k<2^63/\(0<=k->j=k.toNat)/\(k<0->j=(k+n).toNat/\ -n<=k):=by
 unfold lP at e
 by_cases h:0<=k
 . rw[if_pos h]at e
   exact au (kX e) λa b=>b▸⟨Jf (if_neg (lT.mpr h)) h a.1,II h,IJ a.2,λ_=>rfl,λz=>absurd h (IL.mpr z)⟩
 . rw[if_neg h]at e
   have h:=IL.mp h
   exact au (kX e) λa b=>b▸⟨Jf (if_pos h) a.1 (Int.lt_of_lt_of_le (Int.add_lt_add_right h n) (Jh (Cx n))),sf (mR (by decide) a.2),mR h (by decide),λz=>absurd h (lT.mpr z),λ_=>⟨rfl,Int.zero_sub n▸Int.sub_right_le_of_le_add a.1⟩⟩
theorem Ji {j}{v}{Q}{E}(o:s.heap.get? a=S (seqObj "list" b n))(e:lP k b.size=S j)(c:b[j]?=S v)
 (q:Q v s):wpAny C.M A (getItem (.ref a) (.int k t)) Q E s:=by
 refine BP (Jg e) λ_ lo r x y=> ?_
 have hl:s.heap.IsList a b:=⟨_,o,rfl,n,rfl⟩
 rcases k.lt_or_le 0 with z|z
 . refine au (y z) λO w=> ?_;subst O
   exact wpAny_getItem_list_neg hl z w lo c q
 . obtain rfl:=x z
   exact wpAny_getItem_list hl z r c q
theorem X4 {j}{v}{Q}{E}(c:s.heap.get? a=S (seqObj "tuple" b n))(e:lP k b.size=S j)(o:b[j]?=S v)
 (q:Q v s):wpAny C.M A (getItem (.ref a) (.int k t)) Q E s:=BP (Jg e) λx lo r _ _=>PyProof.Rows.getItem_tuple ⟨_,c,rfl,n,rfl⟩ lo r x o q
theorem Cy {c}(b:s.heap.get? a=S (seqObj c k n)):s.TypeIs (.ref a) c:=⟨_,b,rfl⟩
theorem X5 (i:aL C F ι σ s.heap){o x}{k}{v u}{f_ qN}{Q}{E}(H:XR C s.heap (NN F ι σ) ι o v)(hk:VR C s.heap (NN F ι σ) k u)
 (e:b4 σ o k=S x)(hr:A.units+64<cLine)(I:∀o i,subscripted qN ae o i=operate [o,i] (getItem o i))(q:∀r L,XR C s.heap (NN F ι σ) ι x r->Q r {s with toks:=L}):
 wpAny C.M A (subscriptTail f_ qN v u) Q E s:=by
 unfold b4 at e
 cases o with
 |v a=>
  cases a with
  |lst xs=>
   dsimp only at e
   cases k<;>dsimp only at e<;>first|exact aD e|skip
   refine gY e λy c O=> ?_;subst O
   refine kr c λj U c=>bU H λa n vs O _ b G=> ?_;clear H;subst O
   refine ao hk λt O=> ?_;clear hk;subst O
   exact ah (G.get c) λr Y hx=>sj (Cy b) Cz.lookup (I _ _) (Ji b (by rw[gP.symm];exact Zrr G.length.symm U) (by rw[eL.symm];exact Y) (q r s.toks hx))
  |tup xs=>
   dsimp only at e
   cases k<;>dsimp only at e<;>first|exact aD e|skip
   refine gY e λy c O=> ?_;subst O
   refine kr c λj U c=>bU H λa n vs O _ b G=> ?_;clear H;subst O
   refine ao hk λt O=> ?_;clear hk;subst O
   exact ah (G.get c) λr Y hx=>sj (Cy b) yW.lookup (I _ _) (X4 b (by rw[gP.symm];exact Zrr G.length.symm U) (by rw[eL.symm];exact Y) (q r s.toks hx))
  |aU t ak=>
   refine au (qE e) λua e=> ?_
   . refine ah (yP e) λy c O=> ?_;subst O
     refine cD (H.dictAt (ι:=ι)) λa O _ D=> ?_;subst O
     obtain ⟨low,n,es,b,_⟩:=id D
     refine sj ⟨_,b,rfl⟩ slot_dict_getitem.lookup (I _ _) (I4 D ua hk (by rw[Cm X.v _ _,c];rfl) hr λr L hx=>q r L hx)
  |_=>exact aD e
 |ref m=>
  refine ah H λp hp O=> ?_;clear H;subst O
  refine ah (oj e) λcc hc e=> ?_
  cases cc with
  |lst xs=>
   cases k<;>dsimp only at e<;>first|exact aD e|skip
   refine kr e λj U c=>dh (qJ i hp hc) λn vs b G=>ao hk λt O=> ?_;clear hk;subst O
   exact ah (G.get c) λr Y hx=>sj (Cy b) Cz.lookup (I _ _) (Ji b (by rw[gP.symm];exact Zrr G.length.symm U) (by rw[eL.symm];exact Y) (q r s.toks hx))
  |aU t ak=>
   refine au (qE e) λua e=> ?_
   . have D:=si i hp hc
     obtain ⟨low,n,es,b,_⟩:=id D
     refine sj ⟨_,b,rfl⟩ slot_dict_getitem.lookup (I _ _) (I4 D ua hk e hr λr L hx=>q r L hx)
  |_=>exact aD e
theorem Jj (h)(n):lQ h n=clipAt n h:=by
 have a:∀x:Int,(max 0 x).toNat=x.toNat:=λx=>(Int.le_total 0 x).elim (λq=>congrArg _ (Jk q)) λq=>(congrArg _ (X6 q)).trans (X7 q).symm
 show(if h<0 then(h+n).toNat else min _ n)=(max 0 (min (if h<0 then h+n else h) n)).toNat
 rw[a _]
 by_cases c:h<0
 . rw[if_pos c,if_pos c,Jl (Cf (X8 (sf c) n) (Jh (Cx _)))];rfl
 . refine ao (IM (lT.mp c)) λk O=> ?_;subst O
   exact Zrr (if_neg c) ((k.le_total n).elim (λq=>(jI q).trans (congrArg Int.toNat (Jl (CA.mpr q))).symm) λq=>(CB q).trans (congrArg Int.toNat (Int.min_eq_right (CA.mpr q))).symm)
theorem X9 (a)(h):slicePick a J (S h) J=(a.toList.take (lQ h a.size)).toArray:=by
 rw[Jm _ _ _,Jj _ _];simp
theorem X' (a)(h):slicePick a (S h) J J=(a.toList.drop (lQ h a.size)).toArray:=by
 rw[Jm _ _ _,Jj _ _]
 exact Zrr (gb (by simp)) rfl
theorem X_ (lo a)(n:Nat):Builtin.Slice.sliceAdjust lo a 1 n=(((lo.elim 0 (clipAt n):Nat):Int),((a.elim n (clipAt n):Nat):Int)):=by
 have key:∀v:Int,(if v<0 then max (v+n) 0 else min v n)=((clipAt n v:Nat):Int):=λv=>by
  rw[clipAt_cast _ _]
  by_cases h:v<0
  . rw[if_pos h,if_pos h,Jl (Cf (X8 (sf h) n) (Jh (Cx n)))];exact Int.max_comm ..
  . rw[if_neg h,if_neg h];exact(Jk (Int.le_min.mpr ⟨lT.mp h,mY n⟩)).symm
 cases lo<;>cases a<;>exact wb (by first|rfl|exact key _) (by first|rfl|exact key _)
theorem Ya (a b:Nat):Builtin.Slice.slicePlaces a b 1=b - a:=by
 show(if(a:Int)<b then((b:Int) - a - 1) /1+1 else 0).toNat=_
 by_cases h:(a:Int)<b
 . rw[if_pos h,Int.ediv_one _,Yb _ _];exact Int.toNat_sub ..
 . rw[if_neg h];exact(H8 (CA.mp (lT.mp h))).symm
theorem Yc {sl:aO}{b c}{lo a}{Q:Int×Int×Nat->aT->Prop}{E}(y:s.heap.IsSliceOf sl b c .none)(D:IsPart b lo)(G:IsPart c a)
 (h:Q ((lo.elim 0 (clipAt n):Nat),1,a.elim n (clipAt n) - lo.elim 0 (clipAt n)) s):wpAny C.M A (Builtin.Slice.sliceApplied (.ref sl) (pure n)) Q E s:=by
 refine cD (id y) λos o I r=> ?_
 have u:∀ {v:Value} {k:Option _} {Q:Option _->aT->Prop},IsPart v k->Q k s->wpAny C.M A (Builtin.Slice.slicePartIndex v) Q E s:=by
  intro v k Q H q
  cases H with
  |none=>exact slicePart_none q
  |int i t=>exact slicePart_int q
 refine aG (aG (Jp o r (x:=b) rfl (aG (Jp o r (x:=c) rfl (aG (Jp o r (x:= .none) rfl (bA (aG (slicePart_none ?_)))))))))
 refine Zrr (if_neg (by decide)) aG (u D (aG (u G (aG (bA ?_)))))
 show wpAny _ _ (match Builtin.Slice.sliceAdjust lo a 1 n with| (lo,a)=>pure (lo,(1:Int),Builtin.Slice.slicePlaces lo a 1)) _ _ s
 rw[X_ _ _ _]
 show wpAny _ _ (pure (_,1,Builtin.Slice.slicePlaces _ _ 1)) _ _ s
 rw[Ya _ _]
 exact bA h
theorem Yd (xs:Array Value)(a k:Nat):((List.range k).filterMap λ(j:Nat)=>xs[(a+ (j:Int)*1).toNat]?).toArray=((xs.toList.drop a).take k).toArray:=by
 rw[(by
  funext j
  have:(a+ (j:Int)*1).toNat=a+j:=congrArg Int.toNat (congrArg (_+ ·) (Int.mul_one _))
  rw[this];rfl:(λ(j:Nat)=>xs[(a+ (j:Int)*1).toNat]?)=λj=>xs[a+j]?)]
 have:=pick_run xs a k
 rw[List.filterMap_map]at this
 have b:((λx=>xs[x]?) ∘λx=>a+x)=λj=>xs[a+j]?:=rfl
 rw[b]at this
 rw[this];rfl
theorem Ye {sl:aO}{items}{n}{k o}{lo a}{Q}{E}(u:s.heap.get? t=S (seqObj "tuple" items n))(q:s.heap.IsSliceOf sl k o .none)
 (x:IsPart k lo)(y:IsPart o a)(hsz:items.size<=sizeLine)
 (D:slicePick items lo a J=items->Q (.ref t) s)
 (h:Q (.ref s.heap.objs.size) {s with heap:=s.heap.push {cls:= .type "tuple",data:= .seq (slicePick items lo a J)}}):wpAny C.M A (getItem (.ref t) (.ref sl)) Q E s:=by
 have b:IsTup _ t _:=⟨_,u,rfl,n,rfl⟩
 refine cD (id q) λos G H I=> ?_
 have r:=Jm items lo a
 unfold getItem
 try with_reducible refine jH ?_
 refine aG (wpAny_sequenceKey b.typeIs rfl (aG (Jq b.typeIs yW
  (CC yW b.typeIs entry_tuple_getitem ?_ (args_tuple_getitem _ _)))))
 show wpAny _ _ (Builtin.Tuple.tupleItemsOf _>>=_) _ _ s
 refine aG (tupleItemsOf_ b (aG (CD ⟨os,G,H⟩ (Zrr (if_pos rfl) aG (Yc q x y ?_)))))
 show wpAny _ _ (if(((lo.elim 0 _:Nat):Int)==0&&1==1&&a.elim _ _ - lo.elim 0 _==items.size)=ab then _ else _) _ _ s
 split
 . rename_i c
   exact aG (aG (CD b.typeIs (bA (aG (sr (aG (bA (bA ⟨_,rfl,bA (D (by
    simp only[fZ,beq_iff_eq]at c
    rw[r,c.2]
    have:lo.elim 0 (clipAt items.size)=0:=by lia
    rw[this];exact Zrr (gb (by simp)) rfl))⟩))))))))
 . rw[Yd _ _ _,r.symm]
   first
    |exact aG _
    |exact aG (yX (aG (bA (bA ⟨_,rfl,bA h⟩))) (ba (slicePick_size_le _ lo a J) hsz))
    |exact aG _
    |exact aG _
variable {aC bk:Hp}
noncomputable def CE (e:aI):Bool:=e.ctorIdx==26
theorem Yg (e:CE k=ae)(o i):subscripted k ae o i=operate [o,i] (getItem o i):=by
 cases k with
 |Slice a b c p=>exact(gr e.symm).elim
 |_=>rfl
theorem Yh {o x y:X}{k}{e f}{pos}(he:EV C A F ι σ s (eval e env) o aC)(hf:∀h' a ag,Step C F ι σ s.heap ag aC h'->EV C A F ag aC (upd s h' a) (eval f env) (.v k) bk)
 (D:b4 bk o k=S x)(hr:A.units+64<cLine)(G:CE f=ae):EV C A F ι σ s (eval (.Subscript e f pos) env) x bk:=λQ E q=>Subscript_ (he _ _ λv L O U c H=>hf _ _ _ c _ _ λu I Y eK b hk=>X5 b.inv (b.xr H) hk D hr (Yg G) λr a hx=>q r I a _ (c.trans b) hx)
theorem Jr (i:aL C F ι σ s.heap){a b:V}{v u x}{lo y}{sl}{Q}{E}(ha:VR C s.heap (NN F ι σ) a v)
 (D:s.heap.IsSliceOf sl u x .none)(G:IsPart u lo)(H:IsPart x y){f:List V->List V}(hf:∀(xs:List V) (c:Array _),bI C s.heap (NN F ι σ) xs c.toList->bI C s.heap (NN F ι σ) (f xs) (slicePick c lo y J).toList)
 (e:(match a with| .lst xs=>if xs.length<aE then S (.lst (f xs))else .none| .tup xs=>if xs.length<aE then S (.tup (f xs))else .none|_=> .none)=S b)
 (q:∀r h',Step C F ι σ s.heap ι σ h'->VR C h' (NN F ι σ) b r->Q r (upd s h' s.toks)):wpAny C.M A (getItem v (.ref sl)) Q E s:=by
 cases a with
 |lst xs=>
  refine au (qE e) λhl e=> ?_
  cases e
  refine bU ha λa n c O _ o k=> ?_;subst O
  have hsz:c.size<=sizeLine:=by rw[gP.symm,k.length.symm];exact fQ hl
  exact au (yN i (hf xs c k)) λst r=>wpAny_getItem_list_slice ⟨_,o,rfl,n,rfl⟩ D G H .none (by decide) (q _ _ st r) hsz
 |tup xs=>
  refine au (qE e) λhl e=> ?_
  cases e
  refine bU ha λa n c O hn o k=> ?_;subst O
  have hsz:c.size<=sizeLine:=by rw[gP.symm,k.length.symm];exact fQ hl
  refine au (yM i (hf xs c k)) λst r=>Ye o D G H hsz (λw=>q _ _ (.refl i) ?_) (q _ _ st r)
  have:=hf xs c k
  rw[w]at this
  exact⟨a,n,c,rfl,hn,o,this⟩
 |_=>exact aD e
theorem Yi (x:Str)(h:Nat):(Builtin.Str.strSliceIndices J (S h) 1 x.length).filterMap (x.cps[·]?)=x.cps.toList.take h:=by
 rw[Js _ _]
 rcases h.le_total _ with q|q
 . have:=Yj x (dO _) q
   simpa using this
 . rw[(by
    exact Zrr (Js _ _).symm (sliceIdx_hi_beyond _ (by lia)):Builtin.Str.strSliceIndices _ _ 1 _=Builtin.Str.strSliceIndices (S 0) (S x.length) 1 _)]
   have:=Yj x (dO _) (bb _)
   rw[this]
   have l:x.length=x.cps.toList.length:=rfl
   rw[CF,Nat.sub_zero _];exact Zrr (gb (aK l.symm)) (Zrr (gb (hC (aK l.symm) q)) rfl)
theorem Yk {a}{h}{v}{t}{sl}{Q}{E}(ha:VR C s.heap N (.str a) v)
 (c:s.heap.IsSliceOf sl .none (.int h t) .none)(h0:0<=h)(hl:a.length<aE)(q:∀r b,VR C s.heap N (.str (a.take h.toNat)) r->Q r {s with toks:=b}):wpAny C.M A (getItem v (.ref sl)) Q E s:=by
 ((refine ao ha λk O=> ?_;clear ha);obtain rfl:=O)
 refine wpAny_getItem_str_slice (l:=J) (u:=S (h,t)) (st:=J) c rfl ?_
 (refine ao (IM h0) λn O=> ?_;obtain rfl:=O)
 unfold sliceMade slicePicked
 simp only[Option.map_none,uc,Option.getD_none]
 have key:=Yi ⟨a.toArray⟩ n
 split
 . rename_i w
   simp only[beq_self_eq_true,Bool.true_and,beq_iff_eq]at w
   refine q _ s.toks ?_
   refine⟨k,?_⟩
   have l:(⟨a.toArray⟩:Str).length=a.length:=by simp[Str.length]
   have b:a.take ((n:Int)).toNat=a:=by
    rcases n.le_total a.length with z|z
    . have:=StrLaws.strSliceIndices_plain (dO _) z
      rw[l,Js]at w
      rw[show((0:Nat):Int)=0 from rfl]at this
      rw[this]at w
      simp at w
      refine Zrr (gb (by lia)) ?_;rfl
    . refine Zrr (gb (by lia)) ?_;rfl
   rw[b];rfl
 . show _/\_
   rw[key]
   refine⟨?_,q _ _ ?_⟩
   . have:=fQ hl
     simp only[Str.length,v9,ig]
     exact Uc this
   . exact⟨s.toks,rfl⟩
theorem Yl (h:mJ a c=S b):∃n,c= .int n:=by cases c<;>first|exact⟨_,rfl⟩|exact aD h
theorem Ym (h:tS a c=S b):∃n,c= .int n:=by cases c<;>first|exact⟨_,rfl⟩|exact aD h
theorem Yn {n}{v}(c:VR C s.heap N a v)(hx:mJ a (.int n)=S b):∃T id,typeLookup (.type T) "__getitem__" =pure (S (.builtin id))/\s.TypeIs v T:=by
 cases a with
 |str x=>refine ao c λ_ O=> ?_;clear c;subst O;exact⟨_,_,PySem.F.slot_str_getitem.lookup,rfl⟩
 |tup xs=>refine bU c λ_ _ _ O _ k _=> ?_;clear c;subst O;exact⟨_,_,yW.lookup,_,k,rfl⟩
 |lst xs=>refine bU c λ_ _ _ O _ k _=> ?_;clear c;subst O;exact⟨_,_,Cz.lookup,_,k,rfl⟩
 |_=>exact aD hx
theorem Yo {n}{v}(c:VR C s.heap N a v)(hx:tS a (.int n)=S b):∃T id,typeLookup (.type T) "__getitem__" =pure (S (.builtin id))/\s.TypeIs v T:=by
 cases a with
 |tup xs=>refine bU c λ_ _ _ O _ k _=> ?_;clear c;subst O;exact⟨_,_,yW.lookup,_,k,rfl⟩
 |lst xs=>refine bU c λ_ _ _ O _ k _=> ?_;clear c;subst O;exact⟨_,_,Cz.lookup,_,k,rfl⟩
 |_=>exact aD hx
theorem Yp (i:aL C F ι σ s.heap){a b}{v}{k}{t}{sl}{Q}{E}(u:VR C s.heap (NN F ι σ) a v)(y:s.heap.IsSliceOf sl .none (.int k t) .none)(hx:mJ a (.int k)=S b)
 (q:∀r h' o,Step C F ι σ s.heap ι σ h'->VR C h' (NN F ι σ) b r->Q r (upd s h' o)):wpAny C.M A (getItem v (.ref sl)) Q E s:=by
 have go:=Jr (A:=A) (E:=E) (Q:=Q) (b:=b) i u y .none (.int k t)
  λxs D r=>by rw[X9 _ _,gP.symm,r.length.symm];exact r.take _
 cases a with
 |lst xs=>exact go hx λr h'=>q r h' _
 |tup xs=>exact go hx λr h'=>q r h' _
 |str x=>
  refine au (qE hx) λc hx=> ?_
  cases hx
  exact Yk u y c.2 c.1 λr o hr=>q r _ o (.refl i) hr
 |_=>exact aD hx
theorem Yq (i:aL C F ι σ s.heap){a b}{v}{c}{t}{sl}{Q}{E}(k:VR C s.heap (NN F ι σ) a v)(o:s.heap.IsSliceOf sl (.int c t) .none .none)(hx:tS a (.int c)=S b)
 (q:∀r h' u,Step C F ι σ s.heap ι σ h'->VR C h' (NN F ι σ) b r->Q r (upd s h' u)):wpAny C.M A (getItem v (.ref sl)) Q E s:=by
 have go:=Jr (A:=A) (E:=E) (Q:=Q) (b:=b) i k o (.int c t) .none
  λxs x r=>by rw[X' _ _,gP.symm,r.length.symm];exact r.drop _
 cases a with
 |lst xs=>exact go hx λr h'=>q r h' _
 |tup xs=>exact go hx λr h'=>q r h' _
 |_=>exact aD hx
theorem Yr {y}{e f}{p pos}(he:EV C A F ι σ s (eval e env) (.v a) aC)(hf:∀h' k ag,Step C F ι σ s.heap ag aC h'->EV C A F ag aC (upd s h' k) (eval f env) (.v y) bk)
 (hx:mJ a y=S b):EV C A F ι σ s (eval (.Subscript e (.Slice J (S f) J p) pos) env) (.v b) bk:=by
 refine ao (Yl hx) λU O=> ?_;subst O
 refine λQ E q=>Subscript_ (he _ _ λv Y bC bh D c=>wpAny_Slice (bA (hf _ _ _ D _ _ λu G H eK o hk=>bA (ao hk λt O=> ?_))));clear hk;subst O
 exact have x:=iy o.inv (eQ _ _);have c:=x.xr (o.xr c);dh (Yn (s:= {s with heap:=G.push _,toks:=H}) c hx) λT id hl I=>sj I hl rfl (Yp x.inv c (.new _ _ _ _) hx λr h' k st L=>q r h' k _ ((D.trans o).trans (x.trans st)) L)
theorem Yt {y}{e f}{p pos}(he:EV C A F ι σ s (eval e env) (.v a) aC)(hf:∀h' k ag,Step C F ι σ s.heap ag aC h'->EV C A F ag aC (upd s h' k) (eval f env) (.v y) bk)
 (hx:tS a y=S b):EV C A F ι σ s (eval (.Subscript e (.Slice (S f) J J p) pos) env) (.v b) bk:=by
 refine ao (Ym hx) λU O=> ?_;subst O
 refine λQ E q=>Subscript_ (he _ _ λv Y bC bh D c=>wpAny_Slice (hf _ _ _ D _ _ λu G H eK o hk=>bA (bA (ao hk λt O=> ?_))));clear hk;subst O
 exact have x:=iy o.inv (eQ _ _);have c:=x.xr (o.xr c);dh (Yo (s:= {s with heap:=G.push _,toks:=H}) c hx) λT id hl I=>sj I hl rfl (Yq x.inv c (.new _ _ _ _) hx λr h' k st L=>q r h' k _ ((D.trans o).trans (x.trans st)) L)
def Yu (C:CX)(F:aO->Prop)(ι:Lay)(σ:Hp)(s:aT)(xs:List X)(c:Hp)(Q:List Value->aT->Prop):Prop:=∀k a o b,Step C F ι σ s.heap b c a->bJ C a (NN F b c) b xs k->Q k (upd s a o)
def lU (C:CX)(A:Around)(F:aO->Prop)(ι:Lay)(σ:Hp)(s:aT)(t:Sem (List Value))(xs:List X)(a:Hp):Prop:=
 ∀(Q:List Value->aT->Prop) (E:Value->aT->Prop),
  Yu C F ι σ s xs a Q->wpAny C.M A t Q E s
def Yv (C:CX)(F:aO->Prop)(ι:Lay)(σ:Hp)(s:aT)(b:Bool)(c:Hp)(Q:Bool->aT->Prop):Prop:=∀a k o,Step C F ι σ s.heap o c a->Q b (upd s a k)
def gc (C:CX)(A:Around)(F:aO->Prop)(ι:Lay)(σ:Hp)(s:aT)(t:Sem Bool)(b:Bool)(a:Hp):Prop:=
 ∀(Q:Bool->aT->Prop) (E:Value->aT->Prop),
  Yv C F ι σ s b a Q->wpAny C.M A t Q E s
noncomputable def notStar (e:aI):Bool:= !(e.ctorIdx==22)
theorem ud (h:notStar e=ab):starEach (e::r) env=(ae,eval e env)::starEach r env:=by
 cases e<;>first|rfl|exact bT h
theorem sA {pos}:∀ {es:List _},es.all notStar=ab->(backTo pos (starEach es env)).any (·.1)=false:=by
 intro a
 induction a with
 |nil=>
  exact λ_=>rfl
 |cons e r b=>
  intro h
  simp only[Cp,fZ]at h
  rw[ud h.1]
  have:=b h.2
  unfold backTo at this ⊢
  rw[dz,vU,this];rfl
theorem yY {a}{M}{Q}{E}(o:a.any (·.1)=ae)(q:wpAny M A (spliced a) (λc k=>Q ⟨c,[]⟩ k) E s):
 wpAny M A (evalArgs f ab a []) Q E s:=by
 cases a with
 |nil=>
  exact aG (mW q (λc k u=>jH (aG (bA (aG (bA (bA u)))))) λ_ _ x=>x)
 |cons t r=>
  obtain ⟨b,x⟩:=t
  cases b
  . exact PySem.Calls.evalArgs_plain q
  exact jc o
theorem Yw (i:aL C F ι σ s.heap){pos}:lU C A F ι σ s (spliced (backTo pos (starEach [] env))) [] σ:=λQ E q=>CG (q [] _ _ ι (.refl i) rfl)
theorem Yx {pos}{x}{xs}(he:EV C A F ι σ s (eval e env) x aC)(c:notStar e=ab)
 (hr:∀h' k ag,Step C F ι σ s.heap ag aC h'->lU C A F ag aC (upd s h' k) (spliced (backTo pos (starEach r env))) xs bk):
 lU C A F ι σ s (spliced (backTo pos (starEach (e::r) env))) (x::xs) bk:=λQ E q=>y0 (he _ _ λv y D G a hx=>hr _ _ _ a _ _ λo H I L b u=>q _ _ _ _ (a.trans b) ⟨v,o,rfl,b.xr hx,u⟩) (ud c)
theorem Yz {pos}{xs}{a}(he:lU C A F ι σ s (spliced (backTo pos (starEach es env))) xs aC)(c:fD xs=S a)(hl:xs.length<aE):
 EV C A F ι σ s (eval (.Tuple es k pos) env) (.v (.tup a)) aC:=λQ E q=>Jt (he _ _ λo u x y b hx=>au (yM b.inv (by simpa using bJ.kz c hx)) λst r=>⟨by rw[hx.length.symm];exact fQ hl,q _ _ _ _ (b.trans st) r⟩)
theorem YA {xs}{a}{x}(i:aL C F ι σ h)(hx:bJ C h (NN F ι σ) ι xs a)(e:kx m xs σ=S (x,af)):
 a.length<=sizeLine/\∃ag,Step C F ι σ h ag af (h.push {cls:= .type "list",data:= .seq a.toArray})/\XR C (h.push {cls:= .type "list",data:= .seq a.toArray}) (NN F ag af) ag x (.ref h.objs.size):=by
 unfold kx at e
 split at e
 . rename_i hl
   refine⟨by rw[hx.length.symm];exact fQ hl,?_⟩
   cases m
   . simp only[y3,if_false,qk,kY]at e
     refine cD e λk c O b=> ?_;clear e;subst O;subst b
     exact au (yN i (by simpa using bJ.kz c hx)) λst r=>⟨ι,st,r⟩
   . simp only[if_true,jF,kY]at e
     refine au e λO b=> ?_;clear e;subst O;subst b
     exact⟨_,IE i (by simpa using hx),t7 i.len⟩
 exact aD e
theorem YB {pos}{m}{xs}{x}(he:lU C A F ι σ s (spliced (backTo pos (starEach es env))) xs aC)(hm:kx m xs aC=S (x,bk)):
 EV C A F ι σ s (eval (.List es pos) env) x bk:=λQ E q=>wpAny_List (he _ _ λc k o u a hx=>au (YA a.inv hx hm) λhl b=>ah b λy st r=>⟨hl,q _ _ _ _ (a.trans st) r⟩)
theorem YC (e:gp p=S q):p=(.v (.bool q.1),q.2):=by
 obtain ⟨x,σ⟩:=p
 cases x with
 |ref n=>exact aD e
 |v a=>cases a with
  |bool b=>cases e;rfl
  |_=>exact aD e
theorem YD (he:EV C A F ι σ s (eval e env) (.v (.bool b)) aC)(a:isTrue e env (eval e env)=do let v<-eval e env;standAt e.pos;holding [v] (truthy v)):
 gc C A F ι σ s (isTrue e env (eval e env)) b aC:=by
 refine λQ E q=>wpAny_isTrue_value (he _ _ λv k o r c hx=> ?_) a
 subst hx
 exact sC (q _ _ _ c)
theorem Ju {x y}{b}(hl:EV C A F ι σ s (eval l env) x aC)(hr:∀h' a ag,Step C F ι σ s.heap ag aC h'->EV C A F ag aC (upd s h' a) (eval r env) y bk)
 (D:∀(Q:Value->aT->Prop) (E:Value->aT->Prop) h' a ag v u,aL C F ag bk h'->XR C h' (NN F ag bk) ag x v->XR C h' (NN F ag bk) ag y u->(∀a,Q (.bool b) (upd s h' a))->wpAny C.M A (compareOp k v u) Q E (upd s h' a))
 (hm:behindInMarks k r=ae):EV C A F ι σ s (eval (.Compare l [k] [r] pos) env) (.v (.bool b)) bk:=λQ E q=>wpAny_Compare1 (hl _ _ λv H I L o hx=>hr _ _ _ o _ _ λu O U Y c G=>D _ _ _ _ _ v u c.inv (c.xr hx) G (q _ _ · _ (o.trans c) rfl)) hm
theorem Jv {x y}{b}(hl:EV C A F ι σ s (eval l env) x aC)(hr:∀h' a ag,Step C F ι σ s.heap ag aC h'->EV C A F ag aC (upd s h' a) (eval r env) y bk)
 (D:∀(Q:Value->aT->Prop) (E:Value->aT->Prop) h' a ag v u,aL C F ag bk h'->XR C h' (NN F ag bk) ag x v->XR C h' (NN F ag bk) ag y u->(∀a,Q (.bool b) (upd s h' a))->wpAny C.M A (compareOp k v u) Q E (upd s h' a))
 (hm:behindInMarks k r=ae):gc C A F ι σ s (isTrue (.Compare l [k] [r] pos) env H) b bk:=λQ E q=>wpAny_isTrue_Compare1 (hl _ _ λv I L O o hx=>hr _ _ _ o _ _ λu U Y eK c G=>D _ _ _ _ _ v u c.inv (c.xr hx) G λa=>sC (q _ a _ (o.trans c))) hm
theorem YE {c}(hl:EV C A F ι σ s (eval l env) (.v (.bool ab)) aC)(hr:∀h' b ag,Step C F ι σ s.heap ag aC h'->EV C A F ag aC (upd s h' b) (eval r env) (.v (.bool c)) bk):
 EV C A F ι σ s (eval (.BoolOp .And [l,r] pos) env) (.v (.bool c)) bk:=λQ E q=>wpAny_And2 (hl _ _ λv x y D a hx=>Zrr hx (sC (hr _ _ _ a _ _ λu G H I k o=>q u _ _ _ (a.trans k) o)))
theorem YF (hl:EV C A F ι σ s (eval l env) (.v (.bool ae)) aC):EV C A F ι σ s (eval (.BoolOp .And [l,r] pos) env) (.v (.bool ae)) aC:=
 λQ E q=>wpAny_And2 (hl _ _ λv b c k a hx=>Zrr hx (sC (q _ _ _ _ a rfl)))
theorem YG {c}(hl:EV C A F ι σ s (eval l env) (.v (.bool ae)) aC)(hr:∀h' b ag,Step C F ι σ s.heap ag aC h'->EV C A F ag aC (upd s h' b) (eval r env) (.v (.bool c)) bk):
 EV C A F ι σ s (eval (.BoolOp .Or [l,r] pos) env) (.v (.bool c)) bk:=λQ E q=>wpAny_Or2 (hl _ _ λv x y D a hx=>Zrr hx (sC (hr _ _ _ a _ _ λu G H I k o=>q u _ _ _ (a.trans k) o)))
theorem YH (hl:EV C A F ι σ s (eval l env) (.v (.bool ab)) aC):EV C A F ι σ s (eval (.BoolOp .Or [l,r] pos) env) (.v (.bool ab)) aC:=
 λQ E q=>wpAny_Or2 (hl _ _ λv b c k a hx=>Zrr hx (sC (q _ _ _ _ a rfl)))
theorem YI {b}(he:EV C A F ι σ s (eval e env) (.v (.bool b)) aC):EV C A F ι σ s (eval (.UnaryOp .Not e pos) env) (.v (.bool !b)) aC:=
 λQ E q=>wpAny_UnaryOp (he _ _ λv c k o a hx=>Zrr hx (not_value (sC (q _ _ _ _ a rfl))))
theorem YJ {b}(he:gc C A F ι σ s (isTrue e env (eval e env)) b aC):gc C A F ι σ s (isTrue (.UnaryOp .Not e pos) env c) (!b) aC:=
 λQ _ q=>wpAny_isTrue_Not (he _ _ λk o r a=>q _ _ _ a)
theorem Jw {b}{x}(k:gc C A F ι σ s (isTrue c env (eval c env)) b aC)
 (o:∀h' r ag,Step C F ι σ s.heap ag aC h'->EV C A F ag aC (upd s h' r) (if b then eval t env else eval f env) x bk):EV C A F ι σ s (eval (.IfExp c t f pos) env) x bk:=by
 refine λQ E q=>wpAny_IfExp (k _ _ λH y I a=> ?_)
 have:=o _ y _ a Q E λu L O U D G=>q u _ _ _ (a.trans D) G
 cases b<;>exact this
theorem CH {e}{f}{Q}{E}(hf:(∃T,f= .type T)\/∃id,f= .builtin id)(k:notStar e=ab)
 (hn:∀o,o f s->wpAny C.M A (eval (.Name x q) env) o E s)(h:wpAny C.M A (eval e env) (λv b=>wpAny C.M A (call f [v]) Q E b) E s):wpAny C.M A (eval (.Call (.Name x q) [e] [] pos) env) Q E s:=by
 refine Jx (hn _ ?_)
 have c:(backTo pos (starEach [e] env)).any _=false:=sA (by simp[k])
 have ha:wpAny _ A (evalArgs f _ _ []) (λa b=>wpAny _ A (call f ([]++a.pos) a.kw) Q E b) E s:=yY c (y0 (mW h (λv b r=>CG r) λ_ _ x=>x) (ud k))
 rcases hf with ⟨T,rfl⟩| ⟨id,rfl⟩
 . exact YK c ha
 exact Jy c ha
theorem y4 {v}{E}(ok:cQ F env)(i:aL C F ι σ s.heap)(hk:env.kindOf x=S .globalImplicit)(hx:x∈qA)(c:bootBuiltins x=S v):
 ∀a,a v s->wpAny C.M A (eval (.Name x pos) env) a E s:=by
 intro a q
 have b:(x== "__debug__")=ae/\x≠ "__name__" :=by
  unfold qA at hx
  simp only[cy,YL,or_false]at hx
  rcases hx with rfl|rfl|rfl|rfl|rfl|rfl|rfl|rfl|rfl|rfl<;>exact⟨rfl,by decide⟩
 exact WW ok i hk b.1 (C.IA x hx) c b.2 q
theorem fits (h:n<aE):(n:Int)<2^63:=by unfold aE at h;lia
theorem fY.length:∀ {ak:List _} {es:List _},fY C h N ι t ak es->ak.length=es.length:=by
 intro a
 induction a with
 |nil=>
  intro _ e
  cases e;rfl
 |cons c k b=>
  intro _ O;refine kP O λ_ _ q _ _ _ _ r=> ?_;clear O
  subst q;simp[b r]
theorem YM {prog}{w}{d}(a:(d==sysModules)=ae):
 MeetsIn prog w (Builtin.«dict.__len__» ⟨[.ref d],[]⟩) λ_ R s=>∃es n,s.heap.get? d=S (dictOf es n)/\R (.ok (.ret (.int es.length s.toks))) {s with toks:=s.toks+1}:=
 .of_wp λA R s b=>dh b λes n c h=>by
  show wpAny _ _ (dictSize d>>=_) _ _ s
  exact aG (aG (Jz c rfl (bA (aG (wpAny_pendingCount_other a (wpAny_ret_mkInt (Zrr v9 h)))))))
theorem JA {E}(D:DictAt C s.heap N ι a t b)(hl:b.length<aE)(q:∀o tk',Q (.int b.length o) {s with toks:=tk'}):
 wpAny C.M A (call (.builtin "len") [.ref a]) Q E s:=by
 obtain ⟨low,n,es,c,r,nd⟩:=D
 have k:s.TypeIs (.ref a) _:=⟨_,c,rfl⟩
 have hf:=fits hl
 refine YN kind_len plain_len entry_len (args_len1 _) (aG (bA (aG (Jq k YO
  (JB YO k PySem.F.entry_dict_len (PySem.F.args_dict_len_1 _) (YM low) ⟨es,n,c,Zrr r.length.symm (aG (jH (bA (aG (wpAny_letGo ?_)))))⟩)))))
 show wpAny _ _ (if(b.length:Int) >= 2^63 then _ else _) _ _ _
 exact Zrr (if_neg (by lia)) (aG (wpAny_mkInt (bA ⟨_,rfl,q _ _⟩)))
theorem YQ (i:aL C F ι σ s.heap){x}{n}{v}{Q}{E}(hx:XR C s.heap (NN F ι σ) ι x v)(e:vB σ x=S n)(hl:n<aE)
 (q:∀y tk',Q (.int n y) {s with toks:=tk'}):wpAny C.M A (call (.builtin "len") [v]) Q E s:=by
 cases x with
 |v a=>
  cases a with
  |lst xs=>
   cases e
   refine bU hx λa k b O _ c o=> ?_;clear hx;subst O
   have e:b.size=xs.length:=by rw[o.length];rfl
   exact call_len_list ⟨_,c,rfl,k,rfl⟩ (by rw[e];exact fits hl) (by rw[e];exact q _ _)
  |tup xs=>
   cases e
   refine bU hx λa k b O _ c o=> ?_;clear hx;subst O
   have e:b.size=xs.length:=by rw[o.length];rfl
   exact PyProof.Rows.len_tuple ⟨_,c,rfl,k,rfl⟩ (by rw[e];exact fits hl) (by rw[e];exact q _ _)
  |aU t G=>
   cases e
   refine cD (hx.dictAt (ι:=ι)) λd O _ D=> ?_;subst O
   exact JA D (by simpa using hl) (by simpa using q)
  |_=>exact aD e
 |ref m=>
  refine ah hx λp r O=> ?_;clear hx;subst O
  refine ah (oj e) λH u e=> ?_
  cases H with
  |lst xs=>
   cases e
   refine dh (qJ i r u) λk b c o=> ?_
   have e:b.size=xs.length:=by rw[o.length];rfl
   exact call_len_list ⟨_,c,rfl,k,rfl⟩ (by rw[e];exact fits hl) (by rw[e];exact q _ _)
  |aU t G=>
   cases e
   exact JA (si i r u) hl q
  |_=>exact aD e
theorem YR (i:aL C F ι σ s.heap){m}{a}{xs}{x}{v}{Q}{E}(ha:VR C s.heap (NN F ι σ) a v)(e:a= .lst xs\/a= .tup xs)(hl:xs.length<aE)(hm:vF m xs σ=S (x,af))
 (q:∀r h' ag,Step C F ι σ s.heap ag af h'->XR C h' (NN F ag af) ag x r->Q r (upd s h' s.toks)):wpAny C.M A (call (.type "list") [v]) Q E s:=by
 have key:∃a T n c,(T= "list" \/T= "tuple")/\v= .ref a/\s.heap.get? a=S (seqObj T c n)/\bI C s.heap (NN F ι σ) xs c.toList:=by
  rcases e with rfl|rfl<;>(refine bU ha λa n c O _ y k=> ?_;clear ha;subst O)
  . exact⟨a,_,n,c,.inl rfl,rfl,y,k⟩
  exact⟨a,_,n,c,.inr rfl,rfl,y,k⟩
 refine tO key λa T n c H O y k=> ?_;clear key;subst O
 refine call_list_seq a H y rfl rfl (λh' G hk hn=> ?_) (by rw[gP.symm,k.length.symm];exact fQ hl)
 have u:s.heap.get? _=none:=gM _
 unfold vF at hm
 cases m
 . simp only[y3,if_false,jF,kY]at hm
   refine au hm λO D=> ?_;clear hm;subst O;subst D
   have st:=iy i hk
   refine q _ h' ι st ?_
   exact⟨_,G,c,rfl,r_ i u,hn,st.kz k⟩
 . simp only[if_true,jF,kY]at hm
   refine au hm λO D=> ?_;clear hm;subst O;subst D
   refine q _ h' _ (vO i hk u u ⟨rfl,G,c,hn,(k.mono (⟨λb o e _=>hk b o e,λb o e q=>q.elim .inl λq=>by
    rcases sd i.len q with q|rfl|rfl
    . exact .inr q
    . rw[u]at e;exact aD e
    . rw[u]at e;exact aD e⟩:Kept _ h' _ (NN F (ι++ [(s.heap.objs.size,s.heap.objs.size)]) _))).fm⟩) (t7 i.len)
theorem YS (i:aL C F ι σ s.heap){xs}{v}{Q}{E}(ha:VR C s.heap (NN F ι σ) (.lst xs) v)(hl:xs.length<aE)
 (q:∀r h',Step C F ι σ s.heap ι σ h'->VR C h' (NN F ι σ) (.tup xs) r->Q r (upd s h' s.toks)):wpAny C.M A (call (.type "tuple") [v]) Q E s:=by
 refine bU ha λa n o O _ c b=> ?_;clear ha;subst O
 exact call_tuple_list ⟨_,c,rfl,n,rfl⟩ (λh' hk=>have st:=iy i hk;au (yM st.inv (st.kz b)) λk r=>q _ _ (st.trans k) r) (by rw[gP.symm,b.length.symm];exact fQ hl)
set_option tactic.hygienic true in
theorem YT:∀ {xs:List V} {c:List _} {a n:Int},bI C h N xs c->tV xs a=S n->(∀v∈c,∃i t,v= .int i t)/\n=a+ (numsOf c).sum:=by
 intro k
 induction k with
 |nil=>
  intro c a n r e
  cases r;cases e
  exact⟨λv b=>(nomatch b),a.add_zero.symm⟩
 |cons x xs o=>
  intro c a n r e
  refine bp r λv q O b hr=> ?_;clear r;subst O
  cases x
  case int i=>
   refine ao b λt O=> ?_;clear b;subst O
   exact au (o hr e) λy z=>⟨λv b=>(cy.mp b).elim (λrfl=>⟨i,t,rfl⟩) (y v),z.trans (by rw[Int.add_assoc _ _ _];rfl)⟩
  all_goals exact aD e
theorem YU (c:A.handled=J)(i:aL C F ι σ s.heap){xs}{n}{v}{Q}{E}(ha:VR C s.heap (NN F ι σ) (.lst xs) v)(e:tV xs 0=S n)
 (q:∀t h' b,Step C F ι σ s.heap ι σ h'->Q (.int n t) (upd s h' b)):wpAny C.M A (call (.builtin "sum") [v]) Q E s:=by
 refine bU ha λa k o O _ r u=> ?_;clear ha;subst O
 refine au (YT u e) λx O=> ?_;subst O
 have y:AllInts o:=λv D=>x v (by simpa using D)
 refine ao y.items λH O=> ?_;subst O
 refine sum_intListG c ⟨_,r,rfl,k,rfl⟩ λh' b G hk=> ?_
 have:=q G h' b (iy i hk)
 rw[nums_intItems,Cx]at this
 rw[preSum_eq _ _];exact Zrr (gb (by simp)) this
theorem YV {E}(ha:VR C s.heap N (.int n) v)(q:∀t a,Q (.int n.natAbs t) {s with toks:=a}):wpAny C.M A (call (.builtin "abs") [v]) Q E s:=by
 refine ao ha λt O=> ?_;clear ha;subst O
 refine call_abs_int λu a=> ?_
 have:(if n<0 then -n else n)=n.natAbs:=if h:n<0 then(if_pos h).trans (Int.ofNat_natAbs_of_nonpos (sf h)).symm else(if_neg h).trans (W6 (lT.mp h)).symm
 rw[this];exact q u a
structure cW (C:CX)(F W:aO->Prop)(ι:Lay)(σ:Hp)(h:Heap)(ag:Lay)(af:Hp)(h':Heap):Prop where
 inv:aL C F ag af h'
 keep:∀b o,h.get? b=S o->¬own ι σ b->¬W b->h'.get? b=S o
 ext:∀(n:Nat) p,ι[n]?=S p->ag[n]?=S p
 new:∀b o,h.get? b=S o->own ag af b->own ι σ b
variable {W:aO->Prop}
theorem Step.w (a:Step C F ι σ h ag af h')(W):cW C F W ι σ h ag af h':=⟨a.inv,λb o e n _=>a.keep b o e n,a.ext,a.new⟩
theorem cW.refl (i:aL C F ι σ h)(W):cW C F W ι σ h ι σ h:=(Step.refl i).w W
theorem cW.trans (a:cW C F W ι σ h ag af h')(b:cW C F W ag af h' gL gq ky)(hW:∀b,W b->F b):cW C F W ι σ h gL gq ky:=
 ⟨b.inv,λc o e n w=>b.keep c o (a.keep c o e n w) (λq=>n (a.new c o e q)) w,λn p e=>b.ext n p (a.ext n p e),λc o e q=>by
  by_cases n:own ι σ c
  . exact n
  . by_cases w:W c
    . exact absurd (hW c w) (b.inv.fresh c q).2
    exact a.new c o e (b.new c o (a.keep c o e n w) q)⟩
theorem cW.kept (a:cW C F W ι σ h ag af h')(hW:∀b,W b->F b):Kept h h' (NN F ι σ) (NN F ag af):=
 ⟨λb o e n=>a.keep b o e (λq=>n (.inr q)) λw=>n (.inl (hW b w)),λb o e n=>n.elim .inl λq=> .inr (a.new b o e q)⟩
theorem cW.xr (a:cW C F W ι σ h ag af h')(hW:∀b,W b->F b){x}{v}(q:XR C h (NN F ι σ) ι x v):XR C h' (NN F ag af) ag x v:=q.mono (a.kept hW) a.ext
theorem cW.fm (a:cW C F W ι σ h ag af h')(hW:∀b,W b->F b){x}{v}(q:bJ C h (NN F ι σ) ι x v):bJ C h' (NN F ag af) ag x v:=q.mono (a.kept hW) a.ext
theorem cW.vr (a:cW C F W ι σ h ag af h')(hW:∀b,W b->F b){x}{v}(q:VR C h (NN F ι σ) x v):VR C h' (NN F ag af) x v:=q.mono (a.kept hW)
theorem cW.none (a:cW C F (λ_=>False) ι σ h ag af h'):Step C F ι σ h ag af h':=⟨a.inv,λb o e n=>a.keep b o e n λq=>q,a.ext,a.new⟩
theorem ue {G:aO->Prop}(i:aL C F ι σ h)(k:∀b o,h.get? b=S o->h'.get? b=S o)(fr:∀b,G b->h.get? b=J)(u:∀b,G b->∃o,h'.get? b=S o):
 aL C (λb=>F b\/G b) ι σ h'/\Kept h h' (NN F ι σ) (NN (λb=>F b\/G b) ι σ):=by
 have K:Kept h h' (NN F ι σ) (NN (λb=>F b\/G b) ι σ):=⟨λb o e _=>k b o e,λb o e q=>by
  rcases q with (q|q)|q
  . exact .inl q
  . rw[fr b q]at e;exact aD e
  exact .inr q⟩
 refine⟨⟨i.len,λb o e=>k b o (i.base b o e),λn p c x y=>(i.cells n p c x y).mono K (λ_ _ e=>e) λb o _ _ e=>k b o e,i.apart,λb q=>⟨(i.fresh b q).1,λz=> ?_⟩,λb z=> ?_⟩,K⟩
 . rcases z with z|z
   . exact(i.fresh b q).2 z
   . refine ao (vL i q) λo r=> ?_
     rw[fr b z]at r;exact aD r
 . rcases z with z|z
   . exact au (i.frames b z) λa D=>ao D λo r=>⟨a,o,k b o r⟩
   . refine⟨?_,u b z⟩
     cases e:C.h₀.get? b with
     |none=>rfl
     |some o=>have:=i.base b o e;rw[fr b z]at this;exact aD this
theorem we {G:aO->Prop}(i:aL C (λb=>F b\/G b) ι σ h)(k:∀b o,h.get? b=S o->¬G b->h'.get? b=S o)(x:∀b,F b->¬G b):
 aL C F ι σ h'/\Kept h h' (NN (λb=>F b\/G b) ι σ) (NN F ι σ):=by
 have K:Kept h h' (NN (λb=>F b\/G b) ι σ) (NN F ι σ):=⟨λb o e n=>k b o e λg=>n (.inl (.inr g)),λb _ _ q=>q.elim (λf=> .inl (.inl f)) .inr⟩
 refine⟨⟨i.len,λb o e=>k b o (i.base b o e) λg=> ?_,λn p c r u=> ?_,i.apart,λb q=>⟨(i.fresh b q).1,λz=>(i.fresh b q).2 (.inl z)⟩,λb z=> ?_⟩,K⟩
 . have:=(i.frames b (.inr g)).1;rw[e]at this;exact kO this
 . exact(i.cells n p c r u).mono K (λ_ _ e=>e) λb o hb y e=>k b o e ((λb q g=>(i.fresh b q).2 (.inr g)) b ⟨n,p,c,r,u,y,hb⟩)
 exact au (i.frames b (.inl z)) λa D=>ao D λo H=>⟨a,o,k b o H (x b z)⟩
theorem YW (h:i<ρ.length):slot (ρ.set i (S x)) i=S x:=by unfold slot;rw[om h];rfl
theorem slot_set_ne (h:i≠j):slot (ρ.set i x) j=slot ρ j:=by unfold slot;rw[dG h];rfl
theorem slot_set {x y}(h:slot (ρ.set i (S x)) j=S y):i=j/\y=x\/i≠j/\slot ρ j=S y:=by
 by_cases e:i=j
 . subst e
   by_cases l:i<ρ.length
   . rw[YW l]at h;cases h;exact .inl ⟨rfl,rfl⟩
   . rw[List.set_eq_of_length_le (fB l)]at h
     unfold slot at h
     rw[eX (fB l)]at h;exact aD h
 . rw[slot_set_ne e]at h;exact .inr ⟨e,h⟩
def iY (sl:SL):Prop:=∀(x y:Str) (i:Nat),sl.lookup x=S i->sl.lookup y=S i->x=y
theorem cx.YX (fr:cx C h (NN F ι σ) ι env sl ρ)(ok:cQ F env)(i:aL C F ι σ h)(st:cW C F W ι σ h ag af h')(hW:∀b,W b->F b)(nl:¬W env.locals)(D:∀x c,env.cells.lookup x=S c->¬W c):
 cx C h' (NN F ag af) ag env sl ρ:=have y:=λb hb q=>(i.fresh b q).2 hb;ah fr.ns λm hm hr=>⟨⟨m,iP hm λo es G k r=>⟨o,es,G,st.keep _ _ k (y _ ok.loc) nl,r⟩,λx j hx hk val u=>ah (hr x j hx hk _ u) λv a b=>⟨v,a,st.xr hW b⟩⟩,λx j hx hk=>bp (fr.cl x j hx hk) λc w a O b=>ah O λo k H=>⟨c,w,a,⟨o,st.keep _ _ k (y _ (ok.mP _ _ a)) (D _ _ a),H⟩,λval u=>ah (b _ u) λv e q=>⟨v,e,st.xr hW q⟩⟩⟩
theorem y5 (i:aL C F ι σ h)(r:F L)(hW:W L)(sb:Heap.SameBut L h h')(y:∃o,h'.get? L=S o):cW C F W ι σ h ι σ h':=by
 have k:∀b o,h.get? b=S o->b≠L->h'.get? b=S o:=λb o e n=>(sb.2 b n).trans e
 refine⟨⟨i.len,λb o e=>k b o (i.base b o e) λz=> ?_,λn p c u x=> ?_,i.apart,i.fresh,λb z=> ?_⟩,λb o e n w=>k b o e λz=>w (z▸hW),λ_ _ e=>e,λ_ _ _ q=>q⟩
 . subst z;rw[(i.frames b r).1]at e;exact aD e
 . exact(i.cells n p c u x).mono ⟨λb o e n=>k b o e λz=>n (.inl (z▸r)),λ_ _ _ q=>q⟩ (λ_ _ e=>e) λb o hb D e=>k b o e λz=>(λb hb q=>(i.fresh b q).2 hb) L r (z▸⟨n,p,c,u,x,D,hb⟩)
 . refine au (i.frames b z) λa G=>ao G λo H=> ?_;by_cases q:b=L
   . subst q;exact⟨a,y⟩
   exact⟨a,o,k b o H q⟩
theorem wg (ok:cQ F env)(i:aL C F ι σ s.heap)(fr:cx C s.heap (NN F ι σ) ι env sl ρ)(ds:iY sl)
 (hx:sl.lookup x=S j)(hk:env.kindOf x=S .local/\W env.locals\/env.kindOf x=S .cell/\∀c,env.cells.lookup x=S c->W c)(hv:XR C s.heap (NN F ι σ) ι val v)(hW:∀b,W b->F b)
 {Q}{E}
 (q:∀h' tk,cW C F W ι σ s.heap ι σ h'->cx C h' (NN F ι σ) ι env sl (ρ.set j (S val))->Q () (upd s h' tk)):wpAny C.M A (bindName env x v) Q E s:=by
 refine wpAny_bindName ?_
 refine ah fr.ns λm hm hr=> ?_
 rcases hk with ⟨hk,JC⟩| ⟨hk,y6⟩
 . refine wpAny_storeName_local hk hm (λh' hn sb=>q h' _ ?_ ?_) (by rw[ok.kind];rfl)
   . refine iP hn λo es ep H _=> ?_;exact y5 i ok.loc JC sb ⟨o,H⟩
   . have st:=iP (id hn) λo es ep H _=>y5 i ok.loc JC sb ⟨o,H⟩
     refine⟨⟨_,hn,λy k r D U a=> ?_⟩,λy k r D=> ?_⟩
     . rcases slot_set a with ⟨rfl,rfl⟩| ⟨ne,a⟩
       . have:=ds y x j r hx
         subst this
         exact⟨v,if_pos rfl,st.xr hW hv⟩
       exact ah (hr y k r D _ a) λu I L=>have:y≠x:=λe=>ne (by subst e;rw[hx]at r;exact je r);⟨u,by simp only[if_neg this];exact I,st.xr hW L⟩
     . refine bp (fr.cl y k r D) λc w G O wh=>ah O λo H Y=> ?_;refine⟨c,w,G,⟨o,(sb.2 c (ok.Cb y c G)).trans H,Y⟩,λU a=> ?_⟩
       rcases slot_set a with ⟨rfl,rfl⟩| ⟨ne,a⟩
       . have:=ds y x j r hx
         subst this
         rcases D with e|e<;>(rw[hk]at e;cases e)
       exact ah (wh _ a) λu I L=>⟨u,I,st.xr hW L⟩
 . refine bp (fr.cl x j hx (.inl hk)) λc w G wa wh=>wpAny_storeName_cell ok.kind hk G wa λh' hO sb=> ?_
   have st:=y5 i (ok.mP x c G) (y6 c G) sb (let⟨o,H,_⟩:=hO;⟨o,H⟩)
   refine q h' _ st ⟨⟨m,hm.sameBut sb (ok.Cb x c G).symm,λy k r D U a=> ?_⟩,λy k r D=> ?_⟩
   . rcases slot_set a with ⟨rfl,rfl⟩| ⟨ne,a⟩
     . have:=ds y x j r hx
       subst this
       rw[hk]at D;cases D
     exact ah (hr y k r D _ a) λu I L=>⟨u,I,st.xr hW L⟩
   . refine bp (fr.cl y k r D) λc' w' CI O YY=>ah O λo H Y=> ?_;clear O
     by_cases e:y=x
     . subst e
       rw[G]at CI;rw[hx]at r;cases r
       refine⟨c,_,G,hO,λU a=> ?_⟩
       rcases slot_set a with ⟨_,rfl⟩| ⟨ne,_⟩
       . exact⟨v,rfl,st.xr hW hv⟩
       exact absurd rfl ne
     . refine⟨c',w',CI,⟨o,(sb.2 c' λz=>e (ok.apart y x c' CI (z▸G))).trans H,Y⟩,λU a=> ?_⟩
       rcases slot_set a with ⟨rfl,rfl⟩| ⟨ne,a⟩
       . exact absurd (ds y x j r hx) e
       exact ah (YY _ a) λu I L=>⟨u,I,st.xr hW L⟩
noncomputable def isNm (e:aI):Bool:=e.ctorIdx==23
structure Iter (C:CX)(A:Around)(aX:aI)(it:Value)(G:aO->Prop)(P:(aO->Prop)->List V->Heap->Prop):Prop where
 y8:∀ {N N':aO->Prop} {xs:List V} {h h':Heap},P N xs h->Kept h h' N N'->(∀b o,G b->h.get? b=S o->h'.get? b=S o)->P N' xs h'
 next:∀ {N:aO->Prop} {x:V} {xs:List V} (s:aT) (Q:Value->aT->Prop) (E E':Value->aT->Prop),P N (x::xs) s.heap->(∀b,G b->N b)->(∀b,s.heap.get? b=J->¬N b)->
  (∀v h' tk,P N xs h'->(∀b o,s.heap.get? b=S o->¬G b->h'.get? b=S o)->(∀b,G b->∃o,h'.get? b=S o)->VR C h' N x v->Q v (upd s h' tk))->
  wpAny C.M A (pyNext it) (λr dU=>∃v,r=S v/\wpAny C.M A (letOwnedTupleGo aX it v) (λ_ jg=>Q v jg) E' dU) E s
 stop:∀ {N:aO->Prop} (s:aT) (Q:aT->Prop) (E:Value->aT->Prop),P N [] s.heap->
  (∀h' tk,(∀b o,s.heap.get? b=S o->¬G b->h'.get? b=S o)->Q (upd s h' tk))->wpAny C.M A (pyNext it) (λr dU=>r=J/\Q dU) E s
 self:∀ {N:aO->Prop} {xs:List V} (s:aT) (Q:Value->aT->Prop) (E:Value->aT->Prop),P N xs s.heap->Q it s->wpAny C.M A (pyIter it) Q E s
structure pq (C:CX)(A:Around)(aX:aI)(F:aO->Prop)(ι:Lay)(σ:Hp)(h:Heap)(xs:List V)(it:Value)(h':Heap):Prop where
 it:∃G P,Iter C A aX it G P/\(∀b o,h.get? b=S o->h'.get? b=S o)/\(∀b,G b->h.get? b=J)/\(∀b,G b->∃o,h'.get? b=S o)/\P (NN (λb=>F b\/G b) ι σ) xs h'
theorem Iter.ofWalks {I}{fp wr}{n}{P0}{St}(W:Walks C.prog C.w A I fp wr n P0 St)(D:List aO)(U:∀b∈wr,b=I)(CJ:∀b∈fp,b=I\/b∈D)
 (g5:∀i h,St i h->∃o,h.get? I=S o)(lV:∀(i:Nat) (v:Value) (s:aT) (Q:Unit->aT->Prop) (E:Value->aT->Prop),St i s.heap->Q () s->wpAny C.M A (letOwnedTupleGo aX (.ref I) v) Q E s):
 Iter C A aX (.ref I) (· =I) (λN ys h=>∃i,St i h/\i+ys.length=n/\(∀d∈D,¬N d/\∃o,h.get? d=S o)/\∀j x,ys[j]?=S x->∀v,P0 (i+j) v->VR C h N x v) where
 y8:=by
  intro N N' xs h r O;refine o8 O λi st c G H=> ?_;refine λk g=>⟨i,W.frame i h r st λb hb o e=>(CJ b hb).elim ((g b o · e)) λhb=>k.get b o e (G b hb).1,c,λd Y=> ?_,λj x hx v hp=>(H j x hx v hp).mono k⟩
  . refine au (G d Y) λa aF=>ao aF λo L=> ?_;exact⟨λq=>a (k.low d o L q),o,k.get d o L a⟩
 next:=by
  intro N x xs s Q E E' O;refine o8 O λi st c G H=> ?_;refine λhG hN q=>W.item i s _ E (by simp at c;exact HP c) st λv r tk hp ay hk=> ?_
  have k:Kept s.heap r N N:=⟨λb o e n=>hk b o (λw=>n (hG b (U b w))) e,λ_ _ _ q=>q⟩
  refine⟨v,rfl,lV (i+1) v _ _ _ ay (q v r tk ⟨i+1,ay,by simp at c;exact HQ c,λd Y=> ?_,λj y hy u hu=> ?_⟩ (λb o e n=>hk b o (λw=>n (U b w)) e) (λb hb=>hb▸g5 _ _ ay) ((H 0 x rfl v hp).mono k))⟩
  . refine au (G d Y) λa aF=>ao aF λo L=> ?_;exact⟨a,o,k.get d o L a⟩
  exact(H (j+1) y (by simpa using hy) u (by lia)).mono k
 stop:=by
  intro N s Q E O;refine o8 O λi st c G H=> ?_;clear O;intro q
  subst (by simpa using c)
  exact W.done s _ E st λr tk hk=>⟨rfl,q r tk λb o e n=>hk b o (λw=>n (U b w)) e⟩
 self:=by
  intro N xs s Q E O;refine o8 O λi st c G H=> ?_;exact(W.self i s Q E st)
theorem y9 {I}{c r}{n}{P0}{St}(i:aL C F ι σ h)(W:Walks C.prog C.w A I c r n P0 St)(D:List _)(O:∀b∈r,b=I)(U:∀b∈c,b=I\/b∈D)
 (u:∀i h,St i h->∃o,h.get? I=S o)(Y:∀(i:Nat) (v:Value) (s:aT) (Q:Unit->aT->Prop) (E:Value->aT->Prop),St i s.heap->Q () s->wpAny C.M A (letOwnedTupleGo aX (.ref I) v) Q E s)
 (k:∀b o,h.get? b=S o->h'.get? b=S o)(fr:h.get? I=J)(y:St 0 h'){xs}(hn:xs.length=n)(hD:∀d∈D,¬NN F ι σ d/\∃o,h.get? d=S o)
 (hv:∀j x,xs[j]?=S x->∀v,P0 j v->VR C h (NN F ι σ) x v):pq C A aX F ι σ h xs (.ref I) h':=have H:∀b,b=I->∃o,h'.get? b=S o:=λb e=>e▸u 0 h' y;au (ue (G:=(· =I)) i k (λb e=>e▸fr) H) λ_ K=>⟨_,_,.ofWalks W D O U u Y,k,λb e=>e▸fr,H,0,y,by simpa using hn,λd hd=>au (hD d hd) λa aF=>ao aF λo L=>⟨λq=>a (K.low d o L q),o,k d o L⟩,λj x hx v hp=>(hv j x hx v (by simpa using hp)).mono K⟩
theorem JD (x:h.IsListIter I l i):∃o,h.get? I=S o:=x.imp λ_ h=>h.1
theorem YZ (x:h.IsTupleIter I l i):∃o,h.get? I=S o:=x.imp λ_ h=>h.1
theorem Y0 (x:h.IsKeyIter I l i n a):∃o,h.get? I=S o:=x.imp λ_ h=>h.1
theorem CK {Q}{E}(b:isNm a=ab)(q:Q () s):wpAny C.M A (letOwnedTupleGo a it v) Q E s:=by
 cases a<;>first|exact bA q|exact bT b
theorem Y1 (G:A.handled=J){H}(i:aL C F ι σ s.heap){xs}{v}(c:VR C s.heap (NN F ι σ) (.lst xs) v){Q}{E}
 (q:∀it h',pq C A H F ι σ s.heap xs it h'->Q it (upd s h' s.toks)):wpAny C.M A (pyIter v) Q E s:=by
 refine bU c λl n k O hn a r=> ?_;clear c;subst O
 have hl:s.heap.IsList l k:=⟨_,a,rfl,n,rfl⟩
 refine wpAny_pyIter_list hl (q _ _ (y9 i (.list G _ l (dx (jf a)) k) [l] (by simp) (by simp) (λj h st=>JD st.1) (λj v s Q E st q=>letGo_listiter st.1 q) (λb o e=>jE _ e)
  (gM _) ⟨⟨_,kU _ rfl,rfl,rfl⟩,hl.at λo e=>jE _ e⟩ (by rw[r.length];rfl) ?_ ?_))
 . intro d y
   simp only[dm]at y
   subst y
   exact⟨hn,_,a⟩
 . refine λj x hx v I=>ah (r.get hx) λu D L=> ?_
   rw[eL,I]at D
   cases D
   exact L
theorem Y2 (H:A.handled=J){c}(I:isNm c=ab)(i:aL C F ι σ s.heap){xs}{v}(k:VR C s.heap (NN F ι σ) (.tup xs) v){Q}{E}
 (q:∀it h',pq C A c F ι σ s.heap xs it h'->Q it (upd s h' s.toks)):wpAny C.M A (pyIter v) Q E s:=by
 refine bU k λl n r O hn a y=> ?_;clear k;subst O
 have hl:s.heap.IsTuple l r:=⟨_,a,rfl,n,rfl⟩
 refine wpAny_pyIter_tuple hl (q _ _ (y9 i (.tuple H _ l (dx (jf a)) r) [l] (by simp) (by simp) (λj h st=>YZ st.1) (λj v s Q E st q=>CK I q) (λb o e=>jE _ e)
  (gM _) ⟨⟨_,kU _ rfl,rfl,rfl⟩,hl.at λo e=>jE _ e⟩ (by rw[y.length];rfl) ?_ ?_))
 . intro d D
   simp only[dm]at D
   subst D
   exact⟨hn,_,a⟩
 . refine λj x hx v L=>ah (y.get hx) λu G U=> ?_
   rw[eL,L]at G
   cases G
   exact U
theorem JE (a b):Builtin.Range.rangeSize a b 1=(b - a).toNat:=by
 show(if a<b then(b - a - 1) /1+1 else 0)=_
 by_cases h:a<b
 . rw[if_pos h,Int.ediv_one _,Yb _ _];exact(Y3 (Int.sub_nonneg_of_le (sf h))).symm
 . rw[if_neg h];exact(congrArg Nat.cast (X7 (Int.sub_nonpos_of_le (lT.mp h)))).symm
theorem JF (D:A.handled=J){c}(G:isNm c=ab)(i:aL C F ι σ s.heap){r}{a b}{t u v}(hr:IsRange s.heap r a b 1 t u v)(H:Builtin.Range.small a b 1=ab){Q}{E}
 (q:∀it h',pq C A c F ι σ s.heap (mN a b) it h'->Q it (upd s h' s.toks)):wpAny C.M A (pyIter (.ref r)) Q E s:=by
 refine wpAny_pyIter_range hr H (q _ _ (y9 i (.range D _ a 1 (b - a).toNat) [] (by simp) (by simp) (λj h st=>⟨_,st⟩) (λj v s Q E st q=>CK G q) (λb o e=>jE _ e)
  (gM _) ?_ (by simp[mN]) (by simp) ?_))
 . show Heap.get? _ _=_
   rw[kU _ rfl,JE _ _]
   simp
 . intro j x hx v y
   unfold mN at hx
   rw[bx]at hx
   refine gY hx λk hk O=> ?_;subst O
   have:=by
    have:=dk.mp hk
    refine ao this λ_ e=> ?_;simpa using e.symm
   subst this
   refine ao y λt O=> ?_;clear y;subst O
   exact⟨t,by rw[Int.mul_one _];rfl⟩
variable {prog:Program} {w:World} {E:Value->aT->Prop}
theorem JG (low:(d==sysModules)=ae)(hm:s.heap.get? d=S (dictOf es b))
 (c:Q (.ref s.heap.objs.size) {s with heap:=s.heap.push {cls:= .type "dict_keyiterator",data:= .fields #[.ref d,.int 0 0,.int es.length 0,.int b 0]}}):
 wpAny (model prog w) A (pyIter (.ref d)) Q E s:=by
 have a:s.TypeIs (.ref d) _:=⟨_,hm,rfl⟩
 refine wpAny_pyIter_slot a Y4 (CC Y4 a PySem.F.entry_dict_iter (aG (aG (Y5 a (bA ?_)))) (PySem.F.args_dict_iter_1 _))
 show wpAny _ _ (Builtin.Dict.showsAll d>>=_) _ _ s
 unfold Builtin.Dict.showsAll
 refine Zrr (if_neg (by exact Zrr low gr)) (aG (bA (aG (Jz hm rfl (aG (wpAny_dictEpoch hm rfl (aG (yX (bA ⟨_,rfl,_,_,⟨_,kU _ rfl,rfl⟩,JI.lookup,?_⟩)))))))))
 simpa [rawInt]using c
theorem JJ {it d}{i c}{es}{Q}(a:s.heap.IsKeyIter it d i es.length c)(hm:s.heap.get? d=S (dictOf es c))(q:es[i]?=J->A.handled=J)
 (r:∀e h',es[i]?=S e->h'.IsKeyIter it d (i+1) es.length c->Heap.SameBut it s.heap h'->Q (S e.key) (upd s h' s.toks))(u:es[i]?=J->∀h',Heap.ExtBut it s.heap h'->Q J (upd s h' s.toks)):wpAny (model prog w) A (pyNext (.ref it)) Q E s:=by
 refine cD (id a) λo k y b=> ?_
 unfold pyNext
 refine aG (wpAny_attempt (Jq a.typeIs JI
  (CC JI a.typeIs PySem.F.entry_dict_keyiterator_next ?_ (PySem.F.args_dict_keyiterator_next_1 _))))
 refine aG (bA ?_)
 refine aG ?_
 refine aG ?_
 first|refine aG (JK a.typeIs (bA ?_))|refine aG (JL a.typeIs (bA ?_))
 refine aG (wpAny_fieldsOf k b ?_)
 have D:Builtin.Dict_items.ownsTuple "dict_keyiterator" =false:=rfl
 rw[D,if_neg gr]
 show wpAny _ _ (if(Value.ref d== .none)=ab then _ else _) _ _ s
 rewrite[if_neg (show¬((Value.ref d== .none)=ab) from gr)]
 refine aG (bA ?_)
 refine aG (Jz hm rfl ?_)
 have hsz:es.toArray.size=es.length:=rfl
 refine Zrr (if_neg (by rw[hsz];simp)) ?_
 refine aG (bA ?_)
 refine aG (wpAny_dictEpoch hm rfl ?_)
 refine Zrr (if_neg (by simp)) ?_
 refine bA ?_
 have he:es.toArray[i]?=es[i]?:=by simp
 dsimp only
 rw[if_neg (lT.mpr (mY i)),y_ _,he]
 clear he
 cases hx:es[i]? with
 |some e=>
  rw[hx]at r
  refine aG ?_
  first|refine aG (JK a.typeIs (bA ?_))|refine aG (JL a.typeIs (bA ?_))
  refine aG (Y6 a.typeIs ?_)
  show wpAny _ _ (setField (.ref it) 1 (rawInt (i+1)) >>=_) _ _ s
  refine aG (wpAny_setField k b (by simp) ?_)
  have x:(s.heap.update it (.mapFields (·.setIfInBounds 1 (rawInt (i+1))))).IsKeyIter it d (i+1) es.length c:=
   ⟨_,Cw _ k (Obj.isFreed_of_fields (Y7 b _)),(Obj.cls_mapFields ..).trans y,by rw[Y7 b _];simp[rawInt]⟩
  refine aG (jH ?_)
  refine aG (Y6 x.typeIs ?_)
  show wpAny _ _ (pure e.key) _ _ _
  exact bA (bA ⟨_,rfl,bA (r e _ rfl x (.update ..))⟩)
 |none=>
  rw[hx]at u q
  refine aG ?_
  first|refine aG (JK a.typeIs (bA ?_))|refine aG (JL a.typeIs (bA ?_))
  show wpAny _ _ (setField (.ref it) 0 .none>>=_) _ _ s
  refine aG (wpAny_setField k b (by simp) ?_)
  show wpAny _ _ (newExc (.type "StopIteration") [] >>=_) _ _ _
  refine aG ?_
  simp only[newExc]
  refine aG (yX ?_ (by size_fits))
  refine aG (wpAny_of_eq (by first|rfl| (simp only;rfl)) ?_)
  refine yX ?_ (by size_fits)
  refine aG (wpAny_handled ?_)
  rw[(q rfl)]
  refine aG (bA (wpAny_throw ?_))
  refine aG (wpAny_isInstance ⟨_,kU _ rfl,rfl⟩ isSubtype_stop ?_)
  exact bA (u rfl _ (((Heap.SameBut.update ..).extBut.push _).push _))
theorem Y8 (b:s.heap.IsKeyIter it d i es.length a)
 (hm:s.heap.get? d=S (dictOf es a))(hx:es[i]?=S e)
 (c:∀h',h'.IsKeyIter it d (i+1) es.length a->Heap.SameBut it s.heap h'->Q (S e.key) (upd s h' s.toks)):wpAny (model prog w) A (pyNext (.ref it)) Q E s:=
 JJ b hm (λz=>by rw[hx]at z;exact kO z) (λk h' z=>by rw[hx]at z;cases z;exact c h') λz=>by rw[hx]at z;exact kO z
theorem Y9 (a:A.handled=J)(b:s.heap.IsKeyIter it d es.length es.length c)
 (hm:s.heap.get? d=S (dictOf es c))(k:∀h',Heap.ExtBut it s.heap h'->Q J (upd s h' s.toks)):wpAny (model prog w) A (pyNext (.ref it)) Q E s:=
 JJ b hm (λ_=>a) (λe _ z=>by rw[eX (bb _)]at z;exact aD z) λ_=>k
theorem JM (r:A.handled=J)(I d)(u:d≠I)(es)(k):
 Walks prog w A I [I,d] [I] es.length (λi v=>∃e,es[i]?=S e/\v=e.key) λi h=>h.IsKeyIter I d i es.length k/\h.get? d=S (dictOf es k) where
 sub:=λb hb=>by simp at hb;simp[hb]
 frame:=λ_ _ _ st hk=>⟨st.1.at λo e=>hk I (by simp) o e,hk d (by simp) _ st.2⟩
 item:=λi s Q E D st a=>Y8 st.1 st.2 (e:=es[i]) (by simp) λc x q=>a _ c _ ⟨_,by simp,rfl⟩ ⟨x,(q.2 d u).trans st.2⟩ λb o hb e=>q.extBut b o (λh=>hb (by simp[h])) e
 done:=λs Q E st a=>Y9 r st.1 st.2 λc y=>a c _ λb o hb e=>y b o (λh=>hb (by simp[h])) e
 self:=λ_ _ _ _ st a=>wpAny_pyIter_keyiter st.1 a
theorem iV.get:∀ {b:List _} {es:List _} {j:Nat} {p:V×V},iV C h N t b es->b[j]?=S p->∃e,es[j]?=S e/\VR C h N p.1 e.key:=by
 intro k
 induction k with
 |nil=>
  intro _ _ _ _ e
  exact aD e
 |cons u r o=>
  intro _ j p r' e
  refine kP r' λq x O _ _ a _ c=> ?_;clear r';subst O
  cases j with
  |zero=>simp at e;subst e;exact⟨q,rfl,a⟩
  |succ j=>simpa using o c e
theorem iV.length:∀ {ak:List _} {es:List _},iV C h N t ak es->ak.length=es.length:=by
 intro a
 induction a with
 |nil=>
  intro _ e
  cases e;rfl
 |cons k r b=>
  intro _ r'
  refine kP r' λo q O _ _ _ _ c=> ?_;clear r';subst O
  simp[b c]
theorem Y_ (G:A.handled=J){c}(H:isNm c=ab)(i:aL C F ι σ s.heap){t}{k}{v}(u:VR C s.heap (NN F ι σ) (.aU t k) v){Q}{E}
 (q:∀it h',pq C A c F ι σ s.heap (keysOf k) it h'->Q it (upd s h' s.toks)):wpAny C.M A (pyIter v) Q E s:=by
 refine n4 u λd n es O hn low a y nd=> ?_;clear u;subst O
 refine JG low a (q _ _ (y9 i (JM G _ d (dx (jf a)) es n) [d] (by simp) (by simp) (λj h st=>Y0 st.1) (λj v s Q E st q=>CK H q) (λb o e=>jE _ e)
  (gM _) ⟨⟨_,kU _ rfl,rfl,rfl⟩,jE _ a⟩ (by simp[keysOf,y.length]) ?_ ?_))
 . intro b hb
   simp only[dm]at hb
   subst hb
   exact⟨hn,_,a⟩
 . intro j x hx v O;refine ah O λe he I=> ?_;clear O;subst I
   unfold keysOf at hx
   rw[bx]at hx
   refine gY hx λp L O=> ?_;subst O
   refine ah (y.get L) λU D r=> ?_
   rw[he]at D;cases D
   exact r
inductive JN (C:CX)(e it l:Addr)(xs:List V)(vs:Array Value)(N:Addr->Prop)(ys:List V)(h:Heap):Prop
 |mk (j:Nat):((∃ej,IsEnum h e it j ej)/\h.IsListIter it l j/\h.IsList l vs)->ys=lR j (xs.drop j)->j<=xs.length->¬N l->bI C h N xs vs.toList->JN C e it l xs vs N ys h
theorem za {h}{i:Nat}(st:(∃a,IsEnum h e it i a)/\h.IsListIter it l i/\h.IsList l c):∀b,b=e\/b=it->∃o,h.get? b=S o:=by
 refine dp st λO y _=> ?_;clear st;refine ao O λa x=> ?_;clear O
 rintro b (rfl|rfl)
 . exact⟨_,x⟩
 exact JD y
theorem Za (hh:A.handled=J){fq}{k}{tp}{xs}{l it e}{a}(iZ:l≠e)(wj:l≠it)(H:e≠it):Iter C A (.Tuple fq k tp) (.ref e) (λb=>b=e\/b=it) (JN C e it l xs a):=by
 have W:=Zb (prog:=C.prog) (w:=C.w) hh e it l H iZ wj a
 refine⟨?_,?_,?_,?_⟩
 . intro N N' ys h I P k g
   obtain ⟨j,st,O,G,D,r⟩:=P;subst O
   refine ah (id st.2.2) λo ug ou=> .mk j (W.frame j h I st λb hb o e=> ?_) rfl G (λz=>D (k.low l o ug z)) (r.mono k)
   simp only[cy,YL,or_false]at hb
   rcases hb with rfl|rfl|rfl
   . exact g b o (.inl rfl) e
   . exact g b o (.inr rfl) e
   exact k.get b o e D
 . intro N x ys s Q E E' P hG hN q
   obtain ⟨j,st,c,G,D,r⟩:=P
   have hsz:xs.length=a.size:=by rw[r.length,gP];rfl
   have L:j<xs.length:=by
    rcases j.lt_or_ge xs.length with z|z
    . exact z
    . rw[sF z]at c;cases c
   rw[ov L]at c
   refine au (iB c) λO ax=> ?_;subst O;subst ax
   refine dp st λO sE U=> ?_;clear st;refine ao O λY pA=> ?_;clear O
   have JO:a[j]?=S (a[j]'(dM L (aK hsz))):=by simp
   refine wpAny_pyNext_enum_item pA sE U JO H λaN wm zb hT _ hk=>⟨_,rfl,wpAny_letOwnedTupleGo_enum wm λy Zd sb=> ?_⟩
   have kk:∀b o,s.heap.get? b=S o->¬(b=e\/b=it)->y.get? b=S o:=λb o x n=>(sb.2 b λz=>n (.inl z)).trans (hk b o (λz=>n (.inl z)) (λz=>n (.inr z)) x)
   have K':Kept s.heap y N N:=⟨λb o x n=>kk b o x λz=>n (hG b z),λ_ _ _ q=>q⟩
   have ay:(∃Y,IsEnum y e it (j+1:Nat) Y)/\y.IsListIter it l (j+1)/\y.IsList l a:=
    ⟨⟨_,by simpa using Zd⟩,zb.at λo x=>(sb.2 it H.symm).trans x,U.at λo x=>kk l o x λz=>z.elim iZ wj⟩
   have fo:=r.mono K'
   refine ah (fo.get (n:=j) (x:=xs[j]) (by simp)) λu hu fg=> ?_
   rw[eL,JO]at hu
   cases hu
   refine q _ y _ (.mk (j+1) ay rfl L D fo) kk (za ay) ?_
   refine⟨_,0,_,rfl,hN _ (gM _),(sb.2 _ ((by
    intro b hb z
    refine ao (za ⟨⟨Y,pA⟩,sE,U⟩ b hb) λo ho=> ?_
    rw[z,gM]at ho;exact aD ho:∀b,(b=e\/b=it)->b≠s.heap.objs.size) e (.inl rfl)).symm).trans hT,?_⟩
   exact⟨_,_,rfl,⟨_,rfl⟩,_,_,rfl,fg,rfl⟩
 . intro N s Q E P q
   obtain ⟨j,st,c,G,D,r⟩:=P
   have hsz:xs.length=a.size:=by rw[r.length,gP];rfl
   have:j=a.size:=by
    rcases j.lt_or_ge xs.length with z|z
    . rw[ov z]at c;cases c
    . exact cg (hC G (aK hsz)) (hC (aK hsz.symm) z)
   subst this
   exact W.done s _ E st λI tk hk=>⟨rfl,q I tk λb o x n=>hk b o (λz=>n (((by simp:∀b,b∈ [e,it]↔ (b=e\/b=it)) b).mp z)) x⟩
 . intro N ys s Q E P q
   obtain ⟨j,st,_⟩:=P
   exact W.self j s Q E st q
theorem Ze (u:A.handled=J){fq}{k}{tp}(i:aL C F ι σ s.heap){xs}{l it e}{n}{a}{h0}(hn:¬NN F ι σ l)(y:h0.get? l=S (seqObj "list" a n))(I:bI C h0 (NN F ι σ) xs a.toList)
 (r:∀b o,h0.get? b=S o->s.heap.get? b=S o)(L:aL C F ι σ h0)(he:IsEnum s.heap e it 0 .none)(O:s.heap.IsListIter it l 0)(f1:h0.get? e=J)(f2:h0.get? it=J)(D:e≠it){Q}{E}
 (q:pq C A (.Tuple fq k tp) F ι σ h0 (lR 0 xs) (.ref e) s.heap->Q (.ref e) s):wpAny C.M A (pyIter (.ref e)) Q E s:=by
 have G:l≠e:=λz=>by lia
 have H:l≠it:=λz=>by lia
 have U:h0.IsList l a:=⟨_,y,rfl,n,rfl⟩
 have c:(∃Y,IsEnum _ e it 0 Y)/\s.heap.IsListIter it l 0/\s.heap.IsList l a:=⟨⟨_,he⟩,O,U.at λo x=>r l o x⟩
 refine(Zb u e it l D G H a).self 0 s _ _ c (q ?_)
 have fr:∀b,b=e\/b=it->h0.get? b=none:=by lia
 exact au (ue L r fr (za c)) λ_ K=>⟨_,_,Za u G H D,r,fr,za c,.mk 0 c rfl (dO _) (λz=>hn (K.low l _ y z)) (I.mono K)⟩
def ow (C:CX)(A:Around)(k:aI)(F:aO->Prop)(ι:Lay)(σ:Hp)(s:aT)(t:Sem Value)(xs:List V)(a:Hp):Prop:=
 ∀(Q:Value->aT->Prop) (E:Value->aT->Prop),
  (∀it b h' o c,Step C F ι σ s.heap c a b->pq C A k F c a b xs it h'->Q it (upd s h' o))->
  wpAny C.M A t (λx q=>wpAny C.M A (pyIter x) Q E q) E s
theorem JP (o:A.handled=J){u}{e}{a}{xs}(he:EV C A F ι σ s (eval e env) (.v a) aC)(c:kT a=S xs)(b:isNm u=ab\/∃r,a= .lst r):
 ow C A u F ι σ s (eval e env) xs aC:=by
 refine λQ E q=>he _ _ λv G x H k hx=> ?_
 have go:=λit y D=>q it _ y x _ k D
 cases a with
 |lst r=>cases c;exact Y1 (s:=upd s _ _) o k.inv hx go
 |tup r=>
  cases c
  rcases b with b| ⟨_,e⟩
  . exact Y2 (s:=upd s _ _) o b k.inv hx go
  cases e
 |aU t I=>
  cases c
  rcases b with b| ⟨_,e⟩
  . exact Y_ (s:=upd s _ _) o b k.inv hx go
  cases e
 |_=>exact aD c
theorem Zf {e b}{f}{Q}{E}(hf:(∃T,f= .type T)\/∃id,f= .builtin id)(o:notStar e=ab)(q:notStar b=ab)
 (hn:∀r,r f s->wpAny C.M A (eval (.Name x D) env) r E s)(h:wpAny C.M A (eval e env) (λv c=>wpAny C.M A (eval b env) (λu y=>wpAny C.M A (call f [v,u]) Q E y) E c) E s):wpAny C.M A (eval (.Call (.Name x D) [e,b] [] pos) env) Q E s:=by
 refine Jx (hn _ ?_)
 have k:(backTo pos (starEach [e,b] env)).any _=false:=sA (by simp[o,q])
 have ha:wpAny _ A (evalArgs f _ _ []) (λa c=>wpAny _ A (call f ([]++a.pos) a.kw) Q E c) E s:=yY k (y0 (mW h (λv c G=>y0 (mW G (λu y H=>CG H) λ_ _ x=>x) (ud q)) λ_ _ x=>x) (ud o))
 rcases hf with ⟨T,rfl⟩| ⟨id,rfl⟩
 . exact YK k ha
 exact Jy k ha
theorem JQ {a b:Int}(c:a<aE)(k: -aE<a)(o:b<aE)(r: -aE<b):Builtin.Range.small a b 1=true:=by
 have H:∀ {x:Int},x<aE+aE-> -aE+ -aE<x-> -9223372036854775808<=x/\x<9223372036854775808:=λp q=>⟨Cf (by decide) (sf q),mR p (by decide)⟩
 have B:=H (mR o (by decide)) (mR (by decide) r)
 unfold Builtin.Range.small
 rw[JE _ _]
 unfold Builtin.Range.rangeFitsLong
 simp
 exact⟨⟨⟨H (mR c (by decide)) (mR (by decide) k),B⟩,by
  rcases(b - a).le_total 0 with q|q
  . rw[Jk q];decide
  . rw[X6 q];exact H (Int.add_lt_add o (Int.neg_lt_of_neg_lt k)) (Int.add_lt_add r (Int.neg_lt_neg c))⟩,.inr B⟩
theorem JR (i:aL C F ι σ h)(k:∀b o,h.get? b=S o->h'.get? b=S o)(a:pq C A c F ι σ h' xs it ky):pq C A c F ι σ h xs it ky:=by
 refine yz a.it λG P I q fr r p=>⟨G,P,I,λb o e=>q b o (k b o e),λb g=> ?_,r,p⟩
 cases e:h.get? b with
 |none=>rfl
 |some o=>have:=k b o e;rw[fr b g]at this;exact aD this
theorem Zg (o:A.handled=J)(ok:cQ F env)(i:aL C F ι σ s.heap){b e}{r pos}{n}(hk:env.kindOf "range" =S .globalImplicit)(u:notStar e=ab)(he:EV C A F ι σ s (eval e env) (.v (.int n)) aC)(x:n<aE)(y: -aE<n)(D:isNm b=ab):
 ow C A b F ι σ s (eval (.Call (.Name "range" r) [e] [] pos) env) (mN 0 n) aC:=by
 refine λQ E q=>CH (f:= .type "range") (.inl ⟨_,rfl⟩) u (y4 ok i hk (by simp[qA]) (rfl)) (he _ _ λv c k G a hx=> ?_)
 refine ao hx λt O=> ?_;clear hx;subst O
 exact call_range_1 (JF o D (iy (h':=c.push {cls:= .type "range",data:= .fields #[.int 0 k,.int n t,.int 1 (k+1)]}) a.inv (eQ _ _)).inv (qD _ _ rfl) (JQ (by unfold aE;lia) (by unfold aE;lia) x y) λit h' H=>q it c h' _ G a (JR a.inv (eQ _ _) H))
theorem Zh (x:A.handled=J)(ok:cQ F env)(i:aL C F ι σ s.heap){c e a}{y pos}{n m}(hk:env.kindOf "range" =S .globalImplicit)(D:notStar e=ab)(G:notStar a=ab)(he:EV C A F ι σ s (eval e env) (.v (.int n)) aC)
 (H:∀h' I ag,Step C F ι σ s.heap ag aC h'->EV C A F ag aC (upd s h' I) (eval a env) (.v (.int m)) bk)(L:n<aE)(U: -aE<n)(Y:m<aE)(h4: -aE<m)(ht:isNm c=ab):
 ow C A c F ι σ s (eval (.Call (.Name "range" y) [e,a] [] pos) env) (mN n m) bk:=by
 refine λQ E q=>Zf (f:= .type "range") (.inl ⟨_,rfl⟩) D G (y4 ok i hk (by simp[qA]) (rfl)) (he _ _ λv aN bC bh k hx=>H aN bC bh k _ _ λu o de eK b r=> ?_)
 refine ao hx λt O=> ?_;clear hx;subst O
 refine ao r λt' O=> ?_;clear r;subst O
 exact call_range_2 (JF x ht (iy (h':=o.push {cls:= .type "range",data:= .fields #[.int n t,.int m t',.int 1 de]}) b.inv (eQ _ _)).inv (qD _ _ rfl) (JQ L U Y h4) λit h' ia=>q it o h' _ eK (k.trans b) (JR b.inv (eQ _ _) ia))
theorem Zi (c:A.handled=J)(ok:cQ F env)(i:aL C F ι σ s.heap){e}{fq}{k}{tp o pos}{xs}(hk:env.kindOf "enumerate" =S .globalImplicit)(r:notStar e=ab)(he:EV C A F ι σ s (eval e env) (.v (.lst xs)) aC):
 ow C A (.Tuple fq k tp) F ι σ s (eval (.Call (.Name "enumerate" o) [e] [] pos) env) (lR 0 xs) aC:=by
 refine λQ E q=>CH (f:= .type "enumerate") (.inl ⟨_,rfl⟩) r (y4 ok i hk (by simp[qA]) (rfl)) (he _ _ λv u x y a hx=> ?_)
 refine bU hx λl n I O hn b D=> ?_;clear hx;subst O
 exact call_enumerate_list ⟨_,b,rfl,n,rfl⟩ λG he H hsz hk=>Ze (fq:=fq) (k:=k) (tp:=tp) c (iy a.inv hk).inv hn b D hk a.inv he H (Ce (qP _)) (gM _) (Zj _) (q _ u G x y a)
def ij (env:PySem.Env)(W:aO->Prop)(x:Str):Prop:=
 (env.kindOf x=S .local/\W env.locals)\/(env.kindOf x=S .cell/\∀c,env.cells.lookup x=S c->W c)
inductive pB (sl:SL):List PySem.Expr->List Nat->Prop
 |nil:pB sl [] []
 |cons {x p es i is}:sl.lookup x=some i->pB sl es is->pB sl (.Name x p::es) (i::is)
noncomputable def sG (sl:SL):List aI->List Nat->Bool
 | [],is=>is.isEmpty
 |e::es,is=>(vJ e).any (λx=>sl.lookup x==is.head?) && !is.isEmpty&&sG sl es is.tail
theorem qQ:∀ {es:List _} {is:List _},sG sl es is=ab->pB sl es is:=by
 intro c
 induction c with
 |nil=>
  intro is h
  cases Zk.mp h;exact .nil
 |cons e es k=>
  intro is h
  have a:=dF.mp h
  have b:=dF.mp a.1
  refine ah (Cs b.1) λx hx o=>ao (WK hx) λp O=> ?_;subst O
  cases is with
  |nil=>cases b.2
  |cons i is=>exact .cons (eq_of_beq o) (k a.2)
variable {ρ':Env}
theorem zc (h:pB sl es is):(assignEach es env).length=is.length/\(assignEach es env).findIdx? (·.1)=J/\es.length=is.length:=by
 induction h with
 |nil=>exact⟨rfl,rfl,rfl⟩
 | @cons x p es i is _ _ a=>
  refine⟨congrArg _ a.1,?_,congrArg _ a.2.2⟩
  show((ae,assign _ _)::assignEach es _).findIdx? _=J
  rw[List.findIdx?_cons,a.2.1];rfl
theorem CM (ds:iY sl)(hW:∀b,W b->F b)(ok:cQ F env){Q}{E}{es}{is}(h:pB sl es is):∀ {xs:List X} {a:List _} {s:aT} {ρ:Env},
 (∀x p,.Name x p∈es->ij env W x)->aL C F ι σ s.heap->cx C s.heap (NN F ι σ) ι env sl ρ->bJ C s.heap (NN F ι σ) ι xs a->gZ is xs ρ=S ρ'->
 (∀h' k,cW C F W ι σ s.heap ι σ h'->cx C h' (NN F ι σ) ι env sl ρ'->Q () (upd s h' k))->wpAny C.M A (assignInOrder ((assignEach es env).map (·.2)) a) Q E s:=by
 induction h with
 |nil=>
  intro xs a s ρ _ i fr hx e q
  cases xs with
  |cons x xs=>exact aD e
  |nil=>
   cases e;exact bA (q _ _ (.refl i W) fr)
 | @cons x p es j is hl _ o=>
  intro xs a s ρ so i fr hx hb q
  cases xs with
  |nil=>exact aD hb
  |cons y L=>
   refine bp hx λv U O u D=> ?_;clear hx;subst O
   exact aG (jH (aG (qM (wg ok i fr ds hl (so x p (.head _)) u hW λY bC c G=>o (λz r hm=>so z r (.tail _ hm)) c.inv G (c.fm hW D) hb λbF de H I=>q _ _ (c.trans H hW) I))))
theorem Zl (h:bV (.two i j) a ρ=S ρ'):∃x y,a= .tup [x,y]/\gZ [i,j] [.v x,.v y] ρ=S ρ':=by
 refine gY h λp b h=> ?_
 cases a with
 |tup xs=>
  rcases xs with _| ⟨x,_| ⟨y,_| ⟨z,r⟩⟩⟩<;>(first|exact aD b|cases b)
  exact⟨_,_,rfl,congrArg S h⟩
 |_=>exact aD b
def qR (e:aI):List PySem.Expr:=match qz e with
 |some x=>x.1.1
 |none=> [e]
noncomputable def CP:jC->List Nat
 | .one i=> [i]
 | .two i j=> [i,j]
def oy (sl:SL)(t:jC)(e:aI):Bool:=(match t with| .one _=>(oe e).isSome| .two _ _=>(qz e).isSome) &&sG sl (qR e) (CP t)
inductive CQ (sl:SL):jC->PySem.Expr->Prop
 |one {i x p}:sl.lookup x=some i->CQ sl (.one i) (.Name x p)
 |two {i j es n p}:pB sl es [i,j]->CQ sl (.two i j) (.Tuple es n p)
theorem JS (h:oy sl t e=ab):CQ sl t e:=by
 have h:=dF.mp h
 cases t with
 |one i=>
  refine ao (ui.mp h.1) λO _=> ?_;obtain ⟨x,a⟩:=O;subst a
  cases qQ h.2 with|cons h _=>exact .one h
 |two i j=>
  refine ao (ui.mp h.1) λO _=> ?_;obtain ⟨x,a⟩:=O;subst a
  exact .two (qQ h.2)
theorem zd (e:Heap.ExtBut h.objs.size h h'):∀b o,h.get? b=S o->h'.get? b=S o:=λb o x=>e b o (dx (jf x)) x
theorem JT (k:A.handled=J)(ds:iY sl)(hW:∀b,W b->F b)(ok:cQ F env){t}{e}{a}{v}{Q}{E}(o:oy sl t e=ab)
 (so:∀x p,.Name x p∈qR e->ij env W x)(i:aL C F ι σ s.heap)(fr:cx C s.heap (NN F ι σ) ι env sl ρ)(hx:VR C s.heap (NN F ι σ) a v)(hb:bV t a ρ=S ρ')
 (q:∀h' r,cW C F W ι σ s.heap ι σ h'->cx C h' (NN F ι σ) ι env sl ρ'->Q () (upd s h' r)):wpAny C.M A (assign e env v) Q E s:=by
 cases JS o with
 |one hl=>
  cases hb
  exact aG (qM (wg ok i fr ds hl (so _ _ (.head _)) (val:= .v a) hx hW λu bC D G=>q _ _ D G))
 |two ns=>
  refine dh (Zl hb) λx y O H=> ?_;subst O;revert H;refine λhb=>bU hx λl m I O _ L c=> ?_;clear hx;subst O
  exact dp (zc (env:=env) ns) λn1 U n3=>JU k ⟨_,L,rfl,m,rfl⟩ (by rw[n1,(by rw[gP.symm];rw[c.length.symm];rfl:I.size=2)];rfl) U λu ex=>have st:=iy i (zd ex);CM ds hW ok ns so st.inv (fr.step ok i st) (st.kz c).fm hb λbF de Y jJ=>q _ _ ((st.w W).trans Y hW) jJ
def wo (C:CX)(h:Heap)(N:aO->Prop)(ι:Lay):Flow->PySem.Flow->Prop
 | .next,f=>f= .next
 | .ret x,f=>∃v,f= .ret v/\XR C h N ι x v
def PS (C:CX)(F W:aO->Prop)(env:PySem.Env)(sl:SL)(ι:Lay)(σ:Hp)(s:aT)(k:Flow)(ρ':Env)(c:Hp)(Q:PySem.Flow->aT->Prop):Prop:=∀f b o a,cW C F W ι σ s.heap a c b->cx C b (NN F a c) a env sl ρ'->wo C b (NN F a c) a k f->Q f (upd s b o)
def SV (C:CX)(A:Around)(F W:aO->Prop)(env:PySem.Env)(sl:SL)(ι:Lay)(σ:Hp)(s:aT)(t:Sem PySem.Flow)(a:Flow)(ρ':Env)(b:Hp):Prop:=
 ∀(Q:PySem.Flow->aT->Prop) (E:Value->aT->Prop),
  PS C F W env sl ι σ s a ρ' b Q->wpAny C.M A t Q E s
variable {G:aO->Prop}
theorem cx.mono (fr:cx C h N ι env sl ρ)(k:Kept h h' N N')(e:∀(n:Nat) p,ι[n]?=S p->ag[n]?=S p)(D:∀o,h.get? env.locals=S o->h'.get? env.locals=S o)(H:∀x c o,env.cells.lookup x=S c->h.get? c=S o->h'.get? c=S o):
 cx C h' N' ag env sl ρ:=ah fr.ns λm hm hr=>⟨⟨m,iP hm λo es I u r=>⟨o,es,I,D _ u,r⟩,λx j hx hk val y=>ah (hr x j hx hk _ y) λv a b=>⟨v,a,b.mono k e⟩⟩,λx j hx hk=>bp (fr.cl x j hx hk) λc w a O b=>ah O λo u L=>⟨c,w,a,⟨o,H _ _ _ a u,L⟩,λval y=>ah (b _ y) λv Q q=>⟨v,Q,q.mono k e⟩⟩⟩
theorem cQ.more (ok:cQ F env):cQ (λb=>F b\/G b) env:=⟨ok.kind,ok.glob,ok.blt,.inl ok.loc,λx c e=> .inl (ok.mP x c e),ok.apart,ok.Cb⟩
theorem ij.more (so:ij env W x):ij env (λb=>W b\/G b) x:=so.imp (au · λa b=>⟨a,.inl b⟩) (au · λa b=>⟨a,λc e=> .inl (b c e)⟩)
theorem JV (i:aL C F ι σ h)(r:∀b,G b->F b)(hW:∀b,G b->W b)(k:∀b o,h.get? b=S o->¬G b->h'.get? b=S o)(y:∀b,G b->∃o,h'.get? b=S o):cW C F W ι σ h ι σ h':=by
 refine⟨⟨i.len,λb o e=>k b o (i.base b o e) λz=> ?_,λn p c u x=> ?_,i.apart,i.fresh,λb z=> ?_⟩,λb o e n w=>k b o e λz=>w (hW b z),λ_ _ e=>e,λ_ _ _ q=>q⟩
 . rw[(i.frames b (r b z)).1]at e;exact aD e
 . exact(i.cells n p c u x).mono ⟨λb o e n=>k b o e λz=>n (.inl (r b z)),λ_ _ _ q=>q⟩ (λ_ _ e=>e) λb o hb D e=>k b o e λz=>(λb hb q=>(i.fresh b q).2 hb) b (r b z) ⟨n,p,c,u,x,D,hb⟩
 . refine au (i.frames b z) λa H=>ao H λo I=> ?_;by_cases q:G b
   . exact⟨a,y b q⟩
   exact⟨a,o,k b o I q⟩
theorem JW {a k h₃ c}(r:∀b o,a.get? b=S o->k.get? b=S o)(fr:∀b,G b->a.get? b=J)(st:cW C (λb=>F b\/G b) (λb=>W b\/G b) ι σ k ag af h₃)
 (x:∀b o,h₃.get? b=S o->¬G b->c.get? b=S o)(i:aL C F ag af c):cW C F W ι σ a ag af c:=by
 have u:∀b o,a.get? b=S o->¬G b:=λb o e g=>by rw[fr b g]at e;exact aD e
 refine⟨i,λb o e n w=>x b o (st.keep b o (r b o e) n λz=>z.elim w (u b o e)) (u b o e),st.ext,λb o e q=>st.new b o (r b o e) q⟩
theorem cW.more (st:cW C F W ι σ h ag af h')(G:aO->Prop):cW C F (λb=>W b\/G b) ι σ h ag af h':=⟨st.inv,λb o e n w=>st.keep b o e n λz=>w (.inl z),st.ext,st.new⟩
theorem wo.mono (r:wo C h N ι a f)(k:Kept h h' N N'):wo C h' N' ι a f:=by
 cases a with
 |next=>exact r
 |ret x=>exact ah r λv e q=>⟨v,e,q.mono k λ_ _ e=>e⟩
def BodyOk (C:CX)(A:Around)(env:PySem.Env)(sl:SL)(body:List PySem.Stmt)(b:Env->Hp->RS):Prop:=
 ∀(F W:aO->Prop),cQ F env->(∀b,W b->F b)->(∀x,(env.kindOf x=S .local\/env.kindOf x=S .cell)->ij env W x)->∀(ρ:Env) (σ:Hp) (s:aT) (ι:Lay) a ρ' c,aL C F ι σ s.heap->cx C s.heap (NN F ι σ) ι env sl ρ->b ρ σ=S (a,ρ',c)->
  SV C A F W env sl ι σ s (execs body env) a ρ' c
inductive CR (C:CX)(env:PySem.Env)(sl:SL)(F W G:Addr->Prop)(P:(Addr->Prop)->List V->Heap->Prop)(g:List V->Env->Hp->RS)(r:Flow×Env×Hp)(bh:Lay)(aC:Hp)(bF:Heap)(s:Shared):Nat->Shared->Prop
 |mk {xs dw cJ jK h₃ tk}:cW C (λb=>F b\/G b) (λb=>W b\/G b) bh aC bF dw cJ h₃->cx C h₃ (NN (λb=>F b\/G b) dw cJ) dw env sl jK->P (NN (λb=>F b\/G b) dw cJ) xs h₃->g xs jK cJ=some r->CR C env sl F W G P g r bh aC bF s xs.length (upd s h₃ tk)
def Zm (I:Nat->aT->Prop)(n:Nat)(Q:PySem.Flow->aT->Prop)(f:PySem.Flow)(s:aT):Prop:=match f with
 | .next| .cont=>∃m,m<n/\I m s
 | .brk=>Q .next s
 | .ret v=>Q (.ret v) s
theorem Zn (hh:A.handled=J)(ds:iY sl){t}{Y iter}{body}{pos}{b}{xs}{D}(hb:BodyOk C A env sl body b)(ok:cQ F env)(hW:∀b,W b->F b)
 (so:∀x,(env.kindOf x=S .local\/env.kindOf x=S .cell)->ij env W x)(ht:oy sl t Y=ab)(hk:∀x p,.Name x p∈qR Y->env.kindOf x=S .local\/env.kindOf x=S .cell)
 (hi:ow C A Y F ι σ s (eval iter env) xs aC)(fr:cx C s.heap (NN F ι σ) ι env sl ρ)(i:aL C F ι σ s.heap)(e:n9 t b xs ρ aC=S (D,ρ',af))(hs:∀x,foldedSetIterable iter env x=pure x):
 SV C A F W env sl ι σ s (exec (.For Y iter body [] pos) env) D ρ' af:=by
 refine λQ E q=>wpAny_For (hi _ _ λit aN bF de bh aB ia=>yz ia.it λG P I k1 kZ wq p0=>au (ue aB.inv k1 kZ wq) λJX ze=> ?_) hs
 have H:∀b,F b->¬G b:=λb f g=>by
  refine au (aB.inv.frames _ f) λ_ aF=>ao aF λo ho=> ?_;rw[kZ _ g]at ho;exact aD ho
 have jJ:=(fr.step ok i aB).mono ze (λ_ _ e=>e) (λo e=>k1 _ o e) λx c o _ e=>k1 _ o e
 have uj:∀b,(W b\/G b)->(F b\/G b):=λb z=>z.imp (hW b) id
 have fin:∀ {a k h₃ u jK} (f:PySem.Flow) L,cW C (λb=>F b\/G b) (λb=>W b\/G b) bh aC bF a k h₃->(∀b o,h₃.get? b=S o->¬G b->u.get? b=S o)->cx C h₃ (NN (λb=>F b\/G b) a k) a env sl jK->wo C h₃ (NN (λb=>F b\/G b) a k) a D f->
  (D,jK,k)=(D,ρ',af)->Q f (upd s u L):=by
  intro a k h₃ u jK f L st U k6 hf eq
  cases eq
  exact au (we st.inv U H) λlW uk=>q f u L a ((aB.w W).trans (JW k1 kZ st U lW) hW) (k6.mono uk (λ_ _ e=>e) (λo e=>U _ o e (H _ ok.loc)) λx c o hc e=>U _ o e (H _ (ok.mP x c hc))) (hf.mono uk)
 refine codeAny_forLoop_any (CR C env sl F W G P (n9 t b) (D,ρ',af) bh aC bF s) ?_ xs.length (.mk (.refl JX _) jJ p0 e)
 clear jJ p0 e JX ze ia
 refine λn s' eA=>yL λQ2 E2 hq=> ?_
 obtain @⟨ys,a,k,jK,h₃,L,st,k6,p,e⟩:=eA
 cases ys with
 |nil=>
  cases e
  exact mW (I.stop (upd s h₃ L) ((wpAny C.M A (execs [] env) Q _)) _ p λu tk' U=>JY (fin .next tk' st U k6 rfl rfl)) (λr dU hr=>by revert hr;intro O;refine au O λax hr=> ?_;clear O;subst ax;exact hq _ _ hr) λ_ _ x=>x
 |cons y ys=>
  refine kr e λCS zf e=>Hz e λf1 JZ zg Zo e=>mW (I.next (upd s h₃ L) (λv jg=>wpAny C.M A (assign Y env v) (λ_ jg=>wpAny C.M A (execs body env) (Zm (CR C env sl F W G P (n9 t b) (D,ρ',af) bh aC bF s) (y::ys).length Q) _ jg) _ jg) _ _ p (λb g=> .inl (.inr g)) (λb e=>r_ st.inv e) λv u zh p4 k4 CT hv=> ?_)
   (λr dU hr=>by revert hr;intro O;refine ah O λv ax hr=> ?_;clear O;subst ax;exact hq _ _ hr) λ_ _ x=>x
  have g6:cW C (λb=>F b\/G b) (λb=>W b\/G b) a k h₃ a k u:=JV st.inv (λb g=> .inr g) (λb g=> .inr g) k4 CT
  have zi:∀b,W b->(F b\/G b):=λb z=> .inl (hW b z)
  refine JT (s:=(upd s u zh)) hh ds zi ok.more ht (λx p hm=>so x (hk x p hm)) g6.inv (k6.mono (g6.kept uj) (λ_ _ e=>e) (λo e=>k4 _ o e (H _ ok.loc)) λx c o hc e=>k4 _ o e (H _ (ok.mP x c hc))) hv zf λfS CU jh um=>hb (λb=>F b\/G b) W ok.more zi so CS k _ a f1 JZ zg jh.inv um Zo _ _ λf qS CV J0 m6 wx hf=> ?_
  have uo:=jh.trans m6 zi
  have m7:=(st.trans g6 uj).trans (uo.more G) uj
  cases f1 with
  |next=>
   cases hf
   exact⟨ys.length,iQ _,.mk m7 wx (I.y8 p4 (uo.kept zi) λb o g e=>uo.keep b o e (λq=>(g6.inv.fresh b q).2 (.inr g)) (λw=>H b (hW b w) g)) e⟩
  |ret x=>
   cases e
   refine ah hf λv O hx=> ?_;clear hf;subst O
   exact fin (.ret v) CV m7 (λb o e _=>e) wx ⟨v,rfl,hx⟩ rfl
def wy (C:CX)(A:Around)(env:PySem.Env)(sl:SL)(t:aI)(c:Env->Hp->Option (Bool×Hp)):Prop:=
 ∀(F:aO->Prop),cQ F env->∀(ρ:Env) (σ:Hp) (s:aT) (ι:Lay) b a,aL C F ι σ s.heap->cx C s.heap (NN F ι σ) ι env sl ρ->c ρ σ=S (b,a)->gc C A F ι σ s (isTrue t env (eval t env)) b a
inductive J1 (C:CX)(env:PySem.Env)(sl:SL)(F W:Addr->Prop)(ι:Lay)(σ:Hp)(g:Nat->Env->Hp->RS)(r:Flow×Env×Hp)(s:Shared):Nat->Shared->Prop
 |mk {n dw cJ jK h₃ tk}:cW C F W ι σ s.heap dw cJ h₃->cx C h₃ (NN F dw cJ) dw env sl jK->g n jK cJ=some r->J1 C env sl F W ι σ g r s n (upd s h₃ tk)
theorem Zp {c}{b}{u}{k}(U:wy C A env sl Y c)(hb:BodyOk C A env sl body b)(ok:cQ F env)(hW:∀b,W b->F b)
 (so:∀x,env.kindOf x=S .local\/env.kindOf x=S .cell->ij env W x)(fr:cx C s.heap (NN F ι σ) ι env sl ρ)(i:aL C F ι σ s.heap)(e:qu c b k ρ σ=S (u,ρ',af)):
 SV C A F W env sl ι σ s (exec (.While Y body [] pos) env) u ρ' af:=by
 refine λQ E q=>wpAny_While (codeAny_whileLoop (J1 C _ sl F W ι σ _ _ s) ?_ k (.mk (.refl i W) fr e))
 clear fr e i
 refine λn s' eA=>yL λQ1 E1 a=> ?_
 obtain @⟨dw,cJ,jK,h₃,tk,st,y,e⟩:=eA
 cases n with
 |zero=>exact aD e
 |succ n=>
  refine qj e λt zm h4 e=>U F ok _ _ _ _ t _ st.inv y h4 _ _ λcU zh aiw o=> ?_
  have D:=y.step ok st.inv o
  have r:=st.trans (o.w W) hW
  cases t with
  |false=>
   cases e
   exact a _ _ (JY (q _ _ _ _ r D rfl))
  |true=>
   refine a _ _ (yL λQ2 E2 hr=> ?_)
   clear a
   refine Hz e λH JZ zg h5 e=>hb F W ok hW so _ _ (upd s _ _) _ H _ _ o.inv D h5 _ _ λf qS CV J0 I L hf=>hr _ _ ?_
   cases H with
   |next=>
    cases hf
    exact⟨n,n.lt_succ_self,.mk (r.trans I hW) L e⟩
   |ret x=>
    cases e
    refine ah hf λv O hx=> ?_;clear hf;subst O
    exact q _ _ _ _ (r.trans I hW) L ⟨v,rfl,hx⟩
theorem J2 {t}{a}(hW:∀b,W b->F b)(o:gc C A F ι σ s (isTrue c env (eval c env)) t aC)
 (hb:∀h' r ag,Step C F ι σ s.heap ag aC h'->SV C A F W env sl ag aC (upd s h' r) (execs (if t then body else u) env) a ρ' af):SV C A F W env sl ι σ s (exec (.If c body u pos) env) a ρ' af:=by
 refine λQ E q=>wpAny_If (o _ _ λH x I k=> ?_)
 have:=hb _ x _ k Q E λf L O U y D hf=>q f _ _ _ ((k.w W).trans y hW) D hf
 cases t<;>exact this
theorem Zr {x}(ok:cQ F env)(i:aL C F ι σ s.heap)(fr:cx C s.heap (NN F ι σ) ι env sl ρ)(he:EV C A F ι σ s (eval e env) x aC):SV C A F W env sl ι σ s (exec (.Return (S e) pos) env) (.ret x) ρ aC:=λQ E q=>wpAny_Return_some (he _ _ λv b c k a hx=>q _ _ _ _ (a.w W) (fr.step ok i a) ⟨v,rfl,hx⟩)
theorem Zt {st}{rest}{a}{oz}(hW:∀b,W b->F b)(k:SV C A F W env sl ι σ s (exec st env) .next oz aC)
 (o:∀h' r ag,cW C F W ι σ s.heap ag aC h'->cx C h' (NN F ag aC) ag env sl oz->SV C A F W env sl ag aC (upd s h' r) (execs rest env) a ρ' af):SV C A F W env sl ι σ s (execs (st::rest) env) a ρ' af:=
 λQ E q=>wpAny_execs_cons (k _ _ λf D H I c u hf=>Zrr hf (o _ _ _ c u Q E λf L O U x y hf=>q f _ _ _ (c.trans x hW) y hf))
theorem Zu {st}{rest}{x}{oz}(a:SV C A F W env sl ι σ s (exec st env) (.ret x) oz aC):SV C A F W env sl ι σ s (execs (st::rest) env) (.ret x) oz aC:=
 λQ E q=>wpAny_execs_cons (a _ _ λf k o r b c hf=>ah hf λv e hx=>Zrr e (q _ _ _ _ b c ⟨v,rfl,hx⟩))
theorem Zv (i:aL C F ι σ s.heap)(fr:cx C s.heap (NN F ι σ) ι env sl ρ):SV C A F W env sl ι σ s (execs [] env) .next ρ σ:=λQ E q=>JY (q _ _ _ ι (.refl i W) fr rfl)
noncomputable def fT (scope:Scope)(kd:Str->Option NameKind)(x:Str):Option NameKind:=
 (scope.names.map λ(n,k)=>if(k== .free&&kd n==S .cell)then(n,.cell)else(n,k)).lookup x
def dP (t:jC)(e:aI):SL:=((qR e).filterMap vJ).zip (CP t)
noncomputable def uq (scope:Scope)(kd:Str->Option NameKind)(sl a:SL):Bool:=
 scope.kind== .function&&
 scope.names.all (λp=>scope.names.lookup p.1==S p.2) &&
 scope.names.all (λp=>p.2 != .free|| ((sl.lookup p.1).isSome&& (kd p.1==S .cell||kd p.1==S .free) && (a.lookup p.1).isNone)) &&
 scope.names.all (λp=>(p.2 != .local&&p.2 != .cell)|| (a.lookup p.1).isSome|| (sl.lookup p.1).isNone)
theorem zo {kd:Str->Option NameKind}:∀ {l:List _} {x:Str} {k:NameKind},(l.map λ(n,k)=>if k== .free&&kd n==S .cell then(n,.cell)else(n,k)).lookup x=S k->
 ∃o,l.lookup x=S o/\(o= .free/\kd x=S .cell/\k= .cell\/k=o/\¬(o= .free/\kd x=S .cell)):=by
 intro y
 induction y with
 |nil=>
  intro _ _ h
  exact aD h
 |cons D r u=>
  obtain ⟨n,o⟩:=D
  intro x k h
  simp only[dz]at h
  by_cases c:(o== .free&&kd n==S .cell)=ab
  . rw[if_pos c,k7]at h
    cases e:x==n with
    |true=>
     rw[e]at h
     simp only[jF]at h
     have:=eq_of_beq e;subst this
     simp only[fZ,beq_iff_eq]at c
     exact⟨o,by simp,.inl ⟨c.1,c.2,h.symm⟩⟩
    |false=>
     rw[e]at h
     exact ah (u h) λq a b=>⟨q,by rw[k7];exact Zrr e a,b⟩
  . rw[if_neg c,k7]at h
    cases e:x==n with
    |true=>
     rw[e]at h
     simp only[jF]at h
     have:=eq_of_beq e;subst this
     simp only[fZ,beq_iff_eq]at c
     exact⟨o,by simp,.inr ⟨h.symm,c⟩⟩
    |false=>
     rw[e]at h
     exact ah (u h) λq a b=>⟨q,by rw[k7];exact Zrr e a,b⟩
theorem zp:∀(l:List _) (n:Nat) (acc:List _),cellsFrom n l acc=cellsFrom n l []++acc:=by
 intro b
 induction b with
 |nil=>
  exact λ_ _=>rfl
 |cons c r a=>
  obtain ⟨name,kind⟩:=c
  intro n acc
  unfold cellsFrom
  split
  . rw[a _ _,a _ [(name,n)]];simp
  exact a n _
theorem Zw:∀(l:List _) (n:Nat) {x:Str} {c:aO},(x,c)∈cellsFrom n l []->(x,.cell)∈l:=by
 intro b
 induction b with
 |nil=>
  intro _ _ _ h
  cases h
 |cons k r a=>
  obtain ⟨name,kind⟩:=k
  intro n x c h
  unfold cellsFrom at h
  split at h
  . rename_i hk
    rw[zp]at h
    rcases b8.mp h with h|h
    . exact .tail _ (a _ h)
    . simp only[dm,kY]at h
      refine au h λO _=> ?_;clear h;subst O
      have:=eq_of_beq hk;subst this
      exact .head _
  exact .tail _ (a _ h)
theorem J3:∀(l:List _) (n:Nat) {x:Str},(x,.cell)∈l->∃c,(x,c)∈cellsFrom n l []:=by
 intro b
 induction b with
 |nil=>
  intro _ _ h
  cases h
 |cons o r a=>
  intro n x h
  unfold cellsFrom
  rcases cy.mp h with e|h
  . cases e
    exact Zrr (zp _ _ _) ⟨n,b8.mpr (.inr (.head _))⟩
  . split
    . exact ao (a _ h) λc k=>Zrr (zp _ _ _) ⟨c,b8.mpr (.inl k)⟩
    exact a n h
theorem J4 {a:Type}:∀ {l:List _} {x:Str} {c:a},(x,c)∈l->∃b,l.lookup x=S b:=by
 intro k
 induction k with
 |nil=>exact λh=>nomatch h
 |cons p r o=>
  intro x c h
  rw[k7]
  cases e:x==p.1 with
  |true=>exact⟨_,rfl⟩
  |false=>
   rcases cy.mp h with h|h
   . subst h;rw[wA]at e;exact jc e
   exact o h
theorem lookup_append {a:Type}:∀ {l r:List (Str×a)} {x:Str},(l++r).lookup x=(l.lookup x).or (r.lookup x):=by
 intro b
 induction b with
 |nil=>
  intro r x
  simp
 |cons c l o=>
  obtain ⟨k,v⟩:=c
  intro r x
  rw[CW,k7,k7]
  cases e:x==k with
  |true=>simp
  |false=>exact o
theorem Zx:∀(l:List (Str×NameKind)) (acc:List _),(∀p∈l,p.2= .free->∃c,env.cells.lookup p.1=S c)->(∀x c,acc.lookup x=S c->env.cells.lookup x=S c)->
 ∃cl,forIn l acc (λx L=>(if x.2== .free then do let a<-cellOf env x.1;pure (.yield ((x.1,a)::L))else pure (.yield L):Sem _))=pure cl/\
  (∀x c,cl.lookup x=S c->env.cells.lookup x=S c)/\(∀x c,acc.lookup x=S c->cl.lookup x=S c)/\∀x,(x,.free)∈l->cl.lookup x=env.cells.lookup x:=by
 intro Q
 induction Q with
 |nil=>
  exact λacc _ ha=>⟨_,rfl,ha,λ_ _ e=>e,λ_ h=>by cases h⟩
 |cons U r O=>
  obtain ⟨n,k⟩:=U
  intro acc hf ha
  by_cases hk:k= .free
  . subst hk
    refine ao (hf _ (.head _) rfl) λc o=>o8 (O _ (λp y=>hf p (.tail _ y)) λx q e=>by
     rw[k7]at e
     cases b:x==n with
     |true=>rw[b]at e;rw[eq_of_beq b];exact Zrr e.symm o
     |false=>rw[b]at e;exact ha x q e) λcl D H u I=> ?_
    have hn:=u n c (by simp)
    refine⟨cl,?_,H,λx q e=> ?_,λx hx=> ?_⟩
    . rw[zr _ _ _ _]
      have:cellOf env n=pure c:=by unfold cellOf;rw[o];rfl
      simp only[this]
      exact D
    . refine if b:x=n then ?_ else u x q (by rw[k7,beq_eq_false_iff_ne.mpr b];exact e)
      . subst b
        rw[hn,o.symm];exact(ha x q e).symm▸rfl
    . refine(cy.mp hx).elim (λe=> ?_) (I x)
      . cases e;rw[hn,o];rfl
  . refine o8 (O _ (λp y=>hf p (.tail _ y)) ha) λcl D H u I=>⟨cl,?_,H,u,λx hx=> ?_⟩
    . rw[zr _ _ _ _]
      have:(k== .free)=false:=by simpa using hk
      simp only[this]
      exact D
    . refine(cy.mp hx).elim (λe=> ?_) (I x)
      . cases e;exact absurd rfl hk
theorem Zy (hf:∀p∈scope.names,p.2= .free->∃c,env.cells.lookup p.1=S c):
 ∃cl,closureFor scope env=pure cl/\(∀x c,cl.lookup x=S c->env.cells.lookup x=S c)/\∀x,(x,.free)∈scope.names->cl.lookup x=env.cells.lookup x:=by
 refine o8 (Zx _ [] hf λx c e=>aD e) λcl a b _ k=>⟨cl,?_,b,k⟩
 rw[(rfl:closureFor _ _=forIn _ [] _>>=pure),a];rfl
theorem Zz {M}{Q}{E}
 (a:∀h',(∀b o,s.heap.get? b=S o->h'.get? b=S o)->h'.Ns s.heap.objs.size (λ_=>J)->CellsOk h' (s.heap.objs.size+1) (cellsFrom (s.heap.objs.size+1) scope.names [])->
  Q (newEnv scope s.heap.objs.size env.globals (cellsFrom (s.heap.objs.size+1) scope.names []++cl) env.qual J .none (S env) builtinsNs) (upd s h' s.toks)):
 wpAny M A (newFunctionEnv scope env.globals cl [] env.qual J .none (S env)) Q E s:=by
 simp only[newFunctionEnv]
 refine aG (wpAny_alloc (aG (wpAny_layCells _ (λname kind cells=>rfl) _ _ _ _ ?_)))
 have ok:=cellsFrom_ok scope.names (s.heap.push {cls:= .type "dict",data:= .dict #[]}) (s.heap.objs.size+1) [] ⟨λ_ _ hm=>(nomatch hm),.nil⟩ (by simp)
 rw[CY]at ok
 rw[CY ..,zp _ _ _]
 exact Zrr List.forIn_nil (aG (bA (bA (a _ (λb o e=>pushCells_keeps _ _ b o (jE _ e)) ((Heap.Ns.new _ _).keeps (pushCells_keeps _ _)) ok))))
noncomputable def k8 (scope:Scope)(cells:List (Str×aO))(Ca:aO)(env:PySem.Env):PySem.Env:=
 {scope:=relabel scope env,locals:=Ca,globals:=env.globals,cells:=cells,qual:=env.qual,func:=J,code:=env.code,frame:=env.frame,builtins:=env.builtins}
noncomputable def wB (t:jC)(ρ:Env):Env:=match t with
 | .one i=>ρ.set i J
 | .two i j=>(ρ.set i J).set j J
variable {aN fS:Heap} {ts:SL}
section
variable {scope:Scope} {cells eB cl:List (Str×aO)} {Ca:aO}
theorem CZ (h:slot (ρ.set i J) j=S x):slot ρ j=S x/\j≠i:=by
 by_cases e:i=j
 . subst e
   unfold slot at h
   by_cases l:i<ρ.length
   . rw[om l]at h;exact aD h
   . rw[eX (by simp;exact fB l)]at h;exact aD h
 . rw[slot_set_ne e]at h;exact⟨h,.symm e⟩
theorem C0 (o:ts=dP t q)(h:slot (wB t ρ) j=S x):slot ρ j=S x/\∀y,ts.lookup y≠S j:=by
 subst o
 have key:slot ρ j=S x/\j∉CP t:=by
  cases t with
  |one i=>
   exact au (CZ h) λa b=>⟨a,λm=>b (dm.mp m)⟩
  |two i k=>
   exact au (CZ h) λa b=>au (CZ a) λa c=>⟨a,λm=>(cy.mp m).elim c λm=>b (dm.mp m)⟩
 exact⟨key.1,λy e=>key.2 (J5 (mem_of_lookup e)).2⟩
theorem ZA (a)(ρ):bV t a (wB t ρ)=bV t a ρ:=by
 cases t with
 |one i=>exact congrArg S (lX ..)
 |two i j=>
  refine congrArg (BZ a).map (funext λz=> ?_)
  by_cases e:i=j
  . subst e;simp only[wB,lX]
  . simp only[wB]
    rw[ur _ _ e,lX _,ur _ _ e];exact Zrr (lX _) (ur _ _ (.symm e))
theorem zu (hk:env.scope.kind= .function)(x):(k8 scope cells Ca env).kindOf x=fT scope env.kindOf x:=by
 unfold k8 Env.kindOf relabel fT
 dsimp only
 rw[hk]
 simp only[beq_self_eq_true,C1]
 rfl
structure J6 (scope:Scope)(kd:Str->Option NameKind)(sl ts:SL):Prop where
 kind:scope.kind= .function
 cons:∀p∈scope.names,scope.names.lookup p.1=S p.2
 free:∀p∈scope.names,p.2= .free->(∃j,sl.lookup p.1=S j)/\(kd p.1=S .cell\/kd p.1=S .free)/\ts.lookup p.1=J
 own:∀p∈scope.names,p.2= .local\/p.2= .cell->(∃j,ts.lookup p.1=S j)\/sl.lookup p.1=J
theorem ZC (h:uq scope kd sl ts=ab):J6 scope kd sl ts:=by
 unfold uq at h
 simp only[fZ,cF,beq_iff_eq,lY,bne_iff_ne,C2]at h
 refine au h λO o=>au O λq r=>au q λu x=>⟨u,x,λp k hf=> ?_,λp k y=> ?_⟩
 . rcases r p k with z| ⟨⟨a,b⟩,c⟩
   . exact absurd hf z
   exact⟨ui.mp a,b,c⟩
 . rcases o p k with (z|z)|z
   . exact y.elim (absurd · z.1) (absurd · z.2)
   . exact .inl (ui.mp z)
   exact .inr z
theorem ZD {t}{aX}(ok:cQ F env)(i:aL C F ι σ aN)(fr:cx C aN (NN F ι σ) ι env sl ρ)(co:J6 scope env.kindOf sl ts)(wC:ts=dP t aX)
 (Y:∀x c,cl.lookup x=S c->env.cells.lookup x=S c)(C3:∀x,(x,.free)∈scope.names->cl.lookup x=env.cells.lookup x)(sD:eB=cellsFrom (Ca+1) scope.names [])(hc:CellsOk fS (Ca+1) eB)(hn:fS.Ns Ca (λ_=>J))
 (k:∀b o,aN.get? b=S o->fS.get? b=S o)(fresh:aN.get? Ca=J)(J7:∀n c,(n,c)∈eB->aN.get? c=J)(hG:∀b,(b=Ca\/∃n,(n,b)∈eB)->G b)(K:Kept aN fS (NN F ι σ) (NN (λb=>F b\/G b) ι σ)):
 cQ (λb=>F b\/G b) (k8 scope (eB++cl) Ca env)/\cx C fS (NN (λb=>F b\/G b) ι σ) ι (k8 scope (eB++cl) Ca env) (ts++sl) (wB t ρ)/\
  (∀x j,ts.lookup x=S j->((k8 scope (eB++cl) Ca env).kindOf x=S .local\/(k8 scope (eB++cl) Ca env).kindOf x=S .cell)->ij (k8 scope (eB++cl) Ca env) (λb=>b=Ca\/∃n,(n,b)∈eB) x):=by
 have zv:∀x c,cl.lookup x=S c->F c/\∃o,aN.get? c=S o:=λx c e=>⟨ok.mP x c (Y x c e),(i.frames c (ok.mP x c (Y x c e))).2⟩
 have I:∀x c,(eB++cl).lookup x=S c->((x,c)∈eB/\eB.lookup x=S c)\/(eB.lookup x=J/\cl.lookup x=S c):=λx c e=>by
  rw[lookup_append]at e
  cases z:eB.lookup x with
  |none=>rw[z]at e;exact .inr ⟨rfl,by simpa using e⟩
  |some c'=>rw[z]at e;simp at e;subst e;exact .inl ⟨mem_of_lookup z,rfl⟩
 refine⟨(by
  refine⟨by show(relabel scope env).kind=_;exact co.kind,ok.glob,ok.blt,.inr (hG Ca (.inl rfl)),λx c e=> ?_,λx y c e e'=> ?_,λx c e=> ?_⟩
  . rcases I x c e with ⟨m,_⟩| ⟨_,m⟩
    . exact .inr (hG c (.inr ⟨x,m⟩))
    exact .inl (zv x c m).1
  . rcases I x c e with ⟨m,_⟩| ⟨_,m⟩<;>rcases I y c e' with ⟨L,_⟩| ⟨_,L⟩
    . exact name_of_addr hc.apart m L
    . refine au (zv y c L) λ_ u=>ao u λo r=> ?_;clear u
      rw[J7 x c m]at r;exact aD r
    . refine au (zv x c m) λ_ u=>ao u λo r=> ?_;clear u
      rw[J7 y c L]at r;exact aD r
    exact ok.apart x y c (Y x c m) (Y y c L)
  . show c≠Ca
    rcases I x c e with ⟨m,_⟩| ⟨_,m⟩
    . exact have:=(hc.empty x c m).2;fO this
    . refine au (zv x c m) λ_ u=>ao u λo r=> ?_;clear u
      intro z;rw[z,fresh]at r;exact aD r),⟨⟨_,hn,λx j hx hk val hv=> ?_⟩,λx j hx hk=> ?_⟩,λx j hx hk=> ?_⟩
 . exfalso
   rw[zu ok.kind]at hk
   refine ah (zo hk) λa hl D=> ?_
   have sH:a= .local:=by
    rcases D with ⟨_,_,e⟩| ⟨e,_⟩
    . cases e
    exact e.symm
   subst sH
   have Q:=(C0 wC hv).2 x
   rw[lookup_append]at hx
   rcases co.own _ (mem_of_lookup hl) (.inl rfl)with ⟨j',H⟩|z
   . rw[H]at hx;simp at hx;subst hx;exact Q H
   cases q:ts.lookup x with
    |some j'=>rw[q]at hx;simp at hx;subst hx;exact Q q
    |none=>rw[q]at hx;simp only[ZE]at hx;dsimp only at z;rw[z]at hx;exact aD hx
 . rw[zu ok.kind]at hk
   have key:∃a,scope.names.lookup x=S a/\(a= .free\/a= .cell):=by
    rcases hk with hk|hk
    . refine ah (zo hk) λa hl D=> ?_
      rcases D with ⟨e,_,_⟩| ⟨e,_⟩
      . exact⟨a,hl,.inl e⟩
      exact⟨a,hl,.inr e.symm⟩
    . refine ah (zo hk) λa hl D=> ?_
      rcases D with ⟨_,_,e⟩| ⟨e,_⟩
      . cases e
      exact⟨a,hl,.inl e.symm⟩
   refine ah key λa hl sH=> ?_;clear key
   have hm:=mem_of_lookup hl
   rcases sH with rfl|rfl
   . (refine dp (co.free _ hm rfl) λO qT J8=> ?_;refine ao O λj' wF=> ?_;clear O)
     dsimp only at wF J8
     have H:=by rw[lookup_append,J8]at hx;simpa using hx
     (refine bp (fr.cl x j H qT) λc w wG O hv=> ?_;refine ah O λo r hd=> ?_;clear O)
     have ZF:eB.lookup x=none:=by
      cases z:eB.lookup x with
      |none=>rfl
      |some c'=>have:=(λ{x c} m=>by rw[sD]at m;exact co.cons _ (Zw _ _ m):∀ {x c},(x,c)∈eB->scope.names.lookup x=S .cell) (mem_of_lookup z);rw[hl]at this;cases this
     refine⟨c,w,by show(eB++cl).lookup x=S c;rw[lookup_append,ZF,C3 x hm,wG];rfl,⟨o,k _ _ r,hd⟩,λval C4=> ?_⟩
     refine ah (hv val (C0 wC C4).1) λv e q=> ?_
     exact⟨v,e,q.mono K λ_ _ e=>e⟩
   . refine ao (J3 scope.names (Ca+1) hm) λc0 U=> ?_
     rw[<-sD]at U
     refine ao (J4 U) λc zw=> ?_
     refine⟨c,J,by show(eB++cl).lookup x=S c;rw[lookup_append,zw];rfl,(hc.empty x c (mem_of_lookup zw)).1,λval C4=> ?_⟩
     exfalso
     have Q:=(C0 wC C4).2 x
     rw[lookup_append]at hx
     rcases co.own _ hm (.inr rfl)with ⟨j',H⟩|z
     . rw[H]at hx;simp at hx;subst hx;exact Q H
     . cases q:ts.lookup x with
       |some j'=>rw[q]at hx;simp at hx;subst hx;exact Q q
       |none=>rw[q]at hx;simp only[ZE]at hx;dsimp only at z;rw[z]at hx;exact aD hx
 . rcases hk with hk|hk
   . exact .inl ⟨hk,.inl rfl⟩
   . refine .inr ⟨hk,λc e=> ?_⟩
     rw[zu ok.kind]at hk
     refine ah (zo hk) λa hl D=> ?_
     rcases D with ⟨e0,_,_⟩| ⟨e0,_⟩
     . subst e0
       have:=(co.free _ (mem_of_lookup hl) rfl).2.2
       dsimp only at this;rw[hx]at this;exact kO this
     . subst e0
       refine ao (J3 scope.names (Ca+1) (mem_of_lookup hl)) λc0 U=> ?_
       rw[<-sD]at U
       refine ao (J4 U) λc' zw=> ?_
       rcases I x c e with ⟨m,_⟩| ⟨m,_⟩
       . exact .inr ⟨x,m⟩
       . rw[zw]at m;exact kO m
end
noncomputable def sJ (f:V->Hp->Option (Option X×Hp)):List V->Hp->Option (List X×Hp)
 | [],σ=>S ([],σ)
 |a::r,σ=>(f a σ).bind λp=>(sJ f r p.2).map λq=>(p.1.toList++q.1,q.2)
theorem ZG (f):∀(xs:List V) (σ:Hp),mO f xs σ=sJ (λa σ=>(f a σ).map λp=>(S p.1,p.2)) xs σ:=by
 intro b
 induction b with
 |nil=>
  exact λ_=>rfl
 |cons a r c=>
  intro σ
  show(f a σ).bind _=((f a σ).map _).bind _
  cases f a σ with
  |none=>rfl
  |some p=>simp[c]
theorem ZH (c)(f):∀(xs:List V) (σ:Hp),qt c f xs σ=sJ (λa σ=>(c a σ).bind λb=>match b.1 with|true=>(f a b.2).map λp=>(S p.1,p.2)|false=>S (J,b.2)) xs σ:=by
 intro o
 induction o with
 |nil=>
  exact λ_=>rfl
 |cons a r k=>
  intro σ
  show(c a σ).bind _=((c a σ).bind _).bind _
  cases c a σ with
  |none=>rfl
  |some b=>
   obtain ⟨b,q⟩:=b
   cases b
   . simp[k]
   . simp only[Option.bind_some]
     cases f a _ with
     |none=>rfl
     |some p=>simp[k]
theorem ZI (e:bV t a ρ=S ρ')(b):bV t b ρ'=bV t b ρ:=by
 cases t with
 |one i=>cases e;exact congrArg S (lX ..)
 |two i j=>
  refine gY e λp _ O=> ?_;subst O
  refine congrArg (BZ b).map (funext λz=> ?_)
  by_cases q:i=j
  . subst q;rw[lX _,lX _,lX _,lX _];rfl
  . rw[ur _ _ q,lX _,ur _ _ q];exact Zrr (lX _) (ur _ _ (.symm q))
def zx (C:CX)(r:PySem.Env)(sl:SL)(F:aO->Prop)(D:aO)(step:Env->Hp->Option (Option X×Hp))(Body:(aT->Prop)->aT->Prop):Prop:=
 ∀(K:aT->Prop) (s:aT) (ρ:Env) (σ:Hp) (ι:Lay) (ys:List X) (o:Array Value) (n:Nat) (b:Option X) (c:Hp),
  aL C F ι σ s.heap->cx C s.heap (NN F ι σ) ι r sl ρ->s.heap.get? D=S (seqObj "list" o n)->bJ C s.heap (NN F ι σ) ι ys o.toList->ys.length+b.toList.length<aE->step ρ σ=S (b,c)->
  (∀a u k q x,cW C F (· =D) ι σ s.heap k c a->a.get? D=S (seqObj "list" q x)->bJ C a (NN F k c) k (ys++b.toList) q.toList->K (upd s a u))->Body K s
inductive CompI (C:CX)(F W:Addr->Prop)(ι:Lay)(σ af:Hp)(s:Shared)(bL:PySem.Env)(sl:SL)(P:(Addr->Prop)->List V->Heap->Prop)(B:V->Env->Option Env)(ρ:Env)(D:Addr)(go:List V->Hp->Option (List X×Hp))(zs:List X):Nat->Shared->Prop
 |mk {xs ys dw cJ jK h₃ tk vs m rest}:cW C F W ι σ s.heap dw cJ h₃->cx C h₃ (NN F dw cJ) dw bL sl jK->P (NN F dw cJ) xs h₃->(∀a,B a jK=B a ρ)->h₃.get? D=some (seqObj "list" vs m)->bJ C h₃ (NN F dw cJ) dw ys vs.toList->go xs cJ=some (rest,af)->ys++rest=zs->
  CompI C F W ι σ af s bL sl P B ρ D go zs xs.length (upd s h₃ tk)
theorem ZJ (hh:A.handled=J){t}{H}{k}{it}{ji U}{P}{D}{step}{Body}{Y}{Rn:aT->Prop}{En}
 (I:Iter C A H it ji P)(ok:cQ F k)(ds:iY sl)(ht:oy sl t H=ab)(g5:∀x p,.Name x p∈qR H->ij k U x)(y6:∀b,U b->F b)(zy:∀b,ji b->F b)(hD:F D)
 (d1:∀b,ji b->b≠D/\¬U b)(d2:¬U D)(d3:¬ji k.locals)(d4:∀x c,k.cells.lookup x=S c->¬ji c/\c≠D)(d5:k.locals≠D)
 (hb:zx C k sl F D step Body)(hz:Y.length<aE)(wd:∀b,ji b\/U b\/b=D->W b)(hW:∀b,W b->F b)
 (ZK:∀h₃ cU tk ag vs n,cW C F W ι σ s.heap ag af h₃->(∃m,h₃.Ns k.locals m)->(∀b o,h₃.get? b=S o->¬ji b->cU.get? b=S o)->h₃.get? D=S (seqObj "list" vs n)->bJ C h₃ (NN F ag af) ag Y vs.toList->Rn (upd s cU tk)):
 ∀n s',CompI C F W ι σ af s k sl P (bV t) ρ D (sJ λa σ=>(bV t a ρ).bind λρ'=>step ρ' σ) Y n s'->
  wpAny C.M A (pyNext it) (λr dU=>match r with
   |none=>Rn dU
   |some v=>wpAny C.M A (letOwnedTupleGo H it v) (λ_ m9=>wpAny C.M A (assign H k v) (λ_ jg=>Body (λpD=>∃m,m<n/\CompI C F W ι σ af s k sl P (bV t) ρ D (sJ λa σ=>(bV t a ρ).bind λρ'=>step ρ' σ) Y m pD) jg) En m9) En dU) En s':=by
 refine λn s' eA=>yL λQ2 E2 hq=> ?_
 obtain @⟨xs,ys,dw,cJ,jK,h₃,tk,vs,m,rest,st,fr,p,C5,hd,hx,e,zA⟩:=eA
 cases xs with
 |nil=>
  cases e
  rw[dg]at zA
  cases zA
  exact mW (I.stop (upd s h₃ tk) Rn _ p λcU tk' k3=>ZK h₃ cU tk' dw vs m st (let⟨m,hm,_⟩:=fr.ns;⟨m,hm⟩) k3 hd hx) (λr dU hr=>by revert hr;intro O;refine au O λax hr=> ?_;clear O;subst ax;exact hq _ _ hr) λ_ _ x=>x
 |cons y xs=>
  refine qj e λox zg h5 e=>kr h5 λCS zf h5=>ql e λJ9 aix h6 e=> ?_
  cases e
  refine mW (I.next (upd s h₃ tk) (λv jg=>wpAny C.M A (assign H k v) (λ_ jg=>Body _ jg) En jg) _ _ p (λb g=> .inl (zy b g)) (λb e=>r_ st.inv e) λv cU zh p4 k4 CT hv=> ?_)
   (λr dU hr=>by revert hr;intro O;refine ah O λv ax hr=> ?_;clear O;subst ax;exact hq _ _ hr) λ_ _ x=>x
  have L:=JV st.inv zy (λb g=>wd b (.inl g)) k4 CT
  have wz:=fr.mono (L.kept hW) (λ_ _ e=>e) (λo e=>k4 _ o e d3) λx c o hc e=>k4 _ o e (d4 x c hc).1
  have C6:=L.fm hW hx
  have m7:=st.trans L hW
  have zB:=k4 _ _ hd (λg=>(d1 _ g).1 rfl)
  clear fr p hd hx st k4
  refine JT hh ds y6 ok ht g5 L.inv wz hv ((C5 y).trans zf) λfS CU u um=> ?_
  clear wz hv
  refine hb _ (upd s fS CU) CS cJ dw ys vs m ox zg u.inv um (u.keep _ _ zB (λq=>(L.inv.fresh _ q).2 hD) d2) (u.fm y6 C6) (by
   have e:Y.length=ys.length+ (ox.toList.length+J9.length):=by rw[zA.symm,aY];exact congrArg _ (aY ..)
   exact Um hz e) h5 λqS CV J0 pC m' Q ZL ZM=> ?_
  have uo:=cW.trans ⟨u.inv,λb o e n w=>u.keep b o e n λz=>w (wd b (.inr (.inl z))),u.ext,u.new⟩ ⟨Q.inv,λb o e n w=>Q.keep b o e n λz=>w (wd b (.inr (.inr z))),Q.ext,Q.new⟩ hW
  refine⟨xs.length,iQ _,.mk (m7.trans uo hW) (um.YX ok u.inv Q (λb z=>z▸hD) (d5) (λx c hc z=>(d4 x c hc).2 z)) (I.y8 p4 (uo.kept hW) λb o g e=>Q.keep b o (u.keep b o e (λq=>(L.inv.fresh b q).2 (zy b g)) (d1 b g).2) (λq=>(u.inv.fresh b q).2 (zy b g)) (d1 b g).1) (λa=>(ZI ((C5 y).trans zf) a).trans (C5 a)) ZL ZM h6 ((bM ..).trans zA)⟩
variable {bL:PySem.Env}
def sL (C:CX)(A:Around)(env:PySem.Env)(sl:SL)(e:aI)(f:Env->Hp->Option (X×Hp)):Prop:=
 ∀(F:aO->Prop),cQ F env->∀(ρ:Env) (σ:Hp) (s:aT) (ι:Lay) x a,aL C F ι σ s.heap->cx C s.heap (NN F ι σ) ι env sl ρ->f ρ σ=S (x,a)->EV C A F ι σ s (eval e env) x a
theorem J' {a}{n}{x}{v}{K:aT->Prop}{En}(i:aL C F ι σ s.heap)(c:F D)(y:s.heap.get? D=S (seqObj "list" a n))(hx:bJ C s.heap (NN F ι σ) ι k a.toList)
 (H:XR C s.heap (NN F ι σ) ι x v)(hl:k.length<aE)
 (q:∀h' I o L,cW C F (· =D) ι σ s.heap ι σ h'->h'.get? D=S (seqObj "list" o L)->bJ C h' (NN F ι σ) ι (k++ [x]) o.toList->K (upd s h' I)):
 wpAny C.M A (call (.builtin "list.append") [.ref D,v]) (λ_ O=>K O) En s:=append_at (hsz:=by rw[gP.symm,hx.length.symm];exact fQ hl) y λh' sb r=>have st:cW C F (· =D) ι σ _ ι σ h':=y5 i c rfl sb ⟨_,r⟩;have u:∀b,b=D->F b:=λb z=>z▸c;q h' _ _ _ st r (Zrr zC ((st.fm u hx).append ⟨v,[],rfl,st.xr u H,rfl⟩))
theorem ZN {En k}(ok:cQ F bL)(c:F D)(he:sL C A bL sl o f):
 zx C bL sl F D (λρ σ=>(f ρ σ).map λp=>(S p.1,p.2)) λK s=>wpAny C.M A (eval o bL) (λx r=>wpAny C.M A (call (.builtin "list.append") [.ref D,x]) (λ_ u=>K u) k r) En s:=by
 refine λK s ρ σ ι ys vs n ox af i fr y hx hl e q=>ql e λx aC hf e=> ?_
 simp only[kY]at e
 refine au e λO H=> ?_;clear e;subst O;subst H
 exact he F ok ρ σ s ι x _ i fr hf _ _ λv aN bC bh a I=>J' a.inv c (a.keep _ _ y λq=>(i.fresh _ q).2 c) (a.fm hx) I (by simp at hl;exact gu ‹_›) λbF de pC L Q U Y=>q _ _ _ _ L ((a.w _).trans Q λb z=>z▸c) U Y
theorem ZO {f}{c}{En I L}(ok:cQ F bL)(k:F D)(he:sL C A bL sl Q f)(U:wy C A bL sl u c):
 zx C bL sl F D (λρ σ=>(c ρ σ).bind λb=>match b.1 with|true=>(f ρ b.2).map λp=>(S p.1,p.2)|false=>S (J,b.2))
  λK s=>wpAny C.M A (isTrue u bL (eval u bL)) (λok y=>if ok=ab then wpAny C.M A (eval Q bL) (λx Y=>wpAny C.M A (call (.builtin "list.append") [.ref D,x]) (λ_ pD=>K pD) L Y) I y else K y) En s:=by
 refine λK s ρ σ ι ys vs n ox af i fr hd hx hl e q=>qj e λb aC hb e=>U F ok ρ σ s ι b _ i fr hb _ _ λaN bC bh a=> ?_
 have H:=a.keep _ _ hd λq=>(i.fresh _ q).2 k
 cases b with
 |false=>
  simp only[jF,kY]at e
  refine au e λO r=> ?_;clear e;subst O;subst r
  exact q _ _ _ vs n (a.w _) H (by simpa using a.fm hx)
 |true=>
  refine ql e λx bk hf e=> ?_
  simp only[kY]at e
  refine au e λO r=> ?_;clear e;subst O;subst r
  exact he F ok ρ _ _ _ x _ a.inv (fr.step ok i a) hf _ _ λv bF de eK o hv=>J' o.inv k (o.keep _ _ H λq=>(a.inv.fresh _ q).2 k) (o.fm (a.fm hx)) hv (by simp at hl;exact gu ‹_›) λh₃ qB pC n' fP ZQ ZR=>q _ _ _ _ n' (((a.trans o).w _).trans fP λb z=>z▸k) ZQ ZR
structure sM (C:CX)(F:aO->Prop)(Ca:aO)(ι:Lay)(σ:Hp)(h:Heap)(ag:Lay)(af:Hp)(h':Heap):Prop where
 inv:aL C (λb=>F b\/b=Ca) ag af h'
 keep:∀b o,h.get? b=S o->¬own ι σ b->h'.get? b=S o
 ext:∀(n:Nat) p,ι[n]?=S p->ag[n]?=S p
 new:∀b o,h.get? b=S o->own ag af b->own ι σ b
 fresh:h.get? Ca=J
 ns:∃m,h'.Ns Ca m
theorem sM.fin (p:sM C F c ι σ h ag af h')(i:aL C F ι σ h){a}(sb:Heap.SameBut c h' a):Step C F ι σ h ag af a/\Kept h' a (NN (λb=>F b\/b=c) ag af) (NN F ag af):=by
 have k:∀b o,h'.get? b=S o->¬b=c->a.get? b=S o:=λb o e n=>(sb.2 b n).trans e
 refine au (we p.inv k λb f z=>by
  refine au (i.frames b f) λ_ r=>ao r λo q=> ?_;rw[z,p.fresh]at q;exact aD q) λu K=>⟨⟨u,λb o e n=>k b o (p.keep b o e n) λz=> ?_,p.ext,p.new⟩,K⟩
 rw[z,p.fresh]at e;exact aD e
theorem ZS {Ca D}{u}{vs}{n}{m}{x}{h₃ k}{ji:aO->Prop}(C9:aL C F ι σ aN)(k1:∀b o,aN.get? b=S o->fS.get? b=S o)(I:∀b,G b->aN.get? b=J)
 (st:cW C (λb=>F b\/G b) G ι σ fS ag af h₃)(L:∀b o,h₃.get? b=S o->¬ji b->k.get? b=S o)(gG:∀b,ji b->G b)(H:G D)(Q:G Ca)(gD:¬ji D)(Ka:¬ji Ca)(ne:D≠Ca)
 (hd:h₃.get? D=S (seqObj "list" vs n))(hx:bJ C h₃ (NN (λb=>F b\/G b) ag af) ag u vs.toList)(ns:∃m,h₃.Ns Ca m)(hm:kx m u af=S (x,gq)):
 ∃gL,sM C F Ca ι σ aN gL gq k/\XR C k (NN (λb=>F b\/b=Ca) gL gq) gL x (.ref D):=by
 have dj:∀b,F b->¬G b:=λb f g=>by
  refine au (C9.frames b f) λ_ aF=> ?_;refine ao aF λo ho=> ?_;clear aF
  rw[I b g]at ho;exact aD ho
 have U:=st.inv
 have ZT:aL C (λb=>(F b\/b=Ca)\/(G b/\b≠Ca)) ag af h₃:=by
  have e:(λb=>(F b\/b=Ca)\/(G b/\b≠Ca))=λb=>F b\/G b:=by
   funext b
   apply propext
   constructor
   . rintro ((a|rfl)|a)
     . exact .inl a
     . exact .inr Q
     . exact .inr a.1
   . rintro (a|a)
     . exact .inl (.inl a)
     . by_cases z:b=Ca
       . exact .inl (.inr z)
       . exact .inr ⟨a,z⟩
  rw[e];exact U
 have ZU:∀b o,h₃.get? b=S o->¬(G b/\b≠Ca)->k.get? b=S o:=λb o e n=>L b o e λg=>n ⟨gG b g,λz=>Ka (z▸g)⟩
 refine au (we ZT ZU λb f g=>by
  rcases f with f|rfl
  . exact dj b f g.1
  . exact g.2 rfl) λc uk=> ?_
 have Ne:NN (λb=>(F b\/b=Ca)\/(G b/\b≠Ca)) ag af=NN (λb=>F b\/G b) ag af:=by
  funext b
  apply propext
  refine or_congr ⟨?_,?_⟩ .rfl
  . rintro ((a|rfl)|a)
    . exact .inl a
    . exact .inr Q
    . exact .inr a.1
  . rintro (a|a)
    . exact .inl (.inl a)
    . by_cases z:b=Ca
      . exact .inl (.inr z)
      . exact .inr ⟨a,z⟩
 rw[Ne]at uk
 have nG:∀b o,aN.get? b=S o->¬G b:=λb o e g=>by rw[I b g]at e;exact aD e
 have keep:=λb o e n=>L b o (st.keep b o (k1 b o e) n (nG b o e)) λg=>nG b o e (gG b g)
 have new:=λb o e q=>st.new b o (k1 b o e) q
 have zB:=L D _ hd gD
 have C':=λq=>(U.fresh D q).2 (.inr H)
 have Kb:∃m,k.Ns Ca m:=by
  refine vx ns λm o es ep ho r=> ?_;clear ns
  exact⟨m,o,es,ep,L Ca _ ho Ka,r⟩
 have C6:=hx.mono uk λ_ _ e=>e
 unfold kx at hm
 split at hm
 . cases m
   . simp only[y3,if_false,qk,kY]at hm
     ((refine cD hm λus hu O ax=> ?_;clear hm);obtain rfl:=O;obtain rfl:=ax)
     refine⟨ag,⟨c,keep,st.ext,new,I _ Q,Kb⟩,?_⟩
     show VR C k _ (.lst us) _
     refine⟨D,n,vs,rfl,λq=> ?_,zB,bJ.kz hu C6⟩
     rcases q with (q|q)|q
     . exact dj D q H
     . exact ne q
     . exact C' q
   . simp only[if_true,jF,kY]at hm
     ((refine au hm λO ax=> ?_;clear hm);obtain rfl:=O;obtain rfl:=ax)
     have low:∀b,own (ag++ [(D,D)]) (af++ [.lst u]) b->own ag af b\/b=D:=λb q=>(sd c.len q).imp id λz=>z.elim id id
     have Kc:Kept h₃ k (NN (λb=>F b\/G b) ag af) (NN (λb=>F b\/b=Ca) (ag++ [(D,D)]) (af++ [.lst u])):=⟨uk.get,λb _ _ q=>by
      rcases q with (q|rfl)|q
      . exact .inl (.inl q)
      . exact .inl (.inr Q)
      . rcases low b q with q|rfl
        . exact .inr q
        . exact .inl (.inr H)⟩
     have ex:∀(n:Nat) q,ag[n]?=S q->(ag++ [(D,D)])[n]?=S q:=λn q e=>by
      rw[eR (dk.mp e).1];exact e
     have ej:∀(n:Nat) q d,(ag++ [(D,D)])[n]?=S q->(af++ [.lst u])[n]?=S d->(n<ag.length/\ag[n]?=S q/\af[n]?=S d)\/(n=ag.length/\q=(D,D)/\d= .lst u):=λn q d a b=>by
      by_cases hn:n<ag.length
      . rw[eR hn]at a
        rw[eR (c.len▸hn)]at b
        exact .inl ⟨hn,a,b⟩
      . have:n=ag.length:=by
         have:=(dk.mp a).1
         simp at this;lia
        subst this
        rw[c.len]at b
        simp at a b
        exact .inr ⟨rfl,a.symm,b.symm⟩
     have vP:∀(n:Nat) q d,ag[n]?=S q->af[n]?=S d->d.isDead=ae->q.1≠D/\q.2≠D:=λn q d a b e=>⟨λz=>C' ⟨n,q,d,a,b,e,.inl z.symm⟩,λz=>C' ⟨n,q,d,a,b,e,.inr z.symm⟩⟩
     have nF:¬(F D\/D=Ca):=λz=>z.elim (λf=>dj D f H) ne
     refine⟨ag++ [(D,D)],⟨⟨by simp[c.len],c.base,λn q d a b=> ?_,λn m q q' d d' a a' b b' e e' oh=> ?_,λb q=> ?_,c.frames⟩,keep,λn p e=>ex n p (st.ext n p e),λb o e q=> ?_,I _ Q,Kb⟩,?_⟩
     . rcases ej n q d a b with ⟨_,a,b⟩| ⟨_,rfl,rfl⟩
       . refine(U.cells n q d a b).mono Kc ex λy o hy hl e=>L y o e λg=>(U.fresh y ⟨n,q,d,a,b,hl,hy⟩).2 (.inr (gG y g))
       . exact⟨rfl,_,vs,zB,hx.mono Kc ex⟩
     . rcases ej n q d a b with ⟨_,x1,x2⟩| ⟨hn,hq,hd⟩
       . rcases ej m q' d' a' b' with ⟨_,y1,y2⟩| ⟨hm,vQ,er⟩
         . exact c.apart n m q q' d d' x1 y1 x2 y2 e e' oh
         . refine au (vP n q d x1 x2 e) λY z2=> ?_
           rw[vQ];exact⟨Y,Y,z2,z2⟩
       . rcases ej m q' d' a' b' with ⟨_,y1,y2⟩| ⟨hm,vQ,er⟩
         . refine au (vP m q' d' y1 y2 e') λY z2=> ?_
           rw[hq];exact⟨Y.symm,z2.symm,Y.symm,z2.symm⟩
         . exact absurd (hn.trans hm.symm) oh
     . rcases low b q with q|rfl
       . exact c.fresh b q
       . exact⟨(U.frames b (.inr H)).1,nF⟩
     . rcases low b q with q|rfl
       . exact new b o e q
       . rw[I b H]at e;exact aD e
     . exact t7 c.len
 . exact aD hm
def wJ (scope:Scope)(kd:Str->Option NameKind)(a:aI):Bool:=
 (qR a).all λe=>match vJ e with|some x=>fT scope kd x==S .local||fT scope kd x==S .cell|none=>ab
theorem Kd (h:pB sl es is):∀x p,.Name x p∈es->∃j,((es.filterMap vJ).zip is).lookup x=S j:=by
 induction h with
 |nil=>exact λ_ _ m=>nomatch m
 | @cons y q es i is _ _ a=>
  intro x p m
  show∃j,((y,i)::(es.filterMap _).zip is).lookup x=S j
  rw[k7]
  cases e:x==y with
  |true=>exact⟨i,rfl⟩
  |false=>
   rcases cy.mp m with m|m
   . cases m;rw[wA]at e;exact jc e
   exact a x p m
theorem ZV (b:oy sl t a=ab):∀x p,.Name x p∈qR a->∃j,(dP t a).lookup x=S j:=by
 cases JS b with
 |one h=>exact Kd (.cons h .nil)
 |two h=>exact Kd h
theorem Ke {c:Type}{x}{o:c}(a:x=J)(b:x=S o):False:=by rw[a]at b;exact aD b
theorem Kf (hh:A.handled=J){use:Option (Value->Sem Unit)}{Q:Value->aT->Prop}{E:Value->aT->Prop}{e cp H iter:aI}{ZW:List aI}{scope:Scope}{pos p:Pos}{t:jC}{xs:List V}{zs:List X}{m:Bool}{x:X}
 {step:Env->Hp->Option (Option X×Hp)}(Bd:PySem.Env->aO->(Value->aT->Prop)->(aT->Prop)->aT->Prop)(he:e= .ListComp cp [⟨H,iter,ZW,0⟩] scope p)
 (ZX:∀(u:PySem.Env) (it:Value) (D:aO) (R:Result->aT->Prop) (I:Nat->aT->Prop),(∀n s,I n s->wpAny C.M A (pyNext it) (λr dU=>match r with
  |none=>R (.ok .next) dU
  |some v=>wpAny C.M A (letOwnedTupleGo H it v) (λ_ m9=>wpAny C.M A (assign H u v) (λ_ jg=>Bd u D (notedBy C.M A u λe k=>R (.error e) k) (λpD=>∃m,m<n/\I m pD) jg) (notedBy C.M A u λe k=>R (.error e) k) m9) (notedBy C.M A u λe k=>R (.error e) k) dU)
  (notedBy C.M A u λe k=>R (.error e) k) s)->∀n s,I n s->codeAny C.M A (.compLoop e 0 it (.ref D) u) R s)
 (ZY:∀(u:PySem.Env) (F':aO->Prop) (D:aO) (En:Value->aT->Prop),cQ F' u->(∀x,u.kindOf x=fT scope env.kindOf x)->F' D->zx C u (dP t H++sl) F' D step (Bd u D En))
 (ok:cQ F env)(i:aL C F ι σ s.heap)(fr:cx C s.heap (NN F ι σ) ι env sl ρ)(co:uq scope env.kindOf sl (dP t H)=ab)(ds:iY (dP t H++sl))(ht:oy (dP t H++sl) t H=ab)(to:wJ scope env.kindOf H=ab)
 (hs:∀x,foldedSetIterable iter env x=pure x)(hi:ow C A H F ι σ s (eval iter env) xs aC)(lV:sJ (λa σ=>(bV t a ρ).bind λρ'=>step ρ' σ) xs aC=S (zs,af))(hm:kx m zs af=S (x,gq))
 (wK:∀(Ca D:aO) (Y cU:Heap) (tk:Nat) (bh gL:Lay),Step C F ι σ s.heap bh aC Y->sM C F Ca bh aC Y gL gq cU->XR C cU (NN (λb=>F b\/b=Ca) gL gq) gL x (.ref D)->compPost C.M A E use Q (.ref D) Ca (.ok .next) (upd s cU tk)):
 wpAny C.M A (comprehension e scope env pos (newList []) ae (eval iter env) use) Q E s:=by
 have zE:=ZC co
 have hz:=by
  unfold kx at hm
  split at hm
  . rename_i z;exact z
  . exact aD hm
 refine cD (Zy (λp hp hf=>by
  (refine dp (zE.free p hp hf) λO hk _=> ?_;refine ao O λj hj=> ?_;clear O)
  refine dh (fr.cl p.1 j hj hk) λc _ hc _=> ?_
  exact⟨c,hc⟩)) λcl ZZ m8 C3=> ?_
 subst he
 refine wpAny_comprehension_free rfl hs ZZ zE.kind (λy hy hl=>by have:=zE.cons y hy;rw[hl]at this;exact this) (hi _ _ λit Y bF de bh aB ia=> ?_)
 refine yz ia.it λji P I k1 kZ wq p0=> ?_
 refine yX ?_
 refine Zz λfS k5 wL wM=> ?_
 generalize wN:bF.objs.size=D at*
 generalize Z0:({cls:= .type "list",dict:=J,data:= .seq ([]:List Value).toArray}:Obj)=oD at*
 have hsz:(bF.push oD).objs.size=D+1:=by rw[CY _ _,wN];rfl
 dsimp only at k5 wL wM ⊢
 rw[hsz]at wL wM ⊢
 generalize sD:cellsFrom (D+1+1) scope.names []=U at*
 have wO:∀a,D<=a->Y.get? a=none:=λa ha=>by
  cases q:Y.get? a with
  |none=>rfl
  |some o=>have:=jf (k1 a o q);rw[wN]at this;exact absurd this (o_.mpr ha)
 let Wc:aO->Prop:=λb=>b=D+1\/∃n,(n,b)∈U
 let G:aO->Prop:=λb=>ji b\/Wc b\/b=D
 have uu:=λb g=>by refine ao (wq b g) λo L=> ?_;have:=jf L;rw[wN]at this;exact this
 have sO:∀b,Wc b-> @LE.le Nat _ (D+1) b:=by
  rintro b (rfl| ⟨n,hb⟩)
  . exact bb _
  . exact ba (qP _) (wM.empty n b hb).2
 have C_:=λb o e=>k5 b o (jE _ (k1 b o e))
 have Kg:∀b,G b->Y.get? b=none:=by
  rintro b (g|g|rfl)
  . exact kZ b g
  . exact wO b (ba (qP _) (sO b g))
  . exact wO _ (bb _)
 have Kh:fS.get? D=S (seqObj "list" #[] 0):=by
  refine k5 D _ ?_
  rw[wN.symm,Z0.symm];exact kU _ rfl
 have Z1:∀b,G b->∃o,fS.get? b=S o:=by
  rintro b (g| (rfl| ⟨n,g⟩)|rfl)
  . refine ao (wq b g) λo L=> ?_;exact⟨o,k5 b o (jE _ L)⟩
  . refine iP wL λo _ _ L _=> ?_;clear wL;exact⟨o,L⟩
  . refine ah ((wM.empty n b g).1) λo L _=> ?_;exact⟨o,L⟩
  . exact⟨_,Kh⟩
 refine au (ue aB.inv C_ Kg Z1) λZ2 Z3=> ?_
 have mZ:=fr.step ok i aB
 refine dp (ZD ok aB.inv mZ zE rfl m8 C3 sD.symm wM wL C_ (wO _ (qP _)) (λn c hc=>wO c (ba (qP _) (sO c (.inr ⟨n,hc⟩)))) (λb z=> .inr (.inl z)) Z3) λKi Z4 g5=> ?_
 have hk:∀x,(k8 scope (U++cl) (D+1) env).kindOf x=fT scope env.kindOf x:=zu ok.kind
 have kp:P (NN (λb=>F b\/G b) bh aC) xs fS:=by
  refine au (ue aB.inv k1 kZ wq) λ_ K2=> ?_
  refine I.y8 p0 ⟨λb o e _=>k5 b o (jE _ e),λb o e q=> ?_⟩ λb o _ e=>k5 b o (jE _ e)
  have hb:=by have:=jf e;rw[wN]at this;exact this
  rcases q with (q|q|q|q)|q
  . exact .inl (.inl q)
  . exact .inl (.inr q)
  . exact absurd (sO b q) (Tt hb)
  . exact absurd q (dx hb)
  . exact .inr q
 have Z5:∀x c,(U++cl).lookup x=S c->Wc c\/∃o,Y.get? c=S o:=λx c e=>by
  rw[lookup_append]at e
  cases z:U.lookup x with
  |some c'=>rw[z]at e;simp at e;subst e;exact .inl (.inr ⟨x,mem_of_lookup z⟩)
  |none=>rw[z]at e;simp at e;exact .inr (aB.inv.frames c (ok.mP x c (m8 x c e))).2
 have T:=λn k=>ZJ (s:=(upd s fS de)) (ρ:=ρ) hh
  (Body:=Bd (k8 scope (U++cl) (D+1) env) D (notedBy C.M A (k8 scope (U++cl) (D+1) env) λe k=>compPost C.M A E use Q (.ref D) (D+1) (.error e) k))
  (En:=notedBy C.M A (k8 scope (U++cl) (D+1) env) λe k=>compPost C.M A E use Q (.ref D) (D+1) (.error e) k) I Ki ds ht
  (λx p hm=>by
   refine ao (ZV ht x p hm) λj hj=> ?_
   refine g5 x j hj ?_
   rw[hk _]
   unfold wJ at to
   have:=cF.mp to _ hm
   exact(Kj.mp this).imp eq_of_beq eq_of_beq)
  (λb z=> .inr (.inr (.inl z))) (λb z=> .inr (.inl z)) (.inr (.inr (.inr rfl)))
  (λb g=>⟨dx (uu b g),λw=>by have:=uu b g;have:=sO b w;exact HY ‹_› this⟩) (λw=>by have:=sO D w;exact Tu this) (λg=>by have:=uu _ g;have e:(k8 scope (U++cl) (D+1) env).locals=D+1:=rfl;rw[e]at this;exact Tv this e)
  (λx c hc=>by
   rcases Z5 x c hc with w| ⟨o,L⟩
   . exact⟨λg=>by have:=uu c g;have:=sO c w;exact HY ‹_› this,λz=>fO (sO c w) z⟩
   . exact⟨λg=>Ke (kZ c g) L,λz=>Ke (wO c (by rw[z];exact bb _)) L⟩)
  (by show D+1≠D;exact Tw)
  (ZY _ (λb=>F b\/G b) D _ Ki hk (.inr (.inr (.inr rfl)))) hz (λb z=>z) (λb z=> .inr z)
  (λh₃ cU tk ag vs n st Z6 k3 hd hx=>by
   have ne:D≠D+1:=Tx
   refine ah (ZS (G:=G) (ji:=ji) (Ca:=D+1) aB.inv C_ Kg st k3 (λb g=> .inl g) (.inr (.inr rfl)) (.inr (.inl (.inl rfl))) (λg=>vN _ (uu D g)) (λg=>by have:=uu _ g;exact Tz this) ne hd hx Z6 hm) λgL pd Z7=> ?_
   exact wK (D+1) D Y cU tk bh gL aB pd Z7) n k
 have start:=ZX (k8 scope (U++cl) (D+1) env) it D (λr k=>compPost C.M A E use Q (.ref D) (D+1) r k) _ T xs.length (upd s fS de)
  (.mk (ys:= []) (.refl Z2 _) Z4 kp (λa=>ZA a ρ) Kh rfl lV rfl)
 exact codeAny_compStart_list start (I.self (upd s fS de) (λZ8 k=>codeAny C.M A (.compLoop _ 0 Z8 (.ref D) _) _ k) _ kp start)
variable {dw:Lay} {cJ:Hp}
theorem sM.fin2 {u a c}(p:sM C F r ι σ h ag af u)(i:aL C F ι σ h)(hW:∀b,W b->F b)(st:cW C (λb=>F b\/b=r) W ag af u dw cJ a)(sb:Heap.SameBut r a c):
 cW C F W ι σ h dw cJ c/\Kept a c (NN (λb=>F b\/b=r) dw cJ) (NN F dw cJ):=have k:∀b o,a.get? b=S o->¬b=r->c.get? b=S o:=λb o e n=>(sb.2 b n).trans e;au (we st.inv k λb f z=>by
 refine au (i.frames b f) λ_ y=>ao y λo x=> ?_;rw[z,p.fresh]at x;exact aD x) λD K=>⟨⟨D,λb o e n w=>k b o (st.keep b o (p.keep b o e n) (λq=>n (p.new b o e q)) w) ((λb o e z=>by rw[z,p.fresh]at e;exact aD e) b o e),λn q e=>st.ext n q (p.ext n q e),λb o e q=>by
 by_cases n:own ι σ b
 . exact n
 exact p.new b o e (st.new b o (p.keep b o e n) q)⟩,K⟩
def sP (C:CX)(A:Around)(F:aO->Prop)(env:PySem.Env)(ι:Lay)(σ:Hp)(s:aT)(e:aI)(x:X)(o:Hp):Prop:=
 ∃(scope:Scope) (gens:List Comprehension) (y:aI) (pos:Pos),e= .ListComp y gens scope pos/\firstAsync gens=ae/\∀(use:Option (Value->Sem Unit)) (Q:Value->aT->Prop) (E:Value->aT->Prop),
  (∀(a D:aO) (q c:Heap) (H:Nat) (r k:Lay) (u:Hp),Step C F ι σ s.heap r u q->sM C F a r u q k o c->XR C c (NN (λb=>F b\/b=a) k o) k x (.ref D)->compPost C.M A E use Q (.ref D) a (.ok .next) (upd s c H))->
  wpAny C.M A (comprehension e scope env (firstIterPos gens pos) (newList []) ae (firstIter gens env) use) Q E s
theorem Z9 (u:A.handled=J){q k iter}{scope}{p}{t}{xs}{r}{m}{x}{f}
 (y:∀bL,(∀x,bL.kindOf x=fT scope env.kindOf x)->sL C A bL (dP t k++sl) q f)
 (ok:cQ F env)(i:aL C F ι σ s.heap)(fr:cx C s.heap (NN F ι σ) ι env sl ρ)(co:uq scope env.kindOf sl (dP t k)=ab)(ds:iY (dP t k++sl))(H:oy (dP t k++sl) t k=ab)(L:wJ scope env.kindOf k=ab)
 (O:∀x,foldedSetIterable iter env x=pure x)(U:ow C A k F ι σ s (eval iter env) xs aC)(o:mO (λa af=>(bV t a ρ).bind λρ'=>f ρ' af) xs aC=S (r,af))(hm:kx m r af=S (x,gq)):
 sP C A F env ι σ s (.ListComp q [⟨k,iter,[],0⟩] scope p) x gq:=by
 refine⟨_,_,_,p,rfl,rfl,λuse Q E Y=> ?_⟩
 rw[ZG]at o
 rw[(by
  funext a σ;rw[Option.map_bind];rfl:(λa σ=>((bV t a ρ).bind (f · σ)).map λp=>(S _,p.2))=λa σ=>(bV t a ρ).bind λρ'=>(f _ σ).map λp=>(S _,p.2))]at o
 exact Kf u (λbL D En K s=>wpAny C.M A _ (λx wH=>wpAny C.M A _ _ En _) En s) rfl
  (λbL it D R I turn n s hI=>kcp_loop I turn n hI) (λbL F' D En Dc hk hD=>ZN Dc hD (y _ hk)) ok i fr co ds H L O U o hm
  λCa D aN cU tk bh gL a b c=>Y Ca D _ _ tk _ _ _ a b c
theorem Z' (y:A.handled=J){o k iter q}{scope}{p}{t}{xs}{r}{m}{x}{f}{c}
 (H:∀bL,(∀x,bL.kindOf x=fT scope env.kindOf x)->sL C A bL (dP t k++sl) o f)(L:∀bL,(∀x,bL.kindOf x=fT scope env.kindOf x)->wy C A bL (dP t k++sl) q c)
 (ok:cQ F env)(i:aL C F ι σ s.heap)(fr:cx C s.heap (NN F ι σ) ι env sl ρ)(co:uq scope env.kindOf sl (dP t k)=ab)(ds:iY (dP t k++sl))(O:oy (dP t k++sl) t k=ab)(U:wJ scope env.kindOf k=ab)
 (Y:∀x,foldedSetIterable iter env x=pure x)(hi:ow C A k F ι σ s (eval iter env) xs aC)
 (u:qt (λa af=>(bV t a ρ).bind (c · af)) (λa af=>(bV t a ρ).bind (f · af)) xs aC=S (r,af))(hm:kx m r af=S (x,gq)):
 sP C A F env ι σ s (.ListComp o [⟨k,iter,[q],0⟩] scope p) x gq:=by
 refine⟨_,_,_,p,rfl,rfl,λuse Q E wK=> ?_⟩
 rw[ZH]at u
 exact Kf y (λbL D En K s=>wpAny _ A _ (λok yV=>if ok=ab then wpAny C.M A _ (λx wH=>wpAny _ A _ _ En _) En _ else K _) En s) rfl
  (λbL it D R I turn n s hI=>kct_loop I turn n hI) (λbL F' D En Dc hk hD=>ZO Dc hD (H _ hk) (L _ hk)) ok i fr co ds O U Y hi (by
  refine(congrArg ((sJ · xs _)) ?_).trans u
  funext a σ
  cases bV t a ρ with
  |none=>rfl
  |some ρ'=>rfl) hm
  (λCa D aN cU tk bh gL a b c=>wK Ca D _ _ tk _ _ _ a b c)
theorem Z_ {scope}{Q}{E}(ha:firstAsync gens=ae)(h:wpAny C.M A (comprehension (.ListComp a gens scope pos) scope env (firstIterPos gens pos) (newList []) ae (firstIter gens env) J) Q E s):wpAny C.M A (eval (.ListComp a gens scope pos) env) Q E s:=by
 rw[eval_ListComp _ _ _ _];exact Zrr ha h
theorem aaa {E}{acc}{a}{s}(h:∃m,s.heap.Ns a m/\∀h',Heap.SameBut a s.heap h'->Q acc (upd s h' s.toks)):compPost C.M A E J Q acc a (.ok .next) s:=h
theorem Kk (a:sP C A F env ι σ s e x gq):EV C A F ι σ s (eval e env) x gq:=by
 revert a;intro O;refine qm O λscope gens o pos c ha a=> ?_;clear O;subst c
 exact λQ E q=>Z_ ha (a _ Q E λr D u y k H I L st b hx=>aaa (ao b.ns λm hm=>⟨m,hm,λU sb=>have z:=b.fin st.inv sb;q _ _ k _ (st.trans z.1) (hx.mono z.2 λ_ _ e=>e)⟩))
theorem aab {scope}{y}{Q}{E}(ha:firstAsync gens=ae)
 (b:swapsWith (.ListComp a gens scope pos) (S (.Name y py)) c.line env=pure ab)
 (h:wpAny C.M A (comprehension (.ListComp a gens scope pos) scope env (firstIterPos gens pos) (newList []) ae (firstIter gens env) (S (assign (.Name y py) env))) (λ_=>Q .next) E s):
 wpAny C.M A (exec (.Assign [.Name y py] (.ListComp a gens scope pos) c) env) Q E s:=by
 rw[exec_Assign_Name_used _ _ _ _ b];rewrite[arm_evalThenUse_ListComp];exact Zrr ha (aG (qM (aG (aG (mW h (λ_ _ z=>bA (bA z)) λ_ _ z=>z)))))
theorem aac {E}{acc}{b}{s}(h:wpAny C.M A (u acc) (λ_ a=>∃m,a.heap.Ns b m/\∀h',Heap.SameBut b a.heap h'->Q .none (upd a h' a.toks)) E s):
 compPost C.M A E (S u) Q acc b (.ok .next) s:=h
theorem aad {j}(u:sP C A F env ι σ s e x gq)(ok:cQ F env)(i:aL C F ι σ s.heap)(fr:cx C s.heap (NN F ι σ) ι env sl ρ)(ds:iY sl)
 (hy:sl.lookup y=S j)(so:ij env W y)(hW:∀b,W b->F b)(oB:swapsWith e (S (.Name y py)) Dd.line env=pure ab):
 SV C A F W env sl ι σ s (exec (.Assign [.Name y py] e Dd) env) .next (ρ.set j (S x)) gq:=by
 revert u;intro O;refine qm O λscope gens cp pos ax ha u=> ?_;clear O;subst ax
 refine λQ E q=>aab ha oB (u _ _ _ λH D aN cU tk bh eK aC st a hx=>aac ?_)
 have U:=λb f q=>(st.inv.fresh b q).2 f
 have Y:∀b,F b->b≠H:=λb f z=>by
  refine au (st.inv.frames b f) λ_ I=>ao I λo k=> ?_;rw[z,a.fresh]at k;exact aD k
 exact vx a.ns λm o es ep k r=>aG (qM (wg ok.more a.inv ((fr.step ok i st).mono ⟨λb o e n=>a.keep b o e λq=>n (.inr q),λb o e q=>by
  rcases q with (q|rfl)|q
  . exact .inl q
  . rw[a.fresh]at e;exact aD e
  exact .inr (a.new b o e q)⟩ a.ext (λo e=>a.keep _ o e (U _ ok.loc)) λx c o L e=>a.keep _ o e (U _ (ok.mP x c L))) ds hy so hx (λb w=> .inl (hW b w)) λfS CU jh um=>⟨m,⟨o,es,ep,jh.keep _ _ k (λq=>(a.inv.fresh _ q).2 (.inr rfl)) λw=>by
  refine au (st.inv.frames H (hW H w)) λ_ I=>ao I λo k=> ?_;rw[a.fresh]at k;exact aD k,r⟩,λqS sb=>have z:=a.fin2 st.inv hW jh sb;q _ _ _ _ ((st.w W).trans z.1 hW) (um.mono z.2 (λ_ _ e=>e) (λo e=>(sb.2 _ (Y _ ok.loc)).trans e) λx c o L e=>(sb.2 _ (Y _ (ok.mP x c L))).trans e) rfl⟩))
noncomputable def wQ (e:aI):Bool:=8<=e.ctorIdx&&e.ctorIdx<=10
theorem Kl (h:wQ a=ae):swapsWith a b line env=pure false:=by
 cases a<;>first|rfl|exact jc h
theorem aae (env)(v o)(f)(p)(l):swapsWith v (S (.Attribute o f p)) l env=pure false:=by cases v<;>rfl
theorem aaf (env)(v o k)(p)(l):swapsWith v (S (.Subscript o k p)) l env=pure false:=by cases v<;>rfl
theorem De (env)(v)(es)(k)(p)(l):swapsWith v (S (.Tuple es k p)) l env=pure false:=by cases v<;>rfl
noncomputable def Km (kd:Str->Option NameKind)(scope:Scope)(pos:Pos)(y:Str)(py:Pos):Bool:=
 kd y==S .local&&py.line==pos.line&& !(scope.names.any λ(n,k)=>n==y&& (k== .local||k== .cell))
theorem aag {y}{line}(hb:env.scope.kind= .function):
 swapsWith (.ListComp cp gens scope pos) (S (.Name y py)) line env=pure (Km env.kindOf scope pos y py):=by
 show pure _=pure _
 have:(env.blockKind== .function)=true:=by unfold Env.blockKind;rw[hb];rfl
 rw[this];rfl
theorem Kn {j}{x}(he:EV C A F ι σ s (eval c env) x aC)(ok:cQ F env)(i:aL C F ι σ s.heap)(fr:cx C s.heap (NN F ι σ) ι env sl ρ)(ds:iY sl)
 (k:sl.lookup y=S j)(so:ij env W y)(hW:∀b,W b->F b)(o:swapsWith c (S (.Name y py)) pos.line env=pure ae):
 SV C A F W env sl ι σ s (exec (.Assign [.Name y py] c pos) env) .next (ρ.set j (S x)) aC:=λQ E q=>yqK (he _ _ λv D H I a hx=>aG (qM (wg ok a.inv (fr.step ok i a) ds k so hx hW λL O r u=>q _ _ _ _ ((a.w W).trans r hW) u rfl))) o rfl
theorem aah {o x}{f}{c e}{pos p}(k:EV C A F ι σ s (eval c env) x aC)(he:∀h' r ag,Step C F ι σ s.heap ag aC h'->EV C A F ag aC (upd s h' r) (eval e env) o bk)(ha:r8 bk o f x=S cJ)
 (ok:cQ F env)(i:aL C F ι σ s.heap)(fr:cx C s.heap (NN F ι σ) ι env sl ρ)(u:∀b,W b->F b):SV C A F W env sl ι σ s (exec (.Assign [.Attribute e (C.fld f) p] c pos) env) .next ρ cJ:=λQ E q=>yqK (k _ _ λv D H I a hx=>X1 a.inv hx (he _ _ _ a) ha λL O U y=>have st:=a.trans y;q _ _ _ _ (st.w W) (fr.step ok i st) rfl) (aae env _ e (C.fld f) p pos.line) rfl
theorem Ko (ws)(f)(e:f a=ws)(m):∃b,.mapSeq f (seqObj "list" a m)=seqObj "list" ws b:=by
 subst e
 exact⟨_,rfl⟩
theorem bJ.set {w:Value}(hx:XR C h N ι x w):∀ {j:Nat} {xs:List X} {vs:List _},bJ C h N ι xs vs->bJ C h N ι (xs.set j x) (vs.set j w):=by
 intro j c
 induction c generalizing j with
 |nil=>exact λe=>by cases e;rfl
 |cons y xs k=>
  intro vs r
  revert r;intro O;refine bp O λv r o a b=> ?_;clear O;subst o
  cases j with
  |zero=>exact⟨w,r,rfl,hx,b⟩
  |succ j=>exact⟨v,_,rfl,a,k b⟩
theorem aai (i:aL C F ι σ s.heap){o x}{k}{v u w}{Q}{E}(ho:XR C s.heap (NN F ι σ) ι o v)(hk:VR C s.heap (NN F ι σ) k u)(hx:XR C s.heap (NN F ι σ) ι x w)
 (e:mM σ o k x=S af)(hr:A.units+64<cLine)(q:∀h' y,Step C F ι σ s.heap ι af h'->Q () (upd s h' y)):wpAny C.M A (setItem v u w) Q E s:=by
 cases o with
 |v a=>exact aD e
 |ref n=>
  refine ah ho λp c O=> ?_;clear ho;subst O
  refine ah (oj e) λcc r e=> ?_
  cases cc with
  |lst xs=>cases k with
   |int j=>
    refine au (kX e) λhj O=> ?_;subst O
    refine au (i.cells n p _ c r) λD H=>dh H λm vs I cR=> ?_;refine ao hk λt O=> ?_;clear hk;subst O
    have hz:xs.length=vs.size:=by rw[cR.length];rfl
    exact ao (Ko (vs.setIfInBounds j.toNat w) (λxs=>xs.setIfInBounds j.toNat w) rfl m) λL Df=>ki_setAt I hj.1 (by have:=hj.2.2;unfold aE at this;lia) (by lia) (q _ s.toks (have K:=⟨λb o e L=>update_other _ _ _ (λz=>L (.inr (by exact Zrr z ⟨n,p,_,c,r,rfl,.inl rfl⟩))) e,λ_ _ _ q=>q⟩;yU i c r rfl rfl (λb o e U _=>update_other _ _ _ U e) ⟨D,L,_,(by refine Zrr (Cw _ I (rfl)) ?_;rw[Df];rfl),Zrr Kp ((cR.mono K λ_ _ e=>e).set (hx.mono K λ_ _ e=>e))⟩))
   |_=>exact aD e
  |aU t ak=>
   refine au (kX e) λua O=> ?_;subst O
   refine dp (i.cells n p _ c r) λD low H=>bp H λm es I zH nd=> ?_;refine XB (si i c r) ua.1 hk hx hr ua.2 (.inr ⟨n,p,_,c,r,rfl,.inl rfl⟩) λh' y sb D'=>q h' y ?_
   obtain ⟨Y,m',eh,aak,aal,sQ⟩:=D'
   exact yU i c r rfl rfl (λb o eo U _=>(sb.2 b U).trans eo) ⟨D,Y,m',eh,aak,aal,sQ⟩
  |_=>exact aD e
theorem aam {o x}{k}{r e f}{pos p}{y}(hr:A.units+64<cLine)(L:EV C A F ι σ s (eval r env) x aC)(he:∀h' b ag,Step C F ι σ s.heap ag aC h'->EV C A F ag aC (upd s h' b) (eval e env) o bk)
 (hf:∀h' b ag,Step C F ι σ s.heap ag bk h'->EV C A F ag bk (upd s h' b) (eval f env) (.v k) cJ)(ha:mM cJ o k x=S y)
 (ok:cQ F env)(i:aL C F ι σ s.heap)(fr:cx C s.heap (NN F ι σ) ι env sl ρ):SV C A F W env sl ι σ s (exec (.Assign [.Subscript e f p] r pos) env) .next ρ y:=λQ E q=>wpAny_Assign_Subscript (L _ _ λv U Y bh D hx=>he _ _ _ D _ _ λu bF de eK H O=>have I:=D.trans H;hf _ _ _ I _ _ λw h₃ qB dw a hk=>aai a.inv (a.xr O) hk (a.xr (H.xr hx)) ha hr λcU zh c=>have st:=(I.trans a).trans c;q _ _ _ _ (st.w W) (fr.step ok i st) rfl) (aaf _ _ e f p _)
theorem aao (H:A.handled=J){c}{k}{o pos}{r}{is}{xs}(he:EV C A F ι σ s (eval r env) (.v (.tup xs)) aC)(ok:cQ F env)(i:aL C F ι σ s.heap)(fr:cx C s.heap (NN F ι σ) ι env sl ρ)(ds:iY sl)
 (hn:sG sl c is=ab)(so:∀x p,.Name x p∈c->ij env W x)(hW:∀b,W b->F b)(hb:gZ is (xs.map .v) ρ=S ρ')(hl:xs.length=is.length)(hw:swappedStores [.Tuple c k o] r env=pure J):
 SV C A F W env sl ι σ s (exec (.Assign [.Tuple c k o] r pos) env) .next ρ' aC:=by
 refine λQ E q=>Assign_Tuple (he _ _ λv aN bC bh y hx=> ?_) (De env _ c k o pos.line) hw
 refine bU hx λa m I O _ L D=> ?_;clear hx;subst O
 exact dp (zc (env:=env) (qQ hn)) λn1 U n3=>JU H ⟨_,L,rfl,m,rfl⟩ (by rw[n1,(by rw[hl.symm];rw[D.length];rfl:I.size=is.length)];rfl) U λbF ex=>have u:=iy y.inv (zd ex);have st:=y.trans u;CM ds hW ok (qQ hn) so u.inv (fr.step ok i st) ((u.kz D).fm) hb λh₃ qB Y k6=>q _ _ _ _ ((st.w W).trans Y hW) k6 rfl
theorem aap {x}(ok:cQ F env)(i:aL C F ι σ s.heap)(fr:cx C s.heap (NN F ι σ) ι env sl ρ)(he:EV C A F ι σ s (eval e env) x aC)(b:wQ e=ae):
 SV C A F W env sl ι σ s (exec (.Expr e pos) env) .next ρ aC:=by
 refine λQ E q=>wpAny_Expr_any (he _ _ λv c k o a hx=>q _ _ _ _ (a.w W) (fr.step ok i a) rfl) ?_ (Kl b)
 unfold interactive
 rw[ok.kind];rfl
theorem zI (q:own ι (σ.set n .dead) b):own ι σ b/\∃m p c,m≠n/\ι[m]?=S p/\σ[m]?=S c/\c.isDead=ae/\(b=p.1\/b=p.2):=by
 refine bU q λm p c o a k hb=> ?_;clear q
 by_cases e:m=n
 . subst e
   by_cases l:m<σ.length
   . rw[om l]at a;cases a;exact jc k
   . rw[eX (by simp;exact fB l)]at a;exact aD a
 . rw[dG (.symm e)]at a
   exact⟨⟨m,p,c,o,a,k,hb⟩,m,p,c,e,o,a,k,hb⟩
theorem aaq (i:aL C F ι σ h)(n):Step C F ι σ h ι (σ.set n .dead) h:=by
 have c:∀(m:Nat) d,(σ.set n .dead)[m]?=S d->d.isDead=ae->σ[m]?=S d:=λm d a b=>by
  by_cases e:m=n
  . subst e
    by_cases l:m<σ.length
    . rw[om l]at a;cases a;exact jc b
    . rw[eX (by simp;exact fB l)]at a;exact aD a
  . rw[dG (.symm e)]at a;exact a
 refine⟨⟨by simp[i.len],i.base,λm q d a b=> ?_,λm k q y d r a D b H e u ne=>i.apart m k q y d r a D (c m d b e) (c k r H u) e u ne,λb q=>i.fresh b (zI q).1,i.frames⟩,λ_ _ e _=>e,λ_ _ e=>e,λb _ _ q=>(zI q).1⟩
 cases x:d.isDead with
 |true=>cases d<;>first|exact trivial|exact bT x
 |false=>exact(i.cells m q d a (c m d b x)).mono ⟨λb o e _=>e,λb o e q=>q.imp id λz=>(zI z).1⟩ (λ_ _ e=>e) λ_ _ _ _ e=>e
def zJ (C:CX)(F:aO->Prop)(ι:Lay)(h:Heap)(k:Nat):Prop:=∀ {σ a:Hp} {x:X} {v:V} {u:Value},fz k σ x=S (v,a)->aL C F ι σ h->XR C h (NN F ι σ) ι x u->Step C F ι σ h ι a h/\VR C h (NN F ι a) v u
theorem Dg {σ b}{x}{xs:List q}{c:List r}(e:jD f σ (x::xs)=S (c,b)):∃y aC a,f σ x=S (y,aC)/\jD f aC xs=S (a,b)/\c=y::a:=by
 refine qj e λy aC k e=>ql e λa u o e=> ?_
 cases e
 exact⟨y,_,_,k,o,rfl⟩
theorem Kr {b:Type}{a}{o}{y:b×V}{σ:Hp}(e:(o.map λq=>((a,q.1),q.2))=S (y,σ)):∃v,o=S (v,σ)/\y=(a,v):=by
 refine ql e λv c h e=> ?_
 cases e
 exact⟨v,h,rfl⟩
theorem aar (K:zJ C F ι h k){xs}:∀ {o:List _} {σ c:Hp} {q:List V},jD (fz k) σ xs=S (q,c)->aL C F ι σ h->bJ C h (NN F ι σ) ι xs o->Step C F ι σ h ι c h/\bI C h (NN F ι c) q o:=by
 induction xs with
 |nil=>
  intro o σ c q e i r
  cases e
  cases r
  exact⟨.refl i,rfl⟩
 |cons x xs D=>
  intro o σ c q e i r
  revert r;intro O;refine bp O λw r H a b=> ?_;clear O;subst H
  refine yA (Dg e) λy Y uv I L O=> ?_;subst O
  exact au (K I i a) λs1 Q=>au (D L s1.inv (s1.fm b)) λu U=>⟨s1.trans u,w,r,rfl,u.vr Q,U⟩
theorem aas (K:zJ C F ι h k){xs}:∀ {D:List _} {σ o:Hp} {u:List _},jD (λσ p=>(fz k σ p.2).map λq=>((p.1,q.1),q.2)) σ xs=S (u,o)->aL C F ι σ h->fY C h (NN F ι σ) ι t xs D->Step C F ι σ h ι o h/\iV C h (NN F ι o) t u D/\u.map (·.1)=xs.map (·.1):=by
 induction xs with
 |nil=>
  intro D σ o u e i r
  cases e
  cases r
  exact⟨.refl i,rfl,rfl⟩
 |cons x xs I=>
  intro D σ o u e i r
  revert r;intro O;refine kP O λw r L a b c d f=> ?_;clear O;subst L
  refine yA (Dg e) λy aC uv Q U O=> ?_;subst O
  refine ah (Kr Q) λz Y O=> ?_;subst O
  exact au (K Y i d) λs1 v1=>dp (I U s1.inv (f.mono s1.kept s1.ext)) λH v2 v3=>⟨s1.trans H,⟨w,r,rfl,a,b,H.vr (s1.vr c),H.vr v1,v2⟩,congrArg _ v3⟩
theorem aat (K:zJ C F ι h k){xs}:∀ {o:List _} {σ b:Hp} {c:List _},jD (λσ p=>(fz k σ p.2).map λq=>((p.1,q.1),q.2)) σ xs=S (c,b)->aL C F ι σ h->g4 C h (NN F ι σ) ι xs o->Step C F ι σ h ι b h/\og C h (NN F ι b) c o/\c.map (·.1)=xs.map (·.1):=by
 induction xs with
 |nil=>
  intro o σ b c e i r
  cases e
  cases r
  exact⟨.refl i,rfl,rfl⟩
 |cons x xs D=>
  intro o σ b c e i r
  revert r;intro O;refine bU O λw r H I a d f=> ?_;clear O;subst I
  refine yA (Dg e) λy aC uv L Q O=> ?_;subst O
  refine ah (Kr L) λz U O=> ?_;subst O
  exact au (K U i d) λs1 Y=>dp (D Q s1.inv (f.mono s1.kept s1.ext)) λu v2 v3=>⟨s1.trans u,⟨w,r,H,rfl,a,u.vr Y,v2⟩,congrArg _ v3⟩
theorem Dh (k):zJ C F ι h k:=by
 induction k with
 |zero=>
  intro σ L x v u e i r
  cases x with
  |v a=>cases e;exact⟨.refl i,r⟩
  |ref n=>exact aD e
 |succ k K=>
 intro σ L x v u e i r
 cases x with
 |v a=>cases e;exact⟨.refl i,r⟩
 |ref n=>
  refine ah r λp Q O=> ?_;clear r;subst O
  have y:=aaq i n
  have Y:∀ {c:Cell} {L:Hp} {b:aO},σ[n]?=S c->c.isDead=ae->Step C F ι (σ.set n .dead) h ι L h->b=p.1\/b=p.2->(∃o,h.get? b=S o)->¬NN F ι L b:=by
   intro c L b D hd st hb ⟨o,H⟩ q
   rcases q with f|q
   . exact(i.fresh b ⟨n,p,c,Q,D,hd,hb⟩).2 f
   . refine au (zI (st.new b o H q)) λ_ I=>HB I λm q2 d ne h1 h2 h3 h4=> ?_;clear I
     refine mB (i.apart m n q2 p d c h1 Q h2 D h3 hd ne) λa1 a2 a3 a4=> ?_
     rcases hb with rfl|rfl<;>rcases h4 with z|z<;>first|exact a1 z.symm|exact a2 z.symm|exact a3 z.symm|exact a4 z.symm
  refine kr e λcc D e=> ?_
  cases cc with
  |lst xs=>
   refine ql e λys bk hm e=> ?_
   cases e
   exact au (i.cells n p _ Q D) λe0 I=>dh I λm vs H cR=>au (aar K hm y.inv (y.fm cR)) λs1 U=>⟨y.trans s1,_,m,vs,rfl,Y D rfl s1 (.inl rfl) ⟨_,H⟩,H,U⟩
  |aU t ak=>
   refine ql e λys bk hm e=> ?_
   cases e
   exact dp (i.cells n p _ Q D) λe0 low I=>bp I λm es H zH nd=>dp (aas K hm y.inv (zH.mono y.kept y.ext)) λs1 U v2=>⟨y.trans s1,_,m,es,rfl,Y D rfl s1 (.inl rfl) ⟨_,H⟩,low,H,U,v2.symm▸nd⟩
  |obj c fs=>
   refine ql e λys bk hm e=> ?_
   cases e
   exact dp (i.cells n p _ Q D) λne bR I=>bp I λm es H zH nd=>dp (aat K hm y.inv (zH.mono y.kept y.ext)) λs1 U v2=>⟨y.trans s1,_,_,m,es,rfl,Y D rfl s1 (.inl rfl) ⟨_,bR⟩,Y D rfl s1 (.inr rfl) ⟨_,H⟩,bR,H,U,v2.symm▸nd⟩
  |dead=>exact aD e
theorem aau (fr:cx C h (NN F ι σ) ι env sl ρ)(st:Step C F ι σ h ι af h){j}{x}{v}(hx:slot ρ j=S x)(hf:∀u,XR C h (NN F ι σ) ι x u->VR C h (NN F ι af) v u):cx C h (NN F ι af) ι env sl (ρ.set j (S (.v v))):=by
 refine ah fr.ns λm hm hr=>⟨⟨m,hm,λy k q hk val a=> ?_⟩,λy k q hk=> ?_⟩
 . rcases slot_set a with ⟨rfl,rfl⟩| ⟨ne,a⟩
   . exact ah (hr y j q hk x hx) λu b o=>⟨u,b,hf u o⟩
   exact ah (hr y k q hk _ a) λu b o=>⟨u,b,st.xr o⟩
 . refine bp (fr.cl y k q hk) λc w D H r=>⟨c,w,D,H,λval a=> ?_⟩
   rcases slot_set a with ⟨rfl,rfl⟩| ⟨ne,a⟩
   . exact ah (r x hx) λu b o=>⟨u,b,hf u o⟩
   exact ah (r _ a) λu b o=>⟨u,b,st.xr o⟩
noncomputable def mF.nm:mF->Str
 | .append=> "append" | .insert _=> "insert" | .extend=> "extend" | .index=> "index" | .get=> "get" | .join=> "join"
noncomputable def mF.id:mF->String
 | .append=> "list.append" | .insert _=> "list.insert" | .extend=> "list.extend" | .index=> "list.index" | .get=> "dict.get" | .join=> "str.join"
theorem aav (f:mF):PlainAttrs f.ty/\Slot f.ty f.nm f.id/\typeOf (.builtin f.id)=pure (.type "method_descriptor"):=by
 cases f
 . exact⟨Di,ylY,PySem.F.type_list_append⟩
 . exact⟨Di,ylW,PySem.F.type_list_insert⟩
 . exact⟨Di,ylX,PySem.F.type_list_extend⟩
 . exact⟨Di,ymF,PySem.F.type_list_index⟩
 . exact⟨PySem.F.plainAttrs_dict,Kt,PySem.F.type_dict_get⟩
 exact⟨PySem.F.plainAttrs_str,Ku,PySem.F.type_str_join⟩
theorem aaw (i:aL C F ι σ s.heap){o}{t}{v}(r:XR C s.heap (NN F ι σ) ι o v)(e:r7 σ o=S t):s.TypeIs v t/\∀a,v= .ref a->∃u,s.heap.get? a=S u/\u.dict=none:=by
 cases o with
 |v a=>
  cases a with
  |lst xs=>
   cases e
   refine bU r λa n y O _ q _=> ?_;subst O
   exact⟨⟨_,q,rfl⟩,λb e=>by cases e;exact⟨_,q,rfl⟩⟩
  |aU t I=>
   cases e
   refine HB r λa n y O _ _ q _=> ?_;clear r;subst O
   exact⟨⟨_,q,rfl⟩,λb e=>by cases e;exact⟨_,q,rfl⟩⟩
  |str x=>
   cases e
   refine ao r λt O=> ?_;clear r;subst O
   exact⟨rfl,λb e=>by cases e⟩
  |_=>exact aD e
 |ref n=>
  refine ah r λp D O=> ?_;clear r;subst O
  refine ah (oj e) λc H e=> ?_
  cases c with
  |lst xs=>
   cases e
   exact dh (qJ i D H) λk y q _=>⟨⟨_,q,rfl⟩,λb e=>by cases e;exact⟨_,q,rfl⟩⟩
  |aU L I=>
   cases e
   obtain ⟨_,k,es,q,_⟩:=si i D H
   exact⟨⟨_,q,rfl⟩,λb e=>by cases e;exact⟨_,q,rfl⟩⟩
  |_=>exact aD e
theorem Kv (b:args.all notStar=ab)(hl:args.length<30):
 ((backTo pos (starEach args env)).all (λx=> !x.1) && (backToKw pos (keywordEach [] env)).all (λx=>x.1.isSome) &&decide (args.length+ ([]:List Keyword).length+ (if([]:List Keyword).isEmpty then 0 else 1)<30))=true:=have a:=sA (env:=env) (pos:=pos) b;Zrr (by
 rw[cF]
 intro x hx
 rw[ypG]at a
 simpa using a x hx:(backTo _ _).all _=ab) (decide_eq_true hl)
theorem aax {f:mF}{args}{e}{D pos}{xs}(hb:pn e=ab)(b:args.all notStar=ab)(hl:args.length<30)(I:(D.endLine==pos.line)=ab)
 (he:EV C A F ι σ s (eval e env) o aC)(L:r7 aC o=S f.ty)(ha:∀h' O ag,Step C F ι σ s.heap ag aC h'->lU C A F ag aC (upd s h' O) (spliced (backTo pos (starEach args env))) xs bk)
 (c:∀(s:aT) (ι:Lay) (v:Value) (a:List _),aL C F ι bk s.heap->XR C s.heap (NN F ι bk) ι o v->bJ C s.heap (NN F ι bk) ι xs a->EV C A F ι bk s (call (.builtin f.id) (v::a)) y cJ):
 EV C A F ι σ s (eval (.Call (.Attribute e f.nm D) args [] pos) env) y cJ:=λQ E q=>dp (aav f) λU k ty=>wpAny_Call_method_late (Cv hb) (Kv b hl) I rfl (he _ _ λv aN bC bh r H=>au (aaw r.inv H L) λY hd=>⟨_,_,U,k,ty,Y,hd,Jy (sA b) (yY (sA b) (ha _ _ _ r _ _ λa bF de eK x hx=>c _ _ v a x.inv (x.xr H) hx Q E λu h₃ qB dw fP hu=>q u _ _ _ ((r.trans x).trans fP) hu))⟩)
theorem bJ.drop:∀ {xs:List X} {a:List _} (n:Nat),bJ C h N ι xs a->bJ C h N ι (xs.drop n) (a.drop n):=by
 intro c
 induction c with
 |nil=>intro a n r;cases r;cases n<;>rfl
 |cons x xs k=>
  intro a n r
  cases n with
  |zero=>exact r
  |succ n=>exact bp r λv q e _ b=>by subst e;exact k n b
theorem bJ.take:∀ {xs:List X} {vs:List _} (n:Nat),bJ C h N ι xs vs->bJ C h N ι (xs.take n) (vs.take n):=by
 intro c
 induction c with
 |nil=>exact λn r=>by cases r;cases n<;>rfl
 |cons x xs k=>
  intro vs n r
  cases n with
  |zero=>rfl
  |succ n=>
   refine bp r λv q O a b=> ?_;clear r;subst O
   exact⟨v,_,rfl,a,k n b⟩
theorem Dl (i:aL C F ι σ h){n}{p}{xs r}{u ws}{m}(a:ι[n]?=S p)(c:σ[n]?=S (.lst xs))(x:h.get? p.1=S (seqObj "list" u m))(f)(hf:f u=ws)
 (y:bJ C h (NN F ι σ) ι r ws.toList):Step C F ι σ h ι (σ.set n (.lst r)) (h.update p.1 (.mapSeq f)):=au (i.cells n p _ a c) λD _=>ao (Ko ws f hf m) λk H=>have K:=⟨λb o e k=>update_other _ _ _ (λz=>k (.inr (by exact Zrr z ⟨n,p,_,a,c,rfl,.inl rfl⟩))) e,λ_ _ _ q=>q⟩;yU i a c rfl rfl (λb o e I _=>update_other _ _ _ I e) ⟨D,k,_,by refine Zrr (Cw _ x rfl) ?_;rw[H];rfl,y.mono K λ_ _ e=>e⟩
theorem aaz (i:aL C F ι σ s.heap){o}{xs}{v}{b}(c:XR C s.heap (NN F ι σ) ι o v)(hx:bJ C s.heap (NN F ι σ) ι xs b):OB (gK σ .append o xs) λy=>EV C A F ι σ s (call (.builtin "list.append") (v::b)) y.1 y.2:=
 B3 λn ys L D=>yJ λx U=>fE λhl=>cH λQ E q=>by
  subst L U
  refine ah c λp H O=> ?_;clear c;subst O
  refine bp hx λu r O Y hr=> ?_;clear hx;subst O
  cases hr
  exact dh (qJ i H D) λk ws a I=>pf ylY ⟨_,a,rfl⟩ PySem.F.entry_list_append (PySem.F.args_list_append_2 _ _) (list_append _ ws k u (by rw[gP.symm,I.length.symm];exact fQ hl)) ⟨a,q _ _ _ ι (Dl i H D a _ rfl (Zrr zC (I.append ⟨u,[],rfl,Y,rfl⟩))) rfl⟩
theorem aaA (i:aL C F ι σ s.heap){o}{xs}{v}{D}(H:XR C s.heap (NN F ι σ) ι o v)(hx:bJ C s.heap (NN F ι σ) ι xs D):OB (gK σ (.insert ()) o xs) λy=>EV C A F ι σ s (call (.builtin "list.insert") (v::D)) y.1 y.2:=
 B3 λn ys jj I=>Il λa x ft=>vH λj wF=>fE λhl=>cH λQ E q=>by
  subst jj ft wF
  refine ah H λp L O=> ?_;clear H;subst O
  refine bp hx λw r O hw U=>bp U λu r' ax hu hr=> ?_;clear U;clear hx;subst O;subst ax
  cases hr
  refine ao hw λt O=> ?_;clear hw;subst O
  refine dh (qJ i L I) λk ws b c=> ?_
  have Y:ys.length=ws.size:=by rw[c.length];rfl
  refine pf ylW ⟨_,b,rfl⟩ PySem.F.entry_list_insert (PySem.F.args_list_insert_3 _ _ _) (PySem.AutoSeq1.list_insert_list_int_val_1 p.1 ws k j t u (IK hl.2.1 (W2 hl.2.2 (vR.mpr hl.1))) (by rw[Y.symm];exact fQ hl.1)) ⟨b,q .none _ s.toks ι (Dl i L I b _ rfl ?_) rfl⟩
  simp only[lT.mpr hl.2.1,if_false,(jI (Y▸Int.toNat_le.mpr hl.2.2):min j.toNat ws.size=j.toNat)]
  exact Zrr (by
   simp only[se,zC,ynZ,ymT,CF,Nat.sub_zero]
   exact Zrr (gb (l:= .drop _ _) (by simp)) rfl:((ws.extract 0 j.toNat).push u++ws.extract j.toNat).toList=ws.toList.take j.toNat++ [u]++ws.toList.drop j.toNat) (.append ((c.take _).append ⟨u,[],rfl,hu,rfl⟩) (c.drop _))
theorem aaB (i:aL C F ι σ s.heap){o}{xs}{v}{D}(H:XR C s.heap (NN F ι σ) ι o v)(hx:bJ C s.heap (NN F ι σ) ι xs D):OB (gK σ .extend o xs) λy=>EV C A F ι σ s (call (.builtin "list.extend") (v::D)) y.1 y.2:=
 B3 λn ys jj I=>yJ λa ft=>r9 λzs Dm=>fE λhl=>cH λQ E q=>by
  subst jj ft Dm
  refine ah H λp L O=> ?_;clear H;subst O
  refine bp hx λw r O hw hr=> ?_;clear hx;subst O
  cases hr
  refine bU hw λb k2 U O _ c Y=> ?_;clear hw;subst O
  refine dh (qJ i L I) λk ws u jL=> ?_
  have uw:ys.length=ws.size:=by rw[jL.length];rfl
  have x:zs.length=U.size:=by rw[Y.length];rfl
  rw[uw,x]at hl
  have hm:=fQ hl
  exact pf ylX ⟨_,u,rfl⟩ PySem.F.entry_list_extend (PySem.F.args_list_extend_2 _ _) (PySem.AutoSeq1.list_extend_list_list_0 _ ws k b U k2 (λz=>mD hm (of_decide_eq_true (dF.mp z).2)) (ba (dH ..) hm) (k9 hm)) ⟨u,c,q _ _ _ ι (Dl i L I u _ rfl (Zrr se (jL.append Y.fm))) rfl⟩
noncomputable def Kw (x:Str):Value->Bool
 | .str y _=>y==x
 |_=>ae
theorem aaD {c:Type}{p}:∀ {l:List c} {j:Nat},l.findIdx? p=S j->∃h,p l[j]=ab/\∀m (hm:m<l.length),m<j->p l[m]=false:=by
 intro l j e
 rw[Kx]at e
 exact ah e λh a b=>⟨h,a,λm hm k=>by simpa using b m k⟩
theorem aaE (i:aL C F ι σ s.heap){o}{xs}{v}{vs}(I:XR C s.heap (NN F ι σ) ι o v)(hx:bJ C s.heap (NN F ι σ) ι xs vs):OB (gK σ .index o xs) λy=>EV C A F ι σ s (call (.builtin "list.index") (v::vs)) y.1 y.2:=
 r9 λc jj=>yJ λa ft=>lS λx C8=>fe λj L Q E q=>by
  subst jj ft C8
  unfold indexOf at L
  split at L
  . rename_i hc
    refine dp hc λU D h3=> ?_;clear hc
    refine bp hx λw r O hw hr=> ?_;clear hx;subst O
    cases hr
    cases x with
    |str x=>
     have hw:=hw
     have I:=I
     refine ao hw λt O=> ?_;clear hw;subst O
     refine bU I λb k2 k O _ bR fF=> ?_;clear I;subst O
     have H:c.length=k.size:=by rw[fF.length,gP];rfl
     have item:∀m (hm:m<k.size),∃a t,c[m]?=S (.str a)/\k[m]= .str ⟨a.toArray⟩ t:=by
      intro m hm
      have kD:c[m]?=S (c[m]'(dM hm (aK H.symm))):=by simp
      refine ah (fF.get kD) λu hu Y=> ?_
      rw[eL,zL hm]at hu
      cases hu
      have hs:=cF.mp D (c[m]'(dM hm (aK H.symm))) (wU _)
      cases hq:c[m]'(dM hm (aK H.symm))with
      |str a=>
       rw[hq]at Y
       refine ao Y λt ht=> ?_;clear Y
       exact⟨a,t,by rw[kD,hq];rfl,ht⟩
      |_=>rw[hq]at hs;exact bT hs
     refine ah (aaD L) λuh ha hb=> ?_
     have key:∀m (hm:m<k.size),Kw ⟨x.toArray⟩ k[m]=gJ (c[m]'(by lia)) (.str x):=by
      refine λm hm=>dh (item m hm) λa t U D=> ?_
      have:c[m]'(dM hm (aK H.symm))= .str a:=have:=dk.mp U;this.2
      rw[this,D]
      show(({cps:=a.toArray}:Str)== {cps:=x.toArray})=decide (a=x)
      have:(({cps:=a.toArray}:Str)== {cps:=x.toArray})=decide (a=x):=by
       by_cases q:a=x
       . subst q;simp
       . simp only[q,decide_false,beq_eq_false_iff_ne]
         intro z;apply q
         have:=congrArg (λs:Str=>s.cps.toList) z
         simpa using this
      exact this
     refine pf ymF ⟨_,bR,rfl⟩ PySem.F.entry_list_index (PySem.F.args_list_index_2 _ _) (SeqAt.list_indexAt b k k2 J #[] _ (Kw ⟨x.toArray⟩) j (dM uh (aK H)) (by unfold aE at h3;lia) (by rw[key _ _];exact ha) (λm hm Ky=>by rw[key _ _];exact hb m (dq Ky uh) Ky)) ⟨bR,?_,?_⟩
     . refine λy hy=>ao (Array.getElem_of_mem hy) λm aF=>ao aF λhm O=> ?_;clear aF;subst O
       exact dh (item m hm) λa t' _ D=>Zrr D (.str_str _ _ _ _)
     exact q _ s.heap _ ι (.refl i) ⟨_,rfl⟩
    |_=>exact bT U
  exact aD L
theorem Kz {x}{Q}{E}(D:DictAt C s.heap N ι a t ak)(hk:dS t k=ab)(hu:VR C s.heap N k u)(hd:XR C s.heap N ι x d)
 (hr:A.units+64<cLine)(q:∀v tk,XR C s.heap N ι ((ck k ak).getD x) v->Q v {s with toks:=tk}):wpAny C.M A (call (.builtin "dict.get") [.ref a,u,d]) Q E s:=by
 obtain ⟨low,n,es,L,r,nd⟩:=D
 have one:∀ {K:Type} [DecidableEq K] {H:KeyKind _ _ K} {I:K->V},kA C t H I->wpAny C.M A (call (.builtin "dict.get") [.ref a,u,d]) Q E s:=by
  intro K _ H I U
  refine ah (vT U L r nd) λcE c dd=>ao (U.of k hk) λk' O=> ?_;subst O
  refine JB Kt ⟨_,L,rfl⟩ ymP (ymI _ _ _) (meets_dict_get_default _ a (U.is hu) low d) ⟨_,dd.mapOf,q _ _ ?_⟩
  rcases c.look U with ⟨e,o⟩| ⟨y,v,e,o,hy⟩
  . rw[e];exact Zrr o hd
  . rw[e];exact Zrr o hy
 have two:∀ {K:Type} [DecidableEq K] {H:KeyKind _ _ K} {I:K->V},gN C t H I->wpAny C.M A (call (.builtin "dict.get") [.ref a,u,d]) Q E s:=by
  intro K _ H I Y
  refine ah (vY Y L r nd) λcE c dd=>ao (Y.of k hk) λk' O=> ?_;subst O
  refine ao (t9 hu) λb O=> ?_;subst O
  refine JB Kt ⟨_,L,rfl⟩ ymP (ymI _ _ _) (meetsH_dict_get_default _ a b low d) ⟨?_,k',_,sh Y hu,dd,?_⟩
  . show A.in1.units<cLine
    simp;exact q1 hr
  refine q _ _ ?_
  rcases c.look Y with ⟨e,o⟩| ⟨y,v,e,o,hy⟩
  . rw[e];exact Zrr o hd
  . rw[e];exact Zrr o hy
 cases t
 . exact one (qH C)
 . exact one (qI C)
 . exact two (vV C)
 exact two (vW C)
theorem aaF (k)(b)(d):(ck k (b.map λp=>(p.1,X.v p.2))).getD d=match ck k b with|some a=> .v a|none=>d:=by
 rw[Cm _ k _]
 cases ck k _<;>rfl
theorem aaG (i:aL C F ι σ s.heap){o}{xs}{v}{L}(hr:A.units+64<cLine)(b:XR C s.heap (NN F ι σ) ι o v)(hx:bJ C s.heap (NN F ι σ) ι xs L):OB (gK σ .get o xs) λy=>EV C A F ι σ s (call (.builtin "dict.get") (v::L)) y.1 y.2:=
 Il λa d ft=>lS λk c=>by
 subst ft c
 refine bp hx λu r O U Y=>bp Y λw r' ax hw ie=> ?_;clear Y;clear hx;subst O;subst ax
 cases ie
 cases o with
 |v x=>
  refine UQ λt ak e=>fE λhk=>cH λQ E q=> ?_
  cases e
  refine cD (VR.dictAt (ι:=ι) b) λa O _ D=> ?_;subst O
  refine Kz D hk U hw hr λv H I=>q v _ H ι (.refl i) ?_
  rwa[aaF]at I
 |ref n=>
  refine UT λn t ak e hc=>fE λhk=>cH λQ E q=> ?_
  cases e
  refine ah b λp hp O=> ?_;clear b;subst O
  exact Kz (si i hp hc) hk U hw hr λv H I=>q v _ H ι (.refl i) I
theorem KA (b):∀ {xs:List V} {c:List _} {r:List _},vE b xs=S r->bI C h N xs c->
 ∃l,c=strValues l/\r.toArray=(Txt.join ⟨b.toArray⟩ (l.map (·.1))).cps/\(l.map λp=>p.1.length+b.length).sum<=r.length+b.length:=by
 intro q
 induction q with
 |nil=>
  intro c r e k
  cases e
  subst k
  exact⟨[],rfl,rfl,by simp⟩
 |cons x xs u=>
  intro c r e k
  refine bp k λv L O hx hr=> ?_;clear k;subst O
  cases x with
  |str a=>
   refine ao hx λt O=> ?_;clear hx;subst O
   cases xs with
   |nil=>
    cases e
    subst hr
    exact⟨[(⟨_⟩,t)],rfl,rfl,by simp[Str.length]⟩
   |cons y Q=>
    refine gY e λU D O=> ?_;subst O
    refine cD (u D hr) λl O H o=> ?_;subst O
    refine⟨(⟨_⟩,t)::l,rfl,?_,?_⟩
    . cases l with
      |nil=>
       exact dh hr λ_ _ e _=>by cases e
      |cons p l=>
       have I:Txt.join ⟨b.toArray⟩ (((⟨a.toArray⟩,t)::p::l).map (·.1))=⟨a.toArray⟩++ ⟨b.toArray⟩++Txt.join ⟨b.toArray⟩ ((p::l).map (·.1)):=by
        show Builtin.Str.glued _ _=_++Builtin.Str.glued _ _
        rw[ymX _ _];exact Zrr (ymX _ _) rfl
       rw[I]
       simp only[Str.cps_append,<-H]
       simp
    . simp only[dz,List.sum_cons,aY,Str.length]at o ⊢
      simp only[v9]
      exact Sh o
  |_=>exact aD e
theorem aaH (b):∀(l:List Str) (n:Nat),l.foldl (λa x=>a+x.length+b) n=n+ (l.map λp=>p.length+b).sum:=by
 intro c
 induction c with
 |nil=>
  intro n
  simp
 |cons x l k=>
  intro n
  rw[kW,k _]
  simp only[dz,List.sum_cons]
  exact Uu
theorem aaI (i:aL C F ι σ s.heap){o}{xs}{v}{vs}(I:XR C s.heap (NN F ι σ) ι o v)(hx:bJ C s.heap (NN F ι σ) ι xs vs):OB (gK σ .join o xs) λy=>EV C A F ι σ s (call (.builtin "str.join") (v::vs)) y.1 y.2:=
 UR λc jj=>yJ λa ft=>Ik λL Dm=>cv λr U=>fE λhl=>cH λQ E q=>by
 subst jj ft
 have go:∀ {c:List Nat} {L:List V} {u:Array Value} {r:List Nat} {l:List (Str×Tok)},vE c L=S r->bI C s.heap (NN F ι σ) L u.toList->r.length<aE->c.length<aE->u.toList=strValues l->r.toArray=(Txt.join ⟨c.toArray⟩ (l.map (·.1))).cps->(l.map λp=>p.1.length+c.length).sum<=r.length+c.length->
  Builtin.Str.tooLong ((l.map (·.1)).toArray.foldl (· + ·.length+ (⟨c.toArray⟩:Str).length) 0)=false:=by
  intro c L u r l e hs h1 h2 hl hr hz
  unfold Builtin.Str.tooLong
  rw[List.foldl_toArray _ _ _,aaH _ _ _]
  simp only[b5,fc,decide_eq_false_iff_not,o_]
  refine ba hz ?_
  unfold aE at h1 h2
  rw[sizeLine_eq]
  lia
 rcases Dm with rfl|rfl
 . refine bp hx λw rr O hw hr=> ?_;clear hx;subst O
   cases hr
   refine ao I λt O=> ?_;clear I;subst O
   refine bU hw λb Y u O _ bR x=> ?_;clear hw;subst O
   exact cD (KA c U x) λl D H Dp=>have tl:=go U x hl.1 hl.2 D H Dp;pf Ku (typeIs_str _ _ _) ymO (ymH _ _) (meets_str_join_list ⟨c.toArray⟩ t b l tl) ⟨Zrr D.symm ⟨_,bR,rfl,Y,rfl⟩,post_join l ⟨joinFit_length tl,λt' k=>q _ s.heap k ι (.refl i) ⟨t',by rw[H];rfl⟩⟩⟩
 . refine bp hx λw rr O hw hr=> ?_;clear hx;subst O
   cases hr
   refine ao I λt O=> ?_;clear I;subst O
   refine bU hw λb Y u O _ bR x=> ?_;clear hw;subst O
   exact cD (KA c U x) λl D H Dp=>have tl:=go U x hl.1 hl.2 D H Dp;pf Ku (typeIs_str _ _ _) ymO (ymH _ _) (meets_str_join_tuple ⟨c.toArray⟩ t b l tl) ⟨Zrr D.symm ⟨_,Y,bR,rfl,rfl⟩,post_join l ⟨joinFit_length tl,λt' k=>q _ s.heap k ι (.refl i) ⟨t',by rw[H];rfl⟩⟩⟩
theorem aaJ (i:aL C F ι σ s.heap){f}{o}{xs}{v}{b}(hr:A.units+64<cLine)(a:XR C s.heap (NN F ι σ) ι o v)(hx:bJ C s.heap (NN F ι σ) ι xs b):OB (gK σ f o xs) λy=>EV C A F ι σ s (call (.builtin f.id) (v::b)) y.1 y.2:=by
 cases f
 . exact aaz i a hx
 . exact aaA i a hx
 . exact aaB i a hx
 . exact aaE i a hx
 . exact aaG i hr a hx
 exact aaI i a hx
theorem aaK {prog:Program}{w:World}{A:Around}{E:Value->aT->Prop}{s:aT}{a:aO}{xs:Array Value}{k:Nat}{Q:Option Value->aT->Prop}
 (hx:s.heap.get? a=S (seqObj "list" xs k))(x:A.handled=J)(h:∀h' q,(∀b o,s.heap.get? b=S o->h'.get? b=S o)->Q J (upd s h' q)):
 wpAny (model prog w) A (getAttr? (.ref a) "keys") Q E s:=by
 obtain ⟨y,g,d,q,os⟩:=s
 have r:∀tk',(⟨y,g,d,tk',os⟩:aT).TypeIs (.ref a) "list" :=λ_=>⟨_,hx,rfl⟩
 have D:=sub_AttributeError
 have H:=KC.lookup
 have I:=KC.bind (.ref a)
 have L:=am_list_getattr_none
 have c:typeLookup (.type "list") "keys" =pure none:=am_miss_of_fast (by kernel_rfl)
 unfold getAttr? getAttrBy? getAttrBy
 repeat (any_goals (first|assumption|exact r _| ((with_reducible show wpAny _ _ (call (Value.builtin "list.__getattribute__") _ _) _ _ _);refine pf KC (r _) am_entry_list_getattribute (F.args_list_getattribute_2 _ _) (meets_getattribute_miss_list a xs k #[] "keys" _ c (by decide+kernel)) ⟨hx,x,λh' tk' e u=> ?_⟩)|wp_step))
 refine fb u.there λO U he=> ?_
 show wpAny _ _ (getattributeRaised _ _ _ _ _ _ _) _ _ _
 unfold getattributeRaised
 repeat (any_goals (first|assumption|wp_step))
 exact h _ _ u.of.keeps
theorem dict_set {x}{Q}{E}(D:DictAt C s.heap N ι a t ak)(hk:dS t k=ab)(Y:VR C s.heap N k u)(hv:XR C s.heap N ι x v)
 (hr:A.units+64<cLine)(hz:ak.length<aE)(ha:N a)
 (q:∀h' tk,Heap.SameBut a s.heap h'->DictAt C h' N ι a t (ec k x ak)->Q () (upd s h' tk)):wpAny C.M A (dictSet a u v) Q E s:=by
 obtain ⟨low,n,es,ho,r,nd⟩:=D
 have kept:∀ {h':Heap},Heap.SameBut a _ h'->Kept s.heap h' N N:=λy=>⟨λb o e n=>(y.2 b λz=>n (z▸ha)).trans e,λ_ _ _ z=>z⟩
 have one:∀ {K:Type} [DecidableEq K] {H:KeyKind _ _ K} {I:K->V},kA C t H I->wpAny C.M A (dictSet a u v) Q E s:=by
  intro K _ H I L
  refine ah (vT L ho r nd) λcE c d=>ao (L.of k hk) λk' O=> ?_;subst O
  refine n4 (id d) λ_ _ _ _ _ _ _ _ hn=>wpAny_dictSet_pairs (L.is Y) d (λh' d' y=>q h' _ y ⟨low,IY L ((c.store L hv hn).mono (kept y) λ_ _ e=>e) d'⟩) ?_
  rw[c.length.symm];exact fQ hz
 have two:∀ {K:Type} [DecidableEq K] {H:KeyKind _ _ K} {I:K->V},gN C t H I->wpAny C.M A (dictSet a u v) Q E s:=by
  intro K _ H I U
  refine ah (vY U ho r nd) λcE c d=>ao (U.of k hk) λk' O=> ?_;subst O
  refine ao (t9 Y) λb O=> ?_;subst O
  refine n4 (id d) λ_ _ _ _ _ _ _ _ hn=>wpAny_dictSet_heap (by show A.units<cLine;exact Rk hr) (sh U Y) d (λh' d' y=>q h' _ y ⟨low,I2 U ((c.store U Y hv hn).mono (kept y) λ_ _ e=>e) d'⟩) ?_
  rw[c.length.symm];exact fQ hz
 cases t
 . exact one (qH C)
 . exact one (qI C)
 . exact two (vV C)
 exact two (vW C)
theorem KD:entryFor table "dict.update.loop" =S Builtin.«dict.update.loop»:=entryFor_of_tree rfl
theorem zM:plainId "dict.update.loop" =true:=by decide+kernel
theorem aaM (k)(x:b):∀l,(ec k x l).length<=l.length+1:=by
 intro a
 induction a with
 |nil=>
  simp[UK]
 |cons p r c=>
  rw[yG]
  split<;>simp<;>assumption
theorem aaN (f:c->o)(k)(x):∀l,(ec k x l).map (λp=>(p.1,f p.2))=ec k (f x) (l.map λp=>(p.1,f p.2)):=by
 intro a
 induction a with
 |nil=>
  exact rfl
 |cons p r b=>
  simp only[yG,dz]
  split
  . rfl
  . rw[dz,b];rfl
theorem DictAt.Dq {a}{t}{b}(D:DictAt C h N ι a t b)(k:Kept h h' N N')(ha:∀o,h.get? a=S o->h'.get? a=S o):DictAt C h' N' ι a t b:=by
 obtain ⟨low,n,es,c,r,nd⟩:=D
 exact⟨low,n,es,ha _ c,r.mono k λ_ _ e=>e,nd⟩
theorem aaO (e:r5 t (y::a) acc=S r):∃k x,y= .tup [k,x]/\dS t k=ab/\r5 t a (ec k x acc)=S r:=by
 cases y with
 |tup l=>
  rcases l with _| ⟨k,_| ⟨x,_| ⟨z,l⟩⟩⟩
  . exact aD e
  . exact aD e
  . exact au (qE e) λh e=>⟨k,x,rfl,h,e⟩
  exact aD e
 |_=>exact aD e
theorem aaP {D I l:aO}{a:Array Value}{m:Nat}{t:KT}(wW:D≠I)(hD:N D)(hI:N I)(hl:¬N l):
 ∀(u:List V) (i:Nat) (acc r:List (V×V)),r5 t u acc=S r->acc.length+u.length<aE->i+u.length=a.size->∀L,
  MeetsIn C.prog C.w (Builtin.«dict.update.loop» ⟨[.ref D,.ref I,rawInt i,.none],[]⟩) (λA R s=>A.handled=J/\A.units+66<cLine/\s.heap.IsListIter I l i/\s.heap.get? l=S (seqObj "list" a m)/\s=(upd L s.heap s.toks)/\
   bI C s.heap N u (a.toList.drop i)/\DictAt C s.heap N ι D t (acc.map λp=>(p.1,.v p.2))/\
   ∀h' tk,(∀b o,s.heap.get? b=S o->b≠D->b≠I->h'.get? b=S o)->DictAt C h' N ι D t (r.map λp=>(p.1,.v p.2))->R (.ok (.ret .none)) (upd L h' tk)):=by
 intro u
 induction u with
 |nil=>
  intro i acc r e Q H L
  cases e
  refine λA R s U=> ?_
  refine HA U λhh hu et ug Ds Y hd q=> ?_;clear U
  have hx:a[i]?=none:=by simp at H;simp;exact RC H
  unfold Builtin.«dict.update.loop»
  show wpAny _ _ (pyNext (.ref I) >>=_) _ _ _
  refine aG (wpAny_pyNext_list_end hh et ⟨_,ug,rfl,m,rfl⟩ hx λh' cZ=> ?_)
  show wpAny _ _ (Builtin.Dict.addKeywords D [] >>=_) _ _ _
  refine aG (bA (bA ?_))
  have e:((upd s h' s.toks):aT)=(upd L h' s.toks):=by rw[Ds];rfl
  show R _ (upd s h' s.toks)
  rw[e]
  exact q h' s.toks (λb o e _ n=>cZ b o n e) (hd.Dq ⟨λb o e n=>cZ b o (λz=>n (z▸hI)) e,λ_ _ _ z=>z⟩ λo e=>cZ D o wW e)
 |cons y u ih=>
  intro i acc r e Q H L
  (refine bp (aaO e) λk x O hk e'=> ?_;obtain rfl:=O)
  refine λA R s U=> ?_
  refine HA U λhh hu et ug Ds Y hd q=> ?_;clear U
  have hlt:i<a.size:=by simp at H;exact HP H
  have hdr:a.toList.drop i=a[i]::a.toList.drop (i+1):=by
   refine Zrr (ov (by simpa using hlt)) ?_;simp
  rw[hdr]at Y
  (revert Y;intro O;refine bp O λ_ _ e0 hy Y=> ?_;clear O)
  cases e0
  refine bU hy λb nb ws hb hnb bR jL=> ?_;clear hy
  refine bp jL λku _ ew hku aF=> ?_;refine bp aF λxu _ ew2 fg ew3=> ?_;clear aF;clear jL
  have ews:ws= #[ku,xu]:=by
   cases ws with
   |mk l=>simp at ew;rw[ew,ew2];rewrite[ew3];rfl
  subst ews
  unfold Builtin.«dict.update.loop»
  show wpAny _ _ (pyNext (.ref I) >>=_) _ _ _
  refine aG (wpAny_pyNext_list_item et ⟨_,ug,rfl,m,rfl⟩ (x:=a[i]) (by simp) λaN zb wX=> ?_)
  rw[hb]
  have neb:b≠I:=λz=>hnb (z▸hI)
  have KG:=(wX.2 b neb).trans bR
  have ux:Kept s.heap aN N N:=⟨λc o e n=>(wX.2 c λz=>n (z▸hI)).trans e,λ_ _ _ z=>z⟩
  dsimp only
  refine aG (jH ?_)
  refine aG (wpAny_tryCatch ?_)
  unfold Builtin.Dict.pairItems
  refine aG (CD ⟨_,KG,rfl⟩ ?_)
  refine Zrr (if_pos (rfl)) ?_
  refine aG (wpAny_seqItems KG rfl (bA ?_))
  dsimp only[Option.getD]
  refine jH ?_
  refine dict_set (hd.Dq ux λo e=>(wX.2 D wW).trans e) hk (hku.mono ux) (x:= .v x) (fg.mono ux) (by show A.units+1+64<cLine;exact gu ‹_›) ?_ hD λbF tk zN aaQ=> ?_
  . simp at Q ⊢;exact RD Q
  have ze:Kept aN bF N N:=⟨λc o e n=>(zN.2 c λz=>n (z▸hD)).trans e,λ_ _ _ z=>z⟩
  have nlD:l≠D:=λz=>hl (z▸hD)
  have nlI:l≠I:=λz=>hl (z▸hI)
  refine bA ⟨Dt zM _,Du KD ?_⟩
  rw[Dv zM _]
  have hc:((i:Int)+1)=((i+1:Nat):Int):=by push_cast;rfl
  rw[hc]
  refine cD zb λoi hoi ci di=> ?_;clear zb
  refine ih (i+1) _ r e' ?_ ?_ L A R _ ⟨hh,hu,⟨oi,(zN.2 I (vZ wW)).trans hoi,ci,di⟩,(zN.2 l nlD).trans ((wX.2 l nlI).trans ug),?_,(bI.mono ux Y).mono ze,?_,λh' tk' kk d'=> ?_⟩
  . have:=aaM k x acc
    simp at Q ⊢;exact RE Q this
  . simp at H;exact HQ H
  . rw[Ds];rfl
  . rw[aaN _ _ _ _];exact aaQ
  . exact q h' tk' (λc o e n1 n2=>kk c o ((zN.2 c n1).trans ((wX.2 c n2).trans e)) n1 n2) d'
theorem KH (i:aL C F ι σ h):(h.objs.size==sysModules)=false:=have:=modules_low (C.T.nolimit.keeps i.base);beq_eq_false_iff_ne.mpr (fO this)
theorem Dw (i:aL C F ι σ h):DictAt C (h.push {cls:= .type "dict",data:= .dict #[]}) N ι h.objs.size t []:=
 ⟨KH i,0,[],kU _ rfl,rfl,by simp⟩
theorem aaR:∀ {c:List _} {b:List _},qs c=S b->b.map (·.1)=c.map (·.1):=by
 intro o
 induction o with
 |nil=>exact λe=>by cases e;rfl
 |cons p r q=>
  intro b e
  obtain ⟨k,x⟩:=p
  cases x with
  |ref _=>exact aD e
  |v a=>
   refine gY e λy u O=> ?_;subst O
   exact congrArg _ (q u)
theorem Dx {m:Bool}{x}{N'}(i:aL C F ι σ h)(k:∀b o,h.get? b=S o->h'.get? b=S o)(fr:h.get? D=J)(d:DictAt C h' N' ι D t a)(c:N' D)
 (low:∀b,NN F ι σ b->N' b)(hm:(if m then S (.ref σ.length,σ++ [.aU t a])else(qs a).map λd=>(.v (.aU t d),σ))=S (x,af)):
 ∃ag,Step C F ι σ h ag af h'/\XR C h' (NN F ag af) ag x (.ref D):=by
 obtain ⟨lo,n,es,u,r,nd⟩:=d
 cases m
 . refine gY hm λH e hx=> ?_
   cases hx
   refine⟨ι,iy i k,⟨D,n,es,rfl,r_ i fr,lo,u,(fY.Xj e r).mono ⟨λ_ _ e _=>e,λb o _ q=>low b q⟩,?_⟩⟩
   rw[aaR e];exact nd
 . simp only[if_true,jF,kY]at hm
   refine au hm λO y=> ?_;clear hm;subst O;subst y
   exact⟨ι++ [(D,D)],vO i k fr fr ⟨rfl,lo,n,es,u,r.mono ⟨λ_ _ e _=>e,λb o _ q=>q.elim (λq=>low b (.inl q)) λq=>by
    rcases sd i.len q with q|rfl|rfl
    . exact low b (.inr q)
    . exact c
    exact c⟩ λn p e=>by
    rw[eR (dk.mp e).1];exact e,nd⟩,t7 i.len⟩
theorem aaS (i:aL C F ι σ s.heap)(hm:B0 m t [] [] σ=S (x,af)):EV C A F ι σ s (eval (.Dict [] [] pos) env) x af:=λQ E q=>wpAny_Dict_empty (ah (Dx (N':=λb=>NN F ι σ b\/b=s.heap.objs.size) i (eQ _ _) (gM _) (Dw i) (.inr rfl) (λb q=> .inl q) hm) λa st hx=>q _ _ _ _ st hx)
theorem aaT {m}{w}{b}{y}{D H I}{L O U pos}(hr:A.units+64<cLine)(i:aL C F ι σ s.heap)(hm:B0 m .strs [.v (.tup [.str w.cps.toList])] [.v (.bool b)] σ=S (y,af)):
 EV C A F ι σ s (eval (.Dict [S (.Tuple [.Constant (.str w) D L] H O)] [.Constant (.bool b) I U] pos) env) y af:=by
 refine λQ E q=>wpAny_Dict_any ?a ?b ?c ?d ?_
 case a=>rfl
 case b=>rfl
 case c=>exact ypV _ _
 case d=>exact HH rfl
 have fr:=gM s.heap
 have Y:=Dw (N:=λb=>NN F ι σ b\/b=s.heap.objs.size) (t:= .strs) i
 unfold pairTrees pairTrees evalPairs evalPairs PySem.storeAll
 refine aG (Jt (y0 (wpAny_Constant_str (CG ⟨by simp;decide,aG (jH (aG (WT (aG (qM (bA (aG (jH (bA (bA ?_))))))))))⟩)) (ud (rfl))))
 rw[zr _ _ _ _]
 generalize u:(s.heap.push {cls:= .type "dict",data:= .dict #[]})=r at*
 have x:r.objs.size=s.heap.objs.size+1:=by rw[u.symm];exact(λh o=>size_push' h o) _ _
 have key:VR C (r.push (seqObj "tuple" [.str w s.toks].toArray 0)) (λb=>NN F ι σ b\/b=s.heap.objs.size) (.tup [.str w.cps.toList]) (.ref r.objs.size):=by
  exact⟨_,0,_,rfl,(by
  rintro (q|q)
  . refine ao (ID i q) λo ho=> ?_
    exact absurd (jf ho) (by rw[x];exact o_.mpr (qP _))
  . exact absurd q (by rw[x];exact Zj _)),(kU _ rfl),_,_,rfl,⟨_,rfl⟩,rfl⟩
 have val:XR C (r.push (seqObj "tuple" [.str w s.toks].toArray 0)) (λb=>NN F ι σ b\/b=s.heap.objs.size) ι (.v (.bool b)) (.bool b):=rfl
 have k_:=Y.Dq (⟨λb o e _=>eQ _ _ b o e,λ_ _ _ z=>z⟩:Kept r (r.push (seqObj "tuple" [.str w s.toks].toArray 0)) (λb=>NN F ι σ b\/b=s.heap.objs.size) (λb=>NN F ι σ b\/b=s.heap.objs.size)) λo e=>eQ _ _ _ o e
 refine aG ?_
 refine aG ?_
 refine dict_set k_ (rfl) key val hr (by unfold aE;simp) (.inr rfl) ?_
 intro h' tk sb lZ
 refine bA ?_
 refine bA ?_
 have k:=λb o e=>(sb.2 b λz=>by rw[z,fr]at e;exact aD e).trans (eQ _ _ b o (u▸eQ s.heap _ b o e))
 refine ah (Dx i k fr lZ (.inr rfl) (λb q=> .inl q) hm) λag st hx=> ?_
 exact q _ h' tk ag st hx
theorem aaU (hh:A.handled=J)(hr:A.units+80<cLine)(i:aL C F ι σ s.heap){t}{xs}{u}{v}{Q}{E}(ha:VR C s.heap (NN F ι σ) (.lst xs) v)(hl:xs.length<aE)(e:r5 t xs []=S u)
 (q:∀r h' x,Step C F ι σ s.heap ι σ h'->VR C h' (NN F ι σ) (.aU t u) r->Q r (upd s h' x)):wpAny C.M A (call (.type "dict") [v]) Q E s:=by
 ((refine bU ha λl n vs O hn y hs=> ?_;clear ha);obtain rfl:=O)
 have hz:xs.length=vs.size:=by rw[hs.length,gP];rfl
 refine callType_codes (Q₁:=λobj dU=>obj= .ref s.heap.objs.size/\dU= {s with heap:=s.heap.push {cls:= .type "dict",data:= .dict #[]}}) PySem.F.kt_called_dict (PySem.F.kt_typeCall_dict_1 _) PySem.F.entry_dict_init (kt_code_dict_new _ ⟨rfl,rfl⟩) ?_
 (intro obj dU O;refine au O λax cu=> ?_;clear O;obtain rfl:=ax;obtain rfl:=cu)
 have fr:=gM s.heap
 have KI:=Dw (N:=λb=>NN F ι σ b\/b=s.heap.objs.size) (t:=t) i
 have D:=eQ s.heap {cls:= .type "dict",data:= .dict #[]} l _ y
 have H:(s.heap.push {cls:= .type "dict",data:= .dict #[]}).get? s.heap.objs.size=S (dictOf [] 0):=kU _ rfl
 refine⟨⟨_,H,rfl⟩,PySem.F.args_dict_init_2 _ _,?_⟩
 unfold Builtin.«dict.__init__»
 refine aG ?_
 unfold Builtin.Dict.selfAndRest
 refine aG (Y5 ⟨_,H,rfl⟩ ?_)
 show wpAny _ _ (pure (s.heap.objs.size,[Value.ref l])) _ _ _
 refine bA ?_
 show wpAny _ _ (Builtin.Dict.updateFrom "dict.__init__" s.heap.objs.size (.ref l) [] .none) _ _ _
 unfold Builtin.Dict.updateFrom
 refine aG (CD ⟨_,D,rfl⟩ ?_)
 refine Zrr (if_pos (rfl)) ?_
 refine aG (aaK D hh λa aiy I=> ?_)
 refine Zrr (if_pos (rfl)) ?_
 refine aG (sr ?_)
 have L:=I _ _ D
 have KJ:=I _ _ H
 refine aG (wpAny_pyIter_list ⟨_,L,rfl,n,rfl⟩ ?_)
 have U:=dx (jf L)
 have wW:=dx (jf KJ)
 have Y:=gM a
 have DB:=λb o e=>I b o (eQ _ _ b o e)
 have KL:s.heap.get? a.objs.size=none:=by
  cases q:s.heap.get? a.objs.size with
  |none=>rfl
  |some o=>have:=DB _ _ q;rw[Y]at this;exact aD this
 refine bA ⟨Dt zM _,Du KD ?_⟩
 rw[Dv zM _]
 have K:∀h₃,(∀b o,a.get? b=S o->h₃.get? b=S o)->Kept s.heap h₃ (NN F ι σ) (λb=>NN F ι σ b\/b=s.heap.objs.size\/b=a.objs.size):=λh₃ k=>⟨λb o e _=>k b o (DB b o e),λb o e z=>by
  rcases z with z|rfl|rfl
  . exact z
  . rw[fr]at e;exact aD e
  . rw[KL]at e;exact aD e⟩
 have c:=eQ a {cls:= .type "list_iterator",data:= .fields #[.ref l,rawInt 0]}
 have aaW:DictAt C (a.push {cls:= .type "list_iterator",data:= .fields #[.ref l,rawInt 0]}) (λb=>NN F ι σ b\/b=s.heap.objs.size\/b=a.objs.size) ι s.heap.objs.size t []:=⟨KH i,0,[],c _ _ KJ,rfl,by simp⟩
 refine aaP wW (.inr (.inl rfl)) (.inr (.inr rfl)) ?_ xs 0 [] u e (by simpa using hl) (Su hz) {s with toks:=s.toks} A.in1 _ _ ⟨hh,by show A.units+1+66<cLine;exact Sv hr,⟨_,kU _ rfl,rfl,rfl⟩,c _ _ L,rfl,?_,aaW,?_⟩
 . rintro (z|z|z)
   . exact hn z
   . rw[z,fr]at y;exact aD y
   . exact U z
 . rw[CF];exact hs.mono (K _ c)
 . intro h' x kk D'
   have k:=λb o e=>kk b o (c b o (DB b o e)) (λz=>by rw[z,fr]at e;exact aD e) (λz=>by rw[z,KL]at e;exact aD e)
   refine ah (Dx (m:=ae) i k fr D' (.inr (.inl rfl)) (λb q=> .inl q) (by
    simp only[y3]
    have:∀l:List (V×V),qs (l.map λp=>(p.1,X.v p.2))=S l:=by
     intro l
     induction l with
     |nil=>rfl
     |cons p r ih=>simp[UM,ih]
    rw[this _];rfl)) λag st hx=> ?_
   have hι:ag=ι:=by
    have h1:=st.inv.len
    have h2:=i.len
    apply gQ
    intro n
    cases q:ι[n]? with
    |some p=>exact st.ext n p q
    |none=>
     rw[DC]at q ⊢
     lia
   subst hι
   exact⟨rfl,q _ h' x st hx⟩
end
section
open PySem PyProof.Rows
noncomputable def Ks (key:Keyed->Nat)(xs:Array Keyed)(i:Nat):Nat:=match xs[i]? with
 |some p=>key p
 |none=>0
def d7 (key:Keyed->Nat)(xs:Array Keyed)(lo a:Nat):Prop:=∀i,lo<=i->i+1<a->Ks key xs i<=Ks key xs (i+1)
def DD (key:Keyed->Nat)(xs:Array Keyed)(lo a:Nat):Prop:=∀i,lo<=i->i+1<a->Ks key xs (i+1)<=Ks key xs i
def iC (M:Model)(A:Around)(s:aT)(a:Array Keyed)(kd:SortKind)(key:Keyed->Nat):Prop:=
 ∀(E:Value->aT->Prop) (x y:Keyed) (st:SortSt) (Q:Option Bool->SortSt->Prop),x∈a.toList->y∈a.toList->kindOf st=kd->Q (S (decide (key x<key y))) st->wpS M A E s (lt' x y) Q st
structure SB (aS:Array Keyed)(kd:SortKind)(st:SortSt):Prop where
 perm:(arrOf st).Perm aS
 kind:kindOf st=kd
 failed:failedOf st=J
variable {M:Model} {A:Around} {E:Value->aT->Prop} {s:aT} {aS:Array Keyed} {kd:SortKind} {key:Keyed->Nat}
theorem SB.size {st}(h:SB aS kd st):(arrOf st).size=aS.size:=h.perm.size_eq
theorem SB.set {st}(h:SB aS kd st){xs}(a:xs.Perm (arrOf st)):SB aS kd (setArr st xs):=⟨a.trans h.perm,h.kind,h.failed⟩
theorem SB.get {st}(h:SB aS kd st){i}(b:i<aS.size):∃p,(arrOf st)[i]?=S p/\p∈aS.toList/\key p=Ks key (arrOf st) i:=by
 have a:i<(arrOf st).size:=Zrr h.size b
 refine⟨_,getElem?_pos _ i a,(DE.mp h.perm).mem_iff.mp (by simp),?_⟩
 unfold Ks
 rw[getElem?_pos _ i a];rfl
theorem uy {i j}(h:xs[i]?=a[j]?):Ks key xs i=Ks key a j:=by unfold Ks;rw[h];rfl
theorem wY (L:iC M A s aS kd key){st}{i j}{Q}(a:SB aS kd st)(b:i<aS.size)(c:j<aS.size)
 (h:Q (S (decide (Ks key (arrOf st) i<Ks key (arrOf st) j))) st):wpS M A E s (ltAt' i j) Q st:=by
 refine cD (a.get (key:=key) b) λx k o q=>cD (a.get (key:=key) c) λy r u D=> ?_
 show wpS _ _ _ _ (do let x<-elem' _ i;let y<-elem' _ j;lt' x y) Q st
 rw[DF _ _,DF _ _,k];exact Zrr r (bq (bB (bq (bB (L E x y st Q o u a.kind (by rw[q];exact Zrr D h))))))
theorem DG {i j}(b:j<=xs.size)(k):Ks key (mirror xs i j ((j - i) /2)) k=if i<=k/\k<j then Ks key xs (i+j - 1 - k)else Ks key xs k:=by
 have e:=getElem?_mirror_all (i:=i) b k
 by_cases a:i<=k/\k<j
 . rw[if_pos a]at e ⊢;exact uy e
 . rw[if_neg a]at e ⊢;exact uy e
theorem aaX {a d}(o:a<xs.size)(q:d<=a)(k):
 Ks key (bubble xs a d) k=if k=a - d then Ks key xs a else if a - d<k/\k<=a then Ks key xs (k - 1)else Ks key xs k:=by
 have e:=getElem?_bubble o d q k
 by_cases b:k=a - d
 . rw[if_pos b]at e ⊢;exact uy e
 . rw[if_neg b]at e ⊢
   by_cases c:a - d<k/\k<=a
   . rw[if_pos c]at e ⊢;exact uy e
   . rw[if_neg c]at e ⊢;exact uy e
theorem zP {st}{i j}{Q}(h:Q () (setArr st (mirror (arrOf st) i j ((j - i) /2)))):wpS M A E s (reverseSlice' i j) Q st:=zQ h
structure iD (key:Keyed->Nat)(aS:Array Keyed)(kd:SortKind)(lo:Nat)(st ay:SortSt):Prop where
 sb:SB aS kd ay
 pend:pendingOf ay=pendingOf st
 low:∀i,i<lo->Ks key (arrOf ay) i=Ks key (arrOf st) i
theorem iD.refl {st}{lo}(h:SB aS kd st):iD key aS kd lo st st:=⟨h,rfl,λ_ _=>rfl⟩
theorem iD.trans {st c k}{lo}(a:iD key aS kd lo st c)(b:iD key aS kd lo c k):iD key aS kd lo st k:=⟨b.sb,b.pend.trans a.pend,λi h=>(b.low i h).trans (a.low i h)⟩
theorem iD.rev {st}{lo i j}(h:SB aS kd st)(b:lo<=i)(a:j<=aS.size):iD key aS kd lo st (setArr st (mirror (arrOf st) i j ((j - i) /2))):=
 ⟨h.set (mirror_perm _ _ _ _),rfl,λk hk=>by
  rewrite[DG (Zrr h.size a)];exact Zrr (if_neg (by lia)) rfl⟩
abbrev AS:=Option (Option Nat)×Nat
abbrev DS:=Option (Option Nat)×Nat×Nat
noncomputable def DH (lo:Nat):Nat->AS->StateT SortSt Sem (ForInStep AS):=λ_ c=>do
 let x<-ltAt' (lo+c.snd) (lo+c.snd - 1)
 match x with
 |some a=>if a=ab then pure (ForInStep.done (J,c.snd))else pure (ForInStep.yield (J,c.snd+1))
 |_=>pure (ForInStep.done (S J,c.snd))
noncomputable def aaY (lo:Nat):Nat->DS->StateT SortSt Sem (ForInStep DS):=λ_ c=>do
 let x<-ltAt' (lo+c.snd.fst) (lo+c.snd.fst - 1)
 match x with
 |some b=>
  if b=ab then
   if c.snd.snd>0 then do
    reverseSlice' (lo+c.snd.fst - (c.snd.snd+1)) (lo+c.snd.fst)
    pure (ForInStep.yield (J,c.snd.fst+1,0))
   else pure (ForInStep.yield (J,c.snd.fst+1,0))
  else do
   let x<-ltAt' (lo+c.snd.fst - 1) (lo+c.snd.fst)
   match x with
   |some a=>
    if a=ab then pure (ForInStep.done (J,c.snd.fst,c.snd.snd))
    else pure (ForInStep.yield (J,c.snd.fst+1,c.snd.snd+1))
   |_=>pure (ForInStep.done (S J,c.snd.fst,c.snd.snd))
 |_=>pure (ForInStep.done (S J,c.snd.fst,c.snd.snd))
def wZ (lo a n:Nat):StateT SortSt Sem (Option Nat):=do
 reverseSlice' lo (lo+n)
 let c<-forIn [n:a] ((J,n):AS) (DH lo)
 match c.fst with
 |some r=>pure r
 |none=>pure (S c.snd)
def DJ (lo a n:Nat):StateT SortSt Sem (Option Nat):=do
 liftM (rule "list.sort.descending-run")
 let c<-forIn [n+1:a] ((J,n+1,0):DS) (aaY lo)
 match c.fst with
 |some r=>pure r
 |none=>
  if c.snd.snd>0 then do
   reverseSlice' (lo+c.snd.fst - (c.snd.snd+1)) (lo+c.snd.fst)
   wZ lo a c.snd.fst
  else wZ lo a c.snd.fst
def Flat (key:Keyed->Nat)(xs:Array Keyed)(lo a:Nat):Prop:=∀i,lo<=i->i+1<a->Ks key xs (i+1)=Ks key xs i
section
variable {xs ys:Array Keyed} {lo n hi:Nat}
theorem d7.le (h:d7 key xs lo hi){i j}(c:lo<=i)(a:i<=j)(b:j<hi):Ks key xs i<=Ks key xs j:=by
 refine ao (sT a) λd O=> ?_;subst O
 clear a
 induction d with
 |zero=>exact bb _
 |succ d k=>exact ba (k (gu b)) (h _ (ba c (dH ..)) b)
theorem Flat.eq (h:Flat key xs lo hi){i j}(c:lo<=i)(a:i<=j)(b:j<hi):Ks key xs j=Ks key xs i:=by
 refine ao (sT a) λd O=> ?_;subst O
 clear a
 induction d with
 |zero=>rfl
 |succ d k=>exact(h _ (ba c (dH ..)) b).trans (k (gu b))
theorem w0 {P:Nat->Prop}(h:∀i,lo<=i->i+1<lo+ (n+1)->P i)(e:P (lo+n)):∀i,lo<=i->i+1<lo+ (n+2)->P i:=λi a b=>by
 rcases yE (fA b)with q|q
 . exact h i a q
 . rw[qU q];exact e
theorem w3 {P:Nat->Prop}:∀i,lo<=i->i+1<lo+1->P i:=λ_ a b=>absurd a (KN.mpr (ynU b))
theorem KP (h:lo+n<=xs.size){u v}(e:u+v+1=n):Ks key (mirror xs lo (lo+n) ((lo+n - lo) /2)) (lo+u)=Ks key xs (lo+v):=by
 rw[DG h _];refine Zrr (if_pos ⟨dH ..,i5 (Tg e) _⟩) ?_
 congr 1
 exact Th e
theorem aa0 (h:lo+n<=xs.size){i}(a:lo<=i)(b:i+1<lo+n):∃v,v+1<n/\Ks key (mirror xs lo (lo+n) ((lo+n - lo) /2)) i=Ks key xs (lo+v+1)/\Ks key (mirror xs lo (lo+n) ((lo+n - lo) /2)) (i+1)=Ks key xs (lo+v):=by
 refine ao (sT a) λu O=> ?_;subst O
 exact ao (sT (DK (show lo+ (u+1)<lo+n from b))) λv e=>⟨v,Sp e,KP h (v:=v+1) (Sq e),KP (u:=u+1) h (Sr e)⟩
theorem DL (h:m<=xs.size)(hf:Flat key xs lo m):∀k,Ks key (mirror xs lo m ((m - lo) /2)) k=Ks key xs k:=λk=>by
 rw[DG h _]
 split
 . next q=>
   have a:lo<=lo+m - 1 - k/\lo+m - 1 - k<m:=Tf ‹_›
   exact(k.le_total _).elim (hf.eq q.1 · a.2) λc=>(hf.eq a.1 c q.2).symm
 rfl
end
theorem cj {st}{Q}{c} [Decidable c]{t e:StateT σ _ b}(a:c->wpS M A E s t Q st)(he:¬c->wpS M A E s e Q st):wpS M A E s (if c then t else e) Q st:=by
 by_cases h:c
 . rw[if_pos h];exact a h
 . rw[if_neg h];exact he h
abbrev SS (a:Type):=StateT SortSt Sem a
theorem KQ (L:iC M A s aS kd key){st}{lo a k}{Q:AS->SortSt->Prop}(hn:lo+k<=aS.size)(ha:1<=a)(u:a<=k)(U:SB aS kd st)(Y:d7 key (arrOf st) lo (lo+a))
 (h:∀n,a<=n->n<=k->d7 key (arrOf st) lo (lo+n)->n=k\/Ks key (arrOf st) (lo+n)<Ks key (arrOf st) (lo+n - 1)->Q (J,n) st):wpS M A E s (forIn [a:k] (J,a) (DH lo)) Q st:=by
 refine l4 (I:=λx c q=>q=st/\c=(J,x)/\d7 _ _ lo (lo+x)) (λx c q D H i=> ?_) (λc q i=> ?_) ⟨rfl,rfl,Y⟩
 . refine dp i λO r o=> ?_;clear i;subst O;subst r
   refine ao (lh (fO (ba ha D))) λy O=> ?_;subst O
   exact have hx:=d0 (i5 H lo) hn;bq (wY L U hx (gu hx) (cj (λb=>bB (h _ D (bX H) o (.inr (of_decide_eq_true b)))) λb=>bB ⟨rfl,rfl,w0 o (fB λz=>b (decide_eq_true z))⟩))
 . refine dp i λO r o=> ?_;clear i;subst O;subst r
   rw[KS u]at o ⊢
   exact h _ u (bb _) o (.inl rfl)
theorem KU (L:iC M A s aS kd key){st}{lo a n}{Q}(hn:lo+a<=aS.size)(b:1<=n)(o:n<=a)(q:SB aS kd st)(u:DD key (arrOf st) lo (lo+n))
 (h:∀m c,iD key aS kd lo st c->1<=m->m<=a->d7 key (arrOf c) lo (lo+m)->Q (S m) c):wpS M A E s (wZ lo a n) Q st:=have r:=ba (iE o lo) hn;have K:=iD.rev (key:=key) (i:=lo) q (bb _) r;bq (zP (bq (KQ L hn b o K.sb (λi b x=>cD (aa0 (key:=key) (Zrr q.size r) b x) λv y D H=>D.symm▸H.symm▸u _ (dH ..) (i5 y lo)) λm I O k _=>bB (h m _ K (ba b I) O k))))
inductive DN (key:Keyed->Nat)(aS:Array Keyed)(kd:SortKind)(lo:Nat)(st:SortSt)(x:Nat)(ay:SortSt):DS->Prop
 |mk {y sU}:x=y+ (sU+1)->iD key aS kd lo st ay->DD key (arrOf ay) lo (lo+x)->Flat key (arrOf ay) (lo+y) (lo+x)->DN key aS kd lo st x ay (none,x,sU)
theorem KW (L:iC M A s aS kd key){st a}{lo b x}{Q}(hn:lo+b<=aS.size)(hx:x<=b){c}(i:DN key aS kd lo st x a c)
 (h:∀m a,iD key aS kd lo st a->1<=m->m<=b->d7 key (arrOf a) lo (lo+m)->Q (S m) a):wpS M A E s (match c.fst with
  |some r=>pure r
  |none=>if c.snd.snd>0 then do
   reverseSlice' (lo+c.snd.fst - (c.snd.snd+1)) (lo+c.snd.fst)
   wZ lo b c.snd.fst
   else wZ lo b c.snd.fst) Q a:=by
 cases i with| @mk y I e K q hf=>
 exact have k:1<=x:=e▸mU (dO _);have u:=ba (iE hx lo) hn;cj (λ_=>bq (zP (Zrr (by rw[e,(w6 _ _ _).symm,KY _ _];rfl:lo+x - (I+1)=lo+y) (have D:=K.trans (.rev (i:=lo+y) K.sb (dH ..) u);have H:=DL (Zrr K.sb.size u) hf;KU L hn k hx D.sb (λi k O=>(H _).symm▸(H i).symm▸q i k O) λm U o=>h m _ (D.trans o))))) λ_=>KU L hn k hx K.sb q λm U o=>h m _ (K.trans o)
theorem KZ (L:iC M A s aS kd key){st}{lo o n}{Q}(hn:lo+o<=aS.size)(pF:n<o)(hB:SB aS kd st)(hs:DD key (arrOf st) lo (lo+ (n+1)))
 (h:∀m a,iD key aS kd lo st a->1<=m->m<=o->d7 key (arrOf a) lo (lo+m)->Q (S m) a):wpS M A E s (DJ lo o n) Q st:=by
 refine bq (uz (sr ⟨rfl,bq (l4 (I:=λx c a=>DN _ _ kd lo st x a c) (λx c a DM H i=> ?_) (λc a i=> ?_) (.mk rfl (.refl hB) hs w3))⟩))
 . have k:=d0 (i5 H lo) hn
   cases i with| @mk y O e K r hf=>
   subst e
   refine bq (wY L K.sb k (gu k) (cj (λb=> ?_) λb=> ?_))
   . have U:=w0 r (bX (of_decide_eq_true b))
     refine cj (λ_=>bq (zP (bB ?_))) λ_=>bB (.mk rfl K U w3)
     exact Zrr (by rw[(w6 _ _ _).symm,KY _ _];rfl:lo+ (y+ (O+1)) - (O+1)=lo+y) (have Y:=DL (by rw[K.sb.size];exact bX k) hf;.mk rfl (K.trans (.rev K.sb (dH ..) (bX k))) (λi u D=>(Y _).symm▸(Y i).symm▸U i u D) w3)
   . refine bq (wY L K.sb (gu k) k (cj (λd=>bB (KW L hn (bX H) (.mk rfl K r hf) h)) λd=> ?_))
     . have d:=fB λz=>d (decide_eq_true z)
       refine bB (.mk rfl K (w0 r d) λi u D=> ?_)
       rcases yE (fA D)with q|q
       . exact hf i u q
       . rw[(qU q)];exact cg d (fB λz=>b (decide_eq_true z))
 . rw[KS pF]at i
   exact KW L hn (bb _) i h
def aa1 (lo a:Nat):SS (Option Nat):=forIn [1:a] ((J,1):AS) (DH lo) >>=λc=>match c.1 with
 |some r=>pure r
 |none=>if(c.2==a)=ab then pure (S c.2)
  else if c.2>1 then ltAt' lo (lo+c.2 - 1) >>=λx=>match x with
   |some b=>if b=ab then pure (S c.2)else reverseSlice' lo (lo+c.2) >>=λ_=>DJ lo a c.2
   |_=>pure J
  else DJ lo a c.2
theorem aa3 (lo a):countRun' lo a=aa1 lo a:=by kernel_rfl
theorem wpS_countRun (L:iC M A s aS kd key){st}{lo r}{Q}(hn:lo+r<=aS.size)(a:1<=r)(c:SB aS kd st)
 (h:∀m u,iD key aS kd lo st u->1<=m->m<=r->d7 key (arrOf u) lo (lo+m)->Q (S m) u):wpS M A E s (countRun' lo r) Q st:=by
 rw[aa3 _ _]
 refine bq (KQ L hn (bb _) a c w3 λn D H o I=>cj (λ_=>bB (h n st (.refl c) D H o)) λe=> ?_)
 have x:=ypB H λq=>e (q▸wA)
 have hlt:=I.resolve_left (dx x)
 have y:=d0 (i5 x lo) hn
 refine ao (lh (fO D)) λm O=> ?_;subst O
 refine cj (λ_=>bq (wY L c (eP (dH ..) y) (gu y) (cj (λ_=>bB (h _ st (.refl c) D H o)) λb=>bq (zP (have K:=iD.rev (key:=key) (i:=lo) c (bb _) (bX y);have hf:=λi a k=>cg (ba (o.le (k9 a) (fA k) (iQ _)) (ba (fB λz=>b (decide_eq_true z)) (o.le (bb _) a (gu k)))) (o i a k);have U:=DL (by rw[c.size];exact bX y) hf;KZ L hn x K.sb (λi a k=>(U _).symm▸(U i).symm▸w0 (λi a k=>aK (hf i a k)) (bX hlt) i a k) λm u Y=>h m _ (K.trans Y)))))) λhg=> ?_
 . obtain rfl:m=0:=uB λz=>hg (K0 z)
   exact KZ L hn x c (w0 w3 (bX hlt)) h
abbrev GS:=Option (Option Nat)×Nat×Nat
structure Cut (f:Nat->Bool)(n l r:Nat):Prop where
 le:l<=r
 rn:r<=n
 t:∀i,i<l->f i=ab
 f:∀i,r<=i->i<n->f i=ae
abbrev BS:=Option Bool×Nat×Nat
noncomputable def K1 (lo k:Nat):Nat->BS->SS (ForInStep BS):=λ_ c=>
 if c.2.1 >= c.2.2 then pure (.done (J,c.2.1,c.2.2))
 else ltAt' (lo+k) (lo+ (c.2.1+c.2.2) /2) >>=λx=>match x with
  |some less=>if less=ab then pure (.yield (J,c.2.1,(c.2.1+c.2.2) /2))else pure (.yield (J,(c.2.1+c.2.2) /2+1,c.2.2))
  |_=>pure (.done (S ae,c.2.1,c.2.2))
def K4 (lo n ok:Nat):SS Bool:=forIn [max ok 1:n] ((J,()):Option Bool×Unit) (λk _=>forIn [:k] ((J,0,k):BS) (K1 lo k) >>=λc=>match c.1 with
 |some r=>pure (.done (S r,()))
 |none=>moveDown' (lo+k) (lo+c.2.1) >>=λ_=>pure (.yield (J,()))) >>=λc=>match c.1 with
 |some r=>pure r
 |none=>pure ab
theorem aa5 (lo n ok):binarySort' lo n ok=K4 lo n ok:=by kernel_rfl
inductive K5 (f:Nat->Bool)(k x:Nat):BS->Prop
 |mk {l r}:Cut f k l r->r+x<=k+l->K5 f k x (none,l,r)
theorem aa6 (L:iC M A s aS kd key){st}{lo k}(D:lo+k<aS.size)(U:SB aS kd st)(H:d7 key (arrOf st) lo (lo+k)){Q:BS->SortSt->Prop}(q:∀l,Cut (λi=>decide (Ks key (arrOf st) (lo+i)<=Ks key (arrOf st) (lo+k))) k l l->Q (J,l,l) st):
 wpS M A E s (forIn [:k] (J,0,k) (K1 lo k)) Q st:=by
 refine l4 (I:=λx c o=>o=st/\K5 (λi=>decide (Ks key (arrOf st) (lo+i)<=Ks key (arrOf st) (lo+k))) k x c) (λx c o _ hx h=> ?_) (λc o h=> ?_) ⟨rfl,⟨⟨dO _,bb _,λ_ z=>(nomatch z),λ_ a b=>absurd b (o_.mpr a)⟩,bb _⟩⟩
 . revert h;intro O;refine au O λu h=> ?_;clear O;subst u
   cases h with| @mk l r c h=>
   refine cj (λe=>bB (cg c.le e▸q _ (cg c.le e▸c))) λe=> ?_
   have g:l<=(l+r) /2/\(l+r) /2<r/\(l+r) /2+ (x+1)<=k+l/\r+ (x+1)<=k+ (l+r) /2+1:=S' ‹_› e
   exact have hm:=d0 g.2.1 c.rn;bq (wY L U D (gh (i5 hm lo) D) (cj (λb=>bB ⟨rfl,⟨⟨g.1,bX hm,c.t,λi y Y=>decide_eq_false (KN.mpr (d0 (of_decide_eq_true b) (H.le (dH ..) (iE y _) (i5 Y _))))⟩,g.2.2.1⟩⟩) λb=>bB ⟨rfl,⟨⟨g.2.1,c.rn,λi y=>decide_eq_true (ba (H.le (dH ..) (iE (fA y) _) (i5 hm _)) (fB λz=>b (decide_eq_true z))),c.f⟩,g.2.2.2⟩⟩))
 . revert h;intro O;refine au O λu h=> ?_;clear O;subst u
   cases h with| @mk l r c h=>
   have:l=r:=by have:=c.le;exact HW ‹_› this
   subst this
   exact q _ c
theorem aa7 {lo k l}(I:lo+k<xs.size)(D:d7 key xs lo (lo+k))(c:Cut (λi=>decide (Ks key xs (lo+i)<=Ks key xs (lo+k))) k l l):d7 key (bubble xs (lo+k) (lo+k - (lo+l))) lo (lo+ (k+1))/\∀i,i<lo->Ks key (bubble xs (lo+k) (lo+k - (lo+l))) i=Ks key xs i:=by
 have a:=aaX (key:=key) I ((lo+k).sub_le (lo+l))
 have L:=yqE (iE c.rn lo)
 rw[L]at a
 have o:∀ {i},i<lo+l->Ks _ _ i=Ks _ xs i:=λ{i} h=>by rw[a _,if_neg (dx h)];rewrite[if_neg λz=>K6 h z.1];rfl
 have r:∀ {i},lo+l<=i->i+1<lo+k+1->Ks _ _ _=Ks _ xs i:=λ{i} h Q=>by rw[a _,if_neg (fO (pH h)),if_pos ⟨pH h,fA Q⟩];rfl
 refine⟨λi H x=> ?_,λi h=>o (d0 h (dH ..))⟩
 have y:=ynU x
 rcases i.lt_trichotomy (lo+l)with q|rfl|q
 . rw[o q]
   rcases yE (yO q)with b|b
   . rw[o b];exact D i H (d0 b (iE c.rn lo))
   . rw[show i+1=lo+l from b,a _];refine Zrr (if_pos rfl) (ao (sT H) λu O=> ?_);subst O
     exact of_decide_eq_true (c.t u (DK q))
 . rw[r (bb _) x,a _];exact Zrr (if_pos rfl) (bX (iR (of_decide_eq_false (c.f l (bb _) (DK y)))))
 . refine ao (lh (fO (DQ q))) λj O=> ?_;subst O
   rw[r (bX q) x];exact Zrr (r (fA q) (yC y)) (D j (ba (dH ..) (fA q)) y)
theorem aa8 (L:iC M A s aS kd key){st}{lo n ok}{Q}(hn:lo+n<=aS.size)(r:1<=ok)(u:ok<=n)(x:SB aS kd st)(y:d7 key (arrOf st) lo (lo+ok))
 (h:∀a,iD key aS kd lo st a->d7 key (arrOf a) lo (lo+n)->Q ab a):wpS M A E s (binarySort' lo n ok) Q st:=by
 rw[aa5 _ _ _]
 unfold K4
 rw[Nat.max_eq_left r]
 refine bq (l4 (I:=λk c a=>c=(J,())/\iD key _ kd lo st a/\d7 _ (arrOf a) lo (lo+k)) (λk c a _ o i=> ?_) (λc a i=> ?_) ⟨rfl,.refl x,y⟩)
 . refine dp i λO K b=> ?_;clear i;exact have q:=d0 (i5 o lo) hn;bq (aa6 L q K.sb b λl c=>Zrr (moveDown'_eq _ _) (have hb:=aa7 (Zrr K.sb.size q) b c;bq (zQ (bB ⟨rfl,K.trans ⟨K.sb.set (bubble_perm _ _ _),rfl,hb.2⟩,hb.1⟩))))
 . refine dp i λO K b=> ?_;clear i;subst O
   rw[KS u]at b
   exact bB (h _ K b)
noncomputable def pI:Bool->Keyed->Array Keyed->Nat->Nat->Nat->StateT SortSt Sem (Option Nat):=sortPriv%PySem.Builtin.gallop
def gR (key:Keyed->Nat)(left:Bool)(k:Keyed)(arr:Array Keyed)(base i:Nat):Bool:=
 if left then decide (Ks key arr (base+i)<key k)else decide (Ks key arr (base+i)<=key k)
noncomputable def K7 (left:Bool)(k:Keyed)(arr:Array Keyed)(base i:Nat):StateT SortSt Sem (Option Bool):=do
 let x<-elem' arr (base+i)
 if left=ab then lt' x k else do
  let r<-lt' k x
  pure (Option.map (λx=> !x) r)
structure uC (M:Model)(A:Around)(E:Value->aT->Prop)(s:aT)(f:Nat->Bool)(t:Nat->SS (Option Bool))(n:Nat)(st:SortSt):Prop where
 ok:∀ {i} {R:Option Bool->SortSt->Prop},i<n->R (S (f i)) st->wpS M A E s (t i) R st
 mono:∀ {i j},i<=j->j<n->f j=ab->f i=ab
section
variable {f:Nat->Bool} {t:Nat->SS (Option Bool)} {n hint:Nat} {st:SortSt}
theorem uC.up (T:uC M A E s f t n st){m}(h:f m=ae):∀i,m<=i->i<n->f i=false:=λi a b=>ypK.mpr λe=>by rw[T.mono a b e]at h;exact jc h
noncomputable def aa9 (t:Nat->SS (Option Bool)):Nat->GS->SS (ForInStep GS):=λ_ c=>
 if c.2.1 >= c.2.2 then pure (.done (J,c.2.1,c.2.2))
 else t (c.2.1+ (c.2.2 - c.2.1) /2) >>=λx=>match x with
  |some more=>if more=ab then pure (.yield (J,c.2.1+ (c.2.2 - c.2.1) /2+1,c.2.2))else pure (.yield (J,c.2.1,c.2.1+ (c.2.2 - c.2.1) /2))
  |_=>pure (.done (S J,c.2.1,c.2.2))
def DR (t:Nat->SS (Option Bool))(n lo a:Nat):SS (Option Nat):=forIn [:n] (J,lo,a) (aa9 t) >>=λc=>match c.1 with
 |some r=>pure r
 |none=>pure (S c.2.2)
noncomputable def K8 (t:Nat->SS (Option Bool))(n hint:Nat):Nat->GS->SS (ForInStep GS):=λ_ c=>
 if c.2.2 >= n - hint then pure (.done (J,c.2.1,c.2.2))
 else t (hint+c.2.2) >>=λx=>match x with
  |some more=>if(!more)=ab then pure (.done (J,c.2.1,c.2.2))else pure (.yield (J,c.2.2,2*c.2.2+1))
  |_=>pure (.done (S J,c.2.1,c.2.2))
noncomputable def K9 (t:Nat->SS (Option Bool))(hint:Nat):Nat->GS->SS (ForInStep GS):=λ_ c=>
 if c.2.2 >= hint+1 then pure (.done (J,c.2.1,c.2.2))
 else t (hint - c.2.2) >>=λx=>match x with
  |some a=>if a=ab then pure (.done (J,c.2.1,c.2.2))else pure (.yield (J,c.2.2,2*c.2.2+1))
  |_=>pure (.done (S J,c.2.1,c.2.2))
def K_ (t:Nat->SS (Option Bool))(n hint:Nat):SS (Option Nat):=t hint>>=λx=>match x with
 |some right=>if right=ab then forIn [:n] (J,0,1) (K8 t n hint) >>=λc=>match c.1 with
  |some r=>pure r
  |none=>DR t n (hint+c.2.1+1) (hint+min c.2.2 (n - hint))
  else forIn [:n] (J,0,1) (K9 t hint) >>=λc=>match c.1 with
   |some r=>pure r
   |none=>DR t n (hint+1 - min c.2.2 (hint+1)) (hint - c.2.1)
 |_=>pure J
theorem abb (left)(k)(arr)(base n hint):pI left k arr base n hint=K_ (K7 left k arr base) n hint:=by kernel_rfl
inductive La (f:Nat->Bool)(n x:Nat):GS->Prop
 |mk {l r}:Cut f n l r->r+x<=n+l->La f n x (none,l,r)
theorem Lf (T:uC M A E s f t n st){lo a}(c:Cut f n lo a){Q}(q:∀r,Cut f n r r->Q (S r) st):wpS M A E s (DR t n lo a) Q st:=by
 refine bq (l4 (I:=λx c k=>k=st/\La f n x c) (λx c k _ hx h=> ?_) (λc k h=> ?_) ⟨rfl,⟨c,tQ c.rn (dO _)⟩⟩)
 . revert h;intro O;refine au O λo h=> ?_;clear O;subst o
   cases h with| @mk l r c h=>
   refine cj (λe=>bB (bB (q _ (cg c.le e▸c)))) λe=> ?_
   have hm:l+ (r - l) /2<r:=UG e
   refine bq (T.ok (d0 hm c.rn) (cj (λb=>bB ⟨rfl,⟨⟨hm,c.rn,λi a=>T.mono (fA a) (d0 hm c.rn) b,c.f⟩,(UH ‹_›)⟩⟩) λb=>bB ⟨rfl,⟨⟨dH ..,bX (d0 hm c.rn),c.t,T.up (eq_false_of_ne_true b)⟩,(UI ‹_› hm)⟩⟩))
 . revert h;intro O;refine au O λo h=> ?_;clear O;subst o
   cases h with| @mk l r c h=>
   have:l=r:=by have:=c.le;exact HW ‹_› this
   subst this
   exact bB (q _ c)
inductive Lh (f:Nat->Bool)(hint x:Nat):GS->Prop
 |mk {l o}:x<o->l<o->l<=hint->f (hint - l)=false->Lh f hint x (none,l,o)
theorem abc (T:uC M A E s f t n st)(H:hint<n)(hb:f hint=ae){Q:GS->SortSt->Prop}(q:∀l o,l<o->l<=hint->f (hint - l)=ae->(o<=hint->f (hint - o)=ab)->Q (J,l,o) st):wpS M A E s (forIn [:n] (J,0,1) (K9 t hint)) Q st:=by
 refine l4 (I:=λx c u=>u=st/\Lh f _ x c) (λx c u _ hx h=> ?_) (λc u h=> ?_) ⟨rfl,⟨DT,DT,dO _,hb⟩⟩
 . revert h;intro O;refine au O λy h=> ?_;clear O;subst y
   cases h with| @mk l o D a k r=>
   have g:x+1<2*o+1/\o<2*o+1:=H7 D
   exact cj (λe=>bB (q _ _ a k r λz=>absurd (ba e z) (QZ _))) λe=>bq (T.ok (eP (jA ..) H) (cj (λb=>bB (q _ _ a k r λ_=>b)) λb=>bB ⟨rfl,⟨g.1,g.2,fB e,eq_false_of_ne_true b⟩⟩))
 . revert h;intro O;refine au O λy h=> ?_;clear O;subst y
   cases h with|mk D a k r=>
   exact q _ _ a k r λz=>absurd (d0 D (ba z (bX H))) (by simp)
inductive Li (f:Nat->Bool)(n hint x:Nat):GS->Prop
 |mk {l o}:x<o->l<o->hint+l<n->f (hint+l)=true->Li f n hint x (none,l,o)
theorem abd (T:uC M A E s f t n st)(H:hint<n)(hb:f hint=ab){Q:GS->SortSt->Prop}(q:∀l o,l<o->hint+l<n->f (hint+l)=ab->(hint+o<n->f (hint+o)=ae)->Q (J,l,o) st):wpS M A E s (forIn [:n] (J,0,1) (K8 t n hint)) Q st:=by
 refine l4 (I:=λx c u=>u=st/\Li f n _ x c) (λx c u _ hx h=> ?_) (λc u h=> ?_) ⟨rfl,⟨DT,DT,H,hb⟩⟩
 . revert h;intro O;refine au O λy h=> ?_;clear O;subst y
   cases h with| @mk l o D a k r=>
   have g:x+1<2*o+1/\o<2*o+1:=H7 D
   refine cj (λe=>bB (q _ _ a k r (absurd · (o_.mpr (ynT.mp e))))) λe=> ?_
   have e:=iR λz=>e (ynT.mpr z)
   refine bq (T.ok e (cj (λb=>bB (q _ _ a k r λ_=>(oE _).mp b)) λb=>bB ⟨rfl,⟨g.1,g.2,e,by lia⟩⟩))
 . revert h;intro O;refine au O λy h=> ?_;clear O;subst y
   cases h with|mk D a k r=>
   refine q _ _ a k r λz=>absurd (gh D (eP (zS ..) z)) (by simp)
theorem abe (T:uC M A E s f t n st)(c:hint<n){Q}(q:∀r,Cut f n r r->Q (S r) st):wpS M A E s (K_ t n hint) Q st:=by
 refine bq (T.ok c (cj (λb=>bq (abd T c b λl o x u y D=>Lf T ?_ q)) λb=>bq (abc T c (eq_false_of_ne_true b) λl o x u y D=>Lf T ?_ q)))
 . have hn:=zT (bX c)
   refine⟨iE (rW.mpr ⟨x,Nat.lt_sub_iff_add_lt'.mpr u⟩) _,ba (iE (qo _ _) _) (aK hn),λi a=>T.mono (fA a) u y,λi a H=> ?_⟩
   . have k:hint+o<=i:=by
      refine(o.le_total _).elim (λz=>jI z▸a) λz=> ?_
      . rw[CB z,hn]at a;exact absurd H (o_.mpr a)
     exact T.up (D (eP k H)) i k H
 . refine⟨ba (Nat.sub_le_sub_left (rW.mpr ⟨x,mU u⟩) _) (aK (hint.add_sub_add_right 1 l)),ba (jA ..) (bX c),λi a=> ?_,T.up y⟩
   . have k:=fA (iR λz=>i.not_lt_zero (by rw[CB z,kE]at a;exact a))
     rw[jI (k9 k)]at a
     exact T.mono (fA (Nat.lt_of_lt_of_eq a (Nat.succ_sub k))) (eP (jA ..) c) (D k)
end
theorem DU (L:iC M A s aS kd key){st}{left}{k}{arr}{base n hint}{Q}(b:kindOf st=kd)(hk:k∈aS.toList)(ha:∀i,i<n->∃p,arr[base+i]?=S p/\p∈aS.toList)
 (q:d7 key arr base (base+n))(u:hint<n)
 (h:∀r,r<=n->(∀i,i<r->gR key left k arr base i=ab)->(∀i,r<=i->i<n->gR key left k arr base i=ae)->Q (S r) st):wpS M A E s (pI left k arr base n hint) Q st:=by
 rewrite[abb]
 refine abe ⟨λ{i R} x a=> ?_,λ{i j} y D e=> ?_⟩ u λr c=>h r c.rn c.t c.f
 . refine ah (ha i x) λp o hm=> ?_
   unfold gR Ks at a
   rw[o]at a
   unfold K7
   rw[DF _ _];refine Zrr o (bq (bB ?_))
   cases left
   . refine bq (L E k p st _ hk hm b (bB ?_))
     have:(!decide (key k<key p))=decide (key p<=key k):=by rw[decide_not.symm];exact decide_eq_decide.mpr o_
     show R (S !decide _) st
     exact Zrr this a
   exact L E p k st _ hm hk b a
 . have hl:=q.le (dH ..) (iE y _) (i5 D _)
   cases left
   . exact decide_eq_true (ba hl (of_decide_eq_true e))
   exact decide_eq_true (eP hl (of_decide_eq_true e))
noncomputable def uD:Nat->StateT SortSt Sem Unit:=sortPriv%PySem.Builtin.setMinGallop
noncomputable abbrev nf (st:SortSt)(g:Nat):SortSt:=SortSt.mk' (kindOf st) (arrOf st) (pendingOf st) g (failedOf st)
theorem aiz (g):uD g=modify (nf · g):=rfl
noncomputable def zV:Array Keyed->Array Keyed->StateT SortSt Sem (Array Keyed):=sortPriv%PySem.Builtin.mergeLo
section
variable {a b:Array Keyed}
theorem g7 {st}{Q}(h:arr[i]?=S p)(q:Q p st):wpS M A E s (elem' arr i) Q st:=by
 rw[DF _ _,h];exact bB q
theorem zW {st}{Q}(q:Q () (nf st g)):wpS M A E s (uD g) Q st:=zQ q
def Le (key:Keyed->Nat)(x y:Keyed):Prop:=key x<=key y
structure eA (key:Keyed->Nat)(a b:Array Keyed)(out:Array Keyed)(ia ib:Nat):Prop where
 perm:out.toList.Perm (a.toList.take ia++b.toList.take ib)
 sorted:out.toList.Pairwise (Le key)
 la:∀x∈out.toList,∀y∈a.toList.drop ia,key x<=key y
 lb:∀x∈out.toList,∀y∈b.toList.drop ib,key x<=key y
def Done (key:Keyed->Nat)(a b out:Array Keyed):Prop:=out.toList.Perm (a.toList++b.toList)/\out.toList.Pairwise (Le key)
theorem qX (xs:Array Keyed)(i k):(xs.extract i (i+k)).toList=(xs.toList.drop i).take k:=by simp
theorem zX (xs:Array Keyed)(i):(xs.extract i xs.size).toList=xs.toList.drop i:=by
 rw[ynZ];exact Zrr ymT (gb (by simp))
theorem DW {xs out:Array Keyed}{i}{p}(h:xs[i]?=S p):out.push p=out++xs.extract i (i+1):=by
 apply qY.mp
 rw[zC,se,qX _ _ _]
 have c:=by
  have:=ymE.mp h
  simpa using this.1
 rw[(by
  rw[ov c]
  have:=ymE.mp h
  simpa using this.2:xs.toList.drop i=p::xs.toList.drop (i+1))];rfl
theorem pJ {l:List Keyed}{m k}{x}(h:x∈ (l.drop m).take k):∃i,i<k/\l[m+i]?=S x:=by
 refine ao (w8 h) λi o=>ao o λc e=> ?_;rw[ig,qZ]at c
 refine⟨i,(Nat.lt_min.mp c).1,?_⟩
 rw[List.getElem_take,ypD]at e
 rw[du _,e];rfl
theorem w9 {l:List Keyed}{m}{x}(h:x∈l.drop m):∃i,l[m+i]?=S x:=by
 refine ao (w8 h) λi c=>ao c λk e=> ?_;rw[qZ]at k
 refine⟨i,?_⟩
 rw[ypD]at e
 rw[du _,e];rfl
theorem pK {l:List _}(h:l.Pairwise (Le key)){i j:Nat}{x y}(hx:l[i]?=S x)(c:l[j]?=S y)(k:i<=j):key x<=key y:=by
 refine ao (dk.mp hx) λo O=> ?_;subst O
 refine ao (dk.mp c) λr O=> ?_;subst O
 rcases i.lt_or_ge j with q|q
 . exact Lj.mp h i j o r q
 . have:i=j:=cg k q
   subst this;exact bb _
theorem eA.sW (sa:a.toList.Pairwise (Le key)){out}{c q k}(j:eA key a b out c q)(h:∀x∈ (a.toList.drop c).take k,∀y∈b.toList.drop q,key x<=key y):eA key a b (out++a.extract c (c+k)) (c+k) q:=by
 have e:(out++a.extract c (c+k)).toList=out.toList++ (a.toList.drop c).take k:=by rw[se,qX _ _ _];rfl
 have r:=(sa.sublist (ypF _ _):(a.toList.drop c).Pairwise _)
 rw[<-i6 k (a.toList.drop c),gf]at r
 refine⟨?_,?_,?_,?_⟩
 . rw[e];refine Zrr Lm ((j.perm.append_right _).trans ?_)
   rw[bM _ _ _];exact Zrr (bM _ _ _) (.append_left _ DX)
 . rw[e];exact Zrr (propext gf) ⟨j.sorted,r.1,λx hx y o=>j.la x hx y (oF o)⟩
 . rw[e];exact Zrr (by simp:a.toList.drop (c+k)=(a.toList.drop c).drop k) λx hx y o=>(b8.mp hx).elim (j.la x · y (zY o)) (r.2.2 x · y o)
 exact Zrr e λx hx y o=>(b8.mp hx).elim (j.lb x · y o) (h x · y o)
theorem eA.sX (sb:b.toList.Pairwise (Le key)){out}{q c k}(j:eA key a b out q c)(h:∀x∈ (b.toList.drop c).take k,∀y∈a.toList.drop q,key x<=key y):eA key a b (out++b.extract c (c+k)) q (c+k):=by
 have e:(out++b.extract c (c+k)).toList=out.toList++ (b.toList.drop c).take k:=by rw[se,qX _ _ _];rfl
 have r:=(sb.sublist (ypF _ _):(b.toList.drop c).Pairwise _)
 rw[<-i6 k (b.toList.drop c),gf]at r
 refine⟨?_,?_,?_,?_⟩
 . rw[e,Lm];exact Zrr (bM _ _ _).symm (j.perm.append_right _)
 . rw[e];exact Zrr (propext gf) ⟨j.sorted,r.1,λx hx y o=>j.lb x hx y (oF o)⟩
 . exact Zrr e λx hx y o=>(b8.mp hx).elim (j.la x · y o) (h x · y o)
 . rw[e];exact Zrr (by simp:b.toList.drop (c+k)=(b.toList.drop c).drop k) λx hx y o=>(b8.mp hx).elim (j.lb x · y (zY o)) (r.2.2 x · y o)
theorem eA.uE (sa:a.toList.Pairwise (Le key))(sb:b.toList.Pairwise (Le key)){out}{k c}{p q}(j:eA key a b out k c)(o:a[k]?=S p)(u:b[c]?=S q)(h:key p<=key q):eA key a b (out.push p) (k+1) c:=by
 rw[DW o]
 refine j.sW sa λx hx y D=>ah (pJ hx) λi H r=>ao (w9 D) λm I=> ?_
 have:i=0:=q4 H
 subst this
 rw[tP,eL,o]at r
 cases r
 have:=pK sb (i:=c) (by rw[eL];exact u) I (by simp)
 exact ba ‹_› ‹_›
theorem eA.uF (sa:a.toList.Pairwise (Le key))(sb:b.toList.Pairwise (Le key)){out}{c k}{p q}(j:eA key a b out c k)(u:a[c]?=S p)(o:b[k]?=S q)(h:key q<=key p):eA key a b (out.push q) c (k+1):=by
 rw[DW o]
 refine j.sX sb λx hx y D=>ah (pJ hx) λi H r=>ao (w9 D) λm I=> ?_
 have:i=0:=q4 H
 subst this
 rw[tP,eL,o]at r
 cases r
 have:=pK sa (i:=c) (by rw[eL];exact u) I (by simp)
 exact ba ‹_› ‹_›
theorem eA.DY (sa:a.toList.Pairwise (Le key))(sb:b.toList.Pairwise (Le key)){out}{c o k}{q}(j:eA key a b out c o)(D:b[o]?=S q)(h:∀i,i<k->gR key ae q a c i=ab):eA key a b (out++a.extract c (c+k)) (c+k) o:=by
 refine j.sW sa λx hx y H=>ah (pJ hx) λi I u=>ao (w9 H) λm L=> ?_
 have r:=h i I
 unfold gR Ks at r
 rw[eL]at u
 rw[u]at r
 have:=pK sb (Zrr eL D) L (by simp)
 simp at r
 exact ba ‹_› ‹_›
theorem eA.DZ (sa:a.toList.Pairwise (Le key))(sb:b.toList.Pairwise (Le key)){out}{o c k}{p}(j:eA key a b out o c)(u:a[o]?=S p)(h:∀i,i<k->gR key ab p b c i=ab):eA key a b (out++b.extract c (c+k)) o (c+k):=by
 refine j.sX sb λx hx y D=>ah (pJ hx) λi H r=>ao (w9 D) λm I=> ?_
 have q:=h i H
 unfold gR Ks at q
 rw[eL]at r
 rw[r]at q
 have:=pK sa (Zrr eL u) I (by simp)
 simp at q
 lia
theorem eA.done (sa:a.toList.Pairwise (Le key))(sb:b.toList.Pairwise (Le key)){out}{c o}(j:eA key a b out c o)(h:a.size<=c\/b.size<=o):Done key a b (out++a.extract c a.size++b.extract o b.size):=by
 have r:=(j.sW (k:=a.size - c) sa λx hx y q=>by
  rcases h with h|h
  . exact ah (pJ hx) λi u _=>(Rj h u)
  . rw[sF (by simpa using h)]at q;cases q).sX (k:=b.size - o) sb λx hx y q=>by
  rw[sF (by simp;exact q0)]at q;cases q
 have D:a.extract c (c+ (a.size - c))=a.extract c a.size:=by
  apply qY.mp;rw[qX _ _ _,zX _ _];exact gb (by simp)
 rw[D,(by
  apply qY.mp;rw[qX _ _ _];rw[zX _ _];exact gb (by simp):b.extract o _=b.extract o b.size)]at r
 refine⟨r.perm.trans (Zrr (gb (by simp;exact q0)) (Zrr (gb (by simp;exact q0)) ?_)),r.sorted⟩;rfl
theorem eA.last (sa:a.toList.Pairwise (Le key))(sb:b.toList.Pairwise (Le key)){out}{c o}(j:eA key a b out c o)(h:c+1=a.size)(hl:∀x∈b.toList,Ks key a (a.size - 1) >= key x):Done key a b (out++b.extract o b.size++a.extract c a.size):=by
 have r:=(j.sX (k:=b.size - o) sb λx hx y q=>by
  refine ao (w9 q) λm u=> ?_
  have hm:=(dk.mp u).1
  have:m=0:=by simp at hm;lia
  subst this
  have:=hl x (zY (oF hx))
  unfold Ks at this
  rw[eL,tP]at u
  rw[show a.size - 1=c by exact Tc h,u]at this
  exact this).sW (k:=a.size - c) sa λx hx y q=>by
  rw[sF (by simp;exact q0)]at q;cases q
 have D:a.extract c (c+ (a.size - c))=a.extract c a.size:=by
  apply qY.mp;rw[qX _ _ _,zX _ _];exact gb (by simp)
 rw[D,(by
  apply qY.mp;rw[qX _ _ _];rw[zX _ _];exact gb (by simp):b.extract o _=b.extract o b.size)]at r
 refine⟨r.perm.trans (Zrr (gb (by simp;exact q0)) (Zrr (gb (by simp;exact q0)) ?_)),r.sorted⟩;rfl
end
section
variable {a b:Array Keyed}
structure SG (st ay:SortSt):Prop where
 arr:arrOf ay=arrOf st
 kind:kindOf ay=kindOf st
 pend:pendingOf ay=pendingOf st
 fail:failedOf ay=failedOf st
theorem SG.trans {st c o}(h:SG st c)(k:SG c o):SG st o:=⟨k.arr.trans h.arr,k.kind.trans h.kind,k.pend.trans h.pend,k.fail.trans h.fail⟩
theorem SG.ng {st c}(h:SG st c)(g):SG st (nf c g):=⟨h.arr,h.kind,h.pend,h.fail⟩
theorem abf (h:xs.toList.Pairwise (Le key))(i j)(k:j<=xs.size):d7 key xs i j:=by
 intro x _ c
 have c:=d0 c k
 unfold Ks
 rw[zL c,zL (gu c)]
 exact pK h (by simp) (by simp) x.le_succ
theorem D0 {q p}{base i}(h:gR key ae q arr base i=ae)(c:arr[base+i]?=S p):key q<=key p:=by
 unfold gR Ks at h
 rw[c]at h
 simp at h
 exact bX ‹_›
theorem D1 {q p}{base i}(h:gR key ab q arr base i=ae)(c:arr[base+i]?=S p):key q<=key p:=by
 unfold gR Ks at h
 rw[c]at h
 simpa using h
theorem oG {x y:Nat}(h:¬(x==y)=ab):x≠y:=λe=>h (e▸wA)
theorem w_ {x y:Nat}(h:(x==y)=ab):y<=x:=aK (eq_of_beq h).symm
theorem pL {x y:Nat}(l:x<=y)(h:¬(x==y)=ab):x<y:=ypB l (oG h)
structure MA (M:Model)(A:Around)(s:aT)(aS:Array Keyed)(kd:SortKind)(key:Keyed->Nat)(a b:Array Keyed):Prop where
 lt:iC M A s aS kd key
 ha:∀i,i<a.size->∃p,a[i]?=S p/\p∈aS.toList
 hb:∀i,i<b.size->∃p,b[i]?=S p/\p∈aS.toList
 sa:a.toList.Pairwise (Le key)
 sb:b.toList.Pairwise (Le key)
abbrev RA:=Option (Array Keyed)
structure TQ {τ:Type}(G D:τ->Prop)(Q:ForInStep τ->Prop):Prop where
 d:∀ {c},D c->Q (.done c)
 g:∀ {c},G c->Q (.done c)/\Q (.yield c)
inductive Dn {β:Type}(key:Keyed->Nat)(a b:Array Keyed):RA×β->Prop
 |mk {r d}:Done key a b r->Dn key a b (some r,d)
theorem zZ {k n e}{f:Nat->u->SS _}{P:SortSt->Prop}{G:Nat->u->Prop}{D}(he:e<=k)(mono:∀ {m q c},m<=q->G q c->G m c)
 (step:∀x c st,P st->G n c->∀Q,(∀o,P o->TQ (G (n+e)) D (Q · o))->wpS M A E s (f x c) Q st){Q}
 (y:∀c st,P st->D c->Q c st)(r:∀c st,P st->G (n+e) c->Q c st){c}{st}(i:G n c)(H:P st):wpS M A E s (forIn [:k] c f) Q st:=
 l4 (I:=λx c st=>P st/\G (n+min x e) c) (λx c st _ _ h=>step x c st h.1 (mono (dH ..) h.2) _ λo p=>⟨y _ o p,λg=>⟨r _ _ p g,p,mono (iE (qo ..) n) g⟩⟩)
  (λc st h=>r c st h.1 (mono (by rw[Ln _,CB he];exact bb _) h.2)) ⟨H,mono (bb _) i⟩
noncomputable def dn (a b out:Array Keyed)(c k:Nat):Array Keyed:=out++a.extract c a.size++b.extract k b.size
noncomputable def dl (a b out:Array Keyed)(c k:Nat):Array Keyed:=out++b.extract k b.size++a.extract c a.size
abbrev LT:=RA×Array Keyed×Nat×Nat×Nat×Nat×Nat
def D2 (a b:Array Keyed)(mg ac k:Nat)(out:Array Keyed)(c o:Nat):SS (ForInStep LT):=elem' a c>>=λp=>
 if(c+1+1==a.size)=ab then pure (.done (S (dl a b (out.push p) (c+1) o),out.push p,c+1,o,mg,ac,k))
 else if(decide (ac<7) &&decide (k<7))=ab then pure (.done (J,out.push p,c+1,o,mg,ac,k))else pure (.yield (J,out.push p,c+1,o,mg,ac,k))
def D3 (a b:Array Keyed)(mg ac r:Nat)(out:Array Keyed)(o c:Nat):SS (ForInStep LT):=elem' b c>>=λq=>
 if(c+1==b.size)=ab then pure (.done (S (dn a b (out.push q) o (c+1)),out.push q,o,c+1,mg,ac,r))
 else elem' a o>>=λp=>pI ab p b (c+1) (b.size - (c+1)) 0>>=λx=>match x with
  |some k=>if k>0 then
   if(c+1+k==b.size)=ab then pure (.done (S (dn a b (out.push q++b.extract (c+1) (c+1+k)) o (c+1+k)),out.push q++b.extract (c+1) (c+1+k),o,c+1+k,mg,ac,k))
   else D2 a b mg ac k (out.push q++b.extract (c+1) (c+1+k)) o (c+1+k)
   else D2 a b mg ac k (out.push q) o (c+1)
  |_=>pure (.done (S (dn a b (out.push q) o (c+1)),out.push q,o,c+1,mg,ac,r))
def lo1 (a b:Array Keyed)(r:Nat)(out:Array Keyed)(c o u mg:Nat):SS (ForInStep LT):=uD mg>>=λ_=>elem' b o>>=λq=>pI ae q a c (a.size - c) 0>>=λx=>match x with
 |some k=>if k>0 then
  if(c+k+1==a.size)=ab then pure (.done (S (dl a b (out++a.extract c (c+k)) (c+k) o),out++a.extract c (c+k),c+k,o,mg,k,r))
  else if(c+k==a.size)=ab then pure (.done (S (dn a b (out++a.extract c (c+k)) (c+k) o),out++a.extract c (c+k),c+k,o,mg,k,r))
  else D3 a b mg k r (out++a.extract c (c+k)) (c+k) o
  else D3 a b mg k r out c o
 |_=>pure (.done (S (dn a b out c o),out,c,o,mg,u,r))
def loG (a b:Array Keyed):Nat->LT->SS (ForInStep LT):=λ_ c=>
 if c.2.2.2.2.1>1 then lo1 a b c.2.2.2.2.2.2 c.2.1 c.2.2.1 c.2.2.2.1 c.2.2.2.2.2.1 (c.2.2.2.2.1 - 1)else lo1 a b c.2.2.2.2.2.2 c.2.1 c.2.2.1 c.2.2.2.1 c.2.2.2.2.2.1 c.2.2.2.2.1
def Lo (a b:Array Keyed)(mg:Nat):Nat->RA×Array Keyed×Nat×Nat×Nat×Nat->SS (ForInStep (RA×Array Keyed×Nat×Nat×Nat×Nat)):=λ_ c=>
 elem' b c.2.2.2.1>>=λy=>elem' a c.2.2.1>>=λx=>lt' y x>>=λw=>match w with
 |some w=>if w=ab then elem' b c.2.2.2.1>>=λq=>
  if(c.2.2.2.1+1==b.size)=ab then pure (.done (S (dn a b (c.2.1.push q) c.2.2.1 (c.2.2.2.1+1)),c.2.1.push q,c.2.2.1,c.2.2.2.1+1,0,c.2.2.2.2.2+1))
  else if c.2.2.2.2.2+1 >= mg then pure (.done (J,c.2.1.push q,c.2.2.1,c.2.2.2.1+1,0,c.2.2.2.2.2+1))else pure (.yield (J,c.2.1.push q,c.2.2.1,c.2.2.2.1+1,0,c.2.2.2.2.2+1))
  else elem' a c.2.2.1>>=λp=>
   if(c.2.2.1+1+1==a.size)=ab then pure (.done (S (dl a b (c.2.1.push p) (c.2.2.1+1) c.2.2.2.1),c.2.1.push p,c.2.2.1+1,c.2.2.2.1,c.2.2.2.2.1+1,0))
   else if c.2.2.2.2.1+1 >= mg then pure (.done (J,c.2.1.push p,c.2.2.1+1,c.2.2.2.1,c.2.2.2.2.1+1,0))else pure (.yield (J,c.2.1.push p,c.2.2.1+1,c.2.2.2.1,c.2.2.2.2.1+1,0))
 |_=>pure (.done (S (dn a b c.2.1 c.2.2.1 c.2.2.2.1),c.2.1,c.2.2.1,c.2.2.2.1,c.2.2.2.2.1,c.2.2.2.2.2))
def Lp (a b:Array Keyed):Nat->RA×Array Keyed×Nat×Nat×Nat->SS (ForInStep (RA×Array Keyed×Nat×Nat×Nat)):=λ_ c=>
 forIn [:a.size+b.size] (J,c.2.1,c.2.2.1,c.2.2.2.1,0,0) (Lo a b c.2.2.2.2) >>=λd=>match d.1 with
 |some r=>pure (.done (S r,d.2.1,d.2.2.1,d.2.2.2.1,c.2.2.2.2))
 |none=>(liftM (rule "list.sort.gallop"):SS Unit) >>=λ_=>
  forIn [:a.size+b.size] (J,d.2.1,d.2.2.1,d.2.2.2.1,c.2.2.2.2+1,d.2.2.2.2.1,d.2.2.2.2.2) (loG a b) >>=λd=>match d.1 with
  |some r=>pure (.done (S r,d.2.1,d.2.2.1,d.2.2.2.1,d.2.2.2.2.1))
  |none=>uD (d.2.2.2.2.1+1) >>=λ_=>pure (.yield (J,d.2.1,d.2.2.1,d.2.2.2.1,d.2.2.2.2.1+1))
theorem abg (a b):zV a b=(liftM (rule "list.sort.merge-lo"):SS _) >>=λ_=>elem' b 0>>=λq=>
 if(1==b.size)=ab then pure (dn a b #[q] 0 1)
 else if(0+1==a.size)=ab then pure (dl a b #[q] 0 1)
 else get>>=λst=>forIn [:a.size+b.size] (J,#[q],0,1,gallopOf st) (Lp a b) >>=λd=>match d.1 with
  |some r=>pure r
  |none=>liftM (unsupported "internal:list.sort.merge-bound"):=by kernel_rfl
structure uG (key:Keyed->Nat)(a b:Array Keyed)(n:Nat)(out:Array Keyed)(ia ib:Nat):Prop where
 j:eA key a b out ia ib
 la:ia+1<a.size
 lb:ib<b.size
 m:n<=ia+ib
inductive l5 {δ:Type}(key:Keyed->Nat)(a b:Array Keyed)(n:Nat):RA×Array Keyed×Nat×Nat×δ->Prop
 |mk {o i j d}:uG key a b n o i j->l5 key a b n (none,o,i,j,d)
theorem l5.mono {c:RA×Array _×Nat×Nat×k}(l:m<=n)(h:l5 key a b n c):l5 key a b m c:=by
 cases h with|mk h=>exact⟨h.j,h.la,h.lb,ba l h.m⟩
section
variable {st:SortSt} {n mg ac bc ia ib:Nat} {out:Array Keyed}
theorem MA.ng (W:MA M A s aS kd key a b)(hk:kindOf st=kd){left}{k}{arr}{base n hint}{Q}(m:k∈aS.toList)(ha:∀i,i<arr.size->∃p,arr[i]?=S p/\p∈aS.toList)
 (c:arr.toList.Pairwise (Le key))(e:base+n<=arr.size)(o:hint<n)(h:∀r,r<=n->(∀i,i<r->gR key left k arr base i=ab)->(∀i,r<=i->i<n->gR key left k arr base i=ae)->Q (S r) st):wpS M A E s (pI left k arr base n hint) Q st:=
 DU W.lt hk m (λi q=>ha _ (d0 (i5 q _) e)) (abf c _ _ e) o h
variable (W:MA M A s aS kd key a b) (hl:∀x∈b.toList,Ks key a (a.size - 1) >= key x)
include W hl
theorem Lq (i:uG key a b n out ia ib)(le:∀p q,a[ia]?=S p->b[ib]?=S q->key p<=key q)(q:TQ (l5 key a b n) (Dn key a b) (Q · st)):wpS M A E s (D2 a b mg ac bc out ia ib) Q st:=ah (W.hb ib i.lb) λq0 eq _=>ah (W.ha ia (gu i.la)) λp k _=>have o:=i.j.uE W.sa W.sb k eq (le p q0 k eq);bq (g7 k (cj (λe=>bB (q.d ⟨o.last W.sa W.sb (eq_of_beq e) hl⟩)) λe=>have g:=q.g (c:=(J,_,_,_,mg,ac,bc)) ⟨o,pL i.la e,i.lb,ba i.m (Sw)⟩;cj (λ_=>bB g.1) λ_=>bB g.2))
theorem Lu (hk:kindOf st=kd){Q}(i:uG key a b n out ia ib)(le:∀p q,a[ia]?=S p->b[ib]?=S q->key q<=key p)(q:TQ (l5 key a b n) (Dn key a b) (Q · st)):wpS M A E s (D3 a b mg ac bc out ia ib) Q st:=by
 refine ah (W.hb ib i.lb) λq0 eq _=>ah (W.ha ia (gu i.la)) λp c mp=> ?_
 have o:=i.j.uF W.sa W.sb c eq (le p q0 c eq)
 refine bq (g7 eq (cj (λe=>bB (q.d ⟨o.done W.sa W.sb (.inr (w_ e))⟩)) λe=> ?_))
 have lb:=pL i.lb e
 have hm:n<=ia+ (ib+1):=k9 i.m
 refine bq (g7 c (bq (W.ng hk mp W.hb W.sb (aK (zT i.lb)) (D4 lb) λk u D H=> ?_)))
 have nx:ib+1+k<b.size->∀x y,a[ia]?=S x->b[ib+1+k]?=S y->key x<=key y:=λh x y ex I=>by
  rw[c]at ex;cases ex
  exact D1 (H k k.le_refl (yoH (n5 .. ▸h))) I
 refine cj (λ_=>have r:=o.DZ W.sa W.sb c D;cj (λe=>bB (q.d ⟨r.done W.sa W.sb (.inr (w_ e))⟩)) λe=>have l:=pL (show ib+1+k<=b.size by exact Q0 u ‹_›) e;Lq W hl ⟨r,i.la,l,ba hm (iE (dH ..) _)⟩ (nx l) q) λh0=> ?_
 . obtain rfl:=uB h0
   exact Lq W hl ⟨o,i.la,lb,hm⟩ (nx lb) q
theorem Lv (hk:kindOf st=kd){Q}(i:uG key a b n out ia ib)(q:TQ (l5 key a b n) (Dn key a b) (Q · (nf st mg))):wpS M A E s (lo1 a b bc out ia ib ac mg) Q st:=by
 refine ah (W.hb ib i.lb) λq0 eq r=> ?_
 have la:=gu i.la
 refine bq (zW (bq (g7 eq (bq (W.ng (st:=nf st mg) hk r W.ha W.sa (aK (zT (bX la))) (D4 la) λk u D H=> ?_)))))
 have nx:ia+k<a.size->∀x y,a[ia+k]?=S x->b[ib]?=S y->key y<=key x:=λh x y ex o=>by
  rw[eq]at o;cases o
  exact D0 (H k k.le_refl (yoH (n5 .. ▸h))) ex
 refine cj (λ_=>have c:=i.j.DY W.sa W.sb eq D;cj (λe=>bB (q.d ⟨c.last W.sa W.sb (eq_of_beq e) hl⟩)) λe=>cj (λe=>bB (q.d ⟨c.done W.sa W.sb (.inl (w_ e))⟩)) λI=>have l:=pL (pL (show ia+k<=a.size by exact Tb u ‹_›) I) e;Lu W hl (st:=nf st mg) hk ⟨c,l,i.lb,ba i.m (uH (dH ..) _)⟩ (nx (gu l)) q) λh0=> ?_
 . obtain rfl:=uB h0
   exact Lu W hl (st:=nf st mg) hk i (nx la) q
theorem abh (hk:kindOf st=kd){Q}{x}(i:uG key a b n out ia ib)(q:TQ (l5 key a b (n+1)) (Dn key a b) (Q · st)):wpS M A E s (Lo a b mg x (J,out,ia,ib,ac,bc)) Q st:=ah (W.hb ib i.lb) λq0 eq r=>ah (W.ha ia (gu i.la)) λp o mp=>bq (g7 eq (bq (g7 o (bq (W.lt E q0 p st _ r mp hk (cj (λh=>bq (g7 eq (have k:=i.j.uF W.sa W.sb o eq (bX (of_decide_eq_true h));cj (λe=>bB (q.d ⟨k.done W.sa W.sb (.inr (w_ e))⟩)) λe=>have g:=q.g (c:=(J,_,_,_,0,bc+1)) ⟨k,i.la,pL i.lb e,mU i.m⟩;cj (λ_=>bB g.1) λ_=>bB g.2))) λh=>bq (g7 o (have k:=i.j.uE W.sa W.sb o eq (fB (of_decide_eq_false (eq_false_of_ne_true h)));cj (λe=>bB (q.d ⟨k.last W.sa W.sb (eq_of_beq e) hl⟩)) λe=>have g:=q.g (c:=(J,_,_,_,ac+1,0)) ⟨k,pL i.la e,i.lb,HF .. ▸mU i.m⟩;cj (λ_=>bB g.1) λ_=>bB g.2))))))))
theorem abi (hk:kindOf st=kd){Q}{x}(i:uG key a b n out ia ib)(q:∀o c,SG st o->Dn key a b c->Q (.done c) o)(r:∀o c,SG st o->l5 key a b (n+1) c->Q (.yield c) o):wpS M A E s (Lp a b x (J,out,ia,ib,mg)) Q st:=by
 refine bq (zZ (G:=l5 _ a b) (D:=Dn key a b) (yqF (DQ i.la) _) .mono (λx c o k g Q h=> ?_) (λc o k h=> ?_) (λc o k g=> ?_) ⟨i⟩ (⟨rfl,rfl,rfl,rfl⟩:SG st st))
 . cases g with|mk g=>exact abh W hl (k.kind.trans hk) g (h _ k)
 . cases h with|mk h=>exact bB (q _ _ k ⟨h⟩)
 cases g with|mk g=>
  refine bq (uz (sr ⟨rfl,bq (zZ (G:=l5 _ a b) (D:=Dn key a b) (dO _) .mono (λx c o k g Q h=> ?_) (λc o k h=> ?_) (λc o k g=> ?_) ⟨g⟩ k)⟩))
  . cases g with|mk g=>exact cj (λ_=>Lv W hl (k.kind.trans hk) g (h _ (k.ng _))) λ_=>Lv W hl (k.kind.trans hk) g (h _ (k.ng _))
  . cases h with|mk h=>exact bB (q _ _ k ⟨h⟩)
  cases g with|mk g=>exact bq (zW (bB (r _ _ (k.ng _) ⟨g⟩)))
theorem abj (hk:kindOf st=kd)(L:1<=a.size)(U:1<=b.size)(h0:Ks key b 0<=Ks key a 0)(h:∀out k,SG st k->Done key a b out->Q out k):wpS M A E s (zV a b) Q st:=by
 rw[abg _ _]
 refine ah (W.hb 0 U) λb0 q _=>ah (W.ha 0 L) λa0 Y _=> ?_
 have r:=(eA.mk (out:= #[]) (by simp) (by simp) (by simp) (by simp)).uF W.sa W.sb Y q (by unfold Ks at h0;rw[Y,q]at h0;exact h0)
 have u:SG st st:=⟨rfl,rfl,rfl,rfl⟩
 refine bq (uz (sr ⟨rfl,bq (g7 q (cj (λe=>bB (h _ st u (r.done W.sa W.sb (.inr (w_ e))))) λe=>cj (λy=>bB (h _ st u (r.last W.sa W.sb (eq_of_beq y) hl))) λy=>bq (sZ (bq (l4 (I:=λx c k=>SG st k/\l5 _ a b (x+1) c) (λx c k _ _ i=> ?_) (λc k i=> ?_) ⟨u,⟨⟨r,pL L y,pL U e,bb _⟩⟩⟩)))))⟩))
 . revert i;intro O;refine au O λo i=> ?_;clear O
   cases i with|mk i=>
   exact abi W hl (o.kind.trans hk) i (λfG c D H=>by cases H with|mk H=>exact bB (h _ _ (o.trans D) H)) λfG c D g=>⟨o.trans D,g⟩
 . revert i;intro O;refine au O λo i=> ?_;clear O
   cases i with|mk i=>
   have:=i.la;have:=i.lb;have:=i.m;exact TA ‹_› ‹_› this
end
end
noncomputable def z0:Array Keyed->Array Keyed->StateT SortSt Sem (Array Keyed):=sortPriv%PySem.Builtin.mergeHi
section
variable {a b:Array Keyed}
structure JH (key:Keyed->Nat)(a b:Array Keyed)(out:Array Keyed)(na nb:Nat):Prop where
 perm:out.toList.reverse.Perm (a.toList.drop na++b.toList.drop nb)
 sorted:out.toList.reverse.Pairwise (Le key)
 la:∀x∈out.toList,∀y∈a.toList.take na,key y<=key x
 lb:∀x∈out.toList,∀y∈b.toList.take nb,key y<=key x
theorem aiA (xs:Array Keyed)(i j):(xs.extract i j).toList=(xs.toList.drop i).take (j - i):=by simp
theorem aiB (xs:Array Keyed)(j):(xs.extract 0 j).toList=xs.toList.take j:=by simp
theorem Lw {xs out:Array Keyed}{i}{p}(h:xs[i]?=S p):out.push p=out++ (xs.extract i (i+1)).reverse:=by
 have:=DW (out:= #[]) h
 have e:=by simpa using this.symm
 rw[e];simp
theorem xb {l:List Keyed}{m}{x}(h:x∈l.take m):∃i,i<m/\l[i]?=S x:=
 ao (uI h) λi e=>have e:=xc.symm.trans e;if q:i<m then⟨i,q,(if_pos q).symm.trans e⟩else aD ((if_neg q).symm.trans e)
theorem Lx {l:List Keyed}{i j}(h:i<=j):l.drop i=(l.drop i).take (j - i)++l.drop j:=by
 have e:=i6 (j - i) (l.drop i)
 rw[yqP,show i+ (j - i)=j by exact HN h]at e
 exact e.symm
theorem uJ {l:List Keyed}{i j}(h:i<=j):l.take j=l.take i++ (l.drop i).take (j - i):=by
 have e:=Lm (l:=l) (i:=i) (j:=j - i)
 rwa[show i+ (j - i)=j by exact HN h]at e
theorem JH.sW (sa:a.toList.Pairwise (Le key)){out}{c q at_}(o:at_<=c)(j:JH key a b out c q)(h:∀x∈ (a.toList.drop at_).take (c - at_),∀y∈b.toList.take q,key y<=key x):JH key a b (out++ (a.extract at_ c).reverse) at_ q:=by
 have e:(out++ (a.extract at_ c).reverse).toList=out.toList++ ((a.toList.drop at_).take (c - at_)).reverse:=by simp
 have st:(a.toList.take c).Pairwise _:=sa.sublist (uK _ _)
 rw[uJ o,gf]at st
 refine⟨?_,?_,?_,?_⟩
 . rw[e,z5,z6 _]
   conv=>rhs;rw[Lx (l:=a.toList) o]
   exact Zrr (bM _ _ _) (.append_left _ j.perm)
 . rw[e,z5,z6 _];exact Zrr (propext gf) ⟨st.2.1,j.sorted,λx hx y k=>j.la y (oH.mp k) x (by rw[uJ o];exact ik _ hx)⟩
 . exact Zrr e λx hx y k=>(b8.mp hx).elim (j.la x · y (by rw[uJ o];exact fh _ k)) λhx=>st.2.2 y k x (oH.mp hx)
 exact Zrr e λx hx y k=>(b8.mp hx).elim (j.lb x · y k) λhx=>h x (oH.mp hx) y k
theorem JH.sX (sb:b.toList.Pairwise (Le key)){out}{q c at_}(o:at_<=c)(j:JH key a b out q c)(h:∀x∈ (b.toList.drop at_).take (c - at_),∀y∈a.toList.take q,key y<=key x):JH key a b (out++ (b.extract at_ c).reverse) q at_:=by
 have e:(out++ (b.extract at_ c).reverse).toList=out.toList++ ((b.toList.drop at_).take (c - at_)).reverse:=by simp
 have st:(b.toList.take c).Pairwise _:=sb.sublist (uK _ _)
 rw[uJ o,gf]at st
 refine⟨?_,?_,?_,?_⟩
 . rw[e,z5,z6 _]
   conv=>rhs;rw[Lx (l:=b.toList) o]
   refine(z7 _ j.perm).trans ?_
   rw[(bM _ _ _).symm];exact Zrr (bM _ _ _).symm (.append_right _ DX)
 . rw[e,z5,z6 _];exact Zrr (propext gf) ⟨st.2.1,j.sorted,λx hx y k=>j.lb y (oH.mp k) x (by rw[uJ o];exact ik _ hx)⟩
 . exact Zrr e λx hx y k=>(b8.mp hx).elim (j.la x · y k) λhx=>h x (oH.mp hx) y k
 exact Zrr e λx hx y k=>(b8.mp hx).elim (j.lb x · y (by rw[uJ o];exact fh _ k)) λhx=>st.2.2 y k x (oH.mp hx)
theorem JH.uE (sa:a.toList.Pairwise (Le key))(sb:b.toList.Pairwise (Le key)){out}{k c}{p q}(j:JH key a b out (k+1) (c+1))(o:a[k]?=S p)(u:b[c]?=S q)(h:key q<=key p):JH key a b (out.push p) k (c+1):=by
 rw[Lw o]
 refine j.sW sa (by simp) λx hx y D=>ah (pJ hx) λi H r=>ah (xb D) λm hm I=> ?_
 have:i=0:=H5 H
 subst this
 rw[tP,eL,o]at r
 cases r
 have:=pK sb (j:=c) I (by rw[eL];exact u) (fA ‹_›)
 exact ba ‹_› ‹_›
theorem JH.uF (sa:a.toList.Pairwise (Le key))(sb:b.toList.Pairwise (Le key)){out}{c k}{p q}(j:JH key a b out (c+1) (k+1))(u:a[c]?=S p)(o:b[k]?=S q)(h:key p<=key q):JH key a b (out.push q) (c+1) k:=by
 rw[Lw o]
 refine j.sX sb (by simp) λx hx y D=>ah (pJ hx) λi H r=>ah (xb D) λm hm I=> ?_
 have:i=0:=H5 H
 subst this
 rw[tP,eL,o]at r
 cases r
 have:=pK sa (j:=c) I (by rw[eL];exact u) (fA ‹_›)
 exact ba ‹_› ‹_›
theorem JH.DY (sa:a.toList.Pairwise (Le key))(sb:b.toList.Pairwise (Le key)){out}{c k at_}{q}(j:JH key a b out c (k+1))(o:at_<=c)(r:b[k]?=S q)(h:∀i,at_<=i->i<c->gR key ae q a 0 i=ae):JH key a b (out++ (a.extract at_ c).reverse) at_ (k+1):=by
 refine j.sW sa o λx hx y u=>ah (pJ hx) λi D H=>ah (xb u) λm hm I=> ?_
 have L:=D0 (h (at_+i) (by simp) (HU D)) (by simpa using H)
 have:=pK sb I (Zrr eL r) (fA ‹_›)
 exact ba ‹_› ‹_›
theorem JH.DZ (sa:a.toList.Pairwise (Le key))(sb:b.toList.Pairwise (Le key)){out}{k c at_}{p}(j:JH key a b out (k+1) c)(o:at_<=c)(q:a[k]?=S p)(h:∀i,at_<=i->i<c->gR key ab p b 0 i=ae):JH key a b (out++ (b.extract at_ c).reverse) (k+1) at_:=by
 refine j.sX sb o λx hx y r=>ah (pJ hx) λi u D=>ah (xb r) λm hm H=> ?_
 have I:=D1 (h (at_+i) (by simp) (HU u)) (by simpa using D)
 have:=pK sa H (Zrr eL q) (fA ‹_›)
 exact ba ‹_› ‹_›
theorem JH.done (sa:a.toList.Pairwise (Le key))(sb:b.toList.Pairwise (Le key)){out}{c k}(j:JH key a b out c k)(h:c=0\/k=0):Done key a b (a.extract 0 c++b.extract 0 k++out.reverse):=by
 have e:(a.extract 0 c++b.extract 0 k++out.reverse).toList=a.toList.take c++ (b.toList.take k++out.toList.reverse):=by simp
 refine⟨?_,?_⟩
 . refine Zrr e ((z7 _ (.append_left _ j.perm)).trans ?_)
   conv=>rhs;rw[((i6 _ _).symm:a.toList=a.toList.take c++a.toList.drop c),((i6 _ _).symm:b.toList=b.toList.take k++b.toList.drop k)]
   refine Zrr (bM _ _ _) (.append_left _ ?_)
   rw[(bM _ _ _).symm];exact Zrr (bM _ _ _).symm (.append_right _ DX)
 . rw[e,propext gf];refine Zrr (propext gf) ⟨sa.sublist (uK _ _),⟨sb.sublist (uK _ _),j.sorted,λx hx y o=>j.lb y (oH.mp o) x hx⟩,λx hx y o=> ?_⟩
   rcases b8.mp o with o|o
   . rcases h with rfl|rfl
     . cases hx
     cases o
   exact j.la y (oH.mp o) x hx
theorem JH.first (sa:a.toList.Pairwise (Le key))(sb:b.toList.Pairwise (Le key)){out}{k}(j:JH key a b out k 1)(h0:∀x∈a.toList,Ks key b 0<=key x):Done key a b (b.extract 0 1++a.extract 0 k++out.reverse):=by
 have e:(b.extract 0 1++a.extract 0 k++out.reverse).toList=b.toList.take 1++ (a.toList.take k++out.toList.reverse):=by simp
 refine⟨?_,?_⟩
 . refine Zrr e ((z7 _ (.append_left _ j.perm)).trans ?_)
   rw[((a.toList.take k).append_assoc _ _).symm,(i6 _ _).symm.symm]
   conv=>rhs;rw[((i6 _ _).symm:b.toList=b.toList.take 1++b.toList.drop 1)]
   rw[(bM _ _ _).symm];exact Zrr (bM _ _ _).symm (.append_right _ DX)
 . rw[e,propext gf];refine Zrr (propext gf) ⟨sb.sublist (uK _ _),⟨sa.sublist (uK _ _),j.sorted,λx hx y c=>j.la y (oH.mp c) x hx⟩,λx hx y c=> ?_⟩
   rcases b8.mp c with c|c
   . refine ah (xb hx) λi q o=> ?_
     have:i=0:=q4 q
     subst this
     have:=h0 y (oF c)
     unfold Ks at this
     rw[eL]at o
     rw[o]at this
     exact this
   exact j.lb y (oH.mp c) x hx
end
section
variable {a b:Array Keyed}
theorem Ly {q p}{base i}(h:gR key ae q arr base i=ab)(c:arr[base+i]?=S p):key p<=key q:=by
 unfold gR Ks at h
 rw[c]at h
 simpa using h
theorem Lz {q p}{base i}(h:gR key ab q arr base i=ab)(c:arr[base+i]?=S p):key p<=key q:=by
 unfold gR Ks at h
 rw[c]at h
 simp at h
 exact bX ‹_›
abbrev HT:=RA×Nat×Nat×Array Keyed×Nat×Nat×Nat
noncomputable def hn (a b out:Array Keyed)(c k:Nat):Array Keyed:=a.extract 0 c++b.extract 0 k++out.reverse
noncomputable def hf (a b out:Array Keyed)(c k:Nat):Array Keyed:=b.extract 0 k++a.extract 0 c++out.reverse
def D5 (a b:Array Keyed)(mg ac k c o:Nat)(out:Array Keyed):SS (ForInStep HT):=elem' a (c - 1) >>=λp=>
 if(c - 1==0)=ab then pure (.done (S (hn a b (out.push p) (c - 1) o),c - 1,o,out.push p,mg,ac,k))
 else if(decide (ac<7) &&decide (k<7))=ab then pure (.done (J,c - 1,o,out.push p,mg,ac,k))else pure (.yield (J,c - 1,o,out.push p,mg,ac,k))
def q_ (a b:Array Keyed)(mg ac o c k:Nat)(out:Array Keyed):SS (ForInStep HT):=elem' b (c - 1) >>=λq=>
 if(c - 1==1)=ab then pure (.done (S (hf a b (out.push q) k (c - 1)),k,c - 1,out.push q,mg,ac,o))
 else elem' a (k - 1) >>=λp=>pI ab p b 0 (c - 1) (c - 1 - 1) >>=λx=>match x with
  |some t=>if c - 1 - t>0 then
   if(t==1)=ab then pure (.done (S (hf a b (out.push q++ (b.extract t (c - 1)).reverse) k t),k,t,out.push q++ (b.extract t (c - 1)).reverse,mg,ac,c - 1 - t))
   else if(t==0)=ab then pure (.done (S (hn a b (out.push q++ (b.extract t (c - 1)).reverse) k t),k,t,out.push q++ (b.extract t (c - 1)).reverse,mg,ac,c - 1 - t))
   else D5 a b mg ac (c - 1 - t) k t (out.push q++ (b.extract t (c - 1)).reverse)
   else D5 a b mg ac (c - 1 - t) k (c - 1) (out.push q)
  |_=>pure (.done (S (hn a b (out.push q) k (c - 1)),k,c - 1,out.push q,mg,ac,o))
def oI (a b:Array Keyed)(c k:Nat)(out:Array Keyed)(r o mg:Nat):SS (ForInStep HT):=uD mg>>=λ_=>elem' b (k - 1) >>=λq=>pI ae q a 0 c (c - 1) >>=λx=>match x with
 |some t=>if c - t>0 then
  if(t==0)=ab then pure (.done (S (hn a b (out++ (a.extract t c).reverse) t k),t,k,out++ (a.extract t c).reverse,mg,c - t,o))
  else q_ a b mg (c - t) o k t (out++ (a.extract t c).reverse)
  else q_ a b mg (c - t) o k c out
 |_=>pure (.done (S (hn a b out c k),c,k,out,mg,r,o))
def hiG (a b:Array Keyed):Nat->HT->SS (ForInStep HT):=λ_ c=>
 if c.2.2.2.2.1>1 then oI a b c.2.1 c.2.2.1 c.2.2.2.1 c.2.2.2.2.2.1 c.2.2.2.2.2.2 (c.2.2.2.2.1 - 1)else oI a b c.2.1 c.2.2.1 c.2.2.2.1 c.2.2.2.2.2.1 c.2.2.2.2.2.2 c.2.2.2.2.1
def LA (a b:Array Keyed)(mg:Nat):Nat->RA×Nat×Nat×Array Keyed×Nat×Nat->SS (ForInStep (RA×Nat×Nat×Array Keyed×Nat×Nat)):=λ_ c=>
 elem' b (c.2.2.1 - 1) >>=λy=>elem' a (c.2.1 - 1) >>=λx=>lt' y x>>=λw=>match w with
 |some w=>if w=ab then elem' a (c.2.1 - 1) >>=λp=>
  if(c.2.1 - 1==0)=ab then pure (.done (S (hn a b (c.2.2.2.1.push p) (c.2.1 - 1) c.2.2.1),c.2.1 - 1,c.2.2.1,c.2.2.2.1.push p,c.2.2.2.2.1+1,0))
  else if c.2.2.2.2.1+1 >= mg then pure (.done (J,c.2.1 - 1,c.2.2.1,c.2.2.2.1.push p,c.2.2.2.2.1+1,0))else pure (.yield (J,c.2.1 - 1,c.2.2.1,c.2.2.2.1.push p,c.2.2.2.2.1+1,0))
  else elem' b (c.2.2.1 - 1) >>=λq=>
   if(c.2.2.1 - 1==1)=ab then pure (.done (S (hf a b (c.2.2.2.1.push q) c.2.1 (c.2.2.1 - 1)),c.2.1,c.2.2.1 - 1,c.2.2.2.1.push q,0,c.2.2.2.2.2+1))
   else if c.2.2.2.2.2+1 >= mg then pure (.done (J,c.2.1,c.2.2.1 - 1,c.2.2.2.1.push q,0,c.2.2.2.2.2+1))else pure (.yield (J,c.2.1,c.2.2.1 - 1,c.2.2.2.1.push q,0,c.2.2.2.2.2+1))
 |_=>pure (.done (S (hn a b c.2.2.2.1 c.2.1 c.2.2.1),c.2.1,c.2.2.1,c.2.2.2.1,c.2.2.2.2.1,c.2.2.2.2.2))
def LB (a b:Array Keyed):Nat->RA×Nat×Nat×Array Keyed×Nat->SS (ForInStep (RA×Nat×Nat×Array Keyed×Nat)):=λ_ c=>
 forIn [:a.size+b.size] (J,c.2.1,c.2.2.1,c.2.2.2.1,0,0) (LA a b c.2.2.2.2) >>=λd=>match d.1 with
 |some r=>pure (.done (S r,d.2.1,d.2.2.1,d.2.2.2.1,c.2.2.2.2))
 |none=>(liftM (rule "list.sort.gallop"):SS Unit) >>=λ_=>
  forIn [:a.size+b.size] (J,d.2.1,d.2.2.1,d.2.2.2.1,c.2.2.2.2+1,d.2.2.2.2.1,d.2.2.2.2.2) (hiG a b) >>=λd=>match d.1 with
  |some r=>pure (.done (S r,d.2.1,d.2.2.1,d.2.2.2.1,d.2.2.2.2.1))
  |none=>uD (d.2.2.2.2.1+1) >>=λ_=>pure (.yield (J,d.2.1,d.2.2.1,d.2.2.2.1,d.2.2.2.2.1+1))
theorem abk (a b):z0 a b=(liftM (rule "list.sort.merge-hi"):SS _) >>=λ_=>elem' a (a.size - 1) >>=λq=>
 if(a.size - 1==0)=ab then pure (hn a b #[q] (a.size - 1) b.size)
 else if(b.size==1)=ab then pure (hf a b #[q] (a.size - 1) b.size)
 else get>>=λst=>forIn [:a.size+b.size] (J,a.size - 1,b.size,#[q],gallopOf st) (LB a b) >>=λd=>match d.1 with
  |some r=>pure r
  |none=>liftM (unsupported "internal:list.sort.merge-bound"):=by kernel_rfl
structure uL (key:Keyed->Nat)(a b:Array Keyed)(n:Nat)(out:Array Keyed)(na nb:Nat):Prop where
 j:JH key a b out (na+1) (nb+2)
 la:na<a.size
 lb:nb+1<b.size
 m:na+nb+n+3<=a.size+b.size
inductive l6 {δ:Type}(key:Keyed->Nat)(a b:Array Keyed)(n:Nat):RA×Nat×Nat×Array Keyed×δ->Prop
 |mk {o i j d}:uL key a b n o i j->l6 key a b n (none,i+1,j+2,o,d)
theorem l6.mono {c:RA×Nat×Nat×Array _×k}(l:m<=n)(h:l6 key a b n c):l6 key a b m c:=by
 cases h with|mk h=>exact⟨h.j,h.la,h.lb,ba (uH (iE l _) 3) h.m⟩
section
variable {st:SortSt} {n mg ac bc na nb:Nat} {out:Array Keyed}
variable (W:MA M A s aS kd key a b) (h0:∀x∈a.toList,Ks key b 0<=key x)
include W
theorem LC (i:uL key a b n out na nb)(le:∀p q,a[na]?=S p->b[nb+1]?=S q->key q<=key p)(q:TQ (l6 key a b n) (Dn key a b) (Q · st)):wpS M A E s (D5 a b mg ac bc (na+1) (nb+2) out) Q st:=by
 refine ah (W.hb _ i.lb) λq0 eq _=>ah (W.ha na i.la) λp k _=> ?_
 have o:=i.j.uE W.sa W.sb k eq (le p q0 k eq)
 refine bq (g7 k (cj (λe=>bB (q.d ⟨o.done W.sa W.sb (.inl (eq_of_beq e))⟩)) λe=>ao (lh (oG e)) λc O=> ?_));subst O
 exact have g:=q.g (c:=(J,_,_,_,mg,ac,bc)) ⟨o,gu i.la,i.lb,by have:=i.m;exact S2 this⟩;cj (λ_=>bB g.1) λ_=>bB g.2
include h0
theorem LD (hk:kindOf st=kd){Q}(i:uL key a b n out na nb)(le:∀p q,a[na]?=S p->b[nb+1]?=S q->key p<=key q)(q:TQ (l6 key a b n) (Dn key a b) (Q · st)):wpS M A E s (q_ a b mg ac bc (nb+2) (na+1) out) Q st:=by
 refine ah (W.hb _ i.lb) λq0 eq _=>ah (W.ha na i.la) λp k mp=> ?_
 have o:=i.j.uF W.sa W.sb k eq (le p q0 k eq)
 refine bq (g7 eq (cj (λe=>bB (q.d ⟨by rw[qU (eq_of_beq e)]at o ⊢;exact o.first W.sa W.sb h0⟩)) λe=>ao (lh λz=>oG e (congrArg Nat.succ z)) λc O=> ?_));subst O
 have lb:=Nat.le_of_succ_le i.lb
 refine bq (g7 k (bq (W.ng hk mp W.hb W.sb (by rw[fc _];exact lb) (iQ _) λt r H I=> ?_)))
 have nx:∀u,u+1<t->∀x y,a[na]?=S x->b[u+1]?=S y->key y<=key x:=λu h x y ex L=>by
  rw[k]at ex;cases ex
  exact Lz (H (u+1) h) (by rw[fc _];exact L)
 have m:=i.m
 refine cj (λ_=> ?_) λU=> ?_
 . have D:=o.DZ W.sa W.sb r k I
   refine cj (λe=>bB (q.d ⟨by obtain rfl:=eq_of_beq e;exact D.first W.sa W.sb h0⟩)) λe=>cj (λe=>bB (q.d ⟨D.done W.sa W.sb (.inr (eq_of_beq e))⟩)) λY=>ao (lh (oG Y)) λu O=> ?_;subst O
   refine ao (lh λz=>oG e (congrArg Nat.succ z)) λu O=> ?_;subst O
   exact LC W ⟨D,i.la,d0 r lb,(Us m r)⟩ (nx u (iQ _)) q
 . obtain rfl:t=c+1+1:=cg r (LF (uB U))
   exact LC W ⟨o,i.la,lb,(Ut m)⟩ (nx c (iQ _)) q
theorem LG (hk:kindOf st=kd){Q}(i:uL key a b n out na nb)(q:TQ (l6 key a b n) (Dn key a b) (Q · (nf st mg))):wpS M A E s (oI a b (na+1) (nb+2) out ac bc mg) Q st:=by
 refine ah (W.hb _ i.lb) λq0 eq r=>bq (zW (bq (g7 eq (bq (W.ng (st:=nf st mg) hk r W.ha W.sa (by rw[fc _];exact i.la) (iQ _) λt c D H=> ?_)))))
 have nx:∀u,u<t->∀x y,a[u]?=S x->b[nb+1]?=S y->key x<=key y:=λu h x y ex k=>by
  rw[eq]at k;cases k
  exact Ly (D u h) (by rw[fc _];exact ex)
 have m:=i.m
 refine cj (λ_=> ?_) λI=> ?_
 . have o:=i.j.DY W.sa W.sb c eq H
   refine cj (λe=>bB (q.d ⟨o.done W.sa W.sb (.inl (eq_of_beq e))⟩)) λe=>ao (lh (oG e)) λu O=> ?_;subst O
   exact LD W h0 (st:=nf st mg) hk ⟨o,d0 c i.la,i.lb,(Ua m c)⟩ (nx u (iQ _)) q
 . obtain rfl:t=na+1:=cg c (LF (uB I))
   exact LD W h0 (st:=nf st mg) hk i (nx na (iQ _)) q
theorem abl (hk:kindOf st=kd){Q}{x}(i:uL key a b n out na nb)(q:TQ (l6 key a b (n+1)) (Dn key a b) (Q · st)):wpS M A E s (LA a b mg x (J,na+1,nb+2,out,ac,bc)) Q st:=by
 refine ah (W.hb _ i.lb) λq0 eq r=>ah (W.ha na i.la) λp o mp=> ?_
 have m:=i.m
 refine bq (g7 eq (bq (g7 o (bq (W.lt E q0 p st _ r mp hk (cj (λh=>bq (g7 o ?_)) λh=>bq (g7 eq ?_)))))))
 . have k:=i.j.uE W.sa W.sb o eq (bX (of_decide_eq_true h))
   refine cj (λe=>bB (q.d ⟨k.done W.sa W.sb (.inl (eq_of_beq e))⟩)) λe=>ao (lh (oG e)) λc O=> ?_;subst O
   exact have g:=q.g (c:=(J,_,_,_,ac+1,0)) ⟨k,gu i.la,i.lb,(Rq m)⟩;cj (λ_=>bB g.1) λ_=>bB g.2
 . have k:=i.j.uF W.sa W.sb o eq (fB (of_decide_eq_false (eq_false_of_ne_true h)))
   refine cj (λe=>bB (q.d ⟨by rw[qU (eq_of_beq e)]at k ⊢;exact k.first W.sa W.sb h0⟩)) λe=>ao (lh λz=>oG e (congrArg Nat.succ z)) λc O=> ?_;subst O
   exact have g:=q.g (c:=(J,_,_,_,0,bc+1)) ⟨k,i.la,gu i.lb,(Rr m)⟩;cj (λ_=>bB g.1) λ_=>bB g.2
theorem abm (hk:kindOf st=kd){Q}{x}(i:uL key a b n out na nb)(q:∀o c,SG st o->Dn key a b c->Q (.done c) o)(r:∀o c,SG st o->l6 key a b (n+1) c->Q (.yield c) o):wpS M A E s (LB a b x (J,na+1,nb+2,out,mg)) Q st:=by
 refine bq (zZ (G:=l6 _ a b) (D:=Dn key a b) (yqF (DQ i.la) _) .mono (λx c o k g Q h=> ?_) (λc o k h=> ?_) (λc o k g=> ?_) ⟨i⟩ (⟨rfl,rfl,rfl,rfl⟩:SG st st))
 . cases g with|mk g=>exact abl W h0 (k.kind.trans hk) g (h _ k)
 . cases h with|mk h=>exact bB (q _ _ k ⟨h⟩)
 cases g with|mk g=>
  refine bq (uz (sr ⟨rfl,bq (zZ (G:=l6 _ a b) (D:=Dn key a b) (dO _) .mono (λx c o k g Q h=> ?_) (λc o k h=> ?_) (λc o k g=> ?_) ⟨g⟩ k)⟩))
  . cases g with|mk g=>exact cj (λ_=>LG W h0 (k.kind.trans hk) g (h _ (k.ng _))) λ_=>LG W h0 (k.kind.trans hk) g (h _ (k.ng _))
  . cases h with|mk h=>exact bB (q _ _ k ⟨h⟩)
  cases g with|mk g=>exact bq (zW (bB (r _ _ (k.ng _) ⟨g⟩)))
theorem abn {Q}(hk:kindOf st=kd)(h1:1<=a.size)(h2:1<=b.size)(hl:∀x∈b.toList,key x<=Ks key a (a.size - 1))(h:∀out k,SG st k->Done key a b out->Q out k):wpS M A E s (z0 a b) Q st:=by
 rw[abk _ _]
 refine ao (lh (fO h1)) λm o=>ao (lh (fO h2)) λn q=>ah (W.ha m (aK o.symm)) λa0 u _=>ah (W.hb n (aK q.symm)) λb0 Y _=> ?_
 rw[o]at hl ⊢
 have y:=(JH.mk (out:= #[]) (by rw[(sF (by simp;exact HV o)),(sF (by simp;exact HV q))];simp) (by simp) (by simp) (by simp)).uE W.sa W.sb u Y (by
  have:=hl b0 (by simpa using ynP Y)
  unfold Ks at this
  rwa[show m.succ - 1=m from rfl,u]at this)
 have D:SG st st:=⟨rfl,rfl,rfl,rfl⟩
 refine Zrr q (bq (uz (sr ⟨rfl,bq (g7 u (cj (λe=>bB (h _ st D (y.done W.sa W.sb (.inl (eq_of_beq e))))) λe=>cj (λH=>bB (h _ st D ?_)) λH=>bq (sZ ?_)))⟩)))
 . obtain rfl:n=0:=qU (eq_of_beq H)
   exact y.first W.sa W.sb h0
 refine ao (lh (oG e)) λc O=> ?_;subst O
 refine ao (lh λz=>oG H (congrArg Nat.succ z)) λd O=> ?_;subst O
 refine bq (l4 (I:=λx c k=>SG st k/\l6 key a b x c) (λx c k _ _ i=> ?_) (λc k i=> ?_) ⟨D,⟨⟨y,by exact SK o,by exact SM q,(SN o q)⟩⟩⟩)
 . revert i;intro O;refine au O λr i=> ?_;clear O
   cases i with|mk i=>
   exact abm W h0 (r.kind.trans hk) i (λfG c L U=>by cases U with|mk U=>exact bB (h _ fG (r.trans L) U)) λfG c L g=>⟨r.trans L,g⟩
 . revert i;intro O;refine au O λr i=> ?_;clear O
   cases i with|mk i=>
   have:=i.m;exact SJ o q this
end
end
theorem abo (i):mergeAt' i=(do
 let s<-get
 let(S (sa,b,o),S (sb,c,_)):=((pendingOf s)[i]?,(pendingOf s)[i+1]?)|liftM (unsupported "internal:list.sort.pending")
 set (setPending s (((pendingOf s).setIfInBounds i (sa,b+c,o)).eraseIdxIfInBounds (i+1)))
 let S k<-pI ae (<-elem' (arrOf s) sb) (arrOf s) sa b 0|return ae
 let(sa,b):=(sa+k,b - k)
 if b==0 then return ab
 let S c<-pI ab (<-elem' (arrOf s) (sa+b - 1)) (arrOf s) sb c (c - 1)|return ae
 if c==0 then return ab
 let x:=(arrOf s).extract sa sb
 let y:=(arrOf s).extract sb (sb+c)
 let merged<-if b<=c then zV x y else z0 x y
 modify λs=>setArr s (merged.toList.zipIdx.foldl (λa (p,j)=>a.setIfInBounds (sa+j) p) (arrOf s))
 return (failedOf (<-get)).isNone):=rfl
theorem abq {E}{s}{σ}{x}{Q}{st}(h:Q ⟨⟩ x):wpS M A E s (set x:StateT σ _ _) Q st:=bA ⟨rfl,h⟩
theorem at_of {xs:Array Keyed}{P L}(e:xs.toList=P++L)(i):xs[P.length+i]?=L[i]?:=by
 rw[eL.symm,e,iG (dH ..),l7 _ _];rfl
theorem LI {xs:Array Keyed}{P L N}(e:xs.toList=P++ (L++N)):xs.extract P.length (P.length+L.length)=L.toArray:=by
 apply qY.mp
 rw[qX _ _ _,e,yqO,yqM];rfl
theorem abr (sa):∀(l M:List _) (k:Nat) (xs:Array _) (P N:List Keyed),xs.toList=P++ (M++N)->P.length=sa+k->M.length=l.length->
 ((l.zipIdx k).foldl (λa (p,j)=>a.setIfInBounds (sa+j) p) xs).toList=P++ (l++N):=by
 intro c
 induction c with
 |nil=>
  intro M _ _ _ _ e _ h
  rw[qF h]at e;exact e
 |cons p l o=>
  refine λM k xs P N e b hl=>fb (LJ hl) λm M O=> ?_;subst O
  refine Zrr kW ((o M _ _ (P++ [p]) N ?_ (by rw[aY,b];rfl) (qU hl)).trans (bM ..))
  rw[Kp,e,b.symm,xd _ _ (bb _),kE _,bM _ _ _];rfl
theorem abt {l:List Keyed}{p m n}(h:p+m+n<=l.length):∃P U V R,l=P++ (U++ (V++R))/\P.length=p/\U.length=m/\V.length=n:=
 ⟨_,_,_,((l.drop p).drop m).drop n,by rw[i6 _ _,i6 _ _,i6 _ _];rfl,
  by rw[ig];exact SR h,by rw[ig,qZ];exact SU h,by rw[ig,qZ,qZ];exact SW h⟩
theorem D6 (h:xs[i]?=S x):Ks key xs i=key x:=by unfold Ks;rw[h];rfl
theorem z8 {P Y R}(e:xs.toList=P++ (Y++R)):d7 key xs P.length (P.length+Y.length)↔Y.Pairwise (Le key):=by
 have at_:∀ {i} (h:i<Y.length),Ks key xs (P.length+i)=key Y[i]:=λ{i} h=>D6 (by rw[at_of e _,eR h];exact du h)
 rw[Lj]
 constructor
 . intro k i j b a o
   have:=k.le (dH _ i) (iE (bX o) _) (i5 a _)
   rwa[at_ b,at_ a]at this
 . refine λq i b a=>ao (sT b) λu O=> ?_;subst O
   have c:u+1<Y.length:=DK a
   rw[at_ (gu c)];exact Zrr (at_ c) (q u (u+1) _ c (u.lt_succ_self))
theorem abu {V}(h:(q::V).Pairwise (Le key)):∀x∈q::V,key q<=key x:=λx hx=>by
 rcases cy.mp hx with rfl|hx
 . exact bb _
 exact(s6.mp h).1 x hx
theorem abv {U}(h:(U++ [z]).Pairwise (Le key)):∀x∈U++ [z],key x<=key z:=λx hx=>by
 rcases b8.mp hx with hx|hx
 . exact(gf.mp h).2.2 x hx z (ynJ z)
 . cases dm.mp hx;exact bb _
theorem LK:∀ {U:List Keyed},0<U.length->∃a z,U=a++ [z]
 |x::r,_=>⟨_,_,(List.dropLast_concat_getLast (ypV x r)).symm⟩
theorem abw {U:List Keyed}{k}(h:k<=U.length):∃X Y,U=X++Y/\X.length=k:=⟨_,U.drop k,(i6 ..).symm,by rw[ig];exact jI h⟩
theorem LL {f}{q}{xs}{P U R}(e:xs.toList=P++ (U++R)){k}(hk:k<=U.length)(o:∀i,i<k->gR key f q xs P.length i=ab)(r:∀i,k<=i->i<U.length->gR key f q xs P.length i=ae):
 ∃X Y,U=X++Y/\X.length=k/\(∀x∈X,key x<=key q)/\∀y∈Y,key q<=key y:=by
 refine dh (abw hk) λX Y O u=> ?_;subst O;obtain rfl:=u
 refine⟨X,Y,rfl,rfl,λx hx=> ?_,λy D=> ?_⟩
 . ((refine ao (w8 hx) λi b=> ?_;refine ao b λa O=> ?_;clear b);obtain rfl:=O)
   have c:xs[P.length+i]?=S X[i]:=by rw[at_of e _,bM _ _ _,eR a];exact du a
   cases f
   . exact Ly (o i a) c
   . exact Lz (o i a) c
 . ((refine ao (w8 D) λi b=> ?_;refine ao b λa O=> ?_;clear b);obtain rfl:=O)
   have c:xs[P.length+ (X.length+i)]?=S Y[i]:=by rw[at_of e _,bM _ _ _,iG (dH ..),l7 _ _,eR a];exact du a
   have h:=r (X.length+i) (dH ..) (by rw[aY];exact i5 a _)
   cases f
   . exact D0 h c
   . exact D1 h c
theorem abx {xs a:Array Keyed}{P Y Z R}(ex:xs.toList=P++ (Y++R))(b:a.toList=P++ (Z++R))(l:Z.length=Y.length){i}(h:i<P.length\/P.length+Y.length<=i):a[i]?=xs[i]?:=by
 rw[eL.symm,eL.symm,ex,b]
 rcases h with h|h
 . rw[eR h,eR h];rfl
 . refine ao (sT h) λu O=> ?_;subst O
   rw[(bM _ _ _).symm,(bM _ _ _).symm];refine Zrr (iG (by rw[aY];exact Zrr l h)) (Zrr (iG (by simp)) ?_);rw[aY,aY,l];rfl
structure aby (key:Keyed->Nat)(aS:Array Keyed)(kd:SortKind)(st:SortSt)(pend:Array (Nat×Nat×Nat))(sa n:Nat)(ay:SortSt):Prop where
 sb:SB aS kd ay
 pend:pendingOf ay=pend
 z9:d7 key (arrOf ay) sa (sa+n)
 rest:∀i,i<sa\/sa+n<=i->Ks key (arrOf ay) i=Ks key (arrOf st) i
theorem MA.of {U V:List _}(L:iC M A s aS kd key)(b:∀p∈U,p∈aS.toList)(c:∀p∈V,p∈aS.toList)(k:U.Pairwise (Le key))(o:V.Pairwise (Le key)):MA M A s aS kd key U.toArray V.toArray:=
 ⟨L,λi a=>⟨U[i],by simp,b _ (wU a)⟩,λi a=>⟨V[i],by simp,c _ (wU a)⟩,k,o⟩
theorem abz (L:iC M A s aS kd key){st}{Q}(hk:kindOf st=kd)(hf:failedOf st=J){P X Y Z T R}{q z}(k:(arrOf st).toList=P++ ((X++ (Y++ [z]))++ (((q::Z)++T)++R)))(hm:∀p∈ (arrOf st).toList,p∈aS.toList)
 (I:(Y++ [z]).Pairwise (Le key))(O:(q::Z).Pairwise (Le key))(u:∀x∈Y++ [z],key q<=key x)(y:∀x∈q::Z,key x<=key z)
 (h:∀b out,kindOf b=kd->failedOf b=J->pendingOf b=pendingOf st->(arrOf b).toList=P++ (X++ (out++ (T++R)))->out.Perm ((Y++ [z])++ (q::Z))->out.Pairwise (Le key)->Q ab b):
 wpS M A E s (do
  let m<-if(Y++ [z]).length<=(q::Z).length then zV (Y++ [z]).toArray (q::Z).toArray else z0 (Y++ [z]).toArray (q::Z).toArray
  modify λs=>setArr s (m.toList.zipIdx.foldl (λa (p,j)=>a.setIfInBounds (P.length+X.length+j) p) (arrOf s))
  return (failedOf (<-get)).isNone) Q st:=by
 have W:=MA.of L (λp o=>hm p (by rw[k];exact ik _ (fh _ (ik _ o)))) (λp o=>hm p (by rw[k];exact ik _ (ik _ (fh _ (fh _ o))))) I O
 have D:Ks _ _ ((Y++ [z]).toArray.size - 1)=key z:=D6 (by rw[List.getElem?_toArray,v9,aY];exact ymC)
 have U:Ks _ (q::Z).toArray 0=key q:=rfl
 have fin:∀(m:Array _) b,SG st _->Done _ _ _ m->wpS M A E s (do
  modify λs=>setArr s (m.toList.zipIdx.foldl (λa (p,j)=>a.setIfInBounds (P.length+X.length+j) p) (arrOf s))
  return (failedOf (<-get)).isNone) Q _:=λm b c d=>by
  show wpS M A E s (pure (failedOf b).isNone) Q _
  refine Zrr (c.fail.trans hf) (bB (h _ _ (c.kind.trans hk) (c.fail.trans hf) c.pend ?_ d.1 d.2))
  show(m.toList.zipIdx.foldl _ (arrOf b)).toList=_
  rw[c.arr];refine Zrr (abr _ m.toList ((Y++ [z])++ (q::Z)) 0 (arrOf st) (P++X) (T++R) (by rw[k];simp only[bM]) (by simp) d.1.length_eq.symm) ?_;rw[bM _ _ _];rfl
 have r:1<=(Y++ [z]).toArray.size:=by simp
 exact cj (λ_=>bq (abj W (λx hx=>by rw[D];exact y x hx) hk r (zS ..) (Zrr U (ah (W.ha 0 r) λp H _=>Zrr (D6 H) (u p (by simpa using ynP H)))) λout b c d=>fin out b c d)) λ_=>bq (abn W (λx hx=>(u x hx)) hk r (zS ..) (λx hx=>by rw[D];exact y x hx) λout b c d=>fin out b c d)
theorem abA (L:iC M A s aS kd key){st:SortSt}{Q:Bool->SortSt->Prop}(b:SB aS kd st){i sa r D pw pv:Nat}(hp:(pendingOf st)[i]?=S (sa,r,pw))(hq:(pendingOf st)[i+1]?=S (sa+r,D,pv))
 (h1:1<=r)(h2:1<=D)(hn:sa+r+D<=aS.size)(ra:d7 key (arrOf st) sa (sa+r))(rb:d7 key (arrOf st) (sa+r) (sa+r+D))
 (h:∀c,aby key aS kd st (((pendingOf st).setIfInBounds i (sa,r+D,pw)).eraseIdxIfInBounds (i+1)) sa (r+D) c->Q ab c):wpS M A E s (mergeAt' i) Q st:=by
 (refine tO (abt (by(rw[gP,b.size]);exact hn)) λP U V R o O ax cu=> ?_;obtain rfl:=O;obtain rfl:=ax;obtain rfl:=cu)
 have z_:(arrOf st).toList=(P++U)++ (V++R):=by rw[o,bM _ _ _];rfl
 have Aa:(arrOf st).toList=P++ ((U++V)++R):=by rw[o,bM _ _ _];rfl
 have l2:(P++U).length=P.length+U.length:=aY
 have su:=(z8 o).mp ra
 have sv:=(z8 z_).mp (by rw[l2];exact rb)
 have hm:∀p∈ (arrOf st).toList,p∈aS.toList:=λp hp=>(DE.mp b.perm).mem_iff.mp hp
 have fin:∀c Y,kindOf c=kd->failedOf c=J->pendingOf c=((pendingOf st).setIfInBounds i (P.length,U.length+V.length,pw)).eraseIdxIfInBounds (i+1)->(arrOf c).toList=P++ (Y++R)->Y.Perm (U++V)->Y.Pairwise (Le key)->Q ab c:=
  λc Y k f p e u s=>by
   have ly:Y.length=U.length+V.length:=by rw[u.length_eq,aY];rfl
   exact h c ⟨⟨(DE.mpr (by(rw[e,Aa]);exact z7 _ (u.append_right R))).trans b.perm,k,f⟩,p,ly▸(z8 e).mpr s,λi hi=>uy (abx Aa e u.length_eq (by rw[aY];exact hi))⟩
 generalize hpd:((pendingOf st).setIfInBounds i (P.length,U.length+V.length,pw)).eraseIdxIfInBounds (i+1)=pd at fin
 rw[abo _]
 refine bq (sZ ?_)
 rw[hp,hq]
 dsimp only
 rw[hpd]
 refine fb (LK h1) λU' z H=> ?_
 obtain ⟨q,I,rfl⟩:∃q I,V=q::I:=List.exists_cons_of_length_pos h2
 have zU:=abv (H▸su)
 rw[<-H]at zU
 have qV:=abu sv
 have eq:(arrOf st)[P.length+U.length]?=S q:=by rw[l2.symm];exact at_of z_ 0
 have mq:=hm q (by rw[z_];exact ik _ (fh _ (cT ..)))
 have zl:z∈U:=by rw[H];exact ik _ (ynJ z)
 have mz:=hm z (by rw[o];exact ik _ (fh _ zl))
 have gt:∀ {j},j<aS.size->∃p,(arrOf st)[j]?=S p/\p∈aS.toList:=λhj=>have⟨p,e,m,_⟩:=b.get (key:=key) hj;⟨p,e,m⟩
 refine bq (abq (bq (g7 eq (bq (DU L b.kind mq (λj hj=>gt (d0 (i5 hj _) (ba (dH ..) hn))) ra h1 λk hk hk1 hk2=> ?_)))))
 (refine o9 (LL o hk hk1 hk2) λX Y O ax xq qy=> ?_;obtain rfl:=O;obtain rfl:=ax)
 have sx:=gf.mp su
 have D8:=λx hx y a=>ba (xq x hx) (qV y a)
 refine cj (λe=>bB (fin (setPending st pd) (X++Y++q::I) b.kind b.failed rfl Aa (.refl _) (gf.mpr ⟨su,sv,?_⟩))) λe0=> ?_
 . have:Y= []:=qF (by have:=eq_of_beq e;rw[aY]at this;lia)
   subst this
   rw[dg _];exact D8
 have ly:=zT hk
 have ez:(arrOf st)[P.length+X.length+ ((X++Y).length - X.length) - 1]?=S z:=by
  rw[w6 _ _ _,ly,Nat.add_sub_assoc h1 _,at_of o _,H,aY,bM _ _ _]
  exact iG (bb _)|>.trans (by rw[kE _];rfl)
 refine bq (g7 ez (bq (DU L b.kind mz (λj hj=>gt (d0 (i5 hj _) hn)) rb (Nat.sub_lt h2 (iQ 0)) λt ht LM LN=> ?_)))
 rw[<-l2]at LM LN
 (refine o9 (LL z_ ht LM LN) λZ T eV O zz zt=> ?_;obtain rfl:=O)
 refine cj (λe=>bB (fin (setPending st pd) (X++Y++q::I) b.kind b.failed rfl Aa (.refl _) (gf.mpr ⟨su,sv,λx hx y a=> ?_⟩))) λe1=> ?_
 . have:=qF (eq_of_beq e)
   rw[eV,this]at a
   exact ba (zU x hx) (zt y a)
 obtain ⟨q',Z,rfl⟩:∃q I,Z=q::I:=List.exists_cons_of_ne_nil λe=>e1 (by rw[e];rfl)
 cases (iB eV).1
 (refine fb (LK (U:=Y) (Nat.pos_of_ne_zero λe=>e0 (by(rw[aY,e,tP _,kE _]);rfl))) λY' z' O=> ?_;obtain rfl:=O)
 obtain rfl:z'=z:=by rw[<-bM]at H;exact List.singleton_inj.mp (rf H rfl).2
 rw[eV]at o sv fin
 have sz:=gf.mp sv
 have x1:=by
  have:=LI (P:=P++X) (L:=Y'++ [z']) (N:=(q::Z++T)++R) (by rw[o];simp only[bM])
  rwa[aY,w6,<-aY (as:=X)]at this
 have y1:=by
  have:=LI (P:=P++ (X++ (Y'++ [z']))) (L:=q::Z) (N:=T++R) (by rw[o];simp only[bM])
  rwa[l2]at this
 rw[x1,y1,(show(X++ (Y'++ [z'])).length - X.length=(Y'++ [z']).length by rw[aY];rw[l7 _ _];rfl)]
 refine abz L (st:=setPending st pd) b.kind b.failed o hm sx.2.1 sz.1 qy zz λc out k f p e u so=>fin c (X++ (out++T)) k f p (by rw[e];simp only[bM]) ?_ ?_
 . rw[bM _ _ _]
   refine z7 _ ?_
   rw[(bM _ _ _).symm]
   exact u.append_right T
 . refine gf.mpr ⟨sx.1,gf.mpr ⟨so,sz.2.1,λx hx y a=> ?_⟩,λx hx y a=> ?_⟩
   . rcases b8.mp (u.mem_iff.mp hx)with hx|hx
     . exact ba (zU x (ik _ hx)) (zt y a)
     . exact sz.2.2 x hx y a
   . rcases b8.mp a with a|a
     . rcases b8.mp (u.mem_iff.mp a)with a|a
       . exact sx.2.2 x hx y a
       . exact D8 x hx y (by rw[eV];exact fh _ a)
     . exact D8 x hx y (by rw[eV];exact ik _ a)
noncomputable def Runs (key:Keyed->Nat)(xs:Array Keyed):Nat->List (Nat×Nat×Nat)->Nat->Prop
 |lo,[],a=>lo=a
 |lo,p::r,a=>p.1=lo/\1<=p.2.1/\d7 key xs lo (lo+p.2.1)/\Runs key xs (lo+p.2.1) r a
theorem Runs.le:∀ {l:List _} {lo a:Nat},Runs key xs lo l a->lo+l.length<=a:=by
 intro b
 induction b with
 |nil=>
  intro _ _ h
  cases h;simp
 |cons p r c=>
  intro lo a O;refine mB O λq k _ o=> ?_;have:=c o
  simp only[jG];exact Uw k this
theorem Runs.app:∀ {l r:List _} {lo a:Nat},Runs key xs lo (l++r) a↔∃m,Runs key xs lo l m/\Runs key xs m r a:=by
 intro c
 induction c with
 |nil=>exact λ{_ lo _}=>⟨λh=>⟨lo,rfl,h⟩,λh=>by revert h;intro O;exact ah O λm e h=>by cases e;exact h⟩
 |cons p l b=>
  exact⟨λh=>(b.mp h.2.2.2).elim λm k=>⟨m,⟨h.1,h.2.1,h.2.2.1,k.1⟩,k.2⟩,λh=>h.elim λm k=>⟨k.1.1,k.1.2.1,k.1.2.2.1,b.mpr ⟨m,k.1.2.2.2,k.2⟩⟩⟩
theorem Runs.same:∀ {l:List _} {lo a:Nat},Runs key xs lo l a->(∀i,lo<=i->i<a->Ks key o i=Ks key xs i)->Runs key o lo l a:=by
 intro q
 induction q with
 |nil=>
  intro _ _ h _
  exact h
 |cons p r u=>
  intro lo a O;exact mB O λx c y k=>λe=>have:=k.le;⟨x,c,λi a b=>Zrr (e i (‹_›) (Rg this b)) (Zrr (e _ (k9 ‹_›) (Rh this b)) (y i a b)),u k λi a b=>e i (Ri c a) b⟩
theorem abB {k:Type}:∀ {l:List k} {j:Nat},j+1<l.length->∃L a b R,l=L++a::b::R/\L.length=j:=by
 intro o j h
 have c:=i6 j o
 rw[ov (gu h),ov h]at c
 exact⟨_,_,_,_,c.symm,List.length_take_of_le (bX (gu h))⟩
theorem abC (L:iC M A s aS kd key){st}{Q}(hS:SB aS kd st){j b}(hr:Runs key (arrOf st) 0 (pendingOf st).toList b)(hh:b<=aS.size)(hj:j+1<(pendingOf st).size)
 (h:∀a,SB aS kd a->Runs key (arrOf a) 0 (pendingOf a).toList b->(pendingOf a).size+1=(pendingOf st).size->(∀i,b<=i->Ks key (arrOf a) i=Ks key (arrOf st) i)->Q ab a):wpS M A E s (mergeAt' j) Q st:=by
 refine vx (abB (l:=(pendingOf st).toList) (by simpa using hj)) λl p q r e hl=> ?_
 obtain ⟨sa,c,pw⟩:=p
 obtain ⟨sb,o,pv⟩:=q
 rw[e]at hr
 refine ah (Runs.app.mp hr) λm r1 u=>QG u λx n1 s1 y D H k=> ?_;clear u
 dsimp only at x n1 s1 y D H k
 subst x
 subst y
 have I:=k.le
 refine abA L hS (by rw[eL.symm,e];simp[hl]:(pendingOf st)[j]?=S (sa,c,pw)) (by rw[eL.symm,e];simp[hl]:(pendingOf st)[j+1]?=S (sa+c,o,pv)) n1 D (TL hh I) s1 H λa mg=> ?_
 have O:(pendingOf a).toList=l++ (sa,c+o,pw)::r:=by
  rw[mg.pend,Array.toList_eraseIdxIfInBounds,Kp,e,hl.symm]
  simp[List.eraseIdx_append_of_length_le]
 refine h _ mg.sb (Zrr O (Runs.app.mpr ⟨sa,r1.same λi U Y=>mg.rest i (.inl Y),rfl,by lia,mg.z9,Zrr (w6 _ _ _).symm (k.same λi U Y=>mg.rest i (.inr (TM U)))⟩)) ?_ λi b=>mg.rest i (.inr (TO I b))
 . rw[gP.symm,gP.symm,O,e]
   simp;exact TN
abbrev US:=Option Unit×Unit
noncomputable def abD (b pw:Nat):Nat->US->SS (ForInStep US):=λ_ _=>(get:SS SortSt) >>=λst=>match if(pendingOf st).size>1 then(pendingOf st)[(pendingOf st).size - 2]? else J with
 |some (_,_,a)=>if a<=pw then pure (.done (J,()))
  else mergeAt' ((pendingOf st).size - 2) >>=λr=>if(!r)=ab then pure (.done (S (),()))else pure (.yield (J,()))
 |_=>pure (.done (J,()))
noncomputable def Ab (lo n:Nat):SS (ForInStep (Option Unit×Nat)):=(modify λs=>setPending s ((pendingOf s).push (lo,n,0)):SS PUnit) >>=λ_=>pure (.yield (J,lo+n))
def Ac (a lo n:Nat):SS (ForInStep (Option Unit×Nat)):=(get:SS SortSt) >>=λst=>match(pendingOf st).back? with
 |some (s1,n1,_)=>forIn [:a] ((J,()):US) (abD a (power' a (2*s1+n1) (2*s1+n1+n1+n) a)) >>=λc=>match c.1 with
  |some r=>pure (.done (S r,lo))
  |none=>(modify λs=>setPending s ((pendingOf s).modify ((pendingOf s).size - 1) λx=>(x.1,x.2.1,power' a (2*s1+n1) (2*s1+n1+n1+n) a)):SS PUnit) >>=λ_=>Ab lo n
 |_=>Ab lo n
def abF (a b:Nat):Nat->Option Unit×Nat->SS (ForInStep (Option Unit×Nat)):=λ_ c=>
 if c.2 >= a then pure (.done (J,c.2))else countRun' c.2 (a - c.2) >>=λx=>match x with
 |some n=>if n<b then(liftM (rule "list.sort.binary-insertion"):SS Unit) >>=λ_=>binarySort' c.2 (min (a - c.2) b) n>>=λr=>if(!r)=ab then pure (.done (S (),c.2))else Ac a c.2 (min (a - c.2) b)
  else Ac a c.2 n
 |_=>pure (.done (S (),c.2))
noncomputable def abG (p:Array (Nat×Nat×Nat)):Nat:=if((if p.size - 2>0 then p[p.size - 2 - 1]?.map (·.2.1)else J).any (· <(p[p.size - 2+1]?.elim 0 (·.2.1))))=ab then p.size - 2 - 1 else p.size - 2
def LO:Nat->US->SS (ForInStep US):=λ_ _=>(get:SS SortSt) >>=λst=>if(pendingOf st).size<=1 then pure (.done (J,()))
 else mergeAt' (abG (pendingOf st)) >>=λr=>if(!r)=ab then pure (.done (S (),()))else pure (.yield (J,()))
theorem abH:sortRuns'=get>>=λst=>forIn [:(arrOf st).size] (J,0) (abF (arrOf st).size (minRun' (arrOf st).size (arrOf st).size 0)) >>=λc=>match c.1 with
 |some r=>pure r
 |none=>forIn [:(arrOf st).size] (J,()) LO>>=λc=>match c.1 with
  |some r=>pure r
  |none=>pure ():=by kernel_rfl
theorem abI {f}(hf:∀p,(f p).1=p.1/\(f p).2.1=p.2.1):∀ {l:List _} {k lo a:Nat},Runs key xs lo l a->Runs key xs lo (l.modify k f) a:=by
 intro b
 induction b with
 |nil=>exact λ{k _ _} h=>by rw[List.modify_nil _ _];exact h
 |cons p r c=>
  intro k lo a h
  cases k with
  |zero=>
   exact Zrr (List.modify_zero_cons _ _ _) ⟨(hf p).1.trans h.1,by rw[(hf p).2];exact h.2.1,by rw[(hf p).2];exact h.2.2.1,by rw[(hf p).2];exact h.2.2.2⟩
  |succ k=>
   exact Zrr (List.modify_succ_cons _ _ _ _) ⟨h.1,h.2.1,h.2.2.1,c h.2.2.2⟩
structure RI (key:Keyed->Nat)(aS:Array Keyed)(kd:SortKind)(st:SortSt)(lo:Nat):Prop where
 sb:SB aS kd st
 runs:Runs key (arrOf st) 0 (pendingOf st).toList lo
section
variable {st:SortSt} {lo n:Nat}
theorem RI.push (r:RI key aS kd st lo)(a:1<=n)(b:d7 key (arrOf st) lo (lo+n)):RI key aS kd (setPending st ((pendingOf st).push (lo,n,0))) (lo+n):=
 ⟨⟨r.sb.perm,r.sb.kind,r.sb.failed⟩,Zrr zC (Runs.app.mpr ⟨lo,r.runs,rfl,a,b,rfl⟩)⟩
theorem LP (L:iC M A s aS kd key){j o}(r:RI key aS kd st o)(u:o<=aS.size)(x:j+1<(pendingOf st).size){Q:ForInStep US->SortSt->Prop}
 (q:∀k,RI key aS kd k o->(pendingOf k).size+1=(pendingOf st).size->(∀i,o<=i->Ks key (arrOf k) i=Ks key (arrOf st) i)->Q (.yield (J,())) k):
 wpS M A E s (mergeAt' j>>=λr=>if(!r)=ab then pure (.done (S (),()))else pure (.yield (J,()))) Q st:=
 bq (abC L r.sb r.runs u x λk a b c d=>bB (q _ ⟨a,b⟩ c d))
set_option tactic.hygienic true in
theorem abJ (L:iC M A s aS kd key){Q}(r:RI key aS kd st lo)(y:1<=n)(hn:lo+n<=aS.size)(b:d7 key (arrOf st) lo (lo+n))
 (h:∀a,RI key aS kd a (lo+n)->Q (.yield (J,lo+n)) a):wpS M A E s (Ac aS.size lo n) Q st:=by
 have fin:∀ {a},RI _ _ kd _ lo->d7 _ _ lo _->wpS M A E s (Ab lo n) Q a:=λr b=>bq (zQ (bB (h _ (r.push y b))))
 refine bq (sZ ?_)
 split
 . next s1 n1 o _=>
   have out:∀ {a},RI _ _ kd a lo->d7 _ (arrOf a) lo _->wpS M A E s (modify (λs=>setPending s ((pendingOf s).modify ((pendingOf s).size - 1) λx=>(x.1,x.2.1,power' _ _ _ _))) >>=λ_=>Ab lo n) Q _:=λ{a} r b=>
    bq (zQ (fin ⟨⟨r.sb.perm,r.sb.kind,r.sb.failed⟩,Zrr Array.toList_modify (abI (f:=λx=>(x.1,x.2.1,power' aS.size (2*s1+n1) (2*s1+n1+n1+n) aS.size)) (λp=>⟨rfl,rfl⟩) r.runs)⟩ b))
   refine bq (l4 (I:=λx c a=>c=(J,())/\RI _ _ kd a lo/\d7 _ (arrOf a) lo _) (λx c a _ hx i=> ?_) (λc a i=> ?_) ⟨rfl,r,b⟩)
   . refine dp i λO k q=> ?_;clear i;refine bq (sZ ?_)
     split
     . next hm=>
       refine cj (λ_=>bB (out k q)) λ_=>LP L k (ba (dH ..) hn) (aK (eH (iR λz=>aD ((if_neg (o_.mpr z)).symm.trans hm)))) λU D _ hk=>⟨rfl,D,λi u H=> ?_⟩
       rw[hk i u];exact Zrr (hk _ (k9 u)) (q i u H)
     exact bB (out k q)
   . refine dp i λO k q=> ?_;clear i;subst O
     exact out k q
 exact fin r b
end
theorem abK (L:iC M A s aS kd key){st}{Q}(hS:SB aS kd st)(hp:pendingOf st= #[])(o:1<=aS.size)
 (h:∀b,SB aS kd b->d7 key (arrOf b) 0 aS.size->Q () b):wpS M A E s sortRuns' Q st:=by
 rw[abH]
 refine bq (sZ ?_)
 rw[hS.size]
 generalize minRun' aS.size aS.size 0=mr
 have last:∀ {b},RI key aS kd b aS.size->wpS M A E s (forIn [:aS.size] (J,()) LO>>=λc=>match c.1 with
  |some r=>pure r
  |none=>pure ()) Q b:=λ{b} r=>by
  have fin:∀ {k},RI key aS kd k aS.size->(pendingOf k).size<=1->Q () k:=λ{k} r a=>by
   have hr:=r.runs
   rw[<-gP]at a
   cases hl:(pendingOf k).toList with
   |nil=>rw[hl]at hr;exact absurd hr (dx o)
   |cons p l=>
    rw[hl]at hr a
    obtain rfl:l= []:=qF (uB λq=>absurd a (KN.mpr (K0 q)))
    refine mB hr λ_ _ s1 e=> ?_;clear hr
    exact h _ r.sb ((e)▸s1)
  have uw:=by have:=r.runs.le;rwa[fc,gP]at this
  refine bq (l4 (I:=λx c k=>c=(J,())/\RI key aS kd k aS.size/\((pendingOf k).size+x<=aS.size\/(pendingOf k).size<=1)) (λx c k _ hx i=> ?_) (λc k i=> ?_) ⟨rfl,r,.inl uw⟩)
  . ((refine dp i λO y a=> ?_;clear i);obtain rfl:=O)
    refine bq (sZ (cj (λe=>bB (bB (fin y e))) λe=>LP L y (bb _) ?_ λu r3 Y _=>⟨rfl,r3,?_⟩))
    . have aux:∀(c:Prop) [Decidable c] (n:Nat),(if c then n - 1 else n)<=n:=λc _ n=>by
       split
       . exact jA ..
       . exact bb _
      exact eP (uH (aux _ _) 1) (Uq e)
    . exact .inl (ba (aK (Nat.succ_add_eq_add_succ ..).symm) (ba (aK (congrArg (· +x) Y)) (a.resolve_right e)))
  . ((refine dp i λO y a=> ?_;clear i);obtain rfl:=O)
    exact bB (fin y (by rw[Ln]at a;exact a.elim (λz=>k9 (Nat.le_of_add_le_add_right (ba z (aK (fc _).symm)))) id))
 refine bq (l4 (I:=λx c b=>∃lo,c=(J,lo)/\RI key aS kd b lo/\lo<=aS.size/\x<=lo) (λx c b _ hx i=> ?_) (λc b i=> ?_) ⟨0,rfl,⟨hS,by rw[hp];rfl⟩,dO _,bb _⟩)
 . ((refine o8 i λlo O r D o=> ?_;clear i);obtain rfl:=O)
   refine cj (λe=>bB ?_) λe=> ?_
   . obtain rfl:lo=aS.size:=cg D e
     exact last r
   have hlt:=iR e
   have a:=zT D
   refine bq (wpS_countRun L (aK a) (D4 hlt) r.sb λm k K2 w5 zR pG=> ?_)
   have tail:∀ {n:Nat} {u:SortSt} {R:ForInStep (Option Unit×Nat)->SortSt->Prop},(∀H,(∃U,((J,lo+n):Option Unit×Nat)=(J,U)/\RI key aS kd H U/\U<=aS.size/\x+1<=U)->R (.yield (J,lo+n)) H)->iD key aS kd lo b u->1<=n->lo+n<=aS.size->d7 key (arrOf u) lo (lo+n)->wpS M A E s (Ac aS.size lo n) R u:=λ{n u R} hR K m_ uA D9=>
    abJ L ⟨K.sb,by rw[K.pend];exact r.runs.same λi _ hi=>K.low i hi⟩ m_ uA D9 λH r4=>hR H ⟨lo+n,rfl,r4,uA,tQ o m_⟩
   have hmn:=a▸iE zR lo
   refine cj (λhl=>bq (uz (sr ⟨rfl,bq (aa8 L ?_ w5 ?_ K2.sb pG λu K3 D9=>tail (λ_ z=>z) (K2.trans K3) ?_ ?_ D9)⟩))) λ_=>tail (λ_ z=>z) K2 w5 hmn pG
   . exact ba (iE (lL ..) lo) (aK a)
   . exact rW.mpr ⟨zR,bX hl⟩
   . exact rW.mpr ⟨D4 hlt,DQ hl⟩
   . exact ba (iE (lL ..) lo) (aK a)
 . ((refine o8 i λlo O r D o=> ?_;clear i);obtain rfl:=O)
   rw[Ln]at o
   obtain rfl:lo=aS.size:=cg D o
   exact last r
end
section
open PySem PySem.W PySem.Calls PyProof.Rows PySem.SeqAt
open PySem.AutoSeq1 (wpAny_loadPart')
open PySem.MeetsSeq PySem.MeetsSeq2 PySem.MeetsSeq3
def nh (A:Around)(s:aT)(y x:Value)(b:Bool):Prop:=
 ∀(prog:Program) (w:World) (E:Value->aT->Prop) (Q:Value->aT->Prop),Q (.bool b) s->wpAny (model prog w) A (richCompare .Lt y x) Q E s
noncomputable def ni:List (Bool×Bool)->Bool->Bool
 | [],fin=>fin
 |p::r,fin=>if p.1 then ni r fin else p.2
theorem D_:ni (p::r) f=if p.1 then ni r f else p.2:=rfl
theorem Ea:ni [] f=f:=rfl
theorem abL (l b:aO)(items a:Array Value)(n n2:Nat)(dd uM:Option aO)(sl uN:Array (Option Value))(e g:Nat->Bool):
 Meets (Builtin.«tuple.__lt__» ⟨[.ref l,.ref b],[]⟩)
  (λA R s=>s.heap.get? l=S {cls:= .type "tuple",dict:=dd,data:= .seq items n,slots:=sl}/\s.heap.get? b=S {cls:= .type "tuple",dict:=uM,data:= .seq a n2,slots:=uN}/\
   (∀j (D:j<items.size) (H:j<a.size),EqAt A.in1 s items[j] a[j] (e j)/\(e j=ae->nh A.in1 s items[j] a[j] (g j)))/\
   R (.ok (.ret (.bool (ni ((List.range (min items.size a.size)).map λj=>(e j,g j)) (decide (items.size<a.size)))))) s):=
 .of_wp λprog w A R s h=>by
  obtain ⟨hp,g',d,tk,os⟩:=s;(revert h;intro O;refine mB O λhl hb he h=> ?_;clear O)
  have f2:=AutoSeq1.sub_tuple_tuple
  have hZ:(items.toList.zip a.toList).length=min items.size a.size:=by simp
  wp_walk using lj hl,lj hb,wpAny_forIn_list _ (λrest b I=>b.1=J/\I=⟨hp,g',d,tk,os⟩/\∃i,rest=(items.toList.zip a.toList).drop i/\
   R (.ok (.ret (.bool (ni (((List.range (min items.size a.size)).drop i).map λj=>(e j,g j)) (decide (items.size<a.size)))))) ⟨hp,g',d,tk,os⟩) _
  case turn=>
   (intro O;obtain ⟨y,x⟩:=O;intro rest b I q;refine dp q λL Q r=> ?_;refine ah r λi k c=> ?_;clear r;clear q;obtain rfl:=Q)
   have hlt:i<(items.toList.zip a.toList).length:=by
    rcases uO i (items.toList.zip a.toList).length with o|o
    . exact o
    . rw[sF o]at k;cases k
   have hm:=hZ▸hlt
   have D:=d0 hm (lL _ _)
   have H:=d0 hm (qo _ _)
   rw[ov hlt]at k
   injection k with LQ U
   have u:y=items[i]:=by have:=congrArg Prod.fst LQ;simpa using this
   have hx:x=a[i]:=by have:=congrArg Prod.snd LQ;simpa using this
   subst u hx
   have hd:(List.range (min items.size a.size)).drop i=i::(List.range (min items.size a.size)).drop (i+1):=by simp[ov,hm]
   rw[hd,dz,D_]at c
   refine aG ((he i D H).1 prog w _ _ ?_)
   cases u:e i with
   |true=>
    rw[u]at c
    wp_walk
    exact⟨rfl,rfl,i+1,U,by simpa using c⟩
   |false=>
    rw[u]at c
    have hc:=(he i D H).2 u prog w
    generalize richCompare .Lt items[i] a[i]=rc at hc ⊢
    wp_walk
    refine hc _ _ ?_
    wp_walk
    exact⟨_,rfl,by simpa using c⟩
  case fin=>
   (intro O;obtain ⟨b1,b2⟩:=O;intro I q;refine dp q λL Q r=> ?_;refine ah r λi k c=> ?_;clear r;clear q;obtain rfl:=Q)
   simp only at L
   subst L
   have Y:min items.size a.size<=i:=by
    rcases uO i (items.toList.zip a.toList).length with o|o
    . rw[ov o]at k;cases k
    . exact hZ▸o
   rw[sF (by simpa using Y)]at c
   wp_walk
   exact⟨_,rfl,by simpa [Builtin.Tuple.tupleCompareSizes,Ea]using c⟩
  case h=>
   exact⟨rfl,rfl,0,rfl,by simpa using h⟩
theorem abN (l b:aO)(items a:Array Value)(n u:Nat)(x y:Option aO)(sl D:Array (Option Value))(e g:Nat->Bool)(k:Nat):
 ∀i:Nat,min items.size a.size - i=k->Meets (Builtin.«list.__eq__.loop» ⟨[.ref l,.ref b,rawInt i,rawInt 0],[]⟩)
  (λA R s=>s.heap.get? l=S {cls:= .type "list",dict:=x,data:= .seq items n,slots:=sl}/\s.heap.get? b=S {cls:= .type "list",dict:=y,data:= .seq a u,slots:=D}/\
   (∀j (c:j<items.size) (Y:j<a.size),EqAt A.in1 s items[j] a[j] (e j)/\(e j=ae->nh A.in1 s items[j] a[j] (g j)))/\
   R (.ok (.ret (.bool (ni (((List.range (min items.size a.size)).drop i).map λj=>(e j,g j)) (decide (items.size<a.size)))))) s):=by
 induction k with
 |zero=>
  intro i hk prog w A R s h
  obtain ⟨H,I,d,L,os⟩:=s;(revert h;intro O;refine mB O λhl hb he h=> ?_;clear O)
  have o:(List.range (min items.size a.size)).drop i= []:=by simp;exact RT hk
  rw[o]at h
  wp_walk using lj hl,lj hb
  by_cases c:items.size<=i
  . have oI:items[((i:Nat):Int).toNat]?=none:=by simp;assumption
    rw[oI]
    wp_walk using lj hl,lj hb
    show R (.ok (.ret (.bool (decide (items.size<a.size))))) _
    simpa [Ea]using h
  . have q_:a[((i:Nat):Int).toNat]?=none:=ynL (fB λz=>BV (Nat.lt_min.mpr ⟨iR c,z⟩) (LF hk))
    have oI:items[((i:Nat):Int).toNat]?=S (items[i]'(iR c)):=by simp
    rw[q_,oI]
    wp_walk using lj hl,lj hb
    show R (.ok (.ret (.bool (decide (items.size<a.size))))) _
    simpa [Ea]using h
 |succ k Q=>
  intro i hk prog w A R s h
  obtain ⟨H,I,d,L,os⟩:=s;(revert h;intro O;refine mB O λhl hb he h=> ?_;clear O)
  wp_walk using lj hl,lj hb
  have hlt:i<items.size:=RU hk
  have q:i<a.size:=RW hk
  have oI:items[((i:Nat):Int).toNat]?=S items[i]:=by simp[hlt]
  have q_:a[((i:Nat):Int).toNat]?=S a[i]:=by simp[q]
  have hm:i<min items.size a.size:=RX hk
  have o:(List.range (min items.size a.size)).drop i=i::(List.range (min items.size a.size)).drop (i+1):=by simp[ov,hm]
  have U:((i:Int)+1)=((i+1:Nat):Int):=by push_cast;rfl
  rw[o,dz,D_]at h
  rw[oI,q_]
  refine aG ((he i hlt q).1 prog w _ _ ?_)
  cases r:e i with
  |true=>
   rw[r]at h
   wp_walk
   rw[U]
   exact⟨Dt plain_eq_loop _,Du entry_eq_loop (by
    rw[Dv plain_eq_loop _]
    exact Q (i+1) (RY hk hm) prog w A R _ ⟨hl,hb,he,by simpa using h⟩)⟩
  |false=>
   rw[r]at h
   wp_walk using lj hl,lj hb
   rw[oI,q_]
   refine aG ((he i hlt q).2 r prog w _ _ ?_)
   wp_walk
   simpa using h
theorem abO (l b)(items a)(n c)(k o)(sl q)(e g:Nat->Bool):
 Meets (Builtin.«list.__lt__» ⟨[.ref l,.ref b],[]⟩)
  (λA R s=>s.heap.get? l=S {cls:= .type "list",dict:=k,data:= .seq items n,slots:=sl}/\s.heap.get? b=S {cls:= .type "list",dict:=o,data:= .seq a c,slots:=q}/\
   (∀j (r:j<items.size) (u:j<a.size),EqAt A.in1 s items[j] a[j] (e j)/\(e j=ae->nh A.in1 s items[j] a[j] (g j)))/\
   R (.ok (.ret (.bool (ni ((List.range (min items.size a.size)).map λj=>(e j,g j)) (decide (items.size<a.size)))))) s):=by
 intro prog w A R s h
 obtain ⟨x,y,d,D,os⟩:=s;revert h;intro O;refine mB O λhl hb he h=> ?_;clear O
 have H:=AutoSeq1.sub_list_list
 wp_walk using lj hl,lj hb
 exact⟨Dt plain_eq_loop _,Du entry_eq_loop (by
  rw[Dv plain_eq_loop _]
  exact abN l b items a n c k o sl q e g _ 0 rfl prog w A R _ ⟨hl,hb,he,by simpa using h⟩)⟩
variable {A:Around} {s:aT}
theorem nh.ints (a)(t)(b)(u):nh A s (.int a t) (.int b u) (decide (a<b)):=λprog w E Q h=>
 wpAny_richCompare_same (Ci s a t) (Ci s b u) F.slot_int_lt (by
  refine mW (call_int_lt (Q:=λv c=>v= .bool _/\c=s) ⟨rfl,rfl⟩) (λv c k=>au k λO o=> ?_) λ_ _ x=>x;clear k;subst O;subst o
  exact⟨nofun,h⟩) rfl
theorem nh.tuples {items a}{n c}{e g:Nat->Bool}(k:s.heap.get? l=S (seqObj "tuple" items n))(o:s.heap.get? b=S (seqObj "tuple" a c))(q:A.units<cLine)
 (he:∀j (r:j<items.size) (u:j<a.size),EqAt A.in1 s items[j] a[j] (e j)/\(e j=ae->nh A.in1 s items[j] a[j] (g j))):
 nh A s (.ref l) (.ref b) (ni ((List.range (min items.size a.size)).map λj=>(e j,g j)) (decide (items.size<a.size))):=λ_ _ _ Q h=>
 richCompare_meets_room ⟨_,k,rfl⟩ ⟨_,o,rfl⟩ F.slot_tuple_lt F.entry_tuple_lt (F.args_tuple_lt_2 _ _) (abL l b _ _ n c _ _ _ _ e g)
  ⟨k,o,he,⟨(λx=>nomatch x),h⟩⟩ q
end
structure gS (P:V->Prop)(lt:V->V->Bool):Prop where
 uP:∀x,P x->lt x x=ae
 trans:∀x y z,P x->P y->P z->lt x y=ab->lt y z=ab->lt x z=ab
 uQ:∀x y,P x->P y->lt x y=ae->lt y x=ae->x=y
theorem gS.abP (o:gS P lt){x y}(hx:P x)(a:P y)(h:lt x y=ab):lt y x=false:=by
 cases q:lt y x with
 |false=>rfl
 |true=>have:=o.trans x y x hx a hx h q;rw[o.uP x hx]at this;exact bT this
theorem gS.neg (o:gS P lt){x y z}(hx:P x)(b:P y)(a:P z)(h:lt z y=ab)(q:lt x y=ae):lt z x=true:=by
 cases r:lt z x with
 |true=>rfl
 |false=>
  cases t:lt x z with
  |true=>have:=o.trans x z y hx a b t h;rw[q]at this;exact bT this
  |false=>have:=o.uQ x z hx a t r;subst this;rw[q]at h;exact bT h
theorem rg (h:isInt x=ab):∃i,x= .int i:=by cases x<;>first|exact⟨_,rfl⟩|exact bT h
theorem xe:gS (λx=>isInt x=ab) dc where
 uP:=λx h=>by
  refine ao (rg h) λi O=> ?_;subst O
  exact decide_eq_false i.lt_irrefl
 trans:=λx y z hx a b h q=>by
  refine ao (rg hx) λi O=> ?_;subst O
  refine ao (rg a) λj O=> ?_;subst O
  refine ao (rg b) λk O=> ?_;subst O
  exact decide_eq_true (mR (of_decide_eq_true h) (of_decide_eq_true q))
 uQ:=λx y hx a h q=>by
  refine ao (rg hx) λi O=> ?_;subst O
  refine ao (rg a) λj O=> ?_;subst O
  exact congrArg _ (Int.le_antisymm (lT.mp (of_decide_eq_false q)) (lT.mp (of_decide_eq_false h)))
theorem Ae (hx:isInt x=ab)(a:isInt y=ab):dN x y=ab↔x=y:=by
 refine ao (rg hx) λi O=> ?_;subst O
 refine ao (rg a) λj O=> ?_;subst O
 exact⟨λe=>congrArg _ (of_decide_eq_true e),λe=>decide_eq_true (V.int.inj e)⟩
theorem Ec (x)(xs)(y)(a):kR (x::xs) (y::a)=if dN x y then kR xs a else dc x y:=rfl
theorem Ed (i j k l):dc (.tup [.int i,.int j]) (.tup [.int k,.int l])=if i=k then if j=l then ae else decide (j<l)else decide (i<k):=by
 show(if decide _=ab then if decide _=ab then ae else decide _ else decide _)=_
 simp only[decide_eq_true_eq]
section
variable {P:V->Prop}
theorem abQ (hk:∀x y,P x->P y->(dN x y=ab↔x=y)){xs}:∀ {c:List V},(∀x∈xs,P x)->(∀x∈c,P x)->(lN xs c=ab↔xs=c):=by
 induction xs with
 |nil=>
  intro c _ _
  cases c with
  |nil=>exact⟨λ_=>rfl,λ_=>rfl⟩
  |cons y c=>exact⟨λh=>(gr h).elim,λh=>by cases h⟩
 |cons x xs o=>
  intro c hx k
  cases c with
  |nil=>exact⟨λh=>(gr h).elim,λh=>by cases h⟩
  |cons y c=>
   have a:=hk x y (hx x (.head _)) (k y (.head _))
   have b:=o (λz m=>hx z (.tail _ m)) λz m=>k z (.tail _ m)
   refine⟨λh=> ?_,λh=> ?_⟩
   . have h:=dF.mp h
     rewrite[a.mp h.1];rw[b.mp h.2];rfl
   exact have h:=iB h;dF.mpr ⟨a.mpr h.1,b.mpr h.2⟩
theorem LR (o:gS P dc)(hk:∀x y,P x->P y->(dN x y=ab↔x=y)){xs}:(∀x∈xs,P x)->kR xs xs=false:=by
 induction xs with
 |nil=>exact λ_=>rfl
 |cons x xs a=>exact λh=>(if_pos ((hk x x (h x (.head _)) (h x (.head _))).mpr rfl)).trans (a λz m=>h z (.tail _ m))
theorem LS (o:gS P dc)(hk:∀x y,P x->P y->(dN x y=ab↔x=y)){xs}:∀ {a:List V},(∀x∈xs,P x)->(∀x∈a,P x)->kR xs a=ae->kR a xs=ae->xs=a:=by
 induction xs with
 |nil=>
  intro a _ _ h _
  cases a with
  |nil=>rfl
  |cons y a=>exact jc h
 |cons x xs k=>
  intro a hx c h q
  cases a with
  |nil=>exact jc q
  |cons y a=>
   have b:=hx x (.head _)
   have py:=c y (.head _)
   rw[Ec]at h q
   by_cases e:x=y
   . subst e
     have:=(hk x x b b).mpr rfl
     rw[if_pos this]at h q
     rw[k (λz m=>hx z (.tail _ m)) (λz m=>c z (.tail _ m)) h q];rfl
   . rw[if_neg λz=>e ((hk x y b py).mp z)]at h
     rw[if_neg λz=>e ((hk y x py b).mp z).symm]at q
     exact absurd (o.uQ x y b py h q) e
theorem LU (o:gS P dc)(hk:∀x y,P x->P y->(dN x y=ab↔x=y)){xs}:∀ {a b:List V},(∀x∈xs,P x)->(∀x∈a,P x)->(∀x∈b,P x)->kR xs a=ab->kR a b=ab->kR xs b=true:=by
 induction xs with
 |nil=>
  intro a b _ _ _ h q
  cases b with
  |cons z b=>rfl
  |nil=>cases a with
   |nil=>exact bT q
   |cons y a=>exact bT q
 |cons x xs L=>
  intro a b hx H I h q
  cases a with
  |nil=>exact bT h
  |cons y a=>
  cases b with
  |nil=>exact bT q
  |cons z b=>
   have c:=hx x (.head _)
   have py:=H y (.head _)
   have k:=I z (.head _)
   rw[Ec]at h q ⊢
   by_cases D:x=y
   . subst D
     rw[if_pos ((hk x x c c).mpr rfl)]at h
     by_cases r:x=z
     . subst r
       rw[if_pos ((hk x x c c).mpr rfl)]at q ⊢
       exact L (λu m=>hx u (.tail _ m)) (λu m=>H u (.tail _ m)) (λu m=>I u (.tail _ m)) h q
     . rw[if_neg λe=>r ((hk x z c k).mp e)]at q ⊢
       exact q
   . rw[if_neg λe=>D ((hk x y c py).mp e)]at h
     by_cases r:y=z
     . subst r
       rewrite[if_neg λe=>D ((hk x y c py).mp e)]
       exact h
     . rw[if_neg λe=>r ((hk y z py k).mp e)]at q
       exact have t:=o.trans x y z c py k h q;Zrr (if_neg λe=>by rw[(hk x z c k).mp e,o.uP z k]at t;exact bT t) t
end
theorem lp (h:iU x=ab):∃a b,x= .tup [.int a,.int b]:=by
 cases x with
 |tup xs=>
  have e:=dF.mp h
  rcases xs with _| ⟨x,_| ⟨y,_| ⟨z,r⟩⟩⟩
  . cases e.1
  . cases e.1
  . have a:=cF.mp e.2
    have b:=a x (.head _)
    have c:=a y (.tail _ (.head _))
    cases x<;>first|exact bT b|skip
    cases y<;>first|exact⟨_,_,rfl⟩|exact bT c
  cases e.1
 |_=>exact bT h
theorem rh:∀x∈ [.int a,.int b],isInt x=true:=yoC.mpr ⟨rfl,yoC.mpr ⟨rfl,λ_ m=>nomatch m⟩⟩
theorem xg:gS (λx=>iU x=ab) dc where
 uP:=λx h=>by
  refine fb (lp h) λa b O=> ?_;subst O
  exact LR xe (λx y=>Ae) rh
 trans:=λx y z hx k o h q=>by
  refine fb (lp hx) λa b O=> ?_;subst O
  refine fb (lp k) λc d O=> ?_;subst O
  refine fb (lp o) λe f O=> ?_;subst O
  exact LU xe (λx y=>Ae) rh rh rh h q
 uQ:=λx y hx k h q=>by
  refine fb (lp hx) λa b O=> ?_;subst O
  refine fb (lp k) λc d O=> ?_;subst O
  exact congrArg _ (LS xe (λx y=>Ae) rh rh h q)
theorem Ee (hx:iU x=ab)(k:iU y=ab):dN x y=ab↔x=y:=by
 refine fb (lp hx) λa b O=> ?_;subst O
 refine fb (lp k) λc d O=> ?_;subst O
 exact have:=abQ (λx y=>Ae) (rh (a:=a) (b:=b)) (rh (a:=c) (b:=d));⟨λh=>congrArg _ (this.mp h),λh=>this.mpr (V.tup.inj h)⟩
theorem oJ (h:rY x=ab):∃xs,x= .lst xs/\∀y∈xs,iU y=true:=by
 cases x with
 |lst xs=>exact⟨xs,rfl,cF.mp h⟩
 |_=>exact bT h
theorem abR:gS (λx=>rY x=ab) dc where
 uP:=λx h=>by
  refine ah (oJ h) λa O ha=> ?_;subst O
  exact LR xg (λx y=>Ee) ha
 trans:=λx y z hx k o h q=>by
  refine ah (oJ hx) λa O ha=> ?_;subst O
  refine ah (oJ k) λb O hb=> ?_;subst O
  refine ah (oJ o) λc O r=> ?_;subst O
  exact LU xg (λx y=>Ee) ha hb r h q
 uQ:=λx y hx k h q=>by
  refine ah (oJ hx) λa O ha=> ?_;subst O
  refine ah (oJ k) λb O hb=> ?_;subst O
  exact congrArg _ (LS xg (λx y=>Ee) ha hb h q)
theorem LY (x y)(a):tU x (y::a)=if dc x y then x::y::a else y::tU x a:=rfl
theorem LZ (x):∀xs,(tU x xs).Perm (x::xs):=by
 intro a
 induction a with
 |nil=>
  exact .refl _
 |cons y b c=>
  rw[LY _ _ _]
  split
  . exact .refl _
  exact(c.cons y).trans (.swap x y b)
theorem uR:∀xs,(gn xs).Perm xs:=by
 intro a
 induction a with
 |nil=>
  exact .refl _
 |cons x xs b=>
  exact(LZ x _).trans (b.cons x)
def pM (xs:List V):Prop:=xs.Pairwise λx y=>dc y x=ae
theorem abS (o:gS P dc){x}(hx:P x):∀ {xs:List V},(∀y∈xs,P y)->pM xs->pM (tU x xs):=by
 intro c
 induction c with
 |nil=>
  exact λ_ _=>L0 ..
 |cons y k r=>
  intro h s
  have py:=h y (by simp)
  have b:=s6.mp s
  rw[LY _ _ _]
  split
  . next hlt=>
    refine s6.mpr ⟨λz a=> ?_,s⟩
    rcases cy.mp a with rfl|a
    . exact o.abP hx py hlt
    cases q:dc z x with
     |false=>rfl
     |true=>have:=o.trans z x y (h z (by simp[a])) hx py q hlt;rw[b.1 z a]at this;exact bT this
  next hlt=>
   refine s6.mpr ⟨λz a=> ?_,r (λz a=>h z (by simp[a])) b.2⟩
   rcases cy.mp ((LZ x k).mem_iff.mp a)with rfl|a
   . simpa using hlt
   exact b.1 z a
theorem abT (o:gS P dc):∀ {xs:List V},(∀y∈xs,P y)->pM (gn xs):=by
 intro b
 induction b with
 |nil=>
  exact λ_=> .nil
 |cons x xs c=>
  exact λh=>abS o (h x (by simp)) (λy a=>h y (by simp[(uR xs).mem_iff.mp a])) (c λy a=>h y (by simp[a]))
theorem abU (o:gS P dc):∀ {xs a:List V},xs.Perm a->(∀x∈xs,P x)->pM xs->pM a->xs=a:=by
 intro q
 induction q with
 |nil=>exact λp _ _ _=>(List.nil_perm.mp p).symm
 |cons x xs r=>
  intro a p h s t
  cases a with
  |nil=>exact absurd p.length_eq (Nat.succ_ne_zero _)
  |cons y a=>
   have b:=s6.mp s
   have c:=s6.mp t
   have k:=p.mem_iff.mpr cT
   have e:x=y:=(cy.mp k).elim (λe=>e.symm) λu=>(cy.mp (p.mem_iff.mp cT)).elim (λe=>e) λhx=>o.uQ x y (h x cT) (h y k) (c.1 x hx) (b.1 y u)
   subst e
   rewrite[r p.cons_inv (λz D=>h z (dA _ D)) b.2 c.2];rfl
theorem Ef (o:gS P dc){xs a}(h:∀x∈xs,P x)(p:a.Perm xs)(s:pM a):gn xs=a:=
 abU o ((uR xs).trans p.symm) (λx hx=>h x ((uR xs).mem_iff.mp hx)) (abT o h) s
def rank (l:List V)(x:V):Nat:=l.countP λz=>dc z x
theorem abV (o:gS P dc){l}(hl:∀x∈l,P x){x y}(hx:P x)(a:P y)(h:dc y x=ae):rank l x<=rank l y:=ynX λz b q=>o.neg a hx (hl z b) q h
theorem abW (o:gS P dc){l}(hl:∀x∈l,P x){x y}(hx:x∈l)(u:P y)(h:dc x y=ab):rank l x<rank l y:=by
 have r:=hl x hx
 refine fb (L3 hx) λa b O=> ?_;subst O
 have k:∀m:List V,(∀z∈m,P z)->m.countP _<=m.countP _:=λm hm=>ynX λz c q=>o.trans z x y (hm z c) r u q h
 have D:=k a λz c=>hl z (by simp[c])
 have H:=k b λz c=>hl z (by simp[c])
 unfold rank
 rw[yoU,yoU,ypU,ypU,h,o.uP x r]
 lia
theorem L4 (o:gS P dc){l}(hl:∀x∈l,P x){x y}(hx:x∈l)(a:y∈l):decide (rank l x<rank l y)=dc x y:=by
 cases h:dc x y with
 |true=>simpa using abW o hl hx (hl y a) h
 |false=>simpa using abV o hl (hl y a) (hl x hx) h
section
open PySem PySem.W PySem.Calls PyProof.Rows PySem.SeqAt
variable {prog:Program} {w:World} {A:Around} {E:Value->aT->Prop} {s:aT}
theorem abX {dec:Value->V}{P}(o:gS P dc){l}(hl:∀x∈l,P x){a}{kd}(b:∀p∈a.toList,dec p.1∈l)
 (h:∀(E:Value->aT->Prop) (x y:Keyed) (Q:Bool->aT->Prop),x∈a.toList->y∈a.toList->Q (dc (dec x.1) (dec y.1)) s->wpAny M A (keyLt' kd x.1 y.1) Q E s):
 iC M A s a kd λp=>rank l (dec p.1):=by
 intro E x y st Q hx c hk q
 rw[lt'_eq _ _]
 refine bq (sZ (Zrr hk (bq (uz (wpAny_attempt (h _ x y _ hx c ⟨rfl,?_⟩))))))
 rw[(L4 o hl (b x hx) (b y c)).symm]
 exact bB q
theorem abY {P}(o:gS P dc){a}{xs}(hx:a.map dec=xs)(b:∀x∈xs,P x){arr}(r:arr.Perm (pairsOf a))(I:d7 (λp=>rank xs (dec p.1)) arr 0 (pairsOf a).size):
 (arr.map (·.2)).toList.Perm a/\(arr.map (·.2)).toList.map dec=gn xs:=by
 have L:=r.size_eq
 have u:arr.toList.Perm (a.zip a):=by rw[(pairsOf_toList _).symm];exact DE.mp r
 have k:(arr.map (·.2)).toList.Perm a:=by
  refine Zrr L6 ((u.map _).trans (Zrr (List.map_snd_zip (by simp)) ?_));rfl
 have y:∀p∈arr.toList,p.1=p.2:=λp b=>(mem_zip_self (u.mem_iff.mp b)).1
 refine⟨k,(Ef o b (hx▸k.map _) ?_).symm⟩
 have hw:=by
  refine(z8 (key:=λp=>rank xs (dec p.1)) (xs:=arr) (P:= []) (dg _).symm).mp ?_
  rw[(‹_› :arr.toList.length=(pairsOf a).size),fc _];exact I
 unfold pM
 rw[L6,b5,propext i7]
 have D:∀p∈arr.toList,dec _∈xs:=λp b=>Zrr hx.symm (bY.mpr ⟨_,k.mem_iff.mp (by rw[L6];exact bY.mpr ⟨p,b,rfl⟩),rfl⟩)
 refine hw.imp_of_mem λ{p q} mp H c=> ?_
 show dc (dec _) (dec _)=ae
 have c:rank xs _<=rank xs _:=c
 rw[y p mp,y q H]at c
 rw[(L4 o b (D q H) (D p mp)).symm]
 simpa using c
theorem abZ {dec}{P}(o:gS P dc){a}{c}{xs}{n}{kd}{R}(D:s.heap.get? a=S (seqObj "list" c.toArray n))(hl:c.length<aE)(hx:c.map dec=xs)(r:∀x∈xs,P x)
 (hk:∀h',(∀b o,b≠a->s.heap.get? b=S o->h'.get? b=S o)->2<=c.length->
  (∀(Q:SortKind->aT->Prop) E,Q kd (upd s h' s.toks)->wpAny (model prog w) A (keyKind' c.toArray) Q E (upd s h' s.toks))/\
  (∀(E:Value->aT->Prop) x y (Q:Bool->aT->Prop),x∈c->y∈c->Q (dc (dec x) (dec y)) (upd s h' s.toks)->wpAny (model prog w) A (keyLt' kd x y) Q E (upd s h' s.toks)))
 (h:∀out,out.toList.Perm c->out.toList.map dec=gn xs->R (.done (.ret .none)) (upd s (sortedHeap s.heap a c out) s.toks)):
 wpAny (model prog w) A (Builtin.«list.sort» ⟨[.ref a],[]⟩) R E s:=by
 rw[list_sort_plain _]
 have ha:=jf D
 have Af:=fQ hl
 refine aG (listItems_at D rfl ?_)
 refine aG (L8 D rfl ?_ (by simpa using Af) (dO _))
 obtain ⟨I,mQ⟩:∃I,(s.heap.update a (.mapSeq λ_=> #[])).get? a=S (seqObj "list" #[] I):=⟨_,L9 D (λ_=> #[])⟩
 refine aG (L_ mQ rfl ?_)
 refine aG (wpAny_newTuple ?_ (by simpa using Af))
 refine aG (wpAny_newList ?_ (dO _))
 refine jH ?_
 have H:(((s.heap.update a (.mapSeq λ_=> #[])).push (seqObj "tuple" c.toArray 0)).push (seqObj "list" #[] 0)).get? a=S (seqObj "list" #[] I):=by
  refine Zrr (yoZ _ _ _ (by(rw[size_push' _ _,ypO _ _ _]);exact dx (yC ha))) ?_;refine Zrr (yoZ _ _ _ (by rw[ypO _ _ _];exact dx ha)) ?_
  exact mQ
 have O:∀b o,b≠a->s.heap.get? b=S o->(((s.heap.update a (.mapSeq λ_=> #[])).push (seqObj "tuple" c.toArray 0)).push (seqObj "list" #[] 0)).get? b=S o:=λb o hb e=>
  jE _ (jE _ (update_other _ _ _ hb e))
 show wpAny (model prog w) A _ R E (upd s (((s.heap.update a (.mapSeq λ_=> #[])).push (seqObj "tuple" c.toArray 0)).push (seqObj "list" #[] 0)) s.toks)
 dsimp only
 have hsz:c.toArray.size=c.length:=rfl
 have fin:∀k,(arrOf k).Perm (pairsOf c)->d7 (λp=>rank xs (dec p.1)) (arrOf k) 0 (pairsOf c).size->R (.done (.ret .none)) (upd s (sortedHeap s.heap a c ((arrOf k).map (·.2))) s.toks):=by
  intro k oq cZ
  refine au (abY o hx r oq cZ) λU Y=> ?_
  exact h _ U Y
 by_cases u:c.toArray.size<2
 . rw[if_pos u,if_pos u]
   refine aG (bA ?_)
   rw[StateT.run_pure _ _]
   refine aG (bA ?_)
   dsimp only
   refine aG (L_ H rfl ?_)
   refine aG (L8 H rfl ?_ (dO _) (by rw[yqI];show(pairsOf c).size<=_;rw[Eg _];exact k9 ‹_›))
   simp only[bne_self_eq_false,if_false]
   refine bA (fin (.mk' general' (c.toArray.zip c.toArray) #[] 7 J) (.refl _) ?_)
   intro i _ hj
   rw[Eg]at hj
   lia
 . rw[if_neg u,if_neg u]
   refine au (hk _ O (hC (fB u) (aK hsz))) λk1 k2=> ?_
   refine aG (k1 _ _ ?_)
   have L:=by
    have mem:∀p∈ (pairsOf c).toList,p.1∈c:=λp r=>by rw[pairsOf_toList]at r;exact(mem_zip_self r).2
    refine abX o r (λp r=> ?_) λE x y Q hx hy q=>k2 E x.1 y.1 Q (mem x hx) (mem y hy) q
    rw[hx.symm];exact bY.mpr ⟨p.1,mem p r,rfl⟩
   refine aG (mW (abK L
    (Q:=λ_ k=>SB (pairsOf c) kd k/\d7 (λp=>rank xs (dec p.1)) (arrOf k) 0 (pairsOf c).size)
    ⟨.refl _,rfl,rfl⟩ rfl (by rw[Eg _];exact RB hsz u) λk U Y=>⟨U,Y⟩) ?_ λ_ _ e=>e)
   rintro ⟨⟨⟩,k⟩ s' ⟨rfl,hB,hs⟩
   dsimp only
   refine aG (L_ H rfl ?_)
   refine aG (L8 H rfl ?_ (dO _) (by refine ba (aK ((yqI ..).trans (hB.perm.size_eq.trans (Eg _)))) ?_;exact k9 ‹_›))
   rw[hB.failed]
   simp only[bne_self_eq_false,if_false]
   exact bA (fin k hB.perm hs)
theorem Eh {P}(o:gS P dc){v}{r}{xs}{kd}{Q}(hl:r.length<aE)(hx:r.map dec=xs)(L:∀x∈xs,P x)
 (O:∀(R:List _->aT->Prop),(∀a c,(∀b o,s.heap.get? b=S o->a.get? b=S o)->R r (upd s a c))->wpAny (model prog w) A.in1 (collect v) R E s)
 (hk:∀(a:Heap) c,(∀b o,s.heap.get? b=S o->a.get? b=S o)->2<=r.length->
  (∀(Q:SortKind->aT->Prop) E,Q kd (upd s a c)->wpAny (model prog w) A.in1.in1 (keyKind' r.toArray) Q E (upd s a c))/\
  ∀(E:Value->aT->Prop) x y (Q:Bool->aT->Prop),x∈r->y∈r->Q (dc (dec x) (dec y)) (upd s a c)->wpAny (model prog w) A.in1.in1 (keyLt' kd x y) Q E (upd s a c))
 (h:∀(out:Array _) b a n c,out.toList.Perm r->out.toList.map dec=gn xs->(∀b o,s.heap.get? b=S o->a.get? b=S o)->s.heap.get? b=J->a.get? b=S (seqObj "list" out n)->Q (.ref b) (upd s a c)):
 wpAny (model prog w) A (call (.builtin "sorted") [v]) Q E s:=by
 refine YN kind_sorted plain_sorted entry_sorted (args_sorted1 _) ?_
 refine aG (bA (aG (O _ λD c u=>aG (wpAny_newList ?_ (by simpa using fQ hl)))))
 have H:(D.push _).get? _=S (seqObj "list" r.toArray 0):=kU _ rfl
 have fr:s.heap.get? D.objs.size=none:=by
  cases q:s.heap.get? _ with
  |none=>rfl
  |some o=>have:=u _ _ q;rw[gM]at this;exact aD this
 refine aG (jH (CC slot_list_sort ⟨_,H,rfl⟩ entry_list_sort (abZ (kd:=kd) o H hl hx L (λa k U=> ?_) λout Y a2=>⟨_,rfl,?_⟩) (args_list_sort _)))
 . refine hk a c (λb o e=>k b o (λz=> ?_) (eQ _ _ b o (u b o e))) U
   rw[z,fr]at e;exact aD e
 . refine bA ⟨_,rfl,?_⟩
   obtain ⟨I,mQ⟩:∃I,((D.push (seqObj _ _ 0)).update _ _).get? _=S (seqObj _ _ I):=⟨_,L9 H (λ_=> #[])⟩
   exact h _ _ _ _ c Y a2 (λb o e=>have hb:=(λb o e=>dx (jf e)) b o (u b o e);update_other _ _ _ hb (eQ _ _ b o (eQ _ _ b o (update_other _ _ _ hb (eQ _ _ b o (u b o e)))))) fr (L9 (eQ _ _ _ _ (eQ _ _ _ _ mQ)) _)
noncomputable def Ai:Value->V
 | .int i _=> .int i
 |_=> .none
noncomputable def ab1:Data->List Value
 | .seq a _=>a.toList
 |_=> []
def Ej (h:Heap):Value->List Value
 | .ref a=>((h.get? a).map λo=>ab1 o.data).getD []
 |_=> []
def s8 (h:Heap)(v:Value):V:= .tup ((Ej h v).map Ai)
def Ek (h:Heap)(v:Value):V:= .lst ((Ej h v).map (s8 h))
variable {C:CX} {h h':Heap} {N:aO->Prop}
theorem Ma (h:isInt x=ab):∃i,x= .int i:=by
 cases x with
 |int i=>exact⟨i,rfl⟩
 |_=>exact bT h
theorem El (hx:isInt x=ab)(r:VR C h N x v):Ai v=x:=by
 cases x with
 |int i=>refine ao r λt O=> ?_;clear r;subst O;rfl
 |_=>exact bT hx
theorem xh {p}(o:∀ {x v},p x=ab->VR C h N x v->dec v=x):∀ {xs:List V} {k:List _},xs.all p=ab->bI C h N xs k->k.map dec=xs:=by
 intro u
 induction u with
 |nil=>
  intro _ _ r
  cases r;rfl
 |cons x xs y=>
  intro _ c r
  refine bp r λv q O a b=> ?_;clear r;subst O
  simp only[Cp,fZ]at c
  rw[dz,o c.1 a,y c.2 b];rfl
theorem Mb (b:h.get? a=S (seqObj T c n)):Ej h (.ref a)=c.toList:=by
 show((h.get? a).map _).getD []=_
 rw[b];rfl
theorem Em (hx:iU x=ab)(r:VR C h N x v):s8 h v=x:=by
 refine fb (lp hx) λi j O=> ?_;subst O
 refine bU r λa n k O _ b c=> ?_;clear r;subst O
 unfold s8
 rw[Mb b,xh El rfl c];rfl
theorem Mc (hx:rY x=ab)(r:VR C h N x v):Ek h v=x:=by
 refine ah (oJ hx) λxs O b=> ?_;subst O
 refine bU r λa n o O _ c k=> ?_;clear r;subst O
 unfold Ek
 rw[Mb c];exact Zrr (xh Em (by simpa using b) k) rfl
theorem bI.mem:∀ {xs:List V} {c:List _} {v:Value},bI C h N xs c->v∈c->∃x∈xs,VR C h N x v:=by
 intro k
 induction k with
 |nil=>
  intro _ v r m
  cases r;cases m
 |cons x xs o=>
  intro _ v r m
  refine bp r λu q O a b=> ?_;clear r;subst O
  rcases cy.mp m with rfl|m
  . exact⟨x,by simp,a⟩
  exact ah (o b m) λy D r=>⟨y,by simp[D],r⟩
theorem bI.ab2:∀ {a:List _} {dec:Value->V},(∀v∈a,VR C h N (dec v) v)->bI C h N (a.map dec) a:=by
 intro c
 induction c with
 |nil=>
  intro _ _
  exact rfl
 |cons v a k=>
  intro dec b
  exact⟨v,a,rfl,b v (by simp),k λu o=>b u (by simp[o])⟩
theorem bI.dec {dec:Value->V}{p}(b:∀ {x v},p x=ab->VR C h N x v->dec v=x){xs}{a}(c:xs.all p=ab)(r:bI C h N xs a):∀v∈a,VR C h N (dec v) v/\p (dec v)=true:=λv k=>ah (r.mem k) λx hx q=>have:=cF.mp c x hx;Zrr (b this q) ⟨q,this⟩
theorem Md:∀xs a,ni ((List.range (min xs.length a.length)).map λj=>(dN (xs.getD j .none) (a.getD j .none),dc (xs.getD j .none) (a.getD j .none))) (decide (xs.length<a.length))=kR xs a
 | [],[]=>rfl
 | [],y::a=>rfl
 |x::xs,[]=>rfl
 |x::xs,y::a=>by
  rw[(by simp:min _ _=min xs.length a.length+1),Eo,dz,D_,Ec _ _ _ _,(Md xs a).symm]
  simp[Function.comp_def]
theorem ab3 (hx:iU x=ab)(a:iU y=ab)(b:VR C s.heap N x v)(c:VR C s.heap N y u)(k:A.units+8<cLine):EqAt A s v u (dN x y):=by
 have d:∀z,iU z=ab->isData 4 z=true:=λz o=>by
  refine fb (lp o) λi j O=> ?_;subst O
  rfl
 refine ao (b.reads 4 (d x hx)) λas q=>ao (c.reads 4 (d y a)) λbs r=>au (pj 4 x (d x hx)) λD H=>au (pj 4 y (d y a)) λI L=> ?_
 have:=eqAt_reads _ _ A s v u as bs q r D I (by
  have:=lL (eU x).depth (eU y).depth
  exact SO k H)
 rw[yR x y 4 4 (d x hx) (d y a)]at this
 exact this
theorem ab4 {x y}{v u}(hx:iU x=ab)(hy:iU y=ab)(L:VR C s.heap N x v)(Q:VR C s.heap N y u)(hu:A.units+8<cLine):nh A s v u (dc x y):=by
 refine fb (lp hx) λi j O=> ?_;subst O
 refine fb (lp hy) λk l O=> ?_;subst O
 refine bU L λa n vs O _ ho c=>bp c λv1 r1 e1 o q=> ?_;clear c;refine bp q λv2 r2 e2 r e3=> ?_;clear q;clear L;subst O;refine ao o λU D=> ?_;clear o;subst D;refine ao r λY H=> ?_;clear r;subst H
 refine bU Q λb m us O _ jj c=>bp c λu1 q1 f1 o q=> ?_;clear c;refine bp q λu2 q2 f2 r f3=> ?_;clear q;clear Q;subst O;refine ao o λw1 D=> ?_;clear o;subst D;refine ao r λw2 H=> ?_;clear r;subst H
 subst e3;subst e2;subst f3;subst f2
 have ev:=qY.mp e1
 have eu:=qY.mp f1
 subst ev;subst eu
 have:=nh.tuples (A:=A) (e:=λz=>if z=0 then i==k else j==l) (g:=λz=>if z=0 then decide (i<k)else decide (j<l)) ho jj (Sn hu) (λz I h2=>by
  match z,I,h2 with
  |0,_,_=>exact⟨.int_int _ _ _ _,λ_=> .ints _ _ _ _⟩
  |1,_,_=>exact⟨.int_int _ _ _ _,λ_=> .ints _ _ _ _⟩
  |z+2,I,_=>exact absurd (show z+2<2 by simpa using I) (So))
 rw[(rfl:ni ((List.range (min #[Value.int i U,Value.int j Y].size #[Value.int k w1,Value.int l w2].size)).map λz=>((if z=0 then i==k else j==l),(if z=0 then decide (i<k)else decide (j<l)))) (decide (#[Value.int i U,Value.int j Y].size< #[Value.int k w1,Value.int l w2].size))=dc (.tup [.int i,.int j]) (.tup [.int k,.int l]))]at this
 exact this
theorem bI.getD (r:bI C s.heap N xs c){j}(a):VR C s.heap N (xs.getD j .none) c[j]:=by
 have hl:=r.length
 have hx:xs[j]?=S (xs[j]'(dM a (aK hl.symm))):=du _
 refine ah (r.get hx) λv b q=> ?_
 rw[du a]at b
 cases b
 rw[Ep];exact Zrr hx q
theorem ab5 (hx:rY x=ab)(U:rY y=ab)(D:VR C s.heap N x v)(H:VR C s.heap N y u)(Y:A.units+16<cLine)(q:Q (dc x y) s):wpAny C.M A (oneLt' ab v u) Q E s:=by
 refine ah (oJ hx) λxs O hp=> ?_;subst O
 refine ah (oJ U) λc O hq=> ?_;subst O
 refine bU D λa n vs O _ k o=> ?_;clear D;subst O
 refine bU H λb m us O _ jj r=> ?_;clear H;subst O
 refine aG (wpAny_cRoomFor (Ry Y) (aG (wpAny_callSpecialIfBound?_slot ⟨_,k,rfl⟩ ynH (pf ynH ⟨_,k,rfl⟩ PySem.F.entry_list_lt (PySem.F.args_list_lt_2 _ _)
  (abO a b vs us n m _ _ _ _ (λj=>dN (xs.getD j .none) (c.getD j .none)) λj=>dc (xs.getD j .none) (c.getD j .none)) ⟨k,jj,λj h1 h2=> ?_,?_⟩))))
 . have l1:=o.length
   have l2:=r.length
   simp only[gP]at l1 l2
   have I:iU (xs.getD j .none)=true:=by
    rw[Ep];exact Zrr (du (by lia)) (hp _ (wU _))
   have L:iU (c.getD j .none)=true:=by
    rw[Ep];exact Zrr (du (by lia)) (hq _ (wU _))
   exact have q1:=o.getD (by simpa using h1);have q2:=r.getD (by simpa using h2);⟨ab3 I L q1 q2 (by lia),λ_=>ab4 I L q1 q2 (by lia)⟩
 . have e:=Md xs c
   rw[o.length,r.length]at e
   exact Zrr e (sC q)
theorem ab6 (low:(d==sysModules)=ae):KdlSrc prog w "dict" d d es.length (λi v=>∃e,es[i]?=S e/\v=e.key) λh=>h.get? d=S (dictOf es b) where
 type:=λ_ hm=>⟨_,hm,rfl⟩
 there:=λ_ hm=>⟨jf hm,jf hm⟩
 keep:=λ_ _ hm hk=>hk d (.inl rfl) _ hm
 notList:=rfl
 notTuple:=rfl
 hint:=λ_ _ _ _ hm a=>kdl_hint_dict ⟨_,hm,rfl⟩ a
 iter:=λ_ _ c hm=>⟨_,_,λ_ _ a=>JG low hm a,JM c _ d (dx (jf hm)) es b,⟨⟨_,kU _ rfl,rfl,rfl⟩,jE _ hm⟩⟩
variable {F W:aO->Prop} {ι ag:Lay} {σ af:Hp}
theorem fY.keys:∀ {c:List _} {es:List _},fY C h N ι t c es->bI C h N (keysOf c) (es.map (·.key)):=by
 intro o
 induction o with
 |nil=>
  intro es r
  cases r;rfl
 |cons u r y=>
  obtain ⟨k,x⟩:=u
  intro es q
  refine kP q λe D O _ _ a _ b=> ?_;clear q;subst O
  exact⟨_,_,rfl,a,y b⟩
theorem iV.keys:∀ {c:List _} {es:List _},iV C h N t c es->bI C h N (keysOf c) (es.map (·.key)):=by
 intro o
 induction o with
 |nil=>
  intro es r
  cases r;rfl
 |cons u r y=>
  obtain ⟨k,x⟩:=u
  intro es q
  refine kP q λe D O _ _ a _ b=> ?_;clear q;subst O
  exact⟨_,_,rfl,a,y b⟩
theorem Me {E}(u:A.handled=J){d}{es}{x}(low:(d==sysModules)=ae)(y:s.heap.get? d=S (dictOf es x))(hl:es.length<aE)(R)
 (q:∀h' c,(∀b o,s.heap.get? b=S o->h'.get? b=S o)->R (es.map (·.key)) (upd s h' c)):wpAny C.M A (collect (.ref d)) R E s:=kdu_collect (ab6 low) u y (fQ hl) λh' c acc k it=>Zrr (by
 apply gQ
 intro j
 rw[bx,eL]
 by_cases a:j<es.length
 . refine ah (it.2 j acc[j]! (by
    have:j<acc.size:=by rewrite[it.1];exact a
    rw[zL this,getElem!_pos _ j this];rfl)) λe he r=> ?_
   have:j<acc.size:=by rewrite[it.1];exact a
   rw[he,zL this]
   rw[getElem!_pos _ j _]at r
   rw[r];rfl
 . have D:acc[j]?=none:=ynL (by rewrite[it.1];exact fB a)
   rw[eX (fB a),D];rfl:acc.toList=es.map _) (q h' c k)
theorem ab7 (H:A.handled=J)(i:aL C F ι σ s.heap){x}{xs}{v}(hx:XR C s.heap (NN F ι σ) ι x v)(e:rZ σ x=S xs)(hl:xs.length<aE):
 ∃u,bI C s.heap (NN F ι σ) xs u/\∀(E:Value->aT->Prop) (R:List _->aT->Prop),(∀h' D,(∀b o,s.heap.get? b=S o->h'.get? b=S o)->R u (upd s h' D))->wpAny C.M A (collect v) R E s:=by
 have seq:∀(a:aO) (T:String) (n:Nat) (u:Array _),T= "list" \/T= "tuple" ->s.heap.get? a=S (seqObj T u n)->u.toList.length<aE->∀(E:Value->aT->Prop) (R:List _->aT->Prop),(∀h' D,(∀b o,s.heap.get? b=S o->h'.get? b=S o)->R _ (upd s h' D))->wpAny C.M A _ R E s:=λa T n u Y y hz E R q=>wpAny_collect_seq a Y y rfl rfl (λh' k=>q h' _ k) (fQ (by simpa using hz))
 cases x with
 |v a=>cases a with
  |lst I=>
   cases e
   refine bU hx λa n u O _ y r=> ?_;clear hx;subst O
   exact⟨_,r,seq a _ n u (.inl rfl) y (Zrr r.length.symm hl)⟩
  |tup I=>
   cases e
   refine bU hx λa n u O _ y r=> ?_;clear hx;subst O
   exact⟨_,r,seq a _ n u (.inr rfl) y (Zrr r.length.symm hl)⟩
  |aU t ak=>
   cases e
   refine n4 hx λa n es O _ low y r _=> ?_;clear hx;subst O
   refine⟨_,r.keys,λE R q=>Me H low y ?_ R q⟩
   rw[r.length.symm];simpa [keysOf]using hl
  |_=>exact aD e
 |ref n=>
  refine ah hx λp L O=> ?_;clear hx;subst O
  refine ah (oj e) λc Q e=> ?_
  cases c with
  |lst I=>
   exact dh (qJ i L Q) λk u y r=>have U:=bJ.kz e r;⟨_,U,seq _ _ k u (.inl rfl) y (Zrr U.length.symm hl)⟩
  |aU t ak=>
   cases e
   obtain ⟨low,k,es,y,r,_⟩:=si i L Q
   refine⟨_,r.keys,λE R q=>Me H low y ?_ R q⟩
   rw[r.length.symm];simpa [keysOf]using hl
  |_=>exact aD e
theorem ab8 (hh:A.handled=J)(hr:A.units+64<cLine)(i:aL C F ι σ s.heap){m:Bool}{x y:X}{xs:List V}{v:Value}{Q:Value->aT->Prop}{E:Value->aT->Prop}(hx:XR C s.heap (NN F ι σ) ι x v)(e:rZ σ x=S xs)(D:mL xs=ab)(hm:vF m (gn xs) σ=S (y,af))
 (q:∀r h' U ag,Step C F ι σ s.heap ag af h'->XR C h' (NN F ag af) ag y r->Q r (upd s h' U)):wpAny C.M A (call (.builtin "sorted") [v]) Q E s:=by
 have hl:=by
  unfold mL at D
  simp only[fZ,decide_eq_true_eq]at D
  exact D.2
 refine ah (ab7 (A:=A.in1) hh i hx e hl) λvs r hc=> ?_
 have hz:=r.length
 have fin:∀(dec:Value->V),(∀v∈vs,VR C s.heap (NN F ι σ) (dec v) v)->∀(out:Array Value) b h' n U,out.toList.Perm vs->out.toList.map dec=gn xs->(∀b o,s.heap.get? b=S o->h'.get? b=S o)->s.heap.get? b=J->h'.get? b=S (seqObj "list" out n)->Q (.ref b) (upd s h' U):=by
  intro dec L out b h' n U hp he k fr Y
  have rs:bI C s.heap (NN F ι σ) (gn xs) out.toList:=by
   rw[he.symm]
   exact bI.ab2 λv I=>L v (hp.mem_iff.mp I)
  unfold vF at hm
  cases m
  . simp only[y3,if_false,jF,kY]at hm
    ((refine au hm λO ax=> ?_;clear hm);obtain rfl:=O;obtain rfl:=ax)
    have st:=iy i k
    refine q _ h' U ι st ?_
    show VR C h' (NN F ι σ) (.lst (gn xs)) _
    exact⟨_,n,out,rfl,r_ i fr,Y,st.kz rs⟩
  . simp only[if_true,jF,kY]at hm
    ((refine au hm λO ax=> ?_;clear hm);obtain rfl:=O;obtain rfl:=ax)
    have K:Kept s.heap h' (NN F ι σ) (NN F (ι++ [(b,b)]) (σ++ [.lst ((gn xs).map .v)])):=⟨λb o e _=>k b o e,λc o e q=>q.elim .inl λq=>by
     rcases sd i.len q with q|rfl|rfl
     . exact .inr q
     . rw[fr]at e;exact aD e
     . rw[fr]at e;exact aD e⟩
    exact q _ h' U _ (vO i k fr fr ⟨rfl,n,out,Y,(rs.mono K).fm⟩) (t7 i.len)
 have K:∀h':Heap,(∀b o,s.heap.get? b=S o->h'.get? b=S o)->Kept s.heap h' (NN F ι σ) (NN F ι σ):=λh' k=>⟨λb o e _=>k b o e,λ_ _ _ q=>q⟩
 unfold mL at D
 simp only[lY,fZ,decide_eq_true_eq]at D
 rcases D with ⟨(D|D)|D,_⟩
 ·
  have L:=r.dec El D
  refine Eh xe (kd:=oneType') (bw (aK hz.symm) hl) (xh El D r) (by simpa using D) (hc E) (λh' U k h2=>⟨λQ' E' H=> ?_,λE' x' y' Q' ft xi H=> ?_⟩) (fin Ai λv I=>(L v I).1)
  . have hI:=intsAre_map vs λv I=>by
     refine au (L v I) λa b=> ?_
     cases fo:Ai v with
     |int n=>rw[fo]at a;((refine ao a λt O=> ?_;clear a);obtain rfl:=O);exact⟨n,t,rfl⟩
     |_=>rw[fo]at b;exact bT b
    match vs,hI,h2 with
    | [],_,h2=>simp at h2
    | [_],_,h2=>simp at h2
    |aiC::aiD::rest,hI,_=>
     rw[keyKind_ints hI]
     exact bA H
  . refine au (L x' ft) λa b=> ?_
    refine au (L y' xi) λc d=> ?_
    refine ao (Ma b) λi1 h1=> ?_
    refine ao (Ma d) λi2 h3=> ?_
    rw[h1]at a;rw[h3]at c;rw[h1,h3]at H
    ((refine ao a λt O=> ?_;clear a);obtain rfl:=O)
    ((refine ao c λu O=> ?_;clear c);obtain rfl:=O)
    rw[keyLt'_oneType _ _]
    exact oneLt_int H
 ·
  have L:=r.dec Mc D
  refine Eh abR (kd:=oneType') (bw (aK hz.symm) hl) (xh Mc D r) (by simpa using D) (hc E) (λh' U k h2=>⟨λQ' E' H=> ?_,λE' x' y' Q' ft xi H=> ?_⟩) (fin (Ek s.heap) λv I=>(L v I).1)
  . refine kas_kind (T:= .type "list") h2 (λv I=> ?_) (by decide) (by decide) H
    refine au (L v I) λa b=> ?_
    refine ah (oJ b) λps he _=> ?_
    rw[he]at a
    ((refine bU a λl n us O _ Y _=> ?_;clear a);obtain rfl:=O)
    exact(Looks.ld (k _ _ Y)).andThen .now
  . refine au (L x' ft) λa b=> ?_
    refine au (L y' xi) λc d=> ?_
    rw[keyLt'_oneType _ _]
    exact ab5 (s:=(upd s h' U)) b d (a.mono (K h' k)) (c.mono (K h' k)) (by show A.units+1+1+16<cLine;exact Ur hr) H
 ·
  have L:=r.dec (dec:=s8 s.heap) (p:=iU) Em D
  have Er:∀v∈vs,∃(i j:Int) (a:aO) (n:Nat) (t u:Tok),s8 s.heap v= .tup [.int i,.int j]/\v= .ref a/\s.heap.get? a=S (seqObj "tuple" #[.int i t,.int j u] n):=by
   intro v I
   refine au (L v I) λa b=> ?_
   refine fb (lp b) λi j he=> ?_
   rw[he]at a
   ((refine bU a λl n us O _ Y aF=> ?_;refine bp aF λv1 r1 e1 ax oK=> ?_;clear aF;refine bp oK λv2 r2 e2 jN e3=> ?_;clear oK;clear a);obtain rfl:=O;refine ao ax λt1 cu=> ?_;clear ax;obtain rfl:=cu;refine ao jN λt2 pN=> ?_;clear jN;obtain rfl:=pN)
   subst e3;subst e2
   have eu:us= #[.int i t1,.int j t2]:=qY.mp e1
   subst eu
   exact⟨i,j,l,n,t1,t2,he,rfl,Y⟩
  refine Eh xg (kd:=tuples' ab) (dec:=s8 s.heap) (bw (aK hz.symm) hl) (xh Em D r) (by simpa using D) (hc E) (λh' U k h2=>⟨λQ' E' H=> ?_,λE' x' y' Q' ft xi H=> ?_⟩) (fin (s8 s.heap) λv I=>(L v I).1)
  . have ab9:∀l:List Value,(∀v∈l,v∈vs)->∃fs,KatTups h' l fs/\fs.length=l.length/\∀f∈fs,∃n t,f=Value.int n t:=by
     intro l
     induction l with
     |nil=>intro _;exact⟨[],.nil,rfl,by simp⟩
     |cons v l ih=>
      intro hm
      refine cD (ih λu hu=>hm u (by simp[hu])) λfs a b c=> ?_
      (refine BQ (Er v (hm _ (by simp))) λi j a' n t u _ O Y=> ?_;obtain rfl:=O)
      refine⟨.int i t::fs,.cons (k _ _ Y) rfl rfl rfl a,by simp[b],λf hf=> ?_⟩
      rcases cy.mp hf with rfl|hf
      . exact⟨_,_,rfl⟩
      . exact c f hf
    refine cD (ab9 vs λv I=>I) λfs a b c=> ?_
    refine kat_kind (T:= .type "int") a (by lia) (λf hf=> ?_) (by decide) H
    (refine fb (c f hf) λn t O=> ?_;obtain rfl:=O)
    exact Looks.of_pure rfl
  . (refine BQ (Er x' ft) λi1 j1 a1 n1 t1 u1 d1 O mQ=> ?_;obtain rfl:=O)
    (refine BQ (Er y' xi) λi2 j2 a2 n2 t2 u2 d2 O pb=> ?_;obtain rfl:=O)
    rw[d1,d2]at H
    refine kat_lt (k _ _ mQ) rfl (k _ _ pb) rfl ?_
    refine kat_cons (EqAt.int_int _ _ _ _ _ _ _ _ ?_)
    by_cases e1:i1=i2
    . subst e1
      have:(i1==i1)=true:=by simp
      rw[this]
      refine kat_yes (kat_cons (EqAt.int_int _ _ _ _ _ _ _ _ ?_))
      by_cases e2:j1=j2
      . subst e2
        have:(j1==j1)=true:=by simp
        rw[this]
        refine kat_yes (kat_nil ?_)
        rw[Ed,if_pos rfl,if_pos rfl]at H;exact H
      . have:(j1==j2)=false:=by simpa using e2
        rw[this]
        refine kat_no (kat_one _ _ ?_)
        refine nh.ints _ _ _ _ _ _ _ _ ?_
        show Q' (decide (j1<j2)) _
        rw[Ed,if_pos rfl,if_neg e2]at H;exact H
    . have:(i1==i2)=false:=by simpa using e1
      rw[this]
      refine kat_no (oneLt_int ?_)
      rw[Ed,if_neg e1]at H;exact H
end
section
open PySem PySem.W PySem.Calls PyProof.Rows
theorem Mf {a:Type}:∀ {l:List (Str×a)} {n:Str},n∈l.map (·.1)->∃v,l.lookup n=S v:=by
 intro b
 induction b with
 |nil=>exact λh=>nomatch h
 |cons p l c=>
  intro n h
  rw[k7]
  cases e:n==p.1 with
  |true=>exact⟨_,rfl⟩
  |false=>exact c ((cy.mp h).resolve_left λq=>by rw[q,wA]at e;exact jc e)
theorem aca {a:Type}{l:List (Str×a)}{n}(h:n∉l.map (·.1)):l.lookup n=none:=by
 cases e:l.lookup n with
 |none=>rfl
 |some v=>exact absurd (bY.mpr ⟨_,mem_of_lookup e,rfl⟩) h
theorem acb {x:Type}:∀ {ns:List Str} {a:List x},ns.Nodup->ns.length=a.length->(ns.filterMap λn=>((ns.zip a).lookup n).map λv=>(n,v))=ns.zip a:=λ{ns a} nd hl=>by
 have:∀(c:List _) (o:List x),c.length=o.length->(∀p∈c.zip o,(ns.zip a).lookup p.1=S p.2)->(c.filterMap λn=>((ns.zip a).lookup n).map λv=>(n,v))=c.zip o:=λc=>by
  induction c with
  |nil=>intro o _ _;rfl
  |cons m c r=>
   refine λo h k=>fb (LJ h.symm) λu o O=> ?_;subst O
   rw[yoM,k (m,u) cT ..];rewrite[r o (qU h) λp b=>k p (dA _ b)]
   rfl
 refine this ns a hl λp b=> ?_
 have y:((ns.zip a).map (·.1)).Nodup:=by rw[Et (aK hl)];assumption
 generalize ns.zip a=l at b y
 induction l with
 |nil=>cases b
 |cons q l r=>
  have D:=kB.mp y
  rw[k7]
  rcases cy.mp b with rfl|b
  . rw[wA];rfl
  . have:=beq_eq_false_iff_ne.mpr λe=>D.1 (bY.mpr ⟨p,b,e⟩)
    rw[this];exact r b D.2
theorem acd {E}{s}(f)
 (hf:∀n d slots,f (n,d) slots=if(slots.lookup n).isNone=ab then pure (.yield (slots++ [(n,d)]))else pure (.yield slots)){r}:∀ {l:List _} {slots:List _} {Q:List (Str×Value)->aT->Prop},
 (∀p∈l,p.1∈slots.map (·.1))->(slots.map (·.1)++r.map (·.1)).Nodup->Q (slots++r) s->wpAny M A (forIn (l++r) slots f) Q E s:=by
 intro k
 induction k with
 |cons p l b=>
  intro slots Q c a q
  refine ao (Mf (c _ cT ..)) λv e=> ?_
  rw[CW,zr _ _ _ _,hf _ _ _];exact Zrr e (aG (bA (b (λp o=>c p (dA _ o)) a q)))
 |nil=>
  intro slots Q _ a q
  rw[Eu _]
  induction r generalizing slots with
  |nil=>rw[dg]at q;exact bA q
  |cons p r b=>
   rw[zr _ _ _ _,hf _ _ _];refine Zrr (aca ((qL.mp a).2.2 _ · p.1 (cT ..) rfl)) (aG (bA (b (λ_ h=>nomatch h) ?_ ?_)))
   . rw[bK,bM _ _ _];exact a
   . rw[bM _ _ _];exact q
structure Mh (p:Arguments)(ns:List Str):Prop where
 pos:p.posonlyargs= []
 Ew:p.kwonlyargs= []
 va:p.vararg=J
 Ex:p.kwarg=J
 names:p.args.map (·.arg)=ns
 nd:ns.Nodup
theorem Mi {E}{s}{a}{c} [Decidable c]{t e}{Q:a->aT->Prop}(h:¬c)(k:wpAny M A e Q E s):wpAny M A (if c then t else e) Q E s:=by rw[if_neg h];exact k
theorem ace {s}{fd}{X Y Z}{b lZ k_}(O:Mh fd.params (X++ (Y++Z)))
 (U:(fd.defaults= .none/\lZ++k_= [])\/∃T o items n,fd.defaults= .ref T/\s.heap.get? T=S o/\o.data= .seq items n/\lZ++k_=items.toList)
 (a:(X++Y).length=b.length)(x:Y.length=lZ.length)(c:Z.length=k_.length):BindsTo s fd ⟨b,[]⟩ ((X++ (Y++Z)).zip (b++k_)):=by
 intro M A E Q q
 obtain ⟨pos,Ew,va,Ex,names,nd⟩:=O
 unfold bindArgs
 generalize fd.params=p at*
 obtain ⟨po,ar,va',ko,kd,kw,df⟩:=p
 dsimp only at pos Ew va Ex names
 subst pos Ew va Ex
 have y:(Y++Z).length=(lZ++k_).length:=by rw[aY,aY,x,c];rfl
 have D:=by
  have:=Mk (r₁:=Z) (r₂:= []) a
  rwa[dg,List.zip_nil_right,dg,bM]at this
 have k:=Et (aK a)
 have H:(lZ++k_).drop ((lZ++k_).length - (X++ (Y++Z)).length)=lZ++k_:=by refine Zrr (H8 (by rw[y.symm,aY (as:=X)];exact zS ..)) ?_;rw[CF];rfl
 have I:(X++ (Y++Z)).length - (lZ++k_).length=X.length:=by rw[aY,y,KY _ _];rfl
 refine aG (bA (aG ((λR L=>by
  rcases U with ⟨e,u⟩| ⟨T,o,items,n,e,ho,hs,u⟩
  . exact Zrr e (aG (bA (bA (L _ u.symm))))
  exact Zrr e (wpAny_seqItems ho hs (L _ u.symm)):∀(R:Option (Array Value)->aT->Prop),(∀r,(r.getD #[]).toList=lZ++k_->R r s)->wpAny M A (seqItems? fd.defaults) R E s) _ λr hr=>Mi ?_ (Mi ?_ (aG ?_)))))
 . intro h
   have h:=of_decide_eq_true (dF.mp h).1
   rw[names,qK,Eu,<-bM,aY,a]at h
   exact absurd h (o_.mpr (dH ..))
 . rw[names,qK,Eu _,hr,H,I,yqM]
   intro h
   rw[xj.mpr λn hn=>by
    refine ao (Mf (l:=(X++Y).zip b) (n:=n) (by rw[k];exact fh _ hn)) λv e=> ?_
    rw[D];exact Zrr e Bool.noConfusion]at h
   exact bT h
 . rw[names,qK,Eu _,hr,H,I,yqO,Mk x];refine Zrr D (acd _ (λn d slots=>rfl) (λp hp=>Zrr k (ik _ (J5 hp).1)) ?_ ?_)
   . rw[k,Et (aK c),bM _ _ _];exact nd
   . rw[(Mk a).symm];refine Zrr (bM _ _ _) (aG (bA (bA ?_)))
     rw[dg _];exact Zrr (acb nd (by rw[(bM _ _ _).symm,aY,a,c,aY];rfl)) q
noncomputable def isTup (e:aI):Bool:=e.ctorIdx==25
theorem acf {a}{env}(h:isTup a=ae):swappedStores [.Tuple b k c] a env=pure none:=by
 cases a<;>first|rfl|exact jc h
noncomputable def s9:List aI->Option (List Str)
 | []=>S []
 |t::r=>(oe t).bind λp=>(s9 r).map (p.1.1:: ·)
noncomputable def acg (a:List aI):Nat:=(a.head?.map (·.pos.line)).getD 0
def Ey (kd:Str->Option NameKind)(a b:List aI)(ns:List Str):Bool:=
 (a.length==2||a.length==3) &&b.length==a.length&&b.all notStar&&s9 a==S ns&&
 a.all (λt=>(oe t).any λp=>kd p.1.1==S .local&&p.1.2.line==acg a) &&ns.eraseDups.length==ns.length&&
 !(b.all (foldedForSure 8)) && !(b.all (constantsAlone 8))
def Aj (kd:Str->Option NameKind)(a b:List aI):Bool:=
 (a.length==2||a.length==3) &&b.length==a.length&&b.all notStar&&
 a.any (λt=>(oe t).any λp=>kd p.1.1 !=S .local)
theorem ach {kd:Str->Option NameKind}{l}:∀ {c:List _} {ns:List _},s9 c=S ns->(c.all λt=>(oe t).any λp=>kd p.1.1==S .local&&p.1.2.line==l)=ab->
 (c.filterMap λt=>match t with| .Name id pos=>if kd id==S .local&&pos.line==l then S id else J|_=>J)=ns/\ns.length=c.length:=by
 intro k
 induction k with
 |nil=>
  intro ns h _
  cases h;exact⟨rfl,rfl⟩
 |cons t c o=>
  intro ns h ha
  refine kr h λO _ h=> ?_;obtain ⟨q,e⟩:=O;obtain ⟨x,p⟩:=q
  refine gY h λr hr O=> ?_;subst O
  cases e
  have hb:=dF.mp ha
  refine au (o hr hb.2) λa b=>⟨(List.filterMap_cons_some ?_).trans (congrArg _ a),congrArg _ b⟩
  exact if_pos hb.1
theorem Ml {a:List aI}{f:aI->Bool}(hf:∀e,notStar e=ab->f e=ae)(h:a.all notStar=ab):a.any f=false:=by
 rw[ypG]
 exact λe he=>ypK.mp (hf e (cF.mp h e he))
theorem filter_lt {c k:Type}(f:c->Option k):∀ {l:List c},(∃x∈l,f x=J)->(l.filterMap f).length<l.length:=by
 intro o
 induction o with
 |nil=>
  intro O;exact ah O λ_ h _=>by cases h
 |cons a l r=>
  intro O;refine ah O λx hx e=> ?_;clear O
  rw[yoM]
  cases q:f a with
  |none=>exact pH (List.length_filterMap_le f l)
  |some b=>
   rcases cy.mp hx with rfl|hx
   . rw[e]at q;exact aD q
   . have:=r ⟨x,hx,e⟩
     simp only[jG];exact q7 this
theorem s_ {a:Type _}{b}{x y:a}(h:b=ae):(if b=ab then x else y)=y:=if_neg (by exact Zrr h gr)
theorem aci {y D}{env}{kd}{ns}(hk:env.scope.kind= .function)(he:∀x,env.kindOf x=kd x)(h:Ey kd ts H ns=ab):
 swappedStores [.Tuple ts k y] (.Tuple H k' D) env=pure (S ns)/\ns.length=ts.length/\s9 ts=S ns:=by
 obtain rfl:env.kindOf=kd:=funext he
 unfold Ey at h
 simp only[fZ,lY,beq_iff_eq,oE]at h
 refine au h λO I=>au O λL Q=>au L λU Y=>au U λjN h5=>au jN λpN q=>au pN λo h3=>au o λc h2=>au (ach q h5) λa b=>⟨?_,b,q⟩
 have r:=a
 have u:(ns.length !=ts.length||ns.eraseDups.length !=ns.length)=false:=by rw[Y];simp[b]
 rw[<-r]at u
 exact(s_ (by
  have:env.blockKind= .function:=by unfold Env.blockKind;rw[hk];rfl
  rw[this,h2]
  rcases c with c|c<;>simp[c])).trans ((s_ (Ml (λe he=>by cases e<;>first|rfl|exact bT he) h3)).trans ((s_ u).trans ((s_ Q).trans ((s_ I).trans (congrArg (λx=>pure _) r)))))
theorem acj {c o}{env}{kd}(hk:env.scope.kind= .function)(he:∀x,env.kindOf x=kd x)(h:Aj kd ts r=ab):
 swappedStores [.Tuple ts k c] (.Tuple r I o) env=pure none:=by
 obtain rfl:env.kindOf=kd:=funext he
 unfold Aj at h
 simp only[fZ,lY,beq_iff_eq]at h
 exact au h λO u=>au O λb y=>au b λa D=>(s_ (by
  have:env.blockKind= .function:=by unfold Env.blockKind;rw[hk];rfl
  rw[this,D]
  rcases a with a|a<;>simp[a])).trans ((s_ (Ml (λe he=>by cases e<;>first|rfl|exact bT he) y)).trans (if_pos (Kj.mpr (.inl (bne_iff_ne.mpr (dx (by
  refine filter_lt _ (ah (Ak.mp u) λt H q=>⟨t,H,ah ((uT ..).mp q) λO _ q=> ?_⟩);obtain ⟨b,e⟩:=O;cases e
  exact if_neg λz=>bne_iff_ne.mp q (beq_iff_eq.mp (dF.mp z).1))))))))
theorem Al:∀ {is:List _} {xs:List X} {ρ ρ':Env},gZ is xs ρ=S ρ'->is.length=xs.length:=by
 intro a
 induction a with
 |nil=>
  intro xs _ _ h
  cases xs with
  |nil=>rfl
  |cons _ _=>exact aD h
 |cons _ is b=>
  intro xs _ _ h
  cases xs with
  |nil=>exact aD h
  |cons _ xs=>exact congrArg _ (b h)
theorem ack:∀ {is:List _} {xs:List X} {ρ ρ':Env},j∉is->gZ is xs ρ=S ρ'->gZ is xs (ρ.set j (S y))=S (ρ'.set j (S y)):=by
 intro b
 induction b with
 |nil=>
  intro xs _ _ _ h
  cases xs with
  |nil=>cases h;rfl
  |cons _ _=>exact aD h
 |cons i is c=>
  intro xs ρ _ a h
  cases xs with
  |nil=>exact aD h
  |cons x xs=>
   have a:=not_or.mp λh=>a (cy.mpr h)
   show gZ is xs _=_
   exact Zrr (ur _ _ a.1) (c a.2 h)
theorem acm:∀ {is:List _} {xs:List X} {ρ ρ':Env},gZ is xs ρ=S ρ'->gZ (is++ [j]) (xs++ [y]) ρ=S (ρ'.set j (S y)):=by
 intro a
 induction a with
 |nil=>
  intro xs _ _ h
  cases xs with
  |nil=>cases h;rfl
  |cons _ _=>exact aD h
 |cons i is b=>
  intro xs ρ _ h
  cases xs with
  |nil=>exact aD h
  |cons x xs=>exact b h
theorem acn:∀ {is:List _} {xs:List X} {ρ:Env},is.length=xs.length->∃ρ',gZ is xs ρ=S ρ':=by
 intro a
 induction a with
 |nil=>
  intro xs ρ h
  rw[qF h.symm];exact⟨ρ,rfl⟩
 |cons i is b=>
  intro xs ρ h
  refine fb (LJ h.symm) λx xs O=> ?_;subst O
  exact b (qU h)
theorem aco:∀ {is:List _} {xs:List X} {ρ ρ':Env},is.Nodup->gZ is xs ρ=S ρ'->gZ is.reverse xs.reverse ρ=S ρ':=by
 intro b
 induction b with
 |nil=>
  intro xs _ _ _ h
  cases xs with
  |nil=>exact h
  |cons _ _=>exact aD h
 |cons i is c=>
  intro xs ρ ρ' nd h
  cases xs with
  |nil=>exact aD h
  |cons x xs=>
   have nd:=kB.mp nd
   rw[xk,xk]
   have:∃a,gZ is xs ρ=S _:=acn (Al h)
   refine ao this λa e=> ?_;rw[acm (c nd.2 e)];exact Zrr (ack nd.1 e).symm h
variable {C:CX} {A:Around} {F W N:aO->Prop} {ι ag gL:Lay} {σ af gq aC bk:Hp} {s:aT} {h h' ky:Heap} {env:PySem.Env} {sl:SL} {ρ ρ':Env}
theorem acq (ds:iY sl)(hW:∀b,W b->F b)(ok:cQ F env){Q}{E}:∀ {ns:List _} {is:List _} {xs:List X} {a:List _} {s:aT} {ρ:Env},
 ns.map (sl.lookup ·)=is.map S->(∀x∈ns,ij env W x)->aL C F ι σ s.heap->cx C s.heap (NN F ι σ) ι env sl ρ->bJ C s.heap (NN F ι σ) ι xs a->gZ is xs ρ=S ρ'->
 (∀h' k,cW C F W ι σ s.heap ι σ h'->cx C h' (NN F ι σ) ι env sl ρ'->Q () (upd s h' k))->wpAny C.M A (assignInOrder (ns.map (bindName env ·)) a) Q E s:=by
 intro o
 induction o with
 |nil=>
  intro is xs a s ρ h _ i fr hx e q
  cases Mm.mp h.symm
  cases xs with
  |cons x xs=>exact aD e
  |nil=>
   cases e;exact bA (q _ _ (.refl i W) fr)
 |cons x ns r=>
  intro is xs a s ρ h so i fr hx hb q
  cases is with
  |nil=>cases h
  |cons j is=>
  have h:=iB h
  cases xs with
  |nil=>exact aD hb
  |cons y U=>
   refine bp hx λv Y O u D=> ?_;clear hx;subst O
   exact aG (jH (wg ok i fr ds h.1 (so x (.head _)) u hW λaN bC c H=>r h.2 (λz hm=>so z (.tail _ hm)) c.inv H (c.fm hW D) hb λbF de I L=>q _ _ (c.trans I hW) L))
theorem bJ.reverse {ι}:∀ {xs:List X} {c:List _},bJ C h N ι xs c->bJ C h N ι xs.reverse c.reverse:=by
 intro k
 induction k with
 |nil=>
  intro _ r
  cases r;rfl
 |cons x xs o=>
  intro _ O;refine bp O λv q e a b=> ?_;clear O
  subst e
  rw[xk];exact Zrr xk ((o b).append ⟨v,[],rfl,a,rfl⟩)
theorem acr (h:pB sl c is):∀ {ns:List _},s9 c=S ns->ns.map (sl.lookup ·)=is.map S/\∀x∈ns,∃p,.Name x p∈c:=by
 induction h with
 |nil=>intro ns h;cases h;exact⟨rfl,λ_ h=>nomatch h⟩
 | @cons x p es i is hl _ o=>
  intro ns a
  refine kr a λO _ a=> ?_;obtain ⟨u,e⟩:=O;refine gY a λr hr O=> ?_;subst O
  cases e
  have k:=o hr
  refine⟨by rw[dz,hl,k.1];rfl,λy b=> ?_⟩
  rcases cy.mp b with rfl|b
  . exact⟨_,cT ..⟩
  exact(k.2 y b).imp λq m=>dA _ m
theorem acs (hh:A.handled=J){r D}{k L}{O H pos}{is}{xs}(he:lU C A F ι σ s (spliced (backTo H (starEach D env))) xs aC)(ok:cQ F env)(i:aL C F ι σ s.heap)(fr:cx C s.heap (NN F ι σ) ι env sl ρ)(ds:iY sl)
 (hn:sG sl r is=ab)(so:∀x p,.Name x p∈r->ij env W x)(hW:∀b,W b->F b)(hb:gZ is xs ρ=S ρ')(hl:xs.length<aE)
 (hw:swappedStores [.Tuple r k O] (.Tuple D L H) env=pure J\/∃ns,swappedStores [.Tuple r k O] (.Tuple D L H) env=pure (S ns)/\s9 r=S ns/\is.Nodup/\(is.length=2\/is.length=3)):
 SV C A F W env sl ι σ s (exec (.Assign [.Tuple r k O] (.Tuple D L H) pos) env) .next ρ' aC:=by
 intro Q E q
 have jO:=Al hb
 have Mn:∀(R:Value->aT->Prop),(∀c u U o a,Step C F ι σ s.heap o aC u->bJ C u (NN F o aC) o xs c->IsTup u a c.toArray->R (.ref a) (upd s u U))->wpAny C.M A (eval (.Tuple D L H) env) R E s:=λR hR=>Jt (he _ _ λc u U o y hx=>have st:=iy (h':=u.push {cls:= .type "tuple",data:= .seq c.toArray}) y.inv (eQ _ _);⟨by rw[hx.length.symm];exact fQ hl,hR c _ U o _ (y.trans st) (st.fm hx) ⟨_,qD _ _ rfl,rfl,0,rfl⟩⟩)
 rcases hw with hw| ⟨ns,hw,hs,nd,h23⟩
 . exact Assign_Tuple (Mn _ λc u U o a y hx Y=>dp (zc (env:=env) (qQ hn)) λn1 n2 n3=>JU hh Y (by rw[n1,(by rw[v9];rw[hx.length.symm];rw[jO];rfl:c.toArray.size=is.length)];rfl) n2 λbF ex=>have I:=iy y.inv (zd ex);have st:=y.trans I;CM ds hW ok (qQ hn) so I.inv (fr.step ok i st) (I.fm hx) hb λh₃ qB fP k6=>q .next h₃ qB o ((st.w W).trans fP hW) k6 rfl) (De env (.Tuple D L H) r k O pos.line) hw
 exact au (acr (qQ hn) hs) λa1 a2=>Assign_Tuple_swapped (Mn _ λc u U o a y hx Y=>Zrr (by
  have:=congrArg List.length a1
  simp only[aq]at this
  rw[this,jO,hx.length];rfl:ns.length=c.toArray.size) (unpackItems_tuple hh Y λbF ex=>have I:=iy y.inv (zd ex);have st:=y.trans I;acq ds hW ok (by rw[ypS,a1,ypS];rfl) (λx hx=>ao (a2 x (oH.mp hx)) λp hp=>so x p hp) I.inv (fr.step ok i st) (I.fm hx).reverse (aco nd hb) λh₃ qB fP k6=>q .next h₃ qB o ((st.w W).trans fP hW) k6 rfl)) (De env (.Tuple D L H) r k O pos.line) hw
structure jP (A:Around)(d:Nat):Prop where
 handled:A.handled=J
 depth:A.depth+2*d+2<recursionLimit
 units:A.units+8*d+100<cLine
theorem jP.deeper (r:jP A (d+1))(env):jP (A.deeper env) d:=
 ⟨r.handled,by have:=r.depth;show A.depth+1+2*d+2<_;exact SE this,by have:=r.units;show A.units+3+8*d+100<_;exact SF this⟩
theorem jP.less (r:jP A d)(h:e<=d):jP A e:=⟨r.handled,by have:=r.depth;exact Ud h this,by have:=r.units;exact Ue h this⟩
noncomputable def Mo:V->Value->Bool
 | .none,.none=>ab
 | .int i,.int j _=>i==j
 |_,_=>ae
noncomputable def uU:List V->List Value->Bool
 | [],[]=>ab
 |x::r,y::q=>Mo x y&&uU r q
 |_,_=>ae
theorem acu {x}{y}(e:Mo x y=ab):VR C h N x y:=by
 cases x with
 |none=>cases y<;>first|rfl|exact bT e
 |int i=>cases y<;>first|exact⟨_,by rewrite[eq_of_beq e];rfl⟩|exact bT e
 |_=>exact bT e
theorem acv:∀ {a:List V} {b:List _},uU a b=ab->bI C h N a b:=by
 intro c
 induction c with
 |nil=>
  intro b e
  cases b with
  |nil=>rfl
  |cons _ _=>exact bT e
 |cons x r k=>
  intro b e
  cases b with
  |nil=>exact bT e
  |cons y q=>
   exact have e:=dF.mp e;⟨y,q,rfl,acu e.1,k e.2⟩
theorem Ez:∀ {a:List V} {b:List _},uU a b=ab->a.length=b.length:=by
 intro c
 induction c with
 |nil=>
  intro b e
  cases b with
  |nil=>rfl
  |cons _ _=>exact bT e
 |cons x r k=>
  intro b e
  cases b with
  |nil=>exact bT e
  |cons y q=>exact congrArg _ (k (dF.mp e).2)
structure FnAt (C:CX)(fn:Fn)(a:aO)(fd:FuncData)(ns:List Str)(body:List PySem.Stmt)(sl:SL)(items:List Value):Prop where
 obj:∃oc od EA,C.K.lookup a=S ⟨oc,od,.func fd,EA⟩
 cd:codeIn C.K fd.code fd.qualname=ab
 body:fd.body= .stmts body
 Mp:fd.closure= []
 glob:fd.globals=mainGlobals
 blt:fd.builtins=builtinsNs
 co:fd.scope.isCoroutine=ae
 gen:fd.scope.isGenerator=ae
 kind:fd.scope.kind= .function
 simple:Mh fd.params ns
 len:ns.length=fn.lM
 kinds:∀x∈ns,fd.scope.names.lookup x=S .local\/fd.scope.names.lookup x=S .cell
 dflt:(fd.defaults= .none/\items= [])\/∃T o arr n,fd.defaults= .ref T/\C.K.lookup T=S o/\o.data= .seq arr n/\items=arr.toList
 defs:uU fn.defs items=ab
 Mq:fn.defs.length<=fn.lM
 slots:∀x i,sl.lookup x=S i->(fd.scope.names.lookup x=S .local\/fd.scope.names.lookup x=S .cell)/\(∀y,i<fn.lM->ns[i]?=S y->x=y)
 dist:iY sl
theorem acw {x}:∀ {bs:List _} {m:Str->Option _},x∉bs.map (·.1)->bindL kd bs m x=m x:=by
 intro a
 induction a with
 |nil=>
  intro _ _
  exact rfl
 |cons c bs b=>
  intro m hn
  have hn:=not_or.mp λh=>hn (cy.mpr h)
  unfold bindL
  rw[b hn.2]
  split
  . exact if_neg hn.1
  rfl
theorem acx (hk:kd x=S .local):∀ {bs:List _} {m:Str->Option _},(bs.map (·.1)).Nodup->(x,v)∈bs->bindL kd bs m x=S v:=by
 intro a
 induction a with
 |nil=>
  intro _ _ hm
  exact nomatch hm
 |cons c r b=>
  intro m nd hm
  have nd:=kB.mp nd
  unfold bindL
  rcases cy.mp hm with e|hm
  . cases e
    rw[if_pos hk,acw nd.1];exact if_pos rfl
  exact b nd.2 hm
theorem acy {x}:∀ {bs:List _} {m:Str->Option _},x∉bs.map (·.1)->bindC kd bs m x=m x:=by
 intro a
 induction a with
 |nil=>
  intro _ _
  exact rfl
 |cons c bs b=>
  intro m hn
  have hn:=not_or.mp λh=>hn (cy.mpr h)
  unfold bindC
  rw[b hn.2]
  split
  . rfl
  exact if_neg hn.1
theorem acz (hk:kd x=S .cell):∀ {bs:List _} {m:Str->Option _},(bs.map (·.1)).Nodup->(x,v)∈bs->bindC kd bs m x=S v:=by
 intro a
 induction a with
 |nil=>
  intro _ _ hm
  exact nomatch hm
 |cons c r b=>
  intro m nd hm
  have nd:=kB.mp nd
  unfold bindC
  rcases cy.mp hm with e|hm
  . cases e
    refine Zrr (if_neg (by lia)) ?_;rw[acy nd.1];exact if_pos rfl
  exact b nd.2 hm
theorem slot_of {l:List _}{i}{x}(h:slot l i=S x):l[i]?=S (S x):=by
 unfold slot at h
 cases q:l[i]? with
 |none=>rw[q]at h;exact aD h
 |some o=>rw[q]at h;exact congrArg _ h
theorem Mr {a:Type}{l m:List a}{j}{x}(h:(l++m)[j]?=S x):l[j]?=S x\/∃i,j=l.length+i/\m[i]?=S x:=by
 rcases j.lt_or_ge _ with c|c
 . exact .inl (by rwa[eR c]at h)
 . refine ao (sT c) λi O=> ?_;subst O
   exact .inr ⟨i,rfl,by rwa[iG (dH ..),l7]at h⟩
theorem acA {a:Type}{l m:List a}{j:Nat}{x}(h:l[j]?=S x):(l++m)[j]?=S x:=by
 rw[eR (dk.mp h).1];exact h
theorem acB {a:Type}{l m:List a}{n j}{x}(e:l.length=n)(h:m[j]?=S x):(l++m)[n+j]?=S x:=by
 rw[e.symm,iG (dH ..),l7 _ _];exact h
theorem acC {ns:List Str}{a d}(k:a<=ns.length)(o:ns.length<=a+d)(c:d<=ns.length):∃X Y Z,ns=X++ (Y++Z)/\(X++Y).length=a/\Y.length=a+d - ns.length/\Z.length=d - (a+d - ns.length):=by
 have hr:=Nat.sub_le_of_le_add (n5 .. ▸iE k d)
 have b:(ns.drop (ns.length - d)).length=d:=by rw[qZ,yqE c];rfl
 refine⟨_,_,(ns.drop (ns.length - d)).drop (a+d - ns.length),by rw[i6 _ _,i6 _ _];rfl,?_,by rw[ig,b,jI hr];rfl,by rw[qZ,b];rfl⟩
 rw[aY,ig,ig,b,jI hr,jI (jA ..)]
 clear hr b
 exact Ta o c
theorem acD {ds}{k j}{x}(ha:bJ C h N ι as u)(H:bI C h N ds D)(e:slot (as.map S++ds.map (λa=>S (.v a))++ .replicate k J) j=S x):
 ∃v,(u++D)[j]?=S v/\XR C h N ι x v:=by
 rcases Mr (slot_of e)with e| ⟨i,_,e⟩
 . rcases Mr e with b| ⟨i,rfl,b⟩
   . rw[bx]at b
     refine gY b λy c q=> ?_
     cases q
     exact ah (ha.get c) λv o r=>⟨v,acA o,r⟩
   . rw[bx]at b
     refine gY b λy c q=> ?_
     cases q
     exact ah (H.get c) λv o r=>⟨v,acB (by rw[aq _,ha.length];rfl) o,r⟩
 . rw[Am]at e
   split at e<;>(first|exact aD e|cases e)
structure Framed (C:CX)(F:aO->Prop)(ι:Lay)(σ:Hp)(fd:FuncData)(sl:SL)(ρ:Env)(h aN:Heap)(env:PySem.Env)(G:aO->Prop):Prop where
 kd:∀x,env.kindOf x=fd.scope.names.lookup x
 keep:∀b o,h.get? b=S o->aN.get? b=S o
 fresh:∀b,G b->h.get? b=J
 inv:aL C (λb=>F b\/G b) ι σ aN
 ok:cQ (λb=>F b\/G b) env
 fr:cx C aN (NN (λb=>F b\/G b) ι σ) ι env sl ρ
 so:∀x,(env.kindOf x=S .local\/env.kindOf x=S .cell)->ij env (λb=>False\/G b) x
theorem acE {fn}{a}{fd}{ns}{body:List PySem.Stmt}{sl}{items}(K:FnAt C fn a fd ns body sl items){as}{I D}{ds}{k}
 (i:aL C F ι σ s.heap)(hx:bJ C s.heap (NN F ι σ) ι as I)(hd:∀h N,bI C h N ds D)(hl:ns.length=(I++D).length){env:PySem.Env}{dU}{qual}{func}
 (L:env=newEnv fd.scope s.heap.objs.size fd.globals (cellsFrom (s.heap.objs.size+1) fd.scope.names []) qual func fd.code J fd.builtins)
 (u:InCallC s env.locals (bindL env.kindOf (ns.zip (I++D)) λ_=>J) env.cells (bindC env.kindOf (ns.zip (I++D)) λ_=>J) dU):
 ∃G,Framed C F ι σ fd sl (as.map S++ds.map (λa=>S (.v a))++ .replicate k J) s.heap dU.heap env G:=by
 (refine dh u.done λaN Ms O keep=> ?_;obtain rfl:=O)
 have Y:∀x,env.kindOf x=fd.scope.names.lookup x:=λx=>by rw[L];rfl
 have Mu:env.locals=s.heap.objs.size:=by rw[L];rfl
 have fresh:∀b,(b=env.locals\/∃n,env.cells.lookup n=S b)->s.heap.get? b=none:=λb hb=>by
  rcases hb with rfl| ⟨n,hn⟩
  . rw[Mu];exact gM _
  . have:=u.above n b (mem_of_lookup hn)
    rw[Mu]at this
    exact Ce (bX this)
 refine au (ue i keep fresh λb hb=>by
  rcases hb with rfl| ⟨n,hn⟩
  . refine iP u.toInCall.ns λo _ _ ho _=> ?_
    exact⟨o,ho⟩
  . refine ah (u.cell n b hn) λo ho _=> ?_
    exact⟨o,ho⟩) λC9 ux=> ?_
 have nd:((ns.zip (I++D)).map (·.1)).Nodup:=by rw[Et (aK hl)];exact K.simple.nd
 have start:∀ {x:Str} {j:Nat} {val:X},sl.lookup x=S j->slot (as.map S++ds.map (λa=>S (.v a))++List.replicate k J) j=S val->
  ∃v,(x,v)∈ns.zip (I++D)/\XR C aN (NN (λb=>F b\/(b=env.locals\/∃n,env.cells.lookup n=S b)) ι σ) ι val v:=λ{x j val} Q U=>by
  refine ah (acD (hx.mono ux λ_ _ z=>z) (hd _ _) U) λv e r=> ?_
  have c:j<ns.length:=by rw[hl];exact(dk.mp e).1
  have hn:=du c
  rw[<-(K.slots x j Q).2 _ (by rw[K.len.symm];exact c) hn]at hn
  exact⟨v,eY (List.getElem?_zip_eq_some.mpr ⟨hn,e⟩),r⟩
 refine⟨_,Y,keep,fresh,C9,⟨by rw[L];exact K.kind,by rw[L];exact K.glob,by rw[L];exact K.blt,.inr (.inl rfl),λx c H=> .inr (.inr ⟨x,H⟩),λx y c hx hy=>name_of_addr u.apart (mem_of_lookup hx) (mem_of_lookup hy),λx c H=>fO (u.above x c (mem_of_lookup H))⟩,
  ⟨⟨_,u.toInCall.ns,λx j Q hk val U=> ?_⟩,λx j Q hk=> ?_⟩,λx hk=>hk.imp (λz=>⟨z,.inr (.inl rfl)⟩) λz=>⟨z,λc H=> .inr (.inr ⟨x,H⟩)⟩⟩
 . refine ah (start Q U) λv m r=> ?_
   exact⟨v,acx hk nd m,r⟩
 . have H:env.kindOf x=S .cell:=by
    rw[Y]at hk ⊢
    exact(K.slots x j Q).1.resolve_left λz=>by rw[z]at hk;rcases hk with q|q<;>cases q
   refine ao (ui.mp (show(env.cells.lookup x).isSome=ab by rw[L];exact cellsFrom_some _ _ _ (.inl (by rw[(Y _).symm];exact H)))) λc hO=> ?_
   refine⟨c,_,hO,u.cell x c hO,λval U=> ?_⟩
   refine ah (start Q U) λv m r=> ?_
   exact⟨v,acz H nd m,r⟩
theorem acF {cl}{fn}{a}{fd}{ns}{body}{sl}{items}{d}(K:FnAt C fn a fd ns body sl items)
 (hb:∀(A:Around) (env:PySem.Env),jP A d->(∀x,env.kindOf x=fd.scope.names.lookup x)->BodyOk C A env sl body λρ σ=>aZ cl fn.body ρ σ)
 (H:A.depth<recursionLimit)(hr:∀env,jP (A.deeper env) d){as}{c}{x}(i:aL C F ι σ s.heap)(hx:bJ C s.heap (NN F ι σ) ι as c)(e:n_ cl fn as σ=S (x,af)){R}
 (q:∀v h' tk ag,Step C F ι σ s.heap ag af h'->XR C h' (NN F ag af) ag x v->R (.ok (.ret v)) (upd s h' tk)):
 codeAny C.M A (.call (.ref a) ⟨c,[]⟩) R s:=by
 have I:=λb o e=>i.base b o (C.X b o e)
 refine QH K.obj λoc od EA r=>kr e λρ u e=>QA e λfl ρ' cJ he e=> ?_
 unfold frameOf at u
 split at u
 case isFalse=>exact aD u
 case isTrue D=>
 cases u
 rw[<-K.len,hx.length,Ez K.defs]at D
 refine bU (acC D.1 D.2 (by rw[K.len,(Ez K.defs).symm];exact K.Mq)) λX Y Z L l1 l2 l3=> ?_
 have eD:items=items.take (c.length+items.length - ns.length)++items.drop (c.length+items.length - ns.length):=(i6 ..).symm
 have hl:ns.length=(c++items.drop (c.length+items.length - ns.length)).length:=by rw[aY,qZ,l3.symm,l1.symm,aY.symm,bM _ _ _,L.symm];rfl
 have bt:=by
  have:=ace (s:=s) (lZ:=items.take (c.length+items.length - ns.length)) (k_:=items.drop (c.length+items.length - ns.length)) (L▸K.simple) ?_ l1
   (by rw[l2,ig];exact(jI (Nat.sub_le_iff_le_add.mpr (n5 items.length c.length▸iE D.1 _))).symm) (by rw[l3,qZ];rfl)
  . rwa[<-L]at this
  . refine Zrr eD.symm (K.dflt.imp id λz=>tO z λT o arr n z1 z2 z3 z4=> ?_);clear z
    exact⟨T,o,arr,n,z1,I _ _ z2,z3,z4⟩
 have ub:∀h N,bI C h N (fn.defs.drop (as.length+fn.defs.length - fn.lM)) (items.drop (c.length+items.length - ns.length)):=λh N=>by
  rw[hx.length,Ez K.defs,K.len];exact(acv K.defs).drop _
 refine codeAny_call_function H (I _ _ r) rfl K.co K.gen K.body (codeRec_of I K.cd) (bt _ _ _ _ ?_)
 rw[K.Mp]
 refine wpAny_newFunctionEnv_cells K.kind (λp hp=>(K.kinds p.1 (J5 hp).1).imp id λz=>⟨z,cellsFrom_some _ _ _ (.inl z)⟩) λenv ri dU Q=>⟨(C.T.nolimit.keeps i.base).keeps Q.toInCall.keep,codeAny_func (ao (acE K i hx ub hl (k:=fn.H' - fn.lM) ri Q) λG f=>dh Q.done λaN Ms O _=> ?_)⟩;subst O
 refine hb (A.deeper env) env (hr env) f.kd (λb=>F b\/G b) (λb=>False\/G b) f.ok (λb z=>z.elim False.elim .inr) f.so _ σ (upd s aN Ms) ι fl ρ' cJ f.inv f.fr he _ _ λfl' bF de eK bj jJ hf=>au (we bj.inv (λ_ _ z _=>z) (λb hF U=>by
  refine au (i.frames b hF) λ_ aF=>ao aF λo r=> ?_;clear aF
  rw[f.fresh b U]at r;exact aD r)) λsN acH=> ?_
 have st:=(JW f.keep f.fresh bj (λ_ _ z _=>z) sN).none
 cases fl with
 |next=>
  cases e
  cases (hf)
  exact q .none bF de eK st rfl
 |ret y=>
  cases e
  refine ah hf λv O hv=> ?_;clear hf;subst O
  exact q v bF de eK st (hv.mono acH λ_ _ z=>z)
theorem acI:∀ {as:List X} {a:List V},fD as=S a->a.map .v=as:=by
 intro c
 induction c with
 |nil=>exact λh=>by cases h;rfl
 |cons x as k=>
  intro a h
  cases x with
  |ref _=>exact aD h
  |v b=>
   refine gY h λr hr O=> ?_;subst O
   exact congrArg _ (k hr)
theorem uV (b):¬own [] [] b:=(iP · λn _ _ e _=>aD e)
theorem Mv (i:aL C F ι σ h):aL C (NN F ι σ) [] [] h where
 len:=rfl
 base:=i.base
 cells:=λn p c e _=>aD e
 apart:=λn m p q c d e _ _ _ _ _=>aD e
 fresh:=λb q=>absurd q (uV b)
 frames:=λb q=>q.elim (i.frames b) λq=>⟨(i.fresh b q).1,vL i q⟩
theorem acJ:∀b,NN (NN F ι σ) [] [] b->NN F ι σ b:=λb q=>q.elim id (absurd · (uV b))
theorem acK (h):Kept h h (NN F ι σ) (NN (NN F ι σ) [] []):=⟨λ_ _ e _=>e,λb _ _ q=>acJ b q⟩
theorem Mw (i:aL C F ι σ h)(st:Step C (NN F ι σ) [] [] h ag af h'):Step C F ι σ h ι σ h':=iy i λb o e=>st.keep b o e (uV b)
theorem Mx (_:Step C (NN F ι σ) [] [] h ag af h'){a}{v}(r:VR C h' (NN (NN F ι σ) ag af) a v):VR C h' (NN F ι σ) a v:=
 r.mono ⟨λ_ _ e _=>e,λ_ _ _ q=> .inl q⟩
structure rj (C:CX)(cl:Cl)(fa:Nat->aO)(d:Nat):Prop where
 call:∀(A:Around),jP A d->∀f as σ x af,cl.call f as σ=S (x,af)->∀(F:aO->Prop) (ι:Lay) (s:aT) (vs:List Value) (R:Result->aT->Prop),aL C F ι σ s.heap->bJ C s.heap (NN F ι σ) ι as vs->
  (∀v h' tk ag,Step C F ι σ s.heap ag af h'->XR C h' (NN F ag af) ag x v->R (.ok (.ret v)) (upd s h' tk))->codeAny C.M A (.call (.ref (fa f)) ⟨vs,[]⟩) R s
 new:∀(A:Around),jP A d->∀c as σ x af,cl.new c as σ=S (x,af)->∀(F:aO->Prop) (ι:Lay) (s:aT) (vs:List Value) (R:Result->aT->Prop),aL C F ι σ s.heap->bJ C s.heap (NN F ι σ) ι as vs->
  (∀v h' tk ag,Step C F ι σ s.heap ag af h'->XR C h' (NN F ag af) ag x v->R (.ok (.ret v)) (upd s h' tk))->codeAny C.M A (.call (.ref (C.cls c)) ⟨vs,[]⟩) R s
set_option genInjectivity false in
structure My where
 fa:Nat->aO
 fd:Nat->FuncData
 ns:Nat->List Str
 body:Nat->List PySem.Stmt
 sl:Nat->SL
 items:Nat->List Value
structure EC (C:CX)(P:Prog)(D:My):Prop where
 fns:∀f fn,P.fns[f]?=S fn->FnAt C fn (D.fa f) (D.fd f) (D.ns f) (D.body f) (D.sl f) (D.items f)
 init:∀c f,P.init[c]?=S f->findIn C.K (.ref (C.cls c)) "__init__" =S (S (.ref (D.fa f)))/\typeIn C.K (.ref (D.fa f))=S (.type "function")/\makesIn C.K (C.cls c)=ab
theorem Mz {x:X}{o:Option b}(h:x= .v .none->OB o P):OB (match x with| .v .none=>o|_=> .none) P:=by
 cases x with
 |ref=>exact fX
 |v a=>cases a<;>first|exact h rfl|exact fX
theorem MB {x y:Option a}(h:OB x P)(k:OB y P):OB (match b with|true=>x|false=>y) P:=by
 cases b
 . exact k
 exact h
def CO (C:CX)(A:Around)(F:aO->Prop)(ι:Lay)(σ:Hp)(s:aT)(cd:Code)(p:X×Hp):Prop:=
 ∀R:Result->aT->Prop,(∀v a c b,Step C F ι σ s.heap b p.2 a->XR C a (NN F b p.2) b p.1 v->R (.ok (.ret v)) (upd s a c))->codeAny C.M A cd R s
def Ao (C:CX)(A:Around)(a:aO)(cl:Cl)(fn:Fn):Prop:=
 ∀(F:aO->Prop) ι σ s as b,aL C F ι σ s.heap->bJ C s.heap (NN F ι σ) ι as b->OB (n_ cl fn as σ) (CO C A F ι σ s (.call (.ref a) ⟨b,[]⟩))
variable {aN:Heap}
section
variable {as:List X} {us:List V} {vs:List Value} {a x y:aO} {cl:Cl} {fn:Fn} {c:Nat}
theorem MD (b:fD as=S us)(hx:bJ C h (NN F ι σ) ι as vs):bJ C h (NN (NN F ι σ) [] []) [] as vs:=by
 have:=((bJ.kz b hx).mono (acK h)).fm (ι:= [])
 rwa[acI b]at this
theorem acL (r:Ao C A a cl fn)(i:aL C F ι σ s.heap)(hx:bJ C s.heap (NN F ι σ) ι as vs):
 OB ((fD as).bind λ_=>(n_ cl fn as []).bind λp=>(fz FZ p.2 p.1).map λq=>(.v q.1,σ)) (CO C A F ι σ s (.call (.ref a) ⟨vs,[]⟩)):=
 cv λ_ b=>cv λp o=>fe λ_ u R k=>r _ _ _ s as vs (Mv i) (MD b hx) p o R λ_ D H _ st I=>
  (Dh FZ u st.inv I).elim λL O=>k _ D H ι (Mw i st) (Mx (st.trans L) O)
theorem ME (c)(i:aL C F ι σ h):Step C F ι σ h (ι++ [(h.objs.size+1,h.objs.size)]) (σ++ [.obj c []]) ((h.push emptyDict).push (instObj (C.cls c) h.objs.size)):=vO i (λb o e=>eQ _ _ b o (eQ _ _ b o e)) (Ce (qP _)) (gM _) ⟨dx (iQ _),by
 have:=qD (h.push emptyDict) (instObj (C.cls c) h.objs.size) rfl
 rwa[CY]at this,0,[],eQ _ _ _ _ (qD h _ rfl),rfl,.nil⟩
def NO (C:CX)(A:Around)(F:aO->Prop)(ι:Lay)(σ:Hp)(s:aT)(o:Heap)(a x:aO)(q:List Value)(p:X×Hp):Prop:=
 ∀R:Result->aT->Prop,(∀v b r k,Step C F ι σ s.heap k p.2 b->XR C b (NN F k p.2) k p.1 v->R (.ok (.ret v)) (upd s b r))->codeAny C.M A (.call (.ref a) ⟨.ref x::q,[]⟩) (InitBack x R) (upd s o s.toks)
theorem acM (mk:∀ {F ι σ},aL C F ι σ s.heap->Step C F ι σ s.heap (ι++ [(x,y)]) (σ++ [.obj c []]) aN)(r:Ao C A a cl fn)(i:aL C F ι σ s.heap)(hx:bJ C s.heap (NN F ι σ) ι as vs):
 OB ((fD as).bind λ_=>(n_ cl fn (.ref 0::as) [.obj c []]).bind λp=>match p.1 with
  | .v .none=>(fz FZ p.2 (.ref 0)).map λq=>(.v q.1,σ)
  |_=> .none) (NO C A F ι σ s aN a x vs):=
 cv λ_ D=>cv λp H=>Mz λhn=>fe λq I R k=>
  have b:=mk (Mv i)
  r _ _ _ _ (.ref 0::as) (.ref x::vs) b.inv ⟨_,_,rfl,⟨_,rfl,rfl⟩,b.fm (MD D hx)⟩ p H _ λv o L Y st O=>
   (Dh FZ I st.inv ⟨_,st.ext 0 _ rfl,rfl⟩).elim λQ U=>
    have u:=(b.trans st).trans Q
    ⟨(hn▸O:XR C o _ _ (.v .none) v),k _ o L ι (Mw i u) (Mx u U)⟩
theorem acN (mk:∀ {F ι σ},aL C F ι σ s.heap->Step C F ι σ s.heap (ι++ [(x,y)]) (σ++ [.obj c []]) aN)(r:Ao C A a cl fn)(i:aL C F ι σ s.heap)(hx:bJ C s.heap (NN F ι σ) ι as vs):
 OB ((n_ cl fn (.ref σ.length::as) (σ++ [.obj c []])).bind λp=>match p.1 with
  | .v .none=>S (.ref σ.length,p.2)
  |_=> .none) (NO C A F ι σ s aN a x vs):=
 cv λp q=>Mz λhn=>cH λR k=>
  have b:=mk i
  have h0:=i.len▸ymC
  r _ _ _ _ (.ref _::as) (.ref x::vs) b.inv ⟨_,_,rfl,⟨_,h0,rfl⟩,b.fm hx⟩ p q _ λv o u H st D=>
   ⟨(hn▸D:XR C o _ _ (.v .none) v),k _ o u _ (b.trans st) ⟨_,st.ext _ _ h0,rfl⟩⟩
end
theorem acO {C}{P}{D}(K:EC C P D){cl}{d}
 (hb:∀f fn,P.fns[f]?=S fn->∀(A:Around) (env:PySem.Env),jP A d->(∀x,env.kindOf x=(D.fd f).scope.names.lookup x)->BodyOk C A env (D.sl f) (D.body f) λρ σ=>aZ cl fn.body ρ σ):
 rj C ⟨B1 cl P,B2 cl P,P.fk⟩ D.fa (d+1):=by
 have L:∀f fn,P.fns[f]?=S fn->∀(A:Around),A.depth<recursionLimit->(∀env,jP (A.deeper env) d)->Ao C A (D.fa f) cl fn:=
  λf fn hf A O hr F ι σ s as a i hx p e R q=>acF (K.fns f fn hf) (hb f fn hf) O hr i hx e q
 constructor
 . intro A hr f as σ x u e F ι s a R i hx q
   have r:=λfn hf=>L f fn hf A (by have:=hr.depth;exact Sj this) hr.deeper
   exact(cv λfn hf=>MB (acL (r fn hf) i hx) (r fn hf F ι σ s as a i hx)) (x,u) e R q
 . intro A hr c as σ x u e F ι s a R i hx q
   have r:=λf fn hf=>L f fn hf (A.under (.builtin "type.__call__" ⟨.ref (C.cls c)::a,[]⟩)) (show A.depth+1<_ by have:=hr.depth;exact Sk this) λenv=>⟨hr.handled,by have:=hr.depth;show A.depth+1+1+2*d+2<_;exact Sl this,by have:=hr.units;show A.units+1+3+8*d+100<_;exact Sm this⟩
   refine(cv (P:=λp=>∀R,(∀v y Q H,Step C F ι σ s.heap H p.2 y->XR C y (NN F H p.2) H p.1 v->R (.ok (.ret v)) (upd s y Q))->codeAny C.M A (.call (.ref (C.cls c)) ⟨a,[]⟩) R s) λf U=>cv λfn hf=>cv λpu _ p Y R k=> ?_) (x,u) e R q
   have I:=λb o e=>i.base b o (C.X b o e)
   have h:=K.init c f U
   exact make_core (makes_of I h.2.2) (looks_findIn I h.1) ((bind_fn I · h.2.1)) (.inl rfl) ((MB (acM (ME c) (r f fn hf) i hx) (acN (ME c) (r f fn hf) i hx)) p Y R k)
noncomputable def tR.nm:tR->Str
 | .len=> "len" | .list=> "list" | .tuple=> "tuple" | .sorted=> "sorted" | .sum=> "sum" | .dict _=> "dict" | .abs=> "abs" | .int=> "int"
variable {cJ:Hp}
def xm (C:CX)(A:Around)(F:aO->Prop)(f:Value)(as:List X)(σ:Hp)(x:X)(c:Hp):Prop:=
 ∀(ι:Lay) (s:aT) (k:List Value) (R:Result->aT->Prop),aL C F ι σ s.heap->bJ C s.heap (NN F ι σ) ι as k->
  (∀v a o b,Step C F ι σ s.heap b c a->XR C a (NN F b c) b x v->R (.ok (.ret v)) (upd s a o))->codeAny C.M A (.call f ⟨k,[]⟩) R s
theorem MF {pos}{xs ys}{y}(hk:keepIn C.K f=ab)(c:args.all notStar=ab)
 (hf:bJ C s.heap (NN F ι σ) ι ys first)(ha:lU C A F ι σ s (spliced (backTo pos (starEach args env))) xs aC)(k:xm C A F f (ys++xs) aC y bk):
 EV C A F ι σ s (callWith pos f first (backTo pos (starEach args env)) []) y bk:=λQ E q=>callWith_of (by rw[sA c];rfl) (keeps_K hk) (yY (sA c) (ha _ _ λx D H I a hx=>⟨λb o e=>a.inv.base b o (C.X b o e),wpAny_call (k _ _ _ _ a.inv ((a.fm hf).append hx) λv L O U r u=>q v _ _ _ (a.trans r) u)⟩))
theorem MG {f}{xs}{y}(hn:∀E a,a f s->wpAny C.M A (eval (.Name x b) env) a E s)(hk:keepIn C.K f=ab)(c:args.all notStar=ab)
 (ha:lU C A F ι σ s (spliced (backTo pos (starEach args env))) xs aC)(k:xm C A F f xs aC y bk):
 EV C A F ι σ s (eval (.Call (.Name x b) args [] pos) env) y bk:=λQ E q=>Jx (hn E _ (MF (ys:= []) hk c rfl ha k Q E q))
theorem acP {o}{c}{fa}{e}{x pos}{args}{xs}{y}(hb:pn e=ab)(D:args.all notStar=ab)(hl:args.length<30)(I:(x.endLine==pos.line)=ab)
 (he:EV C A F ι σ s (eval e env) o aC)(L:n7 aC o=S c)(a:c<6)(hf:findIn C.K (.ref (C.cls c)) name=S (S (.ref fa)))(b:typeIn C.K (.ref fa)=S (.type "function"))(hn:∀f,hJ c f=ab->C.fld f≠name)
 (hk:keepIn C.K (.ref fa)=ab)(ha:∀h' O ag,Step C F ι σ s.heap ag aC h'->lU C A F ag aC (upd s h' O) (spliced (backTo pos (starEach args env))) xs bk)(U:xm C A F (.ref fa) (o::xs) bk y cJ):
 EV C A F ι σ s (eval (.Call (.Attribute e name x) args [] pos) env) y cJ:=by
 intro Q E q
 rewrite[arm_eval_Call];rw[Cv hb]
 refine aG (he _ _ λv aN bC bh k H=>aG (qM ?_))
 have r:methodCallForm _ _ (backToKw pos (keywordEach [] env))=true:=Kv D hl
 unfold methodCall
 exact Zrr r (aG (jH (X2 k.inv H L a hf b hn (aG (wpAny_of_eq (by unfold methodCallPos;simp[I]) (have:=MF (ys:= [o]) hk D ⟨v,[],rfl,H,rfl⟩ (ha _ _ _ k) U Q E λu bF de eK Y hu=>q u _ _ _ (k.trans Y) hu;this))))))
theorem rk (ok:cQ F env)(i:aL C F ι σ s.heap){nm}{b pos}{e}{x y}{fv}(hk:env.kindOf nm=S .globalImplicit)(c:notStar e=ab)(he:EV C A F ι σ s (eval e env) x aC)
 (k:bootBuiltins nm=S fv)(o:(∃T,fv= .type T)\/∃id,fv= .builtin id)(r:nm∈qA)
 (u:∀(Q:Value->aT->Prop) (E:Value->aT->Prop),(∀v h' D ag,Step C F ι σ s.heap ag bk h'->XR C h' (NN F ag bk) ag y v->Q v (upd s h' D))->∀v aN H a,Step C F ι σ s.heap a aC aN->XR C aN (NN F a aC) a x v->wpAny C.M A (call fv [v]) Q E (upd s aN H)):
 EV C A F ι σ s (eval (.Call (.Name nm b) [e] [] pos) env) y bk:=
 λQ E q=>CH o c (y4 ok i hk r k) (he _ _ (u Q E q))
theorem acR (O:A.handled=J)(hr:A.units+80<cLine)(ok:cQ F env)(i:aL C F ι σ s.heap){m:Bool}{f:tR}{np pos:Pos}{e:aI}{x:X}(hk:env.kindOf f.nm=S .globalImplicit)(L:notStar e=ab)
 (he:EV C A F ι σ s (eval e env) x aC):OB ((cB aC f x).bind λr=>Ii m aC r) λy=>EV C A F ι σ s (eval (.Call (.Name f.nm np) [e] [] pos) env) y.1 y.2:=by
 refine UO ?_
 cases f with
 |len=>exact cv λn hn=>fE λhl=>cH (cH (rk ok i hk L he rfl (.inr ⟨_,rfl⟩) (.head _) λQ E q v u o k c hx=>YQ c.inv hx hn hl λH tk'=>q _ u tk' k c ⟨H,rfl⟩))
 |list=>exact Ik λxs D=>fE λhl=>cH λy U=>(D.elim (λh=>⟨_,h,.inl rfl⟩) λh=>⟨_,h,.inr rfl⟩:∃a,x= .v a/\(a= .lst xs\/a= .tup xs)).elim λa ha=>rk ok i hk L (x:= .v a) (ha.1▸he) rfl (.inl ⟨_,rfl⟩) (.tail _ (.head _)) λQ E q v u o k c hx=>YR c.inv hx ha.2 hl U λr I Y st hr=>q r I o Y (c.trans st) hr
 |tuple=>exact r9 λxs D=>fE λhl=>cH (cH (rk ok i hk L (x:= .v (.lst xs)) (D▸he) rfl (.inl ⟨_,rfl⟩) (.tail _ (.tail _ (.head _))) λQ E q v u o k c hx=>YS c.inv hx hl λr I st hr=>q r I o k (c.trans st) hr))
 |sorted=>exact cv λxs hq=>fE λhl=>cH λy U=>rk ok i hk L he rfl (.inr ⟨_,rfl⟩) (.tail _ (.tail _ (.tail _ (.head _)))) λQ E q v u o k c hx=>ab8 O (H2 hr) c.inv hx hq hl U λr I H Y st hr=>q r I H Y (c.trans st) hr
 |sum=>exact r9 λxs D=>fe λn hn=>cH (rk ok i hk L (x:= .v (.lst xs)) (D▸he) rfl (.inr ⟨_,rfl⟩) (.tail _ (.tail _ (.tail _ (.tail _ (.head _))))) λQ E q v u o k c hx=>YU O c.inv hx hn λt I H st=>q _ I H k (c.trans st) ⟨t,rfl⟩)
 |dict t=>exact r9 λxs D=>fE λhl=>fe λak hn=>cH (rk ok i hk L (x:= .v (.lst xs)) (D▸he) rfl (.inl ⟨_,rfl⟩) (.tail _ (.tail _ (.tail _ (.tail _ (.tail _ (.head _)))))) λQ E q v u o k c hx=>aaU O hr c.inv hx hl hn λr I H st hr=>q r I H k (c.trans st) hr)
 |abs=>exact vH λn D=>cH (cH (rk ok i hk L (x:= .v (.int n)) (D▸he) (fv:= .builtin "abs") rfl (.inr ⟨_,rfl⟩) (.tail _ (.tail _ (.tail _ (.tail _ (.tail _ (.tail _ (.head _))))))) λQ E q v u o k c hx=>YV (s:=(upd s u o)) (N:=NN F k aC) hx λt H=>q _ u H k c ⟨t,rfl⟩))
 |int=>
  refine lS λa D=> ?_
  have go:∀ {y},_->EV C A F ι σ s (eval (.Call (.Name (tR.int).nm np) [e] [] pos) env) y aC:=λ{y} h4=>rk ok i hk L (x:= .v a) (D▸he) (fv:= .type "int") rfl (.inl ⟨_,rfl⟩) (.tail _ (.tail _ (.tail _ (.tail _ (.tail _ (.tail _ (.tail _ (.head _)))))))) h4
  cases a with
  |int n=>exact cH (cH (go λQ E q v u o k c zq=>ao zq λt hx=>hx▸call_int_int (q _ u o k c ⟨t,rfl⟩)))
  |bool b=>exact cH (cH (go λQ E q v u o k c hx=>(show v=_ from hx)▸call_int_bool (q _ u (o+1) k c ⟨o,rfl⟩)))
  |_=>exact fX
set_option genInjectivity false in
structure MC where
 fns:List (Str×aO)
 fa:Nat->aO
 cls:Nat->aO
 fld:Nat->Str
 ta:List ((Nat×Str)×aO)
 jQ:Nat->Str
inductive rm:V->PySem.Expr->Prop
 |int {n k p}:rm (.int n) (.Constant (.int n) k p)
 |neg {n k p q}:rm (.int (-n)) (.UnaryOp .USub (.Constant (.int n) k p) q)
 |str {x k p}:rm (.str x.cps.toList) (.Constant (.str x) k p)
 |bool {b k p}:rm (.bool b) (.Constant (.bool b) k p)
 |none {k p}:rm .none (.Constant .none k p)
noncomputable def Ap (c:Prop) [Decidable c]{q:Prop}(h:c->q):Option (PLift q):=if e:c then S ⟨h e⟩else J
def acS (v:V)(e:aI):Option (PLift (rm v e)):=match v with
 | .int n=>((qx e).bind λ⟨p,a⟩=>(cInt p.1).bind λ⟨k,hk⟩=>Ap (n=k) λh=>by rw[a,hk,h];exact .int)<|>
  (Iu e).bind λ⟨p,a⟩=>(qx p.2.1).bind λ⟨q,c⟩=>(cInt q.1).bind λ⟨k,hk⟩=>Ap (p.1= .USub/\n= -k) λh=>by rw[a,c,hk,h.1,h.2];exact .neg
 | .str l=>(qx e).bind λ⟨p,a⟩=>(cStr p.1).bind λ⟨x,hx⟩=>Ap (x.cps.toList=l) λh=>by rw[a,hx,h.symm];exact .str
 | .bool b=>(qx e).bind λ⟨p,a⟩=>(cBool p.1).bind λ⟨x,hx⟩=>Ap (b=x) λh=>by rw[a,hx,h];exact .bool
 | .none=>(qx e).bind λ⟨p,a⟩=>(Iz p.1).map λh=>⟨by(rw[a,h.1]);exact .none⟩
 |_=>J
noncomputable def isSet (e:aI):Bool:=e.ctorIdx==7
noncomputable def ED (sl:SL):Bool:=decide (sl.map (·.2)).Nodup
def ro (kd:Str->Option NameKind)(sl:SL)(scope:Scope)(t:jC)(a iter:aI):Bool:=
 uq scope kd sl (dP t a) &&ED (dP t a++sl) &&oy (dP t a++sl) t a&&wJ scope kd a&& !isSet iter
noncomputable def xn (kd:Str->Option NameKind)(es:List aI):Bool:=
 es.all λe=>match e with| .Name x _=>kd x==S .local||kd x==S .cell|_=>ab
noncomputable def rp (kd:Str->Option NameKind)(x:Str):Bool:=kd x==S .local||kd x==S .cell
noncomputable def jR (kd:Str->Option NameKind)(x:Str):Bool:=kd x==S .globalImplicit
def xo (e:aI):Option {x:Str×Pos×List aI×Pos//e= .Call (.Name x.1 x.2.1) x.2.2.1 [] x.2.2.2}:=
 (B7 e).bind λ⟨p,a⟩=>(nl p.2.2.1).bind λk=>(oe p.1).map λ⟨q,b⟩=>⟨(q.1,q.2,p.2.1,p.2.2.2),by rw[a,b,k.1];rfl⟩
def MH (e:aI):Option {x:aI×Str×Pos×List aI×Pos//e= .Call (.Attribute x.1 x.2.1 x.2.2.1) x.2.2.2.1 [] x.2.2.2.2}:=
 (B7 e).bind λ⟨p,a⟩=>(nl p.2.2.1).bind λk=>(B5 p.1).map λ⟨q,b⟩=>⟨(q.1,q.2.1,q.2.2,p.2.1,p.2.2.2),by rw[a,b,k.1];rfl⟩
def EE (e:aI):Option {x:aI×PySem.CmpOp×aI×Pos//e= .Compare x.1 [x.2.1] [x.2.2.1] x.2.2.2}:=
 (WB e).bind λ⟨p,a⟩=>(one p.2.1).bind λ⟨o,c⟩=>(one p.2.2.1).map λ⟨b,hb⟩=>⟨(p.1,o,b,p.2.2.2),by rw[a,c,hb];rfl⟩
def MI (e:aI):Option {x:aI×PySem.CmpOp×Nat×Pos×Pos//e= .Compare x.1 [x.2.1] [.Constant .none x.2.2.1 x.2.2.2.1] x.2.2.2.2}:=
 (EE e).bind λ⟨p,a⟩=>(qx p.2.2.1).bind λ⟨q,b⟩=>(Iz q.1).map λn=>⟨(p.1,p.2.1,q.2.1,q.2.2,p.2.2.2),by rw[a,b,n.1];rfl⟩
def MJ (e:aI):Option {x:aI×Option aI×Option aI×Pos×Pos//e= .Subscript x.1 (.Slice x.2.1 x.2.2.1 J x.2.2.2.1) x.2.2.2.2}:=
 (B6 e).bind λ⟨p,a⟩=>(Wz p.2.1).bind λ⟨q,b⟩=>if h:q.2.2.1=J then S ⟨(p.1,q.1,q.2.1,q.2.2.2,p.2.2),by rw[a,b,h];rfl⟩else J
noncomputable def two {c:Type}:(l:List c)->Option {x:c×c×List c//l=x.1::x.2.1::x.2.2}
 |a::b::r=>S ⟨(a,b,r),rfl⟩
 |_=>J
def acT (e:aI):Option {x:PySem.BoolOp×aI×aI×List aI×Pos//e= .BoolOp x.1 (x.2.1::x.2.2.1::x.2.2.2.1) x.2.2.2.2}:=
 (vBool e).bind λ⟨p,a⟩=>(two p.2.1).map λ⟨q,b⟩=>⟨(p.1,q.1,q.2.1,q.2.2,p.2.2),by rw[a,b];rfl⟩
def MK (e:aI):Option {x:aI×aI×aI×List aI×PySem.Scope×Pos//e= .ListComp x.1 [⟨x.2.1,x.2.2.1,x.2.2.2.1,0⟩] x.2.2.2.2.1 x.2.2.2.2.2}:=
 (Iy e).bind λ⟨p,a⟩=>(one p.2.1).bind λ⟨⟨t,i,b,k⟩,c⟩=>if h:k=0 then S ⟨(p.1,t,i,b,p.2.2.1,p.2.2.2),by rw[a,c,h];rfl⟩else J
def vK1 (k:Option aI):Option {x:Str×Nat×Pos×Nat×Pos//k=S (.Tuple [.Constant (.str x.1) x.2.1 x.2.2.1] x.2.2.2.1 x.2.2.2.2)}:=match k with
 |none=>J
 |some k=>(qz k).bind λ⟨t,a⟩=>(one t.1).bind λ⟨c,b⟩=>(qx c).bind λ⟨d,o⟩=>(cStr d.1).map λ⟨w,hw⟩=>⟨(w,d.2.1,d.2.2,t.2.1,t.2.2),by rw[a,b,o,hw];rfl⟩
def vB1 (e:aI):Option {x:Bool×Nat×Pos//e= .Constant (.bool x.1) x.2.1 x.2.2}:=
 (qx e).bind λ⟨d,a⟩=>(cBool d.1).map λ⟨b,hb⟩=>⟨(b,d.2.1,d.2.2),by rw[a,hb];rfl⟩
def vD1 (e:aI):Option {x:(Str×Nat×Pos×Nat×Pos)× (Bool×Nat×Pos)×Pos//e= .Dict [S (.Tuple [.Constant (.str x.1.1) x.1.2.1 x.1.2.2.1] x.1.2.2.2.1 x.1.2.2.2.2)] [.Constant (.bool x.2.1.1) x.2.1.2.1 x.2.1.2.2] x.2.2}:=
 (Iw e).bind λ⟨p,a⟩=>(one p.1).bind λ⟨k,hk⟩=>(one p.2.1).bind λ⟨v,b⟩=>(vK1 k).bind λ⟨x,hx⟩=>(vB1 v).map λ⟨y,c⟩=>⟨(x,y,p.2.2),by rw[a,hk,b,hx,c];rfl⟩
def EF (e:aI):Option {x:Str×Pos×aI×Pos//e= .Call (.Name x.1 x.2.1) [x.2.2.1] [] x.2.2.2}:=
 (xo e).bind λ⟨p,b⟩=>(one p.2.2.1).map λ⟨a,ha⟩=>⟨(p.1,p.2.1,a,p.2.2.2),by rw[b,ha];rfl⟩
def acU (e:aI):Option {x:Str×Pos×aI×aI×Pos//e= .Call (.Name x.1 x.2.1) [x.2.2.1,x.2.2.2.1] [] x.2.2.2.2}:=
 (xo e).bind λ⟨p,b⟩=>(two p.2.2.1).bind λ⟨a,ha⟩=>(nl a.2.2).map λh=>⟨(p.1,p.2.1,a.1,a.2.1,p.2.2.2),by rw[b,ha,h.1];rfl⟩
def acV (e:aI):Option {x:aI×aI×Pos×Pos//e= .Subscript x.1 (.Slice J (S x.2.1) J x.2.2.1) x.2.2.2}:=
 (MJ e).bind λ⟨p,a⟩=>match c:p.2.1,k:p.2.2.1 with
  |none,S b=>S ⟨(p.1,b,p.2.2.2),by rw[a,c,k];rfl⟩
  |_,_=>J
def acW (e:aI):Option {x:aI×aI×Pos×Pos//e= .Subscript x.1 (.Slice (S x.2.1) J J x.2.2.1) x.2.2.2}:=
 (MJ e).bind λ⟨p,a⟩=>match c:p.2.1,k:p.2.2.1 with
  |some b,J=>S ⟨(p.1,b,p.2.2.2),by rw[a,c,k];rfl⟩
  |_,_=>J
def vD0 (e:aI):Option {x:Pos//e= .Dict [] [] x}:=
 (Iw e).bind λ⟨p,a⟩=>(nl p.1).bind λh=>(nl p.2.1).map λb=>⟨p.2.2,by rw[a,h.1,b.1];rfl⟩
def Aq (o:PySem.BoolOp)(e:aI):Option {x:aI×aI×List aI×Pos//e= .BoolOp o (x.1::x.2.1::x.2.2.1) x.2.2.2}:=
 (acT e).bind λ⟨p,a⟩=>if h:p.1=o then S ⟨p.2,by rw[a,h];rfl⟩else J
def ML (e:aI):Option {x:aI×Pos//e= .UnaryOp .Not x.1 x.2}:=
 (Iu e).bind λ⟨p,a⟩=>if h:p.1= .Not then S ⟨p.2,by rw[a,h];rfl⟩else J
def MM (e:aI):Option {x:aI×aI×aI×PySem.Scope×Pos//e= .ListComp x.1 [⟨x.2.1,x.2.2.1,[],0⟩] x.2.2.2.1 x.2.2.2.2}:=
 (MK e).bind λ⟨p,a⟩=>(nl p.2.2.2.1).map λh=>⟨(p.1,p.2.1,p.2.2.1,p.2.2.2.2.1,p.2.2.2.2.2),by rw[a,h.1];rfl⟩
def MN (e:aI):Option {x:aI×aI×aI×aI×PySem.Scope×Pos//e= .ListComp x.1 [⟨x.2.1,x.2.2.1,[x.2.2.2.1],0⟩] x.2.2.2.2.1 x.2.2.2.2.2}:=
 (MK e).bind λ⟨p,a⟩=>(one p.2.2.2.1).map λ⟨c,h⟩=>⟨(p.1,p.2.1,p.2.2.1,c,p.2.2.2.2.1,p.2.2.2.2.2),by rw[a,h];rfl⟩
noncomputable def rq (o:PySem.BoolOp)(b:aI)(r:List aI)(p:Pos):PySem.Expr:=if r.isEmpty then b else .BoolOp o (b::r) p
noncomputable def EG (es:Es):Option {e:E//es= .cons e .nil}:=match es with
 | .cons e .nil=>S ⟨e,rfl⟩
 |_=>J
noncomputable def MP (es:Es):Option (PLift (es= .nil)):=match es with
 | .nil=>S ⟨rfl⟩
 |_=>J
noncomputable def acX (e:E):Option {l:List Nat//e= .cst (.str l)}:=match e with
 | .cst (.str l)=>S ⟨l,rfl⟩
 |_=>J
noncomputable def acY (e:E):Option {l:Bool//e= .cst (.bool l)}:=match e with
 | .cst (.bool l)=>S ⟨l,rfl⟩
 |_=>J
noncomputable def acZ (e:E):Option {es:Es//e= .tup es}:=match e with
 | .tup l=>S ⟨l,rfl⟩
 |_=>J
def xp (s:PySem.Stmt):Option {x:aI×aI×Pos//s= .Assign [x.1] x.2.1 x.2.2}:=
 (WD s).bind λ⟨p,a⟩=>(one p.1).map λ⟨t,b⟩=>⟨(t,p.2.1,p.2.2),by rw[a,b];rfl⟩
theorem EH (h:ED sl=ab):iY sl:=by
 have nd:=of_decide_eq_true h
 intro x y i hx c
 have a:=mem_of_lookup hx
 have b:=mem_of_lookup c
 clear hx c h
 induction sl with
 |nil=>cases a
 |cons p sl k=>
  simp only[dz,kB]at nd
  rcases cy.mp a with rfl|a<;>rcases cy.mp b with e|b
  . exact(Prod.mk.inj e).1.symm
  . exact absurd (bY.mpr ⟨_,b,rfl⟩) nd.1
  . exact absurd (bY.mpr ⟨_,a,by rw[e.symm];rfl⟩) nd.1
  exact k nd.2 a b
theorem EI (h:isSet e=ae):∀x,foldedSetIterable e env x=pure x:=by
 intro x
 cases e<;>first|rfl|exact jc h
structure EJ (C:CX)(M:MC)(fk:List V):Prop where
 fns:∀x a,M.fns.lookup x=S a->nsIn C.K mainGlobals x=S (S (.ref a))/\(x==("__debug__" :Str))=ae/\keepIn C.K (.ref a)=ab
 ta:∀c x a,M.ta.lookup (c,x)=S a->c<6/\findIn C.K (.ref (C.cls c)) x=S (S (.ref a))/\typeIn C.K (.ref a)=S (.type "function")/\(∀f,hJ c f=ab->C.fld f≠x)/\keepIn C.K (.ref a)=ab
 fk:∀g a,fk[g]?=S a->(M.jQ g==("__debug__" :Str))=ae/\∃v,nsIn C.K mainGlobals (M.jQ g)=S (S v)/\∀(h:Heap) (N:aO->Prop),(∀b o,C.h₀.get? b=S o->h.get? b=S o)->(∀b o,C.h₀.get? b=S o->¬N b)->VR C h N a v
 fld:M.fld=C.fld
 cls:M.cls=C.cls
def EK (C:CX)(A:Around)(env:PySem.Env)(sl:SL)(b e:aI)(f:Env->Hp->Option (List V×Hp)):Prop:=
 ∀(F:aO->Prop),cQ F env->∀(ρ:Env) (σ:Hp) (s:aT) (ι:Lay) xs a,aL C F ι σ s.heap->cx C s.heap (NN F ι σ) ι env sl ρ->f ρ σ=S (xs,a)->ow C A b F ι σ s (eval e env) xs a
theorem ac0 (i:aL C F ι σ s.heap):∀b o,C.h₀.get? b=S o->¬NN F ι σ b:=λb o e q=>by
 rcases q with q|q
 . rw[(i.frames b q).1]at e;exact aD e
 . rw[(i.fresh b q).1]at e;exact aD e
theorem rt {q}(e:o.bind gp=S q):o=S (.v (.bool q.1),q.2):=by
 refine kr e λp a e=> ?_
 have:=YC e
 rw[a,this];rfl
theorem ac1 (h:rm a e)(i:aL C F ι σ s.heap):EV C A F ι σ s (eval e env) (.v a) σ:=by
 cases h with
 |int=>exact WN i
 |neg=>exact WO i
 |str=>exact WQ i
 |bool=>exact WR i
 |none=>exact Cd i
theorem ac2 {neg:Bool}{l}{k}{p pos}{a}{x}(c:a=if neg then .IsNot else .Is)(hl:EV C A F ι σ s (eval l env) x aC):
 EV C A F ι σ s (eval (.Compare l [a] [.Constant .none k p] pos) env) (.v (.bool (tX neg x))) aC:=by
 subst c
 refine Ju hl (λo b r st=>Cd st.inv) (λQ E o b r v u i ha y q=> ?_) rfl
 subst y
 exact Jc _ ha (have:=(Jb _ x).symm;Zrr this q b)
theorem ac3 {neg:Bool}{l}{k}{p pos}{a}{x}{c}(o:a=if neg then .IsNot else .Is)(hl:EV C A F ι σ s (eval l env) x aC):
 gc C A F ι σ s (isTrue (.Compare l [a] [.Constant .none k p] pos) env c) (tX neg x) aC:=by
 subst o
 refine Jv hl (λr b y st=>Cd st.inv) (λQ E r b y v u i ha D q=> ?_) rfl
 subst D
 exact Jc _ ha (have:=(Jb _ x).symm;Zrr this q b)
theorem ac4 {c}(hl:gc C A F ι σ s (isTrue a env (eval a env)) ab aC)
 (hr:∀h' u ag,Step C F ι σ s.heap ag aC h'->gc C A F ag aC (upd s h' u) (isTrue (rq .And b rest p) env (eval (rq .And b rest p) env)) c bk):
 gc C A F ι σ s (isTrue (.BoolOp .And (a::b::rest) p) env H) c bk:=by
 refine λQ E q=>EL (MQ (hl _ _ λI x L k=> ?_))
 have:=hr _ x _ k
 cases rest
 . exact MQ (this _ _ λy r D o=>have:=q _ r _ (k.trans o);by cases c<;>first|exact this|exact wpAny_allTrue_And_nil this)
 . exact this Q E λy r D o=>q _ _ _ (k.trans o)
theorem ac5 {rest}(hl:gc C A F ι σ s (isTrue a env (eval a env)) ae aC):gc C A F ι σ s (isTrue (.BoolOp .And (a::rest) p) env c) ae aC:=
 λQ E q=>EL (MQ (hl _ _ λk o r b=>q _ _ _ b))
theorem ac6 {c}(hl:gc C A F ι σ s (isTrue a env (eval a env)) ae aC)
 (hr:∀h' u ag,Step C F ι σ s.heap ag aC h'->gc C A F ag aC (upd s h' u) (isTrue (rq .Or b rest p) env (eval (rq .Or b rest p) env)) c bk):
 gc C A F ι σ s (isTrue (.BoolOp .Or (a::b::rest) p) env H) c bk:=by
 refine λQ E q=>EL (MR (hl _ _ λI x L k=> ?_))
 have:=hr _ x _ k
 cases rest
 . exact MR (this _ _ λy r D o=>have:=q _ r _ (k.trans o);by cases c<;>first|exact this|exact wpAny_allTrue_Or_nil this)
 . exact this Q E λy r D o=>q _ _ _ (k.trans o)
theorem ac7 {rest}(hl:gc C A F ι σ s (isTrue a env (eval a env)) ab aC):gc C A F ι σ s (isTrue (.BoolOp .Or (a::rest) p) env c) ab aC:=
 λQ E q=>EL (MR (hl _ _ λk o r b=>q _ _ _ b))
theorem MS {b r}(k:gc C A F ι σ s (isTrue c env (eval c env)) b aC)
 (o:∀h' u ag,Step C F ι σ s.heap ag aC h'->gc C A F ag aC (upd s h' u) (if b then isTrue t env (eval t env)else isTrue f env (eval f env)) r bk):gc C A F ι σ s (isTrue (.IfExp c t f pos) env D) r bk:=by
 refine λQ E q=>aG (k _ _ λH x I a=> ?_)
 have:=o _ x _ a Q E λL O U y=>q _ _ _ (a.trans y)
 cases b<;>exact this
theorem MT (y:A.handled=J){kd}(D:∀x,env.kindOf x=kd x){k b iter}{scope}{p}{t}{m}{f}{g}(c:ro kd sl scope t b iter=ab)
 (H:EK C A env sl b iter g)(o:∀bL,(∀x,bL.kindOf x=fT scope kd x)->sL C A bL (dP t b++sl) k f)
 (ok:cQ F env)(i:aL C F ι σ s.heap)(fr:cx C s.heap (NN F ι σ) ι env sl ρ){x}(e:((g ρ σ).bind λp=>(mO (λa af=>(bV t a ρ).bind (f · af)) p.1 p.2).bind λq=>kx m q.1 q.2)=S (x,af)):
 sP C A F env ι σ s (.ListComp k [⟨b,iter,[],0⟩] scope p) x af:=by
 refine qj e λxs aC I e=>qj e λzs bk L e=> ?_
 unfold ro at c
 simp only[fZ,oE]at c
 refine au c λO Q=>au O λU r=>au U λY c3=>au Y λu c2=> ?_;rw[<-funext D]at u r o
 exact Z9 y o ok i fr u (EH c2) c3 r (EI Q) (H F ok ρ σ s ι xs _ i fr I) L e
theorem MU (I:A.handled=J){kd}(L:∀x,env.kindOf x=kd x){o r b iter}{scope}{p}{t}{m}{f}{c}{g}(k:ro kd sl scope t b iter=ab)
 (Q:EK C A env sl b iter g)(u:∀bL,(∀x,bL.kindOf x=fT scope kd x)->sL C A bL (dP t b++sl) o f)(y:∀bL,(∀x,bL.kindOf x=fT scope kd x)->wy C A bL (dP t b++sl) r c)
 (ok:cQ F env)(i:aL C F ι σ s.heap)(fr:cx C s.heap (NN F ι σ) ι env sl ρ){x}
 (e:((g ρ σ).bind λp=>(qt (λa af=>(bV t a ρ).bind (c · af)) (λa af=>(bV t a ρ).bind (f · af)) p.1 p.2).bind λq=>kx m q.1 q.2)=S (x,af)):
 sP C A F env ι σ s (.ListComp o [⟨b,iter,[r],0⟩] scope p) x af:=by
 refine qj e λxs aC U e=>qj e λzs bk Y e=> ?_
 unfold ro at k
 simp only[fZ,oE]at k
 refine au k λO c5=>au O λax D=>au ax λcu c3=>au cu λH c2=> ?_;rw[<-funext L]at H D u y
 exact Z' I u y ok i fr H (EH c2) c3 D (EI c5) (Q F ok ρ σ s ι xs _ i fr U) Y e
theorem rj.code (fj:rj C cl fa d){A}(hr:jP A d){F}{f}{as}{σ}{y}(e:cl.call f as σ=S y):xm C A F (.ref (fa f)) as σ y.1 y.2:=
 λι s a R i hx q=>fj.call A hr f as σ _ _ e F ι s a R i hx q
theorem rj.ac8 (fj:rj C cl fa d){A}(hr:jP A d){F}{c}{as}{σ}{y}(e:cl.new c as σ=S y):xm C A F (.ref (C.cls c)) as σ y.1 y.2:=
 λι s a R i hx q=>fj.new A hr c as σ _ _ e F ι s a R i hx q
section
variable {α β:Type} {o:Option α} {P:β->Prop} {x:X}
theorem ac9 {o}{P}(h:OB o λp=>∀b,p.1= .v (.bool b)->P (b,p.2)):OB (o.bind gp) P:=λq e=>h _ (rt e) _ rfl
theorem Ar {b}{o:Option α}{f}{g:β->Option b}{P}(h:∀a,o=S a->OB ((f a).bind g) P):OB ((o.bind f).bind g) P:=(Option.bind_assoc o f g).symm▸cv h
theorem uW {b}{o:Option α}{f:α->β}{g:β->Option b}{P}(h:∀a,o=S a->OB (g (f a)) P):OB ((o.map f).bind g) P:=cv λ_ e=>(Ij e).elim λa e=>e.2▸h a e.1
theorem As {o:Option (Bool×α)}{f:Bool×α->Option β}{P}(h:∀s,o=S (ab,s)->OB (f (ab,s)) P)(k:∀s,o=S (ae,s)->OB (f (ae,s)) P):OB (o.bind f) P:=
 cv λa=>a.rec λb s=>b.rec (k s) (h s)
theorem EN {c}{o:Option (Bool×α)}{f:Bool×α->Option β}{g:β->Option c}{P}(h:∀s,o=S (ab,s)->OB ((f (ab,s)).bind g) P)(k:∀s,o=S (ae,s)->OB ((f (ae,s)).bind g) P):OB ((o.bind f).bind g) P:=
 Ar λa=>a.rec λb s=>b.rec (k s) (h s)
theorem ada {o:Option (Flow×α)}{f:Flow×α->Option β}{P}(h:∀s,o=S (.next,s)->OB (f (.next,s)) P)(k:∀x s,o=S (.ret x,s)->OB (f (.ret x,s)) P):OB (o.bind f) P:=
 cv λa=>a.rec λb s=>b.rec (h s) λx=>k x s
end
structure Bg (C:CX)(cl:Cl)(d:Nat)(M:MC)(A:Around)(env:PySem.Env)(kd:Str->Option NameKind):Prop where
 fj:rj C cl M.fa d
 MO:EJ C M cl.fk
 hr:jP A d
 hk:∀x,env.kindOf x=kd x
variable {M:MC} {kd:Str->Option NameKind}
section
variable {cl:Cl} {d:Nat}
theorem Bg.u2 (B:Bg C cl d M A env kd):A.units+80<cLine:=by have:=B.hr.units;exact TY this
theorem Bg.u1 (B:Bg C cl d M A env kd):A.units+64<cLine:=by have:=B.u2;exact H2 this
theorem Bg.glob (B:Bg C cl d M A env kd){x}(h:jR kd x=ab):env.kindOf x=S .globalImplicit:=by rw[B.hk _];exact eq_of_beq h
theorem Bg.with {b}(B:Bg C cl d M A env kd)(hk:∀x,a.kindOf x=b x):Bg C cl d M A a b:=⟨B.fj,B.MO,B.hr,hk⟩
theorem Bg.fn (B:Bg C cl d M A env kd){F}{ι}{σ}{s}{nm}{a}{p}(h:M.fns.lookup nm=S a)(hk:jR kd nm=ab)(ok:cQ F env)(i:aL C F ι σ s.heap):
 ∀E b,b (.ref a) s->wpAny C.M A (eval (.Name nm p) env) b E s:=dp (B.MO.fns nm a h) λc k o=>λE b q=>IC ok i (B.glob hk) k c q
end
set_option genInjectivity false in
structure Zc (M:MC)(kd:Str->Option NameKind)(sl:SL) where
 C:CX
 cl:Cl
 d:Nat
 A:Around
 env:PySem.Env
 B:Bg C cl d M A env kd
 F:aO->Prop
 ok:cQ F env
 ρ:Env
 σ:Hp
 s:aT
 ι:Lay
 i:aL C F ι σ s.heap
 fr:cx C s.heap (NN F ι σ) ι env sl ρ
def QE (M:MC)(kd:Str->Option NameKind)(sl:SL)(m:E)(ex:aI):Prop:=∀z:Zc M kd sl,OB (az z.cl m z.ρ z.σ) λp=>EV z.C z.A z.F z.ι z.σ z.s (eval ex z.env) p.1 p.2
def QT (M:MC)(kd:Str->Option NameKind)(sl:SL)(m:E)(ex:aI):Prop:=∀z:Zc M kd sl,OB ((az z.cl m z.ρ z.σ).bind gp) λp=>gc z.C z.A z.F z.ι z.σ z.s (isTrue ex z.env (eval ex z.env)) p.1 p.2
def jS (M:MC)(kd:Str->Option NameKind)(sl:SL)(m:Es)(es:List aI):Prop:=es.all notStar=ab/\∀(z:Zc M kd sl) (pos:Pos),OB (fW z.cl m z.ρ z.σ) λp=>lU z.C z.A z.F z.ι z.σ z.s (spliced (backTo pos (starEach es z.env))) p.1 p.2
def kF (M:MC)(kd:Str->Option NameKind)(sl:SL)(m:It)(a ex:aI):Prop:=∀z:Zc M kd sl,OB (ix z.cl m z.ρ z.σ) λp=>ow z.C z.A a z.F z.ι z.σ z.s (eval ex z.env) p.1 p.2
section
variable {p p':Pos} {a b c:aI} {l r o k t f c':E} {nm:Str} {es:Es} {as:List aI}
noncomputable def Zc.at (z:Zc M kd sl){h':Heap}{x:Nat}{q:Lay}{u:Hp}(st:Step z.C z.F z.ι z.σ z.s.heap q u h'):Zc M kd sl:=⟨z.C,z.cl,z.d,z.A,z.env,z.B,z.F,z.ok,z.ρ,u,upd z.s h' x,q,st.inv,z.fr.step z.ok z.i st⟩
theorem QE.ev (h:QE M kd sl o a)(z:Zc M kd sl)(q){x}(e:az z.cl o z.ρ z.σ=S q)(hx:q.1=x):EV z.C z.A z.F z.ι z.σ z.s (eval a z.env) x q.2:=hx▸h z q e
theorem QE.nx (h:QE M kd sl o a)(z:Zc M kd sl){u}(q){x}(e:az z.cl o z.ρ u=S q)(hx:q.1=x):∀h' y ag,Step z.C z.F z.ι z.σ z.s.heap ag u h'->EV z.C z.A z.F ag u (upd z.s h' y) (eval a z.env) x q.2:=λ_ y _ st=>h.ev (z.at st) q e hx
theorem QT.nx (h:QT M kd sl o a)(z:Zc M kd sl){u}{q}(e:(az z.cl o z.ρ u).bind gp=S q):∀h' x ag,Step z.C z.F z.ι z.σ z.s.heap ag u h'->gc z.C z.A z.F ag u (upd z.s h' x) (isTrue a z.env (eval a z.env)) q.1 q.2:=λ_ x _ st=>h (z.at st) q e
theorem jS.nx (h:jS M kd sl es as)(z:Zc M kd sl){pos}{u}{q}(e:fW z.cl es z.ρ u=S q):∀h' x ag,Step z.C z.F z.ι z.σ z.s.heap ag u h'->lU z.C z.A z.F ag u (upd z.s h' x) (spliced (backTo pos (starEach as z.env))) q.1 q.2:=λ_ x _ st=>h.2 (z.at st) _ q e
theorem QE.ok (h:QE M kd sl o a)(B:Bg C cl d M A env kd):sL C A env sl a λρ σ=>az cl o ρ σ:=λF ok ρ σ s ι x q i fr e=>h ⟨C,cl,d,A,_,B,F,ok,ρ,σ,s,ι,i,fr⟩ _ e
theorem QT.ok (h:QT M kd sl o a)(B:Bg C cl d M A env kd):wy C A env sl a λρ σ=>(az cl o ρ σ).bind gp:=λF ok ρ σ s ι x q i fr e=>h ⟨C,cl,d,A,_,B,F,ok,ρ,σ,s,ι,i,fr⟩ _ e
theorem kF.ok {it}(h:kF M kd sl it b a)(B:Bg C cl d M A env kd):EK C A env sl b a λρ σ=>ix cl it ρ σ:=λF ok ρ σ s ι x q i fr e=>h ⟨C,cl,d,A,_,B,F,ok,ρ,σ,s,ι,i,fr⟩ _ e
theorem ade (h:sl.lookup nm=S j/\(rp kd nm||kd nm==S .free)=ab/\(nm== "__debug__")=ae/\(nm== "__classdict__")=ae):QE M kd sl (.var j) (.Name nm p):=
 λz=>fe λy x=>by
  refine WM z.ok z.i z.fr h.1 ?_ h.2.2.1 h.2.2.2 x
  rw[z.B.hk _]
  have u:=h.2.1
  simp only[rp,lY,beq_iff_eq]at u
  exact u.elim (λq=>q.elim .inl λq=> .inr (.inl q)) λq=> .inr (.inr q)
theorem adf (h:rm v a):QE M kd sl (.cst v) a:=λz=>cH (ac1 h z.i)
theorem adg (h:jR kd (M.jQ g)=ab):QE M kd sl (.glob g) (.Name (M.jQ g) p):=
 λz=>fe λa ha Q E q=>(z.B.MO.fk g a ha).2.elim λv k=>IC z.ok z.i (z.B.glob h) (z.B.MO.fk g a ha).1 k.1 (q v _ _ _ (.refl z.i) (k.2 _ _ z.i.base (ac0 z.i)))
theorem adh {f}(h:pn a=ab)(u:QE M kd sl o a):QE M kd sl (.attr o f) (.Attribute a (M.fld f) p):=
 λz=>cv λq x=>fe λw y=>by rw[z.B.MO.fld];exact XX h (u.ev z q x rfl) y
theorem adi (h:CE b=ae)(u:QE M kd sl o a)(hk:QE M kd sl k b):QE M kd sl (.idx o k) (.Subscript a b p):=
 λz=>cv λq x=>cv λr D=>lS λL H=>fe λw I=>Yh (y:=q.1) (u.ev z q x rfl) (hk.nx z r D H) I z.B.u1 h
theorem adj (u:QE M kd sl o a)(hk:QE M kd sl k b):QE M kd sl (.kQ o k) (.Subscript a (.Slice J (S b) J p) p'):=
 λz=>cv λq D=>cv λr H=>lS λx hx=>lS λy I=>fe λw L=>Yr (u.ev z q D hx) (hk.nx z r H I) L
theorem adk (u:QE M kd sl o a)(hk:QE M kd sl k b):QE M kd sl (.vy o k) (.Subscript a (.Slice (S b) J J p) p'):=
 λz=>cv λq D=>cv λr H=>lS λx hx=>lS λy I=>fe λw L=>Yt (u.ev z q D hx) (hk.nx z r H I) L
theorem adl {F}{ι}{σ}{s}{m}{x}{a b}{v u}{y}(i:aL C F ι σ s.heap)(ha:XR C s.heap (NN F ι σ) ι (.v a) v)(hb:XR C s.heap (NN F ι σ) ι (.v b) u)(e:mkBin m (cV x a b) σ=S y):EV C A F ι σ s (binaryOp x.py v u) y.1 y.2:=by
 cases m
 . exact gY e λw q e=>Zrr e.symm (W' i ha hb q)
 . refine kr e λw q e=> ?_
   cases w<;>first|exact aD e|exact je e▸Xc i ha hb q
theorem adm (hl:QE M kd sl l a)(hr:QE M kd sl r b):QE M kd sl (.bin m u l r) (.BinOp a u.py b p):=
 λz=>cv λq D=>cv λr H=>lS λx hx=>lS λy I w e=>WX (hl.ev z q D hx) (hr.nx z r H I) λ_ _ _ _ _ L ha hb=>adl L ha hb e
theorem adn (h:behindInMarks x.py b=ae)(hl:QE M kd sl l a)(hr:QE M kd sl r b):QE M kd sl (.cmp x l r) (.Compare a [x.py] [b] p):=
 λz=>cv λq y=>cv λr D=>fe λw H=>Ju (hl.ev z q y rfl) (hr.nx z r D rfl) (λQ E L O U v u I ha hb q=>Ja I ha hb H z.B.u1 q) h
theorem ado (h:behindInMarks x.py b=ae)(hl:QE M kd sl l a)(hr:QE M kd sl r b):QT M kd sl (.cmp x l r) (.Compare a [x.py] [b] p):=
 λz=>Ar λq y=>Ar λr D=>uW λw H=>cH (Jv (hl.ev z q y rfl) (hr.nx z r D rfl) (λQ E L O U v u I ha hb q=>Ja I ha hb H z.B.u1 q) h)
theorem adp {neg:Bool}{u}{n}(h:u=if neg then .IsNot else .Is)(hl:QE M kd sl l a):QE M kd sl (.isNone neg l) (.Compare a [u] [.Constant .none n p] p'):=
 λz=>fe λq x=>ac2 h (hl.ev z q x rfl)
theorem adq {neg:Bool}{u}{n}(h:u=if neg then .IsNot else .Is)(hl:QE M kd sl l a):QT M kd sl (.isNone neg l) (.Compare a [u] [.Constant .none n p] p'):=
 λz=>uW λq x=>cH (ac3 h (hl.ev z q x rfl))
theorem ads (hl:QE M kd sl l a)(hr:QE M kd sl r b):QE M kd sl (.and l r) (.BoolOp .And [a,b] p):=
 λz=>As (λ_ u=>fe λq x=>YE (hl.ev z _ (rt u) rfl) (hr.nx z _ (rt x) rfl)) λ_ u=>cH (YF (hl.ev z _ (rt u) rfl))
theorem adt (hl:QE M kd sl l a)(hr:QE M kd sl r b):QE M kd sl (.or l r) (.BoolOp .Or [a,b] p):=
 λz=>As (λ_ u=>cH (YH (hl.ev z _ (rt u) rfl))) λ_ u=>fe λq x=>YG (hl.ev z _ (rt u) rfl) (hr.nx z _ (rt x) rfl)
theorem adu (hl:QT M kd sl l a)(hr:QT M kd sl r (rq .And b rest p)):QT M kd sl (.and l r) (.BoolOp .And (a::b::rest) p):=
 λz=>EN (λ_ u=>uW λq x=>cH (ac4 (hl z _ u) (hr.nx z x))) λ_ u=>cH (ac5 (hl z _ u))
theorem adv (hl:QT M kd sl l a)(hr:QT M kd sl r (rq .Or b rest p)):QT M kd sl (.or l r) (.BoolOp .Or (a::b::rest) p):=
 λz=>EN (λ_ u=>cH (ac7 (hl z _ u))) λ_ u=>uW λq x=>cH (ac6 (hl z _ u) (hr.nx z x))
theorem adw (hl:QE M kd sl l a):QE M kd sl (.not l) (.UnaryOp .Not a p):=λz=>fe λq u=>YI (hl.ev z (.v (.bool q.1),q.2) (rt u) rfl)
theorem adx (hl:QT M kd sl l a):QT M kd sl (.not l) (.UnaryOp .Not a p):=λz=>uW λq u=>cH (YJ (hl z q u))
theorem ady (x:QT M kd sl c' a)(y:QE M kd sl t b)(hf:QE M kd sl f c):QE M kd sl (.ite c' t f) (.IfExp a b c p):=
 λz=>As (λ_ u q e=>Jw (x z _ u) (y.nx z _ e rfl)) λ_ u q e=>Jw (x z _ u) (hf.nx z _ e rfl)
theorem adz (x:QT M kd sl c' a)(y:QT M kd sl t b)(hf:QT M kd sl f c):QT M kd sl (.ite c' t f) (.IfExp a b c p):=
 λz=>EN (λ_ u q e=>MS (x z _ u) (y.nx z e)) λ_ u q e=>MS (x z _ u) (hf.nx z e)
theorem adA (he:jS M kd sl es as):QE M kd sl (.tup es) (.Tuple as n p):=λz=>cv λq u=>fE λhl=>fe λy x=>Yz (he.2 z _ q u) x hl
theorem adB (he:jS M kd sl es as):QE M kd sl (.lst m es) (.List as p):=λz=>cv λq u y e=>YB (he.2 z _ q u) e
theorem adC {t}:QE M kd sl (.aU m t .nil .nil) (.Dict [] [] p):=λz y e=>aaS z.i e
theorem adD {m}{w}{v}{n1 q n3}{u x D H}:QE M kd sl (.aU m .strs (.cons (.tup (.cons (.cst (.str w.cps.toList)) .nil)) .nil) (.cons (.cst (.bool v)) .nil)) (.Dict [S (.Tuple [.Constant (.str w) n1 u] q x)] [.Constant (.bool v) n3 D] H):=λz y e=>aaT z.B.u1 z.i e
theorem adE {t}{it}{u}{q}(h:ro kd sl q t b c=ab)(x:kF M kd sl it b c)(he:QE M (fT q kd) (dP t b++sl) u a):QE M kd sl (.comp m t it u) (.ListComp a [⟨b,c,[],0⟩] q p):=
 λz y e=>Kk (MT z.B.hr.handled z.B.hk h (x.ok z.B) (λH D=>he.ok (z.B.with D)) z.ok z.i z.fr e)
theorem adF {t}{it}{u x}{q}{g}(h:ro kd sl q t b c=ab)(D:kF M kd sl it b c)(he:QE M (fT q kd) (dP t b++sl) u a)(H:QT M (fT q kd) (dP t b++sl) x g):QE M kd sl (.iT m t it x u) (.ListComp a [⟨b,c,[g],0⟩] q p):=
 λz y e=>Kk (MU z.B.hr.handled z.B.hk h (D.ok z.B) (λI L=>he.ok (z.B.with L)) (λI hk=>H.ok (z.B.with hk)) z.ok z.i z.fr e)
theorem adG {f}(h:jR kd f.nm=ab)(hn:notStar a=ab)(ha:QE M kd sl o a):QE M kd sl (.bf m f o) (.Call (.Name f.nm p) [a] [] p'):=
 λz=>cv λq u=>acR z.B.hr.handled z.B.u2 z.ok z.i (z.B.glob h) hn (ha.ev z q u rfl)
theorem adH {f}(h:pn a=ab/\as.length<30/\(p.endLine==p'.line)=ab)(u:QE M kd sl o a)(he:jS M kd sl es as):QE M kd sl (.da o f es) (.Call (.Attribute a f.nm p) as [] p'):=
 λz=>cv λq x=>fE λD=>cv λr H y e=>aax h.1 he.1 h.2.1 h.2.2 (u.ev z q x rfl) D (he.nx z H) λL O v Q I u hx=>aaJ I z.B.u1 u hx y e
theorem MX {f}(h:M.fns.lookup nm=S (M.fa f)/\jR kd nm=ab)(he:jS M kd sl es as):QE M kd sl (.call f es) (.Call (.Name nm p) as [] p'):=
 λz=>cv λq u y e=>MG (z.B.fn h.1 h.2 z.ok z.i) (z.B.MO.fns _ _ h.1).2.2 he.1 (he.2 z _ q u) (z.B.fj.code z.B.hr e)
theorem adI {f}(h:M.fns.lookup nm=S (M.fa f)/\jR kd nm=ab)(he:jS M kd sl es as):QT M kd sl (.call f es) (.Call (.Name nm p) as [] p'):=
 λz=>ac9 λq e b hb=>YD ((MX h he).ev z _ e hb) rfl
theorem adJ {c f}(h:M.ta.lookup (c,nm)=S (M.fa f)/\pn a=ab/\as.length<30/\(p.endLine==p'.line)=ab)(u:QE M kd sl o a)(he:jS M kd sl es as):QE M kd sl (.bN o c f es) (.Call (.Attribute a nm p) as [] p'):=
 λz=>cv λq x=>fE λD=>cv λr H y e=>BP (z.B.MO.ta _ _ _ h.1) λI L O Q U=>acP h.2.1 he.1 h.2.2.1 h.2.2.2 (u.ev z q x rfl) D I L O Q U (he.nx z H) (z.B.fj.code z.B.hr e)
theorem adK {c}(h:M.fns.lookup nm=S (M.cls c)/\jR kd nm=ab)(he:jS M kd sl es as):QE M kd sl (.new c es) (.Call (.Name nm p) as [] p'):=
 λz=>cv λq x y e=>by
  have u:=h.1
  rw[z.B.MO.cls]at u
  exact MG (z.B.fn u h.2 z.ok z.i) (z.B.MO.fns _ _ u).2.2 he.1 (he.2 z _ q x) (z.B.fj.ac8 z.B.hr e)
theorem adL:jS M kd sl .nil []:=⟨rfl,λz _=>cH (Yw z.i)⟩
theorem adM (h:notStar a=ab)(hx:QE M kd sl o a)(hr:jS M kd sl es as):jS M kd sl (.cons o es) (a::as):=
 ⟨by rw[Cp,h];rewrite[hr.1];rfl,λz _=>cv λq u=>fe λr x=>Yx (hx.ev z q u rfl) h (hr.nx z x)⟩
theorem adN (h:isNm b=ab)(hx:QE M kd sl o a):kF M kd sl (.of o) b a:=λz=>cv λq u=>lS λv x=>fe λD y=>JP z.B.hr.handled (hx.ev z q u x) y (.inl h)
theorem adO (hx:QE M kd sl o a):kF M kd sl (.hE o) b a:=λz=>cv λq u=>r9 λv x=>cH (JP z.B.hr.handled (hx.ev z q u x) rfl (.inr ⟨_,rfl⟩))
theorem adP (h:jR kd "range" =ab/\notStar a=ab/\isNm b=ab)(hx:QE M kd sl o a):kF M kd sl (.range o) b (.Call (.Name "range" p) [a] [] p'):=
 λz=>cv λq u=>vH λn hn=>fE λhl=>cH (Zg z.B.hr.handled z.ok z.i (z.B.glob h.1) h.2.1 (hx.ev z q u hn) hl.1 hl.2 h.2.2)
theorem adQ (h:jR kd "range" =ab/\notStar a=ab/\notStar c=ab/\isNm b=ab)(hx:QE M kd sl o a)(u:QE M kd sl k c):kF M kd sl (.rX o k) b (.Call (.Name "range" p) [a,c] [] p'):=
 λz=>cv λq x=>cv λr y=>vH λn hn=>vH λm hm=>fE λhl=>cH (Zh z.B.hr.handled z.ok z.i (z.B.glob h.1) h.2.1 h.2.2.1 (hx.ev z q x hn) (u.nx z r y hm) hl.1 hl.2.1 hl.2.2.1 hl.2.2.2 h.2.2.2)
theorem adR (h:jR kd "enumerate" =ab/\notStar a=ab)(hx:QE M kd sl o a):kF M kd sl (.enum o) (.Tuple ts n q) (.Call (.Name "enumerate" p) [a] [] p'):=
 λz=>cv λq u=>r9 λn hn=>fE λhl=>cH (Zi z.B.hr.handled z.ok z.i (z.B.glob h.1) h.2 (hx.ev z q u hn))
end
theorem MY (h:xn kd es=ab):∀x p,.Name x p∈es->kd x=S .local\/kd x=S .cell:=by
 intro x p hm
 have:=cF.mp h _ hm
 simpa using this
theorem SV.ghost {F W}{ι}{σ a c}{s}{env}{sl}{ρ'}{t}{k}(st:Step C F ι σ s.heap ι c s.heap)(hW:∀b,W b->F b)(h:SV C A F W env sl ι c s t k ρ' a):SV C A F W env sl ι σ s t k ρ' a:=
 λQ E q=>h Q E λf o r x u fr hf=>q f o r _ ((st.w W).trans u hW) fr hf
set_option genInjectivity false in
structure Zs (M:MC)(kd:Str->Option NameKind)(sl:SL) extends Zc M kd sl where
 W:aO->Prop
 hW:∀b,W b->F b
 so:∀x,(env.kindOf x=S .local\/env.kindOf x=S .cell)->ij env W x
 ds:iY sl
def QS (M:MC)(kd:Str->Option NameKind)(sl:SL)(m:fj)(st:PySem.Stmt):Prop:=∀z:Zs M kd sl,OB (qw z.cl m z.ρ z.σ) λp=>SV z.C z.A z.F z.W z.env sl z.ι z.σ z.s (exec st z.env) p.1 p.2.1 p.2.2
def kG (M:MC)(kd:Str->Option NameKind)(sl:SL)(m:Ss)(l:List PySem.Stmt):Prop:=∀z:Zs M kd sl,OB (aZ z.cl m z.ρ z.σ) λp=>SV z.C z.A z.F z.W z.env sl z.ι z.σ z.s (execs l z.env) p.1 p.2.1 p.2.2
def QC (M:MC)(kd:Str->Option NameKind)(sl:SL)(m:E)(ex:aI):Prop:=∀z:Zc M kd sl,OB (az z.cl m z.ρ z.σ) λp=>sP z.C z.A z.F z.env z.ι z.σ z.s ex p.1 p.2
section
variable {p p' EO:Pos} {a b c:aI} {x o k:E} {nm:Str} {es:Es} {as:List aI}
noncomputable def Zs.go (z:Zs M kd sl){r:Heap}{y:Nat}{q:Lay}{oz:Env}{u:Hp}(i:aL z.C z.F q u r)(fr:cx z.C r (NN z.F q u) q z.env sl oz):Zs M kd sl:=⟨⟨z.C,z.cl,z.d,z.A,z.env,z.B,z.F,z.ok,oz,u,upd z.s r y,q,i,fr⟩,z.W,z.hW,z.so,z.ds⟩
theorem kG.ok {m}{l}(h:kG M kd sl m l)(B:Bg C cl d M A env kd)(ds:iY sl):BodyOk C A env sl l λρ σ=>aZ cl m ρ σ:=
 λF W ok hW so ρ σ s ι q ρ' r i fr e=>h ⟨⟨C,cl,d,A,_,B,F,ok,ρ,σ,s,ι,i,fr⟩,W,hW,so,ds⟩ _ e
theorem Zs.MZ (z:Zs M kd sl){es}(h:xn kd es=ab):∀x p,.Name x p∈es->ij z.env z.W x:=λx p hm=>z.so x (by rw[z.B.hk _];exact MY h x p hm)
theorem adS {t}{it}{r}{q}(h:ro kd sl q t b c=ab)(u:kF M kd sl it b c)(he:QE M (fT q kd) (dP t b++sl) r a):QC M kd sl (.comp m t it r) (.ListComp a [⟨b,c,[],0⟩] q p):=
 λz _ e=>MT z.B.hr.handled z.B.hk h (u.ok z.B) (λD y=>he.ok (z.B.with y)) z.ok z.i z.fr e
theorem adT {t}{it}{r u}{q}{g}(h:ro kd sl q t b c=ab)(y:kF M kd sl it b c)(he:QE M (fT q kd) (dP t b++sl) r a)(D:QT M (fT q kd) (dP t b++sl) u g):QC M kd sl (.iT m t it u r) (.ListComp a [⟨b,c,[g],0⟩] q p):=
 λz _ e=>MU z.B.hr.handled z.B.hk h (y.ok z.B) (λH I=>he.ok (z.B.with I)) (λH hk=>D.ok (z.B.with hk)) z.ok z.i z.fr e
theorem Zs.loc (z:Zs M kd sl)(h:rp kd nm=ab):ij z.env z.W nm:=z.so nm (by rw[z.B.hk _];simpa [rp]using h)
theorem adU (h:sl.lookup nm=S j/\rp kd nm=ab/\wQ a=ae)(hx:QE M kd sl x a):QS M kd sl (.set j x) (.Assign [.Name nm p] a p'):=
 λz=>fe λq r=>Kn (hx.ev _ q r rfl) z.ok z.i z.fr z.ds h.1 (z.loc h.2.1) z.hW (Kl h.2.2)
theorem adV (h:sl.lookup nm=S j/\rp kd nm=ab)(hx:QE M kd sl x (.ListComp D gens r p))(I:QC M kd sl x (.ListComp D gens r p)):QS M kd sl (.set j x) (.Assign [.Name nm EO] (.ListComp D gens r p) p'):=
 λz=>fe λq H=>by
  have u:=aag (cp:=D) (gens:=gens) (scope:=r) (pos:=p) (py:=EO) (y:=nm) (line:=p'.line) z.ok.kind
  cases hb:Km _ r p nm _ with
  |true=>rw[hb]at u;exact aad (I _ q H) z.ok z.i z.fr z.ds h.1 (z.loc h.2) z.hW u
  |false=>rw[hb]at u;exact Kn (hx.ev _ q H rfl) z.ok z.i z.fr z.ds h.1 (z.loc h.2) z.hW u
theorem adW (h:sG sl as is=ab/\xn kd as=ab/\isTup a=ae)(hx:QE M kd sl x a):QS M kd sl (.mG is x) (.Assign [.Tuple as n p] a p'):=
 λz=>cv λq u=>UP λxs y=>fe λoz r=>aao z.B.hr.handled (hx.ev _ q u y) z.ok z.i z.fr z.ds h.1 (z.MZ h.2.1) z.hW r (by rw[Al r,aq _];rfl) (acf h.2.2)
def adX (kd:Str->Option NameKind)(as q:List aI)(is:List Nat):Bool:=Aj kd as q|| ((s9 as).any (Ey kd as q) &&decide is.Nodup&& (is.length==2||is.length==3))
theorem M0 {n:Nat}(h:n=2\/n=3):n<2^22:=by rcases h with rfl|rfl<;>decide
theorem adY {u}(h:sG sl as is=ab/\xn kd as=ab/\adX kd as u is=ab)(he:jS M kd sl es u):QS M kd sl (.qq is es) (.Assign [.Tuple as n p] (.Tuple u n' p') EO):=
 λz=>cv λq H=>fe λoz D=>by
 have hl:=Al D
 have r:=Kj.mp h.2.2
 refine acs z.B.hr.handled (he.2 _ _ q H) z.ok z.i z.fr z.ds h.1 (z.MZ h.2.1) z.hW D ?_ ?_
 . rcases r with r|r
   . unfold Aj at r
     simp only[fZ,lY,beq_iff_eq]at r
     have I:=(zc (env:=z.env) (qQ h.1)).2.2
     exact hl▸I▸M0 r.1.1.1
   . simp only[fZ,lY,beq_iff_eq]at r
     exact hl▸M0 r.2
 . rcases r with r|r
   . exact .inl (acj z.ok.kind z.B.hk r)
   . simp only[fZ,lY,beq_iff_eq,decide_eq_true_eq]at r
     refine au r λO L=>au O λQ U=>ah (Cs Q) λns Y y=> ?_
     obtain ⟨b1,b2,b3⟩:=aci z.ok.kind z.B.hk y
     exact .inr ⟨ns,b1,b3,U,L⟩
theorem adZ (hx:QE M kd sl x a)(u:QE M kd sl o b):QS M kd sl (.dy o f x) (.Assign [.Attribute b (M.fld f) p] a p'):=
 λz=>cv λq y=>cv λr D=>fe λI H=>by rw[z.B.MO.fld];exact aah (hx.ev _ q y rfl) (u.nx _ r D rfl) H z.ok z.i z.fr z.hW
theorem ad0 (hx:QE M kd sl x a)(u:QE M kd sl o b)(hk:QE M kd sl k c):QS M kd sl (.gm o k x) (.Assign [.Subscript b c p] a p'):=
 λz=>cv λq y=>cv λr D=>cv λt H=>lS λO I=>fe λQ L=>aam z.B.u1 (hx.ev _ q y rfl) (u.nx _ r D rfl) (hk.nx _ t H I) L z.ok z.i z.fr
theorem ad1 (h:wQ a=ae)(hx:QE M kd sl x a):QS M kd sl (.ex x) (.Expr a p):=λz=>fe λq r=>aap z.ok z.i z.fr (hx.ev _ q r rfl) h
theorem ad2 {bt bf}(r:QT M kd sl x a)(u:kG M kd sl t bt)(hf:kG M kd sl f bf):QS M kd sl (.ite x t f) (.If a bt bf p):=
 λz=>As (λ_ q y e=>J2 z.hW (r _ _ q) λ_ _ _ st=>u (z.go st.inv (z.fr.step z.ok z.i st)) y e) λ_ q y e=>J2 z.hW (r _ _ q) λ_ _ _ st=>hf (z.go st.inv (z.fr.step z.ok z.i st)) y e
theorem ad3 (h:oy sl t a=ab/\xn kd (qR a)=ab/\isSet b=ae)(r:kF M kd sl it a b)(hb:kG M kd sl m body):QS M kd sl (.cq t it m) (.For a b body [] p):=
 λz=>cv λq u y e=>Zn z.B.hr.handled z.ds (hb.ok z.B z.ds) z.ok z.hW z.so h.1 (λx p hm=>by rw[z.B.hk _];exact MY h.2.1 x p hm) (r _ q u) z.fr z.i e (EI h.2.2)
theorem ad4 (q:QT M kd sl x a)(hb:kG M kd sl m body):QS M kd sl (.mH x m) (.While a body [] p):=
 λz _ e=>Zp (q.ok z.B) (hb.ok z.B z.ds) z.ok z.hW z.so z.fr z.i e
theorem ad5 (hx:QE M kd sl x a):QS M kd sl (.ret x) (.Return (S a) p):=λz=>fe λq r=>Zr z.ok z.i z.fr (hx.ev _ q r rfl)
theorem ad6 {st}:QS M kd sl .raise st:=λz=>fX
theorem ad7:kG M kd sl .nil []:=λz=>cH (Zv z.i z.fr)
theorem ad8 {st}{l}(u:QS M kd sl m st)(hr:kG M kd sl r l):kG M kd sl (.cons m r) (st::l):=
 λz=>ada (λ_ q y e=>Zt z.hW (u z _ q) λ_ _ _ st fr=>hr (z.go st.inv fr) y e) λ_ _ q=>cH (Zu (u z _ q))
theorem ad9 {h}{y}{v}(i:aL C F ι σ h)(H:fz FZ σ y=S (v,bk)):Step C F ι σ h ι bk h/\∀u,XR C h (NN F ι σ) ι y u->VR C h (NN F ι bk) v u:=by
 cases y with
 |v a=>
  cases H
  exact⟨.refl i,λu D=>D⟩
 |ref n=>
  by_cases r:∃p,ι[n]?=S p
  . revert r;intro O;refine ao O λp r=> ?_;have:=Dh FZ H i ⟨p,r,rfl⟩
    refine⟨this.1,λu D=>ah D λq I O=> ?_⟩;clear D;subst O
    rw[r]at I;cases I
    exact this.2
  . refine kr H λc L _=> ?_
    rw[(by
     have:ι[n]?=none:=by
      cases q:ι[n]? with
      |none=>rfl
      |some p=>exact absurd ⟨p,q⟩ r
     rw[DC]at this ⊢
     exact Zrr i.len.symm this:σ[n]?=J)]at L;exact aD L
theorem aea {r}{l}(hr:kG M kd sl r l):kG M kd sl (.cons (.iw j) r) l:=
 λz=>Ar λw q=>uW λv u y e=>have key:=ad9 z.i u;.ghost key.1 z.hW (hr (z.go key.1.inv (aau z.fr key.1 q key.2)) y e)
end
noncomputable def d8 {P Q:Prop} [Decidable P](h:P->Q):Option (PLift Q):=if q:P then S ⟨h q⟩else J
set_option genInjectivity false in
structure Mt (M:MC) where
 e:(kd:Str->Option NameKind)->(sl:SL)->(m:E)->(e:aI)->Option (PLift (QE M kd sl m e))
 t:(kd:Str->Option NameKind)->(sl:SL)->(m:E)->(e:aI)->Option (PLift (QT M kd sl m e))
 l:(kd:Str->Option NameKind)->(sl:SL)->(m:Es)->(e:List aI)->Option (PLift (jS M kd sl m e))
 i:(kd:Str->Option NameKind)->(sl:SL)->(m:It)->(t e:aI)->Option (PLift (kF M kd sl m t e))
def mE {M:MC}(R:Mt M)(kd:Str->Option NameKind)(sl:SL)(m:E)(e:aI):Option (PLift (QE M kd sl m e)):=match m with
 | .var i=>(oe e).bind λ⟨p,q⟩=>d8 λh=>q▸ade h
 | .cst a=>(acS a e).map λh=>⟨adf h.1⟩
 | .glob g=>(oe e).bind λ⟨p,q⟩=>d8 λ(h:p.1=M.jQ g/\jR kd (M.jQ g)=ab)=>q▸h.1▸adg h.2
 | .attr o f=>(B5 e).bind λ⟨p,q⟩=>(R.e kd sl o p.1).bind λu=>d8 λ(h:p.2.1=M.fld f/\pn p.1=ab)=>q▸h.1▸adh h.2 u.1
 | .idx o k=>(B6 e).bind λ⟨p,q⟩=>(R.e kd sl o p.1).bind λu=>(R.e kd sl k p.2.1).bind λhk=>d8 λh=>q▸adi h u.1 hk.1
 | .kQ o k=>(acV e).bind λ⟨p,q⟩=>(R.e kd sl o p.1).bind λu=>(R.e kd sl k p.2.1).map λhk=>⟨q▸adj u.1 hk.1⟩
 | .vy o k=>(acW e).bind λ⟨p,q⟩=>(R.e kd sl o p.1).bind λu=>(R.e kd sl k p.2.1).map λhk=>⟨q▸adk u.1 hk.1⟩
 | .bin m y l r=>(WA e).bind λ⟨p,q⟩=>(R.e kd sl l p.1).bind λhl=>(R.e kd sl r p.2.2.1).bind λhr=>d8 λ(h:p.2.1=y.py)=>q▸h▸adm hl.1 hr.1
 | .cmp y l r=>(EE e).bind λ⟨p,q⟩=>(R.e kd sl l p.1).bind λhl=>(R.e kd sl r p.2.2.1).bind λhr=>d8 λ(h:p.2.1=y.py/\behindInMarks y.py p.2.2.1=ae)=>q▸h.1▸adn h.2 hl.1 hr.1
 | .isNone neg l=>(MI e).bind λ⟨p,q⟩=>(R.e kd sl l p.1).bind λhl=>d8 λh=>q▸adp h hl.1
 | .and l r=>(Aq .And e).bind λ⟨p,q⟩=>(R.e kd sl l p.1).bind λhl=>(R.e kd sl r p.2.1).bind λhr=>(nl p.2.2.1).map λh=>⟨by(rw[q,h.1]);exact ads hl.1 hr.1⟩
 | .or l r=>(Aq .Or e).bind λ⟨p,q⟩=>(R.e kd sl l p.1).bind λhl=>(R.e kd sl r p.2.1).bind λhr=>(nl p.2.2.1).map λh=>⟨by(rw[q,h.1]);exact adt hl.1 hr.1⟩
 | .not l=>(ML e).bind λ⟨p,q⟩=>(R.e kd sl l p.1).map λhl=>⟨q▸adw hl.1⟩
 | .ite c t f=>(Iv e).bind λ⟨p,q⟩=>(R.t kd sl c p.1).bind λY=>(R.e kd sl t p.2.1).bind λht=>(R.e kd sl f p.2.2.1).map λhf=>⟨q▸ady Y.1 ht.1 hf.1⟩
 | .tup es=>(qz e).bind λ⟨p,q⟩=>(R.l kd sl es p.1).map λhe=>⟨q▸adA he.1⟩
 | .lst m es=>(WC e).bind λ⟨p,q⟩=>(R.l kd sl es p.1).map λhe=>⟨q▸adB he.1⟩
 | .aU m t D H=>((MP D).bind λI=>(MP H).bind λL=>(vD0 e).map λ⟨p,q⟩=>(⟨by(rw[q,I.1,L.1]);exact adC⟩:PLift (QE M kd sl (.aU m t D H) e)))<|>
  ((vD1 e).bind λ⟨p,q⟩=>(EG D).bind λ⟨k,I⟩=>(acZ k).bind λ⟨k',L⟩=>(EG k').bind λ⟨O,h3⟩=>(acX O).bind λ⟨w,h4⟩=>(EG H).bind λ⟨v,h5⟩=>(acY v).bind λ⟨b,h6⟩=>
   d8 λ(h:t= .strs/\w=p.1.1.cps.toList/\b=p.2.1.1)=>by rw[q,I,L,h3,h4,h5,h6,h.1,h.2.1,h.2.2];exact adD)
 | .comp m t it Q=>(MM e).bind λ⟨p,q⟩=>(R.i kd sl it p.2.1 p.2.2.1).bind λU=>(R.e (fT p.2.2.2.1 kd) (dP t p.2.1++sl) Q p.1).bind λhe=>d8 λh=>q▸adE h U.1 he.1
 | .iT m t it c Q=>(MN e).bind λ⟨p,q⟩=>(R.i kd sl it p.2.1 p.2.2.1).bind λU=>(R.e (fT p.2.2.2.2.1 kd) (dP t p.2.1++sl) Q p.1).bind λhe=>(R.t (fT p.2.2.2.2.1 kd) (dP t p.2.1++sl) c p.2.2.2.1).bind λhg=>d8 λh=>q▸adF h U.1 he.1 hg.1
 | .bf m f x=>(EF e).bind λ⟨p,q⟩=>(R.e kd sl x p.2.2.1).bind λhx=>d8 λ(h:p.1=f.nm/\jR kd f.nm=ab/\notStar p.2.2.1=ab)=>q▸h.1▸adG h.2.1 h.2.2 hx.1
 | .da o f es=>(MH e).bind λ⟨p,q⟩=>(R.e kd sl o p.1).bind λu=>(R.l kd sl es p.2.2.2.1).bind λhe=>d8 λ(h:p.2.1=f.nm/\pn p.1=ab/\p.2.2.2.1.length<30/\(p.2.2.1.endLine==p.2.2.2.2.line)=ab)=>q▸h.1▸adH h.2 u.1 he.1
 | .call f es=>(xo e).bind λ⟨p,q⟩=>(R.l kd sl es p.2.2.1).bind λhe=>d8 λh=>q▸MX h he.1
 | .bN o c f es=>(MH e).bind λ⟨p,q⟩=>(R.e kd sl o p.1).bind λu=>(R.l kd sl es p.2.2.2.1).bind λhe=>d8 λh=>q▸adJ h u.1 he.1
 | .new c es=>(xo e).bind λ⟨p,q⟩=>(R.l kd sl es p.2.2.1).bind λhe=>d8 λh=>q▸adK h he.1
def mT {M:MC}(R:Mt M)(kd:Str->Option NameKind)(sl:SL)(m:E)(e:aI):Option (PLift (QT M kd sl m e)):=match m with
 | .not l=>(ML e).bind λ⟨p,a⟩=>(R.t kd sl l p.1).map λhl=>⟨a▸adx hl.1⟩
 | .and l r=>(Aq .And e).bind λ⟨p,a⟩=>(R.t kd sl l p.1).bind λhl=>(R.t kd sl r (rq .And p.2.1 p.2.2.1 p.2.2.2)).map λhr=>⟨a▸adu hl.1 hr.1⟩
 | .or l r=>(Aq .Or e).bind λ⟨p,a⟩=>(R.t kd sl l p.1).bind λhl=>(R.t kd sl r (rq .Or p.2.1 p.2.2.1 p.2.2.2)).map λhr=>⟨a▸adv hl.1 hr.1⟩
 | .ite c t f=>(Iv e).bind λ⟨p,a⟩=>(R.t kd sl c p.1).bind λk=>(R.t kd sl t p.2.1).bind λo=>(R.t kd sl f p.2.2.1).map λhf=>⟨a▸adz k.1 o.1 hf.1⟩
 | .cmp b l r=>(EE e).bind λ⟨p,a⟩=>(R.e kd sl l p.1).bind λhl=>(R.e kd sl r p.2.2.1).bind λhr=>d8 λ(h:p.2.1=b.py/\behindInMarks b.py p.2.2.1=ae)=>a▸h.1▸ado h.2 hl.1 hr.1
 | .isNone neg l=>(MI e).bind λ⟨p,a⟩=>(R.e kd sl l p.1).bind λhl=>d8 λh=>a▸adq h hl.1
 | .call f es=>(xo e).bind λ⟨p,a⟩=>(R.l kd sl es p.2.2.1).bind λhe=>d8 λh=>a▸adI h he.1
 |_=>J
def mEs {M:MC}(R:Mt M)(kd:Str->Option NameKind)(sl:SL)(m:Es)(es:List aI):Option (PLift (jS M kd sl m es)):=match m with
 | .nil=>match es with
  | []=>S ⟨adL⟩
  |_::_=>J
 | .cons x r=>match es with
  | []=>J
  |e::es=>(R.e kd sl x e).bind λhx=>(R.l kd sl r es).bind λhr=>d8 λh=>adM h hx.1 hr.1
def mIt {M:MC}(R:Mt M)(kd:Str->Option NameKind)(sl:SL)(m:It)(t e:aI):Option (PLift (kF M kd sl m t e)):=match m with
 | .of x=>(R.e kd sl x e).bind λhx=>d8 λh=>adN h hx.1
 | .hE x=>(R.e kd sl x e).map λhx=>⟨adO hx.1⟩
 | .range x=>(EF e).bind λ⟨p,a⟩=>(R.e kd sl x p.2.2.1).bind λhx=>d8 λ(h:p.1= "range" /\jR kd "range" =ab/\notStar p.2.2.1=ab/\isNm t=ab)=>a▸h.1▸adP h.2 hx.1
 | .rX x y=>(acU e).bind λ⟨p,a⟩=>(R.e kd sl x p.2.2.1).bind λhx=>(R.e kd sl y p.2.2.2.1).bind λb=>d8 λ(h:p.1= "range" /\jR kd "range" =ab/\notStar p.2.2.1=ab/\notStar p.2.2.2.1=ab/\isNm t=ab)=>a▸h.1▸adQ h.2 hx.1 b.1
 | .enum x=>(EF e).bind λ⟨p,a⟩=>(qz t).bind λ⟨q,c⟩=>(R.e kd sl x p.2.2.1).bind λhx=>d8 λ(h:p.1= "enumerate" /\jR kd "enumerate" =ab/\notStar p.2.2.1=ab)=>a▸c▸h.1▸adR h.2 hx.1
noncomputable def xt (M:MC):Nat->Mt M
 |0=>⟨λ_ _ _ _=>J,λ_ _ _ _=>J,λ_ _ _ _=>J,λ_ _ _ _ _=>J⟩
 |n+1=>⟨mE (xt M n),mT (xt M n),mEs (xt M n),mIt (xt M n)⟩
noncomputable def aeb (m:fj):Option {j:Nat//m= .iw j}:=match m with
 | .iw j=>S ⟨j,rfl⟩
 |_=>J
def mC {M:MC}(R:Mt M)(kd:Str->Option NameKind)(sl:SL)(m:E)(e:aI):Option (PLift (QC M kd sl m e)):=match m with
 | .comp m t it a=>(MM e).bind λ⟨p,b⟩=>(R.i kd sl it p.2.1 p.2.2.1).bind λk=>(R.e (fT p.2.2.2.1 kd) (dP t p.2.1++sl) a p.1).bind λhe=>d8 λh=>b▸adS h k.1 he.1
 | .iT m t it c a=>(MN e).bind λ⟨p,b⟩=>(R.i kd sl it p.2.1 p.2.2.1).bind λk=>(R.e (fT p.2.2.2.2.1 kd) (dP t p.2.1++sl) a p.1).bind λhe=>(R.t (fT p.2.2.2.2.1 kd) (dP t p.2.1++sl) c p.2.2.2.1).bind λo=>d8 λh=>b▸adT h k.1 he.1 o.1
 |_=>J
def mS {M:MC}(R:Mt M)(kd:Str->Option NameKind)(sl:SL)(rec:(m:Ss)->(l:List PySem.Stmt)->Option (PLift (kG M kd sl m l)))(m:fj)(s:PySem.Stmt):Option (PLift (QS M kd sl m s)):=match m with
 | .set i x=>(xp s).bind λ⟨p,r⟩=>(oe p.1).bind λ⟨y,L⟩=>(R.e kd sl x p.2.1).bind λhx=>
  (d8 λ(h:sl.lookup y.1=S i/\rp kd y.1=ab/\wQ p.2.1=ae)=>(by(rw[r,L]);exact adU h hx.1:QS M kd sl (.set i x) s))<|>
  ((Iy p.2.1).bind λ⟨q,H⟩=>(mC R kd sl x p.2.1).bind λu=>d8 λ(h:sl.lookup y.1=S i/\rp kd y.1=ab)=>by rw[r,L,H];exact adV h (H▸hx.1) (H▸u.1))
 | .mG is x=>(xp s).bind λ⟨p,r⟩=>(qz p.1).bind λ⟨t,D⟩=>(R.e kd sl x p.2.1).bind λhx=>d8 λh=>by rw[r,D];exact adW h hx.1
 | .qq is es=>(xp s).bind λ⟨p,r⟩=>(qz p.1).bind λ⟨t,D⟩=>(qz p.2.1).bind λ⟨v,O⟩=>(R.l kd sl es v.1).bind λhe=>d8 λh=>by rw[r,D,O];exact adY h he.1
 | .dy o f x=>(xp s).bind λ⟨p,r⟩=>(B5 p.1).bind λ⟨a,ha⟩=>(R.e kd sl x p.2.1).bind λhx=>(R.e kd sl o a.1).bind λI=>d8 λ(h:a.2.1=M.fld f)=>by rw[r,ha,h];exact adZ hx.1 I.1
 | .gm o k x=>(xp s).bind λ⟨p,r⟩=>(B6 p.1).bind λ⟨a,ha⟩=>(R.e kd sl x p.2.1).bind λhx=>(R.e kd sl o a.1).bind λI=>(R.e kd sl k a.2.1).map λhk=>⟨by(rw[r,ha]);exact ad0 hx.1 I.1 hk.1⟩
 | .ex x=>(WE s).bind λ⟨p,r⟩=>(R.e kd sl x p.1).bind λhx=>d8 λh=>r▸ad1 h hx.1
 | .ite c t f=>(WG s).bind λ⟨p,r⟩=>(R.t kd sl c p.1).bind λu=>(rec t p.2.1).bind λD=>(rec f p.2.2.1).map λhf=>⟨r▸ad2 u.1 D.1 hf.1⟩
 | .cq t it b=>(WH s).bind λ⟨p,r⟩=>(nl p.2.2.2.1).bind λhn=>(R.i kd sl it p.1 p.2.1).bind λQ=>(rec b p.2.2.1).bind λhb=>d8 λh=>by rw[r,hn.1];exact ad3 h Q.1 hb.1
 | .mH c b=>(WI s).bind λ⟨p,r⟩=>(nl p.2.2.1).bind λhn=>(R.t kd sl c p.1).bind λu=>(rec b p.2.1).map λhb=>⟨by(rw[r,hn.1]);exact ad4 u.1 hb.1⟩
 | .ret x=>(WJ s).bind λ⟨p,r⟩=>match h:p.1 with
  |none=>J
  |some e=>(R.e kd sl x e).map λhx=>⟨by(rw[r,h]);exact ad5 hx.1⟩
 | .raise=>S ⟨ad6⟩
 | .iw _=>J
noncomputable def Au {M:MC}(R:Mt M)(kd:Str->Option NameKind)(sl:SL):Nat->(m:Ss)->(l:List PySem.Stmt)->Option (PLift (kG M kd sl m l))
 |0=>λ_ _=>J
 |n+1=>λm l=>match m with
  | .nil=>match l with
   | []=>S ⟨ad7⟩
   |_::_=>J
  | .cons x r=>match aeb x with
   |some ⟨j,a⟩=>(Au R kd sl n r l).map λhr=>⟨a▸aea hr.1⟩
   |none=>match l with
    | []=>J
    |s::l=>(mS R kd sl (Au R kd sl n) x s).bind λb=>(Au R kd sl n r l).map λhr=>⟨ad8 b.1 hr.1⟩
def EP (M:MC)(kd:Str->Option NameKind)(sl:SL)(m:Ss)(l:List PySem.Stmt):Option (PLift (kG M kd sl m l)):=Au (xt M 40) kd sl 80 m l
theorem aec (P):∀d,(aQ P d).fk=P.fk:=by
 intro a
 induction a with
 |zero=>
  exact rfl
 |succ b _=>
  exact rfl
theorem aed {p:Prop}{o:Option (PLift p)}(h:o.isSome=ab):p:=(o.get h).1
theorem sound (K:EC C P D)(MO:EJ C M P.fk)(a:M.fa=D.fa)
 (hm:∀f fn,P.fns[f]?=S fn->(EP M ((D.fd f).scope.names.lookup ·) (D.sl f) fn.body (D.body f)).isSome=ab):∀d,rj C (aQ P d) D.fa d:=by
 intro b
 induction b with
 |zero=>
  exact⟨λA _ f as σ x c e=>aD e,λA _ f as σ x c e=>aD e⟩
 |succ d k=>
  exact acO K λf fn hf A env hr hk=>(aed (hm f fn hf)).ok ⟨a▸k,by rw[aec _ _];exact MO,hr,hk⟩ (K.fns f fn hf).dist
noncomputable def aee (scope:Scope)(a:Nat)(ns:List Str)(sl:SL):Bool:=
 sl.all λp=>(scope.names.lookup p.1==S .local||scope.names.lookup p.1==S .cell) && (decide (a<=p.2)||ns[p.2]?==S p.1)
noncomputable def M1:Data->Option FuncData
 | .func fd=>S fd
 |_=>J
noncomputable def ER:Data->Option (List Value)
 | .seq a _=>S a.toList
 |_=>J
theorem aef (h:M1 d=S fd):d= .func fd:=by cases d<;>(first|exact aD h|cases h);rfl
theorem M3 (h:ER d=S l):∃arr n,d= .seq arr n/\l=arr.toList:=by cases d<;>(first|exact aD h|cases h);exact⟨_,_,rfl,rfl⟩
noncomputable def M4:Value->Option String
 | .type c=>S c
 |_=>J
theorem aeg (h:M4 v=S c):v= .type c:=by cases v<;>(first|exact aD h|cases h);rfl
def ES (K:Frag)(a:aO):Option FuncData:=(K.lookup a).bind λo=>M1 o.data
def Av (K:Frag)(a:aO):Option (List Value):=(K.lookup a).bind λo=>ER o.data
def fdOf (K:Frag)(a:aO):FuncData:=(ES K a).getD default
def bodyOf (K:Frag)(a:aO):List PySem.Stmt:=match(fdOf K a).body with
 | .stmts b=>b
 |_=> []
def itemsOf (K:Frag)(a:aO):List Value:=match(fdOf K a).defaults with
 | .ref T=>(Av K T).getD []
 |_=> []
def Aw (K:Frag)(a:aO):List Str:=(fdOf K a).params.args.map (·.arg)
def ET (K:Frag)(M:MC)(fn:Fn)(a:aO)(sl:SL):Bool:=
 (ES K a).any λfd=>decide (
  codeIn K fd.code fd.qualname=ab/\fd.closure.isEmpty=ab/\fd.globals=mainGlobals/\fd.builtins=builtinsNs/\fd.scope.isCoroutine=ae/\fd.scope.isGenerator=ae/\(fd.scope.kind== .function)=ab/\
  fd.params.posonlyargs.isEmpty=ab/\fd.params.kwonlyargs.isEmpty=ab/\fd.params.vararg.isNone=ab/\fd.params.kwarg.isNone=ab/\
  (fd.params.args.map (·.arg)).Nodup/\(fd.params.args.map (·.arg)).length=fn.lM/\
  (fd.params.args.map (·.arg)).all (λx=>fd.scope.names.lookup x==S .local||fd.scope.names.lookup x==S .cell)=ab/\
  (match fd.defaults with| .none=>fn.defs.isEmpty| .ref T=>(Av K T).any (uU fn.defs)|_=>ae)=ab/\
  fn.defs.length<=fn.lM/\aee fd.scope fn.lM (fd.params.args.map (·.arg)) sl=ab/\ED sl=ab/\
  (match fd.body with| .stmts b=>(EP M (λx=>fd.scope.names.lookup x) sl fn.body b).isSome|_=>ae)=ab)
theorem Ax {a:Type}{l:List a}(h:l.isEmpty=ab):l= []:=Zk.mp h
theorem none_of {a:Type}{o:Option a}(h:o.isNone=ab):o=none:=C2.mp h
set_option tactic.hygienic true in
theorem M5 {M}{fn}{a}{sl}(h:ET C.K M fn a sl=ab):
 FnAt C fn a (fdOf C.K a) (Aw C.K a) (bodyOf C.K a) sl (itemsOf C.K a)/\(EP M (λx=>(fdOf C.K a).scope.names.lookup x) sl fn.body (bodyOf C.K a)).isSome=true:=by
 refine ah ((uT ..).mp h) λfd u h=> ?_
 have c:fdOf C.K a=fd:=by show(ES _ a).getD _=fd;rw[u];rfl
 refine kr u λO D k=> ?_;obtain ⟨H,I,Y,EA⟩:=O
 cases aef k
 have h:=of_decide_eq_true h
 have b:=h.2.2.2.2.2.2.2.2.2.2.2.2.2.2.1
 have r:=h.2.2.2.2.2.2.2.2.2.2.2.2.2.2.2.2.2.2
 cases hb:fd.body<;>rw[hb]at r<;>try exact bT r
 next body=>
 rw[c,(by unfold bodyOf;rw[c];rw[hb];rfl:bodyOf _ a=body)];refine Zrr (by unfold Aw;rw[c];rfl:Aw _ a=fd.params.args.map _) ⟨{obj:=⟨H,I,_,D⟩,cd:=h.1,body:=hb,Mp:=Ax h.2.1,glob:=h.2.2.1,blt:=h.2.2.2.1,co:=h.2.2.2.2.1,gen:=h.2.2.2.2.2.1,kind:=eq_of_beq h.2.2.2.2.2.2.1,simple:=⟨Ax h.2.2.2.2.2.2.2.1,Ax h.2.2.2.2.2.2.2.2.1,none_of h.2.2.2.2.2.2.2.2.2.1,none_of h.2.2.2.2.2.2.2.2.2.2.1,rfl,h.2.2.2.2.2.2.2.2.2.2.2.1⟩,len:=h.2.2.2.2.2.2.2.2.2.2.2.2.1,kinds:= ?_,dflt:= ?_,defs:= ?_,Mq:=h.2.2.2.2.2.2.2.2.2.2.2.2.2.2.2.1,slots:= ?_,dist:=EH h.2.2.2.2.2.2.2.2.2.2.2.2.2.2.2.2.2.1},r⟩
 . intro x hx
   have:=cF.mp h.2.2.2.2.2.2.2.2.2.2.2.2.2.1 x hx
   simpa using this
 . unfold itemsOf
   rw[c]
   cases k:fd.defaults<;>rw[k]at b<;>try exact bT b
   . exact .inl ⟨rfl,rfl⟩
   next T=>
    refine ah ((uT ..).mp b) λl hl b=>kr hl λo L Q=>dh (M3 Q) λarr n q1 q2=> .inr ⟨T,o,arr,n,rfl,L,q1,?_⟩
    show(Av C.K T).getD []=_
    exact Zrr hl q2
 . unfold itemsOf
   rw[c]
   cases k:fd.defaults<;>rw[k]at b<;>try exact bT b
   . have:=Ax b
     rw[this];rfl
   next T=>
    refine ah ((uT ..).mp b) λl hl b=> ?_
    show uU fn.defs ((Av C.K T).getD [])=ab
    exact Zrr hl b
 . intro x i hx
   have:=cF.mp h.2.2.2.2.2.2.2.2.2.2.2.2.2.2.2.2.1 _ (mem_of_lookup hx)
   simp only[fZ,lY,beq_iff_eq]at this
   refine⟨this.1,λy hi U=> ?_⟩
   rcases this.2 with q|q
   . lia
   . rw[U]at q;exact(je q).symm
def aeh (K:Frag)(a:List aO)(b:List SL):My where
 fa:=λf=>a.getD f 0
 fd:=λf=>fdOf K (a.getD f 0)
 ns:=λf=>Aw K (a.getD f 0)
 body:=λf=>bodyOf K (a.getD f 0)
 sl:=λf=>b.getD f []
 items:=λf=>itemsOf K (a.getD f 0)
noncomputable def Ay (K:Frag)(M:MC):List Fn->List aO->List SL->Bool
 | [],_,_=>ab
 |fn::r,a,b=>ET K M fn (a.headD 0) (b.headD []) &&Ay K M r a.tail b.tail
theorem aei {K}{M}:∀ {fns:List Fn} {b:List _} {c:List SL} {f:Nat} {fn:Fn},Ay K M fns b c=ab->fns[f]?=S fn->ET K M fn (b.getD f 0) (c.getD f [])=true:=by
 intro k
 induction k with
 |nil=>exact λ_ h=>nomatch h
 |cons g r o=>
  intro b c f fn h hf
  have a:=dF.mp h
  cases f with
  |zero=>
   cases hf
   have:=a.1
   cases b<;>cases c<;>exact this
  |succ f=>
   have:=o a.2 hf
   cases b<;>cases c<;>exact this
noncomputable def Az (K:Frag)(cls:Nat->aO)(fa:Nat->aO):Nat->List Nat->Bool
 |_,[]=>ab
 |c,f::r=>findIn K (.ref (cls c)) "__init__" ==S (S (.ref (fa f))) &&typeIn K (.ref (fa f))==S (.type "function") &&makesIn K (cls c) &&Az K cls fa (c+1) r
theorem aej {K}{cls fa}:∀ {l:List _} {c j f:Nat},Az K cls fa c l=ab->l[j]?=S f->
 findIn K (.ref (cls (c+j))) "__init__" =S (S (.ref (fa f)))/\typeIn K (.ref (fa f))=S (.type "function")/\makesIn K (cls (c+j))=true:=by
 intro k
 induction k with
 |nil=>exact λ_ h=>nomatch h
 |cons g r o=>
  intro c j f h hf
  have a:=dF.mp h
  cases j with
  |zero=>
   cases hf
   exact have a:=dF.mp a.1;have b:=dF.mp a.1;⟨eq_of_beq b.1,eq_of_beq b.2,a.2⟩
  |succ j=>
   have:=o a.2 hf
   rwa[EW]at this
noncomputable def EX (K:Frag)(l:List (Str×aO)):Bool:=l.all λp=>nsIn K mainGlobals p.1==S (S (.ref p.2)) && !(p.1==("__debug__" :Str)) &&keepIn K (.ref p.2)
def EY (K:Frag)(cls:Nat->aO)(fld:Nat->Str)(l:List ((Nat×Str)×aO)):Bool:=
 l.all λp=>decide (p.1.1<6) &&findIn K (.ref (cls p.1.1)) p.1.2==S (S (.ref p.2)) &&typeIn K (.ref p.2)==S (.type "function") && (List.range 27).all (λf=> !(hJ p.1.1 f)||fld f !=p.1.2) &&keepIn K (.ref p.2)
noncomputable def EZ:V->Value->Bool
 | .int i,.int j _=>i==j
 | .str l,.str x _=>x.cps.toList==l
 |_,_=>ae
noncomputable def E0:List V->List Value->Bool
 | [],[]=>ab
 |a::r,v::q=>EZ a v&&E0 r q
 |_,_=>ae
def aek (xs:List V)(o:Obj):Bool:=M4 o.cls==S "tuple" &&o.dict.isNone&&o.slots.isEmpty&& (ER o.data).any (E0 xs)
def E3 (K:Frag)(a:V)(v:Value):Bool:=match a with
 | .tup xs=>match v with
  | .ref a=>(K.lookup a).any (aek xs)
  |_=>ae
 |a=>EZ a v
noncomputable def xw (K:Frag)(jQ:Nat->Str):Nat->List V->Bool
 |_,[]=>ab
 |g,a::r=> !(jQ g==("__debug__" :Str)) && (nsIn K mainGlobals (jQ g)).join.any (E3 K a) &&xw K jQ (g+1) r
theorem M7 {a}{v}(e:EZ a v=ab):VR C h N a v:=by
 cases a with
 |int i=>cases v with
  |int j t=>cases eq_of_beq e;exact⟨t,rfl⟩
  |_=>exact bT e
 |str l=>cases v with
  |str x t=>cases eq_of_beq e;exact⟨t,rfl⟩
  |_=>exact bT e
 |_=>exact bT e
theorem ael:∀ {xs:List V} {b:List _},E0 xs b=ab->bI C h N xs b:=by
 intro c
 induction c with
 |nil=>
  intro b e
  cases b with
  |nil=>rfl
  |cons _ _=>exact bT e
 |cons a r k=>
  intro b e
  cases b with
  |nil=>exact bT e
  |cons v q=>exact⟨v,q,rfl,M7 (dF.mp e).1,k (dF.mp e).2⟩
theorem aem {N}(k:∀b o,C.h₀.get? b=S o->h.get? b=S o)(n:∀b o,C.h₀.get? b=S o->¬N b){a}{v}(e:E3 C.K a v=ab):VR C h N a v:=by
 cases a with
 |tup xs=>
  cases v with
  |ref a=>
   refine ah ((uT ..).mp e) λo u e=> ?_
   obtain ⟨I,L,Q,sl⟩:=o
   have c:=dF.mp e
   have q:=dF.mp c.1
   have r:=dF.mp q.1
   have x:=Cj.mp q.2
   have y:=C2.mp r.2
   subst x y
   cases aeg (eq_of_beq r.1)
   refine ah ((uT ..).mp c.2) λl hl D=>dh (M3 hl) λarr m O H=> ?_;subst O;subst H
   exact have h0:=C.X _ _ u;⟨a,_,_,rfl,n _ _ h0,k _ _ h0,ael D⟩
  |_=>exact bT e
 |_=>exact M7 e
theorem aen:∀ {l:List V} {g j:Nat} {a:V},xw C.K jQ g l=ab->l[j]?=S a->
 (jQ (g+j)== "__debug__")=ae/\∃v,nsIn C.K mainGlobals (jQ (g+j))=S (S v)/\E3 C.K a v=true:=by
 intro k
 induction k with
 |nil=>exact λ_ h=>nomatch h
 |cons b r o=>
  intro g j a h hf
  have z:=dF.mp h
  cases j with
  |zero=>
   cases hf
   exact have c:=dF.mp z.1;ah ((uT ..).mp c.2) λv q u=>⟨(oE _).mp c.1,v,Option.join_eq_some_iff.mp q,u⟩
  |succ j=>
   have:=o z.2 hf
   rwa[EW]at this
theorem aeo {P:Prog}(u:EX C.K M.fns=ab)(y:EY C.K C.cls C.fld M.ta=ab)(D:xw C.K M.jQ 0 P.fk=ab)(H:M.fld=C.fld)(I:M.cls=C.cls)(L:∀f,27<=f->∀c,hJ c f=ae):EJ C M P.fk where
 fns:=λx a hx=>by
  have:=cF.mp u _ (mem_of_lookup hx)
  simp only[fZ,beq_iff_eq,oE]at this
  exact⟨this.1.1,this.1.2,this.2⟩
 ta:=λc x a hx=>by
  have:=cF.mp y _ (by
   have:∀ {l:List _},l.lookup (c,x)=S a->((c,x),a)∈l:=by
    intro l
    induction l with
    |nil=>intro h;exact aD h
    |cons p l Q=>
     intro h
     obtain ⟨k,v⟩:=p
     rw[k7]at h
     cases hb:(c,x)==k with
     |true=>rw[hb]at h;cases h;rw[beq_iff_eq.mp hb];exact cT
     |false=>rw[hb]at h;exact dA _ (Q h)
   exact this hx)
  simp only[fZ,lY,oE,beq_iff_eq,decide_eq_true_eq,cF,bne_iff_ne,gw]at this
  refine au this λO U=>au O λY a4=>au Y λcu r=>au cu λb o=>⟨b,o,r,λf hf=> ?_,U⟩
  rcases f.lt_or_ge 27 with q|q
  . rcases a4 f q with z|z
    . rw[z]at hf;exact bT hf
    exact z
  . rw[L f q c]at hf;exact bT hf
 fk:=λg a hg=>by
  refine au (aen D hg) λb aF=>ah aF λv o r=> ?_;rw[fc]at b o
  exact⟨b,v,o,λh N k n=>aem k n r⟩
 fld:=H
 cls:=I
noncomputable def E4:List Addr:= [28,75,91,110,117,138,145,152,159,166,173,186,193,200,206,220,227,255,262,269,276,290,297,304,311,325,332,339,346,353,358,379,386,393,400,414,419,426,431,438,445,452,457,464,471,478,483,490,497,504,509,514,519,526,533,538,545,550]
noncomputable def aep:List Addr:= [94,176,237,279,361,403]
noncomputable def M8:List SL:=(([["rows","found","middle","one"],["mask","found","at","left"],["self","number","left","right","level_of","action","line","before"],["self","names","terminal_count","rules","levels","expect","start","rule"],["self"],["self","name"],["self","symbol"],["self","rule","dot"],["self","item"],["self","item"],["self","item","right","dot"],["grammar","number","dot","rule","words"],["grammar","item"],["right","terminal_count","found","symbol"],["pairs","start","lefts","left","parts","begin","names","name","count","rules","right"],["self","number","kernel","symbol"],["self","symbol"],["self","grammar","rows","rule"],["self","kernel","mask","item","symbol"],["self","kernel","found","symbol","number","item"]]:List (List Str))++ ([["self","kernel"],["grammar","kernel"],["grammar","item"],["grammar","items","found","item","symbol","ordered"],["grammar","items","found","item"],["self","grammar","states"],["self","state","symbol"],["self","state","symbols","here","symbol"],["self","state","symbols","found","symbol","here"],["self"],["self"],["self","grammar"],["self","kernel","symbol"],["self","state","behind","symbol"],["self","at"],["grammar"],["automaton","found","state","symbol"],["automaton","state","count","back","found","turn","earlier","here","one"],["automaton","begin","found","queue","at","here","moves","symbol"],["automaton","state"]]:List (List Str))++ ([["automaton","symbols"],["automaton","symbols","state"],["automaton","number"],["script","number","cell"],["pen","many","digit"],["pen","some"],["pen","names","pairs","name","turn","many"],["pairs","found","number","pair"],["groups","most","many","line","known","at","form","number","parts","later"],["groups","most","forms"],["groups","forms","most","found","form","number","parts","dot","word"],["grammar","pairs","shown","one"],["grammar","state","word","due","items","kernel","whole"],["grammar","machine","valid","most","line","firsts","at","word","state","symbol","name","later"],["machine","firsts","most","paths","state","path"],["machine","symbols","state","goals","symbol","aheads","one","goal","many","due","turn"],["pairs","number","dot","name","parts"],["script","drawn","pairs","grammar","groups","most","forms","valid","machine","walked","line","firsts","dues","ways_told","word","state","symbols","due","texts"]]:List (List Str))).map λl=>l.zipIdx
noncomputable def E5:List (Str×aO):= [(bZ "transitive",28),(bZ "bits",75),(bZ "show_rule",186),(bZ "show_item",193),(bZ "last_terminal",200),(bZ "plain_grammar",206),(bZ "closure",290),(bZ "advanced",297),(bZ "kernels_behind",304),(bZ "complete_rules",311),(bZ "build",414),(bZ "predecessors",419),(bZ "states_before",426),(bZ "paths_in_breadth",431),(bZ "shortest_path",438),(bZ "is_viable",445),(bZ "valid_items",452),(bZ "show_state",457),(bZ "_law_pen",464),(bZ "_law_draw",471),(bZ "_law_pick",478),(bZ "_law_pairs",483),(bZ "_law_groups",490),(bZ "_law_forms",497),(bZ "_law_reach",504),(bZ "_law_valid",509),(bZ "_law_rules_told",514),(bZ "_law_state_right",519),(bZ "_law_walked",526),(bZ "_law_paths_right",533),(bZ "_law_back_right",538),(bZ "_law_text",545),(bZ "law",550),(bZ "Rule",94),(bZ "Grammar",176),(bZ "LrState",237),(bZ "Closer",279),(bZ "Automaton",361),(bZ "Builder",403)]
noncomputable def E6:List ((Nat×Str)×aO):= [((1,bZ "symbol_count"),117),((1,bZ "number"),138),((1,bZ "rules_of"),145),((1,bZ "item"),152),((1,bZ "rule_of"),159),((1,bZ "dot_of"),166),((1,bZ "after"),173),((2,bZ "goto"),227),((3,bZ "wanted"),262),((3,bZ "added"),269),((3,bZ "close"),276),((4,bZ "goto"),332),((4,bZ "walk"),339),((4,bZ "path"),346),((4,bZ "final_state"),353),((4,bZ "transition_count"),358),((5,bZ "number_of"),386),((5,bZ "expand"),393),((5,bZ "built"),400)]
noncomputable def M9:List Str:= ["number","left","right","level_of","action","line","before","names","terminal_count","rules","levels","expect","start","by_left","offsets","owners","item_count","kernel","symbol","items","moves","reductions","grammar","firsts","states","closer","numbers"]
def l9 (f:Nat):Str:=M9.getD f ⟨(List.replicate (f+1) 0).toArray⟩
def lq (c:Nat):Addr:=aep.getD c 0
def tb (f:Nat):Addr:=E4.getD f 0
noncomputable def E7 (g:Nat):Str:=(["NONE","END","OWN_TERMINALS"]:List Str).getD g "?"
def tM:MC:= {fns:=E5,fa:=tb,cls:=lq,fld:=l9,ta:=E6,jQ:=E7}
theorem aeq:∀f g,l9 f=l9 g->f=g:=by
 have b:∀f,27<=f->(l9 f).cps.size=f+1:=λf hf=>by
  unfold l9
  have:M9[f]?=none:=eX hf
  rw[Ep,this]
  simp
 have c:∀f,f<27->(l9 f).cps.size<20:=by decide+kernel
 intro f g e
 rcases f.lt_or_ge 27 with hf|hf<;>rcases g.lt_or_ge 27 with a|a
 . exact(by decide+kernel:∀f,f<27->∀g,g<27->l9 f=l9 g->f=g) f hf g a e
 . exact absurd (eP (mU a) (b g a▸e▸c f hf)) (by decide)
 . exact absurd (eP (mU hf) (b f hf▸e▸c g a)) (by decide)
 . exact qU ((b f hf).symm.trans (e▸b g a))
theorem M_:∀f,27<=f->∀c,hJ c f=false:=by
 intro f hf c
 rcases c with _|_|_|_|_|_|c
 . exact decide_eq_false (TP hf)
 . exact decide_eq_false λh=>absurd (ba hf h.2) (by decide)
 . exact decide_eq_false λh=>h.elim (λh=>absurd (h▸hf) (by decide)) λh=>absurd (ba hf h.2) (by decide)
 . exact decide_eq_false λh=>h.elim (λh=>absurd (h▸hf) (by decide)) λh=>absurd (h▸hf) (by decide)
 . exact decide_eq_false λh=>h.elim (λh=>absurd (h▸hf) (by decide)) λh=>absurd (h▸hf) (by decide)
 . exact decide_eq_false λh=>h.elim (λh=>absurd (h▸hf) (by decide)) λh=>absurd (ba hf h.2) (by decide)
 rfl
def E8 (K:Frag)(c:Nat):Bool:=
 findIn K (.ref (lq c)) "__getattribute__" ==S (S (.builtin "object.__getattribute__")) &&findIn K (.ref (lq c)) "__getattr__" ==S J&&
 findIn K (.ref (lq c)) "__setattr__" ==S (S (.builtin "object.__setattr__")) &&plainOver K (lq c) && (clsIn K (lq c)).any (·.hasDict) &&makesIn K (lq c)
def Na (K:Frag)(c:Nat):Bool:=(List.range 27).all λf=> !(hJ c f)||findIn K (.ref (lq c)) (l9 f)==S J
def Nb (K:Frag):Bool:=qA.all λx=>nsIn K mainGlobals x==S J
structure AD (K:Frag):Prop where
 cls:(List.range 6).all (E8 K)=ab
 fld:(List.range 6).all (Na K)=ab
 blt:Nb K=ab
 fnt:EX K E5=ab
 mtt:EY K lq l9 E6=ab
 glt:xw K E7 0 prog.fk=ab
 ini:Az K lq tb 0 prog.init=ab
 fns:Ay K tM prog.fns E4 M8=ab
def E9 {K:Frag}(k:AD K)(prog:Program)(w:World)(h₀:Heap){p:Program}{loose:List Str}{mg mb:Str->Option Value}(T:TopRead p loose mg mb h₀)(X:K.In h₀):CX where
 prog:=prog
 w:=w
 K:=K
 h₀:=h₀
 p:=p
 loose:=loose
 mg:=mg
 mb:=mb
 T:=T
 X:=X
 cls:=lq
 fld:=l9
 B8:=aeq
 yK:=λc o=>by
  have:=cF.mp k.cls c (gw.mpr o)
  unfold E8 at this
  simp only[fZ,beq_iff_eq]at this
  ((refine au this λO f=> ?_;clear this);refine au O λr e=> ?_;clear O;refine au r λu d=> ?_;clear r;refine au u λy c=> ?_;clear u;refine au y λa b=> ?_;clear y)
  exact⟨a,b,c,d,e,f⟩
 B9:=λc f h=>by
  have o:=Cr h
  have hf:f<27:=by
   rcases uO f 27 with q|q
   . exact q
   . rw[M_ f q c]at h;exact bT h
  have:=cF.mp k.fld c (gw.mpr o)
  have:=cF.mp this f (gw.mpr hf)
  rw[h]at this
  simpa using this
 IA:=λx hx=>by
  have:=cF.mp k.blt x hx
  simpa using this
theorem aer {K}(k:AD K)(a)(w)(h₀){p}{loose}{mg mb}(T:TopRead p loose mg mb _)(X)(d):
 rj (E9 k a w h₀ T X) (aQ prog d) tb d:=have at_:=λf fn hf=>aei k.fns hf;sound (by
 refine⟨λf fn hf=>(M5 (at_ f fn hf)).1,λc f b=> ?_⟩
 have:=aej k.ini b
 rwa[fc]at this:EC (E9 k a w _ T X) _ (aeh K _ _)) (aeo (M:=tM) k.fnt k.mtt k.glt rfl rfl M_) rfl (λf fn hf=>(M5 (C:=E9 k a w _ T X) (at_ f fn hf)).2) d
end
def Do (o:RS)(Q:Env->Hp->Prop)(R:X->Hp->Prop):Prop:=match o with
 |some (.next,ρ,σ)=>Q ρ σ
 |some (.ret x,_,σ)=>R x σ
 |none=>False
theorem aJ {α b:Type}{o}{a}{f:α->Option b}{r}(h:o=S a)(k:f a=r):o.bind f=r:=Zrr h k
theorem bP {α b:Type}{o}{a}{f:α->b}(h:o=S a):o.map f=S (f a):=by rw[h];rfl
theorem b9 {α:Type}{c} [Decidable c]{a b:α}(h:c):(if c then a else b)=a:=if_pos h
theorem jl {σ}{o}(h:o=S (.v (.bool b),σ)):o.bind gp=S (b,σ):=aJ h rfl
variable {ρ ρ':Env} {σ:Hp}
section
variable {cl:Cl} {aR bW ru Nc:Hp} {e e1 e2 e3 o l r c t f:E} {es:Es} {x y z:X} {a b:V} {k:Nat} {p q:Bool} {it:It} {xs ys:List X} {vs:List V}
theorem aa (h:slot ρ i=S x):az cl (.var i) ρ σ=S (x,σ):=bP h
theorem aP:az cl (.cst a) ρ σ=S (.v a,σ):=rfl
theorem lr (h:cl.fk[g]?=S a):az cl (.glob g) ρ σ=S (.v a,σ):=bP h
theorem a_ {f}(u:az cl o ρ σ=S (y,aR))(D:ef aR y f=S x):az cl (.attr o f) ρ σ=S (x,aR):=aJ u (bP D)
theorem bu (u:az cl o ρ σ=S (y,aR))(D:az cl e ρ aR=S (.v a,bW))(H:b4 bW y a=S x):az cl (.idx o e) ρ σ=S (x,bW):=aJ u (aJ D (bP H))
theorem pO (u:az cl o ρ σ=S (.v a,aR))(D:az cl e ρ aR=S (.v b,bW)){v}(H:mJ a b=S v):az cl (.kQ o e) ρ σ=S (.v v,bW):=aJ u (aJ D (bP H))
theorem aes (u:az cl o ρ σ=S (.v a,aR))(D:az cl e ρ aR=S (.v b,bW)){v}(H:tS a b=S v):az cl (.vy o e) ρ σ=S (.v v,bW):=aJ u (aJ D (bP H))
theorem b_ (u:az cl l ρ σ=S (.v a,aR))(D:az cl r ρ aR=S (.v b,bW)){v}(H:cV I a b=S v):az cl (.bin ae I l r) ρ σ=S (.v v,bW):=aJ u (aJ D (bP H))
theorem aet (u:az cl l ρ σ=S (.v a,aR))(D:az cl r ρ aR=S (.v b,bW))(H:cV I a b=S (.lst vs)):az cl (.bin ab I l r) ρ σ=S (.ref bW.length,bW++ [.lst (vs.map .v)]):=aJ u (aJ D (aJ H rfl))
theorem br (u:az cl l ρ σ=S (x,aR))(D:az cl r ρ aR=S (y,bW))(H:cO bW I x y=S p):az cl (.cmp I l r) ρ σ=S (.v (.bool p),bW):=aJ u (aJ D (bP H))
theorem tc (h:az cl e ρ σ=S (x,aR))(u:tX n x=p):az cl (.isNone n e) ρ σ=S (.v (.bool p),aR):=u▸bP h
theorem Nd (u:az cl l ρ σ=S (.v (.bool ae),aR)):az cl (.and l r) ρ σ=S (.v (.bool ae),aR):=aJ (jl u) rfl
theorem xx (u:az cl l ρ σ=S (.v (.bool ab),aR))(D:az cl r ρ aR=S (.v (.bool q),bW)):az cl (.and l r) ρ σ=S (.v (.bool q),bW):=aJ (jl u) (bP (jl D))
theorem aeu (u:az cl l ρ σ=S (.v (.bool ab),aR)):az cl (.or l r) ρ σ=S (.v (.bool ab),aR):=aJ (jl u) rfl
theorem jT (u:az cl l ρ σ=S (.v (.bool ae),aR))(D:az cl r ρ aR=S (.v (.bool q),bW)):az cl (.or l r) ρ σ=S (.v (.bool q),bW):=aJ (jl u) (bP (jl D))
theorem xy (u:az cl l ρ σ=S (.v (.bool p),σ))(D:p=ab->az cl r ρ σ=S (.v (.bool q),σ)):az cl (.and l r) ρ σ=S (.v (.bool (p&&q)),σ):=by
 cases p
 . exact Nd u
 exact xx u (D rfl)
theorem aev (u:az cl l ρ σ=S (.v (.bool p),σ))(D:p=ae->az cl r ρ σ=S (.v (.bool q),σ)):az cl (.or l r) ρ σ=S (.v (.bool (p||q)),σ):=by
 cases p
 . exact jT u (D rfl)
 exact aeu u
theorem xA (h:az cl e ρ σ=S (.v (.bool p),aR)):az cl (.not e) ρ σ=S (.v (.bool !p),aR):=bP (jl h)
theorem AE (u:az cl c ρ σ=S (.v (.bool ab),aR))(D:az cl t ρ aR=S (x,bW)):az cl (.ite c t f) ρ σ=S (x,bW):=aJ (jl u) D
theorem AF (u:az cl c ρ σ=S (.v (.bool ae),aR))(D:az cl f ρ aR=S (x,bW)):az cl (.ite c t f) ρ σ=S (x,bW):=aJ (jl u) D
theorem eZ (h:fW cl es ρ σ=S (xs,aR))(hl:xs.length<aE)(u:fD xs=S vs):az cl (.tup es) ρ σ=S (.v (.tup vs),aR):=aJ h ((b9 hl).trans (bP u))
theorem fU (h:fW cl es ρ σ=S (xs,aR))(hl:xs.length<aE)(u:fD xs=S vs):az cl (.lst ae es) ρ σ=S (.v (.lst vs),aR):=aJ h ((b9 hl).trans (bP u))
theorem iH (h:fW cl es ρ σ=S (xs,aR))(hl:xs.length<aE):az cl (.lst ab es) ρ σ=S (.ref aR.length,aR++ [.lst xs]):=aJ h (b9 hl)
theorem jm {t}(D:ix cl it ρ σ=S (vs,aR))(H:mO (λa af=>(bV t a ρ).bind (az cl e · af)) vs aR=S (xs,bW))(hl:xs.length<aE){u}(I:fD xs=S u):az cl (.comp ae t it e) ρ σ=S (.v (.lst u),bW):=aJ D (aJ H ((b9 hl).trans (bP I)))
theorem E_ {t}(u:ix cl it ρ σ=S (vs,aR))(D:mO (λa af=>(bV t a ρ).bind (az cl e · af)) vs aR=S (xs,bW))(hl:xs.length<aE):az cl (.comp ab t it e) ρ σ=S (.ref bW.length,bW++ [.lst xs]):=aJ u (aJ D (b9 hl))
theorem xB {t}(D:ix cl it ρ σ=S (vs,aR))(H:qt (λa af=>(bV t a ρ).bind λρ'=>(az cl c ρ' af).bind gp) (λa af=>(bV t a ρ).bind (az cl e · af)) vs aR=S (xs,bW))(hl:xs.length<aE){u}(I:fD xs=S u):az cl (.iT ae t it c e) ρ σ=S (.v (.lst u),bW):=aJ D (aJ H ((b9 hl).trans (bP I)))
theorem cw {f}(h:az cl e ρ σ=S (x,aR))(u:cB aR f x=S (.val a)):az cl (.bf m f e) ρ σ=S (.v a,aR):=aJ h (aJ u rfl)
theorem iI {f}(h:az cl e ρ σ=S (x,aR))(u:cB aR f x=S (.items vs)):az cl (.bf ae f e) ρ σ=S (.v (.lst vs),aR):=aJ h (aJ u rfl)
theorem Nf {f}(h:az cl e ρ σ=S (x,aR))(u:cB aR f x=S (.items vs)):az cl (.bf ab f e) ρ σ=S (.ref aR.length,aR++ [.lst (vs.map .v)]):=aJ h (aJ u rfl)
theorem d9 {f}(h:az cl o ρ σ=S (x,aR))(u:r7 aR x=S f.ty)(D:fW cl es ρ aR=S (xs,bW))(H:gK bW f x xs=S (y,ru)):az cl (.da o f es) ρ σ=S (y,ru):=aJ h ((b9 u).trans (aJ D H))
theorem c6 {f}(h:fW cl es ρ σ=S (xs,aR))(u:cl.call f xs aR=S (x,bW)):az cl (.call f es) ρ σ=S (x,bW):=aJ h u
theorem cX {c f}(h:az cl o ρ σ=S (x,aR))(u:n7 aR x=S c)(D:fW cl es ρ aR=S (xs,bW))(H:cl.call f (x::xs) bW=S (y,ru)):az cl (.bN o c f es) ρ σ=S (y,ru):=aJ h ((b9 u).trans (aJ D H))
theorem rz {c}(h:fW cl es ρ σ=S (xs,aR))(u:cl.new c xs aR=S (x,bW)):az cl (.new c es) ρ σ=S (x,bW):=aJ h u
theorem aA:fW cl .nil ρ σ=S ([],σ):=rfl
theorem aj (h:az cl e ρ σ=S (x,aR))(u:fW cl es ρ aR=S (xs,bW)):fW cl (.cons e es) ρ σ=S (x::xs,bW):=aJ h (bP u)
theorem c7 (h:az cl e ρ σ=S (.v a,aR))(u:kT a=S vs):ix cl (.of e) ρ σ=S (vs,aR):=aJ h (bP u)
theorem oN (h:az cl e ρ σ=S (.v (.lst vs),aR)):ix cl (.hE e) ρ σ=S (vs,aR):=aJ h rfl
theorem Fb (h:az cl e ρ σ=S (.v (.lst vs),aR))(hl:vs.length<aE):ix cl (.enum e) ρ σ=S (lR 0 vs,aR):=aJ h (b9 hl)
variable {Q:Env->Hp->Prop} {R:X->Hp->Prop} {ss B tt ff:Ss} {s:fj}
theorem bo (h:Q ρ σ):Do (aZ cl .nil ρ σ) Q R:=h
theorem rA (h:qw cl s ρ σ=S (.next,ρ',aR))(k:Do (aZ cl ss ρ' aR) Q R):Do (aZ cl (.cons s ss) ρ σ) Q R:=have:aZ cl (.cons s ss) ρ σ=aZ cl ss _ _:=aJ h rfl;Zrr this k
theorem bz (h:az cl e ρ σ=S (x,aR))(k:Do (aZ cl ss (ρ.set i (S x)) aR) Q R):Do (aZ cl (.cons (.set i e) ss) ρ σ) Q R:=rA (bP h) k
theorem fH (h:az cl e ρ σ=S (x,aR))(k:Do (aZ cl ss ρ aR) Q R):Do (aZ cl (.cons (.ex e) ss) ρ σ) Q R:=rA (bP h) k
theorem cb (h:az cl e ρ σ=S (x,aR))(k:R x aR):Do (aZ cl (.cons (.ret e) ss) ρ σ) Q R:=have:aZ cl (.cons (.ret e) ss) ρ σ=S _:=aJ (bP h) rfl;Zrr this k
theorem l_ (h:slot ρ i=S x)(u:fz FZ σ x=S (a,aR))(k:Do (aZ cl ss (ρ.set i (S (.v a))) aR) Q R):Do (aZ cl (.cons (.iw i) ss) ρ σ) Q R:=rA (aJ h (bP u)) k
theorem dW {f}(u:az cl e ρ σ=S (x,aR))(D:az cl o ρ aR=S (y,bW))(H:r8 bW y f x=S ru)(k:Do (aZ cl ss ρ ru) Q R):Do (aZ cl (.cons (.dy o f e) ss) ρ σ) Q R:=rA (aJ u (aJ D (bP H))) k
theorem jU (u:az cl e ρ σ=S (x,aR))(D:az cl o ρ aR=S (y,bW))(H:az cl r ρ bW=S (.v a,ru))(I:mM ru y a x=S Nc)(k:Do (aZ cl ss ρ Nc) Q R):Do (aZ cl (.cons (.gm o r e) ss) ρ σ) Q R:=rA (aJ u (aJ D (aJ H (bP I)))) k
theorem AG (h:fW cl es ρ σ=S (xs,aR))(u:gZ is xs ρ=S ρ')(k:Do (aZ cl ss ρ' aR) Q R):Do (aZ cl (.cons (.qq is es) ss) ρ σ) Q R:=rA (aJ h (bP u)) k
theorem xC (h:az cl e ρ σ=S (.v (.tup vs),aR))(u:gZ is (vs.map .v) ρ=S ρ')(k:Do (aZ cl ss ρ' aR) Q R):Do (aZ cl (.cons (.mG is e) ss) ρ σ) Q R:=rA (aJ h (bP u)) k
theorem Do.mono {o}{u}{D}(h:Do o Q R)(q:∀ρ σ,Q ρ σ->u ρ σ)(r:∀x σ,R x σ->D x σ):Do o u D:=by
 rcases o with _| ⟨_|x,ρ,σ⟩
 . exact h
 . exact q _ _ h
 exact r _ _ h
theorem Fc (h:Do (qw cl s ρ σ) P R)(k:∀ρ' af,P ρ' af->Do (aZ cl ss ρ' af) Q R):Do (aZ cl (.cons s ss) ρ σ) Q R:=by
 rcases q:qw cl s ρ σ with _| ⟨_|x,ρ',af⟩
 . rw[q]at h;exact h.elim
 . rw[q]at h
   exact rA q (k _ _ h)
 . rw[q]at h
   exact have:aZ cl (.cons s ss) ρ σ=S _:=aJ q rfl;Zrr this h
theorem aew (h:az cl c ρ σ=S (.v (.bool p),aR))(kt:p=ab->Do (aZ cl tt ρ aR) Q R)(u:p=ae->Do (aZ cl ff ρ aR) Q R):Do (qw cl (.ite c tt ff) ρ σ) Q R:=by
 have e:qw cl (.ite c tt ff) ρ σ=match p with|true=>aZ cl tt ρ aR|false=>aZ cl ff ρ aR:=aJ (jl h) (by cases p<;>rfl)
 rw[e]
 cases p
 . exact u rfl
 exact kt rfl
theorem jV (h:az cl c ρ σ=S (.v (.bool p),aR))(kt:p=ab->Do (aZ cl tt ρ aR) P R)(u:p=ae->Do (aZ cl ff ρ aR) P R)(k:∀ρ' af,P ρ' af->Do (aZ cl ss ρ' af) Q R):Do (aZ cl (.cons (.ite c tt ff) ss) ρ σ) Q R:=Fc (aew h kt u) k
theorem gy (h:az cl c ρ σ=S (.v (.bool ae),aR))(k:Do (aZ cl ss ρ aR) Q R):Do (aZ cl (.cons (.ite c tt .nil) ss) ρ σ) Q R:=jV (P:=λρ' u=>ρ'=ρ/\u=aR) h nofun (λ_=>bo ⟨rfl,rfl⟩) (by lia)
theorem uX (h:az cl c ρ σ=S (.v (.bool ab),aR))(u:Do (aZ cl tt ρ aR) P R)(k:∀ρ' af,P ρ' af->Do (aZ cl ss ρ' af) Q R):Do (aZ cl (.cons (.ite c tt ff) ss) ρ σ) Q R:=jV h (λ_=>u) nofun k
end
theorem aex {A:Type}{t}{b}{R}(o)(xs)(I:List A->Env->Hp->Prop)
 (step:∀done a rest ρ σ,xs=done++a::rest->I done ρ σ->∃k,bV t (o a) ρ=S k/\Do (b k σ) (I (done++ [a])) R):
 ∀(rest done:List A),xs=done++rest->∀ρ σ,I done ρ σ->Do (n9 t b (rest.map o) ρ σ) (I xs) R:=by
 intro r
 induction r with
 |nil=>
  intro done e ρ σ i
  rw[dg]at e;subst e
  exact i
 |cons a rest u=>
  refine λdone e ρ σ i=>ah (step _ a _ ρ σ e i) λk q c=> ?_
  rcases h:b _ σ with _| ⟨_|x,y,D⟩
  . rw[h]at c;exact c.elim
  . rw[h]at c
    exact have:n9 t b ((a::rest).map _) ρ σ=n9 t b _ _ _:=aJ q (aJ h rfl);Zrr this (u _ (by simp[e]) _ _ c)
  . rw[h]at c
    exact have:n9 t b ((a::rest).map _) ρ σ=S _:=aJ q (aJ h rfl);Zrr this c
theorem Ng {A:Type}{cl}{t}{it}{B b}{ρ}{σ c}{Q}{R}(k)(xs)
 (I:List A->Env->Hp->Prop)(q:ix cl it ρ σ=S (xs.map k,c))(init:I [] ρ c)
 (step:∀done a rest ρ σ,xs=done++a::rest->I done ρ σ->∃o,bV t (k a) ρ=S o/\Do (aZ cl B o σ) (I (done++ [a])) R)
 (post:∀ρ σ,I xs ρ σ->Do (aZ cl b ρ σ) Q R):Do (aZ cl (.cons (.cq t it B) b) ρ σ) Q R:=Fc (have:qw cl (.cq t it B) ρ σ=n9 t _ _ ρ _:=aJ q rfl;Zrr this (aex _ xs I step xs [] rfl ρ _ init)) post
theorem Fd {done rest}{a}(h: .range n=done++a::rest):a<n:=by
 have:a∈List.range n:=by rw[h];simp
 simpa using this
theorem Nh {done rest}{a}(h: .range n=done++a::rest):done= .range a/\a<n:=by
 have ha:=Fd h
 refine⟨?_,ha⟩
 have hl:=by
  have:(List.range n)[done.length]?=S a:=by rw[h];simp
  rw[dk]at this
  refine ao this λq e=> ?_;simpa using e
 have:(List.range n).take a=done:=by rw[h,hl.symm];simp
 rw[this.symm,List.take_range]
 lia
theorem Fe {it}{B b}{ρ}{σ c}{Q}{R}(o)(n)
 (I:Nat->Env->Hp->Prop)(r:ix cl it ρ σ=S ((List.range n).map o,c))(init:I 0 ρ c)
 (step:∀k ρ σ,k<n->I k ρ σ->∃q,bV t (o k) ρ=S q/\Do (aZ cl B q σ) (I (k+1)) R)
 (post:∀ρ σ,I n ρ σ->Do (aZ cl b ρ σ) Q R):Do (aZ cl (.cons (.cq t it B) b) ρ σ) Q R:=by
 refine Ng _ _ (λdone=>I done.length) r init ?_ ?_
 . refine λdone a rest ρ σ h i=>au (Nh h) λO ha=> ?_;subst O
   simp only[cP,aY]at i ⊢
   exact step a ρ σ ha i
 . intro ρ σ i
   rw[cP]at i
   exact post ρ σ i
theorem aey {T:Type}{c}{b}{Q}{R}(I:T->Env->Hp->Prop)(m:T->Nat)
 (step:∀s ρ σ,I s ρ σ->∃g,c ρ σ=S (g,σ)/\(g=ae->Q ρ σ)/\(g=ab->Do (b ρ σ) (λρ' af=>∃q,m q<m s/\I q ρ' af) R)):
 ∀(k:Nat) s ρ σ,I s ρ σ->m s<k->Do (qu c b k ρ σ) Q R:=by
 intro u
 induction u with
 |zero=>
  exact λs ρ σ _ h=>absurd h (HI _)
 |succ k y=>
  refine λs ρ σ i h=>cD (step s ρ σ i) λg r D a=> ?_
  cases g with
  |false=>
   have:qu c b (k+1) ρ σ=S _:=aJ r rfl
   rw[this];exact D rfl
  |true=>
   have a:=a rfl
   rcases o:b ρ σ with _| ⟨_|x,H,U⟩
   . rw[o]at a;exact a.elim
   . rw[o]at a
     exact ah a λq L O=>have:qu c b (k+1) ρ σ=qu c b k _ _:=aJ r (aJ o rfl);Zrr this (y q _ _ O (d0 L (fA h)))
   . rw[o]at a
     exact have:qu c b (k+1) ρ σ=S _:=aJ r (aJ o rfl);Zrr this a
theorem aez {T:Type}{cl}{c}{B a}{ρ}{σ}{Q}{R}(I:T->Env->Hp->Prop)(m:T->Nat)(s)
 (init:I s ρ σ)(hm:m s<W)
 (step:∀s ρ σ,I s ρ σ->∃g,az cl c ρ σ=S (.v (.bool g),σ)/\(g=ae->Do (aZ cl a ρ σ) Q R)/\(g=ab->Do (aZ cl B ρ σ) (λρ' af=>∃b,m b<m s/\I b ρ' af) R)):
 Do (aZ cl (.cons (.mH c B) a) ρ σ) Q R:=Fc (aey I m (λs ρ σ i=>cD (step s ρ σ i) λg k o q=>⟨g,jl k,o,q⟩) W s ρ σ init hm) λ_ _ h=>h
def Pk (I:(Env->Hp->Prop)->Prop)(ρ:Env)(σ:Hp):Prop:=∀K,I K->K ρ σ
def Ff (t:jC)(a:V)(b:Env->Hp->RS)(K:Env->Hp->Prop)(R:X->Hp->Prop)(ρ:Env)(σ:Hp):Prop:=∃c,bV t a ρ=S c/\Do (b c σ) K R
theorem bt {ρ c}{σ}(h:bV t a ρ=S c)(k:Do (b c σ) K R):Ff t a b K R ρ σ:=⟨_,h,k⟩
theorem kq {K:Env->Hp->Prop}{ρ}{σ a}(h:K ρ a)(e:σ=a):K ρ σ:=e▸h
theorem d_ {A:Type}{cl:Cl}{t:jC}{it:It}{B c:Ss}{ρ:Env}{σ o:Hp}{Q:Env->Hp->Prop}{R:X->Hp->Prop}(b:A->V)(xs:List A)
 (I:List A->(Env->Hp->Prop)->Prop)(q:ix cl it ρ σ=S (xs.map b,o))(init:∀K,I [] K->K ρ o)
 (step:∀done a rest K,I (done++ [a]) K->xs=done++a::rest->I done (Ff t (b a) (aZ cl B) K R))
 (post:I xs λρ σ=>Do (aZ cl c ρ σ) Q R)(ref:∀d K,(∀ρ σ,Pk (I d) ρ σ->K ρ σ)->I d K:=by intro _ _ h;intros;apply h;intro _ k;apply k<;>assumption):Do (aZ cl (.cons (.cq t it B) c) ρ σ) Q R:=
 Ng b xs (λd=>Pk (I d)) q init (λ_ _ _ _ _ e h=>h _ (step _ _ _ _ (ref _ _ λ_ _ h=>h) e)) λ_ _ h=>h _ post
theorem uY {cl:Cl}{t:jC}{it:It}{B b:Ss}{ρ:Env}{σ c:Hp}{Q:Env->Hp->Prop}{R:X->Hp->Prop}(a:Nat->V)(n:Nat)
 (I:Nat->(Env->Hp->Prop)->Prop)(o:ix cl it ρ σ=S ((List.range n).map a,c))(init:∀K,I 0 K->K ρ c)
 (step:∀k K,I (k+1) K->k<n->I k (Ff t (a k) (aZ cl B) K R))
 (post:I n λρ σ=>Do (aZ cl b ρ σ) Q R)(ref:∀d K,(∀ρ σ,Pk (I d) ρ σ->K ρ σ)->I d K:=by intro _ _ h;intros;apply h;intro _ k;apply k<;>assumption):Do (aZ cl (.cons (.cq t it B) b) ρ σ) Q R:=
 Fe a n (λd=>Pk (I d)) o init (λ_ _ _ e h=>h _ (step _ _ (ref _ _ λ_ _ h=>h) e)) λ_ _ h=>h _ post
def Ni (cl:Cl)(c:E)(B a:Ss)(K Q:Env->Hp->Prop)(R:X->Hp->Prop)(ρ:Env)(σ:Hp):Prop:=∃g,az cl c ρ σ=S (.v (.bool g),σ)/\(g=ae->Do (aZ cl a ρ σ) Q R)/\(g=ab->Do (aZ cl B ρ σ) K R)
theorem wt {B a}{K Q}{R}{ρ}{σ}(g)(h:az cl c ρ σ=S (.v (.bool g),σ))(b:g=ae->Do (aZ cl a ρ σ) Q R)(k:g=ab->Do (aZ cl B ρ σ) K R):Ni cl c B a K Q R ρ σ:=⟨g,h,b,k⟩
theorem uZ {T:Type}{cl:Cl}{c:E}{B b:Ss}{ρ:Env}{σ:Hp}{Q:Env->Hp->Prop}{R:X->Hp->Prop}(I:T->(Env->Hp->Prop)->Prop)(m:T->Nat)(s:T)
 (init:∀K,I s K->K ρ σ)(hm:m s<W)(step:∀s K,(∀a,m a<m s->I a K)->I s (Ni cl c B b K Q R))(ref:∀d K,(∀ρ σ,Pk (I d) ρ σ->K ρ σ)->I d K:=by intro _ _ h;intros;apply h;intro _ k;apply k<;>assumption):
 Do (aZ cl (.cons (.mH c B) b) ρ σ) Q R:=
 aez (λd=>Pk (I d)) m s init hm λs _ _ h=>h _ (step s (λρ σ=>∃a,m a<m s/\Pk (I a) ρ σ) λa l=>ref _ _ λ_ _ q=>⟨a,l,q⟩)
theorem td {cl:Cl}{c:E}{b o q:Ss}{ρ:Env}{σ a:Hp}{Q:Env->Hp->Prop}{R:X->Hp->Prop}{p:Bool}(I:(Env->Hp->Prop)->Prop)(h:az cl c ρ σ=S (.v (.bool p),a))
 (kt:∀K,I K->p=ab->Do (aZ cl b ρ a) K R)(r:∀K,I K->p=ae->Do (aZ cl o ρ a) K R)(k:I λρ σ=>Do (aZ cl q ρ σ) Q R)
 (ref:∀(_:Unit) K,(∀ρ σ,Pk I ρ σ->K ρ σ)->I K:=by intro _ _ h;intros;apply h;intro _ k;apply k<;>assumption):Do (aZ cl (.cons (.ite c b o) q) ρ σ) Q R:=
 jV (P:=Pk I) h (kt _ (ref () _ λ_ _ h=>h)) (r _ (ref () _ λ_ _ h=>h)) λ_ _ h=>h _ k
theorem jX (k)(σ)(a):fz k σ (.v a)=S (a,σ):=by cases k<;>rfl
def Fz (a:V)(x:X)(σ:Hp):Prop:=∃b,fz FZ σ x=S (a,b)
theorem c8 {a b}{σ}(h:b=a):Fz a (.v b) σ:=⟨σ,by rw[h];rfl⟩
theorem xD {D}(h:0<D):aQ P D=⟨B1 (aQ P (D - 1)) P,B2 (aQ P (D - 1)) P,P.fk⟩:=by
 cases D with
 |zero=>exact absurd h (vN 0)
 |succ d=>rfl
theorem lu:(aQ P D).fk=P.fk:=by cases D<;>rfl
theorem xE {fn}{ρ}{as}{σ}{K}(a:frameOf fn as=S ρ)(hr:Do (aZ cl fn.body ρ σ) (λ_ af=>K (.v .none) af) K):∃x af,n_ cl fn as σ=S (x,af)/\K x af:=by
 rcases h:aZ cl _ ρ σ with _| ⟨_|x,ρ',af⟩
 . rw[h]at hr;exact hr.elim
 . rw[h]at hr;exact⟨_,_,aJ a (bP h),hr⟩
 . rw[h]at hr;exact⟨_,_,aJ a (bP h),hr⟩
theorem oO {as}{b}{σ}{a}(c:0<D)(hf:prog.fns[f]?=S fn)(k:fn.pure=ab)(o:fD as=S b)
 (q:frameOf fn as=S ρ)(hr:Do (aZ (aQ prog (D - 1)) fn.body ρ []) (λ_ _=>a= .none) (Fz a)):(aQ prog D).call f as σ=S (.v a,σ):=by
 refine dh (xE q (hr.mono (λ_ σ h=>c8 h.symm) λ_ _ h=>h)) λx H r u=>ao u λI y=> ?_;rw[xD c]
 exact aJ hf (Zrr k (aJ o (aJ r (bP y))))
theorem ed {as}{vs}{σ}{a}(c:0<D)(hf:prog.fns[f]?=S fn)(k:fn.pure=ab)(o:fD as=S vs)
 (q:frameOf fn as=S ρ)(hr:∀(T:X->Hp->Prop),(∀ {x b},Fz a x b->T x b)->Do (aZ (aQ prog (D - 1)) fn.body ρ []) (λ_ _=>False) T):(aQ prog D).call f as σ=S (.v a,σ):=
 oO c hf k o q ((hr _ λh=>h).mono (λ_ _ h=>h.elim) λ_ _ h=>h)
theorem AH {as}{σ}{K}(a:0<D)(hf:prog.fns[f]?=S fn)(b:fn.pure=ae)
 (c:frameOf fn as=S ρ)(hr:Do (aZ (aQ prog (D - 1)) fn.body ρ σ) (λ_ af=>K (.v .none) af) K):∃x af,(aQ prog D).call f as σ=S (x,af)/\K x af:=by
 refine dh (xE c hr) λx q k o=>⟨x,_,?_,o⟩
 rw[xD a]
 exact aJ hf (Zrr b k)
theorem Fg {as}{vs}{σ}{a}(b:0<D)(k:prog.init[c]?=S f)(hf:prog.fns[f]?=S fn)
 (o:prog.vA[c]?=S ab)(q:fD as=S vs)(r:frameOf fn (.ref 0::as)=S ρ)
 (hr:Do (aZ (aQ prog (D - 1)) fn.body ρ [.obj c []]) (λ_ af=>Fz a (.ref 0) af) λ_ _=>False):(aQ prog D).new c as σ=S (.v a,σ):=by
 refine bp (xE (K:=λx af=>x= .v _/\Fz a _ af) r (hr.mono (λ_ σ h=>⟨rfl,h⟩) λ_ _ h=>h.elim)) λx I u O y=>ao y λL H=> ?_;subst O
 rw[xD b]
 exact aJ k (aJ hf (aJ o (aJ q (aJ u (bP H)))))
theorem aeA {as}{σ}{K:X->Hp->Prop}(a:0<D)(b:prog.init[c]?=S f)(hf:prog.fns[f]?=S fn)
 (k:prog.vA[c]?=S ae)(o:frameOf fn (.ref σ.length::as)=S ρ)
 (hr:Do (aZ (aQ prog (D - 1)) fn.body ρ (σ++ [.obj c []])) (λ_ af=>K (.ref σ.length) af) λ_ _=>False):∃x af,(aQ prog D).new c as σ=S (x,af)/\K x af:=by
 refine bp (xE (K:=λx af=>x= .v _/\K _ af) o (hr.mono (λ_ σ h=>⟨rfl,h⟩) λ_ _ h=>h.elim)) λx u q O r=> ?_;subst O
 refine⟨_,_,?_,r⟩
 rw[xD a]
 exact aJ b (aJ hf (aJ k (aJ q rfl)))
theorem Fh {as}{σ}{K:X->Hp->Prop}(b:0<D)(hf:prog.fns[f]?=S fn)(c:fn.pure=ae)
 (k:frameOf fn as=S ρ)(hr:∀T,(∀ {x a},K x a->T x a)->Do (aZ (aQ prog (D - 1)) fn.body ρ σ) (λ_ _=>False) T):∃x a,(aQ prog D).call f as σ=S (x,a)/\K x a:=
 AH b hf c k ((hr K λh=>h).mono (λ_ _ h=>h.elim) λ_ _ h=>h)
theorem aeB {as}{σ a}(c:0<D)(hf:prog.fns[f]?=S fn)(k:fn.pure=ae)(o:frameOf fn as=S ρ)
 (hr:∀Q,(∀ρ,Q ρ a)->Do (aZ (aQ prog (D - 1)) fn.body ρ σ) Q λ_ _=>False):(aQ prog D).call f as σ=S (.v .none,a):=by
 refine bp (AH (K:=λx b=>x= .v _/\b=a) c hf k o ((hr (λ_ b=>b=a) λ_=>rfl).mono (λ_ _ h=>⟨rfl,h⟩) λ_ _ h=>h.elim)) λx b h O q=> ?_;subst O;subst q
 exact h
theorem Nj {as}{x}{σ a}(c:0<D)(hf:prog.fns[f]?=S fn)(k:fn.pure=ae)(o:frameOf fn as=S ρ)
 (hr:∀T,T x a->Do (aZ (aQ prog (D - 1)) fn.body ρ σ) (λ_ _=>False) T):(aQ prog D).call f as σ=S (x,a):=by
 refine bp (AH c hf k o ((hr (λy b=>y=x/\b=a) ⟨rfl,rfl⟩).mono (λ_ _ h=>h.elim) λ_ _ h=>h)) λy b h O q=> ?_;subst O;subst q
 exact h
theorem Fi {as}{σ a}(k:0<D)(o:prog.init[c]?=S f)(hf:prog.fns[f]?=S fn)
 (q:prog.vA[c]?=S ae)(r:frameOf fn (.ref σ.length::as)=S ρ)
 (hr:∀Q,(∀ρ,Q ρ a)->Do (aZ (aQ prog (D - 1)) fn.body ρ (σ++ [.obj c []])) Q λ_ _=>False):(aQ prog D).new c as σ=S (.ref σ.length,a):=by
 refine bp (aeA (K:=λx b=>x= .ref _/\b=a) k o hf q r ((hr (λ_ b=>b=a) λ_=>rfl).mono (λ_ _ h=>⟨rfl,h⟩) λ_ _ h=>h.elim)) λx b h O u=> ?_;subst O;subst u
 exact h
noncomputable def nV (n:Nat):V:= .int (n:Int)
theorem fV (l):fD (l.map .v)=S l:=by
 induction l with
 |nil=>rfl
 |cons a l b=>exact bP b
theorem xF (k)(σ)(l):jD (fz k) σ (l.map .v)=S (l,σ):=by
 induction l with
 |nil=>rfl
 |cons a l b=>exact aJ (jX _ _ _) (bP b)
theorem oP {k n}{σ}{c}(h:σ[n]?=S c):fz (k+1) σ (.ref n)=Ig (fz k) (σ.set n .dead) c:=aJ h rfl
theorem jn (h:σ[n]?=S (.lst (l.map .v))):fz FZ σ (.ref n)=S (.lst l,σ.set n .dead):=aJ h (bP (xF _ _ l))
theorem Fj (k)(σ)(l:List (c×V)):jD (λσ p=>(fz k σ p.2).map λq=>((p.1,q.1),q.2)) σ (l.map λp=>(p.1,.v p.2))=S (l,σ):=by
 induction l with
 |nil=>rfl
 |cons a l b=>exact aJ (bP (jX _ _ _)) (bP b)
theorem Fo (h:σ[n]?=S (.aU t (l.map λp=>(p.1,.v p.2)))):fz FZ σ (.ref n)=S (.aU t l,σ.set n .dead):=aJ h (bP (Fj _ _ l))
theorem Nk (h:σ[n]?=S (.obj c (l.map λp=>(p.1,.v p.2)))):fz FZ σ (.ref n)=S (.obj c l,σ.set n .dead):=aJ h (bP (Fj _ _ l))
theorem aeC (n:Nat):mN 0 n=(List.range n).map nV:=by
 unfold mN nV
 simp
theorem jo {A:Type}{f}(c)(g)(xs:List A)(σ)(h:∀a∈xs,f (c a) σ=S (g a,σ)):
 mO f (xs.map c) σ=S (xs.map g,σ):=by
 induction xs with
 |nil=>rfl
 |cons a xs k=>exact aJ (h a cT) (bP (k λb hb=>h b (dA _ hb)))
theorem xG {A:Type}{c}{f}(r)(p)(g)(xs:List A)(σ)
 (k:∀a∈xs,c (r a) σ=S (p a,σ))(h:∀a∈xs,p a=ab->f (r a) σ=S (g a,σ)):qt c f (xs.map r) σ=S ((xs.filter p).map g,σ):=by
 induction xs with
 |nil=>rfl
 |cons a xs o=>
  have o:=o (λb hb=>k b (dA _ hb)) λb hb=>h b (dA _ hb)
  have k:=k a cT
  cases q:p a with
  |true=>rw[pP q];rw[q]at k;exact aJ k (aJ (h a cT q) (bP o))
  |false=>refine Zrr (pQ (by exact Zrr q gr)) ?_;rw[q]at k;exact aJ k o
theorem Fp (xs):∀k,lR k xs=(xs.zipIdx k).map λp=> .tup [.int p.2,p.1]:=by
 induction xs with
 |nil=>intro k;rfl
 |cons a xs b=>intro k;simp[UN,b]
theorem aiE:eqv (.int a) (.int b)=S (decide (a=b)):=rfl
theorem aeD:cO σ .eq (.v (.int a)) (.v (.int b))=S (decide (a=b)):=rfl
theorem aiF:cO σ .ne (.v (.int a)) (.v (.int b))=S !decide (a=b):=rfl
theorem tf:cO σ .eq (.v (nV a)) (.v (nV b))=S (decide (a=b)):=congrArg _ (decide_eq_decide.mpr pR)
theorem pS:cO σ .lt (.v (nV a)) (.v (nV b))=S (decide (a<b)):=congrArg S (by simp)
theorem Fq:cO σ .le (.v (nV a)) (.v (nV b))=S (decide (a<=b)):=congrArg S (by simp)
theorem u0:cO σ (.gt ()) (.v (nV a)) (.v (nV b))=S (decide (b<a)):=congrArg S (by simp)
theorem nu:cV .add (nV a) (nV b)=S (nV (a+b)):=rfl
theorem AI {a b}(h:b<=a):cV .sub (nV a) (nV b)=S (nV (a - b)):=by
 show S _=S (V.int _)
 rw[Int.ofNat_sub h];rfl
theorem AJ:cV .bor (nV a) (nV b)=S (nV (a|||b)):=rfl
theorem Nl:cV .band (nV a) (nV b)=S (nV (a&&&b)):=rfl
theorem Nm:cV .shr (nV a) (nV b)=S (nV (a>>>b)):=rfl
theorem Nn (h:b<=1000000):cV .shl (.int 1) (nV b)=S (nV (1<<<b)):=by
 show(if 0<=(b:Int)/\(b:Int)<=1000000/\0<=1/\1<2^62 then S _ else J).map _=_
 refine Zrr (if_pos ⟨by lia,by lia,by simp,by simp⟩) ?_;rewrite[nV];rw[Np _ _]
 simp
theorem AK (h:a.length+b.length<aE):cV .add (.tup a) (.tup b)=S (.tup (a++b)):=b9 h
theorem ny (h:a.length+b.length<aE):cV .add (.lst a) (.lst b)=S (.lst (a++b)):=b9 h
theorem Nq (h:a.length+b.length<aE):cV .add (.str a) (.str b)=S (.str (a++b)):=b9 h
theorem Ft (h:n<k)(hl:n<aE):lP n k=S n:=by
 have:=by exact_mod_cast hl
 simp[lP,h,this]
theorem aw (h:n<4194304):n<aE:=h
theorem dB {α:Type}{xs:List α}{n}{a}(h:xs[n]?=S a):n<xs.length:=(dk.mp h).1
theorem jq {n}{a}(hl:n<aE)(h:xs[n]?=S a):b4 σ (.v (.lst xs)) (nV n)=S (.v a):=bP (aJ (Ft (dB h) hl) h)
theorem xH {n}{a}(hl:n<aE)(h:xs[n]?=S a):b4 σ (.v (.tup xs)) (nV n)=S (.v a):=bP (aJ (Ft (dB h) hl) h)
theorem Fu (h:σ[r]?=S c):b4 σ (.ref r) i=match(generalizing:=false) c with
 | .lst xs=>match i with| .int i=>(lP i xs.length).bind (xs[·]?)|_=>J
 | .aU t a=>if dS t i then ck i a else J
 |_=>none:=aJ h rfl
theorem lx {n}{a}(hr:σ[r]?=S (.lst xs))(hl:n<aE)(h:xs[n]?=S a):b4 σ (.ref r) (nV n)=S a:=(Fu hr).trans (aJ (Ft (dB h) hl) h)
theorem Fv {k}{a}(hr:σ[r]?=S (.aU t b))(hk:dS t k=ab)(h:ck k b=S a):b4 σ (.ref r) k=S a:=(Fu hr).trans ((b9 hk).trans h)
theorem xI {k a}(hk:dS t k=ab)(h:ck k b=S a):b4 σ (.v (.aU t b)) k=S (.v a):=(b9 hk).trans (bP h)
theorem Nr (h:σ[r]?=S c):mM σ (.ref r) k x=match(generalizing:=false) c with
 | .lst xs=>match k with| .int i=>if 0<=i/\i<xs.length/\i<aE then S (σ.set r (.lst (xs.set i.toNat x)))else J|_=>J
 | .aU t a=>if dS t k/\a.length<aE then S (σ.set r (.aU t (ec k x a)))else J
 |_=>none:=aJ h rfl
theorem xJ {n}{x}(hr:σ[r]?=S (.lst xs))(hn:n<xs.length)(hl:n<aE):mM σ (.ref r) (nV n) x=S (σ.set r (.lst (xs.set n x))):=by
 have:n<(aE:Int):=by exact_mod_cast hl
 exact(Nr hr).trans (b9 ⟨mY _,by exact_mod_cast hn,this⟩)
theorem rB {k}{x}(hr:σ[r]?=S (.aU t ak))(hk:dS t k=ab)(hl:ak.length<aE):mM σ (.ref r) k x=S (σ.set r (.aU t (ec k x ak))):=(Nr hr).trans (b9 ⟨hk,hl⟩)
theorem Nt {x}(h:σ[n]?=S (.lst xs))(hl:xs.length<aE):gK σ .append (.ref n) [x]=S (.v .none,σ.set n (.lst (xs++ [x]))):=aJ h (b9 hl)
theorem gz (h:σ[n]?=S (.lst xs)):r7 σ (.ref n)=S "list" :=aJ h rfl
theorem Nu (h:σ[n]?=S (.aU t xs)):r7 σ (.ref n)=S "dict" :=aJ h rfl
theorem pT (h:σ[n]?=S (.lst xs)):vB σ (.ref n)=S xs.length:=aJ h rfl
theorem eC (hn:vB σ x=S n)(hl:n<aE):cB σ .len x=S (.val (nV n)):=aJ hn (b9 hl)
theorem AL (hl:xs.length<aE):cB σ .list (.v (.lst xs))=S (.items xs):=b9 hl
theorem Fw (hl:xs.length<aE):cB σ .list (.v (.tup xs))=S (.items xs):=b9 hl
theorem xK (hl:xs.length<aE):cB σ .tuple (.v (.lst xs))=S (.val (.tup xs)):=b9 hl
theorem Fx {f}{r:Option a}(h:f n=r):r6 (.v (.int n)) f=r:=h
theorem pU (h:az cl e ρ σ=S (.v (nV n),af))(hn:n<aE):ix cl (.range e) ρ σ=S ((List.range n).map nV,af):=by
 rw[(aeC _).symm]
 exact aJ h (Fx (b9 ⟨by exact_mod_cast hn,by lia⟩))
theorem aiG {c:Type}{a b:c}(h:S a=S b):a=b:=by lia
noncomputable def nz (m:Nat)(f:List Nat)(o:Nat):List Nat:=if(f.getD o 0).testBit m then f.set o (f.getD o 0|||f.getD m 0)else f
def pV (n:Nat)(f:List Nat)(m:Nat):List Nat:=(List.range n).foldl (nz m) f
def trans (dD:List Nat):List Nat:=(List.range dD.length).foldl (pV dD.length) dD
theorem Fy (m)(f)(o):(nz m f o).length=f.length:=by unfold nz;split<;>simp
theorem pW {A:Type}(g:List _->A->List Nat)(h:∀f a,(g f a).length=f.length)(l:List A):∀f,(l.foldl g f).length=f.length:=by
 induction l with
 |nil=>intro f;rfl
 |cons a l b=>intro f;rw[kW,b _,h _ _];rfl
theorem FA (n)(f)(m):(pV n f m).length=f.length:=pW _ (Fy m) _ _
theorem aeE (a):(trans a).length=a.length:=pW _ (FA _) _ _
theorem Nv:decide (x>>>m&&&1=1)=x.testBit m:=by simp
theorem getD_some {l:List _}{i}(h:i<l.length):l[i]?=S (l.getD i 0):=by
 simp[List.getD,du h]
theorem Nw {A:Type}(g)(f:A)(k):(List.range (k+1)).foldl g f=g ((List.range k).foldl g f) k:=by
 rw[kI,g8];rfl
def cN (f:List Nat):Cell:= .lst ((f.map nV).map .v)
theorem FC {f:List _}{i}(h:i<f.length):((f.map nV).map X.v)[i]?=S (.v (nV (f.getD i 0))):=by
 rw[bx,bx,getD_some h];rfl
theorem Nx {f:List _}{i v}:((f.map nV).map .v).set i (.v (nV v))=((f.set i v).map nV).map X.v:=by
 rw[xM,xM];rfl
theorem aeF {D}(Q:1<=D){dD}(hl:dD.length<aE)(σ):
 (aQ prog D).call 0 [.v (.lst (dD.map nV))] σ=S (.v (.lst ((trans dD).map nV)),σ):=by
 refine oO (ρ:= [S (.v (.lst (dD.map nV))),J,J,J]) Q rfl rfl rfl rfl (bz (Nf (rfl) (AL (by rw[aq _];assumption))) ?_)
 have L:∀f,f.length=dD.length->vB [cN f] (.ref 0)=S dD.length:=λf h=>by rw[pT rfl];simp[h]
 refine Fe nV dD.length (λk ρ σ=>∃y b,ρ= [S (.v (.lst (dD.map nV))),S (.ref 0),y,b]/\σ= [cN ((List.range k).foldl (pV dD.length) dD)]) (pU (cw (aa rfl) (eC (L _ rfl) hl)) hl) ⟨_,_,rfl,rfl⟩ ?_ ?_
 . intro m ρ σ hm O;refine dh O λy b c r=> ?_;clear O;subst c;subst r
   have H:((List.range m).foldl (pV dD.length) dD).length=dD.length:=pW _ (FA _) _ _
   rw[Nw _ _ _]
   generalize (List.range m).foldl (pV dD.length) dD=I at H ⊢
   refine⟨_,rfl,Fe nV dD.length (λk ρ σ=>∃b,ρ= [S (.v (.lst (dD.map nV))),S (.ref 0),S (.v (nV m)),b]/\σ= [cN ((List.range k).foldl (nz m) I)]) (pU (cw (aa rfl) (eC (L _ H) hl)) hl) ⟨_,rfl,rfl⟩ ?_ ?_⟩
   . intro o ρ σ u O;refine ah O λb c r=> ?_;clear O;subst c;subst r
     have x:((List.range o).foldl (nz m) I).length=dD.length:=by rw[pW _ (Fy m) _ _,H];rfl
     rw[Nw _ _ _]
     generalize (List.range o).foldl (nz m) I=a at x ⊢
     refine⟨_,rfl,?_⟩
     have U:b4 [cN a] (.ref 0) (nV o)=_:=lx rfl (gh u hl) (FC (x▸u))
     have Y:b4 [cN a] (.ref 0) (nV m)=_:=lx rfl (gh hm hl) (FC (x▸hm))
     have b1:= @Nm (a.getD o 0) m
     have b2:= @Nl (a.getD o 0>>>m) 1
     have b3:= @AJ (a.getD o 0) (a.getD m 0)
     have c1:cO [cN a] .eq (.v (nV (a.getD o 0>>>m&&&1))) (.v (.int 1))=S ((a.getD o 0).testBit m):=Zrr Nv.symm tf
     refine jV (br (b_ (b_ (bu (aa rfl) (aa rfl) ‹_›) (aa rfl) ‹_›) aP ‹_›) aP ‹_›) ?_ ?_ λ_ _ h=>bo h
     . refine λq=>jU (b_ (bu (aa rfl) (aa rfl) ‹_›) (bu (aa rfl) (aa rfl) ‹_›) ‹_›) (rfl) (rfl) (xJ rfl (by simpa [x]using u) (gh u hl)) (bo ⟨_,rfl,?_⟩)
       rewrite[nz];rw[if_pos q,Nx];rfl
     . refine λq=>bo ⟨_,rfl,?_⟩
       rewrite[nz];exact Zrr (if_neg (by exact Zrr q gr)) rfl
   . intro ρ σ O;refine ah O λb c r=> ?_;clear O;subst c;subst r
     exact bo ⟨_,_,rfl,rfl⟩
 . intro ρ σ O;refine dh O λy b c r=> ?_;clear O;subst c;subst r
   exact cb (aa rfl) ⟨_,jn rfl⟩
set_option genInjectivity false in
structure Gm where
 fI:List (List Nat)
 nT:Nat
 rs:List (Nat×List Nat)
noncomputable def nR (G:Gm):Nat:=G.rs.length
noncomputable def lhs (G:Gm)(r:Nat):Nat:=(G.rs.getD r (0,[])).1
noncomputable def rhs (G:Gm)(r:Nat):List Nat:=(G.rs.getD r (0,[])).2
noncomputable def nm (G:Gm)(x:Nat):List Nat:=G.fI.getD x []
noncomputable def nS (G:Gm):Nat:=G.fI.length
noncomputable def lA (l:List (Nat×List Nat))(r:Nat):Nat:=((l.take r).map λp=>p.2.length+1).sum
def off (G:Gm)(r:Nat):Nat:=lA G.rs r
noncomputable def pX:Nat->List (Nat×List Nat)->List Nat
 |_,[]=> []
 |k,p::l=>List.replicate (p.2.length+1) k++pX (k+1) l
theorem FD:pX k (p::l)= .replicate (p.2.length+1) k++pX (k+1) l:=rfl
def ma (G:Gm):List Nat:=pX 0 G.rs
def fu (G:Gm)(x:Nat):List Nat:=(List.range (nR G)).filter λr=>lhs G r==x
noncomputable def pY (nT:Nat)(l:List Nat):Int:=l.foldl (λf x=>if x<nT then(x:Int)else f) (-1)
def fJ (G:Gm)(r:Nat):V:= .obj 0 [(0,nV r),(1,nV (lhs G r)),(2,.tup ((rhs G r).map nV)),(3,.int (pY G.nT (rhs G r))),(4,.none),(5,.int 0),(6,.int 0)]
def vG (G:Gm):V:= .obj 1 [(7,.lst (G.fI.map .str)),(8,nV G.nT),(9,.lst ((List.range (nR G)).map (fJ G))),(10,.aU .str []),(11,.none),(12,nV (G.nT+1)),
 (13,.lst ((List.range (nS G)).map λx=> .lst ((fu G x).map nV))),(14,.lst ((List.range (nR G)).map λr=>nV (off G r))),(15,.lst ((ma G).map nV)),(16,nV (ma G).length)]
structure WF (G:Gm):Prop where
 nd:G.fI.Nodup
 ok:∀s∈G.fI,mI s=ab/\s.length<=10
 big:nS G<=9
 n0:G.fI[0]?=S [36,101,110,100]
 n1:G.fI[1]?=S [101,114,114,111,114]
 nA:G.fI[G.nT]?=S [36,97,99,99,101,112,116]
 nB:G.fI[G.nT+1]?=S [83]
 tT:3<=G.nT
 r0:G.rs[0]?=S (G.nT,[G.nT+1,0])
 rl:∀r,0<r->r<nR G->G.nT<lhs G r/\lhs G r<nS G/\(rhs G r).length<=3/\∀x∈rhs G r,x<nS G/\x≠0/\x≠1/\x≠G.nT
 nr:nR G<=7
 Ny:∀A,G.nT<A->A<nS G->∃r,r<nR G/\lhs G r=A/\∀x∈rhs G r,x<G.nT
def Vd (G:Gm)(p:Nat×Nat):Prop:=p.1<nR G/\p.2<=(rhs G p.1).length
def gB (G:Gm)(p:Nat×Nat):Nat:=off G p.1+p.2
def cK (G:Gm)(p:Nat×Nat):Option Nat:=(rhs G p.1)[p.2]?
def gE (o:Option Nat):V:=match o with|some x=>nV x|none=> .int (-1)
theorem nC {r}(h:r<nR G):G.rs[r]?=S (lhs G r,rhs G r):=by
 rw[a h];rfl
where
 a {b:Type} {l:List b} {i:Nat} {d:b} (h:i<l.length):l[i]?=S (l.getD i d):=by
  rewrite[List.getD];rw[du h];rfl
theorem pZ {x}(h:x<nS G):G.fI[x]?=S (nm G x):=by
 rw[nm,List.getD,du h];rfl
theorem WF.xN (w:WF G):0<nR G:=by
 have:=w.r0
 rw[dk]at this
 exact this.1
theorem WF.oQ (w:WF G):lhs G 0=G.nT/\rhs G 0= [G.nT+1,0]:=by
 have:=nC w.xN
 rw[w.r0]at this
 simp at this
 exact⟨this.1.symm,this.2.symm⟩
theorem WF.AN (w:WF G):G.nT+1<nS G:=by
 have:=w.nB
 rw[dk]at this
 exact this.1
theorem WF.len (w:WF G){r}(h:r<nR G):(rhs G r).length<=3:=by
 rcases r.eq_zero_or_pos with rfl|q
 . rw[w.oQ.2];simp
 exact(w.rl r q h).2.2.1
theorem WF.sym (w:WF G){r}(h:r<nR G):∀x∈rhs G r,x<nS G/\x≠1/\x≠G.nT:=by
 rcases r.eq_zero_or_pos with rfl|q
 . rw[w.oQ.2]
   intro x hx
   have:=w.AN
   have:=w.tT
   simp at hx
   rcases hx with rfl|rfl<;>(refine⟨?_,?_,?_⟩<;>(first|assumption|lia))
 exact λx hx=>have:=(w.rl r q h).2.2.2 x hx;⟨this.1,this.2.2.1,this.2.2.2⟩
theorem WF.jY (w:WF G){r}(h:r<nR G):G.nT<=lhs G r/\lhs G r<nS G:=by
 rcases r.eq_zero_or_pos with rfl|q
 . rw[w.oQ.1]
   have:=w.AN
   exact UC this
 . have:=w.rl r q h
   exact⟨(bX this.1),this.2.1⟩
theorem aeH:∀(l:List _) (k r d:Nat) (p:Nat×List _),l[r]?=S p->d<=p.2.length->(pX k l)[lA l r+d]?=S (k+r):=by
 intro b
 induction b with
 |nil=>exact λ_ _ _ _ h=>nomatch h
 |cons q l c=>
  intro k r d p h a
  cases r with
  |zero=>
   cases h
   have e:lA (q::l) 0+d=d:=d.zero_add
   rw[e];refine Zrr (eR (by rw[AO];exact pH a)) ?_;rw[Am,if_pos (pH a)];rfl
  |succ r=>
   have e:lA (q::l) (r+1)+d=q.2.length+1+ (lA l r+d):=(q.2.length+1).add_assoc (lA l r) d
   rw[e];refine Zrr (iG (by simp)) ?_;rw[AO,l7 _ _];rewrite[c _ r d p h a];rw[EW _ _ _];rfl
theorem aeI (h:Vd G p):(ma G)[gB G p]?=S p.1:=by
 have:=aeH _ 0 _ _ _ (nC h.1) h.2
 rw[fc]at this
 exact this
theorem aeJ (l)(h:∀p∈l,p.2.length<=3):∀r,lA l r<=4*r:=by
 induction l with
 |nil=>intro r;simp[lA]
 |cons q l a=>
  intro r
  cases r with
  |zero=>simp[lA]
  |succ r=>
   have e:lA (q::l) (r+1)=q.2.length+1+lA l r:=rfl
   have:=a (λp b=>h p (by simp[b])) r
   have:=h q (by simp)
   exact S3 e ‹_› this
theorem WF.Nz (w:WF G)(r):off G r<=4*r:=by
 refine aeJ _ (λp c=>ao (w8 c) λi b=>ao b λa e=> ?_) r;clear b
 have:=nC a
 rw[du a,e]at this
 simp at this
 subst this
 exact w.len a
theorem WF.aeK (w:WF G){p}(h:Vd G p):gB G p<100:=by
 have:=w.Nz p.1
 have:=w.len h.1
 have:=w.nr
 have:=h.1
 have:=h.2
 unfold gB
 exact RO ‹_› ‹_› ‹_› ‹_› this
theorem xO {σ}:ef σ (.v (vG G)) 7=S (.v (.lst (G.fI.map .str))):=rfl
theorem aiH {σ}:ef σ (.v (vG G)) 8=S (.v (nV G.nT)):=rfl
theorem xP {σ}:ef σ (.v (vG G)) 9=S (.v (.lst ((List.range (nR G)).map (fJ G)))):=rfl
theorem aiI {σ}:ef σ (.v (vG G)) 13=S (.v (.lst ((List.range (nS G)).map λx=> .lst ((fu G x).map nV)))):=rfl
theorem aiJ {σ}:ef σ (.v (vG G)) 14=S (.v (.lst ((List.range (nR G)).map λr=>nV (off G r)))):=rfl
theorem aiK {σ}:ef σ (.v (vG G)) 15=S (.v (.lst ((ma G).map nV))):=rfl
theorem jr {σ}:n7 σ (.v (vG G))=S 1:=rfl
theorem NA {σ}:ef σ (.v (fJ G r)) 0=S (.v (nV r)):=rfl
theorem FE {σ}:ef σ (.v (fJ G r)) 1=S (.v (nV (lhs G r))):=rfl
theorem xQ {σ}:ef σ (.v (fJ G r)) 2=S (.v (.tup ((rhs G r).map nV))):=rfl
theorem AP (w:WF G){σ}{r}(h:r<nR G):b4 σ (.v (.lst ((List.range (nR G)).map (fJ G)))) (nV r)=S (.v (fJ G r)):=jq (aw (by have:=w.nr;exact dq (dM h this) (by decide))) (by simp[h])
theorem FG (w:WF G){σ}{r}(h:r<nR G):b4 σ (.v (.lst ((List.range (nR G)).map λr=>nV (off G r)))) (nV r)=S (.v (nV (off G r))):=jq (aw (by have:=w.nr;exact dq (dM h this) (by decide))) (by simp[h])
theorem aeL (w:WF G){σ}{x}(h:x<nS G):b4 σ (.v (.lst ((List.range (nS G)).map λx=> .lst ((fu G x).map nV)))) (nV x)=S (.v (.lst ((fu G x).map nV))):=jq (aw (by have:=w.big;exact dq (dM h this) (by decide))) (by simp[h])
theorem FH (w:WF G){σ}{p}(h:Vd G p):b4 σ (.v (.lst ((ma G).map nV))) (nV (gB G p))=S (.v (nV p.1)):=jq (aw (by have:=w.aeK h;exact dq this (by decide))) (by simp[aeI h])
theorem AQ (w:WF G){σ}{x}(h:x<nS G):b4 σ (.v (.lst (G.fI.map .str))) (nV x)=S (.v (.str (nm G x))):=jq (aw (by have:=w.big;exact dq (dM h this) (by decide))) (by simp[pZ h])
variable {G:Gm} {D:Nat}
theorem aeM (w:WF G)(a:1<=D):(aQ prog D).call 4 [.v (vG G)] σ=S (.v (nV (nS G)),σ):=oO (ρ:= [S _]) a rfl rfl rfl rfl (have e:∀σ,cB σ _ (.v (.lst _))=S (.val (nV (nS G))):=λσ=>eC (by rewrite[nS];rw[aq (f:=V.str).symm];rfl) (aw (by have:=w.big;exact bw this (by decide)));cb (cw (a_ (aa rfl) (by apply_assumption)) (by apply_assumption)) (c8 rfl))
theorem aeN (w:WF G){x}(hx:x<nS G)(a:1<=D):(aQ prog D).call 6 [.v (vG G),.v (nV x)] σ=S (.v (.lst ((fu G x).map nV)),σ):=oO a rfl rfl rfl rfl (have i:=λσ=>aeL (σ:=σ) w hx;have e:∀σ,cB σ _ _=S (.items ((fu G x).map nV)):=λσ=>AL (aw (by
 have:=jZ (λr=>lhs G r==x) (.range (nR G))
 have:=w.nr
 rw[aq _];rewrite[fu]
 rw[cP]at*
 lia));cb (iI (bu (a_ (aa rfl) (by apply_assumption)) (aa rfl) (by apply_assumption)) (by apply_assumption)) (c8 rfl))
theorem u3 (w:WF G){r d}(hr:r<nR G)(a:1<=D):(aQ prog D).call 7 [.v (vG G),.v (nV r),.v (nV d)] σ=S (.v (nV (gB G (r,d))),σ):=oO a rfl rfl rfl rfl (have i:=λσ=>FG (σ:=σ) w hr;have b:= @nu;cb (b_ (bu (a_ (aa rfl) (by apply_assumption)) (aa rfl) (by apply_assumption)) (aa rfl) (by apply_assumption)) (c8 rfl))
theorem AR (w:WF G){p}(h:Vd G p)(a:1<=D):(aQ prog D).call 8 [.v (vG G),.v (nV (gB G p))] σ=S (.v (nV p.1),σ):=oO a rfl rfl rfl rfl (have i:=λσ=>FH (σ:=σ) w h;cb (bu (a_ (aa rfl) (by apply_assumption)) (aa rfl) (by apply_assumption)) (c8 rfl))
theorem NB:cV .sub (nV (gB G p)) (nV (off G p.1))=S (nV p.2):=(AI ((off G _).le_add_right _)).trans (congrArg (λn=>S _) (l7 _ _))
theorem FI (w:WF G){p}(h:Vd G p)(a:1<=D):(aQ prog D).call 9 [.v (vG G),.v (nV (gB G p))] σ=S (.v (nV p.2),σ):=oO a rfl rfl rfl rfl (have i:=λσ=>FH (σ:=σ) w h;have c:=λσ=>FG (σ:=σ) w h.1;have b:=NB;cb (b_ (aa rfl) (bu (a_ (aa rfl) (by apply_assumption)) (bu (a_ (aa rfl) (by apply_assumption)) (aa rfl) (by apply_assumption)) (by apply_assumption)) ‹_›) (c8 rfl))
theorem FJ (w:WF G){p}(h:Vd G p)(a:1<=D):(aQ prog D).call 10 [.v (vG G),.v (nV (gB G p))] σ=S (.v (gE (cK G p)),σ):=by
 refine oO a rfl rfl rfl rfl ?_
 have i:=λσ=>FH (σ:=σ) w h
 have k:=λσ=>FG (σ:=σ) w h.1
 have o:=λσ=>AP (σ:=σ) w h.1
 have b:cV .sub (nV (gB G p)) (nV (off G p.1))=S (nV p.2):=NB
 have hl:(rhs G p.1).length<aE:=aw (by have:=w.len h.1;exact bw this (by decide))
 have e:∀σ,cB σ .len (.v (.tup ((rhs G p.1).map nV)))=S (.val (nV (rhs G p.1).length)):=λσ=>eC (congrArg S (aq _)) hl
 refine bz (a_ (bu (a_ (aa rfl) (by apply_assumption)) (bu (a_ (aa rfl) (by apply_assumption)) (aa rfl) (by apply_assumption)) (by apply_assumption)) (by apply_assumption)) (bz (b_ (aa rfl) (bu (a_ (aa rfl) (by apply_assumption)) (bu (a_ (aa rfl) (by apply_assumption)) (aa rfl) (by apply_assumption)) (by apply_assumption)) ‹_›) ?_)
 have c:∀σ,cO σ .lt (.v (nV p.2)) (.v (nV (rhs G p.1).length))=_:=λσ=>pS
 by_cases q:p.2<(rhs G p.1).length
 . rw[decide_eq_true q]at c
   exact have g:cK G p=S ((rhs G p.1)[p.2]):=du q;have r:∀σ,b4 σ (.v (.tup ((rhs G p.1).map nV))) (nV p.2)=S (.v (gE (cK G p))):=λσ=>xH (gh q hl) (by rw[bx,du q,g];rfl);cb (AE (br (aa rfl) (cw (aa rfl) (by apply_assumption)) (by apply_assumption)) (bu (aa rfl) (aa rfl) (by apply_assumption))) (c8 rfl)
 . rw[decide_eq_false q]at c
   have g:cK G p=none:=eX (fB q)
   exact cb (AF (br (aa rfl) (cw (aa rfl) (by apply_assumption)) (by apply_assumption)) aP) (c8 (by rw[g];rfl))
theorem aeO (w:WF G){p}(h:Vd G p)(k:2<=D):(aQ prog D).call 22 [.v (vG G),.v (nV (gB G p))] σ=S (.v (nV (gB G (p.1,p.2+1))),σ):=oO (d0 yqL k) rfl rfl rfl rfl (have a:1<=D - 1:=yoI k;have o:=λσ=>AR (σ:=σ) w h a;have q:=λσ=>FI (σ:=σ) w h a;have r:=λσ=>u3 (σ:=σ) (d:=p.2+1) w h.1 a;have b:= @nu _ 1;have c:=λσ=>jr (G:=G) (σ:=σ);cb (cX (aa rfl) (by apply_assumption) (aj (cX (aa rfl) (by apply_assumption) (aj (aa rfl) aA) (by apply_assumption)) (aj (b_ (cX (aa rfl) (by apply_assumption) (aj (aa rfl) aA) (by apply_assumption)) aP ‹_›) aA)) (by apply_assumption)) (c8 rfl))
theorem eq_str (a b):gJ (.str a) (.str b)=decide (a=b):=rfl
theorem AU (w:WF G){x}(hx:x<nS G)(a:1<=D):(aQ prog D).call 5 [.v (vG G),.v (.str (nm G x))] σ=S (.v (nV x),σ):=by
 refine oO a rfl rfl rfl rfl ?_
 have mem:=eY (pZ hx)
 exact have k:∀σ,cO σ .isIn (.v (.str (nm G x))) (.v (.lst (G.fI.map .str)))=S true:=λσ=>(b9 ⟨((w.ok _ mem).1),(by
  simp only[nD,cF]
  exact λs b=>(w.ok _ b).1)⟩).trans (congrArg S (by
  simp only[yS,Ak,Function.comp_apply,eq_str,decide_eq_true_eq]
  exact⟨_,mem,rfl⟩));have o:∀σ,gK σ .index (.v (.lst (G.fI.map .str))) [.v (.str (nm G x))]=S (.v (nV x),σ):=λσ=>bP ((b9 ⟨rfl,H_,(aw (by have:=w.big;unfold nS at this;simp;lia))⟩).trans (by
  refine Zrr (propext Kx) ⟨by simpa [nS]using hx,?_,?_⟩
  . simp only[AV,eq_str,decide_eq_true_eq]
    have:=pZ hx
    rw[du hx]at this
    exact je this
  . intro j c
    simp only[AV,eq_str,decide_eq_true_eq]
    intro e
    have:=pZ hx
    rw[du hx,<-e]at this
    have:=(FK w.nd).mp (je this)
    exact SP c this));have t:∀σ,r7 σ (.v (.lst (G.fI.map .str)))=S mF.index.ty:=λ_=>rfl;cb (AE (br (aa rfl) (a_ (aa rfl) (by apply_assumption)) (by apply_assumption)) (d9 (a_ (aa rfl) (by apply_assumption)) (by apply_assumption) (aj (aa rfl) aA) (by apply_assumption))) (c8 rfl)
inductive gF (G:Gm):List Nat->Nat->Prop
 |top:gF G [] G.nT
 |go {α β γ:List Nat} {r A:Nat}:gF G α (lhs G r)->r<nR G->rhs G r=β++A::γ->gF G (α++β) A
def VP (G:Gm)(w:List Nat)(p:Nat×Nat):Prop:=∃a,gF G a (lhs G p.1)/\Vd G p/\w=a++ (rhs G p.1).take p.2
def bE (G:Gm)(w:List Nat):Prop:=∃p,VP G w p
theorem VP.vd (h:VP G w p):Vd G p:=by
 revert h;intro O;exact cD O λa _ h _=>h
theorem take_snoc {a:Type}{l:List a}{d}(h):l.take (d+1)=l.take d++ [l[d]]:=by simp
theorem rC {X r d}:VP G (w++ [X]) (r,d+1)↔VP G w (r,d)/\cK G (r,d)=S X:=by
 constructor
 . intro O;refine cD O λk o b c=> ?_;have a:d<(rhs G r).length:=b.2
   rw[take_snoc a,<-bM]at c
   have:=rf c rfl
   refine⟨⟨k,o,⟨b.1,(bX ‹_›)⟩,this.1⟩,?_⟩
   simp only[cK]
   rw[du a]
   have:=this.2
   simp at this
   rw[this];rfl
 . intro O;refine au O λu q=>cD u λk o b c=> ?_;simp only[cK]at q
   rw[dk]at q
   refine ao q λa e=>⟨k,o,⟨b.1,a⟩,?_⟩
   rw[take_snoc a,(bM _ _ _).symm,c.symm,e];rfl
theorem th:VP G w (r,0)↔gF G w (lhs G r)/\r<nR G:=by
 constructor
 . intro O;refine cD O λk a b c=> ?_;simp at c
   exact Zrr c ⟨a,b.1⟩
 . intro O;exact au O λa b=>⟨w,a,⟨b,dO _⟩,by simp⟩
theorem xR (h:VP G w p)(ha:cK G p=S A):gF G w A:=by
 refine cD h λk a b O=> ?_;clear h;subst O
 rw[cK,dk]at ha
 refine ao ha λc e=> .go (γ:=(rhs G p.1).drop (p.2+1)) a b.1 ?_
 rw[e.symm,(ov c).symm,i6 _ _];rfl
theorem AW {r A}(h:gF G b (lhs G r))(hr:r<nR G)(e:rhs G r=a++A::γ):
 VP G (b++a) (r,a.length)/\cK G (r,a.length)=S A:=by
 refine⟨⟨b,h,⟨hr,by simp[e]⟩,by simp[e]⟩,by simp[cK,e]⟩
theorem FL (h:gF G w A):w= []/\A=G.nT\/∃p,VP G w p/\cK G p=S A:=by
 cases h with
 |top=>exact .inl ⟨rfl,rfl⟩
 |go a b c=>exact .inr ⟨_,AW a b c⟩
theorem AX (h:cK G p=S A):A∈rhs G p.1:=eY h
theorem NC (wf:WF G){w}(h:gF G w G.nT):w= []:=by
 rcases FL h with h| ⟨p,a,b⟩
 . exact h.1
 exact absurd rfl (wf.sym a.vd.1 _ (AX b)).2.2
theorem aeP:¬VP G [] (r,d+1):=by
 intro O;refine cD O λc _ a b=> ?_;have:=congrArg List.length b
 have k:=a.2
 simp at this
 lia
theorem rD (wf:WF G){w}:VP G w (0,0)↔w= []:=by
 rw[th,wf.oQ.1]
 constructor
 . intro h;exact NC wf h.1
 . intro O;subst O;exact⟨.top,wf.xN⟩
theorem xS (wf:WF G):bE G []:=⟨_,(rD wf).mpr rfl⟩
theorem aeQ (h:gF G b A):∀w X,b=w++ [X]->∃p,VP G w p/\cK G p=S X:=by
 induction h with
 |top=>intro w X e;simp at e
 | @go x c γ r A k o q u=>
  intro w X e
  rcases c.eq_nil_or_concat with rfl| ⟨y,Y,rfl⟩
  . rw[dg]at e
    exact u w X e
  . rw[AY,<-bM]at e
    have:=rf e rfl
    have a:=this.2
    simp at a
    subst a
    refine Zrr this.1.symm ⟨_,AW k o (γ:=A::γ) ?_⟩
    rw[q];simp
theorem oR {X}:bE G (w++ [X])↔∃p,VP G w p/\cK G p=S X:=by
 constructor
 . intro O;refine ao O λa h=> ?_;obtain ⟨r,d⟩:=a
   cases d with
   |zero=>exact aeQ (th.mp h).1 w X rfl
   |succ d=>exact⟨_,rC.mp h⟩
 . intro O;refine ao O λa h=> ?_;obtain ⟨r,d⟩:=a
   exact⟨_,rC.mpr h⟩
theorem ti {X}(h:bE G (w++ [X])):bE G w:=ah (oR.mp h) λp h _=>⟨p,h⟩
theorem xT (wf:WF G){w}{X}(h:bE G (w++ [X])):X<nS G/\X≠1/\X≠G.nT:=ah (oR.mp h) λp a b=>wf.sym a.vd.1 _ (AX b)
theorem AZ (wf:WF G){r}(h:r<nR G)(e:lhs G r=G.nT):r=0:=by
 rcases r.eq_zero_or_pos with q|q
 . exact q
 . have:=(wf.rl r q h).1;exact Uo e this
noncomputable def p5:Nat->List (Nat×List Nat)->List (Nat×Nat)
 |_,[]=> []
 |k,p::l=>(List.range (p.2.length+1)).map (λd=>(k,d))++p5 (k+1) l
theorem FN:p5 k (p::l)=(List.range (p.2.length+1)).map (λd=>(k,d))++p5 (k+1) l:=rfl
def tj (G:Gm):List (Nat×Nat):=p5 0 G.rs
theorem NF:∀(l:List _) (k:Nat) (p:Nat×Nat),p∈p5 k l↔∃i q,p.1=k+i/\l[i]?=S q/\p.2<=q.2.length:=by
 intro r
 induction r with
 |nil=>
  exact λk p=>⟨λh=>(nomatch h),(bp · λ_ _ _ h _=>nomatch h)⟩
 |cons q l u=>
  intro k p
  rw[FN,propext b8,propext (u _ p)]
  constructor
  . rintro (h| ⟨i,c,b,a,o⟩)
    . simp at h
      revert h;intro O;refine ah O λd h x=> ?_;clear O;subst x
      exact⟨0,q,rfl,rfl,(fA ‹_›)⟩
    exact⟨i+1,c,Uj b,by simpa using a,o⟩
  . intro O;refine bp O λi c b a o=> ?_;cases i with
    |zero=>
     simp at a;subst a
     refine .inl ?_
     simp
     exact⟨_,pH ‹_›,by ext<;>simp;exact Uk b⟩
    |succ i=>exact .inr ⟨i,c,Ul b,by simpa using a,o⟩
theorem NG:p∈tj G↔Vd G p:=by
 rw[tj,NF]
 constructor
 . intro O;refine bp O λi q b a k=> ?_;have c:=by
    rw[dk]at a;exact a.1
   rw[nC c]at a
   simp at a
   subst a
   have:p.1=i:=TJ b
   rewrite[Vd];exact Zrr this ⟨c,k⟩
 . intro O;exact au O λb a=>⟨_,_,TK,nC b,a⟩
def ip (p q:Nat×Nat):Prop:=p.1<q.1\/(p.1=q.1/\p.2<q.2)
theorem aeR:∀(l:List _) (k:Nat) (p:Nat×Nat),p∈p5 k l->k<=p.1:=by
 intro l k p h
 rw[NF]at h
 revert h;intro O;exact dh O λi q h _=>(Rz h)
theorem aeS:∀(l:List _) (k:Nat),(p5 k l).Pairwise ip:=by
 intro c
 induction c with
 |nil=>
  exact λk=> .nil
 |cons q l o=>
  refine λk=>Zrr (propext gf) ⟨Zrr (propext i7) (NH.imp λh=> .inr ⟨rfl,h⟩),o _,?_⟩
  . intro a ha b hb
    simp at ha
    refine ah ha λd _ O=> ?_;clear ha;subst O
    exact have:=aeR _ _ _ hb;.inl (this)
theorem aeT (G):(tj G).Pairwise ip:=aeS _ _
theorem NI {r}(h:r<nR G):off G (r+1)=off G r+ ((rhs G r).length+1):=by
 unfold off lA
 rw[FO,nC h]
 simp
theorem aeU {r s}(h:r<=s):off G r<=off G s:=by
 induction h with
 |refl=>exact bb _
 | @step m hm a=>
  refine ba a ?_
  rcases m.lt_or_ge _ with q|q
  . rw[NI q];exact dH _ _
  . unfold off lA
    rw[gb q];exact Zrr (gb (k9 q)) (bb _)
theorem xU (a:Vd G p)(h:ip p q):gB G p<gB G q:=by
 unfold gB
 rcases h with h| ⟨b,c⟩
 . have:=aeU (G:=G) h
   rw[NI a.1]at this
   exact d0 (i5 (pH a.2) _) (ba this (dH ..))
 exact b▸i5 c _
theorem NJ:ip p q\/p=q\/ip q p:=
 (ypQ p.1 q.1).elim (λh=> .inl (.inl h)) λh=>h.elim (λe=>(ypQ p.2 q.2).elim (λh=> .inl (.inr ⟨e,h⟩)) λh=>h.elim (λf=> .inr (.inl (wb e f))) λh=> .inr (.inr (.inr ⟨e.symm,h⟩))) λh=> .inr (.inr (.inl h))
theorem NK (a:Vd G p)(b:Vd G q)(h:gB G p=gB G q):p=q:=by
 rcases NJ (q:=q)with l|e|l
 . have:=xU a l;exact Rt h this
 . exact e
 . have:=xU b l;exact Ru h this
theorem aiL (a:Vd G p)(b:Vd G q):gB G p<gB G q↔ip p q:=by
 constructor
 . intro h
   rcases NJ with l|e|l
   . exact l
   . subst e;exact Rv h
   . have:=xU b l;exact Rw h this
 exact xU a
theorem FP:¬ip p p:=by simp[ip]
theorem rE {l:List _}(h:l.Pairwise ip):l.Nodup:=h.imp λ{a b} h e=>by subst e;exact FP h
theorem aeV (h:ip p q):¬ip q p:=λk=>h.elim (λh=>k.elim (K6 h) λk=>fO h k.1) λh=>k.elim (λk=>fO k h.1) λk=>K6 h.2 k.2
theorem FQ:∀ {l m:List _},l.Pairwise ip->m.Pairwise ip->(∀p,p∈l↔p∈m)->l=m:=by
 intro o
 induction o with
 |nil=>exact λ{m} _ _ h=>(ylF.mpr λp c=>nomatch (h p).mpr c).symm
 |cons a l r=>
  intro m hl hm h
  cases m with
  |nil=>exact nomatch (h a).mp cT
  |cons b m=>
   have hl:=s6.mp hl
   have hm:=s6.mp hm
   have e:a=b:=(cy.mp ((h a).mp cT)).elim (λq=>q) λq=>(cy.mp ((h b).mpr cT)).elim (λk=>k.symm) λk=>absurd (hl.1 b k) (aeV (hm.1 a q))
   subst e
   rewrite[r hl.2 hm.2 λp=>⟨λc=>(cy.mp ((h p).mp (dA _ c))).resolve_left λq=>FP (q▸hl.1 p c),λc=>(cy.mp ((h p).mpr (dA _ c))).resolve_left λq=>FP (q▸hm.1 p c)⟩];rfl
open Classical in
def bD (G:Gm)(w:List Nat):List (Nat×Nat):=(tj G).filter λp=>decide (VP G w p)
noncomputable def gg (p:Nat×Nat):Bool:=decide (0<p.2)||decide (p.1=0)
def aW (G:Gm)(w:List Nat):List (Nat×Nat):=(bD G w).filter gg
theorem kJ:p∈bD G w↔VP G w p:=by
 simp only[bD,fK,decide_eq_true_eq,NG]
 exact⟨λh=>h.2,λh=>⟨h.vd,h⟩⟩
theorem js:p∈aW G w↔VP G w p/\gg p=true:=by
 simp only[aW,fK,kJ]
theorem me (G)(w):(bD G w).Pairwise ip:=(aeT G).filter _
theorem rF (G)(w):(aW G w).Pairwise ip:=(me G w).filter _
theorem aeW (wf:WF G){w c}(h:∀p,gg p=ab->VP G w p->VP G c p){o}{A}(v:gF G o A):o=w->A≠G.nT->gF G c A:=by
 induction v with
 |top=>intro _ q;exact absurd rfl q
 | @go I x L r A y a u H=>
  intro e q
  have b:=AW y a u
  rw[e]at b
  by_cases k:gg (r,x.length)=ab
  . exact xR (h _ k b.1) b.2
  . simp[gg]at k
    refine au k λO hr=> ?_;clear k;subst O
    rw[dg]at e
    have:=H e λq=>hr (AZ wf a q)
    have:=this.go a u
    rwa[dg]at this
theorem NL (wf:WF G){w a}(h:∀p,gg p=ab->VP G w p->VP G a p){p}(v:VP G w p):VP G a p:=by
 by_cases k:gg p=ab
 . exact h p k v
 . obtain ⟨r,d⟩:=p
   simp[gg]at k
   refine au k λO hr=> ?_;clear k;subst O
   rw[th]at v ⊢
   exact⟨aeW wf h v.1 rfl λq=>hr (AZ wf v.2 q),v.2⟩
theorem NP (e:aW G w=aW G a):∀p,gg p=ab->VP G w p->VP G a p:=by
 intro p k v
 have:=js.mpr ⟨v,k⟩
 rw[e,js]at this
 exact this.1
theorem NQ (wf:WF G){w a}(e:aW G w=aW G a):bD G w=bD G a:=by
 refine FQ (me G w) (me G a) λp=> ?_
 rw[kJ];exact Zrr (propext kJ) ⟨NL wf (NP e),NL wf (NP e.symm)⟩
theorem FR (e:bD G w=bD G a):aW G w=aW G a:=by rewrite[aW];rw[e];rfl
theorem A0 (e:bD G w=bD G a){p}:VP G w p↔VP G a p:=by rw[kJ.symm,e,propext kJ];rfl
theorem aeX (e:bD G w=bD G a):bE G w↔bE G a:=by
 constructor<;>(intro O;refine ao O λp h=> ?_)
 . exact⟨p,(A0 e).mp h⟩
 exact⟨p,(A0 e).mpr h⟩
theorem NR (wf:WF G){w a}(e:bD G w=bD G a)(X):aW G (w++ [X])=aW G (a++ [X]):=by
 refine FQ (rF G _) (rF G _) λp=> ?_
 rw[js,propext js]
 obtain ⟨r,d⟩:=p
 cases d with
 |zero=>
  by_cases hr:r=0
  . subst hr
    rw[rD wf,propext (rD wf)]
    simp
  simp[gg,hr]
 |succ d=>rw[rC,propext rC,propext (A0 e)];rfl
theorem u4 (e:bD G w=bD G a)(X):bE G (w++ [X])↔bE G (a++ [X]):=by
 rw[oR,propext oR]
 simp only[A0 e]
theorem aeY {X}(h:bE G (w++ [X])):∃r d,(r,d+1)∈aW G (w++ [X])/\VP G w (r,d)/\cK G (r,d)=S X:=by
 refine ah (oR.mp h) λO a b=> ?_;obtain ⟨r,d⟩:=O
 exact⟨r,d,js.mpr ⟨rC.mpr ⟨a,b⟩,rfl⟩,a,b⟩
theorem aeZ {X Y}(h:bE G (w++ [X]))(e:aW G (w++ [X])=aW G (v++ [Y])):X=Y:=by
 refine bp (aeY h) λr d a _ b=> ?_
 rw[e,js]at a
 have:=(rC.mp a.1).2
 rw[b]at this
 exact je this
theorem aiM (wf:WF G){w}{X}:aW G (w++ [X])≠aW G []:=by
 intro e
 have:=js.mpr ⟨(rD wf).mpr rfl,rfl⟩
 rw[<-e,js,rD wf]at this
 simp at this
open Classical in
def bS (G:Gm)(w:List Nat):List Nat:=(List.range (nS G)).filter λX=>decide (bE G (w++ [X]))
def addW (G:Gm)(l:List (List Nat))(y:List Nat):List (List Nat):=if aW G y∈l.map (aW G)then l else l++ [y]
def c_ (G:Gm)(l:List (List Nat))(w:List Nat)(a:List Nat):List (List Nat):=a.foldl (λl X=>addW G l (w++ [X])) l
noncomputable def Bq (G:Gm):Nat->List (List Nat)
 |0=> [[]]
 |a+1=>((Bq G a)[a]?).elim (Bq G a) λw=>c_ G (Bq G a) w (bS G w)
theorem p6 (e:(Bq G a)[a]?=o):Bq G (a+1)=o.elim (Bq G a) λw=>c_ G (Bq G a) w (bS G w):=e▸rfl
theorem i8 (wf:WF G){w}{X}:X∈bS G w↔bE G (w++ [X]):=by
 simp only[bS,fK,gw,decide_eq_true_eq]
 exact⟨λh=>h.2,λh=>⟨(xT wf h).1,h⟩⟩
structure BI (G:Gm)(l:List (List Nat)):Prop where
 nd:(l.map (aW G)).Nodup
 u5:∀w∈l,bE G w
theorem FT {l}{y}:l<+:addW G l y:=by
 unfold addW
 split
 . exact FU
 exact tm _ _
theorem p7:∀(a:List _) (l:List _),l<+:c_ G l w a:=by
 intro b
 induction b with
 |nil=>
  exact λl=>FU
 |cons X a c=>
  exact λl=>FT.trans (c _)
theorem ae0 (h:BI G l)(v:bE G y):BI G (addW G l y):=by
 unfold addW
 split
 . exact h
 . rename_i q
   constructor
   . rw[bK];refine Zrr (propext qL) ⟨h.nd,by simp,?_⟩
     intro a ha b hb e
     simp at hb
     subst hb
     exact q (e▸ha)
   . intro w hw
     rcases b8.mp hw with hw|hw
     . exact h.u5 w hw
     . simp at hw;subst hw;exact v
theorem ae1:aW G y∈ (addW G l y).map (aW G):=by
 unfold addW
 split
 . assumption
 simp
theorem ae2:∀(a:List _) (l:List _),BI G l->(∀X∈a,bE G (w++ [X]))->BI G (c_ G l w a):=by
 intro b
 induction b with
 |nil=>
  exact λl h _=>h
 |cons X a c=>
  exact λl h v=>c _ (ae0 h (v X (by simp))) λY k=>v Y (by simp[k])
theorem ae3:∀(a:List _) (l:List _),∀X∈a,aW G (w++ [X])∈ (c_ G l w a).map (aW G):=by
 intro b
 induction b with
 |nil=>
  intro l X h
  simp at h
 |cons Y a c=>
  intro l X h
  rcases cy.mp h with rfl|h
  . exact((p7 a _).map _).subset ae1
  exact c _ X h
theorem NS (wf:WF G):∀a,BI G (Bq G a):=by
 intro c
 induction c with
 |zero=>
  exact⟨L0 _ _,by
   intro w hw
   rewrite[dm.mp hw]
   exact xS wf⟩
 |succ a b=>
  cases e:(Bq G a)[a]? with
  |some w=>rw[p6 e];exact ae2 _ _ b λX k=>(i8 wf).mp k
  |none=>rw[p6 e];exact b
theorem NT (a):Bq G a<+:Bq G (a+1):=by
 cases e:(Bq G a)[a]? with
 |some w=>rw[p6 e];exact p7 _ _
 |none=>rw[p6 e];exact FU
theorem ae4 {a b}(h:a<=b):Bq G a<+:Bq G b:=by
 induction h with
 |refl=>exact FU
 |step _ c=>exact c.trans (NT _)
noncomputable def subs {b:Type}:List b->List (List b)
 | []=> [[]]
 |a::l=>subs l++ (subs l).map (a:: ·)
theorem FW {l:List b}:subs (a::l)=subs l++ (subs l).map (a:: ·):=rfl
theorem ae5:∀l:List k,(subs l).length=2^l.length:=by
 intro b
 induction b with
 |nil=>
  exact rfl
 |cons a l c=>
  rw[FW,aY,aq _,c,Nat.pow_succ _ _];exact UE
theorem ae6 {s l:List c}(h:s.Sublist l):s∈subs l:=by
 induction h with
 |slnil=>exact dm.mpr rfl
 |cons a _ b=>rw[FW,propext b8];exact .inl b
 |cons_cons a _ b=>rw[FW,propext b8];exact .inr (bY.mpr ⟨_,b,rfl⟩)
theorem nE {b:Type} [DecidableEq b]:∀ {l m:List b},l.Nodup->(∀x∈l,x∈m)->l.length<=m.length:=by
 intro c
 induction c with
 |nil=>
  intro m _ _
  exact dO _
 |cons a l k=>
  intro m hn h
  rw[kB]at hn
  have ha:=h a (by simp)
  have:=k hn.2 λx hx=>have o:x≠a:=λe=>hn.1 (e▸hx);(List.mem_erase_of_ne o).mpr (h x (by simp[hx]))
  rw[List.length_erase_of_mem ha]at this
  exact eH (List.length_pos_of_mem ha)▸mU this
theorem ae7:∀(l:List _) (k:Nat),(∀p∈l,p.2.length<=3)->((p5 k l).filter λp=>decide (0<p.2)).length<=3*l.length:=by
 intro a
 induction a with
 |nil=>
  exact λk _=>bb _
 |cons q l b=>
  intro k h
  have c:=b (k+1) λp o=>h p (by simp[o])
  have r:=h q (by simp)
  rw[FN,j_ _ _,aY,yqH,aq _]
  have:((List.range (q.2.length+1)).filter ((λp:Nat×Nat=>decide (0<p.2)) ∘λd=>(k,d))).length<=q.2.length:=by
   rw[Eo];have:=jZ ((λp:Nat×Nat=>decide (0<p.2)) ∘λd=>(k,d)) (.map .succ (.range q.2.length))
   simpa using this
  simp only[jG]
  exact UJ c r this
theorem NU (wf:WF G):∀p∈G.rs,p.2.length<=3:=by
 refine λp c=>ao (w8 c) λi b=>ao b λa e=> ?_;clear b
 have:=nC a
 rw[du a,e]at this
 simp at this
 subst this
 exact wf.len a
theorem NV (wf:WF G):aW G []= [(0,0)]:=by
 refine FQ (rF G _) (by simp) λp=> ?_
 rw[js]
 obtain ⟨r,d⟩:=p
 cases d with
 |zero=>
  by_cases hr:r=0
  . subst hr;simp[rD wf,gg]
  simp[gg,hr]
 |succ d=>simp[aeP]
theorem ae8 (wf:WF G)(w):aW G w∈ [(0,0)]::subs ((tj G).filter λp=>decide (0<p.2)):=by
 rcases w.eq_nil_or_concat with rfl| ⟨v,X,rfl⟩
 . rw[NV wf];simp
 exact dA _ (ae6 (Zrr AY (Zrr (by
  rw[List.filter_eq_self]
  intro p a
  rw[js]at a
  obtain ⟨r,d⟩:=p
  cases d with
  |zero=>
   simp[gg]at a
   refine au a λh O=> ?_;clear a;subst O
   rw[rD wf]at h
   simp at h
  |succ d=>simp:(aW G _).filter _=aW G _).symm (have s:=yoL.trans yoL;s.filter _))))
theorem FX (wf:WF G)(a):(Bq G a).length<=2^21+1:=by
 have b:=nE (NS wf a).nd λx hx=>by
  refine ah (bY.mp hx) λw _ O=> ?_;subst O
  exact ae8 wf w
 rw[aq,jG,ae5]at b
 have c:=ae7 _ 0 (NU wf)
 have:((tj G).filter λp=>decide (0<p.2)).length<=21:=by
  have:=wf.nr
  unfold nR at this
  exact ba c (gk 3 this)
 have:=yoE (show 0<2 by exact yD _) this
 exact ba b (mU this)
structure Fin (G:Gm)(ws:List (List Nat)):Prop where
 eq:ws=Bq G ws.length
 lt:∀a,a<ws.length->a<(Bq G a).length
 le:ws.length<=2^21+1
theorem least {P:Nat->Prop}:∀n,(∃N,P N/\N<=n/\∀a,a<N->¬P a)\/∀a,a<=n->¬P a:=by
 intro b
 induction b with
 |zero=>
  by_cases h:P 0
  . exact .inl ⟨0,h,bb _,λa ha=>by lia⟩
  exact .inr λa ha=>by lia
 |succ n c=>
  rcases c with ⟨N,k,r,o⟩|h
  . exact .inl ⟨N,k,k9 ‹_›,o⟩
  . by_cases q:P (n+1)
    . exact .inl ⟨_,q,bb _,λa ha=>h a (fA ‹_›)⟩
    exact .inr λa ha=>by
     refine(a.lt_or_ge (n+1)).elim (λl=>h a (fA ‹_›)) λl=> ?_
     . have:a=n+1:=TF ha l
       subst this;exact q
theorem ae9 (wf:WF G):∃ws,Fin G ws:=by
 rcases least (P:=λN=>(Bq G N).length<=N) _ with ⟨N,b,k,c⟩|h
 . have hl:(Bq G N).length=N:=by
    rcases N with _|n
    . cases b
    . have a:=c n (H6)
      have:=(NT (G:=G) n).length_le
      exact Uh b a this
   refine⟨_,⟨by rw[hl];rfl,?_,Zrr hl k⟩⟩
   intro a ha
   rw[hl]at ha
   have:=c a ha
   exact iR this
 exact absurd (FX wf _) (h _ (bb _))
variable {ws:List (List Nat)}
def stN (G:Gm)(ws:List (List Nat))(w:List Nat):Nat:=(ws.map (aW G)).idxOf (aW G w)
theorem Fin.BI (f:Fin G ws)(wf:WF G):BI G ws:=by rw[f.eq];exact NS wf _
theorem Fin.pre (f:Fin G ws){a}(h:a<=ws.length):Bq G a<+:ws:=by
 have:=ae4 (G:=G) h
 rw[<-f.eq]at this
 exact this
theorem Fin.pos (f:Fin G ws):0<ws.length:=by
 rcases ws.length.eq_zero_or_pos with q|q
 . have:=f.eq
   rw[q]at this
   rw[this]at q
   cases q
 exact q
theorem nH {α:Type}{l m:List α}(h:l<+:m){i}(a:i<l.length):l[i]?=m[i]?:=by
 refine ao h λt O=> ?_;clear h;subst O
 rw[eR a];rfl
theorem Fin.get (f:Fin G ws){a}(h:a<ws.length):(Bq G a)[a]?=ws[a]?:=nH (f.pre (bX ‹_›)) (f.lt a h)
theorem Fin.zero (f:Fin G ws):ws[0]?=S []:=by
 rw[(f.get f.pos).symm];rfl
theorem Fin.next (f:Fin G ws){a}{w}(h:ws[a]?=S w):Bq G (a+1)=c_ G (Bq G a) w (bS G w):=by
 rw[p6 ((f.get (by
  rw[dk]at h;exact h.1)).trans h)];rfl
theorem NW {b:Type} [BEq b] [LawfulBEq b]{l:List b}(nd:l.Nodup){i}{a}(h:l[i]?=S a):l.idxOf a=i:=by
 rw[dk]at h
 refine ao h λc O=> ?_;clear h;subst O
 exact nd.idxOf_getElem _ c
theorem Fin.xV (f:Fin G ws)(wf:WF G){t}{w}(h:ws[t]?=S w):stN G ws w=t:=by
 refine NW (f.BI wf).nd ?_
 rw[bx,h];rfl
theorem FY (h:aW G w∈ws.map (aW G)):∃v,ws[stN G ws w]?=S v/\aW G v=aW G w:=by
 have hl:=NX h
 have e:=NY hl
 rw[AV]at e
 rw[aq]at hl
 exact⟨_,du hl,e⟩
theorem Fin.closed (f:Fin G ws)(wf:WF G){t:Nat}{w}{X}(h:ws[t]?=S w)(v:bE G (w++ [X])):aW G (w++ [X])∈ws.map (aW G):=by
 have:=ae3 (G:=G) (w:=w) _ (Bq G t) X ((i8 wf).mpr v)
 rw[<-f.next h]at this
 exact((f.pre (by
  rw[dk]at h;exact h.1)).map _).subset this
theorem snoc_ind {P:List Nat->Prop}(h0:P [])(a:∀w X,P w->P (w++ [X]))(w):P w:=by
 have:∀n (w:List _),w.length=n->P w:=by
  intro n
  induction n with
  |zero=>intro w e;rw[List.length_eq_zero_iff]at e;subst e;exact h0
  |succ n b=>
   intro w e
   rcases w.eq_nil_or_concat with rfl| ⟨v,X,rfl⟩
   . exact h0
   . rw[AY]at e ⊢
     simp at e
     exact a v X (b v e)
 exact this _ w rfl
theorem Fin.st (f:Fin G ws)(wf:WF G){w}(v:bE G w):∃u,ws[stN G ws w]?=S u/\bD G u=bD G w:=by
 have:aW G w∈ws.map (aW G):=by
  induction w using snoc_ind with
  |h0=>exact bY.mpr ⟨[],eY f.zero,rfl⟩
  |a w X c=>
   exact ah (FY (c (ti v))) λu a b=>have e:=NQ wf b;Zrr (NR wf e _).symm (f.closed wf a ((u4 e X).mpr v))
 exact ah (FY this) λu a b=>⟨u,a,NQ wf b⟩
theorem aiN (e:bD G w=bD G a):stN G ws w=stN G ws a:=by
 unfold stN
 rw[FR e];rfl
theorem Fin.xW (f:Fin G ws)(wf:WF G){w}(v:bE G w):stN G ws w<ws.length:=by
 refine ah (f.st wf v) λu h _=> ?_
 rw[dk]at h
 exact h.1
theorem Fin.A1 (f:Fin G ws)(wf:WF G){w u}{X}(e:bD G u=bD G w):stN G ws (u++ [X])=stN G ws (w++ [X]):=by
 unfold stN
 rw[NR wf e X];rfl
theorem Fin.xX (f:Fin G ws)(wf:WF G):stN G ws []=0:=f.xV wf f.zero
theorem Fin.afa (f:Fin G ws)(wf:WF G){w a}(v:bE G w)(c:bE G a)(e:stN G ws w=stN G ws a):bD G w=bD G a:=by
 refine ah (f.st wf v) λu b k=>ah (f.st wf c) λr o q=> ?_
 rw[e,o]at b
 cases b
 rw[k.symm,q];rfl
theorem Fin.add (f:Fin G ws)(wf:WF G){l}{y}(h:addW G l y<+:ws):
 addW G l y=l/\stN G ws y<l.length\/addW G l y=l++ [y]/\stN G ws y=l.length/\ws[l.length]?=S y:=by
 unfold addW at h ⊢
 split at h
 . rename_i q
   refine Zrr (if_pos q) (.inl ⟨rfl,ah (FY q) λv a b=> ?_⟩)
   have hl:=by
    rw[dk]at a;exact a.1
   rw[nH h hl]at a
   have:stN G ws y=stN G l y:=by
    have:=f.xV wf a
    unfold stN at this ⊢
    rw[b]at this;exact this
   exact Zrr this hl
 . rename_i q
   rw[if_neg q]
   have e:ws[l.length]?=S y:=by
    refine Qz (nH h (by simp)) ?_;simp
   exact .inr ⟨rfl,f.xV wf e,e⟩
theorem afb:dc (nV a) (nV b)=decide (a<b):=by
 show decide _=_
 simp
theorem A2 {l t:List _}(p:l.Perm t)(s:t.Pairwise (· <= ·)):gn (l.map nV)=t.map nV:=by
 refine Ef xe ?_ (p.symm.map nV) ?_
 . refine λx hx=>ah (bY.mp hx) λn _ O=> ?_;subst O
   rfl
 . unfold pM
   exact Zrr (propext i7) (s.imp λ{a b} h=>by rw[afb];simp;assumption)
def vI (G:Gm)(p:Nat×Nat):V:=nV (gB G p)
theorem tn {l t:List _}(p:l.Perm t)(c:∀x∈t,Vd G x)(s:t.Pairwise ip):gn (l.map (vI G))=t.map (vI G):=by
 have:=A2 (p.map _) (by
  refine Zrr (propext i7) (s.imp_of_mem λ{a b} ha hb h=>bX (xU (c a ha) h)))
 rw[b5,b5]at this
 exact this
theorem u6 {a:Type} [DecidableEq a]{l t:List a}(b:l.Nodup)(c:t.Nodup)(h:∀x,x∈l↔x∈t):l.Perm t:=by
 rw[List.perm_ext_iff_of_nodup b c];exact h
noncomputable def Rm (b:Nat->Nat->Bool):Nat->Nat->Nat->Bool
 |0,o,x=>b o x
 |m+1,o,x=>Rm b m o x|| (Rm b m o m&&Rm b m m x)
theorem F0:Rm b (m+1) o x=(Rm b m o x||Rm b m o m&&Rm b m m x):=rfl
noncomputable def rowsOf (f:List Nat)(o x:Nat):Bool:=(f.getD o 0).testBit x
theorem NZ (h:b o x=ab):∀m,Rm b m o x=true:=by
 intro a
 induction a with
 |zero=>
  exact h
 |succ m c=>
  rw[F0,c];rfl
theorem afc:∀ {m k o x:Nat},k<m->Rm b m o k=ab->Rm b m k x=ab->Rm b m o x=true:=by
 intro y
 induction y with
 |zero=>
  exact Q3
 |succ m H=>
  intro k o x h a c
  simp only[F0,lY,fZ]at a c ⊢
  rcases k.lt_or_ge m with l|l
  . have t:=λo x (p:Rm b m o k=ab) (q:Rm b m k x=ab)=>H l p q
    rcases a with a| ⟨a,u⟩<;>rcases c with c| ⟨c,r⟩
    . exact .inl (t _ _ a c)
    . exact .inr ⟨t _ _ a c,r⟩
    . exact .inr ⟨a,t _ _ u c⟩
    exact .inr ⟨a,r⟩
  . have:k=m:=Q4 h l
    subst this
    rcases a with a| ⟨a,u⟩<;>rcases c with c| ⟨c,r⟩
    . exact .inr ⟨a,c⟩
    . exact .inr ⟨a,r⟩
    . exact .inr ⟨a,c⟩
    exact .inr ⟨a,r⟩
theorem afd {T:Nat->Nat->Prop}(hb:∀o x,b o x=ab->T o x)(c:∀o k x,T o k->T k x->T o x):∀m o x,Rm b m o x=ab->T o x:=by
 intro q
 induction q with
 |zero=>
  exact λo x h=>hb o x h
 |succ m a=>
  intro o x h
  simp only[F0,lY,fZ]at h
  rcases h with h| ⟨h,r⟩
  . exact a o x h
  exact c _ _ _ (a _ _ h) (a _ _ r)
theorem N1 {o a x v}(b:o<f.length):rowsOf (f.set o v) a x=if a=o then v.testBit x else rowsOf f a x:=by
 unfold rowsOf
 by_cases h:a=o
 . subst h
   simp[List.getD,b]
 . rw[if_neg h]
   simp[List.getD,vZ h]
theorem afe {m o}{f}(c:o<f.length)(a x):rowsOf (nz m f o) a x=if a=o then rowsOf f o x||rowsOf f o m&&rowsOf f m x else rowsOf f a x:=by
 unfold nz
 split
 . rename_i q
   rw[N1 c]
   have b:rowsOf f o m=true:=q
   by_cases h:a=o
   . rw[if_pos h,if_pos h,b,F1 _ _ _];rfl
   . rw[if_neg h,if_neg h];rfl
 . rename_i q
   have b:rowsOf f o m=false:=(Bool.not_eq_true _).mp q
   by_cases h:a=o
   . subst h;rw[b];simp
   . rw[if_neg h];rfl
theorem aff (k)(hk:k<=f.length)(o x):
 rowsOf ((List.range k).foldl (nz m) f) o x=if o<k then rowsOf f o x||rowsOf f o m&&rowsOf f m x else rowsOf f o x:=by
 induction k generalizing o x with
 |zero=>simp
 |succ k a=>
  have a:=λo x=>a (bX hk) o x
  rw[kI,g8,kW,F2];rewrite[afe (by rw[pW _ (Fy m) _ _];exact hk)]
  rw[a _ _,a _ _,a _ _,a _ _]
  by_cases h:o=k
  . subst h
    simp only[vN,if_false,iQ,if_true]
    split
    . cases rowsOf f o x<;>cases rowsOf f o m<;>cases rowsOf f m x<;>cases rowsOf f m m<;>rfl
    rfl
  . rw[if_neg h]
    by_cases l:o<k
    . rw[if_pos l];exact Zrr (if_pos (q8 l)) rfl
    . rw[if_neg l];exact Zrr (if_neg (by lia)) rfl
theorem afg (o x)(c:o<a.length):rowsOf (trans a) o x=Rm (rowsOf a) a.length o x:=by
 have:∀k,k<=a.length->∀o x,o<a.length->rowsOf ((List.range k).foldl (pV a.length) a) o x=Rm (rowsOf a) k o x:=by
  intro k
  induction k with
  |zero=>intro _ o x _;rfl
  |succ k b=>
   intro hk o x c
   have b:=b (bX hk)
   have hl:((List.range k).foldl (pV a.length) _).length=a.length:=pW _ (FA _) _ _
   rw[kI,g8,kW,F2]
   unfold pV
   unfold pV at hl b
   rewrite[aff _ (by rw[hl];exact bb _)];rw[if_pos c,b _ _ c,b _ _ c];refine Zrr (b _ _ (hk)) ?_;rewrite[Rm];rfl
 exact this _ (bb _) o x c
def lB (G:Gm)(f:List Nat)(r:Nat):List Nat:=match(rhs G r)[0]? with
 |some y=>f.set (lhs G r) (f.getD (lhs G r) 0|||1<<<y)
 |none=>f
def lD (G:Gm):List Nat:=(List.range (nR G)).foldl (lB G) (List.replicate (nS G) 0)
theorem F3 (G)(f)(r):(lB G f r).length=f.length:=by unfold lB;split<;>simp
theorem A3 (G):(lD G).length=nS G:=by rewrite[lD];rw[pW _ (F3 G) _ _];simp
theorem N2:(1<<<x).testBit y=decide (x=y):=by
 rw[Np _ _,HE _,Nat.testBit_two_pow];rfl
theorem N3 (wf:WF G){o x}:rowsOf (lD G) o x=ab↔∃r,r<nR G/\lhs G r=o/\(rhs G r)[0]?=S x:=by
 have:∀k,k<=nR G->∀o x,rowsOf ((List.range k).foldl (lB G) (.replicate (nS G) 0)) o x=ab↔∃r,r<k/\lhs G r=o/\(rhs G r)[0]?=S x:=by
  intro k
  induction k with
  |zero=>
   intro _ o x
   simp[rowsOf,List.getD,Am]
   split<;>simp
  |succ k b=>
   intro hk o x
   have b:=b (bX hk)
   have hl:((List.range k).foldl (lB G) (.replicate (nS G) 0)).length=nS G:=by rw[pW _ (F3 G) _ _];simp
   rw[kI,g8,kW,F2]
   generalize (List.range k).foldl (lB G) _=f at b hl
   have u:=(wf.jY hk).2
   have e:rowsOf (lB G f k) o x=ab↔rowsOf f o x=ab\/lhs G k=o/\(rhs G k)[0]?=S x:=by
    unfold lB
    split
    . rename_i y H
      refine Zrr (N1 (dM u (aK hl.symm))) (Zrr H (if h:o=lhs G k then ?_ else Zrr (if_neg h) (have:lhs G k≠o:=λe=>h e.symm;by simp[this])))
      . subst h
        rw[F1 _ _ _,N2]
        simp[rowsOf]
    . rename_i hn
      rw[hn];simp
   rw[e,propext (b _ _)]
   constructor
   . rintro (⟨r,c,a⟩| ⟨c,a⟩)
     . exact⟨r,q8 c,a⟩
     exact⟨k,H6,c,a⟩
   . intro O;refine ah O λr c a=> ?_;clear O
     refine if q:r=k then ?_ else .inl ⟨r,by lia,a⟩
     . subst q;exact .inr a
 exact this _ (bb _) o x
def FF (G:Gm)(o x:Nat):Bool:=rowsOf (trans (lD G)) o x
theorem F4 {o x}(a:o<nS G):FF G o x=Rm (rowsOf (lD G)) (nS G) o x:=by
 unfold FF
 refine Zrr (afg _ _ (by rw[A3 _];exact a)) ?_;rw[A3 _];rfl
def wants (G:Gm)(a:List (Nat×Nat)):Nat:=a.foldl (λm p=>match cK G p with|some x=>m|||1<<<x||| (trans (lD G)).getD x 0|none=>m) 0
theorem afh:(wants G a).testBit y=ab↔∃p∈a,∃x,cK G p=S x/\(x=y\/FF G x y=ab):=by
 unfold wants
 have:∀(a:List _) (m:Nat),(a.foldl (λm p=>match cK G p with|some x=>m|||1<<<x||| (trans (lD G)).getD x 0|none=>m) m).testBit y=ab↔
  m.testBit y=ab\/∃p∈a,∃x,cK G p=S x/\(x=y\/FF G x y=ab):=by
  intro a
  induction a with
  |nil=>intro m;simp
  |cons p a b=>
   intro m
   rw[kW,propext (b _)]
   cases h:cK G p with
   |none=>simp[h]
   |some x=>
    rw[F1 _ _ _,F1 _ _ _,N2]
    simp only[lY,decide_eq_true_eq,cy,exists_eq_or_imp,h,jF,exists_eq_left',FF,rowsOf,or_assoc]
 rw[this a 0]
 simp
theorem tq (wf:WF G){p}{x}(h:p.1<nR G)(e:cK G p=S x):x<nS G:=(wf.sym h x (AX e)).1
theorem N4 (wf:WF G){w}{y}:(wants G (aW G w)).testBit y=ab↔∃q,VP G w q/\cK G q=S y:=by
 rw[afh]
 constructor
 . intro O;refine ah O λp c H=>ah H λx hx h=> ?_;clear H;clear O
   rw[js]at c
   rcases h with rfl|h
   . exact⟨p,c.1,hx⟩
   . rw[F4 (tq wf c.1.vd.1 hx)]at h
     refine afd (T:=λX Y=>(∃q,VP G w q/\cK G q=S X)->∃q,VP G w q/\cK G q=S Y) ?_ ?_ _ _ _ h ⟨p,c.1,hx⟩
     . intro o z hb O;refine ah O λq I F5=> ?_;rw[N3 wf]at hb
       exact cD hb λr u a L=>⟨_,th.mpr ⟨Zrr a (xR I F5),u⟩,L⟩
     . intro o k z u a h;exact a (u h)
 . intro O;exact ah O λq I hy=>(by
    intro Q A v
    induction v with
    |top=>intro _ h;exact absurd rfl h
    | @go α β γ r A u a L ih=>
     intro e hA
     have U:=AW u a L
     rw[e]at U
     refine if k:gg _=ab then⟨_,js.mpr ⟨U.1,k⟩,A,U.2,.inl rfl⟩else ?_
     . simp[gg]at k
       refine au k λO hr=> ?_;clear k;subst O
       rw[dg]at e
       refine ah (ih e λq=>hr (AZ wf a q)) λp c H=>ah H λx hx h=> ?_;have xl:=tq wf (js.mp c).1.vd.1 hx
       have b:=(N3 wf).mpr ⟨r,a,rfl,by rw[L];rfl⟩
       refine⟨p,c,x,hx,.inr ?_⟩
       rcases h with rfl|h
       . rw[F4 xl];exact NZ b _
       . rw[F4 xl]at h ⊢
         exact afc (wf.jY a).2 h (NZ b _):∀(Q:List _) (A:Nat),gF G Q A->Q=w->A≠G.nT->∃p∈aW G w,∃x,cK G p=S x/\(x=A\/FF G x A=ab)) w y (xR I hy) rfl (wf.sym I.vd.1 y (AX hy)).2.2
theorem afi (wf:WF G){w}:(List.range (nS G)).filter (wants G (aW G w)).testBit=bS G w:=by
 refine ypE λX a=> ?_
 rw[qG,propext (N4 wf),propext oR.symm]
 simp only[decide_eq_true_eq]
theorem afj (wf:WF G){w}:wants G (aW G w)<2^nS G:=by
 refine Nat.lt_pow_two_of_testBit _ λi a=> ?_
 cases h:(wants G _).testBit i with
 |false=>rfl
 |true=>
  refine ah ((N4 wf).mp h) λq b c=> ?_
  have:=tq wf b.vd.1 c
  exact SY a this
def p8 (G:Gm)(w:List Nat):List (Nat×Nat):=(bD G w).filter λp=> !gg p
theorem N5:p∈p8 G w↔VP G w p/\gg p=false:=by
 simp only[p8,fK,kJ,oE]
theorem A4 (G)(w):(p8 G w).Pairwise ip:=(me G w).filter _
theorem afk (G)(w):(aW G w++p8 G w).Perm (bD G w):=List.filter_append_perm _ _
theorem rG:∀p∈bD G w,Vd G p:=λp h=>(kJ.mp h).vd
theorem p9:∀p∈aW G w,Vd G p:=λp h=>(js.mp h).1.vd
theorem A5:∀p∈p8 G w,Vd G p:=λp h=>(N5.mp h).1.vd
def xZ (G:Gm)(w:List Nat):List (Nat×Nat):=(bS G w).flatMap λX=>((fu G X).map λr=>(r,0)).filter λp=> !decide (p∈aW G w)
theorem p_ {X r}:r∈fu G X↔r<nR G/\lhs G r=X:=by
 simp[fu]
theorem N6 (G)(X):(fu G X).Nodup:= .filter _ F6
theorem qa (G)(w):(bS G w).Pairwise (· < ·):=NH.filter _
theorem F7 (wf:WF G)(w):(xZ G w).Perm (p8 G w):=by
 refine u6 ?_ (rE (A4 G w)) λp=> ?_
 . unfold xZ List.Nodup
   refine Zrr (propext F8) ⟨λX _=> .filter _ (Zrr (propext i7) ((N6 G X).imp λ{a b} h e=>h (by simpa using e))),?_⟩
   . refine(qa G w).imp λ{a b} h x hx y H e=> ?_
     simp only[fK,bY,p_]at hx H
     refine au hx λO _=> ?_;clear hx;refine ah O λr c o=> ?_;clear O;refine au c λ_ u=> ?_;clear c;subst o
     refine au H λO _=> ?_;clear H;refine ah O λr' c o=> ?_;clear O;lia
 . rw[N5]
   simp only[xZ,oS,fK,bY,p_,i8 wf,js,oE,decide_eq_false_iff_not]
   constructor
   . intro O;refine cD O λX Q c I=> ?_;clear O;refine ah c λr o U=> ?_;clear c;refine au o λu Y=> ?_;clear o;subst Y;subst U
     refine ah (oR.mp Q) λq hq F5=> ?_
     have v:=th.mpr ⟨xR hq F5,u⟩
     refine⟨v,?_⟩
     cases k:gg _ with
     |false=>rfl
     |true=>exact absurd ⟨v,k⟩ I
   . intro O;refine au O λv k=> ?_;clear O
     obtain ⟨r,d⟩:=p
     simp[gg]at k
     refine au k λO hr=> ?_;clear k;subst O
     have L:=th.mp v
     rcases FL L.1 with ⟨_,h⟩| ⟨q,u,I⟩
     . exact absurd (AZ wf L.2 h) hr
     exact⟨_,oR.mpr ⟨q,u,I⟩,⟨r,⟨L.2,rfl⟩,rfl⟩,by simp[gg,hr]⟩
section
noncomputable def num (w:List Nat):Nat:=w.foldl (λa x=>a*16+ (x+1)) 0
theorem lE {X}:num (w++ [X])=num w*16+ (X+1):=by rewrite[num];rw[g8];rfl
theorem snoc_cases (w:List Nat):w= []\/∃v X,w=v++ [X]:=by
 rcases w.eq_nil_or_concat with h| ⟨v,X,h⟩
 . exact .inl h
 exact .inr ⟨v,X,by rw[h,AY];rfl⟩
theorem N7 {X Y}(h:num u<num v)(a:X<16):num (u++ [X])<num (v++ [Y]):=by rw[lE,lE];exact TR h a
theorem afl {X}(h:num u<=num v):num (u++ [X])<=num (v++ [X]):=by rw[lE,lE];exact Ug h
theorem F9:∀(v u:List _),(∀x∈v,x<16)->num u<=num v->u.length<=v.length:=by
 refine snoc_ind (P:=λv=>∀u,(∀x∈v,x<16)->num u<=num v->u.length<=v.length) ?_ ?_
 . intro u _ h
   rcases snoc_cases u with rfl| ⟨a,X,rfl⟩
   . exact bb _
   . rw[lE]at h;exact absurd h (by show¬_<=0;exact SQ)
 . intro v Y c u b h
   rcases snoc_cases u with rfl| ⟨a,X,rfl⟩
   . exact dO _
   . have k:=b Y (by simp)
     rw[lE,lE]at h
     have:=c a (λx hx=>b x (fh _ hx)) (by lia)
     rw[aY];exact Zrr aY (uH this 1)
structure Qu (Q:Nat->List (List Nat)):Prop where
 z:Q 0= [[]]
 s:∀a u,(Q a)[a]?=S u->∃Ys:List Nat,Ys.Pairwise (· < ·)/\(∀X∈Ys,X<16)/\Q (a+1)=Q a++Ys.map (λX=>u++ [X])
 n:∀a,(Q a)[a]?=J->Q (a+1)=Q a
variable {Q:Nat->List (List Nat)}
def tu (l:List (List Nat)):Prop:=l.Pairwise λu v=>num u<num v
theorem tv (h:tu l){i j:Nat}{u v}(a:l[i]?=S u)(b:l[j]?=S v)(c:i<j):num u<num v:=by
 refine ao (dk.mp a) λk o=>ao (dk.mp b) λq r=> ?_
 have:=Lj.mp h i j k q c
 rwa[o,r]at this
theorem Qu.inv (q:Qu Q):∀a,tu (Q a)/\∀y∈Q a,y= []\/∃i v Y,i<a/\(Q a)[i]?=S v/\y=v++ [Y]/\Y<16:=by
 intro a
 induction a with
 |zero=>
  exact Zrr q.z ⟨L0 _ _,λy h=> .inl (dm.mp h)⟩
 |succ a x=>
  refine au x λo r=> ?_;cases e:(Q a)[a]? with
  |none=>
   refine Zrr (q.n a e) ⟨o,λy b=>(r y b).imp id λh=> ?_⟩
   revert h;intro O;exact iP O λi v Y c h=>⟨i,v,Y,yC c,h⟩
  |some u=>
   refine cD (q.s a u e) λYs s1 H I=>Zrr I ⟨gf.mpr ⟨o,i7.mpr (s1.imp λh=> ?_),λy b z L=> ?_⟩,λy b=> ?_⟩
   . rw[lE,lE];exact i5 (K0 h) _
   . refine ah (bY.mp L) λX _ O=> ?_;subst O
     rcases r y b with rfl| ⟨i,v,Y,c,k,rfl,U⟩
     . rw[lE];exact Nat.add_pos_right _ (yD _)
     exact N7 (tv o k e c) U
   . rcases b8.mp b with b|b
     . rcases r y b with h| ⟨i,v,Y,c,k,h⟩
       . exact .inl h
       exact(λ{i v y R} c k h=>by revert h;intro O;exact ao O λY h=> .inr ⟨i,v,Y,yC c,(eR (dk.mp k).1).trans k,h⟩:∀ {i v y R},i<a->(Q a)[i]?=S v->(∃Y,y=v++ [Y]/\Y<16)->y= []\/∃i v Y,i<a+1/\(Q a++R)[i]?=S v/\y=v++ [Y]/\Y<16) c k ⟨Y,h⟩
     . refine ah (bY.mp b) λX hX O=> ?_;subst O
       exact .inr ⟨a,u,X,a.lt_succ_self,(eR (dk.mp e).1).trans e,rfl,H X hX⟩
theorem Qu.below (q:Qu Q){a}{u y}{X}(e:(Q a)[a]?=S u)(b:y∈Q a):num y<num (u++ [X]):=by
 refine au (q.inv a) λc k=> ?_
 rcases k y b with rfl| ⟨i,v,Y,o,r,rfl,x⟩
 . rw[lE];show 0<_;exact Rl
 exact N7 (tv c r e o) x
theorem N8:∀(a:List _) (l:List _),∃b:List _,b.Sublist a/\c_ G l u a=l++b.map λX=>u++ [X]:=by
 intro k
 induction k with
 |nil=>
  exact λl=>⟨[],.refl _,by rw[qK,dg _];rfl⟩
 |cons X a o=>
  refine λl=>ah (o (addW G l (u++ [X]))) λb c q=> ?_
  rw[(rfl:c_ G l u _=c_ G (addW G l _) u a),q];rewrite[addW]
  split
  . exact⟨b,c.cons _,rfl⟩
  exact⟨_,c.cons_cons _,by simp⟩
theorem N9 (wf:WF G){u}:∀X∈bS G u,X<16:=λX h=>by
 have:=(fK.mp h).1
 have:=gw.mp this
 have:=wf.big
 exact dq (dM ‹_› this) (by decide)
theorem N_ (wf:WF G):Qu (Bq G):=⟨rfl,λa u e=>ah (N8 (G:=G) (u:=u) _ _) λc b k=>⟨c,(qa G u).sublist b,λX o=>N9 wf X (b.subset o),(p6 e).trans k⟩,λa e=>p6 e⟩
theorem Fin.z9 (f:Fin G ws)(wf:WF G):tu ws:=by rw[f.eq];exact((N_ wf).inv _).1
theorem mf (wf:WF G){u}(v:bE G u):∀x∈u,x<nS G:=by
 revert v
 refine snoc_ind (P:=λu=>bE G u->∀x∈u,x<nS G) (λ_ x h=>nomatch h) (λw X a v x hx=> ?_) u
 rcases b8.mp hx with hx|hx
 . exact a (ti v) x hx
 . rw[dm.mp hx];exact(xT wf v).1
theorem Fin.first (f:Fin G ws)(wf:WF G){w}(v:bE G w):∃u,ws[stN G ws w]?=S u/\bD G u=bD G w/\num u<=num w:=by
 revert v
 refine snoc_ind (P:=λw=>bE G w->∃u,ws[stN G ws w]?=S u/\bD G u=bD G w/\num u<=num w) (λ_=>⟨[],by rw[f.xX wf];exact f.zero,rfl,bb _⟩) (λw X r v=> ?_) w
 . refine cD (r (ti v)) λu b k x=>ah (f.st wf v) λz a y=>⟨z,a,y,ba ?_ (afl x)⟩
   rw[<-f.A1 wf k]at a
   have ha:=(dk.mp b).1
   refine fb (L3 ((i8 wf).mpr ((u4 k X).mpr v))) λdone rest o=> ?_
   have H:c_ G (Bq G (stN G ws w)) u (done++ [X])=addW G (c_ G (Bq G (stN G ws w)) u done) (u++ [X]):=by rewrite[c_];rw[g8];rfl
   have pre:addW G (c_ G (Bq G (stN G ws w)) u done) (u++ [X])<+:ws:=by
    refine .trans ?_ (f.pre (yO ha))
    have e:c_ G _ u _=c_ G (c_ G (Bq G (stN G ws w)) u (done++ [X])) u rest:=g8 ..
    rw[f.next b,o,H.symm,done.append_cons X rest];exact Zrr e (p7 _ _)
   rcases f.add wf pre with ⟨e,hlt⟩| ⟨_,I,L⟩
   . refine ah (N8 (G:=G) (u:=u) done (Bq G (stN G ws w))) λYs s1 q=> ?_
     rw[e,q]at pre
     rw[q]at hlt
     rw[<-nH pre hlt]at a
     rcases b8.mp (eY a)with c|c
     . exact bX ((N_ wf).below ((f.get ha).trans b) c)
     . refine ah (bY.mp c) λY U O=> ?_;subst O
       have:=qa G u
       rw[o,gf]at this
       have:=this.2.2 Y (s1.subset U) X cT
       rw[lE,lE];exact Rp this
   . rw[I,L]at a
     cases a
     exact bb _
noncomputable def LW (G:Gm)(k:Nat):Nat->List (List Nat)
 |0=> [[]]
 |a+1=>((LW G k a)[a]?).elim (LW G k a) λw=>LW G k a++ (if w.length<k then(bS G w).map (λX=>w++ [X])else [])
theorem u7 (e:(LW G k a)[a]?=o):LW G k (a+1)=o.elim (LW G k a) λw=>LW G k a++if w.length<k then(bS G w).map λX=>w++ [X]else []:=e▸rfl
theorem x6 (h:(LW G k a)[a]?=S w):LW G k (a+1)=LW G k a++if w.length<k then(bS G w).map λX=>w++ [X]else []:=u7 h
theorem Oa (wf:WF G)(k):Qu (LW G k):=by
 refine⟨rfl,λa u e=> ?_,λa e=>u7 e⟩
 rw[x6 e]
 split
 . exact⟨_,qa G u,N9 wf,rfl⟩
 exact⟨[],.nil,λX h=>(nomatch h),rfl⟩
theorem F_ (wf:WF G)(k):∀a,∀w∈LW G k a,bE G w/\w.length<=k:=by
 intro c
 induction c with
 |zero=>
  intro w h
  rewrite[dm.mp h];exact⟨xS wf,dO _⟩
 |succ a b=>
  intro w h
  cases e:(LW G k a)[a]? with
  |none=>rw[u7 e]at h;exact b w h
  |some u=>
   rw[x6 e]at h
   rcases b8.mp h with h|h
   . exact b w h
   . split at h
     . refine ah (bY.mp h) λX o O=> ?_;subst O
       refine⟨(i8 wf).mp o,?_⟩
       rw[aY,ee];lia
     cases h
theorem Ob (a):LW G k a<+:LW G k (a+1):=by
 cases e:(LW G k a)[a]? with
 |none=>rw[u7 e];exact A6 _
 |some u=>rw[x6 e];exact tm _ _
theorem A7 {k a b}(h:a<=b):LW G k a<+:LW G k b:=by
 induction h with
 |refl=>exact A6 _
 |step _ c=>exact c.trans (Ob _)
theorem afm (wf:WF G){k a}(ha:(LW G k a).length<=a){w}(v:bE G w)(hw:w.length<=k):w∈LW G k a:=by
 revert v hw
 refine snoc_ind (P:=λw=>bE G w->w.length<=k->w∈LW G k a) (λ_ _=>(A7 a.zero_le).subset (dm.mpr rfl)) (λw X b v hw=> ?_) w
 . rw[aY,ee]at hw
   refine ao (uI (b (ti v) (by lia))) λi o=> ?_
   have hlt:=(dk.mp o).1
   have q:(LW G k i)[i]?=S w:=Zrr (nH (A7 (show i<=a by exact bX (dM hlt ha))) (by
    refine iR λh=> ?_
    rw[(λj c=>by
     induction c with
     |refl=>rfl
     | @step m c b=>
      exact have r:i<=m:=c;Zrr (u7 (eX (by rw[b];exact ba ‹_› ‹_›))) b:∀j,i<=j->LW G k j=LW G k i) a (bX (dM hlt ha))]at hlt
    lia)) o
   refine(A7 (show i+1<=a by exact dM hlt ha)).subset ?_
   rw[x6 q];exact Zrr (if_pos (by lia)) (ik _ (bY.mpr ⟨X,(i8 wf).mpr v,rfl⟩))
noncomputable def oT:Nat->List (List Nat)
 |0=> [[]]
 |k+1=> []::(List.range 9).flatMap λx=>(oT k).map (x:: ·)
theorem afn:oT (k+1)= []::(List.range 9).flatMap λx=>(oT k).map (x:: ·):=rfl
theorem A8:∀(k:Nat) (w:List _),(∀x∈w,x<9)->w.length<=k->w∈oT k:=by
 intro k
 induction k with
 |zero=>exact λw _ hl=>dm.mpr (qF (Nat.eq_zero_of_le_zero hl))
 |succ k a=>
  intro w h hl
  cases w with
  |nil=>exact cT
  |cons x w=>exact dA _ (oS.mpr ⟨x,gw.mpr (h x cT),bY.mpr ⟨w,a w (λy b=>h y (dA _ b)) (XC hl),rfl⟩⟩)
theorem aiO:∀k,(oT (k+1)).length=1+9* (oT k).length:=λk=>by
 rw[afn,jG,List.length_flatMap,n5 _ _]
 have:(List.range 9).map (λx=>((oT k).map (x:: ·)).length)= .replicate 9 (oT k).length:=by
  refine gQ λi=> ?_
  rw[bx,Am]
  rcases i.lt_or_ge 9 with h|h
  . rw[iJ h,if_pos h,uc _ _,aq _];rfl
  exact Zrr (eX (Zrr cP h)) (Zrr (if_neg (mD h)) rfl)
 rw[this,List.sum_replicate_nat];rfl
theorem Ga:(oT 3).length=820:=rfl
theorem afo:(oT 4).length=7381:=rfl
theorem Gb (h:tu l):l.Nodup:=h.imp λh e=>by rw[e]at h;exact vN _ h
theorem Gd (wf:WF G){k}(hk:k<=3)(a):(LW G k a).length<=820:=Zrr Ga.symm (nE (Gb ((Oa wf k).inv a).1) λw hw=>have:=F_ wf k a w hw;A8 3 w (λx hx=>d0 (mf wf this.1 x hx) wf.big) (hC this.2 hk))
end
noncomputable def e9 (n:Nat)(w:List Nat):List Nat:=(w.reverse.dropWhile λx=>decide (x<n)).reverse
theorem strip_nil:e9 n []= []:=rfl
theorem u9 {X}:e9 n (v++ [X])=if X<n then e9 n v else v++ [X]:=by
 rewrite[e9];rw[z5,List.reverse_singleton,List.singleton_append,List.dropWhile_cons]
 by_cases h:X<n
 . rw[if_pos (decide_eq_true h),if_pos h];rfl
 . refine Zrr (if_neg (by rw[decide_eq_false h];exact gr)) ?_;rw[if_neg h,xk,z6 _];rfl
theorem afp:∀t,(∀x∈t,x<n)->e9 n (a++t)=e9 n a:=by
 refine snoc_ind λ_=>by simp λt X b h=> ?_
 rw[(bM _ _ _).symm,u9];exact Zrr (if_pos (h X (by simp))) (b λx hx=>h x (fh _ hx))
theorem Ge (w):(e9 n w= []/\∀x∈w,x<n)\/∃a B t,e9 n w=a++ [B]/\n<=B/\w=a++ [B]++t/\∀x∈t,x<n:=by
 refine snoc_ind (P:=λw=>(e9 n w= []/\∀x∈w,x<n)\/∃a B t,e9 n w=a++ [B]/\n<=B/\w=a++ [B]++t/\∀x∈t,x<n) (.inl ⟨rfl,λ_ h=>nomatch h⟩) (λw X k=> ?_) w
 rw[u9]
 by_cases h:X<n
 . rw[if_pos h]
   rcases k with ⟨b,c⟩| ⟨a,B,t,b,c,o,q⟩
   . exact .inl ⟨b,λx hx=>(b8.mp hx).elim (c x) λe=>by rw[dm.mp e];assumption⟩
   exact .inr ⟨a,B,t++ [X],b,c,by rw[(bM _ _ _).symm,o.symm];rfl,λx hx=>(b8.mp hx).elim (q x) λe=>by rw[dm.mp e];assumption⟩
 exact Zrr (if_neg h) (.inr ⟨w,X,[],rfl,fB h,by simp,λ_ h=>nomatch h⟩)
theorem Oc (w):(e9 n w).length<=w.length:=by
 rcases Ge w with ⟨a,_⟩| ⟨c,B,t,a,_,b,_⟩
 . rw[a];exact dO _
 . rw[a]
   have:=congrArg List.length b
   rw[aY]at this
   lia
theorem Od {B}(c:n<=B)(a):∃b,e9 n (u++ [B]++a)=u++ [B]++b/\b.length<=a.length:=by
 refine snoc_ind (P:=λa=>∃b,e9 n (u++ [B]++a)=u++ [B]++b/\b.length<=a.length) ⟨[],by rw[dg _,u9];exact Zrr (if_neg (mD c)) rfl,bb _⟩ (λa X k=> ?_) a
 rw[(bM _ _ _).symm];exact Zrr u9 (if h:X<n then Zrr (if_pos h) (ah k λb o q=>⟨_,o,by rw[aY];exact Sx q⟩)else Zrr (if_neg h) ⟨_,by rw[bM _ _ _];rfl,bb _⟩)
theorem Oe (h:gF G a (lhs G r))(hr:r<nR G):bE G a:=⟨_,th.mpr ⟨h,hr⟩⟩
theorem Of (v)(h:bE G (u++v)):bE G u:=by
 revert h
 refine snoc_ind (P:=λv=>bE G _->bE G u) (λh=>by rwa[dg]at h) (λv X a h=>a (ti (by rw[bM _ _ _];assumption))) v
theorem step_sound {r B}(h:gF G q (lhs G r))(hr:r<nR G)(e:e9 G.nT (q++rhs G r)=o++ [B]):gF G o B:=by
 rcases Ge _ with ⟨k,_⟩| ⟨Y,B',t,k,_,u,h3⟩
 . rw[k]at e;simp at e
 . rw[e]at k
   have x:=rf k rfl
   rw[<-x.1,<-(iB x.2).1]at u
   have y:∀c,q=o++ [B]++c->gF G o B:=λc e=>by
    have v:=Oe h hr
    rw[e]at v
    exact ah (oR.mp (Of c v)) λp L O=>xR L O
   rcases Og.mp u with ⟨Q,b,H⟩| ⟨U,b,H⟩
   . rcases snoc_cases Q with rfl| ⟨a,X,rfl⟩
     . rw[dg]at b
       exact y [] (by rw[dg _,b];rfl)
     . rw[<-bM]at b
       have I:=rf b rfl
       rw[I.1];exact Zrr (iB I.2).1 (h.go hr (by rw[H,bM _ _ _];rfl))
   exact y U b
structure Fs (G:Gm)(ml:Nat)(L:List (List Nat)):Prop where
 nd:L.Nodup
 ok:∀w∈L,w.length<=ml/\∃α A,w=α++ [A]/\gF G α A/\G.nT<=A
 st: [G.nT]∈L
def nI (G:Gm)(b:Nat)(L:List (List Nat))(w:List Nat):Prop:=∀a A r,w=a++ [A]->r<nR G->lhs G r=A->e9 G.nT (a++rhs G r)= []\/b<(e9 G.nT (a++rhs G r)).length\/e9 G.nT (a++rhs G r)∈L
theorem A9 (wf:WF G){a}{A}(h:gF G a A):A<nS G:=by
 rcases FL h with ⟨_,rfl⟩| ⟨p,b,c⟩
 . have:=wf.AN;exact gu ‹_›
 exact tq wf b.vd.1 c
theorem Oh (wf:WF G){c}{A}(h:gF G c A):∀x∈c,x<nS G/\x≠G.nT:=by
 cases h with
 |top=>exact λ_ h=>nomatch h
 |go o k q=>
  have v:=Oe o k
  intro x hx
  rcases b8.mp hx with hx|hx
  . refine fb (L3 hx) λa b e=> ?_
    rw[e,Oi]at v
    exact have:=xT wf (Of b v);⟨this.1,this.2.2⟩
  exact have:=wf.sym k x (by rw[q];exact fh _ hx);⟨this.1,this.2.2⟩
theorem Oj (wf:WF G){q}{L}(f:Fs G q L)(c:∀w∈L,nI G q L w):∀(n:Nat) (u:List _) (B:Nat) (a:List _),a.length<=n->G.nT<=B->u++ [B]++a∈L->u++ [B]∈L
 |n,u,B,a,hn,x,h=>by
  rcases snoc_cases a with rfl| ⟨a,A,rfl⟩
  . rwa[dg]at h
  cases n with
   |zero=>simp at hn
   |succ n=>
    rw[<-bM]at h
    refine au (f.ok _ h) λhl O=>bp O λY A' e b Q=> ?_;have y:=rf e rfl
    have H:=(iB y.2).1
    rw[<-y.1,<-H]at b
    rw[<-H]at Q
    have oh:A≠G.nT:=λz=>by
     rw[z]at b
     have:=NC wf b
     simp at this
    refine cD (wf.Ny A (by lia) (A9 wf b)) λr hr k U=> ?_
    have o:e9 _ _=e9 _ (u++ [B]++a):=afp _ U
    refine ah (Od (u:=u) x a) λrH I k2=> ?_
    rw[aY,ee]at hn
    rcases c _ h _ A r rfl hr k with z|z|z
    . rw[o,I]at z;simp at z
    . rw[o]at z
      have:=Oc (n:=G.nT) (u++ [B]++a)
      rw[aY]at hl
      lia
    . rw[o,I]at z
      exact Oj wf f c n u B _ (by lia) x z
set_option tactic.hygienic true in
theorem afq (wf:WF G){m}{L}(f:Fs G (m+3) L)(c:∀w∈L,nI G (m+3) L w){a}{A}(h:gF G a A):G.nT<=A->a.length<=m->a++ [A]∈L:=by
 induction h with
 |top=>intro _ _;exact f.st
 |go O b H I=>
  rename_i a k o r A
  intro q hl
  rw[aY]at hl
  have x:a++rhs G r=a++k++ [A]++o:=by rw[H];simp
  refine ah (Od (u:=a++k) q o) λQ y _=> ?_
  rcases c _ (I (wf.jY b).1 (by lia)) a _ r rfl b rfl with z|z|z
  . rw[x,y]at z;simp at z
  . have:=Oc (n:=G.nT) (a++rhs G r)
    have:=wf.len b
    rw[aY]at*
    lia
  . rw[x,y]at z
    exact Oj wf f c _ _ _ _ (bb _) q z
theorem dJ {D k}(h:k+1<=D):k<=D - 1:=yoI h
theorem dE {D k}(h:k+1<=D):0<D:=d0 k.succ_pos h
noncomputable def cL (l:List V):Cell:= .lst (l.map .v)
theorem i9 (h:σ[n]?=S (cL l))(hl:l.length<aE):gK σ .append (.ref n) [.v a]=S (.v .none,σ.set n (cL (l++ [a]))):=by
 refine Zrr (Nt h (by rw[aq _];assumption)) ?_;rewrite[cL];rw[bK];rfl
theorem shift_pos {m k n}(hm:m<2^n)(h:0<m>>>k):k<n:=by
 rw[W4]at h
 rcases k.lt_or_ge n with q|q
 . exact q
 . have:=d0 hm (yoE yqL q)
   rw[Nat.div_eq_of_lt this]at h;lia
theorem afr {m k n}(hk:k<=n)(h:m>>>k=0):(List.range n).filter m.testBit=(List.range k).filter m.testBit:=by
 obtain ⟨d,rfl⟩:∃d,n=k+d:=⟨n - k,(Sy hk)⟩
 rw[yqN,j_ _ _,(by
  refine Zrr (propext xj) λx hx=>ah (bY.mp hx) λy _ O=> ?_;subst O
  have:(m>>>k).testBit y=m.testBit _:=Nat.testBit_shiftRight ..
  rw[this.symm];rw[h];rw[Nat.zero_testBit _];exact gr:((List.range d).map _).filter _= []),dg _];rfl
theorem afs {D m n}(c:1<=D)(hm:m<2^n)(hn:n<=1000){σ}:(aQ prog D).call 1 [.v (nV m)] σ=S (.v (.lst (((List.range n).filter m.testBit).map nV)),σ):=by
 refine ed c rfl rfl rfl rfl λT b=> ?_
 refine bz (iH aA (aw (eN _))) (bz aP (bz (aa rfl) ?_))
 refine uZ (λk Z=>k<=n->Z [S (.v (nV m)),S (.ref 0),S (.v (nV k)),S (.v (nV (m>>>k)))] [cL (((List.range k).filter m.testBit).map nV)]) (λk=>n - k) 0
  (λZ a=>a (dO _)) (by show n - 0<2^22;exact RP hn) ?_
 intro k Z a hk
 refine wt (decide (0<m>>>k)) (br (aa rfl) aP (u0)) (λh=> ?_) (λh=> ?_)
 . have:=uB (of_decide_eq_false h)
   rw[afr hk this]at b
   exact cb (aa rfl) (b ⟨_,jn rfl⟩)
 . have hlt:=shift_pos hm (of_decide_eq_true h)
   have o:= @Nl (m>>>k) 1
   have r:∀σ,cO σ .eq (.v (nV (m>>>k&&&1))) (.v (.int 1))=S (m.testBit k):=λσ=>by rw[Nv.symm];exact tf
   have hl:(((List.range k).filter m.testBit).map nV).length<aE:=aw (by
    have:=jZ m.testBit (List.range k)
    rw[cP]at this
    rw[aq _];lia)
   refine td (λZ=>Z [S (.v (nV m)),S (.ref 0),S (.v (nV k)),S (.v (nV (m>>>k)))] [cL (((List.range (k+1)).filter m.testBit).map nV)]) (br (b_ (aa rfl) aP ‹_›) aP (by apply_assumption)) ?_ ?_ ?_
   . intro Z a q
     refine fH (d9 (aa rfl) (gz rfl) (aj (aa rfl) aA) (i9 rfl hl)) (bo (kq a ?_))
     rw[kI,j_ _ _,pP q]
     simp
   . intro Z a q
     refine bo (kq a ?_)
     rw[kI,j_ _ _];refine Zrr (pQ (by rw[q];exact gr)) ?_
     simp
   . have u:cV .shr (nV (m>>>k)) (.int 1)=S (nV (m>>>(k+1))):=(Nm).trans (rfl)
     have x:= @nu k 1
     exact bz (rfl) (bz (rfl) (bo (a (k+1) (q6 hlt) (hlt))))
def vC (G:Gm):V:= .obj 3 [(22,vG G),(23,.lst ((trans (lD G)).map nV))]
theorem A_ {σ}:n7 σ (.v (vC G))=S 3:=rfl
theorem aiP (h:x<n):1<<<x<2^n:=by
 rw[Np _ _,HE _];exact Nat.pow_lt_pow_right (by decide) h
theorem Ol {G:Gm}(w:WF G){D:Nat}(I:2<=D){σ:Hp}:(aQ prog D).new 3 [.v (vG G)] σ=S (.v (vC G),σ):=by
 refine Fg (dE I) rfl rfl rfl rfl rfl ?_
 have L:=dJ I
 have Y:=λσ=>aeM (σ:=σ) w L
 have c1:=λσ=>jr (G:=G) (σ:=σ)
 have k:nS G<aE:=aw (by have:=w.big;exact bw this (by decide))
 have O:cV .mul (.lst [.int 0]) (nV (nS G))=S (.lst ((List.replicate (nS G) 0).map nV)):=by
  have h:0<=(nS G:Int)/\ [V.int 0].length* (nS G:Int).toNat<aE/\(nS G:Int)<(aE:Int):=⟨mY _,by simpa using k,by exact_mod_cast k⟩
  refine(b9 h).trans (congrArg S (congrArg V.lst ?_))
  show(List.replicate (nS G) [V.int 0]).flatten=_
  rw[yoT]
  induction nS G with
  |zero=>rfl
  |succ n Q=>rw[IG,List.flatten_cons,Q];rfl
 refine dW (aa rfl) (aa rfl) rfl ?_
 refine bz (aet (fU (aj aP aA) (aw (by decide)) rfl) (cX (aa rfl) (by apply_assumption) aA (by apply_assumption)) O) ?_
 have hg:=λσ=>xP (G:=G) (σ:=σ)
 refine d_ (fJ G) (List.range (nR G)) (λdone Z=>∀o,Z [S (.ref 0),S (.v (vG G)),S (.ref 1),o] [.obj 3 [(22,.v (vG G))],cN (done.foldl (lB G) (List.replicate (nS G) 0))]) (c7 (rfl) rfl) ?_ ?_ ?_
 . intro Z a
   exact a _
 . intro done r rest Z a U o
   have hr:=Fd U
   refine bt rfl ?_
   rw[g8,kW,F2]at a
   have u:(done.foldl (lB G) (List.replicate (nS G) 0)).length=nS G:=by rw[pW _ (F3 G) _ _];simp
   generalize done.foldl (lB G) (List.replicate (nS G) 0)=f at u a ⊢
   have hw:=w.jY hr
   have hl:(rhs G r).length<aE:=aw (by have:=w.len hr;exact bw this (by decide))
   have e2:∀σ,cB σ .len (.v (.tup ((rhs G r).map nV)))=S (.val (nV (rhs G r).length)):=λσ=>eC (congrArg S (aq _)) hl
   have c2:∀σ,cO σ (.gt ()) (.v (nV (rhs G r).length)) (.v (.int 0))=_:=λσ=>u0
   refine jV (br (cw (a_ (aa rfl) (by apply_assumption)) (by apply_assumption)) aP (by apply_assumption)) ?_ ?_ λ_ _ h=>bo h
   . intro q
     have q:=of_decide_eq_true q
     obtain ⟨y,x⟩:∃y,(rhs G r)[0]?=S y:=⟨_,du q⟩
     have H:=(w.sym hr y (eY x)).1
     have i0:∀σ,b4 σ (.v (.tup ((rhs G r).map nV))) (.int 0)=S (.v (nV y)):=λσ=>xH (aw (by decide)) (by(rw[bx,x]);rfl)
     have i1:∀c,b4 [c,cN f] (.ref 1) (nV (lhs G r))=_:=λc=>lx rfl (gh hw.2 k) (FC (u▸hw.2))
     have b1:=Nn (b:=y) (by have:=w.big;exact bX (dq (dM H this) (by decide)))
     have b2:= @AJ (f.getD (lhs G r) 0) (1<<<y)
     refine jU (b_ (bu (aa rfl) (a_ (aa rfl) (by apply_assumption)) (by apply_assumption)) (b_ aP (bu (a_ (aa rfl) (by apply_assumption)) aP (by apply_assumption)) ‹_›) ‹_›) (rfl) (rfl) (xJ rfl (by simpa [u]using hw.2) (gh hw.2 k)) (bo (kq (a _) ?_))
     rewrite[lB];rw[x,Nx];rfl
   . intro q
     have q:=of_decide_eq_false q
     refine bo (kq (a _) ?_)
     rewrite[lB];refine Zrr (eX (by lia)) ?_;rfl
 . intro o
   refine l_ rfl (jn rfl) ?_
   have t1:=(aeF (dD:=lD G) L (by rw[A3 _];exact k))
   refine dW (c6 (aj (aa rfl) aA) (by apply_assumption)) (aa rfl) rfl (bo ⟨_,Nk rfl⟩)
theorem x7:cO σ .ge (.v (gE o)) (.v (.int 0))=S o.isSome:=by
 cases o with
 |none=>rfl
 |some x=>exact congrArg _ (decide_eq_true (mY x))
theorem aft (w:WF G){c}(H:∀p∈c,Vd G p)(u:2<=D){K}(I:kT K=S (c.map (vI G))):(aQ prog D).call 18 [.v (vC G),.v K] σ=S (.v (nV (wants G c)),σ):=by
 refine ed (dE u) rfl rfl rfl rfl λT L=>bz aP (d_ (vI G) c (λdone Z=>∀k o,Z [S (.v (vC G)),S (.v K),S (.v (nV (wants G done))),k,o] []) (c7 (aa rfl) I) (λZ a=>a _ _) ?_ ?_)
 . intro done p rest Z a O k o
   have y:=H p (by rw[O];simp)
   have Q:=λσ=>jr (G:=G) (σ:=σ)
   have U:=λσ=>FJ (σ:=σ) w y (dJ u)
   refine bt rfl (bz (cX (a_ (aa rfl) (by apply_assumption)) (by apply_assumption) (aj (aa rfl) aA) (by apply_assumption)) ?_)
   have hw:wants G (done++ [p])=(match cK G p with|some x=>wants G done|||1<<<x||| (trans (lD G)).getD x 0|none=>wants G done):=by
    unfold wants
    rw[g8];rfl
   refine jV (br (aa rfl) aP x7) ?_ ?_ λ_ _ h=>bo h
   . refine λq=>ao (ui.mp q) λx hx=> ?_
     have r:=tq w y.1 hx
     rw[hw,hx]at a
     exact Zrr hx (have Y:∀σ,b4 σ (.v (.lst ((trans (lD G)).map nV))) (nV x)=S (.v (nV ((trans (lD G)).getD x 0))):=λσ=>jq (gh r (aw (by have:=w.big;exact bw this (by decide)))) (by rw[bx];exact Zrr (getD_some (by rw[aeE _,A3 _];exact r)) rfl);bz (b_ (b_ (aa rfl) (b_ aP (aa rfl) (Nn (b:=x) (by have:=w.big;exact bX (dq (dM r this) (by decide))))) (@AJ (wants G done) (1<<<x))) (bu (a_ (aa rfl) (by apply_assumption)) (aa rfl) (by apply_assumption)) (@AJ (wants G done|||1<<<x) ((trans (lD G)).getD x 0))) (bo (a _ _)))
   . intro q
     rw[hw,(by cases h:cK G p with
      |none=>rfl
      |some x=>rw[h]at q;exact jc q:cK G p=J)]at a
     exact bo (a _ _)
 exact λk o=>cb (aa rfl) (L (c8 rfl))
theorem Om {l:List V}(h:∀x∈l,isInt x=ab):l.all (isData 4)=true:=by
 rw[cF]
 intro x hx
 have:=h x hx
 cases x<;>first|rfl|exact bT this
theorem lF {l:List _}:∀x∈l.map (vI G),isInt x=true:=λx hx=>by
 refine ah (bY.mp hx) λp _ O=> ?_;subst O;rfl
theorem afu {a:List _}(b:∀p∈a,Vd G p){p}(c:Vd G p):mK (vI G p) (a.map (vI G))=S (decide (p∈a)):=by
 refine(b9 ⟨rfl,Om lF⟩).trans (congrArg _ ?_)
 rw[qG,yS,propext Ak,decide_eq_true_eq]
 constructor
 . intro O;refine ah O λq k h=> ?_;have:=pR.mp (of_decide_eq_true h)
   rw[(NK (b q k) c this).symm];assumption
 exact λh=>⟨p,h,decide_eq_true rfl⟩
def nJ (G:Gm)(a:List (Nat×Nat))(b:List Nat):List (Nat×Nat):=b.flatMap λX=>((fu G X).map λr=>(r,0)).filter λp=> !decide (p∈a)
theorem oU (h:∀x∈l,isInt x=ab)(hl:l.length<aE):mL l=true:=by
 unfold mL
 rw[cF.mpr h,decide_eq_true hl];rfl
theorem mh (a:rZ σ x=S l)(h:mL l=ab):cB σ .sorted x=S (.items (gn l)):=aJ a (b9 h)
theorem u_ (w:WF G){l:List _}(h:l.Nodup)(b:∀p∈l,Vd G p):l.length<=28:=by
 have a:=nE h λx hx=>NG.mpr (b x hx)
 have:∀(l:List _) k,(∀p∈l,p.2.length<=3)->(p5 k l).length<=4*l.length:=by
  intro l
  induction l with
  |nil=>intro k _;exact bb _
  |cons q l c=>
   intro k h
   have:=c (k+1) λp o=>h p (dA _ o)
   have:=h q cT
   rw[FN,aY,aq _,cP,jG]
   exact Sz ‹_› this
 have r:=this _ 0 (NU w)
 have u:G.rs.length<=7:=w.nr
 unfold tj at a
 exact SA a r u
theorem afv (w:WF G){u:List Nat}(I:3<=D):(aQ prog D).call 19 [.v (vC G),.v (.tup ((aW G u).map (vI G)))] σ=S (.v (.lst ((p8 G u).map (vI G))),σ):=by
 refine ed (dE I) rfl rfl rfl rfl λT Q=> ?_
 have k:=dJ I
 have hS:nS G<aE:=aw (by have:=w.big;exact bw this (by decide))
 have c1:=λσ=>A_ (G:=G) (σ:=σ)
 have U:=λσ=>jr (G:=G) (σ:=σ)
 have e1:=λσ=>aft (σ:=σ) w (p9) k (K:= .tup ((aW G u).map (vI G))) rfl
 have e2:∀σ,(aQ prog (D - 1)).call 1 [.v (nV (wants G (aW G u)))] σ=S (.v (.lst ((bS G u).map nV)),σ):=λσ=>by
  rw[(afi w).symm]
  exact afs (ba (by decide) k) (afj w) (by have:=w.big;exact bX (bw this (by decide)))
 refine bz (iH aA (aw (eN _))) ?_
 refine d_ nV (bS G u) (λdone Z=>∀x b c,Z [S (.v (vC G)),S (.v (.tup ((aW G u).map (vI G)))),S (.ref 0),x,b,c] [cL ((nJ G (aW G u) done).map (vI G))]) (c7 (c6 (aj (cX (aa rfl) (by apply_assumption) (aj (aa rfl) aA) (by apply_assumption)) aA) (by apply_assumption)) rfl) (λZ a=>a _ _ _) ?_ ?_
 . intro done X rest Z a L x b c
   have Y:=by
    have:X∈bS G u:=by rw[L];simp
    exact gw.mp (fK.mp this).1
   refine bt rfl ?_
   have e3:=λσ=>aeN (σ:=σ) w Y (ba (by decide) k:1<=D - 1)
   refine d_ nV (fu G X) (λo Z=>∀b c,Z [S (.v (vC G)),S (.v (.tup ((aW G u).map (vI G)))),S (.ref 0),S (.v (nV X)),b,c] [cL ((nJ G (aW G u) done++ (o.map λr=>(r,0)).filter λp=> !decide (p∈aW G u)).map (vI G))]) (c7 (cX (a_ (aa rfl) (by apply_assumption)) (by apply_assumption) (aj (aa rfl) aA) (by apply_assumption)) rfl) (λZ a=>kq (a _ _) (by simp)) ?_ ?_
   . intro o r J9 Z a O b c
     have hr:=by
      have:r∈fu G X:=by rw[O];simp
      exact(p_.mp this).1
     have hp:Vd G (r,0):=⟨hr,dO _⟩
     have e4:=λσ=>u3 (σ:=σ) (d:=0) w hr (ba (by decide) k:1<=D - 1)
     refine bt rfl (bz (cX (a_ (aa rfl) (by apply_assumption)) (U _) (aj (aa rfl) (aj aP aA)) (e4 _)) ?_)
     have i1:∀σ,cO σ .iu (.v (nV (gB G (r,0)))) (.v (.tup ((aW G u).map (vI G))))=S (!decide ((r,0)∈aW G u)):=λσ=>bP (afu p9 hp)
     have hl:((nJ G (aW G u) done++ (o.map λr=>(r,0)).filter λp=> !decide (p∈aW G u)).map (vI G)).length<aE:=aw (by
      have h1:(nJ G (aW G u) done++ (o.map λr=>(r,0)).filter λp=> !decide (p∈aW G u)).length<=(xZ G u).length:=by
       have:xZ G u=nJ G (aW G u) (bS G u):=rfl
       rw[this,L];rewrite[nJ,nJ];rw[qb,Bb,aY,aY,aY,O,bK,j_ _ _,aY]
       exact TC
      have y:=(F7 w u).length_eq
      have H:=u_ w (rE (A4 G u)) A5
      rw[aq _];exact bw (hC (hC h1 (aK y)) H) (by decide))
     refine jV (br (aa rfl) (aa rfl) (by apply_assumption)) ?_ ?_ λ_ _ h=>bo h
     . intro q
       refine fH (d9 (aa rfl) (gz rfl) (aj (aa rfl) aA) (i9 rfl hl)) (bo (kq (a _ _) ?_))
       rw[(bK (f:=λr=>(r,0))),j_ _ _,vb,(pP (p:=λp=> !decide (p∈aW G u)) q),x8,(bM _ _ _).symm,bK (l₂:= [(r,0)])]
       rfl
     . intro q
       refine bo (kq (a _ _) ?_)
       rw[(bK (f:=λr=>(r,0))),j_ _ _,vb];refine Zrr (pQ (by rw[q];exact gr)) ?_;rw[x8,dg _];rfl
   . intro b c
     refine bo (kq (a _ _ _) ?_)
     rewrite[nJ,nJ];rw[qb,Bc _ _];rfl
 . intro x b c
   have hs:gn ((nJ G (aW G u) (bS G u)).map (vI G))=(p8 G u).map (vI G):=tn (F7 w u) A5 (A4 G u)
   refine cb (iI (aa rfl) (mh (fV _) (oU lF (aw ?_)))) (Q (c8 (by(rw[hs];rfl))))
   have y:(nJ G (aW G u) (bS G u)).length=_:=(F7 w u).length_eq
   have H:=u_ w (rE (A4 G u)) A5
   rw[aq _];exact bw (hC (aK y) H) (by decide)
def cls (G:Gm)(u:List Nat):List (Nat×Nat):=aW G u++p8 G u
theorem oV:∀p∈cls G u,Vd G p:=λp h=>(b8.mp h).elim (p9 p) (A5 p)
theorem tw (u):(cls G u).Perm (bD G u):=afk G u
theorem Oo (u):(cls G u).Nodup:=(tw u).nodup_iff.mpr (rE (me G u))
theorem rI (w:WF G)(u):(cls G u).length<=28:=u_ w (Oo u) oV
theorem Gg (w:WF G)(u):(aW G u).length<=28:=u_ w (rE (rF G u)) p9
theorem Oq (w:WF G){u}(a:4<=D):(aQ prog D).call 20 [.v (vC G),.v (.tup ((aW G u).map (vI G)))] σ=S (.v (.lst ((cls G u).map (vI G))),σ):=ed (dE a) rfl rfl rfl rfl λT b=>have c:=λσ=>A_ (G:=G) (σ:=σ);have k:=λσ=>afv (σ:=σ) (u:=u) w (dJ a);cb (b_ (iI (aa rfl) ((λσ=>by
 refine Zrr (mh rfl (oU lF (aw (by have:=Gg w u;rw[aq _];exact bw this (by decide))))) ?_;rw[tn (.refl _) p9 (rF G u)];rfl:∀σ,cB σ _ _=S _) _)) (cX (aa rfl) (by apply_assumption) (aj (aa rfl) aA) (by apply_assumption)) (by
 rw[ny,cls,bK];rfl
 have:=rI w u
 rw[cls,aY]at this
 exact aw (by rw[aq _,aq _];lia))) (b (c8 rfl))
theorem afw (w:WF G){u}(a:5<=D):(aQ prog D).call 21 [.v (vG G),.v (.tup ((aW G u).map (vI G)))] σ=S (.v (.lst ((cls G u).map (vI G))),σ):=ed (dE a) rfl rfl rfl rfl λT c=>have b:=dJ a;cb (cX (rz (aj (aa rfl) aA) (Ol w (ba (by simp) b))) A_ (aj (aa rfl) aA) (Oq w b)) (c (c8 rfl))
def kK (G:Gm)(p:Nat×Nat):Bool:=(cK G p).isNone&&decide (p.1≠0)
theorem afx:cO σ .lt (.v (gE o)) (.v (.int 0))=S o.isNone:=by
 cases o with
 |none=>rfl
 |some x=>exact congrArg _ (decide_eq_false (lT.mpr (mY x)))
theorem afy:cO σ .ne (.v (nV n)) (.v (.int 0))=S (decide (n≠0)):=by
 refine(congrArg (Option.map _) (tf:cO σ _ _ _=S _)).trans (congrArg S ?_)
 by_cases q:n=0<;>simp
theorem x9 {b:Type}{l:List b}{f:b->Nat}:∀x∈l.map λa=>nV (f a),isInt x=true:=λx hx=>by
 refine ah (bY.mp hx) λp _ O=> ?_;subst O;rfl
theorem afz (w:WF G){u}(k:2<=D):(aQ prog D).call 24 [.v (vG G),.v (.lst ((cls G u).map (vI G)))] σ=S (.v (.lst (((bD G u).filter (kK G)).map λp=>nV p.1)),σ):=by
 refine ed (dE k) rfl rfl rfl rfl λT I=> ?_
 have len:∀ {l:List _},l.length<=28->((l.filter (kK G)).map λp=>nV p.1).length<aE:=λ{l} h=>aw (by
  have:=jZ (kK G) l
  rw[aq _];exact bw (hC this h) (by decide))
 refine bz (iH aA (aw (eN _))) (d_ _ _ (λdone Z=>∀o,Z [S (.v (vG G)),S (.v (.lst ((cls G u).map (vI G)))),S (.ref 0),o] [cL ((done.filter (kK G)).map λp=>nV p.1)]) (c7 (rfl) rfl) (λZ c=>c _) ?_ ?_)
 . intro done p rest Z c x o
   have y:=oV p (by rw[x];simp)
   have r:=λσ=>jr (G:=G) (σ:=σ)
   have H:=λσ=>AR (σ:=σ) w y (dJ k)
   refine bt rfl (jV (p:=kK G p)
    (xy (br (cX (rfl) (r _) (rfl) ((λσ=>FJ (σ:=σ) w y (dJ k)) _)) aP afx) λ_=>br (cX (rfl) (r _) (rfl) (H _)) aP afy) ?_ ?_ λ_ _ h=>bo h)
   . refine λq=>fH (d9 (aa rfl) (gz rfl) (aj (cX (rfl) (r _) (rfl) (H _)) aA) (i9 rfl (len (by
     have:=rI w u
     rw[x,aY]at this
     lia)))) (bo (kq (c _) ?_))
     rw[j_ _ _,pP q,bK];rfl
   . refine λq=>bo (kq (c _) ?_)
     rw[j_ _ _];refine Zrr (pQ (by exact Zrr q gr)) ?_;rw[x8,dg _];rfl
 . intro o
   have L:gn (((cls G u).filter (kK G)).map λp=>nV p.1)=((bD G u).filter (kK G)).map λp=>nV p.1:=by
    have h:=A2 (t:=((bD G u).filter (kK G)).map _) (((tw u).filter _).map _) (Zrr (propext i7) (((me G u).filter _).imp λ{a b} h=>h.elim bX λh=>aK h.1))
    rwa[b5,b5]at h
   exact cb (iI (aa rfl) (mh (fV _) (oU x9 (len (rI w u))))) (I (c8 (by rw[L];rfl)))
abbrev KB:=List (Nat×List (Nat×Nat))
noncomputable def mi (X:Nat)(p:Nat×Nat):KB->KB
 | []=> [(X,[p])]
 |e::r=>if e.1=X then(X,e.2++ [p])::r else e::mi X p r
theorem Gh {X}{p}{e}{r:KB}:mi X p (e::r)=if e.1=X then(X,e.2++ [p])::r else e::mi X p r:=rfl
noncomputable def mj (p:Nat×Nat):Nat×Nat:=(p.1,p.2+1)
def oW (G:Gm)(a:KB)(p:Nat×Nat):KB:=match cK G p with
 |some X=>mi X (mj p) a
 |none=>a
def fw (G:Gm)(l:List (Nat×Nat)):KB:=l.foldl (oW G) []
def g9 (k:Nat)(a:KB):List (V×X):=(a.zipIdx k).map λe=>(nV e.1.1,.ref (e.2+1))
def tx (G:Gm)(a:KB):Hp:=a.map λe=>cL (e.2.map (vI G))
def fM (G:Gm)(a:KB):Hp:= .aU .int (g9 0 a)::tx G a
theorem x_:dN (nV a) (nV b)=decide (a=b):=decide_eq_decide.mpr pR
theorem mm {r:List (V×b)}:ck k ((a,x)::r)=if dN a k then S x else ck k r:=rfl
theorem tA {x y}{r:List (V×b)}:ec k x ((a,y)::r)=if dN a k then(a,x)::r else(a,y)::ec k x r:=rfl
noncomputable def dQ (X:Nat):KB->Option Nat
 | []=>J
 |e::r=>if e.1=X then S 0 else(dQ X r).map (· +1)
theorem afA {X}:dQ X []=none:=rfl
theorem kg {X}{e}{r:KB}:dQ X (e::r)=if e.1=X then S 0 else(dQ X r).map (· +1):=rfl
theorem Be {X}:∀(a:KB) (k:Nat),ck (nV X) (g9 k a)=(dQ X a).map λj=> .ref (k+j+1):=by
 intro b
 induction b with
 |nil=>
  exact λk=>rfl
 |cons e r c=>
  intro k
  rewrite[g9];rw[Gi,dz,mm,x_,kg]
  by_cases h:e.1=X
  . rw[if_pos (decide_eq_true h),if_pos h];rfl
  . refine Zrr (if_neg (by rw[decide_eq_false h];exact gr)) ?_;rw[if_neg h]
    have:=c (k+1)
    rw[g9]at this
    rw[this]
    cases dQ X r with
    |none=>rfl
    |some j=>simp only[uc];lia
theorem Bf {X}:∀ {a:KB} {j:Nat},dQ X a=S j->∃l,a[j]?=S (X,l):=by
 intro b
 induction b with
 |nil=>exact λh=>nomatch h
 |cons e r c=>
  intro j h
  rw[kg]at h
  by_cases q:e.1=X
  . rw[if_pos q]at h;cases h;exact⟨_,by rw[q.symm];rfl⟩
  . rw[if_neg q]at h
    refine gY h λi k O=> ?_;subst O
    exact c k
theorem Gj {X}{p}:∀ {a:KB},dQ X a=J->mi X p a=a++ [(X,[p])]:=by
 intro b
 induction b with
 |nil=>
  exact λ_=>rfl
 |cons e r c=>
  intro h
  rw[kg]at h
  split at h
  . exact kO h
  . rename_i q
    rw[Gh,if_neg q,c (Gk.mp h)];rfl
theorem Gl {X}{p}{l}:∀ {a:KB} {j:Nat},dQ X a=S j->a[j]?=S (X,l)->mi X p a=a.set j (X,l++ [p]):=by
 intro c
 induction c with
 |nil=>
  intro _ h _
  exact aD h
 |cons e r k=>
  intro j h b
  rw[kg]at h
  rw[Gh]
  split at h
  . cases h
    cases b
    rw[if_pos rfl];rfl
  . rename_i q
    rw[if_neg q]
    cases q2:dQ X r with
    |none=>rw[q2]at h;exact aD h
    |some i=>
     rw[q2]at h;cases h
     rewrite[k q2 b];rfl
theorem afB {X}{l}:g9 0 (a++ [(X,l)])=g9 0 a++ [(nV X,.ref (a.length+1))]:=by
 rewrite[g9];rw[Ot];simp[g9]
theorem afC {k j}{X}{l b}(h:a[j]?=S (X,l)):g9 k (a.set j (X,b))=g9 k a:=by
 rw[g9,g9]
 refine gQ λi=> ?_
 rw[bx,bx,lG,lG,rJ]
 split
 . rename_i q
   subst q
   rw[h]
   split
   . rfl
   . rename_i q;exact absurd (dB h) q
 rfl
theorem Ou {l:List _}{X}:∀ {c:KB},(∃p,cK G p=S X/\p∈l)\/dQ X c≠J↔dQ X (l.foldl (oW G) c)≠none:=by
 have k:∀ {Y:Nat} {p:Nat×Nat} {c:KB},dQ X (mi Y p c)≠J↔X=Y\/dQ X c≠none:=by
  intro Y p c
  induction c with
  |nil=>
   show dQ X [(Y,[p])]≠J↔_
   exact if h:Y=X then by simp[h,kg]else by simp[h,vZ h,kg]
  |cons e r o=>
   rw[Gh]
   split
   . rename_i q
     rw[kg,kg];exact Zrr q (if h:Y=X then by simp[h]else by simp[vZ h])
   . rw[kg,kg]
     by_cases h:e.1=X
     . simp[h]
     . simp only[h,if_false,ne_eq,Gk]
       exact o
 induction l with
 |nil=>intro c;simp
 |cons q l o=>
  intro c
  rw[kW,propext o.symm];rewrite[oW]
  cases h:cK G q with
  |none=>
   constructor
   . rintro (⟨p,b,a⟩|a)
     . rcases cy.mp a with rfl|a
       . rw[h]at b;exact aD b
       exact .inl ⟨p,b,a⟩
     exact .inr a
   . rintro (⟨p,b,a⟩|a)
     . exact .inl ⟨p,b,dA _ a⟩
     exact .inr a
  |some Y=>
   rw[k]
   constructor
   . rintro (⟨p,b,a⟩|a)
     . rcases cy.mp a with rfl|a
       . rw[h]at b;cases b;exact .inr (.inl rfl)
       exact .inl ⟨p,b,a⟩
     exact .inr (.inr a)
   . rintro (⟨p,b,a⟩|rfl|a)
     . exact .inl ⟨p,b,dA _ a⟩
     . exact .inl ⟨q,h,cT⟩
     exact .inr a
structure Bh (G:Gm)(l:List (Nat×Nat))(kb:KB):Prop where
 nd:(kb.map (·.1)).Nodup
 bD:∀X is,(X,is)∈kb->is=(l.filter λp=>decide (cK G p=S X)).map mj
theorem Gn {b:Type}{P:List b->Prop}(h0:P [])(c:∀l a,P l->P (l++ [a]))(l):P l:=by
 rw[l.reverse_reverse.symm]
 induction l.reverse with
 |nil=>exact h0
 |cons a l k=>rw[xk];exact c _ _ k
theorem Bi (l):Bh G l (fw G l):=by
 refine Gn (P:=λl=>Bh G l (fw G l)) ⟨Bj,λX is h=>by cases h⟩ ?_ l
 . intro l p c
   have e:fw G (l++ [p])=oW G (fw G l) p:=by rewrite[fw];rw[g8];rfl
   rw[e]
   have keep:∀X,cK G p≠S X->(l++ [p]).filter (λp=>decide (cK G p=S X))=l.filter λp=>decide (cK G p=S X):=λX h=>by
    rw[j_ _ _];refine Zrr (pQ (by simpa using h)) ?_;simp
   have more:∀X,cK G p=S X->(l++ [p]).filter (λp=>decide (cK G p=S X))=(l.filter λp=>decide (cK G p=S X))++ [p]:=λX h=>by
    rw[j_ _ _];exact Zrr (pP (by simpa using h)) rfl
   rewrite[oW]
   cases h:cK G p with
   |none=>exact⟨c.nd,λX is hm=>Zrr (keep X (by rw[h];simp)) (c.bD X is hm)⟩
   |some Y=>
    cases q:dQ Y (fw G l)with
    |none=>
     have Ov:=λis hm=>by
      have:∀ {u:KB},(Y,is)∈u->dQ Y u≠none:=λ{u} hm=>by
       induction u with
       |nil=>cases hm
       |cons e r c=>
        rw[kg]
        split
        . simp
        . rename_i ne
          rcases cy.mp hm with rfl|hm
          . exact absurd rfl ne
          simpa using c hm
      exact this hm q
     show Bh G _ (mi Y (mj p) (fw G l))
     rw[Gj q]
     constructor
     . rw[bK];refine Zrr (propext qL) ⟨c.nd,by simp,λa ha b hb e=> ?_⟩
       simp at hb
       subst hb e
       refine ah (bY.mp ha) λO hm x=> ?_;obtain ⟨_,is⟩:=O;subst x
       exact Ov is hm
     . intro X is hm
       rcases b8.mp hm with hm|hm
       . exact Zrr (keep X (by rw[h];intro e;cases e;exact Ov is hm)) (c.bD X is hm)
       . simp at hm
         refine au hm λO x=> ?_;clear hm;subst O;subst x
         rw[more X h];exact Zrr (xj.mpr λy H=>by simpa using (λy H e=>(Ou).mp (.inl ⟨y,e,H⟩) q) y H) rfl
    |some j=>
     refine ao (Bf q) λI k=> ?_
     show Bh G _ (mi Y (mj p) (fw G l))
     refine Zrr (Gl q k) ⟨(by
      refine Zrr xM (gQ λi=> ?_)
      rw[rJ]
      split
      . rename_i L;subst L
        rw[bx,k]
        split
        . rfl
        . rename_i z;rw[aq]at z;exact absurd (dB k) z
      rfl:((fw G l).set j (Y,I++ [mj p])).map (·.1)=(fw G l).map (·.1))▸c.nd,λX is hm=>ao (uI hm) λi o=> ?_⟩
     rw[rJ]at o
     split at o
     . rw[if_pos (dB k)]at o
       cases o
       rw[more _ h,bK,(c.bD _ _ (eY k)).symm];rfl
     . rename_i L
       rewrite[keep X ?_]
       . exact c.bD X is (eY o)
       . rw[h];intro e;cases e
         have Q:((fw G l).map (·.1))[j]?=S Y:=by rw[bx,k];rfl
         have U:((fw G l).map (·.1))[i]?=S Y:=by rw[bx,o];rfl
         rw[du (dB Q)]at Q
         rw[du (dB U)]at U
         exact L ((FK c.nd).mp ((je Q).trans (je U).symm))
theorem tB:∀ {a:List (V×o)},ck k a=J->ec k x a=a++ [(k,x)]:=by
 intro b
 induction b with
 |nil=>
  exact λ_=>rfl
 |cons u r c=>
  intro h
  rw[mm]at h
  split at h
  . exact kO h
  . rename_i q
    rw[tA,if_neg q,c h];rfl
theorem tC {X}{g:Nat->c}:∀ {l:List _},ck (nV X) (l.map λY=>(nV Y,g Y))=if X∈l then S (g X)else none:=by
 intro a
 induction a with
 |nil=>
  exact rfl
 |cons Y l b=>
  rw[dz,mm,x_,b]
  by_cases h:Y=X
  . rw[if_pos (decide_eq_true h)];refine Zrr (if_pos (Zrr h cT)) ?_;rw[h];rfl
  . refine Zrr (if_neg (by rw[decide_eq_false h];exact gr)) ?_
    by_cases q:X∈l
    . rw[if_pos q,if_pos (dA _ q)];rfl
    . rw[if_neg q];rewrite[if_neg λz=>(cy.mp z).elim (λe=>h e.symm) q];rfl
theorem Gp {k}(hr:σ[r]?=S (.aU t a))(hk:dS t k=ab):n8 σ k (.ref r)=S (ck k a).isSome:=aJ hr (b9 hk)
theorem afD (hr:σ[r]?=S (cL l)):rZ σ (.ref r)=S l:=aJ hr (fV l)
theorem Ow {a}(hr:σ[r]?=S (.aU t a)):rZ σ (.ref r)=S (keysOf a):=aJ hr rfl
theorem tD {t}:az cl (.aU ab t .nil .nil) ρ σ=S (.ref σ.length,σ++ [.aU t []]):=rfl
theorem Ox:(fM G a).length=a.length+1:=by rewrite[fM];rw[jG];rewrite[tx];rw[aq _];rfl
theorem Gq {j X}{l}(h:a[j]?=S (X,l)):(fM G a)[j+1]?=S (cL (l.map (vI G))):=by
 rewrite[fM];rw[List.getElem?_cons_succ];rewrite[tx];rw[bx,h];rfl
theorem afE {j X}{l a}(h:b[j]?=S (X,l)):(fM G b).set (j+1) (cL (a.map (vI G)))=fM G (b.set j (X,a)):=by
 rw[fM,fM,afC h,tx,tx,xM];rfl
theorem afF {X}(h:dQ X a=J):(fM G a++ [Cell.lst []]).set 0 (.aU .int (ec (nV X) (.ref (fM G a).length) (g9 0 a)))=fM G (a++ [(X,[])]):=by
 refine Zrr (tB (by rw[Be _ _,h];rfl)) ?_;rw[Ox,fM,fM,afB,tx,tx,bK];rfl
theorem afG (w:WF G)(u):((fw G (cls G u)).map (·.1)).Perm (bS G u):=by
 refine u6 (Bi _).nd (.imp dx (qa G u)) λX=> ?_
 rw[i8 w,propext oR,propext (by
  have:∀a,X∈a.map (·.1)↔dQ X a≠none:=λa=>by
   induction a with
   |nil=>simp[afA]
   |cons e r k=>
    rw[kg];rw[dz];rw[propext cy];exact Zrr (propext k) (if h:e.1=X then by simp[h]else by simp[h,vZ h])
  exact this _:X∈ (fw G _).map _↔dQ X _≠J)];rewrite[fw];rw[Ou.symm]
 constructor
 . rintro (⟨p,b,c⟩|h)
   . exact⟨p,kJ.mp ((tw u).mem_iff.mp c),b⟩
   exact absurd rfl h
 . intro O;exact ah O λp b c=> .inl ⟨p,c,(tw u).mem_iff.mpr (kJ.mpr b)⟩
theorem afH (w:WF G)(u)(X):(((cls G u).filter λp=>decide (cK G p=S X)).map mj).Perm (aW G (u++ [X])):=by
 refine u6 (by
  rw[rK];exact Zrr (propext i7) (((Oo u).filter _).imp λh e=>h ((by
  intro O;obtain ⟨a,b⟩:=O;intro x;intro h
  have c:=congrArg Prod.fst h
  have o:=congrArg Prod.snd h
  simp[mj]at c o
  rw[c,o];rfl:∀p q,mj p=mj q->p=q) _ _ e))) (rE (rF G _)) λp=> ?_
 rw[js,propext bY]
 constructor
 . intro O;refine ah O λx h y=> ?_;subst y
   exact au (fK.mp h) λc o=>⟨rC.mpr ⟨kJ.mp ((tw u).mem_iff.mp c),of_decide_eq_true o⟩,rfl⟩
 . intro O;refine au O λh k=> ?_;clear O
   obtain ⟨r,d⟩:=p
   cases d with
   |zero=>
    have e:=by simpa [gg]using k
    subst e
    exact absurd ((rD w).mp h) (by simp)
   |succ d=>
    exact au (rC.mp h) λc o=>⟨_,fK.mpr ⟨(tw u).mem_iff.mpr (kJ.mpr c),decide_eq_true o⟩,rfl⟩
theorem rL (h:n8 σ k o=S b):cO σ .iu (.v k) o=S !b:=bP h
theorem Oy (w:WF G){l}(h:∀p∈l,Vd G p):(fw G l).length<=9:=by
 have c:=nE (Bi l).nd λX o=>by
  refine ah (bY.mp o) λO hm r=> ?_;subst r
  have:=λl=>by
   refine Gn (P:=λl=>(∀p∈l,Vd G p)->∀e∈fw G l,e.1<nS G) (λ_ e h=>by cases h) ?_ l
   intro l p a k e he
   have a:=a λp b=>k p (fh _ b)
   have b:=k p (by simp)
   rw[fw,g8]at he
   change e∈oW G (fw G l) p at he
   rw[oW]at he
   cases q:cK G p with
   |none=>rw[q]at he;exact a e he
   |some Y=>
    rw[q]at he
    change e∈mi Y _ _ at he
    cases z:dQ Y _ with
    |none=>
     rw[Gj z]at he
     refine(b8.mp he).elim (a e) λhe=> ?_
     . simp at he;subst he;exact tq w b.1 q
    |some j=>
     refine ao (Bf z) λis u=> ?_
     rw[Gl z u]at he
     rcases List.mem_or_eq_of_mem_set he with he|rfl
     . exact a e he
     exact tq w b.1 q
  exact gw.mpr (this l h _ hm)
 rw[aq,cP]at c
 exact ba c w.big
def eE (G:Gm)(u:List Nat):V:= .tup ((aW G u).map (vI G))
theorem afI (w:WF G){D}(u:2<=D){done}{p}{X}{K}(x:∀q∈done,Vd G q)(y:Vd G p)(U:cK G p=S X)
 {a}(c:a=fw G done)(hl:∀X l,(X,l)∈a->l.length<aE){Q}{R}(H:Q [S (.v (vG G)),S (.v K),S (.ref 0),S (.v (vI G p)),S (.v (nV X)),J] (fM G (mi X (mj p) a))):
 Do (aZ (aQ prog D) (.cons (.ite (.cmp .iu (.var 4) (.var 2)) (.cons (.gm (.var 2) (.var 4) (.lst ab .nil)) .nil) .nil) (.cons (.ex (.da (.idx (.var 2) (.var 4)) .append (.cons (.call 22 (.cons (.var 0) (.cons (.var 3) .nil))) .nil))) .nil))
  [S (.v (vG G)),S (.v K),S (.ref 0),S (.v (vI G p)),S (.v (nV X)),J] (fM G a)) Q R:=by
 refine td (p:= !(dQ X a).isSome) (λZ=>∀b j l,dQ X b=S j->b[j]?=S (X,l)->l.length<aE->b.set j (X,l++ [mj p])=mi X (mj p) a->Z [S (.v (vG G)),S (.v K),S (.ref 0),S (.v (vI G p)),S (.v (nV X)),J] (fM G b))
  (br (aa rfl) (aa rfl) (rL ((Gp rfl rfl).trans (by rw[Be _ _];cases dQ X a<;>rfl)))) ?_ ?_ ?_
 . intro Z k q
   have q:dQ X a=none:=by cases z:dQ X a with
    |none=>rfl
    |some j=>rw[z]at q;exact bT q
   refine jU (iH aA (aw (eN _))) (aa rfl) (aa rfl) (rB rfl rfl (aw (by have:=Oy w x;rw[<-c]at this;rewrite[g9];rw[aq _,vc];lia))) (bo (kq (k _ a.length [] ?_ ?_ (aw (eN _)) ?_) (afF q)))
   . have:∀a,dQ X a=J->dQ X (a++ [(X,[])])=S a.length:=λa=>by
      induction a with
      |nil=>intro _;simp[kg]
      |cons e r I=>
       intro h
       rw[kg]at h
       split at h
       . exact kO h
       . rename_i z
         rw[CW];rewrite[dQ];rw[if_neg z,I (Gk.mp h)];rfl
     exact this a q
   . simp
   . rw[Gj q];simp
 . intro Z k q
   obtain ⟨j,z⟩:∃j,dQ X a=S j:=by cases z:dQ X a with
    |none=>rw[z]at q;exact jc q
    |some j=>exact⟨j,rfl⟩
   exact ao (Bf z) λl h=>bo (k a j l z h (hl _ _ (eY h)) (Gl z h).symm)
 . refine λb j l L o Y O=>fH (d9 (bu (aa rfl) (aa rfl) (Fv rfl rfl (by rw[Be _ _,L];simp))) (gz (Gq o)) (aj (c6 (aj (aa rfl) (aj (aa rfl) aA)) ((λσ=>aeO (σ:=σ) w y u) _)) aA) (i9 (Gq o) (by rw[aq _];assumption))) (bo (kq H ?_))
   rw[O.symm,(afE o).symm,bK];rfl
theorem afJ (w:WF G){u:List Nat}(L:3<=D):(aQ prog D).call 23 [.v (vG G),.v (.lst ((cls G u).map (vI G)))] σ=S (.v (.aU .int ((bS G u).map λX=>(nV X,eE G (u++ [X])))),σ):=by
 refine ed (dE L) rfl rfl rfl rfl λT hT=> ?_
 have jO:∀l,l<+:cls G u->∀X is,(X,is)∈fw G l->is.length<aE:=λl hl X is hm=>by
  rw[(Bi l).bD X is hm,aq _]
  have:=jZ (λp=>decide (cK G p=S X)) l
  have:=hl.length_le
  have:=rI w u
  exact aw (bw (hC (hC ‹_› ‹_›) this) (by decide))
 refine bz tD ?_
 refine d_ (vI G) (cls G u) (λdone Z=>∀k o,Z [S (.v (vG G)),S (.v (.lst ((cls G u).map (vI G)))),S (.ref 0),k,o,J] (fM G (fw G done))) (c7 (rfl) rfl) ?_ ?_ ?_
 . intro Z b
   exact b _ _
 . intro done p rest Z b y k o
   have hv:=λq hq=>oV q (by rw[y];exact fh _ hq)
   have H:=oV p (by rw[y];simp)
   have c1:=λσ=>jr (G:=G) (σ:=σ)
   have e1:=λσ=>FJ (σ:=σ) w H (ba (by decide) (dJ L))
   have e:fw G (done++ [p])=oW G (fw G done) p:=by rewrite[fw];rw[g8];rfl
   refine bt rfl (bz (cX (rfl) (c1 _) (aj (aa rfl) aA) (e1 _)) ?_)
   rw[e]at b
   refine jV (br (aa rfl) aP x7) ?_ ?_ λ_ _ h=>bo h
   . intro q
     refine ao (ui.mp q) λX Q=> ?_
     rw[Q]
     exact afI w (dJ L) hv H Q rfl (jO done ⟨_,y.symm⟩) (kq (b _ _) (by(rewrite[oW];rw[Q];rfl)))
   . intro q
     have q:cK G p=none:=by cases z:cK G p with
      |none=>rfl
      |some j=>rw[z]at q;exact jc q
     refine bo (kq (b _ _) ?_)
     rewrite[oW];rw[q];rfl
 . intro k o
   have Oz:=Oy w (λp H=>oV (u:=u) p H)
   have qW:=Bi (G:=G) (cls G u)
   have U:=afG w u
   have OA:=jO _ (A6 _)
   generalize fw G (cls G u)=a at Oz qW U OA
   have hs:gn (keysOf (g9 0 a))=(bS G u).map nV:=by
    have:keysOf (g9 0 a)=(a.map (·.1)).map nV:=by
     rewrite[keysOf,g9];rw[b5,b5]
     refine gQ λi=> ?_
     rw[bx,bx,lG]
     cases a[i]?<;>rfl
    rw[this]
    exact A2 U ((qa G u).imp bX)
   have Y:mL (keysOf (g9 0 a))=true:=oU (λx hx=>by
    (refine ah (bY.mp hx) λe he O=> ?_;obtain rfl:=O)
    (refine ah (bY.mp he) λq _ O=> ?_;obtain rfl:=O)
    rfl) (aw (by(rewrite[keysOf,g9];rw[aq _,aq _,vc]);exact bw Oz (by decide)))
   have hlk:(fM G a).length=a.length+1:=Ox
   refine bz tD ?_
   have g0:∀c,(fM G a++ [c])[0]?=S (.aU .int (g9 0 a)):=λc=>rfl
   have b1:=λc=>(mh (Ow (g0 c)) Y).trans (by(rw[hs];rfl))
   refine d_ nV (bS G u) (λdone Z=>∀k o,Z [S (.v (vG G)),S (.v (.lst ((cls G u).map (vI G)))),S (.ref 0),k,o,S (.ref (fM G a).length)] (fM G a++ [.aU .int (done.map λX=>(nV X,.v (eE G (u++ [X]))))])) (c7 (iI (aa rfl) (b1 _)) rfl) ?_ ?_ ?_
   . intro Z b
     exact b _ _
   . intro done X rest Z b y k o
     refine bt rfl ?_
     obtain ⟨j,is,I,jM⟩:∃j is,a[j]?=S (X,is)/\dQ X a=S j:=by
      have hm:X∈a.map (·.1):=U.mem_iff.mpr (by rw[y];simp)
      have:∀a:KB,X∈a.map (·.1)->dQ X a≠none:=λa=>by
       induction a with
       |nil=>intro h;cases h
       |cons e r ih=>
        intro h
        rw[kg]
        split
        . simp
        . rename_i z
          rw[ne_eq _ _,propext Gk]
          exact ih ((cy.mp h).resolve_left λe=>z e.symm)
      cases z:dQ X a with
      |none=>exact absurd z (this a hm)
      |some j=>
       refine ao (Bf z) λl hl=> ?_
       exact⟨j,l,hl,rfl⟩
     have his:=qW.bD X is (eY I)
     have hsk:gn (is.map (vI G))=(aW G (u++ [X])).map (vI G):=by
      rw[his];exact tn (afH w u X) p9 (rF G _)
     have i1:∀c,b4 (fM G a++ [c]) (.ref 0) (nV X)=S (.ref (j+1)):=λc=>Fv (g0 c) rfl (by(rw[Be _ _,jM]);simp)
     have gj:∀c,(fM G a++ [c])[j+1]?=S (cL (is.map (vI G))):=λc=>by
      have:=dB I
      refine Zrr (eR (by rw[hlk];exact q7 this)) ?_;exact Gq I
     have b2:=λc=>(mh (afD (gj c)) (oU lF (by rw[aq _];exact OA _ _ (eY I)))).trans (by(rw[hsk];rfl))
     have b3:∀σ,cB σ .tuple (.v (.lst ((aW G (u++ [X])).map (vI G))))=S (.val (eE G (u++ [X]))):=λσ=>xK (aw (by have:=Gg w (u++ [X]);rw[aq _];exact bw this (by decide)))
     have gl:∀c,(fM G a++ [c])[(fM G a).length]?=S c:=λc=>by simp
     have yc:(done.map λX=>(nV X,Tactic.X.v (eE G (u++ [X])))).length<aE:=aw (by
      have h1:(bS G u).length<=(List.range (nS G)).length:=jZ _ _
      have h2:(bS G u).length=done.length+ (rest.length+1):=by rw[y,aY,jG];rfl
      rw[cP]at h1
      have:=w.big
      rw[aq _];lia)
     refine jU (cw (iI (bu (aa rfl) (aa rfl) (i1 _)) (b2 _)) (b3 _)) (aa rfl) (aa rfl) (rB (gl _) rfl yc) (bo (kq (b _ _) ?_))
     have nX:=λh=>by
      have:=List.Pairwise.imp dx (qa G u)
      rw[y,gf]at this
      exact this.2.2 X h X cT rfl
     refine Zrr (tB (by(rw[tC,if_neg nX];rfl))) ?_;rw[xd _ _ (bb _),kE _,bK];rfl
   . intro k o
     exact cb (aa rfl) (hT ⟨_,Fo (by
      rw[iG (bb _),kE _]
      show S (Cell.aU KT.int ((bS G u).map λX=>(nV X,Tactic.X.v (eE G (u++ [X])))))=_
      rw[b5];rfl)⟩)
theorem Gr {A:Type} [DecidableEq A]{f}:∀ {l m:List A},(∀a∈l,∀b∈m,gJ (f a) (f b)=decide (a=b))->lN (l.map f) (m.map f)=decide (l=m):=by
 intro c
 induction c with
 |nil=>
  intro m _
  cases m with
  |nil=>rfl
  |cons b m=>exact(decide_eq_false nofun).symm
 |cons a l k=>
  intro m h
  cases m with
  |nil=>exact(decide_eq_false nofun).symm
  |cons b m=>
   show(gJ _ _&&lN _ _)=_
   rw[h a cT b cT,k λx hx y o=>h x (dA _ hx) y (dA _ o),propext qG,propext dF,propext decide_eq_true_iff,propext decide_eq_true_iff,propext decide_eq_true_iff,List.cons.injEq _ _ _ _];rfl
theorem Bk (h:σ[n]?=S (.obj c a))(hf:hJ c f=ab)(hl:n6 f a=S x):ef σ (.ref n) f=S x:=aJ h ((b9 hf).trans hl)
theorem Gs {x}(h:σ[n]?=S (.obj c a))(hf:(decide (a.length<64) &&hJ c f)=ab):r8 σ (.ref n) f x=S (σ.set n (.obj c (lO f x a))):=aJ h (b9 ⟨of_decide_eq_true (dF.mp hf).1,(dF.mp hf).2⟩)
theorem rM {σ r:Hp}{c f}{a}{x}(hf:(decide (a.length<64) &&hJ c f)=ab):r8 (σ++ .obj c a::r) (.ref σ.length) f x=S (σ++ .obj c (lO f x a)::r):=by
 refine Zrr (Gs (by rw[iG (bb _),kE _];rfl) hf) ?_;rw[xd _ _ (bb _),kE _];rfl
set_option genInjectivity false in
structure Rc where
 w:List Nat
 it:List V
 rd:List V
 mv:List (Nat×Nat)
def stC (G:Gm)(t:Nat)(r:Rc):Cell:= .obj 2 [(0,.v (nV t)),(17,.v (eE G r.w)),(18,.v (gE r.w.getLast?)),(19,.v (.lst r.it)),(20,.ref (2*t+4)),(21,.v (.lst r.rd))]
def i_ (r:Rc):Cell:= .aU .int (r.mv.map λp=>(nV p.1,.v (nV p.2)))
noncomputable def tl (G:Gm):Nat->List Rc->Hp
 |_,[]=> []
 |t,r::l=>stC G t r::i_ r::tl G (t+1) l
theorem oX:tl G t (r::l)=stC G t r::i_ r::tl G (t+1) l:=rfl
def ja (G:Gm)(k:Nat)(L:List Rc):List (V×X):=(L.zipIdx k).map λp=>(eE G p.1.w,.v (nV p.2))
noncomputable def rN (n:Nat):Cell:= .lst ((List.range n).map λt=> .ref (2*t+3))
def bO (G:Gm):Cell:= .obj 5 [(22,.v (vG G)),(25,.v (vC G)),(24,.ref 1),(26,.ref 2)]
def bH (G:Gm)(L:List Rc):Hp:=bO G::rN L.length:: .aU (.ints ()) (ja G 0 L)::tl G 0 L
def nK (G:Gm)(L:List Rc)(y:List Nat):List Rc:=if aW G y∈L.map (λr=>aW G r.w)then L else L++ [⟨y,[],[],[]⟩]
theorem afK:dN (eE G u) (eE G v)=decide (aW G u=aW G v):=Gr λa ha b hb=>decide_eq_decide.mpr ⟨λh=>NK (p9 a ha) (p9 b hb) (pR.mp h),λh=>by rw[h];rfl⟩
theorem Gu:∀(L:List Rc) (k:Nat),ck (eE G y) (ja G k L)=if aW G y∈L.map λr=>aW G r.w then S (.v (nV (k+ (L.map λr=>aW G r.w).idxOf (aW G y))))else none:=by
 intro b
 induction b with
 |nil=>
  exact λ_=>rfl
 |cons r L c=>
  intro k
  have a:=c (k+1)
  rw[ja]at a ⊢
  rw[Gi,dz,mm,afK,a,dz]
  by_cases h:aW G r.w=aW G y
  . rw[if_pos (decide_eq_true h)];refine Zrr (if_pos (Zrr h cT)) ?_;rw[h];simp
  . refine Zrr (if_neg (by rw[decide_eq_false h];exact gr)) ?_
    by_cases q:aW G y∈L.map λr=>aW G r.w
    . rw[if_pos (dA _ q),List.idxOf_cons];refine Zrr (show(aW G _==aW G y)=ae from by simpa using h) ?_;rw[cond_false _ _]
      lia
    . rw[if_neg q];rewrite[if_neg λz=>(cy.mp z).elim (λe=>h e.symm) q];rfl
theorem afL (L):(ck (eE G y) (ja G 0 L)).isSome=decide (aW G y∈L.map λr=>aW G r.w):=by
 rw[Gu _ _]
 by_cases q:aW G y∈L.map λr=>aW G r.w
 . rw[if_pos q,decide_eq_true q];rfl
 . rw[if_neg q,decide_eq_false q];rfl
theorem Gv:dS (.ints ()) (eE G y)=true:=cF.mpr lF
theorem afM:ja G 0 (L++ [r])=ja G 0 L++ [(eE G r.w,.v (nV L.length))]:=by
 rewrite[ja];rw[Ot];simp[ja]
theorem afN:∀ {L:List Rc} {k:Nat},tl G k (L++ [r])=tl G k L++ [stC G (k+L.length) r,i_ r]:=by
 intro b
 induction b with
 |nil=>
  exact rfl
 |cons a L c=>
  intro k
  rw[CW,oX,c,k.add_right_comm 1 _];rfl
theorem OC:∀ {L:List Rc} {k:Nat},(tl G k L).length=2*L.length:=by
 intro b
 induction b with
 |nil=>
  exact rfl
 |cons a L c=>
  rw[oX,jG,jG,c,jG];exact Si
theorem OD:∀ {L:List Rc} {k t:Nat},(tl G k L)[2*t]?=L[t]?.map (stC G (k+t))
 | [],_,_=>rfl
 |a::L,k,0=>rfl
 |a::L,k,t+1=>by
  show(tl G _ L)[2*t]?=_
  rw[OD,k.add_right_comm 1 _];rfl
theorem OE:∀ {L:List Rc} {k t:Nat},(tl G k L)[2*t+1]?=L[t]?.map i_
 | [],_,_=>rfl
 |a::L,k,0=>rfl
 |a::L,k,t+1=>OE (t:=t)
theorem afO {r b}(h:b.mv=r.mv):∀ {L:List Rc} {k t:Nat},L[t]?=S r->(tl G k L).set (2*t) (stC G (k+t) b)=tl G k (L.set t b):=by
 intro c
 induction c with
 |nil=>exact λe=>nomatch e
 |cons a L o=>
  intro k t e
  cases t with
  |zero=>cases e;rw[yoR,oX,oX,i_,i_,h];rfl
  |succ t=>rw[Bl,oX,oX,(o e).symm,k.add_right_comm 1 _];rfl
theorem afP {r b}(h:b.w=r.w/\b.it=r.it/\b.rd=r.rd):∀ {L:List Rc} {k t:Nat},L[t]?=S r->(tl G k L).set (2*t+1) (i_ b)=tl G k (L.set t b):=by
 intro c
 induction c with
 |nil=>exact λe=>nomatch e
 |cons a L o=>
  intro k t e
  cases t with
  |zero=>cases e;rw[yoR,oX,oX,stC,stC,h.1,h.2.1,h.2.2];rfl
  |succ t=>rw[Bl,oX,oX,(o e).symm];rfl
theorem OF {r a}(h:a.w=r.w){L}{k t}(e:L[t]?=S r):ja G k (L.set t a)=ja G k L:=by
 rw[ja,ja]
 refine gQ λi=> ?_
 rw[bx,bx,lG,lG,rJ]
 split
 . rename_i q
   subst q
   rw[e]
   split
   . show S (eE G _,.v _)=S (eE G _,X.v _)
     rw[h];rfl
   . rename_i q;exact absurd (dB e) q
 rfl
theorem tE (h:L[t]?=S r):(bH G L)[2*t+3]?=S (stC G t r):=by
 show(tl G 0 L)[2*t]?=_
 rw[OD,h,fc _];rfl
theorem OG (h:L[t]?=S r):(bH G L)[2*t+4]?=S (i_ r):=by
 show(tl G 0 L)[2*t+1]?=_
 rw[OE,h];rfl
theorem OH (h:L[t]?=S r)(hw:r'.w=r.w)(hm:r'.mv=r.mv):(bH G L).set (2*t+3) (stC G t r')=bH G (L.set t r'):=by
 show _::_::_::(tl G 0 L).set _ _=_
 have:=afO (G:=G) hm (k:=0) h
 rw[fc]at this
 rw[this];rewrite[bH];rw[OF hw h,Bm];rfl
theorem afQ (h:L[t]?=S r)(hw:r'.w=r.w/\r'.it=r.it/\r'.rd=r.rd):(bH G L).set (2*t+4) (i_ r')=bH G (L.set t r'):=by
 show _::_::_::(tl G 0 L).set _ _=_
 rw[afP hw h];rewrite[bH];rw[OF hw.1 h,Bm];rfl
theorem afR (b:1<=D)(a:σ.length=2*t+3):(aQ prog D).new 2 [.v (nV t),.v (eE G y),.v (gE y.getLast?)] σ=S (.ref (2*t+3),σ++ [stC G t ⟨y,[],[],[]⟩,i_ ⟨y,[],[],[]⟩]):=by
 refine Zrr a.symm (Fi b rfl rfl rfl rfl λQ k=>dW (aa rfl) (aa rfl) (rM rfl) (dW (aa rfl) (aa rfl) (rM rfl) (dW (aa rfl) (aa rfl) (rM rfl) (dW (fU aA (aw (eN _)) rfl) (aa rfl) (rM rfl) (dW (tD.trans (by rw[(λc d=>by simp:∀c d,σ++ [c]++ [d]=σ++c:: [d]) _ _];rfl)) (aa rfl) (rM rfl) (dW (fU aA (aw (eN _)) rfl) (aa rfl) (rM rfl) (bo (kq (k _) ?_))))))))
 rw[aY,a];rfl
theorem OI (w:WF G)(f:Fin G ws){L:List Rc}{y:List Nat}(h:addW G (L.map Rc.w) y<+:ws)(o:2<=D):
 (aQ prog D).call 32 [.ref 0,.v (eE G y),.v (gE y.getLast?)] (bH G L)=S (.v (nV (stN G ws y)),bH G (nK G L y)):=by
 have hl:L.length<aE:=aw (by
  have I:=FT|>.trans h|>.length_le
  have:=f.le
  rw[aq]at I
  lia)
 have c:(L.map Rc.w).map (aW G)=L.map (λr=>aW G r.w):=by rw[b5];rfl
 refine Nj (ρ:= [S (.ref 0),S (.v (eE G y)),S (.v (gE y.getLast?))]) (dE o) rfl rfl rfl λT O=> ?_
 have u:∀a b l,cB (a::rN L.length::b::l) .len (.ref 1)=S (.val (nV L.length)):=λa b l=>eC (by rw[(pT rfl)];simp) hl
 refine td (λZ=>Z [S (.ref 0),S (.v (eE G y)),S (.v (gE y.getLast?))] (bH G (nK G L y))) (br (aa rfl) (a_ (aa rfl) rfl) (rL ((Gp rfl Gv).trans (by(rw[afL _];rfl))))) ?_ ?_ ?_
 . intro Z k q
   have q:aW G y∉L.map (λr=>aW G r.w):=by simpa using q
   have Q:ck (eE G y) (ja G 0 L)=none:=by rw[Gu _ _,if_neg q];rfl
   refine jU (cw (a_ (aa rfl) rfl) (u _ _ _)) (a_ (aa rfl) rfl) (aa rfl) (rB rfl Gv (by(rewrite[ja];rw[aq _,vc]);exact hl)) ?_
   rw[tB Q]
   refine fH (d9 (a_ (aa rfl) rfl) (gz rfl) (aj (rz (aj (cw (a_ (aa rfl) rfl) (u _ _ _)) (aj (aa rfl) (aj (aa rfl) aA))) (afR (dJ o) ?_)) aA) (Nt rfl (by(rw[aq _,cP]);exact hl))) (bo (kq k ?_))
   . show(tl G 0 L).length+1+1+1=_
     rw[OC];rfl
   . rewrite[nK];rw[if_neg q]
     show bO G::Cell.lst ((List.range L.length).map (λt=>X.ref (2*t+3))++ [.ref (2*L.length+3)])::Cell.aU (.ints ()) (ja G 0 L++ [(eE G y,.v (nV L.length))])::(tl G 0 L++ [stC G L.length ⟨y,[],[],[]⟩,i_ ⟨y,[],[],[]⟩])=
      bO G::rN (L++ [(⟨y,[],[],[]⟩:Rc)]).length:: .aU (.ints ()) (ja G 0 (L++ [⟨y,[],[],[]⟩]))::tl G 0 (L++ [⟨y,[],[],[]⟩])
     rw[afM,afN,aY,fc _];rewrite[rN];rw[ee,kI,bK]
     rfl
 . intro Z k q
   have q:aW G y∈L.map (λr=>aW G r.w):=by simpa using q
   refine bo (kq k ?_)
   rewrite[nK];rw[if_pos q];rfl
 . have U:ck (eE G y) (ja G 0 (nK G L y))=S (.v (nV (stN G ws y))):=by
    rw[Gu _ _]
    rw[addW,c]at h
    have x:∀M:List Rc,M.map Rc.w<+:ws->aW G y∈M.map (λr=>aW G r.w)->(M.map (λr=>aW G r.w)).idxOf (aW G y)=stN G ws y:=λM H hm=>by
     have c:(M.map Rc.w).map (aW G)=M.map (λr=>aW G r.w):=by rw[b5];rfl
     refine ao H λt Y=> ?_;clear H
     rewrite[stN];rw[Y.symm,bK,c,List.idxOf_append,if_pos hm];rfl
    by_cases q:aW G y∈L.map (λr=>aW G r.w)
    . rw[if_pos q]at h
      rewrite[nK];rw[if_pos q,if_pos q,x L h q,fc _];rfl
    . rw[if_neg q]at h
      have hm:aW G y∈ (L++ [(⟨y,[],[],[]⟩:Rc)]).map (λr=>aW G r.w):=by simp
      rewrite[nK];rw[if_neg q,if_pos hm];refine Zrr (x _ (by rw[bK];exact h) hm) ?_;rw[fc _];rfl
   exact cb (bu (a_ (aa rfl) rfl) (aa rfl) (Fv rfl Gv U)) O
def mn (G:Gm)(w:List Nat):List V:=((bD G w).filter (kK G)).map λp=>nV p.1
def iq (G:Gm)(w:List Nat):List V:=(cls G w).map (vI G)
def iK (G:Gm)(ws:List (List Nat))(w a:List Nat):Rc:=⟨w,iq G w,mn G w,a.map λX=>(X,stN G ws (w++ [X]))⟩
noncomputable def mk (P:Nat->List Nat->Rc)(W:List (List Nat)):List Rc:=W.zipIdx.map λp=>P p.2 p.1
def P0 (G:Gm)(ws:List (List Nat))(a t:Nat)(w:List Nat):Rc:=if t<a then iK G ws w (bS G w)else⟨w,[],[],[]⟩
def P1 (G:Gm)(ws:List (List Nat))(a:Nat)(b:List Nat)(t:Nat)(w:List Nat):Rc:=if t=a then iK G ws w b else P0 G ws a t w
theorem qc {W}{t}:(mk P W)[t]?=W[t]?.map (P t):=by
 rewrite[mk];rw[bx,lG,fc _];cases W[t]?<;>rfl
theorem OJ (h:∀t w,(P t w).w=w){W}:(mk P W).map Rc.w=W:=by
 refine gQ λt=> ?_
 rw[bx,qc]
 cases W[t]? with
 |none=>rfl
 |some w=>exact congrArg _ (h t w)
theorem afS {W}{y}:mk P (W++ [y])=mk P W++ [P W.length y]:=by
 rewrite[mk];rw[Ot,bK,fc _];rfl
theorem OK {P P'}{W}{a}{w}(h:W[a]?=S w)(ne:∀t v,t≠a->P' t v=P t v):(mk P W).set a (P' a w)=mk P' W:=by
 refine gQ λt=> ?_
 rw[rJ,qc,qc]
 split
 . rename_i q
   subst q
   rw[h];exact Zrr (if_pos (by rewrite[mk];rw[aq _,vc];exact dB h)) rfl
 . rename_i q
   cases W[t]? with
   |none=>rfl
   |some v=>exact congrArg _ (ne t v λe=>q e.symm).symm
theorem mk_congr {W}(h:∀t v,W[t]?=S v->P t v=P' t v):mk P W=mk P' W:=by
 refine gQ λt=> ?_
 rw[qc,qc]
 cases e:W[t]? with
 |none=>rfl
 |some v=>exact congrArg _ (h t v e)
theorem afT {P}(h:∀t w,(P t w).w=w){W}{y}(a:P W.length y=⟨y,[],[],[]⟩):nK G (mk P W) y=mk P (addW G W y):=by
 have e:(mk P W).map (λr=>aW G r.w)=W.map (aW G):=by
  have:=congrArg (List.map (aW G)) (OJ h (W:=W))
  rwa[b5]at this
 rw[nK,addW,e]
 split
 . rfl
 . rw[afS,a];rfl
theorem afU:∀t w,(P0 G ws a t w).w=w:=λt w=>by rewrite[P0];split<;>rfl
theorem OL:∀t w,(P1 G ws a b t w).w=w:=λt w=>by
 rewrite[P1];split
 . rfl
 exact afU t w
theorem Gx (w:WF G)(u):(bS G u).length<=9:=by
 have h:(bS G u).length<=(List.range _).length:=jZ _ _
 rw[cP]at h
 exact ba h w.big
theorem OM {b:Type}{l}{a:b}:(l++ [a]).getLast?=S a:=by simp
theorem afV {X}{l:List Nat}(h:l=done++X::rest)(s:l.Pairwise (· < ·)):X∉done:=λa=>by
 rw[h,gf]at s
 exact vN _ (s.2.2 X a X cT)
theorem afW (w:WF G)(f:Fin G ws){a}{u}(h:ws[a]?=S u)(I:5<=D):
 (aQ prog D).call 33 [.ref 0,.ref (2*a+3)] (bH G (mk (P0 G ws a) (Bq G a)))=S (.v .none,bH G (mk (P0 G ws (a+1)) (Bq G (a+1)))):=by
 have b:=(f.get (dB h)).trans h
 have h0:(mk (P0 G ws a) (Bq G a))[a]?=S ⟨u,[],[],[]⟩:=by rw[qc,b];simp[P0]
 have c:=dJ I
 have hlt:=dB b
 refine aeB (dE I) rfl rfl rfl λQ hQ=> ?_
 refine dW (cX (a_ (aa rfl) rfl) A_ (aj (a_ (aa rfl) (Bk (tE h0) rfl rfl)) aA) (Oq w c)) (aa rfl) ((Gs (tE h0) rfl).trans (congrArg S (OH (r':=⟨u,iq G u,[],[]⟩) h0 rfl rfl))) ?_
 have CL:=dB h0
 have o:((mk (P0 G ws a) (Bq G a)).set a ⟨u,iq G u,[],[]⟩)[a]?=S ⟨u,iq G u,[],[]⟩:=by rw[rJ,if_pos rfl,if_pos CL];rfl
 refine dW (c6 (aj (a_ (aa rfl) rfl) (aj (a_ (aa rfl) (Bk (tE o) rfl rfl)) aA)) (afz w (ba (by decide) c))) (aa rfl) ((Gs (tE o) rfl).trans (congrArg S (OH (r':=⟨u,iq G u,mn G u,[]⟩) o rfl rfl))) ?_
 have e2:((mk (P0 G ws a) (Bq G a)).set a ⟨u,iq G u,[],[]⟩).set a ⟨u,iq G u,mn G u,[]⟩=mk (P1 G ws a []) (Bq G a):=by
  have:=OK (P':=P1 G ws a []) b (λt v q=>if_neg q)
  rw[P1,if_pos rfl]at this
  rw[lX _];exact this
 rw[e2]
 have h2:(mk (P1 G ws a []) (Bq G a))[a]?=S (iK G ws u []):=by rw[qc,b];simp[P1]
 refine bz (c6 (aj (a_ (aa rfl) rfl) (aj (a_ (aa rfl) (Bk (tE h2) rfl rfl)) aA)) (afJ w (ba (by decide) c))) ?_
 refine d_ nV (bS G u) (λdone Z=>∀r,Z [S (.ref 0),S (.ref (2*a+3)),S (.v (.aU .int ((bS G u).map λX=>(nV X,eE G (u++ [X]))))),r] (bH G (mk (P1 G ws a done) (c_ G (Bq G a) u done)))) (c7 (aa rfl) ?_) (λZ x=>x _) ?_ ?_
 . show S (keysOf _)=_
   rewrite[keysOf];rw[b5];rfl
 . intro done X rest Z x k r
   refine bt rfl ?_
   have nX:=afV k (qa G u)
   have mX:X∈bS G u:=by rw[k];simp
   have O:c_ G (Bq G a) u (done++ [X])=addW G (c_ G (Bq G a) u done) (u++ [X]):=by rewrite[c_];rw[g8];rfl
   have pre:addW G (c_ G (Bq G a) u done) (u++ [X])<+:ws:=by
    refine .trans ?_ (f.pre (yO (dB ‹ws[a]?=S u›)))
    have e:c_ G (Bq G a) u ((done++ [X])++rest)=c_ G (c_ G (Bq G a) u (done++ [X])) u rest:=g8 ..
    rw[(f.next ‹ws[a]?=S u›),k,O.symm,done.append_cons X rest,e]
    exact p7 _ _
   have hW:(c_ G (Bq G a) u done)[a]?=S u:=(nH (p7 _ _) hlt).symm.trans b
   have y:nK G (mk (P1 G ws a done) (c_ G (Bq G a) u done)) (u++ [X])=mk (P1 G ws a done) (c_ G (Bq G a) u (done++ [X])):=by
    rw[O]
    have U:=dB hW
    refine afT OL ?_
    rewrite[P1];refine Zrr (if_neg (fO U)) ?_;rewrite[P0];refine Zrr (if_neg (mD (bX U))) ?_;rfl
   have n1:=OI w f (L:=mk (P1 G ws a done) (c_ G (Bq G a) u done)) (by rw[OJ OL];exact pre) (ba (by decide) c)
   rw[OM,y]at n1
   have uj:(c_ G (Bq G a) u (done++ [X]))[a]?=S u:=(nH (p7 _ _) hlt).symm.trans b
   have H:(mk (P1 G ws a done) (c_ G (Bq G a) u (done++ [X])))[a]?=S (iK G ws u done):=by rw[qc,uj];simp[P1]
   have i1:b4 (bH G (mk (P1 G ws a done) (c_ G (Bq G a) u done))) (.v (.aU .int ((bS G u).map λX=>(nV X,eE G (u++ [X]))))) (nV X)=S (.v (eE G (u++ [X]))):=xI rfl (tC.trans (if_pos mX))
   have oY:((iK G ws u done).mv.map λp=>(nV p.1,Tactic.X.v (nV p.2))).length<aE:=aw (by
    have:=Gx w u
    rw[k,aY]at this
    rw[aq _];rewrite[iK];rw[aq _];lia)
   refine jU (cX (aa rfl) rfl (aj (bu (aa rfl) (aa rfl) i1) (aj (aa rfl) aA)) n1) (a_ (aa rfl) (Bk (tE H) rfl rfl)) (aa rfl) ((rB (OG H) rfl oY).trans (congrArg S ((congrArg (((bH G _).set (2*a+4))) ?_).trans (afQ (r':=iK G ws u (done++ [X])) H ⟨rfl,rfl,rfl⟩)))) (bo (kq (x _) ?_))
   . have e:((iK G ws u done).mv.map λp=>(nV p.1,Tactic.X.v (nV p.2)))=done.map λY=>(nV Y,Tactic.X.v (nV (stN G ws (u++ [Y])))):=by rewrite[iK];rw[b5];rfl
     rw[e,tB (tC.trans (if_neg nX))];rewrite[i_,iK];rw[b5,bK];rfl
   . have:=OK (P:=P1 G ws a done) (P':=P1 G ws a (done++ [X])) uj (λt v q=>by rewrite[P1,P1];rw[if_neg q,if_neg q];rfl)
     rw[P1,if_pos rfl]at this
     rw[this];rfl
 . intro r
   refine bo (kq (hQ _) ?_)
   rw[(f.next ‹ws[a]?=S u›)]
   refine congrArg (bH G) (mk_congr λt v e=> ?_)
   rewrite[P1,P0,P0]
   by_cases q:t=a
   . subst q
     have hW:=(nH (p7 (G:=G) (w:=u) (bS G u) (Bq G t)) hlt).symm.trans b
     rw[hW]at e;cases e
     rw[if_pos rfl,if_pos (iQ _)];rfl
   . rw[if_neg q]
     by_cases z:t<a
     . rw[if_pos z];refine Zrr (if_pos (q8 z)) ?_;rfl
     . rw[if_neg z];refine Zrr (if_neg (by lia)) ?_;rfl
theorem afY (w:WF G)(a:3<=D):(aQ prog D).new 5 [.v (vG G)] []=S (.ref 0,bH G []):=Fi (dE a) rfl rfl rfl rfl λQ b=>dW (aa rfl) (aa rfl) rfl (dW (rz (aj (aa rfl) aA) (Ol w (dJ a))) (aa rfl) rfl (dW (iH aA (aw (eN _))) (aa rfl) rfl (dW tD (aa rfl) rfl (bo (b _)))))
def tG (G:Gm):Cell:= .obj 4 [(22,.v (vG G)),(24,.ref 1)]
theorem afZ (a:1<=D):(aQ prog D).new 4 [.v (vG G),.ref 1] σ=S (.ref σ.length,σ++ [tG G]):=Fi a rfl rfl rfl rfl λQ b=>dW (aa rfl) (aa rfl) (rM rfl) (dW (aa rfl) (aa rfl) (rM rfl) (bo (b _)))
theorem af0 (w:WF G)(f:Fin G ws)(r:6<=D):(aQ prog D).call 34 [.ref 0] (bH G [])=S (.ref (bH G (mk (P0 G ws ws.length) ws)).length,bH G (mk (P0 G ws ws.length) ws)++ [tG G]):=by
 have b:=dJ r
 refine Nj (dE r) rfl rfl rfl λT x=> ?_
 have n1:=OI w f (by
  have:=f.pre (dO _)
  refine Zrr (show addW G ([].map Rc.w) []=Bq G 0 from rfl) ?_;assumption) (ba (by simp) b)
 rw[show nK G [] []=mk (P0 G ws 0) (Bq G 0) from rfl]at n1
 have y:eE G []= .tup [nV (gB G (0,0))]:=by rewrite[eE];rw[NV w];rfl
 rw[y]at n1
 have H:=λσ=>u3 (σ:=σ) (d:=0) w w.xN (ba (by decide) b)
 refine fH (cX (aa rfl) rfl (aj (eZ (aj (cX (a_ (aa rfl) rfl) jr (aj aP (aj aP aA)) (H _)) aA) (aw (by simp)) rfl) (aj (lr (by rw[lu];rfl)) aA)) n1) ?_
 refine bz aP ?_
 refine uZ (λa Z=>a<=ws.length->Z [S (.ref 0),S (.v (nV a))] (bH G (mk (P0 G ws a) (Bq G a)))) (λa=>ws.length - a) 0 (λZ c=>c (dO _)) (by have:=f.le;show _ - 0<2^22;exact HL this) ?_
 intro a Z c ha
 have I:=FX w a
 have k:(mk (P0 G ws a) (Bq G a)).length=(Bq G a).length:=by rewrite[mk];rw[aq _,vc];rfl
 refine wt (decide (a<(Bq G a).length)) (br (aa rfl) (cw (a_ (aa rfl) rfl) (eC (pT rfl) (by(rw[aq _,cP,k]);exact aw (q3 I)))) (by(rw[aq _,cP,k]);exact pS)) (λq=> ?_) (λq=> ?_)
 . have q:=of_decide_eq_false q
   have:a=ws.length:=by
    rcases uO a ws.length with z|z
    . exact absurd (f.lt a z) q
    . exact cg ha z
   subst this
   rw[f.eq.symm]
   exact cb (rz (aj (a_ (aa rfl) rfl) (aj (a_ (aa rfl) rfl) aA)) (afZ (ba (by decide) b))) x
 . have q:=of_decide_eq_true q
   have o:a<ws.length:=by
    rcases a.lt_or_ge ws.length with z|z
    . exact z
    . have:a=ws.length:=cg ha z
      subst this
      rw[<-f.eq]at q;assumption
   obtain ⟨u,L⟩:∃u,ws[a]?=S u:=⟨_,du o⟩
   have x1:=afW w f L b
   have O:b4 (bH G (mk (P0 G ws a) (Bq G a))) (.ref 1) (nV a)=S (.ref (2*a+3)):=lx rfl (aw (by lia)) (by(rw[k,bx,iJ q]);rfl)
   exact fH (cX (aa rfl) rfl (aj (bu (a_ (aa rfl) rfl) (aa rfl) O) aA) x1) (bz (b_ (aa rfl) aP (@nu a 1)) (bo (c (a+1) (q6 o) (o))))
theorem Gz {A B:Type}{c k}{g}(b:A->c)(val:A->k)(P:List A->Hp->Prop)(step:∀a rest σ,P (a::rest) σ->∃af,g σ (b a)=S (val a,af)/\P rest af):
 ∀l σ,P l σ->∃af,jD g σ (l.map b)=S (l.map val,af)/\P [] af:=by
 intro o
 induction o with
 |nil=>
  exact λσ h=>⟨σ,rfl,h⟩
 |cons a l q=>
  exact λσ h=>ah (step a l σ h) λI r u=>ah (q _ u) λx y H=>⟨x,aJ r (bP y),H⟩
def rO (G:Gm)(ws:List (List Nat))(w:List Nat):V:= .aU .int ((bS G w).map λX=>(nV X,nV (stN G ws (w++ [X]))))
def gH (G:Gm)(ws:List (List Nat))(t:Nat)(w:List Nat):V:= .obj 2 [(0,nV t),(17,eE G w),(18,gE w.getLast?),(19,.lst (iq G w)),(20,rO G ws w),(21,.lst (mn G w))]
def kM (G:Gm)(ws:List (List Nat)):List V:=ws.zipIdx.map λp=>gH G ws p.2 p.1
def vM (G:Gm)(ws:List (List Nat)):V:= .obj 4 [(22,vG G),(24,.lst (kM G ws))]
theorem iM {σ b c}{x}{a}{r}{q:List (Nat×V)}(h:fz k σ x=S (a,b))(o:jD (λσ p=>(fz k σ p.2).map λq=>((p.1,q.1),q.2)) b r=S (q,c)):
 jD (λσ p=>(fz k σ p.2).map λq=>((p.1,q.1),q.2)) σ ((f,x)::r)=S ((f,a)::q,c):=aJ (bP h) (bP o)
theorem af1 {w}(b:σ[2*t+3]?=S (stC G t (iK G ws w (bS G w))))(c:σ[2*t+4]?=S (i_ (iK G ws w (bS G w)))):fz (k+2) σ (.ref (2*t+3))=S (gH G ws t w,(σ.set (2*t+3) .dead).set (2*t+4) .dead):=by
 refine(oP b).trans (bP (iM (jX _ _ _) (iM (jX _ _ _) (iM (jX _ _ _) (iM (jX _ _ _) (iM ?_ (iM (jX _ _ _) rfl)))))))
 have a:(σ.set (2*t+3) .dead)[2*t+4]?=S _:=Zrr (dG (UD)) c
 rw[(by rw[i_,iK];rw[b5];rw[b5];rfl:i_ _= .aU _ (((bS G w).map λX=>(nV X,nV _)).map λp=>(p.1,.v p.2)))]at a
 exact(oP a).trans (bP (Fj _ _ _))
theorem af2 (w:WF G)(f:Fin G ws)(u:7<=D):(aQ prog D).call 35 [.v (vG G)] σ=S (.v (vM G ws),σ):=by
 refine ed (ρ:= [S (.v (vG G))]) (dE u) rfl rfl rfl rfl λT U=> ?_
 have x:=dJ u
 refine cb (cX (rz (aj (aa rfl) aA) (afY w (ba (by decide) x))) rfl aA (af0 w f x)) ?_
 have y:(mk (P0 G ws ws.length) ws).length=ws.length:=by rewrite[mk];rw[aq _,vc];rfl
 have I:∀t v,ws[t]?=S v->(mk (P0 G ws ws.length) ws)[t]?=S (iK G ws v (bS G v)):=λt v e=>by rw[qc,e,uc _ _];rewrite[P0];rw[if_pos (dB e)];rfl
 have c:(bH G (mk (P0 G ws ws.length) ws)).length=2*ws.length+3:=by
  show(tl G 0 _).length+1+1+1=_
  rw[OC,y];rfl
 generalize L:bH G (mk (P0 G ws ws.length) ws)=H at c
 have Y:H[1]?=S (rN ws.length):=by
  rw[L.symm]
  show S (rN (mk _ ws).length)=_
  rw[y];rfl
 have gs:∀t v,ws[t]?=S v->H[2*t+3]?=S (stC G t (iK G ws v (bS G v)))/\H[2*t+4]?=S (i_ (iK G ws v (bS G v))):=λt v e=>by
  rw[L.symm];exact⟨tE (I t v e),OG (I t v e)⟩
 have g2:((H++ [tG G]).set H.length .dead)[1]?=S (rN ws.length):=by
  refine Zrr (dG (RZ c)) ?_;refine Zrr (eR (R0 c)) ?_;exact Y
 refine ah (Gz (B:=Unit) (g:=fz 6) (λp=> .ref (2*p.2+3)) (λp=>gH G ws p.2 p.1)
  (λl σ=>(∃k,l=(ws.drop k).zipIdx k)/\∀p∈l,σ[2*p.2+3]?=S (stC G p.2 (iK G ws p.1 (bS G p.1)))/\σ[2*p.2+4]?=S (i_ (iK G ws p.1 (bS G p.1))))
  (λa rest σ ⟨⟨k,hk⟩,O⟩=>by
   have ha:=O a cT
   refine⟨_,af1 ha.1 ha.2,⟨k+1,?_⟩,λp o=> ?_⟩
   . cases q:ws.drop k with
     |nil=>rw[q]at hk;cases hk
     |cons b r=>
      rw[q,Gi]at hk
      rw[yqP.symm,q]
      exact(iB hk).2
   . have:a.2<p.2:=by
      cases q:ws.drop k with
      |nil=>rw[q]at hk;cases hk
      |cons b r=>
       rw[q,Gi]at hk
       have h1:=(iB hk).1
       rw[(iB hk).2]at o
       have:=List.le_snd_of_mem_zipIdx o
       rw[h1];exact this
     refine Zrr (dG (by lia)) ?_;refine Zrr (dG (R1 this)) ?_;refine Zrr (dG (R2 this)) ?_;refine Zrr (dG (by lia)) ?_
     exact O p (dA _ o))
  ws.zipIdx (((H++ [tG G]).set H.length .dead).set 1 .dead) ⟨⟨0,rfl⟩,λp o=>by
   refine au (List.mem_zipIdx o|>λh=>⟨h.2.1,h.2.2⟩) λq1 q2=> ?_
   have Q:=Bn.mp o
   have:=dB Q
   have g:=gs _ _ Q
   refine Zrr (dG (R3)) ?_;refine Zrr (dG (R4 c q1)) ?_;refine Zrr (eR (R5 c q1)) ?_;refine Zrr (dG (R6)) ?_;refine Zrr (dG (by lia)) ?_;refine Zrr (eR (R7 c q1)) ?_
   exact g⟩) λaf m1 _=> ?_
 have r1:(List.range ws.length).map (λt=>Tactic.X.ref (2*t+3))=ws.zipIdx.map λp=> .ref (2*p.2+3):=by
  refine gQ λi=> ?_
  rw[bx,bx,lG]
  rcases uO i ws.length with z|z
  . rw[iJ z,du z,fc _];rfl
  . refine Zrr (eX (by rw[cP];exact z)) ?_;rw[eX z];rfl
 have ve:((H++ [tG G]).set H.length .dead)[1]?=S (.lst (ws.zipIdx.map λp=> .ref (2*p.2+3))):=by rw[g2];rewrite[rN];rw[r1];rfl
 have gA:(H++ [tG G])[H.length]?=S (tG G):=by rw[iG (bb _),kE _];rfl
 exact U ⟨_,(oP gA).trans (bP (iM (jX _ _ _) (iM ((oP ve).trans (bP m1)) rfl)))⟩
open Classical in
def gT (G:Gm)(ws:List (List Nat))(w:List Nat):Option Nat:=if bE G w then S (stN G ws w)else J
theorem kN (v:bE G w):gT G ws w=S (stN G ws w):=if_pos v
theorem lH (v:¬bE G w):gT G ws w=none:=if_neg v
theorem af3 (h:ws[t]?=S u):(kM G ws)[t]?=S (gH G ws t u):=by
 rewrite[kM];rw[bx,lG,h,fc _];rfl
theorem GA:(kM G ws).length=ws.length:=by rewrite[kM];rw[aq _,vc];rfl
theorem Fin.lim (f:Fin G ws){t}{u}(h:ws[t]?=S u):t<aE:=have:=f.le;have:=dB h;aw (Uv ‹_› this)
theorem rP (f:Fin G ws){t}{u}(h:ws[t]?=S u):b4 σ (.v (.lst (kM G ws))) (nV t)=S (.v (gH G ws t u)):=jq (f.lim h) (af3 h)
theorem af4 {k}{d}(hk:dS t k=ab):gK σ .get (.v (.aU t b)) [.v k,d]=S (match ck k b with|some a=> .v a|none=>d,σ):=b9 hk
theorem lI:ef σ (.v (vM G ws)) 24=S (.v (.lst (kM G ws))):=rfl
theorem OO:ef σ (.v (vM G ws)) 22=S (.v (vG G)):=rfl
theorem rQ:ef σ (.v (gH G ws t u)) 20=S (.v (rO G ws u)):=rfl
theorem nL:n7 σ (.v (vM G ws))=S 4:=rfl
theorem af5:n7 σ (.v (gH G ws t u))=S 2:=rfl
theorem af6 (w:WF G){t X}{u}(a:1<=D):(aQ prog D).call 16 [.v (gH G ws t u),.v (nV X)] σ=S (.v (gE (gT G ws (u++ [X]))),σ):=ed a rfl rfl rfl rfl λT b=>cb (d9 (a_ (aa rfl) rQ) rfl (aj (aa rfl) (aj (lr (by rw[lu];rfl)) aA)) ((λσ=>by
 refine(af4 rfl).trans ?_
 rw[tC]
 by_cases h:X∈bS G u
 . rw[if_pos h,kN ((i8 w).mp h)];rfl
 . rw[if_neg h];rewrite[lH λv=>h ((i8 w).mpr v)];rfl:∀σ,gK σ _ _ _=S _) _)) (b (c8 rfl))
theorem af7 (w:WF G)(f:Fin G ws){t X}{u}(h:ws[t]?=S u)(a:2<=D):(aQ prog D).call 26 [.v (vM G ws),.v (nV t),.v (nV X)] σ=S (.v (gE (gT G ws (u++ [X]))),σ):=ed (dE a) rfl rfl rfl rfl λT b=>cb (cX (bu (a_ (aa rfl) lI) (aa rfl) (rP f h)) af5 (aj (aa rfl) aA) (af6 w (dJ a))) (b (c8 rfl))
theorem tH (v)(h:bE G (u++v)):bE G u:=by
 revert h
 refine Gn (P:=λv=>bE G _->bE G u) (λh=>by rwa[dg]at h) (λv X a h=>a (ti (by rw[bM _ _ _];assumption))) v
theorem Bo:cO σ .eq (.v (gE o)) (.v (.int (-1)))=S o.isNone:=by
 cases o with
 |none=>rfl
 |some x=>
  have:¬(x:Int)= -1:=by lia
  exact congrArg _ (decide_eq_false this)
theorem GB (w:WF G)(f:Fin G ws){u}{X}(v:bE G u)(a:2<=D):(aQ prog D).call 26 [.v (vM G ws),.v (nV (stN G ws u)),.v (nV X)] σ=S (.v (gE (gT G ws (u++ [X]))),σ):=by
 refine ah (f.st w v) λb h e=> ?_
 have:=af7 (σ:=σ) (X:=X) w f h a
 by_cases q:bE G (u++ [X])
 . rwa[kN ((u4 e X).mpr q),f.A1 w e,<-kN q]at this
 rwa[lH λz=>q ((u4 e X).mp z),<-lH q]at this
theorem yd (w:WF G)(f:Fin G ws){u}{K}(r:kT K=S (u.map nV))(k:3<=D):(aQ prog D).call 27 [.v (vM G ws),.v (.int 0),.v K] σ=S (.v (gE (gT G ws u)),σ):=by
 refine ed (dE k) rfl rfl rfl rfl λT o=>bz (aa rfl) (d_ nV u (λdone Z=>∀c,Z [S (.v (vM G ws)),S (.v (.int 0)),S (.v K),S (.v (gE (gT G ws done))),c] []) (c7 (aa rfl) r) ?_ ?_ ?_)
 . intro Z a
   rw[kN (xS w),f.xX w]at a
   exact a _
 . refine λdone X rest Z a x c=>bt rfl ?_
   have b:∀σ,cO σ _ (.v (gE (gT G ws done))) _=_:=λσ=>Bo
   by_cases q:bE G done
   . rw[kN q]at b ⊢
     refine gy (br (aa rfl) (lr (by rw[lu];rfl)) (b _)) (bz (cX (aa rfl) nL (aj (aa rfl) (aj (aa rfl) aA)) (GB w f q (dJ k))) (bo (a _)))
   . rw[lH q]at b ⊢
     exact uX (P:=λ_ _=>False) (br (aa rfl) (lr (by rw[lu];rfl)) (b _)) (cb (lr (by rw[lu];rfl)) (o (c8 (Zrr (lH λv=>q (tH _ (by rw[x.symm];assumption))) rfl)))) λ_ _ h=>h.elim
 exact λc=>cb (aa rfl) (o (c8 rfl))
def g_ (G:Gm)(ws:List (List Nat))(w:List Nat):List Nat:=(List.range (w.length+1)).map λi=>stN G ws (w.take i)
theorem OP (w:WF G)(f:Fin G ws):g_ G ws []= [0]:=by rewrite[g_];simp[f.xX w]
theorem OQ {X}:g_ G ws (u++ [X])=g_ G ws u++ [stN G ws (u++ [X])]:=by
 rw[g_,g_,aY,ee,kI,bK]
 congr 1
 . exact vf λi a=>Zrr (GC (by have:=gw.mp a;exact fA ‹_›)) rfl
 . rw[vb];exact Zrr (gb (by simp)) rfl
theorem ye:(g_ G ws u).length=u.length+1:=by rewrite[g_];rw[aq _,cP];rfl
theorem GD:(g_ G ws u)[u.length]?=S (stN G ws u):=by
 rewrite[g_];rw[bx];simp
theorem GF {n m:Nat}(h:m=n+1):lP (-1) m=S n:=by
 have e:(-1:Int)+m=n:=h▸(Cg ..).trans (ynK n 1)
 unfold lP
 exact Zrr (if_neg (by decide)) (Zrr (if_pos ⟨e▸mY n,by decide⟩) (congrArg S (congrArg Int.toNat e)))
theorem OR {n}(hr:σ[r]?=S (.lst xs))(hl:xs.length=n+1)(h:xs[n]?=S a):b4 σ (.ref r) (.int (-1))=S a:=(Fu hr).trans (aJ (GF hl) h)
theorem GG {n}(hl:xs.length=n+1)(h:xs[n]?=S a):b4 σ (.v (.lst xs)) (.int (-1))=S (.v a):=bP (aJ (GF hl) h)
set_option tactic.hygienic true in
theorem OS (w:WF G)(f:Fin G ws){u x}(hv:bE G u)(hx:∀X r,x=X::r->¬bE G (u++ [X])){K}(Q:kT K=S ((u++x).map nV))(hl:u.length<1000)(I:3<=D):
 (aQ prog D).call 28 [.v (vM G ws),.v (.int 0),.v K] σ=S (.v (.lst ((g_ G ws u).map nV)),σ):=by
 refine ed (dE I) rfl rfl rfl rfl λT L=>bz (iH (aj (aa rfl) aA) (aw (by simp))) ?_
 have out:∀done,bE G done->(∃rest,u++x=done++rest/\∀X r,rest=X::r->¬bE G (done++ [X]))->done=u:=by
  intro done k O;refine ah O λrest e hr=> ?_;clear O
  rcases Og.mp e with ⟨a,rfl,rfl⟩| ⟨c,rfl,rfl⟩
  . cases a with
    |nil=>rw[dg _];rfl
    |cons Y a=>exact absurd (tH a (by(rw[bM _ _ _];assumption))) (hx Y _ rfl)
  cases c with
   |nil=>rw[dg _];rfl
   |cons Y c=>exact absurd (tH c (by(rw[bM _ _ _];assumption))) (hr Y _ rfl)
 refine d_ nV (u++x) (λdone Z=>∀o y,bE G done->Z [S (.v (vM G ws)),S (.v (.int 0)),S (.v K),S (.ref 0),o,y] [cN (g_ G ws done)]) (c7 (aa rfl) Q) ?_ ?_ ?_
 . intro Z H
   exact kq (H _ _ (xS w)) (by rw[OP w f];rfl)
 . intro done X rest Z H k o y v
   refine bt rfl ?_
   have U:b4 [cN (g_ G ws done)] (.ref 0) (.int (-1))=S (.v (nV (stN G ws done))):=OR rfl (by(rw[aq _,aq _,ye];rfl)) (by(rw[bx,bx,GD]);rfl)
   refine bz (cX (aa rfl) nL (aj (bu (aa rfl) aP U) (aj (aa rfl) aA)) (GB w f v (dJ I))) ?_
   have b:∀σ,cO σ .eq (.v (gE (gT G ws (done++ [X])))) (.v (.int (-1)))=_:=λσ=>Bo
   by_cases q:bE G (done++ [X])
   . rw[kN q]at b ⊢
     have yc:¬1000<(done++ [X]).length:=λh=>by
      have:u.length<done.length:=by rw[aY,ee]at h;lia
      rcases Og.mp k with ⟨a,rfl,_⟩| ⟨c,rfl,_⟩
      . cases a with
        |nil=>rw[dg]at this;lia
        |cons Y a=>
         rename_i e
         have z:=e
         exact hx Y _ z (tH a (by(rw[bM _ _ _];assumption)))
      . rw[aY]at this;lia
     refine gy (br (aa rfl) (lr (by rw[lu];rfl)) (b _)) (fH (d9 (aa rfl) (gz rfl) (aj (aa rfl) aA) (i9 rfl ?_)) (bo (kq (H _ _ q) ?_)))
     . rw[aq _,ye];rw[aY,ee]at yc;exact aw (by lia)
     . show [cL ((g_ G ws done).map nV++ [nV (stN G ws (done++ [X]))])]= [cL ((g_ G ws (done++ [X])).map nV)]
       rw[OQ,bK];rfl
   . rw[lH q]at b ⊢
     refine uX (P:=λ_ _=>False) (br (aa rfl) (lr (by rw[lu];rfl)) (b _)) (cb (aa rfl) ?_) λ_ _ h=>h.elim
     refine Zrr (out done v ⟨X::rest,k,λY r e=>by lia⟩) ?_
     exact L ⟨_,jn rfl⟩
 . intro o y v
   refine Zrr (out (u++x) v ⟨[],by simp,λX r e=>by lia⟩) ?_
   exact cb (aa rfl) (L ⟨_,jn rfl⟩)
theorem af8 (w:WF G)(f:Fin G ws)(a:4<=D):(aQ prog D).call 29 [.v (vM G ws)] σ=S (.v (gE (gT G ws [G.nT+1,0])),σ):=by
 refine ed (dE a) rfl rfl rfl rfl λT b=>cb (cX (aa rfl) nL (aj aP (aj (a_ (bu (a_ (a_ (aa rfl) OO) xP) aP ((λσ=>AP w w.xN:∀σ,b4 σ _ _=S _) _)) xQ) aA)) (yd w f rfl (dJ a))) (b (c8 ?_))
 rw[w.oQ.2];rfl
theorem af9:∀(l:List _) (k:Nat),tV (l.map nV) k=S ((k+l.sum:Nat):Int):=by
 intro b
 induction b with
 |nil=>
  exact λk=>rfl
 |cons a l c=>
  intro k
  show tV _ (k+a)=_
  rw[(Int.natCast_add _ _).symm,c _,w6 _ _ _];rfl
def GH (G:Gm)(ws:List (List Nat)):Nat:=(ws.map λw=>(bS G w).length).sum
theorem OT (w:WF G)(f:Fin G ws){cl}{ρ}{i}{e}(he:az cl e ρ σ=S (.v (.lst (kM G ws)),σ))(b:i<ρ.length):az cl (.bf ae .sum (.comp ae (.one i) (.of e) (.bf ae .len (.attr (.var i) 20)))) ρ σ=S (.v (nV (GH G ws)),σ):=by
 have g:mO (λa c=>(bV (.one i) a ρ).bind (az cl (.bf ae _ (.attr (.var i) 20)) · c)) (kM G ws) σ=S _:=jo _ _ _ _ λp k=>by
  refine aJ rfl (cw (a_ (aa (x:= .v (gH G ws p.2 p.1)) ?_) rQ) (eC (congrArg _ (aq _)) (aw (by have:=Gx w p.1;exact bw this (by decide)))))
  rewrite[slot];rw[om b];rfl
 rw[(by
  rw[b5];refine Zrr b5 (gQ λi=> ?_)
  rw[bx];rw[bx];rw[lG]
  cases ws[i]?<;>rfl:(ws.zipIdx.map λp=>Tactic.X.v _)=((ws.map λw=>(bS G w).length).map nV).map .v)]at g
 refine cw (jm (c7 he rfl) g (by rw[aq _,aq _,aq _];have:=f.le;exact aw (q3 this)) (fV _)) (bP ?_)
 have:=af9 (ws.map λw=>(bS G w).length) 0
 rwa[fc]at this
theorem aga (w:WF G)(f:Fin G ws)(a:1<=D):(aQ prog D).call 30 [.v (vM G ws)] σ=S (.v (nV (GH G ws)),σ):=ed (dE a) rfl rfl rfl rfl λT b=>cb (OT w f (a_ (aa rfl) lI) (iQ _)) (b (c8 rfl))
theorem OU (w:WF G)(f:Fin G ws){u}{K}(b:kT K=S (u.map nV))(a:4<=D):(aQ prog D).call 40 [.v (vM G ws),.v K] σ=S (.v (.bool (gT G ws u).isSome),σ):=ed (dE a) rfl rfl rfl rfl λT c=>cb (br (cX (aa rfl) nL (aj aP (aj (aa rfl) aA)) (yd w f b (dJ a))) (lr (by rw[lu];rfl)) ((λσ=>by
 cases gT G ws u with
 |none=>rfl
 |some x=>exact congrArg (Option.map _) (Bo (σ:=σ) (o:=S x)):∀σ,cO σ _ _ _=S _) _)) (c (c8 rfl))
def tI (G:Gm)(ws:List (List Nat))(u:List Nat):List V:=match gT G ws u with
 |some _=>(bD G u).map (vI G)
 |none=> []
theorem yf:ef σ (.v (gH G ws t u)) 19=S (.v (.lst (iq G u))):=rfl
theorem OV (w:WF G)(u):(bD G u).length<=28:=u_ w (rE (me G u)) rG
theorem OW (w:WF G){u v}(e:bD G u=bD G v):cB σ .sorted (.v (.lst (iq G u)))=S (.items ((bD G v).map (vI G))):=by
 refine Zrr (mh rfl (oU lF (aw (by have:=rI w u;rw[aq _];exact bw this (by decide))))) ?_;rw[tn (tw u) rG (me G u),e];rfl
theorem OX (w:WF G)(f:Fin G ws){u}{K}(k:kT K=S (u.map nV))(c:4<=D):(aQ prog D).call 41 [.v (vM G ws),.v K] σ=S (.v (.lst (tI G ws u)),σ):=by
 refine ed (ρ:= [S _,S _,J]) (dE c) rfl rfl rfl rfl λT a=>bz (cX (aa rfl) nL (aj aP (aj (aa rfl) aA)) (yd w f k (dJ c))) ?_
 have b:∀σ,cO σ _ (.v (gE (gT G ws u))) _=_:=λσ=>Bo
 by_cases q:bE G u
 . rw[tI,kN q]at a;rw[kN q]at b ⊢
   exact ah (f.st w q) λo h e=>gy (br (aa rfl) (lr (by rw[lu];rfl)) (b _)) (cb (iI (a_ (bu (a_ (aa rfl) lI) (aa rfl) (rP f h)) yf) (OW w e)) (a (c8 rfl)))
 . rw[tI,lH q]at a;rw[lH q]at b ⊢
   exact uX (P:=λ_ _=>False) (br (aa rfl) (lr (by rw[lu];rfl)) (b _)) (cb (fU aA (aw (eN _)) rfl) (a (c8 rfl))) λ_ _ h=>h.elim
noncomputable def lJ:List (List Nat)->List Nat
 | []=> []
 | [s]=>s
 |s::t::r=>s++ [32]++lJ (t::r)
theorem OY:lJ (s::t::r)=s++ [32]++lJ (t::r):=rfl
theorem GI:∀l,vE [32] (l.map .str)=S (lJ l)
 | []=>rfl
 | [s]=>rfl
 |s::t::r=>bP (GI _)
theorem GJ:∀l,(∀s∈l,s.length<=10)->(lJ l).length<=11*l.length
 | [],_=>bb _
 | [s],h=>by have:=h s cT;show s.length<=11;exact k9 ‹_›
 |s::t::r,h=>by
  have a:=h s cT
  have b:=GJ _ λx hx=>h x (dA _ hx)
  have c:(s::t::r).length=(t::r).length+1:=rfl
  rw[OY,aY,aY,ee,c]
  exact S5 a b
def nM (G:Gm)(p:Nat×Nat):List (List Nat):=((rhs G p.1).map (nm G)).take p.2++ [[46]]++ ((rhs G p.1).map (nm G)).drop p.2
def lK (G:Gm)(p:Nat×Nat):List Nat:=nm G (lhs G p.1)++ [32,58,32]++lJ (nM G p)
def nN (G:Gm)(r:Nat):V:= .tup [.str (nm G (lhs G r)),.tup (((rhs G r).map (nm G)).map .str)]
def iN (G:Gm):List V:=(List.range (nR G)).map (nN G)
theorem agb (h:(lJ l).length<aE):gK σ .join (.v (.str [32])) [.v (.lst (l.map .str))]=S (.v (.str (lJ l)),σ):=aJ (GI l) (b9 ⟨h,aw (by decide)⟩)
theorem agc (h:(lJ l).length<aE):gK σ .join (.v (.str [32])) [.v (.tup (l.map .str))]=S (.v (.str (lJ l)),σ):=aJ (GI l) (b9 ⟨h,aw (by decide)⟩)
theorem GK (w:WF G){x}(h:x<nS G):(nm G x).length<=10:=(w.ok _ (eY (pZ h))).2
theorem GL (w:WF G){p}(h:Vd G p):(nM G p).length<=4/\∀s∈nM G p,s.length<=10:=by
 constructor
 . have:=w.len h.1
   have b:=aY (as:=((rhs G p.1).map (nm G)).take p.2) (bs:=((rhs G p.1).map (nm G)).drop p.2)
   rw[i6,aq]at b
   rewrite[nM];rw[aY,aY,ee];lia
 . intro s a
   have:∀s∈ (rhs G p.1).map (nm G),s.length<=10:=λs a=>by
    refine ah (bY.mp a) λx hx O=> ?_;subst O
    exact GK w (w.sym h.1 x hx).1
   rcases b8.mp a with a|a
   . rcases b8.mp a with a|a
     . exact this s (oF a)
     . rw[dm.mp a];decide
   exact this s (zY a)
theorem OZ (w:WF G){p}(h:Vd G p):cV .add (.str (nm G (lhs G p.1))) (.str [32,58,32])=S (.str (nm G (lhs G p.1)++ [32,58,32]))/\
 (lJ (nM G p)).length<aE/\cV .add (.str (nm G (lhs G p.1)++ [32,58,32])) (.str (lJ (nM G p)))=S (.str (lK G p)):=by
 have b:=GK w (w.jY h.1).2
 have a:=GL w h
 have c:=GJ _ a.2
 have k: [32,58,32].length=3:=rfl
 refine⟨Nq (aw (T9 b)),aw (T_ a c),Nq (aw (by rw[aY];exact H0 b a c))⟩
theorem agd (w:WF G){p}(h:Vd G p)(b:1<=D):(aQ prog D).call 11 [.v (vG G),.v (nV p.1),.v (nV p.2)] σ=S (.v (.str (lK G p)),σ):=by
 refine ed b rfl rfl rfl rfl λT c=> ?_
 refine dp (OZ w h) λk q r=> ?_
 have hl:=w.len h.1
 refine bz (bu (a_ (aa rfl) xP) (aa rfl) (AP w h.1)) ?_
 have g:=jo (f:=λa u=>(bV (.one 5) a [S (.v (vG G)),S (.v (nV p.1)),S (.v (nV p.2)),S (.v (fJ G p.1)),J,J]).bind (az (aQ prog (D - 1)) (.idx (.attr (.var 0) 7) (.var 5)) · u)) nV (λx=> .v (.str (nm G x))) (rhs G p.1) [] λx hx=>
  aJ rfl (bu (a_ (aa rfl) xO) (aa rfl) (AQ w (w.sym h.1 x hx).1))
 refine bz (E_ (c7 (a_ (aa rfl) xQ) rfl) g (by rw[aq _];exact aw (bw hl (by decide)))) ?_
 refine uX (P:=λρ σ=>ρ= [S (.v (vG G)),S (.v (nV p.1)),S (.v (nV p.2)),S (.v (fJ G p.1)),S (.ref 0),J]/\σ= [cL ((nM G p).map .str)]) (br (aa rfl) aP (x7 (o:=S p.2))) (fH (d9 (aa rfl) (gz rfl) (aj (aa rfl) (aj aP aA)) (y:= .v .none) ?_) (bo ⟨rfl,rfl⟩)) ?_
 . have H:((rhs G p.1).map (λx=>X.v (.str (nm G x)))).length<aE/\0<=(p.2:Int)/\(p.2:Int)<=((rhs G p.1).map (λx=>X.v (.str (nm G x)))).length:=by
    rw[aq _]
    exact⟨aw (bw hl (by decide)),mY _,by exact_mod_cast h.2⟩
   refine(b9 H).trans ?_
   have e:(rhs G p.1).map (λx=>X.v (.str (nm G x)))=(((rhs G p.1).map (nm G)).map .str).map .v:=by rw[b5,b5];rfl
   show S (X.v .none,[Cell.lst (_++ [.v (.str [46])]++_)])=_
   rw[e,y_ _];rewrite[nM,cL];rw[bK,bK,bK,bK,Bp,Bp,O0,O0]
   rfl
 . (intro _ _ O;refine au O λI L=> ?_;clear O;obtain rfl:=I;obtain rfl:=L)
   refine l_ rfl (jn rfl) ?_
   refine cb (b_ (b_ (bu (a_ (aa rfl) xO) (a_ (aa rfl) FE) (AQ w (w.jY h.1).2)) aP k) (d9 aP rfl (aj (aa rfl) aA) (agb q)) r) (c (c8 rfl))
theorem age (w:WF G){p}(h:Vd G p)(b:2<=D):(aQ prog D).call 12 [.v (vG G),.v (vI G p)] σ=S (.v (.str (lK G p)),σ):=ed (dE b) rfl rfl rfl rfl λT c=>have a:=dJ b;cb (c6 (aj (aa rfl) (aj (cX (aa rfl) jr (aj (aa rfl) aA) (AR w h a)) (aj (cX (aa rfl) jr (aj (aa rfl) aA) (FI w h a)) aA))) (agd w h a)) (c (c8 rfl))
theorem agf (w:WF G){p}(h:Vd G p)(b:1<=D):(aQ prog D).call 56 [.v (.lst (iN G)),.v (nV p.1),.v (nV p.2)] σ=S (.v (.str (lK G p)),σ):=by
 refine ed b rfl rfl rfl rfl λT c=>dp (OZ w h) λk o q=> ?_
 have hl:=w.len h.1
 have hn:=w.nr
 refine xC (bu (aa rfl) (aa rfl) ((λσ=>jq (aw (by have:=h.1;exact dq (dM this hn) (by decide))) (by rewrite[iN];rw[bx];rewrite[iJ h.1];rfl):∀σ,b4 σ (.v (.lst (iN G))) (nV p.1)=S (.v (nN G p.1))) _)) rfl ?_
 have a:(((rhs G p.1).map (nm G)).map V.str).length=(rhs G p.1).length:=by simp
 have cl:lQ p.2 (((rhs G p.1).map (nm G)).map V.str).length=p.2:=by
  rewrite[lQ];refine Zrr (if_neg (by lia)) ?_;rw[a,y_ _];exact jI h.2
 have r:=(GL w h).1
 rw[nM,aY,aY,ee]at r
 refine cb (b_ (b_ (aa rfl) aP k) (d9 aP rfl (aj (b_ (b_ (pO (aa rfl) (aa rfl) (by
  refine(b9 (by rw[a];exact aw (bw hl (by decide)))).trans ?_
  rw[cl,Bp];rfl)) (eZ (aj aP aA) (aw (by simp)) rfl) (by
  refine Zrr (AK (by rw[aq _,ee];exact aw (by lia))) ?_;rw[bK];rfl:cV .add (.tup ((((rhs G p.1).map (nm G)).take p.2).map .str)) (.tup [.str [46]])=S (.tup ((((rhs G p.1).map (nm G)).take p.2++ [[46]]).map .str)))) (aes (aa rfl) (aa rfl) (by
  refine(b9 (by rw[a];exact aw (bw hl (by decide)))).trans ?_
  rw[cl,O0];rfl)) (by
  refine Zrr (AK (by rw[aq _,aq _,aY,ee];exact aw (by lia))) ?_;rewrite[nM];rw[(bK (l₁:=_++_))];rfl:cV .add (.tup ((((rhs G p.1).map (nm G)).take p.2++ [[46]]).map .str)) (.tup ((((rhs G p.1).map (nm G)).drop p.2).map .str))=S (.tup ((nM G p).map .str)))) aA) (agc o)) q) (c (c8 rfl))
theorem agg (w:WF G)(f:Fin G ws){t}{u}(h:ws[t]?=S u)(b:3<=D):(aQ prog D).call 42 [.v (vM G ws),.v (nV t)] σ=S (.v (.lst ((cls G u).map λp=> .str (lK G p))),σ):=by
 refine ed (dE b) rfl rfl rfl rfl λT c=> ?_
 have g:=jo (f:=λa k=>(bV (.one 2) a [S (.v (vM G ws)),S (.v (nV t)),J]).bind (az _ (.call 12 (.cons (.attr (.var 0) 22) (.cons (.var 2) _))) · k)) _ _ (cls G u) [] λp o=>
  aJ rfl (c6 (aj (a_ (aa rfl) OO) (aj (aa rfl) aA)) (age w (oV p o) (dJ b)))
 rw[(by rw[b5];rfl:((cls G u).map λp=>X.v _)=((cls G u).map λp=> .str (lK G p)).map .v)]at g
 exact cb (jm (c7 (a_ (bu (a_ (aa rfl) lI) (aa rfl) (rP f h)) yf) rfl) g (by rw[aq _,aq _];have:=rI w u;exact aw (bw this (by decide))) (fV _)) (c (c8 rfl))
noncomputable def sel (a:List (Nat×Nat))(s:Nat):List Nat:=(a.filter λp=>p.1==s).map (·.2)
def eO (n:Nat)(ps:List (Nat×Nat)):List (List Nat):=(List.range n).map (sel ps)
def gC (base:Hp)(g:List (List Nat)):Hp:=base++ (g.map cN++ [.lst ((List.range g.length).map λs=> .ref (base.length+s))])
theorem agh:sel (a++ [(s,t)]) i=if s=i then sel a i++ [t]else sel a i:=by
 rewrite[sel];rw[j_ _ _,bK]
 by_cases h:s=i
 . rw[if_pos h];exact Zrr (pP (by simpa using h)) rfl
 . rw[if_neg h];refine Zrr (pQ (by simpa using h)) ?_;rw[x8,qK,dg _];rfl
theorem jt:(eO n a).length=n:=by rewrite[eO];rw[aq _,cP];rfl
theorem Br {n s}{a}(h:s<n):(eO n a)[s]?=S (sel a s):=by rewrite[eO];rw[bx,iJ h];rfl
theorem O1 {a}:(eO n a).set s (sel a s++ [t])=eO n (a++ [(s,t)]):=by
 refine gQ λi=> ?_
 rw[rJ,jt]
 rcases i.lt_or_ge n with h|h
 . rw[Br h,Br h,agh]
   by_cases q:s=i
   . subst q;rw[if_pos rfl,if_pos rfl,if_pos h];rfl
   . rw[if_neg q,if_neg q];rfl
 . refine Zrr (eX (Zrr jt h)) (Zrr (eX (Zrr jt h)) ?_)
   by_cases q:s=i
   . rw[if_pos q];exact Zrr (if_neg (mD (hC h (aK q.symm)))) rfl
   . rw[if_neg q];rfl
theorem O2:(gC base (eO n a))[base.length+n]?=S (.lst ((List.range n).map λs=> .ref (base.length+s))):=by
 rewrite[gC];rw[iG (dH _ _),l7 _ _];refine Zrr (iG (by rw[aq _,jt];exact bb _)) ?_;rw[aq _,jt,kE _];rfl
theorem GN {n s}{a}(h:s<n):(gC base (eO n a))[base.length+s]?=S (cN (sel a s)):=by
 rewrite[gC];rw[iG (dH _ _),l7 _ _];refine Zrr (eR (by rw[aq _];exact Zrr jt h)) ?_;rw[bx,Br h];rfl
theorem agi {n s t}{a}(h:s<n):(gC base (eO n a)).set (base.length+s) (cN (sel a s++ [t]))=gC base (eO n (a++ [(s,t)])):=by
 rw[gC,gC,xd _ _ (dH _ _),l7 _ _];refine Zrr (yoB _ _ (by rw[aq _];exact Zrr jt h)) ?_;rw[xM.symm,O1,jt,jt];rfl
theorem agj {ρ}{i}:∀(b:List V) (σ:Hp),mO (λa af=>(bV (.one i) a ρ).bind (az cl (.lst ab .nil) · af)) b σ=S ((List.range b.length).map (λj=> .ref (σ.length+j)),σ++List.replicate b.length (.lst [])):=by
 intro c
 induction c with
 |nil=>
  exact λσ=>congrArg _ (σ.append_nil).symm
 |cons a b k=>
  refine λσ=>(aJ (iH aA (aw (eN _)):az cl (.lst ab .nil) (ρ.set i (S (.v a))) σ=S (.ref σ.length,σ++ [.lst []])) (bP (k (σ++ [.lst []])))).trans ?_
  rw[Eo,dz,b5,bM _ _ _,aY,(vf λj _=>by
   show .ref (σ.length+1+j)=X.ref (σ.length+ (j+1))
   congr 1;exact TH)];rfl
theorem GO {i n}{σ}{it}{vs}(h:ix cl it ρ σ=S (vs,σ))(hn:vs.length=n)(hl:n<aE):az cl (.comp ab (.one i) it (.lst ab .nil)) ρ σ=S (.ref (σ.length+n),gC σ (eO n [])):=by
 refine(E_ h (agj vs σ) (by rw[aq _,cP,hn];assumption)).trans ?_
 have e:(eO n []).map cN= .replicate n (.lst []):=by
  refine Zrr b5 (gQ λi=> ?_)
  rw[bx,Am]
  rcases i.lt_or_ge n with h|h
  . rw[iJ h,if_pos h];rfl
  exact Zrr (eX (Zrr cP h)) (Zrr (if_neg (mD h)) rfl)
 rw[aY,AO,hn];rewrite[gC];rw[e,bM _ _ _,jt];rfl
theorem O3 {base σ}{ps}{n s t}{o b c}(k:σ=gC base (eO n ps))(a:s<n)(hn:n<aE)(hl:(sel ps s).length<aE)
 (q:az cl o ρ σ=S (.ref (base.length+n),σ))(r:az cl b ρ σ=S (.v (nV s),σ))(u:az cl c ρ σ=S (.v (nV t),σ)):
 az cl (.da (.idx o b) .append (.cons c .nil)) ρ σ=S (.v .none,gC base (eO n (ps++ [(s,t)]))):=by
 subst k
 refine d9 (bu q r (lx O2 (gh a hn) (by rw[bx,iJ a];rfl))) (gz (GN a)) (aj u aA) ((i9 (GN a) (by rw[aq _];assumption)).trans ?_)
 rw[(agi a).symm];rewrite[cN];rw[bK];rfl
def rR (n:Nat)(ps:List (Nat×Nat)):V:= .lst ((List.range n).map λs=> .lst ((sel ps s).map nV))
theorem O4 {n}{ps}:Fz (rR n ps) (.ref (base.length+n)) (gC base (eO n ps)):=ah (Gz (B:=Unit) (g:=fz 7) _ (λs=> .lst ((sel ps s).map nV)) (λl σ=>l.Nodup/\∀s∈l,σ[base.length+s]?=S (cN (sel ps s)))
 (λa rest σ o=>au o λc k=>⟨_,(oP (k a cT)).trans (bP (xF _ _ _)),(kB.mp c).2,λs b=>have:s≠a:=λe=>(kB.mp c).1 (e▸b);Zrr (dG (by lia)) (k s (dA _ b))⟩) _ _ ⟨F6,λs b=>have:=gw.mp b;Zrr (dG (S4 this)) GN this⟩) λr q _=>⟨_,(oP O2).trans (bP q)⟩
def ju (G:Gm)(ws:List (List Nat))(l:List (List Nat×Nat)):List (Nat×Nat):=l.flatMap λp=>(bS G p.1).map λX=>(stN G ws (p.1++ [X]),p.2)
def fx (G:Gm)(ws:List (List Nat)):List (Nat×Nat):=ju G ws ws.zipIdx
theorem O5 (w:WF G){s t}:(s,t)∈fx G ws↔∃u X,ws[t]?=S u/\bE G (u++ [X])/\s=stN G ws (u++ [X]):=by
 rw[fx,ju,propext oS]
 constructor
 . intro O;refine ah O λa b c=> ?_;clear O;obtain ⟨u,o⟩:=a
   refine ah (bY.mp c) λX k e=> ?_
   cases e
   exact⟨u,X,Bn.mp b,(i8 w).mp k,rfl⟩
 . intro O;refine bp O λu X b c a=> ?_;clear O;subst a
   exact⟨(u,t),Bn.mpr b,bY.mpr ⟨X,(i8 w).mpr c,rfl⟩⟩
theorem agk (w:WF G)(f:Fin G ws){u v}{X Y}(a:bE G (u++ [X]))(b:bE G (v++ [Y]))(e:stN G ws (u++ [X])=stN G ws (v++ [Y])):X=Y:=aeZ a (FR (f.afa w a b e))
theorem O6 (w:WF G)(f:Fin G ws)(u):((bS G u).map λX=>stN G ws (u++ [X])).Nodup:=by
 rw[rK];refine Zrr (propext i7) ((qa G u).imp_of_mem ?_)
 intro X Y a b h e
 have:=agk w f ((i8 w).mp a) ((i8 w).mp b) e
 exact HZ h this
theorem agl (w:WF G)(f:Fin G ws):(fx G ws).Nodup:=by
 rw[rK,fx,ju,propext F8]
 constructor
 . intro p _
   rw[i7]
   have:=O6 w f p.1
   rw[rK,i7]at this
   exact this.imp λh e=>h (congrArg Prod.fst e)
 . have nd:(ws.zipIdx.map Prod.snd).Nodup:=by rw[List.zipIdx_map_snd _ _];exact List.nodup_range'
   rw[rK,i7]at nd
   refine nd.imp λh x hx y a e=>ah (bY.mp hx) λX _ O=> ?_;subst O
   refine ah (bY.mp a) λY _ O=> ?_;subst O
   exact h (congrArg (λp:Nat×Nat=>p.2) e)
theorem Bs:t∈sel a s↔ (s,t)∈a:=by
 rewrite[sel];rw[bY]
 constructor
 . intro O;refine ah O λk h b=> ?_;clear O;subst b
   refine au (fK.mp h) λo c=> ?_
   have:=by simpa using c
   rw[this.symm];assumption
 exact λh=>⟨_,fK.mpr ⟨h,by simp⟩,rfl⟩
theorem Bt (w:WF G){s t}(h:t∈sel (fx G ws) s):t<ws.length:=dh ((O5 w).mp (Bs.mp h)) λu X a _=>dB a
theorem O7 (w:WF G)(f:Fin G ws){ps}(h:ps<+:fx G ws)(s):(sel ps s).length<aE:=by
 have:=nE (by
  rewrite[sel];rw[rK,propext i7]
  have:=((agl w f).sublist h.sublist).filter λp=>p.1==s
  refine .imp_of_mem ?_ this
  intro a b ha hb ne e
  refine ne ?_
  have c:=by simpa using (fK.mp ha).2
  have k:=by simpa using (fK.mp hb).2
  exact wb (c.trans k.symm) e) λt o=>gw.mpr (Bt w (Bs.mpr (h.subset (Bs.mp o))))
 rw[cP]at this
 exact have:=f.le;aw (by lia)
theorem Bu {α:Type}{l:List _}{g:Nat->V}:kT (.aU .int (l.map λX=>(nV X,g X)))=S (l.map nV):=by
 show S _=_
 rewrite[keysOf];rw[b5];rfl
theorem ki (f:Fin G ws):ws.length<aE:=by have:=f.le;exact aw (q3 this)
theorem O8:ef σ (.v (gH G ws t u)) 0=S (.v (nV t)):=rfl
theorem agm {done rest}(h:ws.zipIdx=done++p::rest):ws[p.2]?=S p.1:=Bn.mp (by rw[h];simp)
theorem Bv (w:WF G){u}{X}(h:X∈bS G u):b4 σ (.v (rO G ws u)) (nV X)=S (.v (nV (stN G ws (u++ [X])))):=xI rfl (tC.trans (if_pos h))
theorem O9 {p}{d r}{X}(h:ws.zipIdx=done++p::rest)(a:bS G p.1=d++X::r):ju G ws done++d.map (λX=>(stN G ws (p.1++ [X]),p.2))<+:fx G ws:=by
 rewrite[fx];rw[h];rewrite[ju,ju];rw[qb,Bb,a,bK,bM _ _ _]
 exact ylR _|>.mpr (tm _ _)
theorem O':ju G ws (done++ [p])=ju G ws done++ (bS G p.1).map λX=>(stN G ws (p.1++ [X]),p.2):=by rewrite[ju];rw[qb,Bc _ _];rfl
theorem O_ (w:WF G)(f:Fin G ws)(q:1<=D):(aQ prog D).call 36 [.v (vM G ws)] σ=S (.v (rR ws.length (fx G ws)),σ):=by
 refine ed (dE q) rfl rfl rfl rfl λT u=>bz (GO (c7 (a_ (aa rfl) lI) rfl) GA (ki f)) (d_ _ _ (λdone Z=>∀c a,Z [S _,S _,c,a,J] (gC [] (eO _ (ju G ws done)))) (c7 (a_ (aa rfl) lI) rfl) (λZ b=>b _ _) ?_ ?_)
 . refine λdone p rest Z b x c a=>bt rfl (d_ nV _ (λd Z=>∀a,Z [S _,S _,S _,a,J] (gC [] (eO ws.length (ju G ws done++d.map λX=>(stN G ws (p.1++ [X]),p.2))))) (c7 (a_ (aa rfl) rQ) (Bu (α:=Unit))) (λZ b=>kq (b _) (by simp)) ?_ ?_)
   . intro d X r Z b k a
     have o:X∈bS G p.1:=by rw[k];simp
     refine bt rfl (fH (O3 rfl (f.xW w ((i8 w).mp o)) (ki f) (O7 w f (O9 x k) _) (aa rfl) (bu (a_ (aa rfl) rQ) (aa rfl) (Bv w o)) (a_ (aa rfl) O8)) (bo (kq (b _) ?_)))
     rw[bK,bM _ _ _];rfl
   exact λa=>bo (kq (b _ _) (by rw[O'];rfl))
 exact λc a=>cb (aa rfl) (u O4)
noncomputable def fi (G:Gm)(ws:List (List Nat))(s:Nat):Nat->List Nat
 |0=> [s]
 |k+1=>(List.range ws.length).filter λt=>decide (∃h∈fi G ws s k,t∈sel (fx G ws) h)
theorem agn:fi G ws s (k+1)=(List.range ws.length).filter λt=>decide (∃h∈fi G ws s k,t∈sel (fx G ws) h):=rfl
theorem Pa (a:s<ws.length):∀k,∀t∈fi G ws s k,t<ws.length:=by
 intro b
 induction b with
 |zero=>
  intro t h
  rewrite[dm.mp h];exact a
 |succ k _=>
  exact λt h=>gw.mp (fK.mp h).1
def dC (a:List Nat):Cell:= .aU .int (a.map λk=>(nV k,.v (.bool ab)))
theorem ago:∀ {a:List (V×u)},ck k a=S x->ec k x a=a:=by
 intro b
 induction b with
 |nil=>
  exact aD
 |cons c r o=>
  obtain ⟨H,y⟩:=c
  intro h
  rw[mm]at h
  rw[tA]
  split at h
  . rename_i q;cases h;rw[if_pos q];rfl
  . rename_i q;rw[if_neg q,o h];rfl
theorem agp: .aU .int (ec (nV k) (.v (.bool ab)) (a.map λk=>(nV k,.v (.bool ab))))=dC (if k∈a then a else a++ [k]):=by
 by_cases h:k∈a
 . rw[if_pos h,ago (tC (g:=λ_=>X.v _).trans (if_pos h))];rfl
 . rw[if_neg h,tB (tC.trans (if_neg h))];rewrite[dC];rw[bK];rfl
theorem Pb:(σ++ [c])[σ.length]?=S c:=by rw[iG (bb _),kE _];rfl
theorem agq {c d:Cell}:(σ++ [c]).set σ.length d=σ++ [d]:=by simp
theorem agr {k n}(nd:a.Nodup)(hk:∀x∈a,x<n)(hn:n<aE):mM (σ++ [dC a]) (.ref σ.length) (nV k) (.v (.bool ab))=S (σ++ [dC (if k∈a then a else a++ [k])]):=by
 have:=nE nd λt b=>gw.mpr (hk t b)
 rw[cP]at this
 exact(rB Pb rfl (by rw[aq _];exact eP ‹_› ‹_›)).trans (by rw[agq,agp];rfl)
theorem ags (w:WF G)(f:Fin G ws){s m}{mv}(hm:mv=nV m)(hs:s<ws.length)(hk:m<aE)(U:2<=D):(aQ prog D).call 37 [.v (vM G ws),.v (nV s),.v mv] σ=S (.v (.lst ((fi G ws s m).map nV)),σ):=by
 refine ed (dE U) rfl rfl rfl rfl λT hT=>bz (c6 (aj (aa rfl) aA) (O_ (σ:= []) w f (dJ U))) (bz (fU (aj (aa rfl) aA) (aw (by simp)) rfl) (uY nV m (λi Z=>∀L Q H o σ,Z [S (.v (vM G ws)),S (.v (nV s)),S (.v mv),S (.v (rR ws.length (fx G ws))),S (.v (.lst ((fi G ws s i).map nV))),L,Q,H,o] σ) (pU (aa (by rw[hm];rfl)) hk) (λZ u=>u _ _ _ _ _) ?_ ?_))
 . refine λi Z u hi L Q H o σ=>bt rfl (bz tD (d_ nV (fi G ws s i) (λdone Z=>∀H o k,k.Nodup->(∀x,x∈k↔∃h∈done,x∈sel (fx G ws) h)->Z [S (.v (vM G ws)),S (.v (nV s)),S (.v mv),S (.v (rR ws.length (fx G ws))),S (.v (.lst ((fi G ws s i).map nV))),S (.v (nV i)),S (.ref σ.length),H,o] (σ++ [dC k])) (c7 (aa rfl) rfl) (λZ u=>u _ _ [] Bj (λx=>by simp)) ?_ ?_))
   . intro done h rest Z u hd H o k nd mem
     have Y:=Pa hs i h (by rw[hd];simp)
     refine bt rfl (d_ nV (sel (fx G ws) h) (λd Z=>∀o k,k.Nodup->(∀x,x∈k↔ (∃h∈done,x∈sel (fx G ws) h)\/x∈d)->Z [S (.v (vM G ws)),S (.v (nV s)),S (.v mv),S (.v (rR ws.length (fx G ws))),S (.v (.lst ((fi G ws s i).map nV))),S (.v (nV i)),S (.ref σ.length),S (.v (nV h)),o] (σ++ [dC k])) (c7 (bu (aa rfl) (aa rfl) ((λσ=>jq (gh Y (ki f)) (by rw[bx,iJ Y];rfl)) _)) rfl) (λZ u=>u _ k nd (λx=>by rw[mem _];simp)) ?_ ?_)
     . refine λd x r Z u er o k nd I=>bt rfl (jU aP (aa rfl) (aa rfl) (agr nd (λy hy=>by
        rcases(I y).mp hy with ⟨h',_,q⟩|q
        . exact Bt w q
        exact Bt w (by rw[er];exact fh _ q)) (ki f)) (bo (u _ _ ?_ ?_)))
       . split
         . exact nd
         . rename_i q
           exact Zrr (propext qL) ⟨nd,by simp,λa ha b hb e=>q (by rw[dm.mp hb]at e;rw[e.symm];assumption)⟩
       . intro y
         rw[b8,(propext or_assoc).symm,(propext (I y)).symm,propext dm]
         split
         . rename_i q
           exact⟨.inl,λh=>h.elim id λe=>e▸q⟩
         . rw[b8,propext dm];rfl
     . intro o k nd I
       refine bo (u _ _ k nd (λx=> ?_))
       rw[I _]
       simp only[b8,dm]
       constructor
       . rintro (⟨a,b,c⟩|q)
         . exact⟨a,.inl b,c⟩
         . exact⟨h,.inr rfl,q⟩
       . (intro O;refine ah O λa ax c=> ?_;clear O;obtain b|rfl:=ax)
         . exact .inl ⟨a,b,c⟩
         . exact .inr c
   . intro H o k nd mem
     have sl:(fi G ws s (i+1)).Pairwise (· < ·):=NH.filter _
     have pm:=u6 nd (sl.imp dx) λx=>by
      rw[mem _,agn,propext fK,decide_eq_true_eq,propext gw]
      exact⟨λh=>⟨by(refine ah h λa _ c=> ?_;clear h);exact Bt w c,h⟩,λh=>h.2⟩
     have s1:=A2 pm (sl.imp bX)
     have sq:rZ (σ++ [dC k]) (.ref σ.length)=S (k.map nV):=(Ow Pb).trans (by(rewrite[keysOf];rw[b5]);rfl)
     have kl:k.length<aE:=by
      have h1:(fi G ws s (i+1)).length<=(List.range ws.length).length:=jZ _ _
      rw[pm.length_eq]
      rw[cP]at h1
      exact eP h1 (ki f)
     refine bz (iI (aa rfl) (mh sq (oU (x9) (by(rw[aq _];assumption))))) (bo ?_)
     rw[s1]
     exact u _ _ _ _ _
 . intro L Q H o σ
   exact cb (aa rfl) (hT (c8 rfl))
def Bx (l:List (List Nat)):Prop:=∀(t:Nat) (v:List Nat),l[t]?=S v->v.length<=t
theorem agt (h:Bx l)(a:y.length<=l.length):Bx (addW G l y):=by
 intro t v e
 rw[addW]at e
 split at e
 . exact h t v e
 . rw[List.getElem?_append]at e
   split at e
   . exact h t v e
   . have hl:=dB e
     rw[ee]at hl
     rw[show t - l.length=0 by exact RN hl]at e
     cases e
     exact hC a (fB ‹_›)
theorem agu:∀(a:List _) (l:List _),Bx l->u.length<l.length->Bx (c_ G l u a):=by
 intro b
 induction b with
 |nil=>
  exact λl h _=>h
 |cons X a c=>
  exact λl h k=>have o:=FT (G:=G) (l:=l) (y:=u++ [X]).length_le;c _ (agt (G:=G) (y:=u++ [X]) h (by rw[aY,ee];exact k)) (d0 ‹_› ‹_›)
theorem agv:∀(a t:Nat) (v:List _),(Bq G a)[t]?=S v->v.length<=t:=by
 intro c
 induction c with
 |zero=>
  intro t v e
  have hl:=dB e
  have:t=0:=by change t<1 at hl;exact q4 hl
  subst this
  cases e;exact dO _
 |succ a b=>
  intro t v e
  cases q:(Bq G a)[a]? with
  |none=>rw[p6 q]at e;exact b t v e
  |some u=>
   rw[p6 q]at e
   exact have k:=b a u q;have o:=dB q;agu _ _ b (eP ‹_› ‹_›) t v e
theorem Fin.GQ (f:Fin G ws){t}{u:List _}(h:ws[t]?=S u):u.length<=t:=have:=f.eq;agv _ t u (Zrr this.symm h)
def dK (l:List Nat):V:= .tup (l.map nV)
def oZ (W:List (List Nat))(t:Nat):V:=match W[t]? with
 |some w=>dK w
 |none=> .none
def fC (n:Nat)(W:List (List Nat)):Cell:=cL ((List.range n).map (oZ W))
theorem By {W}{t}{u}(h:W[t]?=S u):oZ W t=dK u:=by rewrite[oZ];rw[h];rfl
theorem agw {W}{t}(h:W.length<=t):oZ W t= .none:=by rewrite[oZ];rw[eX h];rfl
theorem Pc {n t}{W}{r:Hp}(h:t<n)(hn:n<aE):b4 (fC n W::r) (.ref 0) (nV t)=S (.v (oZ W t)):=lx rfl (gh h hn) (by rw[bx,bx,iJ h];rfl)
theorem Pd {W}{y}{r:Hp}(h:W.length<n)(hn:n<aE):mM (fC n W::r) (.ref 0) (nV W.length) (.v (dK y))=S (fC n (W++ [y])::r):=by
 refine(xJ rfl (by rw[aq _,aq _];exact Zrr cP h) (gh h hn)).trans (congrArg _ (congrArg _ (congrArg _ (gQ λi=> ?_))))
 rw[rJ,aq _,aq _,cP,bx,bx,bx,bx]
 by_cases q:W.length=i
 . subst q
   rw[if_pos rfl,if_pos h,iJ h]
   show _=S _
   exact Zrr (By (by rw[iG (bb _),kE _];rfl)) rfl
 . rw[if_neg q]
   rcases i.lt_or_ge n with z|z
   . rw[iJ z]
     show S _=S _
     rw[oZ,oZ,(by
      refine(i.lt_or_ge _).elim eR λz=> ?_
      . rw[eX z];exact Zrr (eX (by rw[aY];rw[ee];lia)) rfl:(W++ [y])[i]?=W[i]?)];rfl
   exact Zrr (eX (Zrr cP z)) rfl
theorem agx (f:Fin G ws):(List.range ws.length).map (oZ ws)=ws.map dK:=by
 refine gQ λi=> ?_
 rw[bx,bx]
 rcases i.lt_or_ge _ with z|z
 . rw[iJ z];exact Zrr (du z) (congrArg _ (By (du z)))
 . refine Zrr (eX (Zrr cP z)) ?_;rw[eX z];rfl
def qC (n:Nat):Cell:=cN (List.range n)
theorem agy (w:WF G)(f:Fin G ws){cl}{a}{u}{c}(k:ws[a]?=S u){y}{R}{Q}
 (Y:∀c,Do (aZ cl y [S (.v (vM G ws)),S (.v (.int 0)),S (.ref 0),S (.ref 1),S (.v (nV a)),S (.v (nV a)),S (.v (rO G ws u)),c,J] [fC ws.length (Bq G (a+1)),qC (Bq G (a+1)).length]) Q R):
 Do (aZ cl (.cons (.cq (.one 7) (.of (.var 6)) Iq) y) [S (.v (vM G ws)),S (.v (.int 0)),S (.ref 0),S (.ref 1),S (.v (nV a)),S (.v (nV a)),S (.v (rO G ws u)),c,J] [fC ws.length (Bq G a),qC (Bq G a).length]) Q R:=by
 have H:=(f.get (dB k)).trans k
 have hlt:=dB H
 have ha:=dB k
 have hn:=ki f
 refine d_ nV (bS G u) (λdone Z=>∀c,Z [S (.v (vM G ws)),S (.v (.int 0)),S (.ref 0),S (.ref 1),S (.v (nV a)),S (.v (nV a)),S (.v (rO G ws u)),c,J] [fC ws.length (c_ G (Bq G a) u done),qC (c_ G (Bq G a) u done).length]) (c7 (aa rfl) (Bu (α:=Unit))) (λZ b=>b _) ?_ ?_
 . refine λdone X rest Z b I c=>bt rfl ?_
   have L:X∈bS G u:=by rw[I];simp
   have O:c_ G (Bq G a) u (done++ [X])=addW G (c_ G (Bq G a) u done) (u++ [X]):=by rewrite[c_];rw[g8];rfl
   have pre:addW G (c_ G (Bq G a) u done) (u++ [X])<+:ws:=by
    refine .trans ?_ (f.pre (yO ha))
    have e:c_ G (Bq G a) u ((done++ [X])++rest)=c_ G (c_ G (Bq G a) u (done++ [X])) u rest:=g8 ..
    rw[f.next k,I,O.symm,done.append_cons X rest];exact Zrr e (p7 _ _)
   have hW:(c_ G (Bq G a) u done)[a]?=S u:=(nH (p7 _ _) hlt).symm.trans H
   have x:=pre.length_le
   have add:=f.add w pre
   rw[O]at b
   generalize c_ G (Bq G a) u done=W at pre hW x add b ⊢
   have o:∀σ,b4 σ (.v (rO G ws u)) (nV X)=S (.v (nV (stN G ws (u++ [X])))):=λσ=>Bv w L
   have q:=Pc (W:=W) (r:= [qC W.length]) (f.xW w ((i8 w).mp L)) hn
   rcases add with ⟨e,hlt⟩| ⟨e,g5,_⟩
   . rw[e]at b
     rw[(By (du hlt))]at q
     refine gy (tc (bu (aa rfl) (bu (aa rfl) (aa rfl) (o _)) q) rfl) (bo (b _))
   . rw[e]at x b
     rw[aY,ee]at x b
     rw[g5]at o q
     rw[agw (bb _)]at q
     have U:=Pc (W:=W) (r:= [qC W.length]) ha hn
     rw[By hW]at U
     have e_:=f.GQ k
     refine uX (tc (bu (aa rfl) (bu (aa rfl) (aa rfl) (o _)) q) rfl) (jU (b_ (bu (aa rfl) (aa rfl) U) (eZ (aj (aa rfl) aA) (aw (by simp)) rfl) (by
      rewrite[dK];refine Zrr (AK (by rw[aq _,ee];exact Ui ha hn e_)) ?_;rewrite[dK];rw[bK];rfl:cV .add (dK u) (.tup [nV X])=S (dK (u++ [X])))) (aa rfl) (bu (aa rfl) (aa rfl) (o _)) (Pd x hn) (fH (d9 (aa rfl) (gz rfl) (aj (bu (aa rfl) (aa rfl) (o _)) aA) (i9 rfl (by rw[aq _,cP];lia))) (bo (kq (b _) ?_)))) λ_ _ h=>bo h
     show [fC ws.length (W++ [u++ [X]]),cL ((List.range W.length).map nV++ [nV W.length])]=_
     rewrite[qC,cN];rw[kI,bK];rfl
 . intro c
   exact Zrr ((f.next k).symm) (Y _)
theorem Pe (w:WF G)(f:Fin G ws)(L:1<=D):(aQ prog D).call 38 [.v (vM G ws),.v (.int 0)] σ=S (.v (.lst (ws.map dK)),σ):=by
 refine ed (dE L) rfl rfl rfl rfl λT O=> ?_
 have hn:=ki f
 have g:=jo (f:=λa Q=>(bV (.one 8) a [S (.v (vM G ws)),S (.v (.int 0)),J,J,J,J,J,J,J]).bind λρ'=>az (aQ prog (D - 1)) (.cst .none) ρ' Q) (λp:List Nat×Nat=>gH G ws p.2 p.1) (λ_=>X.v .none) ws.zipIdx [] λp hp=>rfl
 have U:ws.zipIdx.map (λ_=>X.v .none)=((List.range ws.length).map (oZ [])).map .v:=by
  refine gQ λi=> ?_
  rw[bx,bx,bx,lG]
  rcases i.lt_or_ge ws.length with z|z
  . rw[iJ z,du z];rfl
  . refine Zrr (eX (l:=List.range ws.length) (by rw[cP];exact z)) ?_;rw[eX z];rfl
 rw[U]at g
 refine bz (E_ (c7 (a_ (aa rfl) lI) rfl) g (by(rw[aq _,aq _,cP]);exact hn)) ?_
 have Y:=Pd (W:= []) (y:= []) (r:= []) f.pos hn
 refine jU (eZ aA (aw (eN _)) rfl) (aa rfl) (aa rfl) Y ?_
 refine bz (iH (aj (aa rfl) aA) (aw (by simp))) (bz aP ?_)
 refine uZ (λa Z=>a<=ws.length->∀x H b,Z [S (.v (vM G ws)),S (.v (.int 0)),S (.ref 0),S (.ref 1),S (.v (nV a)),x,H,b,J] [fC ws.length (Bq G a),qC (Bq G a).length]) (λa=>ws.length - a) 0 (λZ c=>c (dO _) _ _ _) (by have:=f.le;show _ - 0<2^22;exact HL this) ?_
 intro a Z c ha x H b
 have Gy:=FX w a
 have k:(Bq G a).length<aE:=aw (q3 Gy)
 refine wt (decide (a<(Bq G a).length)) (br (aa rfl) (cw (aa rfl) (eC (pT rfl) (by(rw[aq _,aq _,cP]);exact k))) (by(rw[aq _,aq _,cP]);exact pS)) (λq=> ?_) (λq=> ?_)
 . have q:=of_decide_eq_false q
   have:a=ws.length:=by
    rcases uO a ws.length with z|z
    . exact absurd (f.lt a z) q
    . exact cg ha z
   subst this
   rw[f.eq.symm]
   exact cb (aa rfl) (O ⟨_,(jn rfl).trans (by(rw[agx f];rfl))⟩)
 . have q:=of_decide_eq_true q
   have o:a<ws.length:=by
    rcases uO a ws.length with z|z
    . exact z
    . have:a=ws.length:=cg ha z
      subst this
      rw[<-f.eq]at q;assumption
   obtain ⟨u,I⟩:∃u,ws[a]?=S u:=⟨_,du o⟩
   have i1:b4 [fC ws.length (Bq G a),qC (Bq G a).length] (.ref 1) (nV a)=S (.v (nV a)):=lx rfl (eP ‹_› ‹_›) (by(rw[bx,bx,iJ q]);rfl)
   refine bz (bu (aa rfl) (aa rfl) i1) (bz (a_ (bu (a_ (aa rfl) lI) (aa rfl) (rP f I)) rQ) ?_)
   refine agy w f I λb=> ?_
   exact bz (b_ (aa rfl) aP (@nu a 1)) (bo (c (a+1) (q6 o) (o) _ _ _))
theorem agz (w:WF G)(f:Fin G ws){t}{u}(h:ws[t]?=S u)(a:2<=D):(aQ prog D).call 39 [.v (vM G ws),.v (nV t)] σ=S (.v (dK u),σ):=ed (dE a) rfl rfl rfl rfl λT b=>have c:∀σ,b4 σ _ _=S _:=λσ=>jq (f.lim h) (by rw[bx,h];rfl);cb (bu (c6 (aj (aa rfl) (aj aP aA)) (Pe (σ:= []) w f (dJ a))) (aa rfl) (c _)) (b (c8 rfl))
theorem Pf (a:1<=D):(aQ prog D).new 0 [.v (nV n),.v (nV l),.v (dK r),.v (.int i)] σ=S (.v (.obj 0 [(0,nV n),(1,nV l),(2,dK r),(3,.int i),(4,.none),(5,.int 0),(6,.int 0)]),σ):=Fg a rfl rfl rfl rfl rfl (dW (aa rfl) (aa rfl) rfl (dW (aa rfl) (aa rfl) rfl (dW (aa rfl) (aa rfl) rfl (dW (aa rfl) (aa rfl) rfl (dW (aa rfl) (aa rfl) rfl (dW (aa rfl) (aa rfl) rfl (dW (aa rfl) (aa rfl) rfl (bo ⟨_,Nk rfl⟩))))))))
theorem agA (b:1<=D):(aQ prog D).call 13 [.v (dK l),.v (nV nT)] σ=S (.v (.int (pY nT l)),σ):=by
 refine ed b rfl rfl rfl rfl λT c=>bz aP (d_ nV l (λdone Z=>∀j σ,Z [S _,S _,S (.v (.int (pY nT done))),j] σ) (c7 (aa rfl) rfl) (λZ a=>a _ _) ?_ ?_)
 . intro done x rest Z a k j σ
   have e:pY nT (done++ [x])=if x<nT then(x:Int)else pY nT done:=by rewrite[pY];rw[g8];rfl
   refine bt rfl (jV (br (aa rfl) (aa rfl) pS) (λq=> ?_) (λq=> ?_) λ_ _ h=>bo h)
   . rw[e,if_pos (of_decide_eq_true q)]at a
     exact bz (aa rfl) (bo (a _ _))
   . rw[e,if_neg (of_decide_eq_false q)]at a
     exact bo (a _ _)
 exact λj σ=>cb (aa rfl) (c (c8 rfl))
theorem agB:∀(l:List _) (k r:Nat) (p:Nat×List _),l[r]?=S p->pX k (l.take (r+1))=pX k (l.take r)++ .replicate (p.2.length+1) (k+r):=by
 intro a
 induction a with
 |nil=>exact λ_ _ _ h=>nomatch h
 |cons q l b=>
  intro k r p h
  cases r with
  |zero=>cases h;rw[Pg];exact dg _
  |succ r=>rw[Pg,Pg,FD,FD];rewrite[b _ r p h];rw[bM _ _ _,k.add_right_comm 1 r];rfl
theorem agC:∀(l:List _) (k:Nat),(pX k l).length=(l.map λp=>p.2.length+1).sum:=by
 intro a
 induction a with
 |nil=>
  exact λ_=>rfl
 |cons q l b=>
  intro k
  rw[FD,aY,AO,b _];rfl
def nP (G:Gm)(k:Nat):List Nat:=pX 0 (G.rs.take k)
theorem Bz:(nP G k).length=off G k:=agC _ _
def jb (G:Gm)(k:Nat):List (Nat×Nat):=(List.range k).map λr=>(lhs G r,r)
theorem Ph:sel (jb G k) x=(List.range k).filter λr=>lhs G r==x:=by
 rw[sel,jb,yqH];exact Zrr b5 ((vf λa _=>rfl).trans (List.map_id _))
def GR (G:Gm):List (Nat×X):= [(7,.v (.lst (G.fI.map .str))),(8,.v (nV G.nT)),(9,.v (.lst ((List.range (nR G)).map (fJ G)))),(10,.v (.aU .str [])),(11,.v .none),(12,.v (nV (G.nT+1))),(13,.ref (1+nS G)),(14,.ref (1+nS G+1)),(15,.ref (1+nS G+2))]
def iO (G:Gm)(k:Nat):Hp:= .obj 1 (GR G)::
 ((eO (nS G) (jb G k)).map cN++ [.lst ((List.range (nS G)).map λs=> .ref (1+s)),cN ((List.range k).map (off G)),cN (nP G k)])
theorem vg:(iO G k)[1+nS G+i]?= [.lst ((List.range (nS G)).map λs=> .ref (1+s)),cN ((List.range k).map (off G)),cN (nP G k)][i]?:=by
 rewrite[iO];rw[show 1+nS G+i=nS G+i+1 by exact Up];refine Zrr (iG (by rw[aq _,jt];exact dH _ _)) ?_;rw[aq _,jt,l7 _ _];rfl
theorem Pj {k s}(h:s<nS G):(iO G k)[1+s]?=S (cN (sel (jb G k) s)):=by
 rewrite[iO];rw[n5 1 s];refine Zrr (eR (by rw[aq _];exact Zrr jt h)) ?_;rw[bx,Br h];rfl
theorem agD (w:WF G){k}(hk:k<nR G):(((iO G k).set (1+lhs G k) (cN (sel (jb G k) (lhs G k)++ [k]))).set (1+nS G+1) (cN ((List.range k).map (off G)++ [off G k]))).set (1+nS G+2) (cN (nP G k++ .replicate ((rhs G k).length+1) k))=iO G (k+1):=by
 have a:jb G (k+1)=jb G k++ [(lhs G k,k)]:=by rewrite[jb];rw[kI,bK];rfl
 have b:(List.range (k+1)).map (off G)=(List.range k).map (off G)++ [off G k]:=by rw[kI,bK];rfl
 have c:nP G (k+1)=nP G k++ .replicate ((rhs G k).length+1) k:=by rewrite[nP];rw[agB _ _ _ _ (nC hk),fc _];rfl
 rw[iO,iO,a,b,c,O1.symm,show 1+lhs G k=lhs G k+1 by exact Uy,show 1+nS G+1=nS G+1+1 by exact Uz,show 1+nS G+2=nS G+2+1 by exact UA]
 have h0:((eO (nS G) (jb G k)).map cN).length=nS G:=by rw[aq _,jt];rfl
 rw[Bl,Bl,Bl];refine Zrr (yoB _ _ (Zrr h0 (w.jY hk).2)) (Zrr (xd _ _ (by rw[Bm,h0];exact dH _ _)) (Zrr (xd _ _ (by rw[Bm,h0];exact dH _ _)) ?_));rw[Bm,h0,l7 _ _,l7 _ _,xM]
 rfl
theorem agE {a}(h:σ[n]?=S (.lst xs))(hl:xs.length+a.length<aE):gK σ .extend (.ref n) [.v (.lst a)]=S (.v .none,σ.set n (.lst (xs++a.map .v))):=aJ h (b9 hl)
theorem GU (h:σ[n]?=S (cN l))(hl:l.length<aE):gK σ .append (.ref n) [.v (nV a)]=S (.v .none,σ.set n (cN (l++ [a]))):=by
 refine Zrr (i9 h (by rw[aq _];assumption)) ?_;rewrite[cN];rw[bK];rfl
theorem agF (h:σ[n]?=S (cN l))(hl:l.length+m.length<aE):gK σ .extend (.ref n) [.v (.lst (m.map nV))]=S (.v .none,σ.set n (cN (l++m))):=by
 refine Zrr (agE h (by rw[aq _,aq _,aq _];assumption)) ?_;rewrite[cN];rw[bK,bK];rfl
theorem Pl (h:σ[n]?=S (cN l))(hl:l.length<aE):cB σ .len (.ref n)=S (.val (nV l.length)):=by
 refine eC ((pT h).trans ?_) hl
 rw[aq _,aq _];rfl
theorem agG {a:V}:∀m,(List.replicate m [a]).flatten= .replicate m a:=by simp
theorem agH {n m}(h:m<aE):cV .mul (.lst [nV n]) (nV m)=S (.lst ((List.replicate m n).map nV)):=by
 refine(b9 ⟨mY _,by simpa using h,by exact_mod_cast h⟩).trans (congrArg _ (congrArg _ ?_))
 rw[yoT,agG _];rfl
theorem WF.Pm (w:WF G){k}(h:k<=nR G):off G k<=28:=by
 have:=w.Nz k
 have:=w.nr
 exact TX h ‹_› this
theorem Pn {k n}{σ a}{xs}{vs}(h:σ[n]?=S (.lst xs))(m:jD (fz k) (σ.set n .dead) xs=S (vs,a)):fz (k+1) σ (.ref n)=S (.lst vs,a):=(oP h).trans (bP m)
theorem agI (w:WF G)(hD:1<=D):(aQ prog D).new 1 [.v (.lst (G.fI.map .str)),.v (nV G.nT),.v (.lst ((List.range (nR G)).map (fJ G))),.v (.aU .str []),.v .none,.v (nV (G.nT+1))] σ=S (.v (vG G),σ):=by
 refine Fg hD rfl rfl rfl rfl rfl ?_
 have hS:nS G<aE:=aw (by have:=w.big;exact bw this (by decide))
 have hr:=w.nr
 refine dW (aa rfl) (aa rfl) rfl (dW (aa rfl) (aa rfl) rfl (dW (aa rfl) (aa rfl) rfl (dW (aa rfl) (aa rfl) rfl (dW (aa rfl) (aa rfl) rfl (dW (aa rfl) (aa rfl) rfl ?_)))))
 refine dW (GO (c7 (a_ (aa rfl) rfl) rfl) (by rw[aq _];rfl) hS) (aa rfl) rfl ?_
 have eg:(eO (nS G) []).map cN=(eO (nS G) (jb G 0)).map cN:=rfl
 have lg:((eO (nS G) []).map cN).length=nS G:=by rw[aq _,jt];rfl
 have L1:∀c d:Cell,(c::((eO (nS G) []).map cN++ [d])).length=1+nS G+1:=λc d=>by rw[jG,aY,lg,ee];exact Q6
 have L2:∀c d e:Cell,(c::((eO (nS G) []).map cN++ [d])++ [e]).length=1+nS G+2:=λc d e=>by rw[aY,L1 _ _];rfl
 refine dW ((iH aA (aw (eN _))).trans (congrArg (λn=>S (X.ref n,_)) (L1 _ _))) (aa rfl) rfl ?_
 refine dW ((iH aA (aw (eN _))).trans (congrArg (λn=>S (X.ref n,_)) (L2 _ _ _))) (aa rfl) rfl ?_
 refine d_ (fJ G) (List.range (nR G)) (λdone Z=>∀U,Z [S (.ref 0),S (.v (.lst (G.fI.map .str))),S (.v (nV G.nT)),S (.v (.lst ((List.range (nR G)).map (fJ G)))),S (.v (.aU .str [])),S (.v .none),S (.v (nV (G.nT+1))),U,J] (iO G done.length)) (c7 (a_ (aa rfl) rfl) rfl) ?_ ?_ ?_
 . intro Z u
   refine kq (u _) ?_
   show _::(((eO (nS G) []).map cN++ [Cell.lst ((List.range (eO (nS G) []).length).map λs=> .ref (1+s))])++ [Cell.lst []]++ [Cell.lst []])=_
   rewrite[iO];rw[jt,bM _ _ _,bM _ _ _]
   rfl
 . intro done k rest Z u hd U
   (refine au (Nh hd) λO hk=> ?_;obtain rfl:=O)
   rw[aY,ee,cP]at u
   rw[cP]
   have hw:=w.jY hk
   have hl:=w.len hk
   have g1:=vg (G:=G) (k:=k) (i:=0)
   have y:=vg (G:=G) (k:=k) (i:=1)
   have o:=vg (G:=G) (k:=k) (i:=2)
   have q:=Pj (k:=k) hw.2
   have I:=w.Pm (bX hk)
   have sl:(sel (jb G k) (lhs G k)).length<=k:=by
    have h:((List.range k).filter λr=>lhs G r==lhs G k).length<=(List.range k).length:=jZ _ _
    rw[Ph];rwa[cP]at h
   refine bt rfl ?_
   have i1:b4 (iO G k) (.ref (1+nS G)) (nV (lhs G k))=S (.ref (1+lhs G k)):=lx g1 (gh hw.2 hS) (by(rw[bx,iJ hw.2]);rfl)
   refine fH (d9 (bu (a_ (aa rfl) rfl) (a_ (aa rfl) FE) i1) (gz q) (aj (a_ (aa rfl) NA) aA) (GU q (aw (dq (dM (bw sl hk) hr) (by decide))))) ?_
   have L:((iO G k).set (1+lhs G k) (cN (sel (jb G k) (lhs G k)++ [k])))[1+nS G+1]?=S (cN ((List.range k).map (off G))):=by refine Zrr (dG (Q7 hw)) ?_;exact y
   have Q:((iO G k).set (1+lhs G k) (cN (sel (jb G k) (lhs G k)++ [k])))[1+nS G+2]?=S (cN (nP G k)):=by refine Zrr (dG (Q8 hw)) ?_;exact o
   have Y:ef ((iO G k).set (1+lhs G k) (cN (sel (jb G k) (lhs G k)++ [k]))) (.ref 0) 14=S (.ref (1+nS G+1)):=by rw[n5 1 _];rfl
   have a15:ef ((iO G k).set (1+lhs G k) (cN (sel (jb G k) (lhs G k)++ [k]))) (.ref 0) 15=S (.ref (1+nS G+2)):=by rw[n5 1 _];rfl
   refine fH (d9 (a_ (aa rfl) Y) (gz L) (aj (cw (a_ (aa rfl) a15) (Pl Q (by rw[Bz];exact aw (bw I (by decide))))) aA) (GU L (by(rw[aq _,cP]);exact aw (dq (dM hk hr) (by decide))))) ?_
   rw[Bz]
   have Po:(((iO G k).set (1+lhs G k) (cN (sel (jb G k) (lhs G k)++ [k]))).set (1+nS G+1) (cN ((List.range k).map (off G)++ [off G k])))[1+nS G+2]?=S (cN (nP G k)):=by refine Zrr (dG (q9)) ?_;exact Q
   have agJ:ef (((iO G k).set (1+lhs G k) (cN (sel (jb G k) (lhs G k)++ [k]))).set (1+nS G+1) (cN ((List.range k).map (off G)++ [off G k]))) (.ref 0) 15=S (.ref (1+nS G+2)):=by rw[n5 1 (lhs G k),EW 1 (nS G) 1,(n5 (1+1)) _];rfl
   have e2:∀σ,cB σ .len (.v (.tup ((rhs G k).map nV)))=S (.val (nV (rhs G k).length)):=λσ=>eC (congrArg S (aq _)) (aw (bw hl (by decide)))
   refine fH (d9 (a_ (aa rfl) agJ) (gz Po) (aj (b_ (fU (xs:= [.v (nV k)]) (vs:= [nV k]) (aj (a_ (aa rfl) NA) aA) (aw (by simp)) rfl) (b_ (cw (a_ (aa rfl) xQ) (e2 _)) aP (@nu _ 1)) (agH (aw (q5 hl)))) aA) (agF Po (by(rw[Bz,AO]);exact aw (Q9 hl I)))) (bo (kq (u _) (agD w hk)))
 . intro U
   rw[cP]
   have o:=vg (G:=G) (k:=nR G) (i:=2)
   have I:=w.Pm (bb _)
   have eo:nP G (nR G)=ma G:=by rewrite[nP,nR];rw[Pp];rfl
   refine dW (cw (a_ (aa rfl) rfl) (Pl o (by rw[Bz];exact aw (bw I (by decide))))) (aa rfl) rfl (bo ?_)
   rw[eo]
   have go:=vg (G:=G) (k:=nR G) (i:=0)
   have y:=vg (G:=G) (k:=nR G) (i:=1)
   have q:=λs=>Pj (G:=G) (k:=nR G) (s:=s)
   rw[eo]at o
   generalize hH:iO G (nR G)=H at go y o q
   refine tN (Gz (A:=Nat) (B:=Unit) (g:=fz 6) (λs=>X.ref (1+s)) (λs=>V.lst ((fu G s).map nV))
    (λl σ=>l.Nodup/\(∀s∈l,s<nS G/\σ[1+s]?=S (cN (fu G s)))/\σ[1+nS G+1]?=S (cN ((List.range (nR G)).map (off G)))/\σ[1+nS G+2]?=S (cN (ma G)))
    (λa rest σ zq=>mB zq λh1 h2 h3 h4=>by
     have ha:=h2 a cT
     refine⟨_,(oP ha.2).trans (bP (xF _ _ _)),(kB.mp h1).2,λs b=> ?_,?_,?_⟩
     . have:s≠a:=λe=>(kB.mp h1).1 (e▸b)
       have hb:=h2 s (dA _ b)
       exact⟨hb.1,by refine Zrr (dG (by lia)) ?_;exact hb.2⟩
     . refine Zrr (dG (Q_ ha)) ?_;exact h3
     . refine Zrr (dG (Ra ha)) ?_;exact h4) (List.range (nS G)) (((H.set 0 (.obj 1 (lO 16 (.v (nV (ma G).length)) (GR G)))).set 0 .dead).set (1+nS G) .dead) ⟨F6,λs b=>by
     have b:=gw.mp b
     refine⟨b,?_⟩
     refine Zrr (dG (Rb b)) ?_;refine Zrr (dG (q2)) ?_;refine Zrr (dG (q2)) ?_;rw[q s b,Ph];rfl,by refine Zrr (dG (Rd)) ?_;refine Zrr (dG (HJ)) ?_;refine Zrr (dG (HJ)) ?_;exact y,by refine Zrr (dG (Rf)) ?_;refine Zrr (dG (HK)) ?_;refine Zrr (dG (HK)) ?_;exact o⟩) λaf m1 _ _ L Q=> ?_
   refine⟨_,(oP (c:= .obj 1 (lO 16 (.v (nV (ma G).length)) (GR G))) (om (by rw[hH.symm];exact eN _))).trans (bP (a:=([(7,.lst (G.fI.map .str)),(8,nV G.nT),(9,.lst ((List.range (nR G)).map (fJ G))),(10,.aU .str []),(11,.none),(12,nV (G.nT+1)),
    (13,.lst ((List.range (nS G)).map λx=> .lst ((fu G x).map nV))),(14,.lst ((List.range (nR G)).map λr=>nV (off G r))),(15,.lst ((ma G).map nV)),(16,nV (ma G).length)],(af.set (1+nS G+1) .dead).set (1+nS G+2) .dead)) ?_)⟩
   refine iM (jX _ _ _) (iM (jX _ _ _) (iM (jX _ _ _) (iM (jX _ _ _) (iM (jX _ _ _) (iM (jX _ _ _) (iM (a:= .lst ((List.range (nS G)).map λx=> .lst ((fu G x).map nV))) (Pn ?_ m1) (iM (a:= .lst ((List.range (nR G)).map λr=>nV (off G r))) ?_ (iM (a:= .lst ((ma G).map nV)) (Pn ?_ (xF _ _ _)) (iM (jX _ _ _) rfl)))))))))
   . refine Zrr (dG (q2)) ?_;refine Zrr (dG (q2)) ?_;exact go
   . refine((oP L).trans (bP (xF _ _ _))).trans ?_
     rw[b5];rfl
   . refine Zrr (dG (q9)) ?_;exact Q
def jv (c:Cell):Prop:=∃a b:Int,0<=a/\0<=b/\c= .lst [.v (.int a),.v (.int b)]
noncomputable def NM (n:Nat):List (List Nat):= [[83],[84],[85]].take n
noncomputable def AB:List (List Nat):= [[97],[98]]
noncomputable def gU (p:List Nat×List (List Nat)):V:= .tup [.str p.1,.tup (p.2.map .str)]
abbrev Ps:=List (List Nat×List (List Nat))
structure Dr (n:Nat)(ps:List (List Nat×List (List Nat))):Prop where
 n1:1<=n
 n3:n<=3
 parts:∃base more,ps=base++more/\base.map (·.1)=NM n/\(∀p∈base,p.2.length<=2/\∀s∈p.2,s∈AB)/\∀p∈more,p.1∈NM n/\p.2.length<=3/\∀s∈p.2,s∈NM n++AB++NM n
 len:ps.length<=6
theorem Pq {x y z}(h:σ[p]?=S (.lst [x,y])):mM σ (.ref p) (.int 0) z=S (σ.set p (.lst [z,y])):=xJ h (eN _) (aw (by simp))
theorem agK {x y z}(h:σ[p]?=S (.lst [x,y])):mM σ (.ref p) (.int 1) z=S (σ.set p (.lst [x,z])):=xJ h (iQ 1) (aw (by simp))
theorem GW (h:σ[p]?=S (.lst [x,y])):b4 σ (.ref p) (.int 0)=S x:=lx h (aw (by simp)) rfl
theorem Pr {x y}(h:σ[p]?=S (.lst [x,y])):b4 σ (.ref p) (.int 1)=S y:=lx h (aw (by simp)) rfl
theorem set_same (h:σ[p]?=S c):σ.set p c=σ:=by
 refine gQ λi=> ?_
 rw[rJ]
 by_cases e:p=i
 . subst e;rw[if_pos rfl,if_pos (dB h),h];rfl
 . rw[if_neg e];rfl
theorem GX (h:a.natAbs<2^62\/b.natAbs<2^62):cV .mul (.int a) (.int b)=S (.int (a*b)):=congrArg (Option.map _) (b9 h)
theorem yg {c}(L:jv c)(o:σ[p]?=S c)(r:0<m)(y:m<1000)(Q:1<=D):∃d k,d<m/\jv k/\(aQ prog D).call 44 [.ref p,.v (nV m)] σ=S (.v (nV d),σ.set p k):=by
 refine bp L λa b ha hb O=> ?_;subst O
 refine dh (Fh (f:=44) (ρ:= [S (.ref p),S (.v (nV m)),J]) (as:= [.ref p,.v (nV m)])
  (K:=λx H=>∃d k,d<m/\jv k/\x= .v (nV d)/\H=σ.set p k) Q rfl rfl rfl (λT U=>by
  have hl:=dB o
  refine td (λZ=>∀a b,0<=a->0<=b->Z [S (.ref p),S (.v (nV m)),J] (σ.set p (.lst [.v (.int a),.v (.int b)]))) (br (bu (aa rfl) aP (GW o)) aP aeD) (λZ u q=> ?_) (λZ u q=> ?_) ?_
  . have s1:(σ.set p (.lst [.v (.int a),.v (.int (b+1))]))[p]?=S (.lst [.v (.int a),.v (.int (b+1))]):=om hl
    refine jU (b_ (bu (aa rfl) aP (Pr o)) aP rfl) (aa rfl) aP (agK o) (jU (b_ (b_ aP (bu (aa rfl) aP (Pr s1)) (GX (.inl (by decide)))) aP rfl) (aa rfl) aP (Pq s1) (bo (kq (u (1009* (b+1)+5419) (b+1) (Pt (Int.mul_nonneg (by decide) (Pt hb (by decide))) (by decide)) (Pt hb (by decide))) (by simp))))
  . exact bo (kq (u a b ha hb) (set_same o).symm)
  exact λa b ha hb=>have s1:(σ.set p (.lst [.v (.int a),.v (.int b)]))[p]?=S (.lst [.v (.int a),.v (.int b)]):=om hl;bz (b_ (bu (aa rfl) aP (GW s1)) (aa rfl) (by
   refine(congrArg (Option.map V.int) (b9 ⟨vR.mpr r,vR.mpr (gh y (by decide))⟩)).trans (congrArg S (congrArg V.int (Zrr (Int.fmod_eq_emod_of_nonneg _ (mY _)) ?_)));rw[Int.natCast_emod _ _,Y3 ha];rfl)) (jU (b_ (bu (aa rfl) aP (GW s1)) (aa rfl) (by
   exact congrArg (Option.map V.int) (b9 ⟨vR.mpr r,vR.mpr (gh y (by decide))⟩))) (aa rfl) aP (Pq s1) (cb (aa rfl) (U ⟨a.toNat%m,_,Nat.mod_lt _ r,⟨a.fdiv m,b,Zrr (W5 _ (mY _)) Int.ediv_nonneg ha (mY _),hb,rfl⟩,rfl,by simp⟩))))) λx H h I=>o9 I λd k Y hO O ax=> ?_;clear I;subst O;subst ax
 exact⟨d,k,Y,hO,h⟩
theorem agL {c}{xs}(u:jv c)(y:σ[p]?=S c)(H:0<xs.length)(k:xs.length<1000)(o:2<=D):∃x b,x∈xs/\jv b/\(aQ prog D).call 45 [.ref p,.v (.lst xs)] σ=S (.v x,σ.set p b):=by
 refine bp (yg u y H k (dJ o)) λd b q I hr=> ?_
 obtain ⟨a,ha⟩:∃a,xs[d]?=S a:=⟨_,du q⟩
 refine bp (AH (f:=45) (ρ:= [S _,S _]) (as:= [.ref p,.v _])
  (K:=λx r=>x= .v a/\r=σ.set p b) (dE o) rfl rfl rfl (have L:=eC rfl (aw (dq k (by decide)));cb (bu (aa rfl) (c6 (aj (aa rfl) (aj (cw (aa rfl) L) aA)) hr) (jq (aw (dq (dq q k) (by decide))) ha)) ⟨rfl,rfl⟩)) λx r h O Q=> ?_;subst O;subst Q
 exact⟨a,b,eY ha,I,h⟩
theorem picks {xs:List _}(h1:0<xs.length)(h2:xs.length<1000){f:V->Hp->Option (X×Hp)}
 (hf:∀a c σ,jv c->σ[p]?=S c->∃x b,x∈xs/\jv b/\f a σ=S (.v (.str x),σ.set p b)):
 ∀(q:List V) (c:Cell) (σ:Hp),jv c->σ[p]?=S c->∃(k:List _) (b:Cell),k.length=q.length/\(∀y∈k,y∈xs)/\jv b/\mO f q σ=S ((k.map .str).map .v,σ.set p b):=by
 intro H
 induction H with
 |nil=>
  exact λc σ r o=>⟨[],c,rfl,(λ_ h=>nomatch h),r,by
   rw[set_same o];rfl⟩
 |cons a q I=>
  refine λc σ r o=>bp (hf a c σ r o) λx L hx O Q=>o9 (I L _ O (om (dB o))) λk U hl hm Y u=>⟨_,U,by rw[jG,hl];rfl,λy hy=>(cy.mp hy).elim (λe=>e▸hx) (hm y),Y,?_⟩
  rw[lX]at u
  exact aJ Q (bP u)
theorem GY {xs:List _}(u:0<xs.length)(y:xs.length<1000)(b:2<=D){c}(k:jv c)(o:σ[p]?=S c):∃x a,x∈xs/\jv a/\(aQ prog D).call 45 [.ref p,.v (.lst (xs.map .str))] σ=S (.v (.str x),σ.set p a):=by
 refine bp (agL k o (xs:=xs.map .str) (by rw[aq _];assumption) (by rw[aq _];assumption) b) λx a hx q e=>ah (bY.mp hx) λs r O=> ?_;subst O
 exact⟨s,a,r,q,e⟩
theorem agM {ns:List _}(hn:ns.length<=63)(q:1<=D):∃c,jv c/\(aQ prog D).call 43 [.v (.lst (ns.map .int))] []=S (.ref 0,[c]):=by
 refine dh (Fh (f:=43) (as:= [.v _]) (σ:= [])
  (K:=λx k=>∃c,jv c/\x= .ref 0/\k= [c]) q rfl rfl rfl λT r=>bz aP (d_ _ ns (λ_ Z=>∀a j,0<=a->Z [S (.v (.lst (ns.map .int))),S (.v (.int a)),j] []) (c7 (pO (aa rfl) aP (by
   refine(b9 (aw (by rw[aq _];exact bw hn (by decide)))).trans ?_
   rewrite[gb];rfl
   rw[aq _]
   show ns.length<=min 63 _
   exact UB hn)) rfl) (λZ b=>b 7 _ (by simp)) (λdone n rest Z b I a j ha=>have u:cB [] .abs (.v (.int n))=S _:=rfl;bt rfl (bz (b_ (b_ (b_ (aa rfl) aP (GX (.inr (by simp)))) (b_ aP (cw (cw (aa rfl) rfl) u) (GX (.inl (by simp)))) rfl) (cw (br (aa rfl) aP rfl) rfl) rfl) (bo (b _ _ (by lia))))) λa j ha=>cb (iH (aj (aa rfl) (aj aP aA)) (aw (by simp))) (r ⟨_,⟨a,0,ha,by decide,rfl⟩,rfl,rfl⟩))) λx k h o=>cD o λc y O H=> ?_;clear o;subst O;subst H
 exact⟨c,y,h⟩
theorem Pu {a:List _}(h:a.length<1000):(a.map gU).length<aE:=by rw[aq _];exact aw (dq h (by decide))
theorem Pw {a:List _}(h:a.length<1000):cB σ .tuple (.v (.lst (a.map .str)))=S (.val (.tup (a.map .str))):=xK (by rw[aq _];exact aw (dq h (by decide)))
theorem agN {c:Cell}(hc:jv c)(hD:3<=D):∃n y b,Dr n y/\(aQ prog D).call 46 [.ref 0] [c]=S (.ref 1,[b,cL (y.map gU)]):=by
 have H:=dJ hD
 ((refine dh (Fh (f:=46) (as:= [.ref 0])
  (K:=λx U=>∃n y b,Dr n y/\x= .ref 1/\U= [b,cL (y.map gU)]) (dE hD) rfl rfl rfl (λT hT=>by
  refine bp (yg (σ:= [c]) (p:=0) (m:=3) hc rfl (by decide) (by decide) (ba (by decide) H)) λd c1 hd wG e1=> ?_
  have hn:∃n,1<=n/\n<=3/\cV .add (.int 1) (nV d)=S (nV n)/\mJ (.lst [.str [83],.str [84],.str [85]]) (nV n)=S (.lst ((NM n).map .str))/\(NM n).length=n:=by
   have:d=0\/d=1\/d=2:=(by decide:∀d,d<3->d=0\/d=1\/d=2) d hd
   rcases this with rfl|rfl|rfl
   . exact⟨1,by decide,by decide,rfl,rfl,rfl⟩
   . exact⟨2,by decide,by decide,rfl,rfl,rfl⟩
   . exact⟨3,by decide,by decide,rfl,rfl,rfl⟩
  refine tN hn λn m_ o b1 s1 r=> ?_;clear hn
  refine bz (pO (fU (aj aP (aj aP (aj aP aA))) (aw (by simp)) rfl) (b_ aP (c6 (aj (aa rfl) (aj aP aA)) e1) b1) s1) ?_
  refine bz (iH aA (aw (eN _))) ?_
  refine d_ V.str (NM n) (λdone Z=>∀(base:Ps) (b:Cell) (I:Option X),base.map (·.1)=done->(∀p∈base,p.2.length<=2/\∀s∈p.2,s∈AB)->jv b->Z [S (.ref 0),S (.v (.lst ((NM n).map .str))),S (.ref 1),I,J,J,J,J] [b,cL (base.map gU)]) (c7 (aa rfl) rfl) ?_ ?_ ?_
  . intro Z L
    exact L [] c1 _ rfl (λ_ h=>(nomatch h)) wG
  . intro done s rest Z L hsp base Q I hb qW Y
    have BB:base.length<=3:=by
     have h1:=congrArg List.length hb
     have h2:=congrArg List.length hsp
     rw[aq]at h1
     rw[aY,r]at h2
     exact ba (aK h1) (ba (dH ..) (ba (aK h2.symm) o))
    refine bp (yg (σ:= [Q,cL (base.map gU)]) (p:=0) (m:=3) Y rfl (by decide) (by decide) (ba (by decide) H)) λd2 c3 u yh e2=> ?_
    refine o9 (picks (p:=0) (xs:=AB) (by decide) (by decide) (f:=λa U=>(bV (.one 6) a [S (.ref 0),S (.v (.lst ((NM n).map .str))),S (.ref 1),S (.v (.str s)),J,J,J,J]).bind λρ'=>az (aQ prog (D - 1)) (.call 45 (.cons (.var 0) (.cons (.lst ae (.cons (.cst (.str [97])) (.cons (.cst (.str [98])) .nil))) .nil))) ρ' U)
     (λa c σ hc k=>by
      refine bp (GY (D:=D - 1) (p:=0) (xs:=AB) (by decide) (by decide) H hc k) λx b hx hO e=> ?_
      exact⟨x,b,hx,hO,aJ (a:= [S (.ref 0),S (.v (.lst ((NM n).map .str))),S (.ref 1),S (.v (.str s)),J,J,S (.v a),J]) rfl (c6 (aj (aa rfl) (aj (fU (aj aP (aj aP aA)) (aw (by simp)) rfl) aA)) e)⟩)
     ((List.range d2).map nV) c3 [c3,cL (base.map gU)] yh rfl) λys c4 q GZ G0 e3=> ?_
    rw[aq,cP]at q
    refine bt rfl (fH (d9 (aa rfl) (gz rfl) (aj (eZ (xs:= [.v (.str s),.v (.tup (ys.map .str))]) (aj (aa rfl) (aj (cw (jm (pU (c6 (aj (aa rfl) (aj aP aA)) e2) (aw (dq u (by decide)))) e3 (by(rw[aq _,aq _,q]);exact aw (dq u (by decide))) (fV _)) (Pw (bw (aK q) (dq u (by decide))))) aA)) (aw (by simp)) rfl) aA) (i9 (l:=base.map gU) rfl (Pu (bw BB (by decide))))) (bo (kq (L (base++ [(s,ys)]) c4 _ ?_ ?_ G0) ?_)))
    . rw[bK,hb];rfl
    . intro p k
      rcases b8.mp k with k|k
      . exact qW p k
      . rw[dm.mp k]
        exact⟨ba (aK q) (fA u),GZ⟩
    . rw[bK];rfl
  . intro base Q I hb qW Y
    have BB:base.length=n:=by
     have h1:=congrArg List.length hb
     rwa[aq,r]at h1
    have bl:∀σ,cB σ .len (.v (.lst ((NM n).map .str)))=S (.val (nV n)):=λσ=>eC ((congrArg S (aq _)).trans (by(rw[r];rfl))) (aw (bw o (by decide)))
    have b6:cV .sub (.int 6) (nV n)=S (nV (6 - n)):=AI (a:=6) (bX (bw o (by decide)))
    refine bp (yg (D:=D - 1) (σ:= [Q,cL (base.map gU)]) (p:=0) (m:=6 - n) Y rfl (TZ o) (T3) (ba (by decide) H)) λd2 c3 u yh e2=> ?_
    have b7:cV .add (.int 1) (nV d2)=S (nV (1+d2)):=nu (a:=1)
    refine uY nV (1+d2) (λi Z=>∀(more:Ps) (b:Cell) (I:Option X) (j4:Option X) (j5:Option X),more.length=i->(∀p∈more,p.1∈NM n/\p.2.length<=3/\∀s∈p.2,s∈NM n++AB++NM n)->jv b->Z [S (.ref 0),S (.v (.lst ((NM n).map .str))),S (.ref 1),I,j4,j5,J,J] [b,cL ((base++more).map gU)])
     (pU (b_ aP (c6 (aj (aa rfl) (aj (b_ aP (cw (aa rfl) (bl _)) b6) aA)) e2) b7) (aw (T4 u))) ?_ ?_ ?_
    . intro Z L
      exact kq (L [] c3 _ _ _ rfl (λ_ h=>(nomatch h)) yh) (by rw[dg _];rfl)
    . intro i Z L hi more Q I j4 j5 oY G1 Y
      refine bp (GY (D:=D - 1) (σ:= [Q,cL ((base++more).map gU)]) (p:=0) (xs:=NM n) (T5 m_ r) (bw (hC (aK r) o) (by decide)) H Y rfl) λs c3 hs yh e3=> ?_
      refine bp (yg (D:=D - 1) (σ:= [c3,cL ((base++more).map gU)]) (p:=0) (m:=4) yh rfl (by decide) (by decide) (ba (by decide) H)) λm c4 hm G0 e4=> ?_
      refine bt rfl (AG (aj (c6 (aj (aa rfl) (aj (aa rfl) aA)) e3) (aj (c6 (aj (aa rfl) (aj aP aA)) e4) aA)) rfl ?_)
      generalize jw:nV m=mv
      generalize hiv:nV i=iv
      have ll:(NM n++AB++NM n).length=n+2+n:=by rw[aY,aY,r];rfl
      have a1:cV .add (.lst ((NM n).map .str)) (.lst [.str [97],.str [98]])=S (.lst ((NM n++AB).map .str)):=by
       refine Zrr (ny (by(rw[aq _,r]);exact aw (by show n+2<_;exact HS o))) ?_;rw[bK];rfl
      have a2:cV .add (.lst ((NM n++AB).map .str)) (.lst ((NM n).map .str))=S (.lst ((NM n++AB++NM n).map .str)):=by
       refine Zrr (ny (by(rw[aq _,aq _,aY,r]);exact aw (by show n+2+n<_;exact T6 o))) ?_;rw[bK (l₂:=NM n)];rfl
      refine o9 (picks (p:=0) (xs:=NM n++AB++NM n) (H3 ll) (H4 o ll) (f:=λa U=>(bV (.one 7) a [S (.ref 0),S (.v (.lst ((NM n).map .str))),S (.ref 1),S (.v (.str s)),S (.v iv),S (.v mv),J,J]).bind λρ'=>az (aQ prog (D - 1)) (.call 45 (.cons (.var 0) (.cons (.bin ae .add (.bin ae .add (.var 1) (.lst ae (.cons (.cst (.str [97])) (.cons (.cst (.str [98])) .nil)))) (.var 1)) .nil))) ρ' U)
       (λa c σ hc k=>by
        refine bp (GY (D:=D - 1) (p:=0) (xs:=NM n++AB++NM n) (H3 ll) (H4 o ll) H hc k) λx b hx hO e=> ?_
        exact⟨x,b,hx,hO,aJ (a:= [S (.ref 0),S (.v (.lst ((NM n).map .str))),S (.ref 1),S (.v (.str s)),S (.v iv),S (.v mv),J,S (.v a)]) rfl (c6 (aj (aa rfl) (aj (b_ (b_ (aa rfl) (fU (aj aP (aj aP aA)) (aw (by simp)) rfl) a1) (aa rfl) a2) aA)) e)⟩)
       ((List.range m).map nV) c4 [c4,cL ((base++more).map gU)] G0 rfl) λys c5 q GZ hc5 e5=> ?_
      rw[aq,cP]at q
      refine fH (d9 (aa rfl) (gz rfl) (aj (eZ (xs:= [.v (.str s),.v (.tup (ys.map .str))]) (aj (aa rfl) (aj (cw (jm (pU (n:=m) (aa (by rw[jw];rfl)) (aw (dq hm (by decide)))) e5 (by(rw[aq _,aq _,q]);exact aw (dq hm (by decide))) (fV _)) (Pw (bw (aK q) (dq hm (by decide))))) aA)) (aw (by simp)) rfl) aA) (i9 (l:=(base++more).map gU) rfl (Pu (by rw[aY];exact T7 BB u hi oY)))) (bo (kq (L (more++ [(s,ys)]) c5 _ _ _ ?_ ?_ hc5) ?_))
      . rw[aY,oY];rfl
      . intro p k
        rcases b8.mp k with k|k
        . exact G1 p k
        . rw[dm.mp k]
          exact⟨hs,ba (aK q) (fA hm),GZ⟩
      . rw[(bM _ _ _).symm,(bK (l₁:=base++more))];rfl
    . intro more Q I j4 j5 oY G1 Y
      exact cb (aa rfl) (hT ⟨n,base++more,Q,⟨m_,o,⟨base,more,rfl,hb,qW,G1⟩,by rw[aY];exact T8 BB u oY⟩,rfl,rfl⟩))) λx U h aF=> ?_;refine yA aF λn y b hd O ax=> ?_;clear aF);obtain rfl:=O;obtain rfl:=ax)
 exact⟨n,y,b,hd,h⟩
noncomputable def fN (acc:List (List Nat))(x:List Nat):List (List Nat):=if x∈acc then acc else acc++ [x]
def vh (n:Nat)(acc:List (List Nat))(x:List Nat):List (List Nat):=if x∉NM n/\x∉acc then acc++ [x]else acc
noncomputable def dR:List (List Nat):= [[36,101,110,100],[101,114,114,111,114],[36,117,110,100,101,102,105,110,101,100]]
noncomputable def nQ:List Nat:= [36,97,99,99,101,112,116]
def cC (n:Nat)(l:List (List Nat)):List (List Nat):=l.foldl (vh n) dR
noncomputable def flat (a:Ps):List (List Nat):=a.flatMap (·.2)
def cA (n:Nat)(t:List (List Nat)):List (List Nat):=t++ [nQ]++NM n
def cm (n:Nat)(a:Ps):Gm:=⟨cA n (cC n (flat a)),(cC n (flat a)).length,((cC n (flat a)).length,[(cC n (flat a)).length+1,0])::a.map λp=>((cA n (cC n (flat a))).idxOf p.1,p.2.map (cA n (cC n (flat a))).idxOf)⟩
theorem Px:∀(l:List _) (c:List _),(∀x∈l,x∈NM n\/x∈AB)->c.Nodup->(∀x∈c,x∈AB)->(∀x∈AB,x∉NM n/\x∉dR)->
 ∃o,l.foldl (vh n) (dR++c)=dR++o/\o.Nodup/\(∀x∈o,x∈AB)/\(∀x∈c,x∈o)/\∀x∈l,x∈NM n\/x∈o:=by
 intro l0
 induction l0 with
 |nil=>
  exact λc _ u H _=>⟨c,rfl,u,H,λ_ h=>h,λ_ h=>nomatch h⟩
 |cons x l Y=>
  intro c h1 u H I
  have hx:=h1 x cT
  have hl:=λy k=>h1 y (dA _ k)
  rw[kW];rewrite[vh]
  by_cases q:x∉NM n/\x∉dR++c
  . rw[if_pos q];exact Zrr (bM _ _ _) (have xa:=hx.resolve_left q.1;tN (Y _ hl (qL.mpr ⟨u,by simp,λa ha b hb e=>q.2 (ik _ (by rw[dm.mp hb]at e;rw[e.symm];assumption))⟩) (λy k=>(b8.mp k).elim (H y) λh=>by rw[dm.mp h];assumption) I) λo L O Q r U=>⟨_,L,O,Q,λy k=>r y (fh _ k),λy k=>(cy.mp k).elim (λe=> .inr (r y (by rw[e];simp))) (U y)⟩)
  . refine Zrr (if_neg q) (tN (Y c hl u H I) λo L O Q r U=>⟨_,L,O,Q,r,λy k=>(cy.mp k).elim (λe=> ?_) (U y)⟩)
    subst e
    exact hx.elim .inl λhx=>have:=I y hx;.inr (r y (ylH λz=>q ⟨this.1,λw=>(b8.mp w).elim this.2 z⟩))
theorem agO (h:ts.Nodup)(a:∀x∈ts,x∈AB):ts= []\/ts= [[97]]\/ts= [[98]]\/ts= [[97],[98]]\/ts= [[98],[97]]:=by
 have hl:=nE h a
 have m:=λx hx=>by simpa [AB]using a x hx
 match ts,h,hl,m with
 | [],_,_,_=>exact .inl rfl
 | [x],_,_,m=>
  rcases m x (by simp)with rfl|rfl<;>simp
 | [x,y],h,_,m=>
  rcases m x (by simp)with rfl|rfl<;>rcases m y (by simp)with rfl|rfl<;>simp at h ⊢
 |_::_::_::_,_,hl,_=>exact absurd hl (by simp[AB])
structure Py (n:Nat)(t:List (List Nat)):Prop where
 nd:(cA n t).Nodup
 ok:∀s∈cA n t,mI s=ab/\s.length<=10
 big:(cA n t).length<=9
 n0:(cA n t)[0]?=S [36,101,110,100]
 n1:(cA n t)[1]?=S [101,114,114,111,114]
 nA:(cA n t)[t.length]?=S nQ
 nB:(cA n t)[t.length+1]?=S [83]
 tT:3<=t.length
 left:∀s∈NM n,t.length<(cA n t).idxOf s/\(cA n t).idxOf s<(cA n t).length
 low:∀s∈t,s∉dR->1<(cA n t).idxOf s/\(cA n t).idxOf s<t.length
 all:∀j,j<n->∃s,(NM n)[j]?=S s/\(cA n t).idxOf s=t.length+1+j
 len:(cA n t).length=t.length+1+n
theorem le3 {n:Nat}(a:1<=n)(b:n<=3):n=1\/n=2\/n=3:=(by decide:∀n,n<4->1<=n->n=1\/n=2\/n=3) n (pH b) a
theorem agP (o:1<=n)(q:n<=3){a}(h:a= []\/a= [[97]]\/a= [[98]]\/a= [[97],[98]]\/a= [[98],[97]]):Py n (dR++a):=by
 have hn:n=1\/n=2\/n=3:=le3 o q
 refine QB ((by decide+kernel:∀n∈ [1,2,3],∀a∈ [[],[[97]],[[98]],[[97],[98]],[[98],[97]]],(cA n (dR++a)).Nodup/\(∀s∈cA n (dR++a),s.all (λc=>decide (c<55296))=ab/\s.length<=10)/\(cA n (dR++a)).length<=9/\
  (cA n (dR++a))[0]?=S _/\(cA n (dR++a))[1]?=S _/\(cA n (dR++a))[(dR++a).length]?=S _/\(cA n (dR++a))[(dR++a).length+1]?=S _/\3<=(dR++a).length/\
  (∀s∈NM n,(dR++a).length<(cA n (dR++a)).idxOf s/\(cA n (dR++a)).idxOf s<(cA n (dR++a)).length)/\(∀s∈dR++a,s∉dR->1<(cA n (dR++a)).idxOf s/\(cA n (dR++a)).idxOf s<(dR++a).length)/\
  (∀j,j<n->(NM n)[j]?=S ((NM n).getD j [])/\(cA n (dR++a)).idxOf ((NM n).getD j [])=(dR++a).length+1+j)/\(cA n (dR++a)).length=(dR++a).length+1+n) n (by simp;assumption) a (by simp;exact h)) λr b u x y H I L O Q U Y=>⟨r,λs k=>⟨?_,(b s k).2⟩,u,x,y,H,I,L,O,Q,λj hj=>⟨_,U j hj⟩,Y⟩
 have:=b s k
 exact Zrr (fZ _ _) ⟨decide_eq_true (aw (bw this.2 (by decide))),this.1⟩
theorem Dr.syms {b:Ps}(d:Dr n b):(∀p∈b,p.1∈NM n/\p.2.length<=3)/\∀x∈flat b,x∈NM n\/x∈AB:=by
 refine o9 d.parts λbase more O o k c=> ?_;subst O
 exact⟨λp a=>(b8.mp a).elim (λa=>⟨o▸bY.mpr ⟨p,a,rfl⟩,by have:=(k p a).1;exact k9 ‹_›⟩) λa=>⟨(c p a).1,(c p a).2.1⟩,λx hx=>ah (oS.mp hx) λp a hx=>(b8.mp a).elim (λa=> .inr ((k p a).2 x hx)) λa=>have:=(c p a).2.2 x hx;(b8.mp this).elim b8.mp .inl⟩
theorem BC:∀x∈AB,x∉NM n/\x∉dR:=by
 refine λx hx=>⟨λh=> ?_,?_⟩
 . have:=oF h
   simp[AB]at hx
   rcases hx with rfl|rfl<;>simp at this
 . revert x;decide
theorem Dr.names {a:Ps}(d:Dr n a):Py n (cC n (flat a))/\∀x∈flat a,x∈NM n\/x∈cC n (flat a)/\x∉dR:=tN (Px _ [] d.syms.2 Bj (λ_ h=>nomatch h) BC) λc k o b _ q=>Zrr (by rw[k.symm];rfl:cC n _=dR++c) ⟨agP d.n1 d.n3 (agO o b),λx hx=>(q x hx).imp id λh=>⟨ik _ h,(BC (n:=n) x (b x h)).2⟩⟩
theorem G2 {n}{a:Ps}(d:Dr n a):WF (cm n a):=by
 refine au d.names λk hx=> ?_
 have hs:=d.syms
 have rl:∀r,0<r->r<nR (cm n a)->∃p∈a,lhs (cm n a) r=(cA n (cC n (flat a))).idxOf p.1/\rhs (cm n a) r=p.2.map (cA n (cC n (flat a))).idxOf:=λr h0 hr=>by
  obtain ⟨r,rfl⟩:∃r',r=r'+1:=⟨r - 1,(HM h0)⟩
  have h:=nC hr
  have ie:r<a.length:=by
   have:nR (cm n a)=a.length+1:=by show(_::_).length=_;simp
   exact RF hr this
  have e:(cm n a).rs[r+1]?=(a.map λp=>((cA n (cC n (flat a))).idxOf p.1,p.2.map (cA n (cC n (flat a))).idxOf))[r]?:=rfl
  rw[h,bx,du ie,uc]at e
  have e:=je e
  exact⟨a[r],wU ie,congrArg Prod.fst e,congrArg Prod.snd e⟩
 refine⟨k.nd,k.ok,k.big,k.n0,k.n1,k.nA,k.nB,k.tT,rfl,?_,?_,?_⟩
 . intro r h0 hr
   refine cD (rl r h0 hr) λp H e1 c=> ?_
   have b:=k.left p.1 (hs.1 p H).1
   refine⟨e1▸b.1,e1▸b.2,by rw[c,aq _];exact(hs.1 p H).2,?_⟩
   intro x o
   rw[c]at o
   (refine ah (bY.mp o) λs u O=> ?_;obtain rfl:=O)
   show _<(cA n (cC n (flat a))).length/\_/\_/\_≠ (cC n (flat a)).length
   have tT:=k.tT
   rcases hx s (oS.mpr ⟨p,H,u⟩)with h|h
   . have:=k.left s h
     exact RG tT this
   . have:=k.low s h.1 h.2
     have:=k.len
     exact RH b ‹_›
 . have:nR (cm n a)=a.length+1:=by show(_::_).length=_;simp
   have:=d.len
   exact RJ ‹_› this
 . intro A b I
   refine o9 d.parts λbase more e hb L _=> ?_
   have hA:A - (cC n (flat a)).length - 1<n:=by
    have I:A<(cA n (cC n (flat a))).length:=I
    have b:(cC n (flat a)).length<A:=b
    have:=k.len
    exact RK I b this
   refine ah (k.all _ hA) λs Pz pG=> ?_
   rw[<-hb,bx]at Pz
   refine gY Pz λp Q BD=> ?_
   have hj:=dB Q
   have q:∀j,base[j]?=S p->a[j]?=S p:=λj h=>by rw[e,eR (dB h),h];rfl
   have q:=q _ Q
   have hr:A - (cC n (flat a)).length - 1+1<nR (cm n a):=by
    have:nR (cm n a)=a.length+1:=by show(_::_).length=_;simp
    have:=dB q
    exact RL ‹_› this
   refine⟨_,hr,?_⟩
   have h:=nC hr
   have c:(cm n a).rs[A - (cC n (flat a)).length - 1+1]?=(a.map λp=>((cA n (cC n (flat a))).idxOf p.1,p.2.map (cA n (cC n (flat a))).idxOf))[A - (cC n (flat a)).length - 1]?:=rfl
   rw[h,bx,q,uc]at c
   have c:=je c
   have f1:=congrArg Prod.fst c
   have f2:=congrArg Prod.snd c
   dsimp only at f1 f2
   have b:(cC n (flat a)).length<A:=b
   refine⟨by(rw[f1,BD,pG]);exact RM b,λx o=> ?_⟩
   rw[f2]at o
   (refine ah (bY.mp o) λy u O=> ?_;obtain rfl:=O)
   have U:=eY Q
   have Y:=(L p U).2 y u
   have yb:=eY q
   rcases hx y (oS.mpr ⟨p,yb,u⟩)with h|h
   . exact absurd h (BC y Y).1
   . exact(k.low y h.1 h.2).2
theorem PA (h:s∈cA n (cC n (flat a))):nm (cm n a) ((cA n (cC n (flat a))).idxOf s)=s:=by
 show(cA n _).getD _ []=s
 rewrite[List.getD];rw[du (NX h),NY _];rfl
theorem BE {l:List _}(hx:mI x=ab)(hl:∀s∈l,mI s=ab):mK (.str x) (l.map .str)=S (decide (x∈l)):=by
 refine(b9 ⟨hx,by
  rw[nD,propext cF];exact hl⟩).trans (congrArg _ ?_)
 rw[qG,yS,propext Ak,decide_eq_true_eq]
 constructor
 . intro O;refine ah O λy a h=> ?_;have h:decide _=true:=h
   rw[(of_decide_eq_true h).symm];assumption
 exact λh=>⟨x,h,decide_eq_true rfl⟩
theorem PB (hr:σ[r]?=S (cL l)):n8 σ x (.ref r)=mK x l:=aJ hr (aJ (fV l) rfl)
theorem G3 {l:List _}(hx:x∈l)(hl:l.length<1000):gK σ .index (.v (.lst (l.map .str))) [.v (.str x)]=S (.v (nV (l.idxOf x)),σ):=bP ((b9 ⟨rfl,H_,by rw[aq _];exact aw (dq hl (by decide))⟩).trans (by
 have hlt:=NX hx
 refine Zrr (propext Kx) ⟨by rw[aq _];assumption,?_,?_⟩
 . rw[AV _,eq_str _ _,NY _,decide_eq_true_eq];rfl
 . intro j a
   rw[AV _,eq_str _ _,decide_eq_true_eq]
   intro e
   have:=List.not_of_lt_findIdx a
   simp[e]at this))
noncomputable def km (p:List Nat×List (List Nat)):V:= .tup [.str p.1,.lst (p.2.map .str)]
def o4 (l:List (List Nat)):List (List Nat):=l.foldl fN []
theorem agQ:o4 (l++ [x])=fN (o4 l) x:=by rewrite[o4];rw[g8];rfl
theorem agR:∀(l acc:List _),(∀x∈l,x∈acc)->l.foldl fN acc=acc:=by
 intro a
 induction a with
 |nil=>
  exact λ_ _=>rfl
 |cons x l b=>
  intro acc h
  rw[kW];rewrite[fN];rw[if_pos (h x cT)];exact b _ λy c=>h y (dA _ c)
theorem Dr.agS {a:Ps}(d:Dr n a):o4 (a.map (·.1))=NM n:=by
 refine o9 d.parts λbase more O b _ c=> ?_;subst O
 rw[bK];rewrite[o4];rw[g8,b]
 show List.foldl _ (o4 _) _=_
 exact Zrr (by
  have b:=d.n1
  have c:=d.n3
  have:n=1\/n=2\/n=3:=by lia
  rcases this with rfl|rfl|rfl<;>rfl:o4 _=NM n) (agR _ _ λx hx=>by
  refine ah (bY.mp hx) λp k O=> ?_;subst O
  exact(c p k).1)
theorem agT {L:List _}:∀ {l acc:List _},(∀x∈l,x∈L)->(∀x∈acc,x∈L)->∀x∈l.foldl fN acc,x∈L:=by
 intro c
 induction c with
 |nil=>exact λ_ h=>h
 |cons y l k=>
  intro acc a b
  refine k (λx hx=>a x (dA _ hx)) λx hx=> ?_
  rw[fN]at hx
  split at hx
  . exact b x hx
  exact(b8.mp hx).elim (b x) λh=>dm.mp h▸a y cT
theorem agU {l acc:List _}:(l.foldl fN acc).length<=acc.length+l.length:=by
 induction l generalizing acc with
 |nil=>exact bb _
 |cons y l a=>
  have:=a (acc:=fN acc y)
  have:(fN acc y).length<=acc.length+1:=by rewrite[fN];split<;>simp
  rw[kW,jG];exact Sb ‹_› this
theorem vi:∀s∈NM n,mI s=true:=λs h=>by
 have:=by simpa using oF h
 rcases this with rfl|rfl|rfl<;>rfl
theorem agV (h:s∈NM n):cO σ .eq (.v (.str s)) (.v (.str [101,114,114,111,114]))=S ae/\mJ (.str s) (.int 1)=S (.str s)/\cO σ .isIn (.v (.str s)) (.v (.tup [.str [],.str [36],.str [39]]))=S false:=by
 have:=by simpa using oF h
 rcases this with rfl|rfl|rfl<;>exact⟨rfl,rfl,rfl⟩
theorem agW {n}{k:Ps}(d:Dr n k){r}{R}{Q}
 (H:∀a b,Do (aZ cl r [S (.v (.lst (k.map km))),S (.v .none),S (.ref 0),a,b,J,J,J,J,J,J,J] [cL ((NM n).map .str)]) Q R):
 Do (aZ cl (.cons (.set 2 (.lst ab .nil)) (.cons (.cq (.two 3 4) (.hE (.var 0)) Im) r)) [S (.v (.lst (k.map km))),S (.v .none),J,J,J,J,J,J,J,J,J,J] []) Q R:=by
 refine bz (iH aA (aw (eN _))) (d_ _ k (λdone Z=>∀a b,Z [S _,S _,S _,a,b,J,J,J,J,J,J,J] [cL ((o4 (done.map (·.1))).map .str)]) (oN (aa rfl)) (λZ c=>c _ _) ?_ ?_)
 . intro done p rest Z c o a b
   have u:=(d.syms.1 p (by rw[o];simp)).1
   refine dp (agV (σ:= [cL _]) u) λI L U=>bt rfl (gy (jT (br (aa rfl) aP I) (br (pO (aa rfl) aP L) (eZ (aj aP (aj aP (aj aP aA))) (aw (by simp)) rfl) U)) ?_)
   rw[bK,vb,agQ]at c
   refine jV (br (aa rfl) (aa rfl) (rL ((PB rfl).trans (BE (vi _ u) λs Y=>vi s ((agT (λx hx=>by
    refine ah (bY.mp hx) λq hq O=> ?_;subst O
    exact(d.syms.1 q (by rw[o];exact fh _ hq)).1) λ_ h=>nomatch h:∀x∈o4 _,x∈NM n) s Y))))) ?_ ?_ λ_ _ h=>bo h
   . intro q
     have q:=by simpa using q
     refine fH (d9 (aa rfl) (gz rfl) (aj (aa rfl) aA) (i9 rfl (by
     have y:=agU (l:=done.map (·.1)) (acc:= [])
     have h2:=d.len
     rw[o,aY]at h2
     rw[aq]at y
     rw[aq _];rewrite[o4]
     exact aw (by rw[List.length_nil]at y;lia)))) (bo (kq (c _ _) ?_))
     rewrite[fN];rw[if_neg q,bK];rfl
   . intro q
     have q:=by simpa using q
     refine bo (kq (c _ _) ?_)
     rewrite[fN];rw[if_pos q];rfl
 . intro a b
   exact Zrr d.agS (H _ _)
theorem agX:cC n (l++ [x])=vh n (cC n l) x:=by rewrite[cC];rw[g8];rfl
theorem PC {l}(h:∀x∈l,x∈NM n\/x∈AB):(cC n l).length<=5/\∀s∈cC n l,mI s=true:=by
 refine tN (Px l [] h Bj (λ_ h=>nomatch h) BC) λc k o b _ _=> ?_
 rw[(by rewrite[cC];rw[k.symm];rw[dg _];rfl:cC n l=dR++c)]
 have:=nE o b
 refine⟨by rw[aY];exact iE this 3,λs a=> ?_⟩
 rcases b8.mp a with a|a
 . rcases cy.mp a with rfl|a
   . rfl
   rcases cy.mp a with rfl|a
   . rfl
   rw[dm.mp a];rfl
 . have:=by simpa [AB]using b s a
   rcases this with rfl|rfl<;>rfl
theorem agY (h:x∈NM n\/x∈AB):mI x=true:=by
 rcases h with h|h
 . exact vi x h
 . have:=by simpa [AB]using h
   rcases this with rfl|rfl<;>rfl
theorem agZ {n}{c:Ps}(d:Dr n c){I}{R}{Q}{k o}{u}(hg:cl.fk=prog.fk)
 (kk:∀k o b,Do (aZ cl I [S (.v (.lst (c.map km))),S (.v .none),S (.v (.lst ((NM n).map .str))),k,o,S (.v u),S (.ref 1),b,J,J,J,J] [.dead,cL ((cC n (flat c)).map .str)]) Q R):
 Do (aZ cl (.cons (.set 6 (.bf ab .list (.glob 2))) (.cons (.cq (.two 3 4) (.hE (.var 0)) Io) I)) [S (.v (.lst (c.map km))),S (.v .none),S (.v (.lst ((NM n).map .str))),k,o,S (.v u),J,J,J,J,J,J] [.dead]) Q R:=by
 refine bz (Nf (lr (by rw[hg];rfl)) (Fw (aw (by decide)))) (d_ _ c (λdone Z=>∀k o b,Z [S (.v (.lst (c.map km))),S (.v .none),S (.v (.lst ((NM n).map .str))),k,o,S (.v u),S (.ref 1),b,J,J,J,J] [.dead,cL ((cC n (flat done)).map .str)]) (oN (aa rfl)) ?_ ?_ ?_)
 . exact λZ a=>a _ _ _
 . intro done p rest Z a hd k o b
   have L:=λx hx=>d.syms.2 x (by
    rw[hd];rewrite[flat];rw[qb,Bb,(bM _ _ _).symm];exact fh _ hx)
   refine bt rfl (d_ _ _ (λdn Z=>∀b,Z [S (.v (.lst (c.map km))),S (.v .none),S (.v (.lst ((NM n).map .str))),S (.v (.str p.1)),S (.v (.lst (p.2.map .str))),S (.v u),S (.ref 1),b,J,J,J,J] [.dead,cL ((cC n (flat done++dn)).map .str)]) (c7 (aa rfl) rfl) (λZ a=>kq (a _) (by rw[dg _];rfl)) ?_ ?_)
   . refine λdn x r Z a O b=>au (PC (l:=flat _++dn) λy H=>L y ((b8.mp H).elim ((fh _)) λH=>ik _ (by rw[O];exact fh _ H))) λU Y=> ?_
     rw[<-bM,agX]at a
     generalize cC n _=T at U Y a ⊢
     have PE:=agY (L x (ik _ (by rw[O];simp)))
     refine bt rfl (jV
      (xy (br (aa rfl) (aa rfl) (rL (BE PE vi))) λ_=>br (aa rfl) (aa rfl) (rL ((PB rfl).trans (BE PE Y)))) ?_ ?_ λ_ _ h=>bo h)
     . intro q
       have q:=by simpa using q
       refine fH (d9 (aa rfl) (gz rfl) (aj (aa rfl) aA) (i9 rfl (by rw[aq _];exact aw (bw U (by decide))))) (bo (kq (a _) ?_))
       rewrite[vh];rw[if_pos q,bK];rfl
     . intro q
       have q:¬(x∉NM n/\x∉T):=by lia
       refine bo (kq (a _) ?_)
       rewrite[vh];rw[if_neg q];rfl
   . refine λb=>bo (kq (a _ _ _) ?_)
     rewrite[flat,flat];rw[qb,Bc _ _];rfl
 exact λk o b=>kk _ _ _
theorem G4:nR (cm n a)=a.length+1:=by show(_::_).length=_;simp
theorem PF {a}{r}{p}(h:a[r]?=S p):lhs (cm n a) (r+1)=(cA n (cC n (flat a))).idxOf p.1/\rhs (cm n a) (r+1)=p.2.map (cA n (cC n (flat a))).idxOf:=by
 have e:(cm n a).rs[r+1]?=(a.map λp=>((cA n _).idxOf _,p.2.map (cA n (cC n (flat a))).idxOf))[r]?:=rfl
 rw[nC (by rw[G4];have:=dB h;exact q7 this),bx,h,uc]at e
 exact have e:=je e;⟨congrArg _ e,congrArg _ e⟩
theorem Dr.mem {a:Ps}(d:Dr n a){p}(h:p∈a):p.1∈cA n (cC n (flat a))/\∀x∈p.2,x∈cA n (cC n (flat a)):=⟨ik _ (d.syms.1 p h).1,λx hx=>(d.names.2 x (oS.mpr ⟨p,h,hx⟩)).elim (ik _) λh=>fh _ (fh _ h.1)⟩
theorem PG (a:lhs G r=l)(b:rhs G r=q): .obj 0 [(0,nV r),(1,nV l),(2,dK q),(3,.int (pY G.nT q)),(4,.none),(5,.int 0),(6,.int 0)]=fJ G r:=by rewrite[fJ];rw[a,b];rfl
theorem ag0 {n}{b:Ps}(d:Dr n b)(L:1<=D){O}{R}{Q}{c o u}{y}
 (U:∀c o q,Do (aZ (aQ prog D) O [S (.v (.lst (b.map km))),S (.v .none),S (.v (.lst ((NM n).map .str))),c,o,S (.v y),S (.v (.lst ((cm n b).fI.map .str))),u,S (.v (nV (cm n b).nT)),S (.ref 2),q,J] [.dead,.dead,cL ((List.range (nR (cm n b))).map (fJ (cm n b)))]) Q R):
 Do (aZ (aQ prog D) (.cons (.cq (.two 3 4) (.hE (.var 0)) Ip) O) [S (.v (.lst (b.map km))),S (.v .none),S (.v (.lst ((NM n).map .str))),c,o,S (.v y),S (.v (.lst ((cm n b).fI.map .str))),u,S (.v (nV (cm n b).nT)),S (.ref 2),J,J] [.dead,.dead,cL [fJ (cm n b) 0]]) Q R:=by
 have k:=d.names.1
 have Y:(cA n (cC n (flat b))).length<1000:=by have:=k.big;exact bw this (by decide)
 refine d_ km b (λdone Z=>∀c o q,Z [S (.v (.lst (b.map km))),S (.v .none),S (.v (.lst ((NM n).map .str))),c,o,S (.v y),S (.v (.lst ((cm n b).fI.map .str))),u,S (.v (nV (cm n b).nT)),S (.ref 2),q,J] [.dead,.dead,cL ((List.range (done.length+1)).map (fJ (cm n b)))]) (oN (aa rfl)) ?_ ?_ ?_
 . intro Z H
   exact H _ _ _
 . intro done p rest Z H I c o q
   have hm:p∈b:=by rw[I];simp
   have hg:b[done.length]?=S p:=by rw[I];simp
   have hl:=d.len
   rw[I,aY]at hl
   refine au (d.mem hm) λm1 m2=> ?_
   refine au (PF (n:=n) hg) λr1 r2=> ?_
   have g:=jo (f:=λa af=>(bV (.one 11) a [S (.v (.lst (b.map km))),S (.v .none),S (.v (.lst ((NM n).map .str))),S (.v (.str p.1)),S (.v (.lst (p.2.map .str))),S (.v y),S (.v (.lst ((cm n b).fI.map .str))),u,S (.v (nV (cm n b).nT)),S (.ref 2),q,J]).bind (az (aQ prog D) (.da (.var 6) .index (.cons (.var 11) .nil)) · af)) .str (λx=> .v (nV ((cA n (cC n (flat b))).idxOf x))) p.2 [.dead,.dead,cL ((List.range (done.length+1)).map (fJ (cm n b)))] λx hx=>
    aJ rfl (d9 (aa rfl) rfl (aj (aa rfl) aA) (G3 (m2 x hx) Y))
   have ge:p.2.map (λx=>X.v (nV ((cA n (cC n (flat b))).idxOf x)))=((rhs (cm n b) (done.length+1)).map nV).map .v:=by rw[r2,b5,b5];rfl
   rw[ge]at g
   have PH:(rhs (cm n b) (done.length+1)).length<=3:=by rw[r2,aq _];exact(d.syms.1 p hm).2
   have l1:∀σ,cB σ .tuple (.v (.lst ((rhs (cm n b) (done.length+1)).map nV)))=S (.val (dK (rhs (cm n b) (done.length+1)))):=λσ=>xK (by rw[aq _];exact aw (bw PH (by decide)))
   refine bt rfl (bz (cw (jm (c7 (aa rfl) rfl) g (by(rw[aq _,aq _]);exact aw (bw PH (by decide))) (fV _)) (l1 _)) ?_)
   have bl:cB [.dead,.dead,cL ((List.range (done.length+1)).map (fJ (cm n b)))] .len (.ref 2)=S (.val (nV (done.length+1))):=eC ((pT rfl).trans (by simp)) (aw (by lia))
   have i1:=G3 (σ:= [.dead,.dead,cL ((List.range (done.length+1)).map (fJ (cm n b)))]) m1 Y
   rw[<-r1]at i1
   have nr:=Pf (σ:= [.dead,.dead,cL ((List.range (done.length+1)).map (fJ (cm n b)))]) (n:=done.length+1) (l:=lhs (cm n b) (done.length+1)) (r:=rhs (cm n b) (done.length+1)) (i:=pY (cm n b).nT (rhs (cm n b) (done.length+1))) L
   rw[PG rfl rfl]at nr
   refine fH (d9 (aa rfl) (gz rfl) (aj (rz (aj (cw (aa rfl) bl) (aj (d9 (aa rfl) rfl (aj (aa rfl) aA) i1) (aj (aa rfl) (aj (c6 (aj (aa rfl) (aj (aa rfl) aA)) (agA L)) aA)))) nr) aA) (i9 rfl (by(rw[aq _,cP]);exact aw (by lia)))) (bo (kq (H _ _ _) ?_))
   rw[aY,ee,(kI (n:=done.length+1)),bK];rfl
 . intro c o q
   rw[G4]at U
   exact U _ _ _
theorem run_plain {n}{b:Ps}(d:Dr n b)(x:2<=D):(aQ prog D).call 14 [.v (.lst (b.map km))] σ=S (.v (vG (cm n b)),σ):=by
 refine ed (dE x) rfl rfl rfl rfl λT U=> ?_
 have c:=dJ x
 have k:=d.names.1
 have w:=G2 d
 have Y:=d.n1
 have q:(NM n).length=n:=by rewrite[NM];rw[ig];exact jI d.n3
 have y:(NM n)[0]?=S [83]:=by
  rewrite[NM];refine Zrr (List.getElem?_take_of_lt (Sd Y)) ?_;rfl
 have H:=eY y
 refine agW d λI L=> ?_
 refine l_ rfl (jn rfl) ?_
 have c0:cO [.dead] .eq (.v (.lst ((NM n).map .str))) (.v (.lst []))=S false:=by
  have:isData 4 (.lst ((NM n).map .str))=ab/\isData 4 (.lst [])=true:=⟨by show((NM n).map V.str).all (isData 3)=ab;rw[nD,propext cF];exact vi,rfl⟩
  refine(b9 this).trans (congrArg S ?_)
  show lN ((NM n).map .str) []=ae
  cases h:NM n with
  |nil=>rw[h]at q;simp at q;lia
  |cons a l=>rfl
 have i0:b4 [.dead] (.v (.lst ((NM n).map .str))) (.int 0)=S (.v (.str [83])):=jq (aw (by simp)) (by(rw[bx,y]);rfl)
 refine bz (AF (jT (tc (aa rfl) rfl) (br (aa rfl) (fU aA (aw (eN _)) rfl) c0)) (bu (aa rfl) aP i0)) ?_
 have c1:cO [.dead] .iu (.v (.str [83])) (.v (.lst ((NM n).map .str)))=S false:=(rL (o:= .v (.lst ((NM n).map .str))) (BE rfl vi)).trans (by rw[decide_eq_true H];rfl)
 refine gy (br (aa rfl) (aa rfl) c1) ?_
 refine agZ d lu λI L j7=> ?_
 refine l_ rfl (jn rfl) ?_
 have tl:=(PC d.syms.2).1
 have bl:∀σ,cB σ .len (.v (.lst ((cC n (flat b)).map .str)))=S (.val (nV (cC n (flat b)).length)):=λσ=>eC (congrArg S (aq _)) (aw (bw tl (by decide)))
 refine bz (cw (aa rfl) (bl _)) ?_
 have a1:cV .add (.lst ((cC n (flat b)).map .str)) (.lst [.str [36,97,99,99,101,112,116]])=S (.lst ((cC n (flat b)++ [nQ]).map .str)):=by
  refine Zrr (ny (by(rw[aq _,ee]);exact aw (Se tl))) ?_;rw[bK];rfl
 have a2:cV .add (.lst ((cC n (flat b)++ [nQ]).map .str)) (.lst ((NM n).map .str))=S (.lst ((cm n b).fI.map .str)):=by
  refine Zrr (ny (by(rw[aq _,aq _,aY,ee,q]);have:=d.n3;exact aw (Sf tl this))) ?_;rw[bK.symm];rfl
 refine bz (b_ (b_ (aa rfl) (fU (aj aP aA) (aw (by simp)) rfl) a1) (aa rfl) a2) ?_
 have hS:=NW k.nd k.nB
 have O:=λσ=>by
  have:=G3 (σ:=σ) (l:=cA n (cC n (flat b))) (ik _ H) (by have:=k.big;exact bw this (by decide))
  rwa[hS]at this
 have nr:=Pf (σ:= [.dead,.dead]) (n:=0) (l:=(cm n b).nT) (r:= [(cm n b).nT+1,0]) (i:=0) c
 have e0:pY (cm n b).nT [(cm n b).nT+1,0]=0:=by
  have:=w.tT
  show(if 0<(cm n b).nT then(0)else _)=0
  refine Zrr (if_pos (Sg this)) ?_;rfl
 have Q:=PG w.oQ.1 w.oQ.2
 rw[e0]at Q
 rw[Q]at nr
 refine bz (iH (aj (rz (aj aP (aj (aa rfl) (aj (eZ (aj (d9 (aa rfl) rfl (aj (aa rfl) aA) (O _)) (aj (lr (by rw[lu];rfl)) aA)) (aw (by simp)) rfl) (aj (lr (by rw[lu];rfl)) aA)))) nr) aA) (aw (by simp))) ?_
 refine ag0 d c λI L dY=> ?_
 refine l_ rfl (jn rfl) ?_
 have u:∀ρ σ,az (aQ prog (D - 1)) (.aU ae .str .nil .nil) ρ σ=S (.v (.aU .str []),σ):=λ_ _=>rfl
 exact cb (rz (aj (aa rfl) (aj (aa rfl) (aj (aa rfl) (aj (u _ _) (aj aP (aj (d9 (aa rfl) rfl (aj (aa rfl) aA) (O _)) aA)))))) (agI w c)) (U (c8 rfl))
theorem ag2 {a:Ps}(d:Dr n a):iN (cm n a)=gU (nQ,[[83],[36,101,110,100]])::a.map gU:=by
 have w:=G2 d
 have b:nm (cm n a) (cm n a).nT=nQ:=by
  rewrite[nm,List.getD];rw[w.nA];rfl
 have c:nm (cm n a) ((cm n a).nT+1)= [83]:=by rewrite[nm,List.getD];rw[w.nB];rfl
 have k:nm (cm n a) 0= [36,101,110,100]:=by rewrite[nm,List.getD];rw[w.n0];rfl
 rewrite[iN];rw[G4,Eo,dz,b5]
 congr 1
 . rewrite[nN];rw[w.oQ.1,w.oQ.2]
   show V.tup [.str _,.tup [.str _,.str _]]=_
   rw[b,c,k];rfl
 . refine gQ λi=> ?_
   rw[bx,bx]
   cases h:a[i]? with
   |none=>exact Zrr (eX (by rw[cP];exact DC.mp h)) rfl
   |some p=>
    refine Zrr (iJ (dB h)) (au (PF (n:=n) h) λo q=>au (d.mem (eY h)) λr u=> ?_)
    show S (nN _ _)=S _
    have e:(p.2.map _).map (nm _)=p.2:=Zrr b5 ((vf λx hx=>PA (u x hx)).trans (List.map_id _))
    rewrite[nN];rw[o,q,PA r,e];rfl
theorem ag3 {as}{b}{σ}{P:V->Prop}(c:0<D)(hf:prog.fns[f]?=S fn)(k:fn.pure=ab)(o:fD as=S b)
 (q:frameOf fn as=S ρ)(hr:Do (aZ (aQ prog (D - 1)) fn.body ρ []) (λ_ _=>P .none) λx σ=>∃a,P a/\Fz a x σ):∃a,P a/\(aQ prog D).call f as σ=S (.v a,σ):=by
 refine dh (xE q (hr.mono (λ_ σ h=>⟨_,h,c8 rfl⟩) λ_ _ h=>h)) λx I r u=>ah u λa ha y=>ao y λL H=>⟨a,ha,?_⟩
 rw[xD c]
 exact aJ hf (Zrr k (aJ o (aJ r (bP H))))
theorem yj {as}{b}{σ}{P:V->Prop}(c:0<D)(hf:prog.fns[f]?=S fn)(k:fn.pure=ab)(o:fD as=S b)
 (q:frameOf fn as=S ρ)(hr:∀T,(∀a {x σ},P a->Fz a x σ->T x σ)->Do (aZ (aQ prog (D - 1)) fn.body ρ []) (λ_ _=>False) T):∃a,P a/\(aQ prog D).call f as σ=S (.v a,σ):=
 ag3 c hf k o q ((hr _ λa _ _ r u=>⟨a,r,u⟩).mono (λ_ _ h=>h.elim) λ_ _ h=>h)
theorem PJ {g:c->o}{k}:∀ {ak:List _},ck k (ak.map λp=>(p.1,g p.2))=(ck k ak).map g:=by
 intro a
 induction a with
 |nil=>
  exact rfl
 |cons q r b=>
  rw[dz,mm,mm]
  split
  . rfl
  exact b
theorem PK {g:c->o}{k}{x}:∀ {ak:List _},ec k (g x) (ak.map λp=>(p.1,g p.2))=(ec k x ak).map λp=>(p.1,g p.2):=by
 intro a
 induction a with
 |nil=>
  exact rfl
 |cons q r b=>
  rw[dz,tA,tA]
  split
  . rfl
  . rw[b];rfl
theorem ag4:∀ {ak:List (V×c)},(ec k x ak).length<=ak.length+1:=by
 intro a
 induction a with
 |nil=>
  exact bb _
 |cons o r b=>
  rw[tA]
  split
  . exact qP _
  exact mU b
theorem PL (h:s=t):dN (.str s) (.str t)=true:=decide_eq_true h
theorem G5 (h:¬s=t):¬dN (.str s) (.str t)=true:=λz=>h (of_decide_eq_true z)
theorem ag5 {s t}{x}:∀ {ak:List (V×H)},ck (.str t) (ec (.str s) x ak)=if s=t then S x else ck (.str t) ak:=by
 intro b
 induction b with
 |nil=>
  show(if dN (.str s) _ then S x else J)=_
  by_cases h:s=t
  . rw[if_pos h,if_pos (PL h)];rfl
  . rw[if_neg h,if_neg (G5 h)];rfl
 |cons c r o=>
  obtain ⟨a,y⟩:=c
  rw[tA,mm]
  by_cases q:dN a (.str s)=ab
  . rw[if_pos q,mm]
    have e:=(λ{k u} h=>by
    cases k<;>first|have:=of_decide_eq_true h;rw[this];rfl|exact bT h:∀ {k:V} {u:List _},dN k (.str u)=ab->k= .str u) q
    subst e
    by_cases h:s=t
    . rw[if_pos h,if_pos (PL h)];rfl
    . rw[if_neg h,if_neg (G5 h),if_neg (G5 h)];rfl
  . rw[if_neg q,mm,o]
    by_cases z:dN a (.str t)=ab
    . rw[if_pos z,if_pos z]
      by_cases h:s=t
      . subst h;exact absurd z q
      . rw[if_neg h];rfl
    . rw[if_neg z,if_neg z];rfl
def aV (G:Gm)(w:List Nat):V:= .tup ((w.map (nm G)).map .str)
def nU (G:Gm)(r:Nat):V:= .tup [nV r,aV G (rhs G r)]
def PM (G:Gm)(x:Nat):V:= .lst ((fu G x).map (nU G))
theorem PN (w:WF G){x y}(hx:x<nS G)(b:y<nS G)(h:nm G x=nm G y):x=y:=by
 have a:=pZ hx
 rw[h]at a
 exact have:=dk.mp a;ao (dk.mp a) λo c=>ao (dk.mp (pZ b)) λq k=>(FK w.nd).mp (c.trans k.symm)
def mu (G:Gm)(k x:Nat):List Nat:=(List.range k).filter λr=>lhs G r==x
structure ag6 (G:Gm)(k:Nat)(ak:List (V×V)):Prop where
 look:∀x,x<nS G->ck (.str (nm G x)) ak=if mu G k x= []then J else S (.lst ((mu G k x).map (nU G)))
 len:ak.length<=k
theorem PO {k}{d}(h:σ[n]?=S (.aU t ak))(hk:dS t k=ab):gK σ .get (.ref n) [.v k,d]=S ((ck k ak).getD d,σ):=aJ h (b9 hk)
noncomputable def dX (ak:List (V×V)):List (V×X):=ak.map λp=>(p.1,.v p.2)
theorem ag7:lR 0 (iN G)=(List.range (nR G)).map λr=> .tup [nV r,nN G r]:=by
 rw[Fp _ _]
 refine gQ λi=> ?_
 rw[bx,lG];rewrite[iN];rw[bx,bx]
 rcases i.lt_or_ge _ with h|h
 . rw[iJ h,fc _];rfl
 exact Zrr (eX (Zrr cP h)) rfl
def tK (G:Gm)(a:V):Prop:=∃ak,a= .aU .str ak/\∀x,x<nS G->ck (.str (nm G x)) ak=if G.nT<=x then S (PM G x)else J
theorem ag8 (w:WF G)(I:1<=D):∃a,tK G a/\(aQ prog D).call 47 [.v (.lst (iN G))] σ=S (.v a,σ):=by
 refine yj (dE I) rfl rfl rfl rfl λT L=> ?_
 have hr:=w.nr
 refine bz tD (uY (λr=> .tup [nV r,nN G r]) (nR G) (λk Z=>∀ak b c,ag6 G k ak->Z [S (.v (.lst (iN G))),S (.ref 0),b,c] [.aU .str (dX ak)]) ((Fb (aa rfl) (by rewrite[iN];rw[aq _,cP];exact aw (bw hr (by decide)))).trans (by rw[ag7];rfl)) (λZ o=>o [] _ _ ⟨λx _=>rfl,bb _⟩) ?_ ?_)
 . intro k Z o hk ak b c ok
   have hl:=(w.jY hk).2
   have H:b4 [.aU .str (dX ak)] (.v (nN G k)) (.int 0)=S (.v (.str (nm G (lhs G k)))):=xH (aw (by simp)) rfl
   have sl:=by
    have h:(mu G k (lhs G k)).length<=(List.range k).length:=jZ _ _
    rwa[cP]at h
   have q:∀x,mu G (k+1) x=if lhs G k=x then mu G k x++ [k]else mu G k x:=λx=>by
    rewrite[mu];rw[kI,j_ _ _]
    by_cases h:lhs G k=x
    . rw[if_pos h];refine Zrr (pP (by simpa using h)) ?_;rfl
    . rw[if_neg h];refine Zrr (pQ (by simpa using h)) ?_;rw[x8,dg _];rfl
   have O:cV .add (.lst ((mu G k (lhs G k)).map (nU G))) (.lst [nU G k])=S (.lst ((mu G (k+1) (lhs G k)).map (nU G))):=by
    refine Zrr (ny (by(rw[aq _,ee]);exact aw (Td hr hk sl))) ?_;rw[q _,if_pos rfl,bK];rfl
   refine bt rfl (jU (b_ (d9 (aa rfl) (Nu rfl) (aj (bu (aa rfl) aP H) (aj (fU aA (aw (eN _)) rfl) aA)) (by
    rw[PO rfl rfl];rewrite[dX];rw[PJ,ok.look _ hl]
    split
    . rename_i h;rw[h];rfl
    . rfl)) (fU (xs:= [.v (nU G k)]) (aj (eZ (aj (aa rfl) (aj (bu (aa rfl) aP (xH (aw (by simp)) rfl)) aA)) (aw (by simp)) rfl) aA) (aw (by simp)) rfl) O) (aa rfl) (bu (aa rfl) aP H) (rB rfl rfl (by(rewrite[dX];rw[aq _]);exact aw (by have:=ok.len;exact dq (dM (bw this hk) hr) (by decide)))) (bo (kq (o (ec (.str (nm G (lhs G k))) (.lst ((mu G (k+1) (lhs G k)).map (nU G))) ak) _ _ ⟨λx hx=> ?_,?_⟩) ?_)))
   . rw[ag5]
     by_cases h:lhs G k=x
     . subst h;rw[if_pos rfl];refine Zrr (if_neg (by(rw[q _,if_pos rfl]);simp)) ?_;rfl
     . rewrite[if_neg λe=>h (PN w hl hx e)];rw[ok.look x hx,q _,if_neg h];rfl
   . have:=ag4 (k:= .str (nm G (lhs G k))) (x:= .lst ((mu G (k+1) (lhs G k)).map (nU G))) (ak:=ak)
     have:=ok.len
     exact Te ‹_› this
   . rewrite[dX];rw[PK];rfl
 . intro ak b c ok
   refine cb (aa rfl) (L (.aU .str ak) ⟨ak,rfl,λx hx=> ?_⟩ ⟨_,Fo rfl⟩)
   rw[ok.look x hx]
   by_cases h:G.nT<=x
   . rw[if_pos h];rewrite[if_neg]
     . rfl
     . have:∃r,r<nR G/\lhs G r=x:=by
        rcases ypC h with h|h
        . exact⟨0,w.xN,w.oQ.1.trans h⟩
        . refine cD (w.Ny x h hx) λr u y _=> ?_
          exact⟨r,u,y⟩
       refine ah this λr u y=> ?_;clear this
       have:r∈mu G (nR G) x:=fK.mpr ⟨gw.mpr u,by simpa using y⟩
       exact yoS this
   . rw[if_neg h];rewrite[if_pos];rfl
     refine xj.mpr λr hr=> ?_
     have:=w.jY (gw.mp hr)
     simp;exact fO (dM (iR h) this.1)
def WS (G:Gm)(w:List Nat):Prop:=∀x∈w,x<nS G
theorem G7 (w:WF G){x}(h:x<nS G):mI (nm G x)=true:=(w.ok _ (eY (pZ h))).1
theorem PQ (w:WF G){u}(h:WS G u){k}:isData (k+1) (aV G u)=true:=by
 show((u.map _).map _).all (isData k)=ab
 rw[b5,nD,propext cF]
 intro x hx
 have:=G7 w (h x hx)
 cases k<;>exact this
theorem rT:dS .strs (aV G u)=true:=by
 show((u.map _).map _).all isStr=ab
 rw[nD];exact Zrr (propext cF) λ_ _=>rfl
theorem map_inj {A B:Type}{f:A->B}:∀ {u v:List A},(∀a∈u,∀b∈v,f a=f b->a=b)->u.map f=v.map f->u=v:=by
 intro c
 induction c with
 |nil=>exact λ_ h=>(Mm.mp h.symm).symm
 |cons a u k=>
  intro v h e
  cases v with
  |nil=>exact nomatch e
  |cons b v=>
   have e:=iB e
   rw[h a cT b cT e.1,k (λx hx y o=>h x (dA _ hx) y (dA _ o)) e.2];rfl
theorem G8 (w:WF G){u v}(c:WS G u)(k:WS G v):gJ (aV G u) (aV G v)=decide (u=v):=by
 show lN _ _=_
 refine Zrr (Gr λa _ b _=>eq_str a b) (decide_eq_decide.mpr ⟨map_inj λa ha b hb e=>PN w (c a ha) (k b hb) e,λh=>by rw[h];rfl⟩)
theorem yk (w:WF G){u}(h:WS G u):cO σ .ne (.v (aV G u)) (.v (.tup []))=S !decide (u= []):=congrArg (Option.map _) (by
 refine(b9 ⟨PQ w h,rfl⟩).trans (congrArg _ ?_)
 cases u<;>rfl:eqv _ _=S _)
theorem yl (w:WF G){a}{g:List _->a}{u}(b:WS G u):∀ {L:List _},(∀v∈L,WS G v)->ck (aV G u) (L.map λv=>(aV G v,g v))=if u∈L then S (g u)else none:=by
 intro c
 induction c with
 |nil=>
  exact λ_=>rfl
 |cons v L k=>
  intro h
  rw[dz,mm,show dN _ _=_ from G8 w (h v cT) b,k λy o=>h y (dA _ o)]
  by_cases e:v=u
  . rw[if_pos (decide_eq_true e)];refine Zrr (if_pos (Zrr e cT)) ?_;rw[e];rfl
  . refine Zrr (if_neg (by rw[decide_eq_false e];exact gr)) ?_
    by_cases q:u∈L
    . rw[if_pos q,if_pos (dA _ q)];rfl
    . rw[if_neg q];rewrite[if_neg λz=>(cy.mp z).elim (λr=>e r.symm) q];rfl
theorem G9 (h:u.length+v.length<1000):cV .add (aV G u) (aV G v)=S (aV G (u++v)):=by
 refine Zrr (AK (by rw[aq _,aq _,aq _,aq _];exact aw (SX h))) ?_;rewrite[aV];rw[bK,bK];rfl
theorem ag9 (n:Nat):lQ (-1) (n+1)=n:=congrArg Int.toNat ((Cg ..).trans (ynK n 1))
theorem G' {X}(h:u.length<1000):mJ (aV G (u++ [X])) (.int (-1))=S (aV G u):=by
 have hl:(((u++ [X]).map (nm G)).map V.str).length=u.length+1:=by rw[aq _,aq _,aY];rfl
 refine(b9 (by rw[hl];exact aw (Ro h))).trans ?_
 rw[hl,ag9 _,bK,bK];exact Zrr (GC (by rw[aq _,aq _];exact bb _)) (Zrr (gb (by rw[aq _,aq _];exact bb _)) rfl)
theorem aha {n}(hl:xs.length=n+1)(h:xs[n]?=S a):b4 σ (.v (.tup xs)) (.int (-1))=S (.v a):=bP (aJ (GF hl) h)
theorem BF {X}:b4 σ (.v (aV G (u++ [X]))) (.int (-1))=S (.v (.str (nm G X))):=aha (by rw[aq _,aq _,aY];rfl) (by rw[bx,bx,iG (bb _),kE _];rfl)
theorem BG (h:u.length<1000):cB σ .len (.v (aV G u))=S (.val (nV u.length)):=eC (congrArg _ ((aq _).trans (aq _))) (aw (dq h (by decide)))
theorem PR {k}(hk:dS t k=ab):n8 σ k (.v (.aU t a))=S (ck k a).isSome:=b9 hk
theorem ahb (a:tK G b){x}(hx:x<nS G):n8 σ (.str (nm G x)) (.v b)=S (decide (G.nT<=x)):=by
 refine ah a λc O h=> ?_;clear a;subst O
 refine(PR rfl).trans ?_
 rw[h x hx]
 by_cases q:G.nT<=x
 . rw[if_pos q,decide_eq_true q];rfl
 . rw[if_neg q,decide_eq_false q];rfl
theorem PT (a:tK G b){x}(hx:x<nS G)(c:G.nT<=x):b4 σ (.v b) (.str (nm G x))=S (.v (PM G x)):=by
 refine ah a λk O h=> ?_;clear a;subst O
 exact xI rfl ((h x hx).trans (if_pos c))
def lC (G:Gm)(L:List (List Nat)):Cell:=cL (L.map (aV G))
def kC (G:Gm)(L:List (List Nat)):Cell:= .aU .strs (L.map λw=>(aV G w,.v (.bool ab)))
theorem Fs.G_ (w:WF G)(f:Fs G k L):∀u∈L,WS G u:=λu c=>by
 refine au (f.ok u c) λ_ a=>bp a λo A O b _=> ?_;clear a;subst O
 intro x hx
 rcases b8.mp hx with hx|hx
 . exact(Oh w b x hx).1
 . rw[dm.mp hx];exact A9 w b
theorem PU (w:WF G)(x):(fu G x).length<=7:=by
 have h:(fu G x).length<=(List.range _).length:=jZ _ _
 rw[cP]at h
 exact ba h w.nr
theorem ahc (w:WF G){cl:Cl}{H mv U:V}{o:Nat}(hg:tK G H)(hm:mv=nV o)(oY:o<=6){c:List Nat}{A r:Nat}{Y:V}(hr:r<nR G)(hA:lhs G r=A)(hv:gF G c A)(BH:c.length<=6)
 {L:List (List Nat)}(f:Fs G o L)(hL:L.length<3000000){j9:Option X}{Q:Env->Hp->Prop}{R:X->Hp->Prop}
 (kk:∀I j9,L<+:I->Fs G o I->I.length<=L.length+1->(e9 G.nT (c++rhs G r)= []\/o<(e9 G.nT (c++rhs G r)).length\/e9 G.nT (c++rhs G r)∈I)->
  Q [S (.v H),S (.v mv),S (.v U),S (.ref 0),S (.ref 1),S (.v Y),S (.v (aV G (c++ [A]))),S (.v (nV r)),S (.v (aV G (rhs G r))),j9] [lC G I,kC G I]):
 Do (aZ cl Ir [S (.v H),S (.v mv),S (.v U),S (.ref 0),S (.ref 1),S (.v Y),S (.v (aV G (c++ [A]))),S (.v (nV r)),S (.v (aV G (rhs G r))),j9] [lC G L,kC G L]) Q R:=by
 have ou:=w.len hr
 have ahd:=λx hx=>(Oh w hv x hx).1
 have ws0:=λx hx=>(b8.mp hx).elim (ahd x) λh=>(w.sym hr x h).1
 generalize Ha:nV r=rv at kk ⊢
 refine bz (b_ (pO (aa rfl) aP (G' (bw BH (by decide)))) (aa rfl) (G9 (S7 BH ou))) ?_
 refine uZ (λu Z=>e9 G.nT u=e9 G.nT (c++rhs G r)->u.length<=9->WS G u->Z [S (.v H),S (.v mv),S (.v U),S (.ref 0),S (.ref 1),S (.v Y),S (.v (aV G (c++ [A]))),S (.v rv),S (.v (aV G (rhs G r))),S (.v (aV G u))] [lC G L,kC G L]) (λu=>u.length) (c++rhs G r)
  (λZ zk=>zk rfl (by rw[aY];exact S8 BH ou) ws0) (by rw[aY];show _<2^22;exact S9 BH ou) ?_
 intro u Z zk hs e_ k
 have fin:∀z,z=e9 G.nT (c++rhs G r)->z.length<=9->WS G z->Do (aZ cl (.cons (.ite (.and (.cmp .ne (.var 9) (.tup .nil)) (.and (.cmp .le (.bf ae .len (.var 9)) (.var 1)) (.cmp .iu (.var 9) (.var 4)))) (.cons (.gm (.var 4) (.var 9) (.cst (.bool ab))) (.cons (.ex (.da (.var 3) .append (.cons (.var 9) .nil))) .nil)) .nil) .nil)
  [S (.v H),S (.v mv),S (.v U),S (.ref 0),S (.ref 1),S (.v Y),S (.v (aV G (c++ [A]))),S (.v rv),S (.v (aV G (rhs G r))),S (.v (aV G z))] [lC G L,kC G L]) Q R:=by
  intro z y hzl PW
  have wsL:=f.G_ w
  have lk:ck (aV G z) (L.map λw=>(aV G w,X.v (.bool ab)))=if z∈L then S (.v (.bool ab))else none:=yl w PW wsL
  have hin:n8 [lC G L,kC G L] (aV G z) (.ref 1)=S (decide (z∈L)):=(Gp rfl rT).trans (by
   rw[lk]
   by_cases q:z∈L
   . rw[if_pos q,decide_eq_true q];rfl
   . rw[if_neg q,decide_eq_false q];rfl)
  subst hm
  refine jV (xy (br (aa rfl) (eZ aA (aw (eN _)) rfl) (yk w PW)) λ_=>xy (br (cw (aa rfl) (BG (bw hzl (by decide)))) (aa rfl) Fq) λ_=>br (aa rfl) (aa rfl) (rL hin)) ?_ ?_ λ_ _ h=>bo h
  . intro q
    obtain ⟨q1,q2,q3⟩:z≠ []/\z.length<=o/\z∉L:=by simpa using q
    (refine fb ((snoc_cases z).resolve_left q1) λβ B O=> ?_;obtain rfl:=O)
    have hB:G.nT<=B:=by
     rcases Ge (c++rhs G r)with ⟨h1,_⟩| ⟨ND,B',t,h1,h2,_⟩
     . rw[h1]at y;simp at y
     . rw[h1]at y
       rw[(iB (rf y rfl).2).1];exact h2
    have hvB:=step_sound (hA▸hv) hr y.symm
    refine jU aP (aa rfl) (aa rfl) (rB rfl rT (by rw[aq _];exact aw (dq hL (by decide)))) ?_
    rw[tB (lk.trans (if_neg q3))]
    refine fH (d9 (aa rfl) (gz rfl) (aj (aa rfl) aA) (i9 rfl (by rw[aq _];exact aw (dq hL (by decide))))) (bo (kq (kk (L++ [β++ [B]]) _ (tm _ _) ⟨?_,?_,fh _ f.st⟩ (by rw[aY];exact bb _) (.inr (.inr (by rw[y.symm];simp)))) ?_))
    . rw[qL]
      exact⟨f.nd,by simp,λa ha b hb e=>q3 (by rw[dm.mp hb]at e;rw[e.symm];assumption)⟩
    . intro u k
      rcases b8.mp k with k|k
      . exact f.ok u k
      . rw[dm.mp k]
        exact⟨q2,β,B,rfl,hvB,hB⟩
    . show [cL (L.map (aV G)++ [aV G (β++ [B])]),Cell.aU .strs (L.map (λw=>(aV G w,X.v (.bool ab)))++ [(aV G (β++ [B]),.v (.bool ab))])]=_
      rewrite[lC,kC];rw[bK,bK];rfl
  . intro q
    refine bo (kk L _ (A6 _) f (qP _) ?_)
    rw[y.symm]
    by_cases q1:z= []
    . exact .inl q1
    . by_cases q2:o<z.length
      . exact .inr (.inl q2)
      . refine .inr (.inr (ylH λq3=> ?_))
        simp[q1,q3]at q
        lia
 rcases snoc_cases u with rfl| ⟨v,X,rfl⟩
 . refine wt ae (Nd (br (aa rfl) (eZ aA (aw (eN _)) rfl) (yk w k))) (λ_=> ?_) nofun
   exact fin [] (by rw[hs.symm];rfl) e_ k
 . have hX:=k X (by simp)
   rw[aY,ee]at e_
   have hc:az cl (.and (.cmp .ne (.var 9) (.tup .nil)) (.cmp .iu (.idx (.var 9) (.cst (.int (-1)))) (.var 0))) [S (.v H),S (.v mv),S (.v U),S (.ref 0),S (.ref 1),S (.v Y),S (.v (aV G (c++ [A]))),S (.v rv),S (.v (aV G (rhs G r))),S (.v (aV G (v++ [X])))] [lC G L,kC G L]=S (.v (.bool (!decide (G.nT<=X))),[lC G L,kC G L]):=
    xx (br (aa rfl) (eZ aA (aw (eN _)) rfl) ((yk w k).trans (by refine Zrr (decide_eq_false (by simp)) ?_;rfl))) (br (bu (aa rfl) aP BF) (aa rfl) (rL (ahb hg hX)))
   refine wt _ hc (λq=> ?_) (λq=> ?_)
   . have q:=by simpa using q
     exact fin (v++ [X]) (by(rw[hs.symm,u9];refine Zrr (if_neg (by lia)) ?_;rfl)) (by(rw[aY,ee]);exact e_) k
   . have q:=by simpa using q
     refine bz (pO (aa rfl) aP (G' (by lia))) (bo (zk v (by rw[aY];exact iQ _) ?_ (by lia) (λx hx=>k x (fh _ hx))))
     rw[hs.symm,u9,if_pos q];rfl
theorem nI.mono {L a}(h:L<+:a){u}(c:nI G b L u):nI G b a u:=λk A r e hr hl=>(c k A r e hr hl).imp id λo=>o.imp id (h.subset ·)
def FoP (G:Gm)(b c:Nat)(a:V):Prop:=(a= .none/\∃L,Fs G b L/\c<L.length)\/∃L,a= .lst (L.map (aV G))/\Fs G b L/\(∀w∈L,nI G b L w)/\L.length<=c+7
theorem ahe {x r}(hr:r<nR G)(h:lhs G r=x):r∈fu G x:=p_.mpr ⟨hr,h⟩
theorem PX (w:WF G){GV mv nv:V}{k o:Nat}(hg:tK G GV)(hm:mv=nV k)(hn:nv=nV o)(h1:1<=k)(oY:k<=6)(BJ:o<=1000000)(hD:1<=D):∃a,FoP G k o a/\(aQ prog D).call 48 [.v GV,.v mv,.v nv] σ=S (.v a,σ):=by
 refine yj (dE hD) rfl rfl rfl rfl λT hT=> ?_
 have hA:nm G G.nT=nQ:=by rewrite[nm,List.getD];rw[w.nA];rfl
 have eS:aV G [G.nT]= .tup [.str nQ]:=by show V.tup [.str (nm G G.nT)]=_;rw[hA];rfl
 have eT:∀ρ σ,az (aQ prog (D - 1)) (.tup (.cons (.cst (.str [36,97,99,99,101,112,116])) .nil)) ρ σ=S (.v (aV G [G.nT]),σ):=λρ σ=>by rw[eS];rfl
 have eD:∀ρ σ,az (aQ prog (D - 1)) (.aU ab .strs (.cons (.tup (.cons (.cst (.str [36,97,99,99,101,112,116])) .nil)) .nil) (.cons (.cst (.bool ab)) .nil)) ρ σ=S (.ref σ.length,σ++ [kC G [[G.nT]]]):=λρ σ=>by rewrite[kC];rw[vb,eS];rfl
 refine AG (aj (iH (aj (eT _ _) aA) (aw (by simp))) (aj (eD _ _) (aj aP aA))) rfl ?_
 refine uZ (λa Z=>∀L j6 y H I,Fs G k L->(∀u∈L.take a,nI G k L u)->a<=L.length->L.length<=o+7->Z [S (.v GV),S (.v mv),S (.v nv),S (.ref 0),S (.ref 1),S (.v (nV a)),j6,y,H,I] [lC G L,kC G L]) (λa=>o+7 - a) 0 ?_ (by show _<2^22;exact Ti BJ) ?_
 . intro Z c
   refine c [[G.nT]] _ _ _ _ ⟨by simp,λu x=> ?_,dm.mpr rfl⟩ (λu x=> ?_) (dO _) (by show 1<=_;exact zS _ _)
   . rw[dm.mp x];exact⟨h1,[],G.nT,rfl,.top,bb _⟩
   . rw[PY]at x;cases x
 intro a Z c L j6 y H I f hc ha Q
 have bl:∀L:List (List Nat),L.length<=o+14->cB [lC G L,kC G L] .len (.ref 0)=S (.val (nV L.length)):=λL Q=>eC ((pT rfl).trans (by(rw[aq _,aq _];rfl))) (aw (Tj BJ Q))
 generalize tL:nV a=av
 refine wt (decide (a<L.length)) (br (aa rfl) (cw (aa rfl) (bl L (Tn Q))) (tL▸pS)) (λq=> ?_) (λq=> ?_)
 . have q:a=L.length:=cg ha (fB (of_decide_eq_false q))
   subst q
   rw[Pp]at hc
   exact cb (aa rfl) (hT (.lst (L.map (aV G))) (.inr ⟨L,rfl,f,hc,Q⟩) ⟨_,jn rfl⟩)
 . have q:=of_decide_eq_true q
   obtain ⟨u,x⟩:∃u,L[a]?=S u:=⟨_,du q⟩
   ((refine au (f.ok u (eY x)) λe_ aF=> ?_;refine bp aF λY A O hv hA=> ?_;clear aF);obtain rfl:=O)
   rw[aY,ee]at e_
   have hAS:=A9 w hv
   have i1:b4 [lC G L,kC G L] (.ref 0) av=S (.v (aV G (Y++ [A]))):=tL▸lx rfl (aw (d0 (dM q Q) (ba (uH BJ 7) (by decide)))) (by(rw[bx,bx,x]);rfl)
   refine bz (bu (aa rfl) (aa rfl) i1) ?_
   refine d_ (nU G) (fu G A) (λdone Z=>∀b y H I,L<+:b->Fs G k b->b.length<=L.length+done.length->(∀r∈done,e9 G.nT (Y++rhs G r)= []\/k<(e9 G.nT (Y++rhs G r)).length\/e9 G.nT (Y++rhs G r)∈b)->Z [S (.v GV),S (.v mv),S (.v nv),S (.ref 0),S (.ref 1),S (.v av),S (.v (aV G (Y++ [A]))),y,H,I] [lC G b,kC G b]) (oN (bu (aa rfl) (bu (aa rfl) aP BF) (PT hg hAS hA))) ?_ ?_ ?_
   . intro Z c
     exact c L _ _ _ (A6 _) f (bb _) (λ_ h=>(nomatch h))
   . intro done r rest Z c hd b y H I U f' qO m8
     have hr:r<nR G/\lhs G r=A:=p_.mp (by rw[hd];simp)
     have h7:=PU w A
     rw[hd,aY,jG]at h7
     refine bt rfl ?_
     refine ahc w hg hm oY hr.1 hr.2 hv (bX (dM e_ oY)) f' (eP (ba qO (tQ (ba Q (uH BJ 7)) (ba (dH ..) h7))) (by decide)) λL2 j9' BD f2 sR pG=> ?_
     refine c L2 _ _ _ (U.trans BD) f2 (by(rw[aY,ee]);exact To qO sR) λr' ie=> ?_
     rcases b8.mp ie with ie|ie
     . exact(m8 r' ie).imp id λh=>h.imp id λh=>BD.subset h
     . rw[dm.mp ie];exact pG
   . intro b y H I U f' qO m8
     have h7:=PU w A
     have c1:∀σ,cO σ (.gt ()) (.v (nV b.length)) (.v nv)=S (decide (o<b.length)):=λσ=>hn▸u0
     refine td (λZ=>b.length<=o->Z [S (.v GV),S (.v mv),S (.v nv),S (.ref 0),S (.ref 1),S (.v av),S (.v (aV G (Y++ [A]))),y,H,I] [lC G b,kC G b]) (br (cw (aa rfl) (bl b (Tp Q qO h7))) (aa rfl) (c1 _)) (λZ c q=> ?_) (λZ c q=> ?_) ?_
     . exact cb aP (hT .none (.inl ⟨rfl,b,f',of_decide_eq_true q⟩) (c8 rfl))
     . exact bo (c (fB (of_decide_eq_false q)))
     . intro PZ
       have q':=d0 q U.length_le
       refine bz (b_ (aa rfl) aP (tL▸ @nu a 1)) (bo (c (a+1) (Tq PZ q') b _ _ _ _ f' (λu nY=> ?_) q' (Ts PZ)))
       rw[FO,(nH U q).symm.trans x]at nY
       rcases b8.mp nY with nY|nY
       . refine(hc u ?_).mono U
         ((refine ao U λt O=> ?_;clear U);obtain rfl:=O)
         rwa[GC (bX q)]at nY
       . have e:=by simpa using nY
         intro α' A' r e' hr ou
         rw[e]at e'
         have e1:=rf e' rfl
         rw[e1.1.symm]
         exact m8 r (ahe hr (by(rw[ou,(iB e1.2).1];rfl)))
def ReP (G:Gm)(a:V):Prop:=∃m L,1<=m/\m<=3/\a= .tup [nV m,.lst (L.map (aV G))]/\Fs G (m+3) L/\(∀w∈L,nI G (m+3) L w)/\L.length<=1000007
theorem ahf:cV (.pow ()) (.int 10) (.int 6)=S (nV 1000000):=rfl
theorem ahg (w:WF G){b}(r:tK G b)(y:2<=D):∃a,ReP G a/\(aQ prog D).call 49 [.v b] σ=S (.v a,σ):=by
 refine yj (dE y) rfl rfl rfl rfl λT H=> ?_
 have I:=dJ y
 refine d_ nV [3,2] (λ_ Z=>∀k o σ,Z [S (.v b),k,o] σ) (c7 (eZ (aj aP (aj aP aA)) (aw (by simp)) rfl) rfl) (λZ q=>q _ _ _) ?_ ?_
 . intro done m rest Z q U k o σ
   have hm:=(by decide:∀m∈ [3,2],1<=m/\m<=3) m (by rw[U];simp)
   generalize O:nV m=mv
   refine ah (PX (σ:=σ) w r (mv:=nV _) (nv:=nV _) rfl rfl (by simp) (uH hm.2 3) (by simp) I) λa ha e=>bt rfl (bz (c6 (aj (aa rfl) (aj (b_ (aa (by rw[O.symm];rfl)) aP (@nu m 3)) (aj aP aA))) e) ?_)
   rcases ha with ⟨rfl,_⟩| ⟨L,rfl,f,c,hl⟩
   . exact gy (tc (aa rfl) rfl) (bo (q _ _ _))
   refine uX (P:=λ_ _=>False) (tc (aa rfl) rfl) (cb (eZ (xs:= [.v _,.v _]) (aj (aa (by rw[O];rfl)) (aj (aa rfl) aA)) (aw (by simp)) rfl) (H _ ⟨m,L,hm.1,hm.2,rfl,f,c,ba hl (by decide)⟩ (c8 rfl))) λ_ _ h=>h.elim
 . intro k o σ
   refine ah (PX (σ:=σ) w r (mv:=nV 4) (nv:=nV 1000000) rfl rfl (by simp) (by simp) (by simp) I) λa ha e=> ?_
   rcases ha with ⟨rfl,L,f,hl⟩| ⟨L,rfl,f,c,hl⟩
   . have:=nE f.nd λu Q=>A8 4 u (λx hx=>d0 (f.G_ w u Q x hx) w.big) (f.ok u Q).1
     rw[afo]at this
     exact absurd (dM hl this) (by decide)
   exact cb (eZ (aj aP (aj (c6 (aj (aa rfl) (aj aP (aj (b_ aP aP ahf) aA))) e) aA)) (aw (by simp)) rfl) (H _ ⟨1,L,by simp,by simp,rfl,f,c,‹_›⟩ (c8 rfl))
abbrev Tr:=List (List Nat× (Nat×Nat))
def o5 (G:Gm)(a:List Nat)(r:Nat):Tr:=(List.range ((rhs G r).length+1)).map λd=>(a++ (rhs G r).take d,(r,d))
def tF (G:Gm)(f:List Nat):Tr:=(fu G (f.getLast?.getD 0)).flatMap (o5 G f.dropLast)
noncomputable def gV (m:Nat)(T:Tr):Tr:=T.filter λt=>decide (t.1.length<=m)
def eG (G:Gm)(m:Nat)(L:List (List Nat)):Tr:=gV m (L.flatMap (tF G))
def jx (T:Tr):List (List Nat):=(T.map (·.1)).foldl fN []
noncomputable def jy (T:Tr)(u:List Nat):List (Nat×Nat):=(T.filter λt=>decide (t.1=u)).map (·.2)
def gW (p:Nat×Nat):V:= .tup [nV p.1,nV p.2]
theorem ahh:∀ {l acc:List _} {x:List _},x∈l.foldl fN acc↔x∈acc\/x∈l:=by
 intro b
 induction b with
 |nil=>
  intro acc x
  simp
 |cons y l c=>
  rw[kW,propext c];rewrite[fN]
  split
  . rename_i h
    constructor
    . rintro (a|a)
      . exact .inl a
      exact .inr (dA _ a)
    . rintro (a|a)
      . exact .inl a
      exact(cy.mp a).elim (λe=> .inl (e▸h)) .inr
  . rw[b8,propext dm,propext cy,propext or_assoc];rfl
theorem ahi (h:acc.Nodup):(fN acc y).Nodup:=by
 rewrite[fN]
 split
 . exact h
 . rename_i q
   exact Zrr (propext qL) ⟨h,by simp,λa ha b hb e=>q (by rw[dm.mp hb]at e;rw[e.symm];assumption)⟩
theorem ahj:∀ {l acc:List _},acc.Nodup->(l.foldl fN acc).Nodup:=by
 intro a
 induction a with
 |nil=>
  intro _ h
  exact h
 |cons y l b=>
  intro acc h
  exact b (ahi h)
theorem Hb (T):(jx T).Nodup:=ahj Bj
theorem vj:u∈jx T↔∃p,(u,p)∈T:=by
 rewrite[jx];rw[ahh,propext bY]
 constructor
 . rintro (h| ⟨⟨v,p⟩,h,rfl⟩)
   . cases h
   exact⟨p,h⟩
 . intro O;exact ao O λp h=> .inr ⟨_,h,rfl⟩
theorem ym:p∈jy T u↔ (u,p)∈T:=by
 rewrite[jy];rw[bY]
 constructor
 . intro O;refine ah O λc h a=> ?_;clear O;subst a
   refine au (fK.mp h) λk b=> ?_
   have:=of_decide_eq_true b
   rw[this.symm];assumption
 exact λh=>⟨_,fK.mpr ⟨h,decide_eq_true rfl⟩,rfl⟩
theorem ahk:jx (T++ [(u,p)])=fN (jx T) u:=by rewrite[jx];rw[bK,g8];rfl
theorem ahl {p}:jy (T++ [(u,p)]) v=if v=u then jy T v++ [p]else jy T v:=by
 rewrite[jy];rw[j_ _ _,bK]
 by_cases h:v=u
 . rw[if_pos h];exact Zrr (pP (by simpa using h.symm)) rfl
 . rw[if_neg h];refine Zrr (pQ (by simpa using λe=>h e.symm)) ?_;rw[x8,qK,dg _];rfl
theorem ahm (h:u∉jx T):jy T u= []:=ylF.mpr λp a=>h (vj.mpr ⟨p,ym.mp a⟩)
theorem yn {L}(x:∀f∈L,∃a A,f=a++ [A]){u}{r d}:(u,(r,d))∈eG G m L↔u.length<=m/\∃a,a++ [lhs G r]∈L/\Vd G (r,d)/\u=a++ (rhs G r).take d:=by
 rw[eG,gV,propext fK,propext oS,decide_eq_true_eq,propext and_comm]
 refine and_congr_right λ_=> ?_
 constructor
 . intro O;refine ah O λf hf h=> ?_;clear O
   refine fb (x f hf) λa A O=> ?_;subst O
   refine ah (oS.mp h) λy b H=> ?_
   rw[Hc,P_]at b
   refine ah (bY.mp H) λI Q e=> ?_
   rw[Hd]at e
   have c:=Qa.mp e
   have k:=Qa.mp c.2
   have o:=p_.mp b
   have:y=r:=k.1
   subst this
   have:I=d:=k.2
   subst this
   exact have U:=o.2;⟨a,by rw[U];assumption,⟨o.1,fA (gw.mp Q)⟩,c.1.symm⟩
 . intro O;refine cD O λa hf q Y=> ?_;clear O;subst Y
   refine⟨_,hf,oS.mpr ⟨r,?_,bY.mpr ⟨d,gw.mpr (pH q.2),?_⟩⟩⟩
   . rw[Hc];exact p_.mpr ⟨q.1,rfl⟩
   . rw[Hd];rfl
theorem Qc {L}(nd:L.Nodup)(k:∀f∈L,∃o A,f=o++ [A]):(eG G m L).Nodup:=by
 refine .filter _ ?_
 rw[F8]
 have q:∀ {f:List _} {t:List _×Nat×Nat},t∈tF G f->lhs G t.2.1=f.getLast?.getD 0/\t.1=f.dropLast++ (rhs G t.2.1).take t.2.2:=λ{f t} u=>by
  refine ah (oS.mp u) λr hr h=>ah (bY.mp h) λd _ O=> ?_;subst O
  exact⟨(p_.mp hr).2,rfl⟩
 constructor
 . intro f _
   rewrite[tF];refine Zrr (propext F8) ⟨λr _=>Zrr (propext i7) (F6.imp λh e=>h (congrArg (λt:List _×Nat×Nat=>t.2.2) e)),?_⟩
   . refine(N6 G _).imp λh x hx y a e=> ?_
     refine ah (bY.mp hx) λ_ _ O=> ?_;subst O
     refine ah (bY.mp a) λ_ _ O=> ?_;subst O
     exact h (congrArg (λt:List _×Nat×Nat=>t.2.1) e)
 . refine nd.imp_of_mem λ{f g} hf H h x hx y a e=>fb (k f hf) λo A O=> ?_;subst O
   refine fb (k g H) λU B O=> ?_;subst O
   refine au (q hx) λx1 x2=>au (q a) λb c=> ?_
   rw[<-e]at b c
   rw[Hc,P_]at x1 b
   rw[Hd]at x2 c
   exact have I:A=B:=x1.symm.trans b;have Q:=List.append_cancel_right (x2.symm.trans c);h (by rw[I,Q];rfl)
theorem He (w:WF G){m}{L}(f:Fs G (m+3) L)(c:∀u∈L,nI G (m+3) L u){u}(Q:u.length<=m):(jy (eG G m L) u).Perm (bD G u):=by
 have y:∀g∈L,∃o A,g=o++ [A]:=λg U=>au (f.ok g U) λ_ q=>dh q λo A e _=>⟨o,A,e⟩
 refine u6 (by
  rw[rK];refine Zrr (propext i7) (.imp_of_mem ?_ ((Qc f.nd y).filter _))
  intro a b ha hb ne e
  exact have k:=of_decide_eq_true (fK.mp hb).2;ne (wb ((of_decide_eq_true (fK.mp ha).2).trans k.symm) e)) (rE (me G u)) λp=> ?_
 rw[ym,propext (yn y),propext kJ]
 constructor
 . intro O;refine au O λ_ q=>cD q λo x k r=>au (f.ok _ x) λ_ q=>bp q λY A' e H _=> ?_;have I:=rf e rfl
   rw[<-I.1,<-(iB I.2).1]at H
   exact⟨o,H,k,r⟩
 . intro O;refine cD O λδ x k r=>⟨Q,δ,afq w f c x (w.jY k.1).1 ?_,k,r⟩
   have:=congrArg List.length r
   rw[aY]at this
   lia
theorem ahn (w:WF G){m}{L}(f:Fs G (m+3) L)(c:∀u∈L,nI G (m+3) L u){u}:u∈jx (eG G m L)↔bE G u/\u.length<=m:=by
 rw[vj]
 constructor
 . intro O;exact ao O λp h=>have hl:=((yn λg a=>au (f.ok g a) λ_ b=>dh b λk A e _=>⟨k,A,e⟩).mp h).1;⟨⟨p,kJ.mp ((He w f c hl).mem_iff.mp (ym.mpr h))⟩,hl⟩
 . intro O;exact au O λo hl=>ao o λp h=>⟨p,ym.mp ((He w f c hl).mem_iff.mpr (kJ.mpr h))⟩
def dV (G:Gm)(T:Tr):List (V×V):=(jx T).map λu=>(aV G u,.lst ((jy T u).map gW))
theorem aho (w:WF G){c}{g:List _->c}{u}{x}(k:WS G u):∀ {K:List _},(∀v∈K,WS G v)->K.Nodup->ec (aV G u) x (K.map λv=>(aV G v,g v))=(fN K u).map λv=>(aV G v,if v=u then x else g v):=by
 intro o
 induction o with
 |nil=>
  intro _ _
  show _= [(aV G u,if u=u then x else g u)]
  rw[if_pos rfl];rfl
 |cons v K r=>
  intro h nd
  rw[dz,tA,show dN _ _=_ from G8 w (h v cT) k]
  have b:=kB.mp nd
  by_cases e:v=u
  . subst e
    rw[if_pos (decide_eq_true rfl)];rewrite[fN];rw[if_pos cT,dz,if_pos rfl]
    congr 1
    exact vf λy a=>by
     have:y≠v:=λe=>b.1 (e▸a)
     rw[if_neg this];rfl
  . refine Zrr (if_neg (by rw[decide_eq_false e];exact gr)) ?_;rw[r (λy a=>h y (dA _ a)) b.2]
    have:fN (v::K) u=v::fN K u:=by
     rewrite[fN,fN]
     by_cases q:u∈K
     . rw[if_pos q,if_pos (dA _ q)];rfl
     . rw[if_neg q];rewrite[if_neg λz=>(cy.mp z).elim (λH=>e H.symm) q];rfl
    rw[this,dz,if_neg e];rfl
theorem ahp (w:WF G){T}{u}{p}(a:∀t∈T,WS G t.1)(b:WS G u):ec (aV G u) (.lst ((jy T u).map gW++ [gW p])) (dV G T)=dV G (T++ [(u,p)]):=by
 refine Zrr (aho w b (λv c=>ao (vj.mp c) λq k=>a _ k) (Hb T)) ?_;rewrite[dV];refine Zrr ahk (vf λv _=> ?_)
 rw[ahl]
 by_cases e:v=u
 . subst e;rw[if_pos rfl,if_pos rfl,bK];rfl
 . rw[if_neg e,if_neg e];rfl
theorem ahq (w:WF G){T}{u}(a:∀t∈T,WS G t.1)(b:WS G u):(ck (aV G u) (dX (dV G T))).getD (.v (.lst []))= .v (.lst ((jy T u).map gW)):=by
 rewrite[dX];rw[PJ];refine Zrr (yl w b λv c=>ao (vj.mp c) λq k=>a _ k) ?_
 by_cases q:u∈jx T
 . rw[if_pos q];rfl
 . rw[if_neg q,ahm q];rfl
structure qf (G:Gm)(T:Tr):Prop where
 ws:∀t∈T,WS G t.1
 len:∀t∈T,t.1.length<=3
 vd:∀t∈T,Vd G t.2
 nd:T.Nodup
theorem qf.keys (w:WF G){T}(h:qf G T):(jx T).length<=820:=Zrr Ga.symm (nE (Hb T) λu b=>ao (vj.mp b) λp a=>A8 3 u (λx hx=>d0 (h.ws _ a x hx) w.big) (h.len _ a))
theorem qf.sel (w:WF G){T}(h:qf G T)(u):(jy T u).length<=28:=by
 refine u_ w ?_ λp c=>h.vd _ (ym.mp c)
 rewrite[jy];rw[rK,propext i7]
 refine .imp_of_mem ?_ (h.nd.filter _)
 intro a b ha hb ne e
 exact have k:=of_decide_eq_true (fK.mp hb).2;ne (wb ((of_decide_eq_true (fK.mp ha).2).trans k.symm) e)
theorem qf.pre {T b:Tr}(h:qf G T)(p:b<+:T):qf G b:=⟨λt a=>h.ws t (p.subset a),λt a=>h.len t (p.subset a),λt a=>h.vd t (p.subset a),h.nd.sublist p.sublist⟩
theorem ahr (w:WF G){m}(hm:m<=3){L}(f:Fs G (m+3) L):qf G (eG G m L):=by
 have k:∀g∈L,∃a A,g=a++ [A]:=λg H=>au (f.ok g H) λ_ b=>dh b λa A e _=>⟨a,A,e⟩
 refine⟨λ⟨u,r,d⟩ c=> ?_,λ⟨u,r,d⟩ c=>ba ((yn k).mp c).1 hm,λ⟨u,r,d⟩ c=> ?_,Qc f.nd k⟩
 . refine au ((yn k).mp c) λ_ b=>cD b λa q o y=> ?_;have:=f.G_ w _ q
   intro x hx
   rw[y]at hx
   exact(b8.mp hx).elim (λhx=>this x (fh _ hx)) λhx=>(w.sym o.1 x (oF hx)).1
 exact au ((yn k).mp c) λ_ b=>cD b λa q o y=>o
theorem vm {fj T}:gV m (fj++T)=gV m fj++gV m T:=j_ _ _
def rU (G:Gm)(T:Tr):Cell:= .aU .strs (dX (dV G T))
theorem ahs (w:WF G){T}{u}{p}(h:qf G (T++ [(u,p)])){cl}{ρ}{b}{f d k}(c:∀σ,az cl (.var k) ρ σ=S (.v (aV G u),σ))(o:∀σ,az cl (.var f) ρ σ=S (.ref 0,σ))
 (x:∀σ,az cl (.var d) ρ σ=S (.v (nV p.1),σ))(y:∀σ,az cl b ρ σ=S (.v (nV p.2),σ)){q}{R}{Q}(H:Do (aZ cl q ρ [rU G (T++ [(u,p)])]) Q R):
 Do (aZ cl (.cons (.gm (.var f) (.var k) (.bin ae .add (.da (.var f) .get (.cons (.var k) (.cons (.lst ae .nil) .nil))) (.lst ae (.cons (.tup (.cons (.var d) (.cons b .nil))) .nil)))) q) ρ [rU G T]) Q R:=by
 have a:=h.pre (T.prefix_append _)
 have r:WS G u:=h.ws (u,p) (by simp)
 have sl:=a.sel w u
 have I:=a.keys w
 refine jU (b_ (d9 (o _) (Nu rfl) (aj (c _) (aj (fU aA (aw (eN _)) rfl) aA)) ((PO rfl rT).trans (by rw[ahq w a.ws r];rfl))) (fU (aj (eZ (aj (x _) (aj (y _) aA)) (aw (by simp)) rfl) aA) (aw (by simp)) rfl) (ny (by rw[aq _,ee];exact aw (TG sl)))) (o _) (c _) (rB rfl rT (by rw[dX,dV,aq _,aq _];exact aw (bw I (by decide)))) ?_
 exact Zrr (by rewrite[dX];rw[PK,ahp w a.ws r];rfl: .aU _ (ec _ (.v (.lst ((jy T u).map _++ [gW p]))) _)=rU G _) H
theorem Hf {fj T:Tr}(h:fj<+:T):gV m fj<+:gV m T:=by
 refine ao h λt O=> ?_;clear h;subst O
 rw[vm];exact tm _ _
theorem BK {fj T X:Tr}(h:fj<+:T):X++fj<+:X++T:=(ylR X).mpr h
def itP (G:Gm)(l:List (Nat×Nat)):V:= .lst (l.map gW)
def dZ (G:Gm)(u:List Nat):V:= .lst ((bD G u).map gW)
theorem aht (h:ip p q):dc (gW q) (gW p)=false:=by
 show(if dN _ _ then if dN _ _ then kR [] []else dc _ _ else dc _ _)=ae
 rw[x_,x_];rcases h with h| ⟨a,b⟩
 . exact Zrr (if_neg (by lia)) decide_eq_false (by lia)
 exact Zrr (if_pos (by lia)) (Zrr (if_neg (by lia)) decide_eq_false (by lia))
theorem ahu {l t:List _}(p:l.Perm t)(s:t.Pairwise ip):gn (l.map gW)=t.map gW:=by
 refine Ef xg ?_ (p.symm.map _) ?_
 . refine λx hx=>ah (bY.mp hx) λq _ O=> ?_;subst O
   rfl
 . unfold pM
   exact Zrr (propext i7) (s.imp aht)
theorem ahv {l:List _}(h:l.length<aE):mL (l.map gW)=true:=by
 unfold mL
 refine Zrr (show(l.map _).all iU=ab from by rw[nD,propext cF];exact λ_ _=>rfl) (Zrr (decide_eq_true (by rw[aq _];assumption)) ?_);rw[Bool.or_true _];rfl
theorem Qe {α:Type}{c g:α->V}{t}(q:∀a,dS t (c a)=ab){l}(inj:∀a∈l,∀b∈l,a≠b->dN (c a) (c b)=ae):∀(r done:List α),l=done++r->l.Nodup->r5 t (r.map λa=> .tup [c a,g a]) (done.map λa=>(c a,g a))=S (l.map λa=>(c a,g a)):=by
 intro u
 induction u with
 |nil=>
  intro done e _
  rw[e,dg _];rfl
 |cons a r y=>
  intro done e nd
  have H:ck (c a) (done.map λa=>(c a,g a))=none:=by
   have k:=λd k=>by
    refine inj d (by rw[e];exact fh _ k) a (by rw[e];simp) λz=> ?_
    rw[e,qL]at nd
    exact nd.2.2 d k a cT z
   clear e nd
   induction done with
   |nil=>rfl
   |cons d done o=>
    rw[dz,mm];exact Zrr (k d cT) (o λx hx=>k x (dA _ hx))
  have o:=y (done++ [a]) (by rw[e,bM _ _ _];rfl) nd
  rw[bK]at o
  exact(b9 (q a)).trans (Zrr (tB H) o)
def qh (G:Gm)(m:Nat)(a:V):Prop:=∃K:List (List Nat),K.Nodup/\(∀u,u∈K↔bE G u/\u.length<=m)/\a= .aU .strs (K.map λu=>(aV G u,dZ G u))
theorem ahw {d}(a:d<=u.length)(h:u.length<1000):mJ (aV G u) (nV d)=S (aV G (u.take d)):=by
 have hl:((u.map (nm G)).map V.str).length=u.length:=by simp
 refine(b9 (by rw[hl];exact aw (dq h (by decide)))).trans ?_
 rw[hl];rewrite[lQ];rw[y_ _,jI a];rewrite[aV];rw[Bp,Bp];rfl
theorem ahx (w:WF G){Y mv:V}(hg:tK G Y){m:Nat}(jw:mv=nV m)(hm:m<=3){L:List (List Nat)}(f:Fs G (m+3) L)(c:∀u∈L,nI G (m+3) L u)(hL:L.length<=1000007)(hD:1<=D):
 ∃a,qh G m a/\(aQ prog D).call 50 [.v Y,.v (.lst (L.map (aV G))),.v mv] σ=S (.v a,σ):=by
 refine yj (dE hD) rfl rfl rfl rfl λT hT=> ?_
 have BL:=ahr w hm f
 generalize Qf:V.lst (L.map (aV G))=FV
 refine bz tD ?_
 refine d_ (aV G) L (λdone Z=>∀j4 Q U y H,Z [S (.v Y),S (.v FV),S (.v mv),S (.ref 0),j4,Q,U,y,H,J] [rU G (eG G m done)]) (c7 (aa rfl) (by rw[Qf.symm];rfl)) ?_ ?_ ?_
 . intro Z x
   exact x _ _ _ _ _
 . intro done g rest Z x hd j4 Q U y H
   ((refine au (f.ok g (by rw[hd];simp)) λQg aF=> ?_;refine bp aF λo A O hv hA=> ?_;clear aF);obtain rfl:=O)
   rw[aY,ee]at Qg
   have eF:tF G (o++ [A])=(fu G A).flatMap (o5 G o):=by rewrite[tF];rw[Hc,P_,Hd];rfl
   have Qh:eG G m done++gV m (tF G (o++ [A]))<+:eG G m L:=by
    rewrite[eG,eG];rw[vm.symm]
    refine Hf ?_
    rw[hd,qb,Bb]
    exact BK (tm _ _)
   have eT:eG G m (done++ [o++ [A]])=eG G m done++gV m (tF G (o++ [A])):=by rewrite[eG,eG];rw[vm.symm,qb,Bc _ _];rfl
   rw[eT]at x
   generalize eG G m done=T0 at Qh x ⊢
   refine bt rfl ?_
   refine d_ (nU G) (fu G A) (λdn Z=>∀Q U y H,Z [S (.v Y),S (.v FV),S (.v mv),S (.ref 0),S (.v (aV G (o++ [A]))),Q,U,y,H,J] [rU G (T0++gV m (dn.flatMap (o5 G o)))]) (oN (bu (aa rfl) (bu (aa rfl) aP BF) (PT hg (A9 w hv) hA))) ?_ ?_ ?_
   . intro Z x
     exact kq (x _ _ _ _) (by show _= [rU G (T0++ [])];rw[dg _];rfl)
   . intro dn r rs Z x er Q U y H
     have hr:r<nR G/\lhs G r=A:=p_.mp (by rw[er];simp)
     have ou:=w.len hr.1
     have Qi:T0++gV m (dn.flatMap (o5 G o))++gV m (o5 G o r)<+:eG G m L:=by
      rw[bM _ _ _,vm.symm]
      refine(BK (Hf ?_)).trans Qh
      rw[eF,er,qb,Bb]
      exact BK (tm _ _)
     have eT1:T0++gV m ((dn++ [r]).flatMap (o5 G o))=T0++gV m (dn.flatMap (o5 G o))++gV m (o5 G o r):=by rw[qb,Bc _ _,vm,bM _ _ _];rfl
     rw[eT1]at x
     generalize T0++gV m (dn.flatMap (o5 G o))=T1 at Qi x ⊢
     generalize Ha:nV r=rv
     have eg:nU G r= .tup [rv,aV G (rhs G r)]:=by rw[Ha.symm];rfl
     rw[eg]
     refine bt rfl ?_
     refine uY nV ((rhs G r).length+1) (λk Z=>∀y H,Z [S (.v Y),S (.v FV),S (.v mv),S (.ref 0),S (.v (aV G (o++ [A]))),S (.v rv),S (.v (aV G (rhs G r))),y,H,J] [rU G (T1++gV m ((List.range k).map λd=>(o++ (rhs G r).take d,(r,d))))])
      (pU (b_ (cw (aa rfl) (BG (bw ou (by decide)))) aP (@nu _ 1)) (aw (q5 ou))) ?_ ?_ ?_
     . intro Z x
       exact kq (x _ _) (by show _= [rU G (T1++ [])];rw[dg _];rfl)
     . intro k Z x hk y H
       have yo:T1++gV m ((List.range (k+1)).map λd=>(o++ (rhs G r).take d,(r,d)))<+:eG G m L:=by
        refine(BK (Hf ?_)).trans Qi
        obtain ⟨e,he⟩:∃e,(rhs G r).length+1=(k+1)+e:=⟨(rhs G r).length - k,(TB hk)⟩
        have hz:List.range ((k+1)+e)=List.range (k+1)++ (List.range e).map (k+1+ ·):=yqN
        rewrite[o5];rw[he,hz,bK]
        exact tm _ _
       rw[kI,bK,vm,<-bM,vb]at yo x
       generalize T1++gV m ((List.range k).map λd=>(o++ (rhs G r).take d,(r,d)))=T2 at yo x ⊢
       generalize BM:nV k=kv
       refine bt rfl ?_
       refine bz (b_ (pO (aa rfl) aP (G' (by lia))) (pO (aa rfl) (aa rfl) (BM▸ahw (fA ‹_›) (bw ou (by decide)))) (G9 (by rw[ig];lia))) ?_
       have c1:∀σ,cO σ .le (.v (nV (o++ (rhs G r).take k).length)) (.v mv)=S (decide ((o++ (rhs G r).take k).length<=m)):=λσ=>jw▸Fq
       refine jV (br (cw (aa rfl) (BG (by(rw[aY,ig]);lia))) (aa rfl) (c1 _)) (λq=> ?_) (λq=> ?_) λ_ _ h=>bo h
       . have e1:gV m [(o++ (rhs G r).take k,(r,k))]= [(o++ (rhs G r).take k,(r,k))]:=pP q
         have yo:T2++ [(o++ (rhs G r).take k,(r,k))]<+:eG G m L:=by rw[e1.symm];exact yo
         rw[e1]at x
         exact ahs w (BL.pre yo) (λ_=>aa rfl) (λ_=>aa rfl) (λ_=>aa (by rw[Ha];rfl)) (λ_=>aa (by rw[BM];rfl)) (bo (x _ _))
       . have e1:gV m [(o++ (rhs G r).take k,(r,k))]= []:=pQ (by rw[q];exact gr)
         rw[e1,dg]at x
         exact bo (x _ _)
     . intro y H
       exact bo (x _ _ _ _)
   . intro Q U y H
     exact bo (kq (x _ _ _ _ _) (by(rw[eF];rfl)))
 . intro j4 Q U y H
   have kw:∀u∈jx (eG G m L),WS G u:=λu I=>by refine ao (vj.mp I) λp hp=> ?_;exact BL.ws _ hp
   have kv:∀u,u∈jx (eG G m L)↔bE G u/\u.length<=m:=λu=>ahn w f c
   have kn:=Hb (eG G m L)
   have kl:=BL.keys w
   have ks:=λu I=>He w f c ((kv u).mp I).2
   have sl:=(BL.sel w)
   have lk:∀u∈jx (eG G m L),ck (aV G u) (dV G (eG G m L))=S (.lst ((jy (eG G m L) u).map gW)):=λu I=>(yl w (kw u I) kw).trans (if_pos I)
   refine l_ rfl (Fo rfl) ?_
   have ek:kT (.aU .strs (dV G (eG G m L)))=S ((jx (eG G m L)).map (aV G)):=by
    show S (keysOf _)=_
    rewrite[keysOf,dV];rw[b5];rfl
   generalize dV G (eG G m L)=DV at lk ek
   generalize jx (eG G m L)=K at kw kv kn kl ks lk ek
   generalize Hg:V.aU .strs DV=dv at ek
   have g:=jo (f:=λa af=>(bV (.one 9) a [S (.v Y),S (.v FV),S (.v mv),S (.v dv),j4,Q,U,y,H,J]).bind λρ'=>az (aQ prog (D - 1)) (.tup (.cons (.var 9) (.cons (.bf ae .sorted (.idx (.var 3) (.var 9))) .nil))) ρ' af) (aV G) (λu=>X.v (.tup [aV G u,dZ G u])) K [.dead] λu I=>by
    have b1:cB [.dead] .sorted (.v (.lst ((jy (eG G m L) u).map gW)))=S (.items ((bD G u).map gW)):=by
     refine Zrr (mh rfl (ahv (aw (by have:=sl u;exact bw this (by decide))))) ?_;rw[ahu (ks u I) (me G u)];rfl
    refine aJ rfl (eZ (aj (aa rfl) (aj (iI (bu (aa rfl) (aa rfl) ?_) b1) aA)) (aw (by simp)) rfl)
    rw[Hg.symm];exact xI rT (lk u I)
   have e2:K.map (λu=>X.v (.tup [aV G u,dZ G u]))=(K.map λu=>V.tup [aV G u,dZ G u]).map .v:=by rw[b5];rfl
   rw[e2]at g
   have hd:=Qe (g:=dZ G) (λ_=>rT) (λa ha b hb ne=>(G8 w (kw a ha) (kw b hb)).trans (decide_eq_false ne)) K [] rfl kn
   have kL:(K.map λu=>V.tup [aV G u,dZ G u]).length<aE:=by rw[aq _];exact aw (bw kl (by decide))
   have b2:cB [.dead] (.dict .strs) (.v (.lst (K.map λu=>V.tup [aV G u,dZ G u])))=S (.val (.aU .strs (K.map λu=>(aV G u,dZ G u)))):=(b9 kL).trans (bP hd)
   exact cb (cw (jm (c7 (aa rfl) ek) g (by rw[aq _];exact kL) (fV _)) b2) (hT _ ⟨K,kn,kv,rfl⟩ (c8 rfl))
theorem Qj (h:∀a∈l,gJ a a=ab):lN l l=true:=by
 induction l with
 |nil=>rfl
 |cons a l c=>exact dF.mpr ⟨h a cT,c λb hb=>h b (dA _ hb)⟩
theorem ahy:∀(k:Nat) (a:V),isData k a=ab->gJ a a=true:=by
 intro k
 induction k with
 |zero=>
  intro a h
  cases a with
  |none=>rfl
  |int a=>exact decide_eq_true rfl
  |str s=>exact decide_eq_true rfl
  |_=>exact bT h
 |succ k b=>
  intro a h
  cases a with
  |none=>rfl
  |int a=>exact decide_eq_true rfl
  |str s=>exact decide_eq_true rfl
  |tup xs=>exact Qj λa ha=>b a (cF.mp h a ha)
  |lst xs=>exact Qj λa ha=>b a (cF.mp h a ha)
  |_=>exact bT h
theorem Qk (h:isData 4 a=ab):eqv a a=S true:=(b9 ⟨h,h⟩).trans (congrArg _ (ahy 4 a h))
theorem eq_self (h:isData 4 a=ab):cO σ .eq (.v a) (.v a)=S true:=by
 cases a<;>first|exact Qk h|exact bT h
theorem ne_self (h:isData 4 a=ab):cO σ .ne (.v a) (.v a)=S false:=by
 cases a<;>first|exact congrArg (Option.map _) (Qk h)|exact bT h
theorem vn (h:∀x∈l,isInt x=ab):isData (k+1) (.lst l)=true:=by
 show l.all _=ab
 rw[cF]
 intro x hx
 have:=h x hx
 cases x<;>first|cases k<;>rfl|exact bT this
theorem ahz (w:WF G){r}(h:r<nR G):isData 3 (nN G r)=true:=by
 show(isData 2 _&& (isData 2 (aV G _) &&ab))=ab
 rw[PQ w λx hx=>(w.sym h x hx).1,show isData 2 (.str _)=ab from G7 w (w.jY h).2];rfl
theorem ahA (w:WF G)(o:1<=D):(aQ prog D).call 51 [.v (vG G),.v (.lst (iN G))] σ=S (.v (.bool ab),σ):=by
 refine ed (dE o) rfl rfl rfl rfl λT q=> ?_
 have hr:=w.nr
 refine bz (iH aA (aw (eN _))) (d_ _ _ (λdone Z=>∀b,Z [S (.v (vG G)),S (.v (.lst (iN G))),S (.ref 0),b,J] [cL (done.map (nN G))]) (c7 (a_ (aa rfl) xP) rfl) (λZ c=>c _) ?_ ?_)
 . intro done r rest Z c k b
   have hk:=Fd k
   have hl:=w.len hk
   have dl:done.length<=7:=by
    have:=congrArg List.length k
    rw[cP,aY]at this
    lia
   have g:=jo (f:=λa u=>(bV (.one 4) a [S (.v (vG G)),S (.v (.lst (iN G))),S (.ref 0),S (.v (fJ G r)),J]).bind (az (aQ prog (D - 1)) (.idx (.attr (.var 0) 7) (.var 4)) · u)) nV _ _ [cL (done.map (nN G))] λx hx=>
    aJ rfl (bu (a_ (aa rfl) xO) (aa rfl) (AQ w (w.sym hk x hx).1))
   rw[(by rw[b5];rw[b5];rfl:(rhs G r).map (λx=>X.v (.str (nm G x)))=(((rhs G r).map (nm G)).map .str).map .v)]at g
   refine bt rfl (fH (d9 (aa rfl) (gz rfl) (aj (eZ (aj (bu (a_ (aa rfl) xO) (a_ (aa rfl) FE) (AQ w (w.jY hk).2)) (aj (cw (jm (c7 (a_ (aa rfl) xQ) rfl) g (by rw[aq _,aq _,aq _];exact aw (bw hl (by decide))) (fV _)) (xK (by rw[aq _,aq _];exact aw (bw hl (by decide))))) aA)) (aw (by simp)) rfl) aA) (i9 rfl (by rw[aq _];exact aw (bw dl (by decide))))) (bo (kq (c _) ?_)))
   rw[bK];rfl
 . refine λb=>l_ rfl (jn rfl) (cb (br (aa rfl) (aa rfl) (eq_self ?_)) (q (c8 rfl)))
   refine Zrr (propext cF) λx hx=>ah (bY.mp hx) λr hr O=> ?_;subst O
   exact ahz w (gw.mp hr)
theorem ahB (h:Vd G p):(decide (0<p.1) &&decide (p.2=(rhs G p.1).length))=kK G p:=by
 have a:=h.2
 rw[kK,cK,Bool.and_comm _ _]
 congr 1
 . rw[qG,propext C2,propext DC];exact decide_eq_true_iff.trans ⟨λe=>aK e.symm,λz=>cg a z⟩
 exact decide_eq_decide.mpr Nat.pos_iff_ne_zero
theorem ahC (w:WF G){t:Nat}{u:List Nat}(hu:bE G u)(hD:2<=D):(aQ prog D).call 52 [.v (vG G),.v (gH G ws t u),.v (aV G u),.v (dZ G u)] σ=S (.v (.bool ab),σ):=by
 refine ed (ρ:= [S (.v (vG G)),S (.v (gH G ws t u)),S (.v (aV G u)),S (.v (dZ G u)),J,J,J,J,J,J,J,J,J]) (dE hD) rfl rfl rfl rfl λT hT=> ?_
 have Q:=dJ hD
 have il:=OV w u
 have U:=λσ=>jr (G:=G) (σ:=σ)
 generalize L:gH G ws t u=k
 have Ql:∀σ,ef σ (.v k) 19=S (.v (.lst (iq G u))):=λσ=>L▸yf
 have Hh:∀σ,ef σ (.v k) 17=S (.v (eE G u)):=λσ=>L▸rfl
 have r:∀σ,ef σ (.v k) 18=S (.v (gE u.getLast?)):=λσ=>L▸rfl
 have Y:∀σ,ef σ (.v k) 21=S (.v (.lst (mn G u))):=λσ=>L▸rfl
 have g1:=jo (f:=λa o=>(bV (.two 7 8) a [S (.v (vG G)),S (.v k),S (.v (aV G u)),S (.v (dZ G u)),J,J,J,J,J,J,J,J,J]).bind λρ'=>az (aQ prog (D - 1)) (.bN (.var 0) 1 7 (.cons (.var 7) (.cons (.var 8) .nil))) ρ' o) gW (λp=>X.v (vI G p)) (bD G u) [] λp q=>
  aJ rfl (cX (aa rfl) (U _) (aj (aa rfl) (aj (aa rfl) aA)) (u3 w (rG p q).1 Q))
 rw[show(bD G u).map (λp=>X.v (vI G p))=((bD G u).map (vI G)).map .v from by rw[b5];rfl]at g1
 have s1:∀σ,cB σ .sorted (.v (.lst ((bD G u).map (vI G))))=S (.items ((bD G u).map (vI G))):=λσ=>by
  refine Zrr (mh rfl (oU lF (by rw[aq _];exact aw (bw il (by decide))))) ?_;rw[tn (.refl _) rG (me G u)];rfl
 refine bz (iI (jm (oN (aa rfl)) g1 (by(rw[aq _,aq _]);exact aw (bw il (by decide))) (fV _)) (s1 _)) ?_
 generalize Hi:V.lst ((bD G u).map (vI G))=y
 have g2:=xG (c:=λa o=>(bV (.two 9 10) a [S (.v (vG G)),S (.v k),S (.v (aV G u)),S (.v (dZ G u)),S (.v y),J,J,J,J,J,J,J,J]).bind λρ'=>(az (aQ prog (D - 1)) (.or (.cmp (.gt ()) (.var 10) (.cst (.int 0))) (.cmp .eq (.var 9) (.cst (.int 0)))) ρ' o).bind gp)
  (f:=λa o=>(bV (.two 9 10) a [S (.v (vG G)),S (.v k),S (.v (aV G u)),S (.v (dZ G u)),S (.v y),J,J,J,J,J,J,J,J]).bind λρ'=>az (aQ prog (D - 1)) (.bN (.var 0) 1 7 (.cons (.var 9) (.cons (.var 10) .nil))) ρ' o) gW gg (λp=>X.v (vI G p)) (bD G u) []
  (λp q=>aJ rfl (jl (aev (br (aa rfl) aP (u0)) λ_=>br (aa rfl) aP (tf))))
  (λp q _=>aJ rfl (cX (aa rfl) (U _) (aj (aa rfl) (aj (aa rfl) aA)) (u3 w (rG p q).1 Q)))
 rw[show((bD G u).filter gg).map (λp=>X.v (vI G p))=((aW G u).map (vI G)).map .v from by rw[b5];rfl]at g2
 have O:=Gg w u
 have s2:∀σ,cB σ .sorted (.v (.lst ((aW G u).map (vI G))))=S (.items ((aW G u).map (vI G))):=λσ=>by
  refine Zrr (mh rfl (oU lF (by rw[aq _];exact aw (bw O (by decide))))) ?_;rw[tn (List.Perm.refl _) p9 (rF G u)];rfl
 refine bz (iI (xB (oN (aa rfl)) g2 (by(rw[aq _,aq _]);exact aw (bw O (by decide))) (fV _)) (s2 _)) ?_
 generalize H:V.lst ((aW G u).map (vI G))=I
 have g3:=xG (c:=λa o=>(bV (.two 11 12) a [S (.v (vG G)),S (.v k),S (.v (aV G u)),S (.v (dZ G u)),S (.v y),S (.v I),J,J,J,J,J,J,J]).bind λρ'=>(az (aQ prog (D - 1)) (.and (.cmp (.gt ()) (.var 11) (.cst (.int 0))) (.cmp .eq (.var 12) (.bf ae .len (.attr (.idx (.attr (.var 0) 9) (.var 11)) 2)))) ρ' o).bind gp)
  (f:=λa o=>(bV (.two 11 12) a [S (.v (vG G)),S (.v k),S (.v (aV G u)),S (.v (dZ G u)),S (.v y),S (.v I),J,J,J,J,J,J,J]).bind λρ'=>az (aQ prog (D - 1)) (.var 11) ρ' o) gW (kK G) (λp=>X.v (nV p.1)) (bD G u) []
  (λp q=>aJ rfl (jl (by
   have hv:=rG p q
   have b:∀σ,cB σ .len (.v (.tup ((rhs G p.1).map nV)))=S (.val (nV (rhs G p.1).length)):=λσ=>eC (congrArg S (aq _)) (aw (by have:=w.len hv.1;exact bw this (by decide)))
   rw[(ahB hv).symm]
   exact xy (br (aa rfl) aP (u0)) λ_=>br (aa rfl) (cw (a_ (bu (a_ (aa rfl) xP) (aa rfl) (AP w hv.1)) xQ) (b _)) tf)))
  (λp q _=>aJ rfl (aa rfl))
 have rl:(mn G u).length<=28:=by
  have:=jZ (kK G) (bD G u)
  rewrite[mn];rw[aq _];exact ba ‹_› ‹_›
 rw[show((bD G u).filter (kK G)).map (λp=>X.v (nV p.1))=(mn G u).map .v from by rewrite[mn];rw[b5];rfl]at g3
 refine bz (xB (oN (aa rfl)) g3 (by rw[aq _];exact aw (bw rl (by decide))) (fV _)) ?_
 have d4:isData 4 y=true:=Hi▸vn lF
 have d5:isData 4 I=true:=H▸vn lF
 have d6:isData 4 (.lst (mn G u))=true:=vn x9
 have t1:∀σ,cB σ .sorted (.v (.lst (iq G u)))=S (.items ((bD G u).map (vI G))):=λσ=>OW w rfl
 have t2:∀σ,cB σ .list (.v (eE G u))=S (.items ((aW G u).map (vI G))):=λσ=>Fw (by rw[aq _];exact aw (bw O (by decide)))
 have cl:=rI w u
 have t3:∀σ,cB σ .list (.v (.lst (iq G u)))=S (.items (iq G u)):=λσ=>AL (by(rewrite[iq];rw[aq _]);exact aw (bw cl (by decide)))
 have t4:∀σ,cB σ .list (.v (.lst (mn G u)))=S (.items (mn G u)):=λσ=>AL (aw (bw rl (by decide)))
 have t5:∀σ,cB σ .len (.v I)=S (.val (nV (aW G u).length)):=λσ=>H▸eC (congrArg S (aq _)) (aw (bw O (by decide)))
 have t6:mJ (.lst (iq G u)) (nV (aW G u).length)=S I:=by
  have hl:(iq G u).length=(cls G u).length:=aq _
  have hkc:(aW G u).length<=(cls G u).length:=by rewrite[cls];rw[aY];exact dH _ _
  refine(b9 (by rw[hl];exact aw (bw cl (by decide)))).trans ?_
  rw[hl];rewrite[lQ];refine Zrr (if_neg (by lia)) ?_;rw[y_ _,jI hkc];rewrite[iq,cls];rw[bK];refine Zrr (GC (by rw[aq _];exact bb _)) ?_;refine Zrr (gb (by rw[aq _];exact bb _)) ?_;rw[H];rfl
 refine gy (jT (br (iI (a_ (aa rfl) (Ql _)) (t1 _)) (aa (by rw[Hi];rfl)) (Hi▸ne_self d4)) (jT (br (iI (a_ (aa rfl) (Hh _)) (t2 _)) (aa (by rw[H];rfl)) (H▸ne_self d5)) (br (pO (iI (a_ (aa rfl) (Ql _)) (t3 _)) (cw (aa rfl) (t5 _)) t6) (aa rfl) (ne_self d5)))) ?_
 refine cb (aR:= []) (xx (br (iI (a_ (aa rfl) (Y _)) (t4 _)) (aa rfl) (eq_self d6)) ?_) (hT (c8 rfl))
 rcases snoc_cases u with rfl| ⟨v,X,rfl⟩
 . exact br (a_ (aa rfl) (r _)) (AF (br (aa rfl) (eZ aA (aw (eN _)) rfl) (yk w λx hx=>nomatch hx)) aP) rfl
 . have hw:=mf w hu
   have r:=r []
   rw[OM]at r
   exact br (a_ (aa rfl) r) (AE (br (aa rfl) (eZ aA (aw (eN _)) rfl) ((yk w hw).trans (by refine Zrr (decide_eq_false (by simp)) ?_;rfl))) (cX (aa rfl) (U _) (aj (bu (aa rfl) aP BF) aA) (AU w (hw X (by simp)) Q))) (tf.trans (by(rw[decide_eq_true rfl];rfl)))
def mw (G:Gm)(ws:List (List Nat))(u:List Nat):V:= .tup [aV G u,nV (stN G ws u)]
def jz (G:Gm)(ws L:List (List Nat)):Cell:=cL (L.map (mw G ws))
structure o6 (ws done:List (List Nat))(f:Nat):Prop where
 le:f<=ws.length
 Hj:∀t,t<f->∀u,ws[t]?=S u->u∈done
 out:∀u,ws[f]?=S u->u∉done
theorem o6.step (w:WF G)(f:Fin G ws){m a n}{F}(U:tu F)(all:∀u,bE G u->u.length<=m->u∈F)(mem:∀u∈F,bE G u/\u.length<=m)(h:o6 ws (F.take a) n){u}(r:F[a]?=S u):
 ∃v,ws[stN G ws u]?=S v/\bD G v=bD G u/\((stN G ws u=n/\v=u/\o6 ws (F.take (a+1)) (n+1))\/(stN G ws u<n/\o6 ws (F.take (a+1)) n)):=by
 have hm:=mem u (eY r)
 have yr:∀x∈u,x<16:=λx hx=>by have:=mf w hm.1 x hx;have:=w.big;exact dq (dM ‹_› this) (by decide)
 have below:∀z,bE G z->num z<=num u->z=u\/z∈F.take a:=λz vz b=>by
  refine ao (uI (all z vz (ba (F9 u z yr b) hm.2))) λi k=> ?_
  rcases i.lt_trichotomy a with q|q|q
  . exact .inr (eY (by(rw[xc,if_pos q]);exact k))
  . subst q;rw[r]at k;cases k;exact .inl rfl
  . exact absurd (tv U r k q) (mD b)
 have H:∀z∈F.take a,num z<num u:=λz b=>by
  refine ao (uI b) λi k=> ?_
  rw[xc]at k
  split at k
  . rename_i q;exact tv U k r q
  . exact aD k
 have I:F.take (a+1)=F.take a++ [u]:=by rw[FO,r];rfl
 refine cD (f.first w hm.1) λv o BN Y=> ?_
 have vv:=(f.BI w).u5 v (eY o)
 refine⟨v,o,BN,?_⟩
 rw[I]
 have jL:=f.z9 w
 have L:∀t z,ws[t]?=S z->bE G z:=λt z b=>(f.BI w).u5 z (eY b)
 rcases(stN G ws u).lt_trichotomy n with q|q|q
 . refine .inr ⟨q,h.le,λt O z b=>fh _ (h.Hj t O z b),λz b c=> ?_⟩
   rcases b8.mp c with c|c
   . exact h.out z b c
   . rw[dm.mp c]at b
     have:=f.xV w b
     exact HZ q this
 . have e:=(below v vv Y).resolve_right (h.out v (q▸o))
   refine .inl ⟨q,e,?_⟩
   subst e
   refine⟨by have:=(dk.mp o).1;exact bw (aK q.symm) this,λt O z b=> ?_,λz b c=> ?_⟩
   . rcases yE (fA O)with Q|Q
     . exact fh _ (h.Hj t Q z b)
     . rw[Q,<-q,o]at b;cases b;simp
   . have y:=tv jL o b (TS q)
     rcases b8.mp c with c|c
     . have:=H z c;exact TU y this
     . rw[dm.mp c]at y;lia
 . exfalso
   have hlt:=(dk.mp o).1
   have b:ws[n]?=S ws[n]:=du (dq q hlt)
   have y:=tv jL b o q
   rcases below _ (L _ _ b) (bX (dM y Y))with e|e
   . rw[e]at y;lia
   . exact h.out _ b e
theorem ahG (w:WF G):lR 0 (G.fI.map .str)=(List.range (nS G)).map λx=> .tup [nV x,.str (nm G x)]:=by
 rw[Fp _ _]
 refine gQ λi=> ?_
 rw[bx,lG,bx,bx]
 rcases i.lt_or_ge _ with h|h
 . rw[iJ h,pZ h,fc _];rfl
 . refine Zrr (eX (Zrr cP h)) ?_;rw[eX h];rfl
theorem ahH (w:WF G){m}{b}(c:qh G m b){u}(k:WS G u)(hl:u.length<=m):n8 σ (aV G u) (.v b)=S (gT G ws u).isSome:=by
 refine cD c λK nd a O=> ?_;clear c;subst O
 refine(PR rT).trans (congrArg _ ?_)
 rewrite[yl w k λv o=>mf w ((a v).mp o).1]
 by_cases q:bE G u
 . rw[if_pos ((a u).mpr ⟨q,hl⟩),kN q];rfl
 . rewrite[if_neg λz=>q ((a u).mp z).1];rw[lH q];rfl
theorem yt (w:WF G){m}{a}(b:qh G m a){u}(v:bE G u)(hl:u.length<=m):b4 σ (.v a) (aV G u)=S (.v (dZ G u)):=by
 refine cD b λK nd c O=> ?_;clear b;subst O
 exact xI rT ((yl w (mf w v) λv k=>mf w ((c v).mp k).1).trans (if_pos ((c u).mpr ⟨v,hl⟩)))
theorem Qn (w:WF G){u}{x}(h:u.length<900):cV .add (aV G u) (.tup [.str (nm G x)])=S (aV G (u++ [x])):=G9 (v:= [x]) (by show u.length+1<1000;exact Ux h)
theorem ahI (w:WF G)(f:Fin G ws){m}{H mv O}(hV:qh G m H)(hm:m<=3)(hD:2<=D){u}(v:bE G u)(U:u.length<m){L}(hL:L.length<=820){y}{c o r}{ss}{R}{Q}{I}(mA:I=nV (stN G ws u))
 (kk:∀c o r,Do (aZ (aQ prog D) ss [S (.v (vG G)),S (.v (vM G ws)),S (.v H),S (.v mv),S (.ref 0),S (.ref 1),S (.v O),S (.v (aV G u)),S (.v I),c,o,r] [jz G ws (L++ (bS G u).map λX=>u++ [X]),y]) Q R):
 Do (aZ (aQ prog D) (.cons (.cq (.two 9 10) (.enum (.attr (.var 0) 7)) B4) ss) [S (.v (vG G)),S (.v (vM G ws)),S (.v H),S (.v mv),S (.ref 0),S (.ref 1),S (.v O),S (.v (aV G u)),S (.v I),c,o,r] [jz G ws L,y]) Q R:=by
 generalize Y:vM G ws=MV
 have hb:=w.big
 have sel:=λk=>by
  have:=jZ (λX=>(gT G ws (u++ [X])).isSome) (List.range k)
  rwa[cP]at this
 refine uY (λx=> .tup [nV x,.str (nm G x)]) (nS G) (λk Z=>∀c o r,Z [S (.v (vG G)),S (.v MV),S (.v H),S (.v mv),S (.ref 0),S (.ref 1),S (.v O),S (.v (aV G u)),S (.v I),c,o,r] [jz G ws (L++ ((List.range k).filter λX=>(gT G ws (u++ [X])).isSome).map λX=>u++ [X]),y])
  ((Fb (a_ (aa rfl) xO) (by rw[aq _];exact aw (by unfold nS at hb;lia))).trans (by(rw[ahG w];rfl))) ?_ ?_ ?_
 . intro Z a
   exact kq (a _ _ _) (by rw[List.range_zero];show _= [jz G ws (L++ []),y];rw[dg _];rfl)
 . intro k Z a hk c o r
   have wu:=λx hx=>(b8.mp hx).elim (mf w v x) λe=>by rw[dm.mp e];assumption
   have sk:=sel k
   rw[kI,j_,bK]at a
   generalize ((List.range k).filter λX=>(gT G ws (u++ [X])).isSome)=fj at sk a ⊢
   generalize BM:nV k=kv
   refine bt rfl ?_
   have g1:=λσ=>GB (σ:=σ) (X:=k) w f v hD
   rw[Y,<-mA,BM]at g1
   have cM:∀σ,n7 σ (.v MV)=S 4:=λσ=>Y▸nL
   refine bz (cX (aa rfl) (cM _) (aj (aa rfl) (aj (aa rfl) aA)) (g1 _)) ?_
   have i1:=λσ=>ahH (σ:=σ) (ws:=ws) w hV wu (by(rw[aY,ee]);exact U)
   have cn:∀b:Bool,∀σ,cO σ .ne (.v (.bool b)) (.v (.bool b))=S false:=λb σ=>by cases b<;>rfl
   have cI:=i1
   refine gy (br (br (aa rfl) aP x7) (br (b_ (aa rfl) (eZ (aj (aa rfl) aA) (aw (by simp)) rfl) (Qn w (dq (dM U hm) (by decide)))) (aa rfl) (cI _)) (cn _ _)) ?_
   refine jV
    (br (aa rfl) aP x7) (λq=> ?_) (λq=> ?_) λ_ _ h=>bo h
   . have vk:=ylI λz=>by rw[lH z]at q;exact bT q
     have e1:([k]).filter (λX=>(gT G ws (u++ [X])).isSome)= [k]:=pP q
     rw[e1]at a
     rw[kN vk]
     refine fH (d9 (aa rfl) (gz rfl) (aj (eZ (aj (b_ (aa rfl) (eZ (aj (aa rfl) aA) (aw (by simp)) rfl) (Qn w (dq (dM U hm) (by decide)))) (aj (aa rfl) aA)) (aw (by simp)) rfl) aA) (i9 rfl (by(rw[aq _,aY,aq _]);exact aw (S6 hL hb hk sk)))) (bo (kq (a _ _ _) ?_))
     show [cL ((L++fj.map (λX=>u++ [X])).map (mw G ws)++ [mw G ws (u++ [k])]),y]=_
     rewrite[jz];rw[(bM _ _ _).symm,(bK (l₁:=L++_))];rfl
   . have e1:([k]).filter (λX=>(gT G ws (u++ [X])).isSome)= []:=pQ (by rw[q];exact gr)
     rw[e1,qK,dg]at a
     exact bo (a _ _ _)
 . intro c o r
   have e:((List.range (nS G)).filter λX=>(gT G ws (u++ [X])).isSome)=bS G u:=ypE λX _=>by
    by_cases q:bE G (u++ [X])
    . rw[kN q];simp[q]
    . rw[lH q];simp[q]
   rw[e,Y.symm]
   exact kk _ _ _
def WaP (G:Gm)(ws:List (List Nat))(m:Nat)(a:V):Prop:=∃F n,tu F/\F≠ []/\(∀u,u∈F↔bE G u/\u.length<=m)/\o6 ws F n/\a= .tup [.lst (F.map (mw G ws)),.lst ((ws.take n).map (aV G))]
theorem Hl:isData 4 (dZ G u)=true:=by
 show((bD G u).map _).all _=ab
 rw[nD];exact Zrr (propext cF) λ_ _=>rfl
theorem ahJ (w:WF G)(f:Fin G ws){m:Nat}{O mv:V}(hV:qh G m O)(hm:m<=3)(jw:mv=nV m)(hD:3<=D):∃a,WaP G ws m a/\(aQ prog D).call 53 [.v (vG G),.v (vM G ws),.v O,.v mv] σ=S (.v a,σ):=by
 refine yj (dE hD) rfl rfl rfl rfl λT hT=> ?_
 have bQ:=dJ hD
 have Fl:=Gd w hm 821
 have Fm:=F_ w m 821
 have Fs:=((Oa w m).inv 821).1
 have Fa:∀u,bE G u->u.length<=m->u∈LW G m 821:=λu v h=>afm w (by with_reducible exact k9 ‹_›) v h
 have e0:∀cl ρ σ,az cl (.lst ab (.cons (.tup (.cons (.tup .nil) (.cons (.cst (.int 0)) .nil))) .nil)) ρ σ=S (.ref σ.length,σ++ [jz G ws [[]]]):=λcl ρ σ=>by
  rewrite[jz];rw[vb];rewrite[mw];rw[f.xX w];rfl
 refine AG (aj (e0 _ _ _) (aj (iH aA (aw (eN _))) (aj aP aA))) rfl ?_
 refine uZ (λa Z=>∀n j7 j8 o r y,a<=(LW G m a).length->o6 ws ((LW G m 821).take a) n->Z [S (.v (vG G)),S (.v (vM G ws)),S (.v O),S (.v mv),S (.ref 0),S (.ref 1),S (.v (nV a)),j7,j8,o,r,y] [jz G ws (LW G m a),lC G (ws.take n)]) (λa=>821 - a) 0
  (λZ b=>b 0 _ _ _ _ _ (dO _) ⟨dO _,λt ht=>absurd ht (HI _),λu _ h=>by rw[PY]at h;cases h⟩) (by show _<2^22;exact Ub) ?_
 intro a Z b n j7 j8 o r y ha hn
 have Y:=Gd w hm a
 have bl:cB [jz G ws (LW G m a),lC G (ws.take n)] .len (.ref 0)=S (.val (nV (LW G m a).length)):=eC ((pT rfl).trans (by(rw[aq _,aq _];rfl))) (aw (bw Y (by decide)))
 generalize tL:nV a=av
 refine wt (decide (a<(LW G m a).length)) (br (aa rfl) (cw (aa rfl) bl) (tL▸pS)) (λq=> ?_) (λq=> ?_)
 . have q:=of_decide_eq_false q
   have stop:∀j,a<=j->LW G m j=LW G m a:=λj hj=>by
    induction hj with
    |refl=>rfl
    | @step k hj ih=>
     have wF:=hj
     refine Zrr (u7 (eX (by rw[ih];exact ba (fB q) hj))) ?_;exact ih
   have e:=stop 821 (bX (bw (hC ha Y) (by decide)))
   rw[e]at hn Fs Fm Fa Fl
   rw[gb (fB q)]at hn
   refine l_ rfl (jn rfl) (l_ rfl (jn rfl) ?_)
   refine cb (eZ (aj (aa rfl) (aj (aa rfl) aA)) (aw (by simp)) rfl) (hT _ ⟨LW G m a,n,Fs,?_,λu=>⟨Fm u,λh=>Fa u h.1 h.2⟩,hn,rfl⟩ (c8 rfl))
   exact yoS (Fa [] (xS w) (dO _))
 . have q:=of_decide_eq_true q
   obtain ⟨u,hu⟩:∃u,(LW G m a)[a]?=S u:=⟨_,du q⟩
   have nY:=(nH (A7 (bX (bw (hC ha Y) (by decide)):a<=821)) q).symm.trans hu
   refine au (F_ w m a u (eY hu)) λU e_=> ?_
   refine cD (hn.step w f Fs Fa Fm nY) λv hv BN Qo=> ?_
   have vv:=(aeX BN).mpr U
   have i1:b4 [jz G ws (LW G m a),lC G (ws.take n)] (.ref 0) av=S (.v (mw G ws u)):=tL▸lx rfl (aw (dq (dM q Y) (by decide))) (by(rw[bx,bx,hu]);rfl)
   refine xC (bu (aa rfl) (aa rfl) i1) rfl ?_
   have ahK:=(dk.mp hv).1
   have fy:=ki f
   have Qp:∀k,k<=ws.length->∀c,cB [c,lC G (ws.take k)] .len (.ref 1)=S (.val (nV k)):=λk hk c=>(eC ((pT (xs:=((ws.take k).map (aV G)).map .v) rfl).trans (by(rw[aq _,aq _,ig,jI hk];rfl))) (by exact eP ‹_› ‹_›))
   have cS:∀k σ,cO σ .eq (.v (nV (stN G ws u))) (.v (nV k))=_:=λk σ=>tf
   have cG:∀k σ,cO σ (.gt ()) (.v (nV (stN G ws u))) (.v (nV k))=_:=λk σ=>u0
   have iS:∀σ,b4 σ (.v (.lst (kM G ws))) (nV (stN G ws u))=S (.v (gH G ws (stN G ws u) v)):=λσ=>rP f hv
   have iF:∀k,stN G ws u<k->∀c,b4 [c,lC G (ws.take k)] (.ref 1) (nV (stN G ws u))=S (.v (aV G v)):=λk hk c=>lx rfl (dq ahK fy) (by(rw[bx,bx,xc,if_pos hk,hv]);rfl)
   have hvl:v.length<=m:=by
    have yr:∀x∈u,x<16:=λx hx=>by have:=mf w U x hx;have:=w.big;exact dq (dM ‹_› this) (by decide)
    refine cD (f.first w U) λv' fo _ ahL=> ?_
    rw[hv]at fo;cases fo
    exact ba (F9 u v yr ahL) e_
   have mc:∀σ,ef σ (.v (vM G ws)) 24=S (.v (.lst (kM G ws))):=λσ=>lI
   have ahM:u=v->∀t σ,(aQ prog (D - 1)).call 52 [.v (vG G),.v (gH G ws t v),.v (aV G u),.v (dZ G u)] σ=S (.v (.bool ab),σ):=λe t σ=>by subst e;exact ahC w U bQ
   have Hm:∀ {o r y:Option X} {k:Nat} {L:List (List Nat)} {ss:Ss} {R:X->Hp->Prop} {Q:Env->Hp->Prop},u.length<m->L.length<=820->(∀o r y,Do (aZ (aQ prog (D - 1)) ss [S (.v (vG G)),S (.v (vM G ws)),S (.v O),S (.v mv),S (.ref 0),S (.ref 1),S (.v av),S (.v (aV G u)),S (.v (nV (stN G ws u))),o,r,y] [jz G ws (L++ (bS G u).map λX=>u++ [X]),lC G (ws.take k)]) Q R)->
    Do (aZ (aQ prog (D - 1)) (.cons (.cq (.two 9 10) (.enum (.attr (.var 0) 7)) B4) ss) [S (.v (vG G)),S (.v (vM G ws)),S (.v O),S (.v mv),S (.ref 0),S (.ref 1),S (.v av),S (.v (aV G u)),S (.v (nV (stN G ws u))),o,r,y] [jz G ws L,lC G (ws.take k)]) Q R:=λI h2 kk=>ahI w f hV hm bQ U I h2 rfl kk
   generalize mA:nV (stN G ws u)=sv at cS cG iS iF Hm
   generalize o7:vM G ws=MV at mc Hm b
   refine td (λZ=>∀H,stN G ws u<H->H<=ws.length->o6 ws ((LW G m 821).take (a+1)) H->Z [S (.v (vG G)),S (.v MV),S (.v O),S (.v mv),S (.ref 0),S (.ref 1),S (.v av),S (.v (aV G u)),S (.v sv),o,r,y] [jz G ws (LW G m a),lC G (ws.take H)])
    (br (aa rfl) (cw (aa rfl) (Qp n hn.le _)) (cS n _)) (λZ b q=> ?_) (λZ b q=> ?_) ?_
   . have q:=of_decide_eq_true q
     rcases Qo with ⟨I,h2,h3⟩| ⟨I,_⟩
     . refine gy (xA (p:=ab) (c6 (aj (aa rfl) (aj (bu (a_ (aa rfl) (mc _)) (aa rfl) (iS _)) (aj (aa rfl) (aj (bu (aa rfl) (aa rfl) (yt w hV U e_)) aA)))) (ahM h2.symm _ _))) ?_
       refine fH (d9 (aa rfl) (gz rfl) (aj (aa rfl) aA) (i9 (l:=(ws.take n).map (aV G)) rfl (by(rw[aq _,ig]);have:=hn.le;rw[jI hn.le];exact eP ‹_› ‹_›))) (bo (kq (b (n+1) (pH (aK q)) h3.le h3) ?_))
       show [jz G ws (LW G m a),cL ((ws.take n).map (aV G)++ [aV G u])]=_
       rewrite[lC];rw[FO,I.symm,hv,h2,bK];rfl
     . exact(dx I q).elim
   . have q:=of_decide_eq_false q
     rcases Qo with ⟨I,_⟩| ⟨I,h3⟩
     . exact absurd I q
     . exact bo (b n I hn.le h3)
   . intro H hlt iZ w7
     have eqi:dZ G v=dZ G u:=by rewrite[dZ,dZ];rw[BN];rfl
     refine gy (jT (br (aa rfl) (cw (aa rfl) (Qp H iZ _)) ((cG H _).trans (by(refine Zrr (decide_eq_false (mD (bX hlt))) ?_;rfl)))) (br (bu (aa rfl) (bu (aa rfl) (aa rfl) (iF H hlt _)) (yt w hV vv hvl)) (bu (aa rfl) (aa rfl) (yt w hV U e_)) (eqi▸ne_self Hl))) ?_
     have c3:∀σ,cO σ .lt (.v (nV u.length)) (.v mv)=S (decide (u.length<m)):=λσ=>jw▸pS
     have lw:=x6 (G:=G) hu
     have al':=Gd w hm (a+1)
     have next:∀o r y,Do (aZ (aQ prog (D - 1)) (.cons (.set 6 (.bin ae .add (.var 6) (.cst (.int 1)))) .nil) [S (.v (vG G)),S (.v MV),S (.v O),S (.v mv),S (.ref 0),S (.ref 1),S (.v av),S (.v (aV G u)),S (.v sv),o,r,y] [jz G ws (LW G m (a+1)),lC G (ws.take H)]) Z T:=λo r y=>by
      refine bz (b_ (aa rfl) aP (tL▸ @nu a 1)) (bo (b (a+1) (Nat.sub_lt_sub_left (bw (hC ha Y) (by decide)) (iQ a)) H _ _ _ _ _ ?_ w7))
      exact ba q (Ob (G:=G) (k:=m) a).length_le
     refine td (λZ=>∀o r y,Z [S (.v (vG G)),S (.v MV),S (.v O),S (.v mv),S (.ref 0),S (.ref 1),S (.v av),S (.v (aV G u)),S (.v sv),o,r,y] [jz G ws (LW G m (a+1)),lC G (ws.take H)]) (br (cw (aa rfl) (BG (bw (hC e_ hm) (by decide)))) (aa rfl) (c3 _)) (λZ b q=> ?_) (λZ b q=> ?_) ?_
     . have q:=of_decide_eq_true q
       rw[if_pos q]at lw
       rw[lw]at b
       exact Hm q Y λo r y=>bo (b _ _ _)
     . have q:=of_decide_eq_false q
       rw[if_neg q,dg]at lw
       rw[lw]at b
       exact bo (b _ _ _)
     . exact next
theorem yu:cO σ .ne (.v (nV a)) (.v (nV b))=S !decide (a=b):=congrArg (Option.map _) (congrArg S (decide_eq_decide.mpr pR))
theorem Qq {k}:isData (k+1) (dK u)=true:=by
 show(u.map nV).all _=ab
 rw[nD,propext cF]
 intro x _
 cases k<;>rfl
theorem yv {l:List _}{k}:isData (k+1) (.lst (l.map nV))=true:=vn x9
theorem aiQ:kT (.lst l)=S l:=rfl
theorem ahN:lR 0 (ws.map dK)=ws.zipIdx.map λp=> .tup [nV p.2,dK p.1]:=by
 rw[Fp _ _]
 refine gQ λi=> ?_
 rw[bx,lG,bx,bx,lG]
 cases ws[i]?<;>rfl
theorem ahO (w:WF G)(f:Fin G ws){m n:Nat}{F:List (List Nat)}(hF:∀u,u∈F↔bE G u/\u.length<=m)(hn:o6 ws F n){mv:V}(jw:mv=nV m)(L:4<=D):(aQ prog D).call 54 [.v (vM G ws),.v (.lst ((ws.take n).map dK)),.v mv] σ=S (.v (.bool ab),σ):=by
 refine ed (dE L) rfl rfl rfl rfl λT hT=> ?_
 have k:=dJ L
 have b:=ki f
 have e1:=Pe (σ:= []) w f (ba (by decide) k)
 refine bz (c6 (aj (aa rfl) (aj aP aA)) e1) ?_
 have Q:∀σ,cB σ .len (.v (.lst (ws.map dK)))=S (.val (nV ws.length)):=λσ=>eC (congrArg S (aq _)) b
 have b2:∀σ,cB σ .len (.v (.lst (kM G ws)))=S (.val (nV ws.length)):=λσ=>eC (congrArg S GA) b
 have U:∀σ,cB σ .len (.v (.lst ((ws.take n).map dK)))=S (.val (nV n)):=λσ=>eC (congrArg S (by(rw[aq _,ig,jI hn.le];rfl))) (eP hn.le b)
 refine gy (br (cw (aa rfl) (Q _)) (cw (a_ (aa rfl) lI) (b2 _)) (yu.trans (by rw[decide_eq_true rfl];rfl))) ?_
 refine d_ (λp:List Nat×Nat=> .tup [nV p.2,dK p.1]) ws.zipIdx (λ_ Z=>∀o r,Z [S (.v (vM G ws)),S (.v (.lst ((ws.take n).map dK))),S (.v mv),S (.v (.lst (ws.map dK))),o,r] []) ((Fb (aa rfl) (by rw[aq _];exact b)).trans (by(rw[ahN];rfl))) (λZ y=>y _ _) ?_ ?_
 . (intro done O;obtain ⟨u,t⟩:=O;intro rest Z y hd o r)
   have a:ws[t]?=S u:=agm hd
   have Y:=(f.BI w).u5 u (eY a)
   have ht:=f.xV w a
   have Qr:=λσ=>yd (σ:=σ) (K:=dK u) w f rfl k
   rw[kN Y,ht]at Qr
   have ul:=eP (f.GQ a) (gh (dB a) b)
   have bl:∀σ,cB σ .len (.v (dK u))=S (.val (nV u.length)):=λσ=>eC (congrArg S (aq _)) ul
   refine bt rfl (gy (jT (tc (aa rfl) rfl) (br (cX (aa rfl) nL (aj aP (aj (aa rfl) aA)) (Qr _)) (aa rfl) (yu.trans (by rw[decide_eq_true rfl];rfl)))) (gy ?_ (bo (y _ _))))
   rcases t.lt_or_ge n with q|q
   . have H:∀σ,b4 σ (.v (.lst ((ws.take n).map dK))) (nV t)=S (.v (dK u)):=λσ=>jq (f.lim a) (by(rw[bx,xc,if_pos q,a]);rfl)
     exact AE (br (aa rfl) (cw (aa rfl) (U _)) (pS.trans (by(rw[decide_eq_true q];rfl)))) (br (aa rfl) (bu (aa rfl) (aa rfl) (H _)) (ne_self Qq))
   . have I:¬u.length<=m:=λz=>by
      have hlt:=dB a
      have c:ws[n]?=S ws[n]:=du (by exact eP ‹_› ‹_›)
      have vz:=(f.BI w).u5 _ (eY c)
      have yr:∀x∈u,x<16:=λx hx=>by have:=mf w Y x hx;have:=w.big;exact dq (dM ‹_› this) (by decide)
      have iZ:num ws[n]<=num u:=by
       rcases ypC q with e|q
       . subst e;rw[c]at a;rw[je a];exact bb _
       . exact bX (tv (f.z9 w) c a q)
      have:=F9 u _ yr iZ
      exact hn.out _ c ((hF _).mpr ⟨vz,ba ‹_› ‹_›⟩)
     have c1:∀σ,cO σ .le (.v (nV u.length)) (.v mv)=S false:=λσ=>jw▸Fq.trans (by(rw[decide_eq_false I];rfl))
     exact AF (br (aa rfl) (cw (aa rfl) (U _)) (pS.trans (by(refine Zrr (decide_eq_false (mD q)) ?_;rfl)))) (br (cw (aa rfl) (bl _)) (aa rfl) (c1 _))
 . intro o r
   have hp:=f.pos
   obtain ⟨u,a⟩:∃u,ws[ws.length - 1]?=S u:=⟨_,du (Rx hp)⟩
   have e2:=agz (σ:= []) w f a (ba (by decide) k)
   have H:b4 [] (.v (.lst (ws.map dK))) (.int (-1))=S (.v (dK u)):=GG (n:=ws.length - 1) (by rw[aq _];exact HM hp) (by(rw[bx,a]);rfl)
   have bs:cV .sub (nV ws.length) (.int 1)=S (nV (ws.length - 1)):=AI (by lia)
   exact cb (br (c6 (aj (aa rfl) (aj (b_ (cw (aa rfl) (Q _)) aP bs) aA)) e2) (bu (aa rfl) aP H) (eq_self Qq)) (hT (c8 rfl))
theorem ahQ (w:WF G)(f:Fin G ws){u}(v:bE G u):∀j,j<=u.length->stN G ws (u.take (u.length - j))∈fi G ws (stN G ws u) j:=by
 intro c
 induction c with
 |zero=>
  intro _
  rw[Pp];exact dm.mpr rfl
 |succ j o=>
  intro h
  have a:=λk=>tH (u.drop k) (by rw[i6 _ _];assumption)
  have hk:u.length - (j+1)<u.length:=RQ h
  have e:u.take (u.length - j)=u.take _++ [u[u.length - (j+1)]]:=Zrr (show u.length - j=u.length - (j+1)+1 by exact RR h) (take_snoc hk)
  refine ah (f.st w (a _)) λz q b=>fK.mpr ⟨gw.mpr (f.xW w (a _)),decide_eq_true ⟨_,o (bX h),Bs.mpr ((O5 w).mpr ⟨z,u[u.length - (j+1)],q,?_,?_⟩)⟩⟩
  . refine(u4 b _).mpr ?_
    rw[e.symm];exact a _
  . rw[e];exact(f.A1 w b).symm
theorem Qs {l:List _}:mK (nV t) (l.map nV)=S (decide (t∈l)):=by
 refine(b9 ⟨rfl,Om x9⟩).trans (congrArg _ ?_)
 rw[qG,yS,propext Ak,decide_eq_true_eq]
 constructor
 . intro O;refine ah O λy a h=> ?_;rw[(pR.mp (of_decide_eq_true h)).symm];assumption
 exact λh=>⟨t,h,decide_eq_true rfl⟩
theorem ahR (h:isData 4 (.lst l)=ab):cO σ .ne (.v (.lst l)) (.v (.lst []))=S !decide (l= []):=congrArg (Option.map _) (by
 refine(b9 ⟨h,rfl⟩).trans (congrArg _ ?_)
 cases l<;>rfl:eqv _ _=S _)
theorem ahS (w:WF G)(f:Fin G ws){cl}{u x y H I L Q U Y}{s i}(hs:s<ws.length){b k}(hg:b=rR ws.length (fx G ws))(hb:k= .lst ((fi G ws s i).map nV)):
 az cl (.iT ae (.one 14) (.range (.bf ae .len (.var 5))) (.cmp .ne (.iT ae (.one 15) (.of (.var 9)) (.cmp .isIn (.var 14) (.idx (.var 5) (.var 15))) (.var 15)) (.lst ae .nil)) (.var 14))
  [u,x,y,H,I,S (.v b),L,Q,U,S (.v k),Y,J,J,J,J,J] σ=S (.v (.lst ((fi G ws s (i+1)).map nV)),σ):=by
 have fy:=ki f
 have bll:(fi G ws s i).length<aE:=by
  cases i with
  |zero=>exact aw (by show 1<_;exact by decide)
  |succ i=>
   have o:(fi G ws s (i+1)).length<=(List.range ws.length).length:=jZ _ _
   rw[cP]at o
   exact eP o fy
 have g:=xG (c:=λa r=>(bV (.one 14) a [u,x,y,H,I,S (.v b),L,Q,U,S (.v k),Y,J,J,J,J,J]).bind λρ'=>(az cl (.cmp .ne (.iT ae (.one 15) (.of (.var 9)) (.cmp .isIn (.var 14) (.idx (.var 5) (.var 15))) (.var 15)) (.lst ae .nil)) ρ' r).bind gp)
  (f:=λa r=>(bV (.one 14) a [u,x,y,H,I,S (.v b),L,Q,U,S (.v k),Y,J,J,J,J,J]).bind (az cl (.var 14) · r)) nV (λt=>decide (∃h∈fi G ws s i,t∈sel (fx G ws) h)) (λt=> .v (nV t)) (.range ws.length) σ
  (λt _=>aJ rfl (jl (by
   refine br ((λt=>by
  have g:=xG (c:=λa r=>(bV (.one 15) a [u,x,y,H,I,S (.v b),L,Q,U,S (.v k),Y,J,J,J,S (.v (nV t)),J]).bind λρ'=>(az cl (.cmp .isIn (.var 14) (.idx (.var 5) (.var 15))) ρ' r).bind gp)
   (f:=λa r=>(bV (.one 15) a [u,x,y,H,I,S (.v b),L,Q,U,S (.v k),Y,J,J,J,S (.v (nV t)),J]).bind (az cl (.var 15) · r)) nV (λh=>decide (t∈sel (fx G ws) h)) (λh=> .v (nV h)) (fi G ws s i) σ
   (λh hh=>aJ rfl (jl (have hlt:=Pa hs i h hh;have c1:cO σ .isIn (.v (nV t)) (.v (.lst ((sel (fx G ws) h).map nV)))=S (decide (t∈sel (fx G ws) h)):=Qs;br (aa rfl) (bu (aa rfl) (aa rfl) (hg▸jq (gh hlt fy) (by rw[bx,iJ hlt];rfl))) c1)))
   (λh hh _=>aJ rfl (aa rfl))
  rw[show((fi G ws s i).filter λh=>decide (t∈sel (fx G ws) h)).map (λh=>X.v (nV h))=(((fi G ws s i).filter λh=>decide (t∈sel (fx G ws) h)).map nV).map .v from by rw[b5];rfl]at g
  exact xB (c7 (aa rfl) (hb▸rfl)) g (by rw[aq _,aq _];exact eP (jZ _ _) bll) (fV _):∀t,az cl (.iT ae (.one 15) (.of (.var 9)) (.cmp .isIn (.var 14) (.idx (.var 5) (.var 15))) (.var 15)) [u,x,y,H,I,S (.v b),L,Q,U,S (.v k),Y,J,J,J,S (.v (nV t)),J] σ=S (.v (.lst (((fi G ws s i).filter λh=>decide (t∈sel (fx G ws) h)).map nV)),σ)) t) (fU aA (aw (eN _)) rfl) ((ahR yv).trans (congrArg S ?_))
   rw[qG,oE _,propext decide_eq_false_iff_not,decide_eq_true_eq,propext Mm];refine Zrr (propext xj) (⟨λh=>ylI λz=>h λa ha q=>z ⟨a,ha,of_decide_eq_true q⟩,?_⟩)
   . intro O;refine ah O λh o h2=> ?_;exact λz=>z h o (decide_eq_true h2))))
  (λt _ _=>aJ rfl (aa rfl))
 rw[show((List.range ws.length).filter λt=>decide (∃h∈fi G ws s i,t∈sel (fx G ws) h)).map (λt=>X.v (nV t))=((fi G ws s (i+1)).map nV).map .v from by rw[b5];rfl]at g
 refine xB (pU (cw (aa rfl) (hg▸eC (congrArg S ((aq _).trans cP)) fy)) fy) g ?_ (fV _)
 have o:(fi G ws s (i+1)).length<=(List.range ws.length).length:=jZ _ _
 rw[cP]at o
 rw[aq _,aq _]
 exact eP o fy
theorem Qt:isData 4 (rR n ps)=true:=by
 show((List.range n).map λs=> .lst ((sel ps s).map nV)).all (isData 3)=ab
 rw[nD];exact Zrr (propext cF) λs _=>yv
theorem ahT (w:WF G)(f:Fin G ws){u:List Nat}(v:bE G u)(q:u.length<=3){sv:V}(Q:sv=nV (stN G ws u))(hD:4<=D):(aQ prog D).call 55 [.v (vM G ws),.v (.lst (u.map nV)),.v sv] σ=S (.v (.bool ab),σ):=by
 refine ed (dE hD) rfl rfl rfl rfl λT hT=> ?_
 have y:=dJ hD
 have fy:=ki f
 have H:=λσ=>lI (G:=G) (ws:=ws) (σ:=σ)
 refine bz (iH (aj aP aA) (aw (by simp))) ?_
 refine d_ nV u (λdone Z=>∀o,Z [S (.v (vM G ws)),S (.v (.lst (u.map nV))),S (.v sv),S (.ref 0),o,J,J,J,J,J,J,J,J,J,J,J] [cN (g_ G ws done)]) (c7 (aa rfl) rfl) ?_ ?_ ?_
 . intro Z c
   exact kq (c _) (by rw[OP w f];rfl)
 . intro done X rest Z c I o
   have vX:=tH rest (by(rw[(Oi _ _ _).symm,I.symm]);exact v)
   have vd:=ti vX
   refine ah (f.st w vd) λz U vo=> ?_
   have Y:=(i8 w).mpr ((u4 vo X).mpr vX)
   have yc:done.length<=3:=by
    have:=congrArg List.length I
    rw[aY]at this
    lia
   have i0:b4 [cN (g_ G ws done)] (.ref 0) (.int (-1))=S (.v (nV (stN G ws done))):=OR rfl (by(rw[aq _,aq _,ye];rfl)) (by(rw[bx,bx,GD]);rfl)
   have i2:∀σ,b4 σ (.v (rO G ws z)) (nV X)=S (.v (nV (stN G ws (done++ [X])))):=λσ=>(Bv w Y).trans (by(rw[f.A1 w vo];rfl))
   refine bt rfl (fH (d9 (aa rfl) (gz rfl) (aj (bu (a_ (bu (a_ (aa rfl) (H _)) (bu (aa rfl) aP i0) (rP f U)) rQ) (aa rfl) (i2 _)) aA) (GU rfl (by rw[ye];exact aw (q5 yc)))) (bo (kq (c _) ?_)))
   show [cN (g_ G ws done++ [stN G ws (done++ [X])])]=_
   rw[OQ];rfl
 . intro o
   refine l_ rfl (jn rfl) ?_
   have p1:=OS (σ:= [.dead]) (x:= []) (K:= .lst (u.map nV)) w f v (λX r h=>nomatch h) (by rw[dg _];rfl) (bw q (by decide)) y
   have p2:=OS (σ:= [.dead]) (K:= .lst ((u++ [1,1]).map nV)) w f v (λX r h z=>by
    have h:=(iB h).1
    subst h
    exact(xT w z).2.1 rfl) rfl (bw q (by decide)) y
   have a1:cV .add (.lst (u.map nV)) (.lst [.int 1,.int 1])=S (.lst ((u++ [1,1]).map nV)):=by
    refine Zrr (ny (by rw[aq _];exact aw (by show u.length+2<_;exact HS q))) ?_;rw[bK];rfl
   have i1:b4 [.dead] (.v (.lst ((g_ G ws u).map nV))) (.int (-1))=S (.v (nV (stN G ws u))):=GG (by(rw[aq _,ye];rfl)) (by(rw[bx,GD]);rfl)
   have c0:cO [.dead] .ne (.v (nV (stN G ws u))) (.v sv)=S false:=by rw[Q];exact yu.trans (by simp)
   refine gy (jT (br (bu (aa rfl) aP i1) (aa rfl) c0) (jT (br (cX (aa rfl) nL (aj aP (aj (aa rfl) aA)) p1) (aa rfl) (ne_self yv)) (br (cX (aa rfl) nL (aj aP (aj (b_ (aa rfl) (fU (aj aP (aj aP aA)) (aw (by simp)) rfl) a1) aA)) p2) (aa rfl) (ne_self yv)))) ?_
   refine bz (GO (c7 (a_ (aa rfl) (H _)) rfl) GA fy) ?_
   generalize Qg:V.lst ((g_ G ws u).map nV)=L
   refine d_ (λp:List Nat×Nat=>gH G ws p.2 p.1) ws.zipIdx (λdone Z=>∀O k,Z [S (.v (vM G ws)),S (.v (.lst (u.map nV))),S (.v sv),S (.v L),o,S (.ref ([Cell.dead].length+ws.length)),O,k,J,J,J,J,J,J,J,J] (gC [.dead] (eO ws.length (ju G ws done)))) (c7 (a_ (aa rfl) (H _)) rfl) ?_ ?_ ?_
   . intro Z c
     exact c _ _
   . intro done p rest Z c I O k
     refine bt rfl ?_
     have sl:=Gx w p.1
     have gd:=O6 w f p.1
     have zD:=Qe (g:=λ_=>V.bool ab) (t:= .int) (λ_=>rfl) (λa _ b _ ne=>x_.trans (decide_eq_false ne)) _ [] rfl gd
     have b2:∀σ,cB σ (.dict .int) (.v (.lst (((bS G p.1).map λX=>stN G ws (p.1++ [X])).map λs=>V.tup [nV s,.bool ab])))=S (.val (.aU .int (((bS G p.1).map λX=>stN G ws (p.1++ [X])).map λs=>(nV s,V.bool ab)))):=λσ=>(b9 (by(rw[aq _,aq _]);exact aw (bw sl (by decide)))).trans (bP zD)
     generalize GP:gC [.dead] (eO ws.length (ju G ws done))=σg
     have g:=jo (f:=λa af=>(bV (.one 12) a [S (.v (vM G ws)),S (.v (.lst (u.map nV))),S (.v sv),S (.v L),o,S (.ref ([Cell.dead].length+ws.length)),S (.v (gH G ws p.2 p.1)),k,J,J,J,J,J,J,J,J]).bind λρ'=>az (aQ prog (D - 1)) (.tup (.cons (.idx (.attr (.var 6) 20) (.var 12)) (.cons (.cst (.bool ab)) .nil))) ρ' af) nV (λX=>Tactic.X.v (.tup [nV (stN G ws (p.1++ [X])),.bool ab])) (bS G p.1) σg λX hX=>
      aJ rfl (eZ (aj (bu (a_ (aa rfl) rQ) (aa rfl) (Bv w hX)) (aj aP aA)) (aw (by simp)) rfl)
     rw[show(bS G p.1).map (λX=>Tactic.X.v (.tup [nV (stN G ws (p.1++ [X])),.bool ab]))=(((bS G p.1).map λX=>stN G ws (p.1++ [X])).map λs=>V.tup [nV s,.bool ab]).map .v from by rw[b5];rw[b5];rfl]at g
     refine d_ (λX=>nV (stN G ws (p.1++ [X]))) (bS G p.1) (λd Z=>∀k,Z [S (.v (vM G ws)),S (.v (.lst (u.map nV))),S (.v sv),S (.v L),o,S (.ref ([Cell.dead].length+ws.length)),S (.v (gH G ws p.2 p.1)),k,J,J,J,J,J,J,J,J] (gC [.dead] (eO ws.length (ju G ws done++d.map λX=>(stN G ws (p.1++ [X]),p.2)))))
      (c7 (cw (jm (c7 (a_ (aa rfl) rQ) (Bu (α:=Unit))) g (by(rw[aq _,aq _,aq _]);exact aw (bw sl (by decide))) (fV _)) (b2 _)) ?_) ?_ ?_ ?_
     . rw[Bu (α:=Unit),b5];rfl
     . exact λZ c=>kq (c _) (by(rw[qK,dg _,GP];rfl))
     . intro d X r Z c er k
       have Y:X∈bS G p.1:=by rw[er];simp
       generalize hx:nV (stN G ws (p.1++ [X]))=xv
       refine bt rfl (fH (O3 rfl (f.xW w ((i8 w).mp Y)) fy (O7 w f (O9 I er) _) (aa rfl) (aa (by rw[hx];rfl)) (a_ (aa rfl) O8)) (bo (kq (c _) ?_)))
       rw[bK,bM _ _ _];rfl
     . intro k
       exact bo (kq (c _ _) (by(rw[O'];rfl)))
   . intro O k
     refine bz (OT w f (a_ (aa rfl) (H _)) (by show 13<16;exact by decide)) ?_
     refine ao (O4 (base:= [.dead]) (n:=ws.length) (ps:=ju G ws ws.zipIdx)) λbW U=> ?_
     refine l_ rfl U ?_
     have q1:=O_ (D:=D - 1) (σ:=bW) w f (ba (by decide) y)
     have q2:=aga (D:=D - 1) (σ:=bW) w f (ba (by decide) y)
     generalize htr:nV (GH G ws)=tr at q2
     have dtr:cO bW .ne (.v tr) (.v tr)=S false:=by rw[htr.symm];exact yu.trans (by simp)
     generalize Hn:rR ws.length (ju G ws ws.zipIdx)=gv
     have dgv:isData 4 gv=true:=Hn▸Qt
     refine gy (jT (br (c6 (aj (aa rfl) aA) q1) (aa (by rw[Hn.symm];rfl)) (ne_self Qt)) (br (cX (aa rfl) nL aA q2) (aa rfl) dtr)) ?_
     refine bz (fU (xs:= [.v sv]) (aj (aa rfl) aA) (aw (by simp)) rfl) ?_
     have hs:=f.xW w v
     have bl:∀σ,cB σ .len (.v (.lst (u.map nV)))=S (.val (nV u.length)):=λσ=>eC (congrArg S (aq _)) (aw (bw q (by decide)))
     refine uY nV u.length (λi Z=>∀dY σ,Z [S (.v (vM G ws)),S (.v (.lst (u.map nV))),S (.v sv),S (.v L),o,S (.v gv),O,k,S (.v tr),S (.v (.lst ((fi G ws (stN G ws u) i).map nV))),dY,J,J,J,J,J] σ) (pU (cw (aa rfl) (bl _)) (aw (bw q (by decide)))) ?_ ?_ ?_
     . intro Z c
       subst Q
       exact c _ _
     . intro i Z c hi dY σ
       exact bt rfl (bz (ahS w f hs Hn.symm rfl) (bo (c _ _)))
     . intro dY σ
       have r1:=ags (D:=D - 1) (σ:=σ) w f (m:=u.length) rfl hs (aw (bw q (by decide))) (ba (by decide) y)
       have m0:0∈fi G ws (stN G ws u) u.length:=by
        have:=ahQ w f v u.length (bb _)
        rwa[kE,PY,f.xX w]at this
       have c1:cO σ .isIn (.v (.int 0)) (.v (.lst ((fi G ws (stN G ws u) u.length).map nV)))=S true:=(Qs (t:=0)).trans (by(rw[decide_eq_true m0];rfl))
       exact cb (xx (br (c6 (aj (aa rfl) (aj (aa (by rw[Q];rfl)) (aj (cw (aa rfl) (bl _)) aA))) r1) (aa rfl) (eq_self yv)) (br aP (aa rfl) c1)) (hT (c8 rfl))
theorem ahU (a:p 32=ab):∀l,(∀s∈l,s.all p=ab)->(lJ l).all p=true:=by
 intro b
 induction b with
 |nil=>exact λ_=>rfl
 |cons s l c=>
  intro h
  cases l with
  |nil=>exact h s cT
  |cons t r=>
   rw[OY,Ho,Ho,h s cT,c λx hx=>h x (dA _ hx)];exact(C1 _).trans ((C1 _).trans a)
theorem ahV (w:WF G){p}(h:Vd G p):mI (lK G p)=true:=by
 have o:=GK w (w.jY h.1).2
 have b:=GL w h
 have q:=GJ _ b.2
 have c:∀x,x<nS G->(nm G x).all _=true:=λx hx=>(dF.mp (G7 w hx)).2
 refine dF.mpr ⟨decide_eq_true ?_,?_⟩
 . rewrite[lK];rw[aY];exact Zrr aY (have: [32,58,32].length=3:=rfl;aw (H0 o b q))
 . rewrite[lK];rw[Ho,Ho];rewrite[c _ (w.jY h.1).2,ahU rfl _ λs a=> ?_]
   . rfl
   . have k:∀s∈ (rhs G _).map (nm G),s.all _=true:=λs a=>by
      refine ah (bY.mp a) λx hx O=> ?_;subst O
      exact c x (w.sym h.1 x hx).1
     rcases b8.mp a with a|a
     . refine(b8.mp a).elim (λa=>k s (oF a)) λa=> ?_
       . rw[dm.mp a];rfl
     exact k s (zY a)
theorem ahW:gJ (gW p) (gW q)=decide (p=q):=by
 show(decide _&& (decide _&&ab))=_
 rw[C1 _,propext qG,propext dF,decide_eq_true_eq,decide_eq_true_eq,decide_eq_true_eq,propext Qa]
 exact and_congr pR pR
theorem ahX (h:bD G u≠bD G v):eqv (dZ G u) (dZ G v)=S false:=by
 refine(b9 ⟨Hl,Hl⟩).trans (congrArg _ ?_)
 show lN _ _=ae
 exact Zrr (Gr λa _ b _=>ahW) (decide_eq_false h)
theorem ahY {n:Nat}:mN 1 n=(List.range (n - 1)).map λi=>nV (i+1):=by
 have:=Int.toNat_sub n 1
 rewrite[mN];exact Zrr this (vf λi _=>congrArg _ (Cg 1 i))
theorem ahZ {e}{n}(h:az cl e ρ σ=S (.v (nV n),σ))(hn:n<aE):ix cl (.rX (.cst (.int 1)) e) ρ σ=S ((List.range (n - 1)).map λi=>nV (i+1),σ):=Zrr ahY.symm (have a:(1:Int)<aE/\ -(aE:Int)<1/\(n:Int)<aE/\ -(aE:Int)<n:=⟨by decide,by decide,by exact_mod_cast hn,by
 have:0<aE:=by decide
 lia⟩;aJ h (Fx (Fx (if_pos a))))
theorem ah0:isData 4 (gE o)=true:=by cases o<;>rfl
theorem ah1 (w:WF G)(f:Fin G ws)(n):((ws.take n).map (dZ G)).Nodup:=by
 have h:=(f.BI w).nd
 rw[rK,i7]at h ⊢
 exact(h.sublist (uK n ws)).imp λ{u v} h e=>h (have:=V.lst.inj e;have c:=map_inj (λa _ b _ e=>by
  exact have e:=V.tup.inj e;have c:=(iB (iB e).2).1;wb (pR.mp (V.int.inj (iB e).1)) (pR.mp (V.int.inj c))) this;FR c)
def ir (G:Gm)(ws:List (List Nat))(n:Nat):List V:=gn ((ws.take n).map (dZ G))
theorem ah2:(ir G ws n).length<=ws.length:=by
 rewrite[ir];rw[(uR _).length_eq,aq _,ig];exact qo _ _
theorem ah3 (w:WF G)(f:Fin G ws){n i}{a b}(ha:(ir G ws n)[i]?=S a)(hb:(ir G ws n)[i+1]?=S b):eqv a b=S false:=by
 have c:=uR ((ws.take n).map (dZ G))
 have ne:a≠b:=λe=>by
  subst e
  refine ao (dk.mp ha) λq k=>ao (dk.mp hb) λr o=> ?_
  have:=(FK (c.nodup_iff.mpr (ah1 w f n))).mp (k.trans o.symm)
  exact SD this
 refine ah (bY.mp (c.mem_iff.mp (eY ha))) λu _ O=> ?_;subst O
 refine ah (bY.mp (c.mem_iff.mp (eY hb))) λv _ O=> ?_;subst O
 exact ahX λe=>ne (by rw[dZ,dZ,e];rfl)
theorem ah4 (f:Fin G ws){n}:cB σ .sorted (.v (.lst ((ws.take n).map (dZ G))))=S (.items (ir G ws n)):=by
 refine mh rfl ?_
 have a:((ws.take n).map (dZ G)).all rY=true:=by
  rw[nD,propext cF]
  intro u _
  show((bD G u).map _).all _=ab
  rw[nD];exact Zrr (propext cF) λ_ _=>rfl
 unfold mL
 rw[a,decide_eq_true (by
  rw[aq _];rw[ig];exact eP (qo _ _) (ki f)),Bool.or_true _];rfl
theorem ah5 (w:WF G)(f:Fin G ws){SV DV PV GV mv FV VD MV WV LV KV}{σ}{m n}(k:qh G m VD){F}(o:∀u,u∈F↔bE G u/\u.length<=m)(hn:o6 ws F n)(r:KV= .lst ((ws.take n).map (aV G))):
 az (aQ prog (D - 1)) (.bf ae .sorted (.comp ae (.one 21) (.of (.var 11)) (.idx (.var 7) (.var 21)))) [S (.v SV),S (.v DV),S (.v PV),S (.v (vG G)),S (.v GV),S (.v mv),S (.v FV),S (.v VD),S (.v MV),S (.v WV),S (.v LV),S (.v KV),J,J,J,J,J,J,J,J,J,J,J,J,J,J,J,J,J] σ=S (.v (.lst (ir G ws n)),σ):=by
 have mem:∀u∈ws.take n,bE G u/\u.length<=m:=λu b=>by
  refine ao (uI b) λt c=> ?_
  rw[xc]at c
  split at c
  . rename_i q;exact(o u).mp (hn.Hj t q u c)
  exact aD c
 have g:=jo (f:=λa x=>(bV (.one 21) a [S (.v SV),S (.v DV),S (.v PV),S (.v (vG G)),S (.v GV),S (.v mv),S (.v FV),S _,S (.v MV),S (.v WV),S (.v LV),S (.v KV),J,J,J,J,J,J,J,J,J,J,J,J,J,J,J,J,J]).bind (az (aQ prog (D - 1)) (.idx (.var 7) (.var 21)) · x)) _ _ _ σ λu b=>
  aJ rfl (bu (aa rfl) (aa rfl) (yt w k (mem u b).1 (mem u b).2))
 rw[show(ws.take n).map (λu=>X.v _)=((ws.take n).map (dZ G)).map .v from by rw[b5];rfl]at g
 exact iI (jm (c7 (aa rfl) (r▸rfl)) g (by rw[aq _,aq _,ig];exact eP (qo _ _) (ki f)) (fV _)) (ah4 f)
theorem ah6 (w:WF G)(f:Fin G ws)(y:2<=D){SV DV PV GV mv FV VD MV WV LV KV UV}{σ}{n}(H:KV= .lst ((ws.take n).map (aV G))):
 az (aQ prog (D - 1)) (.comp ae (.one 22) (.of (.var 11)) (.bf ae .tuple (.comp ae (.one 23) (.of (.var 22)) (.bN (.var 3) 1 5 (.cons (.var 23) .nil))))) [S (.v SV),S (.v DV),S (.v PV),S (.v (vG G)),S (.v GV),S (.v mv),S (.v FV),S (.v VD),S (.v MV),S (.v WV),S (.v LV),S (.v KV),S (.v UV),J,J,J,J,J,J,J,J,J,J,J,J,J,J,J,J] σ=S (.v (.lst ((ws.take n).map dK)),σ):=by
 have o:=ki f
 have ok:∀u∈ws.take n,WS G u/\u.length<aE:=λu c=>have q:=oF c;ao (uI q) λt r=>⟨mf w ((f.BI w).u5 u q),eP (f.GQ r) (gh (dB r) o)⟩
 have g:=jo (f:=λa k=>(bV (.one 22) a [S (.v SV),S (.v DV),S (.v PV),S (.v (vG G)),S (.v GV),S (.v mv),S (.v FV),S (.v VD),S (.v MV),S (.v WV),S (.v LV),S (.v KV),S (.v UV),J,J,J,J,J,J,J,J,J,J,J,J,J,J,J,J]).bind (az (aQ prog (D - 1)) (.bf ae .tuple (.comp ae (.one 23) (.of (.var 22)) (.bN (.var 3) 1 5 (.cons (.var 23) .nil)))) · k)) _ _ _ σ λu c=>
  aJ rfl ((λu c=>by
  have g:=jo (f:=λa k=>(bV (.one 23) a [S (.v SV),S (.v DV),S (.v PV),S (.v (vG G)),S (.v GV),S (.v mv),S (.v FV),S (.v VD),S (.v MV),S (.v WV),S (.v LV),S (.v KV),S (.v UV),J,J,J,J,J,J,J,J,J,S (.v (aV G u)),J,J,J,J,J,J]).bind (az (aQ prog (D - 1)) (.bN (.var 3) 1 5 (.cons (.var 23) .nil)) · k)) _ _ u σ λx hx=>
  aJ rfl (cX (aa rfl) jr (aj (aa rfl) aA) (AU w ((ok u c).1 x hx) (dJ y)))
  rw[show u.map (λx=>X.v (nV x))=(u.map nV).map .v from by rw[b5];rfl]at g
  exact have b:cB σ _ _=S _:=xK (by rw[aq _];exact(ok u c).2);cw (jm (c7 (aa rfl) (show kT (aV G u)=S (u.map (.str ∘ nm G)) from congrArg S b5)) g (by rw[aq _,aq _];exact(ok u c).2) (fV _)) b:∀u∈ws.take n,az _ _ [S (.v SV),S (.v DV),S (.v PV),S (.v (vG G)),S (.v GV),S (.v mv),S (.v FV),S (.v VD),S (.v MV),S (.v WV),S (.v LV),S (.v KV),S (.v UV),J,J,J,J,J,J,J,J,J,S (.v (aV G u)),J,J,J,J,J,J] σ=S (.v (dK u),σ)) u c)
 rw[show(ws.take n).map (λu=>X.v (dK u))=((ws.take n).map dK).map .v from by rw[b5];rfl]at g
 exact jm (c7 (aa rfl) (H▸rfl)) g (by rw[aq _,aq _,ig];exact eP (qo _ _) o) (fV _)
theorem ah7 (w:WF G)(f:Fin G ws){SV DV PV GV mv FV VD MV WV LV KV UV TV}{σ}{n}(o:UV= .lst (ir G ws n)):
 az (aQ prog (D - 1)) (.iT ae (.one 24) (.rX (.cst (.int 1)) (.bf ae .len (.var 12))) (.cmp .eq (.idx (.var 12) (.bin ae .sub (.var 24) (.cst (.int 1)))) (.idx (.var 12) (.var 24))) (.var 24)) [S (.v SV),S (.v DV),S (.v PV),S (.v (vG G)),S (.v GV),S (.v mv),S (.v FV),S (.v VD),S (.v MV),S (.v WV),S (.v LV),S (.v KV),S (.v UV),S (.v TV),J,J,J,J,J,J,J,J,J,J,J,J,J,J,J] σ=S (.v (.lst []),σ):=by
 have x:=ki f
 have dl:=ah2 (G:=G) (ws:=ws) (n:=n)
 have b:cB σ .len (.v UV)=S (.val (nV (ir G ws n).length)):=o▸eC rfl (eP ‹_› ‹_›)
 have g:=xG (c:=λa r=>(bV (.one 24) a [S (.v SV),S (.v DV),S (.v PV),S (.v (vG G)),S (.v GV),S (.v mv),S (.v FV),S (.v VD),S (.v MV),S (.v WV),S (.v LV),S (.v KV),S (.v UV),S (.v TV),J,J,J,J,J,J,J,J,J,J,J,J,J,J,J]).bind λρ'=>(az (aQ prog (D - 1)) (.cmp .eq (.idx (.var 12) (.bin ae .sub (.var 24) (.cst (.int 1)))) (.idx (.var 12) (.var 24))) ρ' r).bind gp)
  (f:=λa r=>(bV (.one 24) a [S (.v SV),S (.v DV),S (.v PV),S (.v (vG G)),S (.v GV),S (.v mv),S (.v FV),S (.v VD),S (.v MV),S (.v WV),S (.v LV),S (.v KV),S (.v UV),S (.v TV),J,J,J,J,J,J,J,J,J,J,J,J,J,J,J]).bind (az (aQ prog (D - 1)) (.var 24) · r)) (λi=>nV (i+1)) (λ_=>ae) (λi=> .v (nV (i+1))) (.range ((ir G ws n).length - 1)) σ
  (λi k=>aJ rfl (jl (by
   have k:=gw.mp k
   have ha:(ir G ws n)[i]?=S (ir G ws n)[i]:=du (R8 k)
   have hb:(ir G ws n)[i+1]?=S (ir G ws n)[i+1]:=du (R9 k)
   have y:b4 σ (.v UV) (nV i)=S (.v (ir G ws n)[i]):=o▸jq (R_ x dl k) ha
   have H:b4 σ (.v UV) (nV (i+1))=S (.v (ir G ws n)[i+1]):=o▸jq (Sa x dl k) hb
   have bs:cV .sub (nV (i+1)) (.int 1)=S (nV i):=AI (by simp)
   have q:=ah3 w f ha hb
   have I:cO σ .eq (.v (ir G ws n)[i]) (.v (ir G ws n)[i+1])=S false:=by
    have L:=(uR ((ws.take n).map (dZ G))).mem_iff.mp (eY ha)
    refine ah (bY.mp L) λu _ e=> ?_
    rw[<-e]at q ⊢
    exact q
   exact br (bu (aa rfl) (b_ (aa rfl) aP bs) y) (bu (aa rfl) (aa rfl) H) I)))
  (λi _ h=>nomatch h)
 rw[show(List.range ((ir G ws n).length - 1)).filter (λ_=>ae)= [] from xj.mpr λ_ _ h=>nomatch h]at g
 exact xB (ahZ (cw (aa rfl) b) (eP ‹_› ‹_›)) g (aw (by show 0<_;exact yD _)) rfl
theorem ah8 (w:WF G)(b:2<=D){SV DV PV GV mv FV VD MV WV LV KV UV TV sv}{σ}{u}(c:WS G u)(hl:u.length<=3):
 az (aQ prog (D - 1)) (.comp ae (.one 25) (.of (.var 14)) (.bN (.var 3) 1 5 (.cons (.var 25) .nil))) [S (.v SV),S (.v DV),S (.v PV),S (.v (vG G)),S (.v GV),S (.v mv),S (.v FV),S (.v VD),S (.v MV),S (.v WV),S (.v LV),S (.v KV),S (.v UV),S (.v TV),S (.v (aV G u)),S (.v sv),J,J,J,J,J,J,J,J,J,J,J,J,J] σ=S (.v (.lst (u.map nV)),σ):=by
 have g:=jo (f:=λa k=>(bV (.one 25) a [S (.v SV),S (.v DV),S (.v PV),S _,S (.v GV),S (.v mv),S (.v FV),S (.v VD),S (.v MV),S (.v WV),S (.v LV),S (.v KV),S (.v UV),S (.v TV),S (.v (aV G u)),S (.v sv),J,J,J,J,J,J,J,J,J,J,J,J,J]).bind (az _ (.bN (.var 3) 1 5 (.cons (.var 25) _)) · k)) _ _ u σ λx hx=>
  aJ rfl (cX (aa rfl) jr (aj (aa rfl) aA) (AU w (c x hx) (dJ b)))
 rw[show u.map (λx=>X.v _)=(u.map nV).map .v from by rw[b5];rfl]at g
 exact jm (c7 (aa rfl) (show kT (aV G u)=S _ from congrArg _ b5)) g (by rw[aq _,aq _];exact aw (bw hl (by decide))) (fV _)
theorem ah9 (w:WF G)(c:2<=D){SV DV PV GV mv FV VD MV WV LV KV UV TV sv}{σ}{m}(k:qh G m VD){u}(o:bE G u)(hl:u.length<=m):
 az (aQ prog (D - 1)) (.bf ae .sorted (.comp ae (.two 26 27) (.hE (.idx (.var 7) (.var 14))) (.bN (.var 3) 1 7 (.cons (.var 26) (.cons (.var 27) .nil))))) [S (.v SV),S (.v DV),S (.v PV),S (.v (vG G)),S (.v GV),S (.v mv),S (.v FV),S (.v VD),S (.v MV),S (.v WV),S (.v LV),S (.v KV),S (.v UV),S (.v TV),S (.v (aV G u)),S (.v sv),S (.v (.lst (u.map nV))),J,J,J,J,J,J,J,J,J,J,J,J] σ=S (.v (.lst ((bD G u).map (vI G))),σ):=by
 have b:=OV w u
 have g:=jo (f:=λa q=>(bV (.two 26 27) a [S (.v SV),S (.v DV),S (.v PV),S _,S (.v GV),S (.v mv),S (.v FV),S (.v VD),S (.v MV),S (.v WV),S (.v LV),S (.v KV),S (.v UV),S (.v TV),S (.v (aV G u)),S (.v sv),S (.v (.lst (u.map nV))),J,J,J,J,J,J,J,J,J,J,J,J]).bind (az _ (.bN (.var 3) 1 7 (.cons (.var 26) (.cons (.var 27) _))) · q)) gW (λp=> .v (vI G p)) (bD G u) σ λp r=>
  aJ rfl (cX (aa rfl) jr (aj (aa rfl) (aj (aa rfl) aA)) (u3 w (rG p r).1 (dJ c)))
 rw[show(bD G u).map (λp=>X.v _)=((bD G u).map (vI G)).map .v from by rw[b5];rfl]at g
 exact iI (jm (oN (bu (aa rfl) (aa rfl) (yt w k o hl))) g (by rw[aq _,aq _];exact aw (bw b (by decide))) (fV _)) (by
  refine Zrr (mh rfl (oU lF (by rw[aq _];exact aw (bw b (by decide))))) ?_;rw[tn (.refl _) rG (me G u)];rfl)
theorem aia (w:WF G)(f:Fin G ws)(k:2<=D){SV DV PV GV mv FV VD MV WV LV KV UV TV sv}{σ}{u z}{t}(o:MV=vM G ws)(q:sv=nV t)(r:ws[t]?=S z)(x:PV= .lst (iN G)):
 az (aQ prog (D - 1)) (.comp ae (.one 28) (.of (.attr (.idx (.attr (.var 8) 24) (.var 15)) 19)) (.call 56 (.cons (.var 2) (.cons (.bN (.var 3) 1 8 (.cons (.var 28) .nil)) (.cons (.bN (.var 3) 1 9 (.cons (.var 28) .nil)) .nil))))) [S (.v SV),S (.v DV),S (.v PV),S (.v (vG G)),S (.v GV),S (.v mv),S (.v FV),S (.v VD),S (.v MV),S (.v WV),S (.v LV),S (.v KV),S (.v UV),S (.v TV),S (.v (aV G u)),S (.v sv),S (.v (.lst (u.map nV))),S (.v (.lst ((bD G u).map (vI G)))),J,J,J,J,J,J,J,J,J,J,J] σ=S (.v (.lst ((cls G z).map λp=> .str (lK G p))),σ):=by
 have cl:=rI w z
 have b:=dJ k
 have g:=jo (f:=λa y=>(bV (.one 28) a [S (.v SV),S (.v DV),S (.v PV),S _,S (.v GV),S (.v mv),S (.v FV),S (.v VD),S (.v MV),S (.v WV),S (.v LV),S (.v KV),S (.v UV),S (.v TV),S (.v (aV G u)),S (.v sv),S (.v (.lst (u.map nV))),S (.v (.lst ((bD G u).map (vI G)))),J,J,J,J,J,J,J,J,J,J,J]).bind (az _ (.call 56 (.cons (.var 2) (.cons (.bN (.var 3) 1 8 (.cons (.var 28) _)) (.cons (.bN (.var 3) 1 9 (.cons (.var 28) _)) _)))) · y)) (vI G) _ (cls G z) σ λp c=>
  aJ rfl (c6 (aj (aa (by rw[x];rfl)) (aj (cX (aa rfl) jr (aj (aa rfl) aA) (AR w (oV p c) b)) (aj (cX (aa rfl) jr (aj (aa rfl) aA) (FI w (oV p c) b)) aA))) (agf w (oV p c) b))
 rw[show(cls G z).map (λp=>X.v _)=((cls G z).map λp=> .str (lK G p)).map .v from by rw[b5];rfl]at g
 exact jm (c7 (a_ (bu (a_ (aa (by rw[o];rfl)) lI) (aa (by rw[q];rfl)) (rP f r)) yf) rfl) g (by rw[aq _,aq _];exact aw (bw cl (by decide))) (fV _)
noncomputable def Qx:Ss:=(.cons (.mG [14,15] (.idx (.var 10) (.cst (.int (-1))))) (.cons (.set 16 (.comp ae (.one 25) (.of (.var 14)) (.bN (.var 3) 1 5 (.cons (.var 25) .nil)))) (.cons (.set 17 (.bf ae .sorted (.comp ae (.two 26 27) (.hE (.idx (.var 7) (.var 14))) (.bN (.var 3) 1 7 (.cons (.var 26) (.cons (.var 27) .nil)))))) (.cons (.ite (.or (.cmp .ne (.call 41 (.cons (.var 8) (.cons (.var 16) .nil))) (.var 17)) (.or (.not (.call 40 (.cons (.var 8) (.cons (.var 16) .nil)))) (.call 40 (.cons (.var 8) (.cons (.bin ae .add (.var 16) (.lst ae (.cons (.cst (.int 1)) .nil))) .nil))))) (.cons (.ret (.cst (.bool ae))) .nil) .nil) (.cons (.ite (.cmp .ne (.call 41 (.cons (.var 8) (.cons (.bin ae .add (.var 16) (.lst ae (.cons (.cst (.int 1)) (.cons (.cst (.int 0)) .nil)))) .nil))) (.lst ae .nil)) (.cons (.ret (.cst (.bool ae))) .nil) .nil) (.cons (.ite (.or (.cmp .ne (.bN (.var 8) 4 29 .nil) (.bN (.var 8) 4 27 (.cons (.cst (.int 0)) (.cons (.lst ae (.cons (.bN (.var 3) 1 5 (.cons (.cst (.str [83])) .nil)) (.cons (.cst (.int 0)) .nil))) .nil)))) (.not (.call 55 (.cons (.var 8) (.cons (.var 16) (.cons (.var 15) .nil)))))) (.cons (.ret (.cst (.bool ae))) .nil) .nil) (.cons (.set 18 (.comp ae (.one 28) (.of (.attr (.idx (.attr (.var 8) 24) (.var 15)) 19)) (.call 56 (.cons (.var 2) (.cons (.bN (.var 3) 1 8 (.cons (.var 28) .nil)) (.cons (.bN (.var 3) 1 9 (.cons (.var 28) .nil)) .nil)))))) (.cons (.ret (.and (.cmp .eq (.call 42 (.cons (.var 8) (.cons (.var 15) .nil))) (.var 18)) (.cmp .eq (.call 21 (.cons (.var 3) (.cons (.attr (.idx (.attr (.var 8) 24) (.var 15)) 17) .nil))) (.attr (.idx (.attr (.var 8) 24) (.var 15)) 19)))) .nil))))))))
def aib:Ss:=(.cons (.ite (.or (.isNone ae (.var 9)) (.cmp .ne (.bf ae .len (.idx (.var 9) (.cst (.int 0)))) (.bf ae .len (.var 7)))) (.cons (.ret (.cst (.bool ae))) .nil) .nil) (.cons (.mG [10,11] (.var 9)) (.cons (.set 12 (.bf ae .sorted (.comp ae (.one 21) (.of (.var 11)) (.idx (.var 7) (.var 21))))) (.cons (.set 13 (.comp ae (.one 22) (.of (.var 11)) (.bf ae .tuple (.comp ae (.one 23) (.of (.var 22)) (.bN (.var 3) 1 5 (.cons (.var 23) .nil)))))) (.cons (.ite (.or (.cmp .ne (.iT ae (.one 24) (.rX (.cst (.int 1)) (.bf ae .len (.var 12))) (.cmp .eq (.idx (.var 12) (.bin ae .sub (.var 24) (.cst (.int 1)))) (.idx (.var 12) (.var 24))) (.var 24)) (.lst ae .nil)) (.not (.call 54 (.cons (.var 8) (.cons (.var 13) (.cons (.var 5) .nil)))))) (.cons (.ret (.cst (.bool ae))) .nil) .nil) Qx)))))
theorem aic (w:WF G)(f:Fin G ws){SV DV PV GV mv FV VD MV WV LV KV UV TV:V}{σ:Hp}{m:Nat}(hV:qh G m VD)(qi:m<=3)(rV:V.lst (iN G)=PV)(c:vM G ws=MV){F:List (List Nat)}(yw:F≠ [])(hF:∀u,u∈F↔bE G u/\u.length<=m)(vw:V.lst (F.map (mw G ws))=LV){Q:Env->Hp->Prop}{T:X->Hp->Prop}(hT:∀ {x af},Fz (.bool ab) x af->T x af):
 Do (aZ (aQ prog 19) Qx [S (.v SV),S (.v DV),S (.v PV),S (.v (vG G)),S (.v GV),S (.v mv),S (.v FV),S (.v VD),S (.v MV),S (.v WV),S (.v LV),S (.v KV),S (.v UV),S (.v TV),J,J,J,J,J,J,J,J,J,J,J,J,J,J,J] σ) Q T:=by
 have cn:isData 4 (.lst [])=true:=rfl
 obtain ⟨k,u,o⟩:∃k u,F=k++ [u]:=by
  rcases List.eq_nil_or_concat F with h| ⟨k,u,h⟩
  . exact absurd h yw
  . exact⟨k,u,by rw[h,AY];rfl⟩
 have iL:∀σ,b4 σ (.v LV) (.int (-1))=S (.v (mw G ws u)):=λσ=>vw▸GG (by(rw[o,aq _,aY]);rfl) (by(rw[o,bx,iG (bb _),kE _]);rfl)
 refine au ((hF u).mp (by rw[o];simp)) λa q=> ?_
 have wu:=mf w a
 refine ah (f.st w a) λz y vo=> ?_
 generalize b:nV (stN G ws u)=sv
 have ew:mw G ws u= .tup [aV G u,sv]:=by rewrite[mw];rw[b];rfl
 rw[ew]at iL
 refine xC (bu (aa rfl) aP (iL _)) rfl ?_
 have H:=ah8 (D:=20) (SV:=SV) (DV:=DV) (PV:=PV) (GV:=GV) (mv:=mv) (FV:=FV) (VD:=VD) (MV:=MV) (WV:=WV) (LV:=LV) (KV:=KV) (UV:=UV) (TV:=TV) (sv:=sv) (σ:=σ) w (by decide) wu (ba ‹_› ‹_›)
 refine bz H ?_
 have I:=ah9 (D:=20) (SV:=SV) (DV:=DV) (PV:=PV) (GV:=GV) (mv:=mv) (FV:=FV) (MV:=MV) (WV:=WV) (LV:=LV) (KV:=KV) (UV:=UV) (TV:=TV) (sv:=sv) (σ:=σ) w (by decide) hV a q
 refine bz I ?_
 have n1:∀r,¬bE G (u++1::r):=λr v=>by
  rw[Oi]at v
  exact(xT w (tH r v)).2.1 rfl
 have s1:cV .add (.lst (u.map nV)) (.lst [.int 1])=S (.lst ((u++ [1]).map nV)):=by
  refine Zrr (ny (by(rw[aq _,ee]);exact aw (SH qi q))) ?_;rw[bK];rfl
 have s2:cV .add (.lst (u.map nV)) (.lst [.int 1,.int 0])=S (.lst ((u++ [1,0]).map nV)):=by
  refine Zrr (ny (by rw[aq _];exact aw (by show u.length+2<_;exact SI qi q))) ?_;rw[bK];rfl
 have L:=OX (D:=19) (σ:=σ) (K:= .lst (u.map nV)) w f rfl (by decide)
 rw[show tI G ws u=(bD G u).map (vI G) from by rewrite[tI];rw[kN a];rfl]at L
 have O:=OU (D:=19) (σ:=σ) (K:= .lst (u.map nV)) w f rfl (by decide)
 rw[kN a]at O
 have U:=OU (D:=19) (σ:=σ) (K:= .lst ((u++ [1]).map nV)) w f rfl (by decide)
 rw[lH (n1 [])]at U
 have Y:=OX (D:=19) (σ:=σ) (K:= .lst ((u++ [1,0]).map nV)) w f rfl (by decide)
 rw[show tI G ws (u++ [1,0])= [] from by rewrite[tI];rw[lH (n1 [0])];rfl]at Y
 have f5:=af8 (D:=19) (σ:=σ) w f (by decide)
 have f6:=yd (D:=19) (σ:=σ) (u:= [G.nT+1,0]) (K:= .lst [nV (G.nT+1),.int 0]) w f rfl (by decide)
 have f7:=ahT (D:=19) (σ:=σ) w f a (ba ‹_› ‹_›) b.symm (by decide)
 have f8:=agg (D:=19) (σ:=σ) w f y (by decide)
 have f9:=afw (D:=19) (σ:=σ) (u:=z) w (by decide)
 have nB:nm G (G.nT+1)= [83]:=by rewrite[nm,List.getD];rw[w.nB];rfl
 have Hr:=AU (D:=19) (σ:=σ) w w.AN (by decide)
 rw[nB]at Hr
 generalize hnB:nV (G.nT+1)=nb at f6 Hr
 have Qy:∀σ,ef σ (.v MV) 24=S (.v (.lst (kM G ws))):=λσ=>c▸lI
 have cM:∀σ,n7 σ (.v MV)=S 4:=λσ=>c▸nL
 have iz:∀σ,b4 σ (.v (.lst (kM G ws))) sv=S (.v (gH G ws (stN G ws u) z)):=λσ=>b▸rP f y
 have Hh:∀σ t,ef σ (.v (gH G ws t z)) 17=S (.v (.tup ((aW G z).map (vI G)))):=λ_ _=>rfl
 rw[c]at L O U Y f5 f6 f7 f8
 rw[b]at f8
 have dI:isData 4 (.lst ((bD G u).map (vI G)))=true:=vn lF
 refine gy (jT (br (c6 (aj (aa rfl) (aj (aa rfl) aA)) L) (aa rfl) (ne_self dI)) (jT (xA (c6 (aj (aa rfl) (aj (aa rfl) aA)) O)) (c6 (aj (aa rfl) (aj (b_ (aa rfl) (fU (aj aP aA) (aw (by simp)) rfl) s1) aA)) U))) ?_
 refine gy (br (c6 (aj (aa rfl) (aj (b_ (aa rfl) (fU (aj aP (aj aP aA)) (aw (by simp)) rfl) s2) aA)) Y) (fU aA (aw (eN _)) rfl) (ne_self cn)) ?_
 refine gy (jT (br (cX (aa rfl) (cM _) aA f5) (cX (aa rfl) (cM _) (aj aP (aj (fU (aj (cX (aa rfl) jr (aj aP aA) Hr) (aj aP aA)) (aw (by simp)) rfl) aA)) f6) (ne_self ah0)) (xA (c6 (aj (aa rfl) (aj (aa rfl) (aj (aa rfl) aA))) f7))) ?_
 have e18:=aia (D:=20) (SV:=SV) (DV:=DV) (GV:=GV) (mv:=mv) (FV:=FV) (VD:=VD) (WV:=WV) (LV:=LV) (KV:=KV) (UV:=UV) (TV:=TV) (u:=u) (σ:=σ) w f (by decide) c.symm b.symm y rV.symm
 refine bz e18 ?_
 have dT:isData 4 (.lst ((cls G z).map λp=>V.str (lK G p)))=true:=by
  show((cls G z).map λp=>V.str (lK G p)).all (isData 3)=ab
  rw[nD,propext cF]
  exact λp hp=>ahV w (oV p hp)
 have dC:isData 4 (.lst (iq G z))=true:=vn lF
 exact cb (aR:=σ) (xx (br (c6 (aj (aa rfl) (aj (aa rfl) aA)) f8) (aa rfl) (eq_self dT)) (br (c6 (aj (aa rfl) (aj (a_ (bu (a_ (aa rfl) (Qy _)) (aa rfl) (iz _)) (Hh _ _)) aA)) f9) (a_ (bu (a_ (aa rfl) (Qy _)) (aa rfl) (iz _)) yf) (eq_self dC))) (hT (c8 rfl))
theorem aid (w:WF G)(f:Fin G ws){SV DV PV GV mv FV VD MV LV KV}{σ}{m n}(b:qh G m VD)(o:m<=3)(L:nV m=mv)(U: .lst (iN G)=PV)(q:vM G ws=MV){F}(Fs:tu F)(Y:F≠ [])(a:∀u,u∈F↔bE G u/\u.length<=m)(hn:o6 ws F n)(r: .lst (F.map (mw G ws))=LV)(y: .lst ((ws.take n).map (aV G))=KV){Q}{T}(hT:∀ {x H},Fz (.bool ab) x H->T x H):
 Do (aZ (aQ prog 19) aib [S (.v SV),S (.v DV),S (.v PV),S (.v (vG G)),S (.v GV),S (.v mv),S (.v FV),S (.v VD),S (.v MV),S (.v (.tup [LV,KV])),J,J,J,J,J,J,J,J,J,J,J,J,J,J,J,J,J,J,J] σ) Q T:=by
 have I:F.length<=820:=Zrr Ga.symm (nE (Gb Fs) λu hu=>have:=(a u).mp hu;A8 3 u (λx hx=>d0 (mf w this.1 x hx) w.big) (hC this.2 o))
 have b1:∀σ,cB σ .len (.v LV)=S (.val (nV F.length)):=λσ=>r▸eC (congrArg S (aq _)) (aw (bw I (by decide)))
 have b2:∀σ,cB σ .len (.v VD)=S (.val (nV F.length)):=λσ=>by
  refine cD b λK nd hK O=> ?_;clear b;subst O
  exact have:=(u6 nd (Gb Fs) λu=>(hK u).trans (a u).symm).length_eq;eC (congrArg S ((aq _).trans this)) (aw (bw I (by decide)))
 have c9:cO σ .ne (.v (nV F.length)) (.v (nV F.length))=S false:=yu.trans (by simp)
 refine gy (jT (tc (aa rfl) rfl) (br (cw (bu (aa rfl) aP ((λσ=>xH (aw (by simp)) rfl) _)) (b1 _)) (cw (aa rfl) (b2 _)) c9)) (xC (aa rfl) rfl ?_)
 generalize hWV:V.tup [LV,KV]=WV
 refine bz (ah5 (D:=20) (SV:=SV) (DV:=DV) (PV:=PV) (GV:=GV) (mv:=mv) (FV:=FV) (MV:=MV) (WV:=WV) (LV:=LV) (σ:=σ) w f b a hn y.symm) ?_
 generalize c:V.lst (ir G ws n)=UV
 refine bz (ah6 (D:=20) (SV:=SV) (DV:=DV) (PV:=PV) (GV:=GV) (mv:=mv) (FV:=FV) (VD:=VD) (MV:=MV) (WV:=WV) (LV:=LV) (UV:=UV) (σ:=σ) w f (by simp) y.symm) ?_
 have k:=ahO (D:=19) (σ:=σ) w f a hn L.symm (by simp)
 generalize hTV:V.lst ((ws.take n).map dK)=TV at k
 rw[q]at k
 exact gy (jT (br (ah7 (D:=20) (SV:=SV) (DV:=DV) (PV:=PV) (GV:=GV) (mv:=mv) (FV:=FV) (VD:=VD) (MV:=MV) (WV:=WV) (LV:=LV) (KV:=KV) (TV:=TV) (σ:=σ) w f c.symm) (fU aA (aw (eN _)) rfl) (ne_self rfl)) (xA (c6 (aj (aa rfl) (aj (aa rfl) (aj (aa rfl) aA))) k))) (aic w f b o U q Y a r hT)
theorem aie {ns:List Int}(r:ns.length<=63):(aQ prog 20).call 57 [.v (.lst (ns.map .int))] []=S (.v (.bool ab),[]):=by
 refine ed (ρ:= [S (.v (.lst (ns.map .int))),J,J,J,J,J,J,J,J,J,J,J,J,J,J,J,J,J,J,J,J,J,J,J,J,J,J,J,J]) (by decide) rfl rfl rfl rfl λT hT=> ?_
 refine ah (agM (D:=19) r (by decide)) λc0 sI U=> ?_
 refine iP (agN (D:=19) sI (by decide)) λk b c d e2=> ?_
 generalize hSV:V.lst (ns.map .int)=SV at U
 refine bz (c6 (aj (c6 (aj (aa rfl) aA) U) aA) e2) ?_
 refine l_ rfl (jn (l:=b.map gU) rfl) ?_
 have w:=G2 d
 have pe:=ag2 d
 have dl:=d.len
 have a1:cV .add (.lst [gU (nQ,[[83],[36,101,110,100]])]) (.lst (b.map gU))=S (.lst (iN (cm k b))):=by
  refine Zrr (ny (by(rw[aq _,ee]);exact aw (Q5 dl))) ?_;rw[pe];rfl
 refine bz (b_ (fU (xs:= [.v (gU (nQ,[[83],[36,101,110,100]]))]) (aj (eZ (xs:= [.v (.str nQ),.v (.tup [.str [83],.str [36,101,110,100]])]) (aj aP (aj (eZ (xs:= [.v (.str [83]),.v (.str [36,101,110,100])]) (aj aP (aj aP aA)) (aw (by simp)) rfl) aA)) (aw (by simp)) rfl) aA) (aw (by simp)) rfl) (aa rfl) a1) ?_
 generalize o:V.lst (iN (cm k b))=PV
 have pl:∀p∈b,p.2.length<1000:=λp u=>by have:=(d.syms.1 p u).2;exact bw this (by decide)
 generalize Hg:V.lst (b.map gU)=Y
 have g:=jo (f:=λa af=>(bV (.two 19 20) a [S (.v SV),S (.v Y),S (.v PV),J,J,J,J,J,J,J,J,J,J,J,J,J,J,J,J,J,J,J,J,J,J,J,J,J,J]).bind λρ'=>az (aQ prog 19) (.tup (.cons (.var 19) (.cons (.bf ae .list (.var 20)) .nil))) ρ' af) gU (λp=>X.v (km p)) b [c,.dead] λp u=>
  aJ (a:= [S (.v SV),S (.v Y),S (.v PV),J,J,J,J,J,J,J,J,J,J,J,J,J,J,J,J,S (.v (.str p.1)),S (.v (.tup (p.2.map .str))),J,J,J,J,J,J,J,J]) rfl (eZ (xs:= [.v (.str p.1),.v (.lst (p.2.map .str))]) (aj (aa rfl) (aj (iI (aa rfl) (Fw (by rw[aq _];have:=pl p u;exact aw (dq this (by decide))))) aA)) (aw (by simp)) rfl)
 rw[show b.map (λp=>X.v (km p))=(b.map km).map .v from by rw[b5];rfl]at g
 refine bz (c6 (aj (jm (oN (aa (by rw[Hg.symm];rfl))) g (by(rw[aq _,aq _]);exact aw (bw dl (by decide))) (fV _)) aA) (run_plain d (by decide))) ?_
 generalize cm k b=G at w o
 have e3:=ahA (D:=19) (σ:= [c,.dead]) w (by decide)
 rw[o]at e3
 refine gy (xA (p:=ab) (c6 (aj (aa rfl) (aj (aa rfl) aA)) e3)) ?_
 refine ah (ag8 (D:=19) (σ:= [c,.dead]) w (by decide)) λGV hG e4=> ?_
 rw[o]at e4
 refine bz (c6 (aj (aa rfl) aA) e4) ?_
 (refine ah (ahg (D:=19) (σ:= [c,.dead]) w hG (by decide)) λRV O e5=> ?_;refine kP O λm L w5 x y fL H I=> ?_;clear O;obtain rfl:=y)
 generalize Q:nV m=mv at e5
 refine xC (vs:= [mv,.lst (L.map (aV G))]) (c6 (aj (aa rfl) aA) e5) rfl ?_
 refine ah (ahx (D:=19) (σ:= [c,.dead]) w hG Q.symm x fL H I (by decide)) λVD hV e6=> ?_
 generalize Qf:V.lst (L.map (aV G))=FV at e6
 refine ao (ae9 w) λws f=> ?_
 have e7:=af2 (D:=19) (σ:= [c,.dead]) w f (by decide)
 (refine ah (ahJ (D:=19) (σ:= [c,.dead]) w f hV x Q.symm (by decide)) λWV O q=> ?_;refine yz O λF n Fs yw hF hn y=> ?_;clear O;obtain rfl:=y)
 generalize o7:vM G ws=MV at e7 q
 refine AG (aj (c6 (aj (aa rfl) (aj (aa rfl) (aj (aa rfl) aA))) e6) (aj (c6 (aj (aa rfl) aA) e7) aA)) rfl ?_
 generalize vw:V.lst (F.map (mw G ws))=LV at q
 generalize BO:V.lst ((ws.take n).map (aV G))=KV at q
 refine bz (c6 (aj (aa rfl) (aj (aa rfl) (aj (aa rfl) (aj (aa rfl) aA)))) q) ?_
 exact aid w f hV x Q o o7 Fs yw hF hn vw BO hT
section
open PySem PySem.W PySem.Calls PyProof.Rows
open PySem PySem.W PySem.Calls PyProof.Rows
noncomputable def Ht (p:Program)(w:World):Nat->SharedT->Thread->Option SharedT
 |0,_,_=>J
 |n+1,s,t=>match through t with
  |true=>S s
  |false=>match PySem.W.Fast.tw6613529449190102663 11 (S (.ref 6)) t with
   |false=>J
   |true=>match PySem.W.Fast.tw10156331382660048174 (PySem.W.Fast.tw11892475500146522536 PySem.W.Fast.tw14364793385576792824) p w s t with
    |some (a,b)=>Ht p w n a b
    |none=>J
theorem aif {p:Program}{w:World}:∀ {n:Nat} {s a:SharedT} {t:Thread},Ht p w n s t=S a->topRun treeTable p w 11 (S (.ref 6)) n s.abs t=S a.abs:=by
 intro k
 induction k with
 |zero=>exact λh=>nomatch h
 |succ n o=>
  intro s a t h
  unfold topRun
  have h:(match through t with|true=>_|false=>_)=_:=h
  cases c:through t with
  |true=>rewrite[c]at h;cases h;rfl
  |false=>
   rewrite[c,<-PySem.W.Fast.te6613529449190102663]at h
   dsimp only at h ⊢
   cases hk:stepOk 11 (S (.ref 6)) t with
   |false=>rewrite[hk]at h;cases h
   |true=>
    rewrite[hk,<-PySem.W.Fast.te10156331382660048174,<-PySem.W.Fast.te11892475500146522536,<-PySem.W.Fast.te14364793385576792824]at h
    dsimp only at h ⊢
    cases b:stepT (denote treeTable) p w s t with
    |none=>rewrite[b]at h;cases h
    |some x=>
     rewrite[b]at h
     rewrite[stepT_spec b]
     exact o h
def T0 (P:Params):BT:=(boot_heap P).objs.toList.zipIdx.foldl (λt x=>t.ins x.2 x.1) .nil
def Hu (w:World)(os:OsState):SharedT:=⟨T0 w.params,11,(boot_heap w.params).life,#[],boot_drawn,boot_toks,os⟩
noncomputable abbrev pw:=PySem.Challenge.pw_nn0370_01
noncomputable def qv:Program:=view pw [49]
def lz:List Str:=pw.boundNames.filter λn=> !(PySem.W.Fast.sEq n "law")
noncomputable def md:List Str:=importedModules pw.main.body
def lk1 (w:World)(s:aT):Bool:=staticsOk md (boot_heap w.params) s.heap&&namesBound pw s.heap&&gensDone s&&laidKept (boot_heap w.params) s.heap
noncomputable def Hv (h:Heap):Frag:=(h.objs.toList.zipIdx.filter λx=> !x.1.isFreed).map λx=>(x.2,x.1)
def yx (K:Frag):Bool:=(List.range 6).all (E8 K) && ((List.range 6).all (Na K) && (Nb K&& (EX K E5&& (EY K lq l9 E6&& (xw K E7 0 prog.fk&& (Az K lq tb 0 prog.init&& (Ay K tM prog.fns E4 M8&&nsIn K mainGlobals (bZ "law")==S (S (.ref (tb 57))))))))))
theorem aih (w:World):(λos=>(Ht pw w 4000 (Hu w os) (topStub pw)).map (λs=>(lk1 w s.abs,PySem.W.Fast.tw4187177175401517315 qv lz md (λ_=>ab) ab s.abs,yx (Hv s.abs.heap))))=λ_=>S (ab,openGood qv lz,ab):=by kernel_rfl
theorem aii (h:Heap):(Hv h).In h:=λa o e=>by
 have m:∀l:List (aO×Obj),l.lookup a=S o->(a,o)∈l:=λl=>by
  induction l with
  |nil=>exact λe=>nomatch e
  |cons p l b=>
   intro e
   rewrite[k7]at e
   cases q:a==p.1 with
   |true=>rewrite[q]at e;cases e;rewrite[eq_of_beq q];exact .head _
   |false=>rewrite[q]at e;exact .tail _ (b e)
 obtain ⟨x,hx,e⟩:=bY.mp (m _ e)
 cases e
 have hx:=fK.mp hx
 have this:=Bn.mp hx.1
 rewrite[eL]at this
 exact Heap.get?_some_iff.mpr ⟨this,by simpa using hx.2⟩
theorem aij {K:Frag}(h:yx K=ab):AD K/\nsIn K mainGlobals (bZ "law")=S (S (.ref (tb 57))):=by
 unfold yx at h
 simp only[fZ]at h
 exact⟨⟨h.1,h.2.1,h.2.2.1,h.2.2.2.1,h.2.2.2.2.1,h.2.2.2.2.2.1,h.2.2.2.2.2.2.1,h.2.2.2.2.2.2.2.1⟩,eq_of_beq h.2.2.2.2.2.2.2.2⟩
theorem aik (w:World):(λos=>(Hu w os).abs)=λos=>⟨boot_heap w.params,#[],boot_drawn,boot_toks,os⟩:=by kernel_rfl
theorem ail (w:World):((boot_heap w.params).isNs mainGlobals&& (#[]:Array GenState).size==0,(boot_heap w.params).objs.size,(boot_heap w.params).nsMap mainGlobals "__annotations__")=(ab,11,S (.ref 6)):=by kernel_rfl
theorem aim {p q:Program}{loose:List Str}{N m:Nat}{a}{Xt}{c:aT->Bool}{H:Params->Heap}{d k}(o:∀w:World,(fencedOpening treeTable p w N).map (λs=>(s.heap,s.gens,s.drawn,s.toks))=S (H w.params,Array.mk [],d,k))
 (b:∀w:World,((H w.params).isNs mainGlobals&& (#[]:Array GenState).size==0,(H w.params).objs.size,(H w.params).nsMap mainGlobals "__annotations__")=(ab,m,a))
 (r:∀w os,∃s,topRun treeTable p w m a N ⟨H w.params,#[],d,k,os⟩ (topStub p)=S s/\(staticsOk (importedModules p.main.body) (H w.params) s.heap&&namesBound p s.heap&&gensDone s&&laidKept (H w.params) s.heap,openSeen q loose (importedModules p.main.body) Xt ab s,c s)=(ab,openGood q loose,ab)):
 LeftO p q loose Xt c (λ_=>ab) N:=λw=>by
 obtain ⟨⟨h,u,d,k,os⟩,e,y⟩:=qk.mp (o w)
 obtain ⟨rfl,rfl,rfl,rfl⟩:h=_/\u=_/\d=_/\k=_:=by simpa only[kY,jF]using y
 obtain ⟨s,t,g⟩:=r w os
 have z:topFrom treeTable p w N ⟨H w.params,Array.mk [],d,k,os⟩=S s:=by
  unfold topFrom
  dsimp only
  rewrite[show((H w.params).isNs mainGlobals&& (#[]:Array GenState).size==0)=ab from congrArg Prod.fst (b w),show(H w.params).objs.size=m from congrArg (λx=>x.2.1) (b w),show(H w.params).nsMap mainGlobals "__annotations__" =a from congrArg (λx=>x.2.2) (b w),t]
  dsimp only[Option.bind]
  rewrite[show(staticsOk (importedModules p.main.body) (H w.params) s.heap&&namesBound p s.heap&&gensDone s&&laidKept (H w.params) s.heap)=ab from congrArg Prod.fst g]
  rfl
 unfold openEnds
 rewrite[e]
 dsimp only[Option.bind]
 rewrite[z]
 exact congrArg S (congrArg Prod.snd g)
theorem left:LeftO pw qv lz (λ_=>ab) (λs=>yx (Hv s.heap)) (λ_=>ab) 4000:=aim (boot_open (by kernel_rfl) (by decide) (λs=>by kernel_rfl)) ail λw os=>by
 obtain ⟨s,a,b⟩:=qk.mp (congrFun (aih w) os)
 have t:=aif a
 rewrite[show(Hu w os).abs=_ from congrFun (aik w) os]at t
 refine⟨_,t,?_⟩
 rewrite[PySem.W.Fast.te4187177175401517315]
 exact b
theorem ain {C:CX}{h:Heap}{N:aO->Prop}{a ns}(i:IntsAre a ns):bI C h N (ns.map V.int) a:=by
 induction i with
 |nil=>rfl
 |cons n t _ b=>exact⟨_,_,rfl,⟨_,rfl⟩,b⟩
theorem aio {P:Params}{h:Heap}{a:aO}{xs:List WData}(w:Well P h (.ref a) (.list xs)):∃b:List Value,h.get? a=S {cls:= .type "list",data:= .seq b.toArray}:=by
 cases w;exact⟨_,‹_›⟩
theorem aip {w:World}{h:Heap}{args b as cls}(x:PySem.Challenge.rw_nn0370_01.row.claim.pre args=ab)(y:WData.layableAll args=ab)(H:ReadsAllW PySem.Challenge.rw_nn0370_01.row.records cls h b args as)(I:WellAll w.params h b args):
 ∃ns a c n,b= [.ref a]/\h.get? a=S (seqObj "list" c n)/\IntsAre c.toList ns/\ns.length<=63:=by
 refine au (pre_splitW x) λL O=> ?_
 refine bp (hasAllW_cons (e:= .list .int) (es:= []) L) λd r Q U Y=> ?_
 cases hasAllW_nil Y
 subst Q
 refine cD (open_plain (.list .int) rfl U (layW_cons y).1) λp e2 h5 _=> ?_
 refine ao (has_list_int h5) λns e3=> ?_
 subst e3
 subst e2
 refine tO (readsAllW_cons_inv H) λv c tW yH e4 _ h6 h7=> ?_
 cases (readsAllW_nil_inv h7).1
 subst e4
 refine bU (reads_list_items (reads_of_readsW _ h6)) λa l bs e5 _ hL hr=> ?_
 subst e5
 have hl:=condW_of (holds_andW O).1 (w_sealed (.not (.lt (.lit (.int 63)) (.len (.arg 0)))) J (.yes (.list (ns.map .int)) .nil) .nil .nil (res_none J) rfl (v_not (v_lt v_lit (v_len_ints_list (v_arg rfl)))))
 refine ao (aio (wellAll_head I).1) λus q=>cD hL λo u _ k=>ao k λn k=> ?_
 rewrite[q]at u
 cases u
 cases k
 exact⟨_,_,_,_,rfl,q,(readsAll_intsAre hr).1,CA.mp (lT.mp (of_decide_eq_false ((oE _).mp hl)))⟩
theorem aiq {K:Frag}(x:AD K){p loose mg mb}{w:World}{P:Program}{s:aT}(TT:TopRead p loose mg mb s.heap)(y:K.In s.heap){ns a k n}(H:s.heap.get? a=S (seqObj "list" k n))(I:IntsAre k.toList ns)(hl:ns.length<=63){Q E}{fa r}(L:Value.ref fa= .ref (tb 57))(O:r= [.ref a])(q:∀h' u,(∀b o,s.heap.get? b=S o->h'.get? b=S o)->Q (.bool ab) (upd s h' u)):wpAny (model P w) callerA (PySem.call (.ref fa) r) Q E s:=by
 rewrite[L,O]
 refine wpAny_call ((aer x P w s.heap TT y 20).call callerA ⟨rfl,by decide,by decide⟩ 57 _ [] _ _ (aie hl) (λ_=>False) [] s _ _ ?_ ⟨_,[],rfl,⟨a,n,_,rfl,λq=>q.elim (λq=>q) (uV a),H,ain I⟩,rfl⟩ ?_)
 . exact⟨rfl,λ_ _ e=>e,λn p c e _=>by simp at e,λn m p q c d e _ _ _ _ _=>by simp at e,λb q=>absurd q (uV b),λb q=>q.elim⟩
 . intro v h' u Y st U
   cases (show v= .bool ab from U)
   exact q _ _ λb o e=>st.keep b o e (uV b)
theorem aiR:PySem.Challenge.rw_nn0370_01.Holds:=by
 refine holds_law (by kernel_rfl) λb=>holds_open (q:=qv) (loose:=lz) (Xt:=λ_=>ab) (XP:=λ_ _=>True) (YP:=λ_ h=>∃K:Frag,yx K=ab/\K.In h) left (λw s e=>⟨_,e,aii _⟩) (λw h u x k=>x.imp λK x=>⟨x.1,x.2.keeps k⟩) (λ_ _=>trivial) (λ_ _ _ _ _=>trivial) rfl rfl rfl (λs _=>recFacts_nil rfl) rfl b (by decide+kernel) ⟨rfl,rfl,rfl,rfl,rfl,by decide+kernel⟩ ⟨[.list []],by decide+kernel,by decide+kernel⟩ ?_
 intro w m9 dU mg mb G Y fa o pm cd doc dV kV _ _ _ _ c y args l8 as H I L O _
 refine ah Y λK Q r=>au (aij Q) λU kl=>tO (aip H I L O) λns a vs n e hL hI hl=> ?_
 exact aiq U (topRead_of G.T) r hL hI hl (je (c.symm.trans (mg_of r G.T.g kl))) e λu tk keep=>GoodW.toG ⟨.inl ⟨.bool ab,.bool ab,[],rfl,λ_=>rfl,.bool ab,by kernel_rfl,λ_=>⟨.nil,λ_ h=>nomatch h⟩⟩,keep,rfl,y⟩
end
end Mine.Tactic
theorem PySem.Challenge.cw_nn0370_01_holds : PySem.Challenge.rw_nn0370_01.Holds := by
 exact Mine.Tactic.aiR
