import PyProof.Rows.All
import Wide.All
import OpenK.AllK
import Wide.FinOn
import PyProof.AttrMissHeap
import KE.KDictOf
import KE.KSortTup
import KE.KDictSum
import PyProof.Rows.Walk
import PySem.Challenge.RW_nn0370_01
set_option linter.all false
set_option bootstrap.genMatcherCode false
set_option compiler.extract_closed false
set_option genSizeOf false
set_option genSizeOfSpec false
set_option tactic.hygienic false
set_option maxRecDepth 100000
set_option maxHeartbeats 8000000
noncomputable section
namespace Mine.Tactic
open Option renaming some->S,none->J,map_eq_some_iff->qe,isSome_iff_exists->ug,any_eq_true->uQ,bind_eq_some_iff->yw,map_some->ua,isNone_iff_eq_none->CZ,map_eq_none_iff->Gi,none_or->ZA
open List renaming length_map->aq,length_append->aY,getElem?_map->bw,append_assoc->bM,map_append->bK,getElem?_eq_some_iff->dk,getElem?_eq_getElem->dr,mem_append->b5,mem_cons_self->cT,length_range->cP,all_eq_true->cF,mem_cons_of_mem->dA,mem_singleton->dm,getElem?_set_ne->dG,getElem?_append_left->eQ,mem_map->bX,length_singleton->ed,map_map->b4,mem_cons->cy,append_nil->dg,getElem?_eq_none->eU,mem_of_getElem?->eX,mem_append_left->fg,take_of_length_le->f_,getElem?_append_right->iE,pairwise_append->gc,map_cons->dz,mem_append_right->ij,mem_filter->fI,take_append_drop->iZ,ext_getElem?->gP,getElem?_range->iI,foldl_append->g8,length_filter_le->jZ,length_take->ie,mem_range->gu,pairwise_map->i5,filter_append->j_,getElem?_zipIdx->lG,drop_eq_getElem_cons->ou,eq_nil_of_length_eq_zero->qA,length_cons->jG,getElem?_set_self->oj,nodup_iff_pairwise_ne->rI,filter_cons_of_pos->pJ,filter_cons_of_neg->pK,range_succ->kI,nodup_cons->kB,lookup_cons->k7,mem_of_mem_take->oC,foldl_cons->kW,flatMap_append->p6,mem_reverse->oF,mem_flatMap->oQ,drop_of_length_le->sD,set_set->lX,nodup_append->qH,getElem?_set->rH,prefix_append->tj,pairwise_cons->sZ,length_drop->qX,append_inj'->qZ,all_map->nC,getElem?_of_mem->uF,mem_zipIdx_iff_getElem?->Bl,map_congr_left->vb,filter_eq_nil_iff->xg,map_singleton->u7,length_zipIdx->u9,set_append_right->w_,take_sublist->uH,getElem_of_mem->w5,getElem?_replicate->Ak,take_append_of_le_length->GA,map_nil->qG,getElem?_take->w9,flatMap_singleton->Ba,length_replicate->AM,concat_eq_append->AW,size_toArray->vZ,reverse_cons->xh,reverse_reverse->z0,mem_of_mem_drop->zW,getD_eq_getElem?_getD->Em,getElem_mem->wO,exists_cons_of_length_eq_add_one->LG,getElem?_eq_none_iff->Dz,reverse_append->zZ,set_comm->uo,filter_nil->xZ,set_cons_succ->Bj,findIdx?_eq_some_iff_getElem->Kv,range_succ_eq_map->El,flatMap_cons->A_,perm_append_comm->DT,pairwise_flatMap->F6,prefix_refl->A4,getElem_map->AR,any_eq_true->Ai,any_cons->vR,getLast?_append->Ha,dropLast_concat->Hb,length_set->Bk,forIn_cons->zo,map_set->xI,idxOf_lt_length_of_mem->NU,nodup_nil->Bh,pairwise_iff_getElem->Lh,append_eq_append_iff->Od,take_add_one->FL,map_take->Bn,zipIdx_cons->Gg,pairwise_singleton->LY,nodup_range->F4,map_fst_zip->Ep,getLast?_singleton->PX,getElem_inj->FI,cons_append->CT,pairwise_lt_range->ND,any_map->yQ,prefix_rfl->FR,nil_append->Er,all_append->Hm,foldl_nil->F0,drop_zero->CC,take_succ_cons->Pd,replicate_succ->IE,map_eq_nil_iff->Mk,all_cons->Cm,zipIdx_append->Om,getElem_idxOf->NV,append_of_mem->LZ,take_length->Pm,eq_nil_iff_forall_not_mem->ylE,append_cons->Of,zip_append->Mi,prefix_append_right_inj->ylQ,of_mem_zip->J3,getElem?_concat_length->ymB,take_zero->PU,extract_eq_take_drop->ymS,take_add->Li,map_drop->OX,mem_singleton_self->ynH,find?_cons_of_neg->XG,countP_mono_left->ynV,set_append_left->ynZ,forall_mem_cons->yoA,filter_sublist->yoJ,filterMap_cons->yoK,set_cons_zero->yoP,ne_nil_of_mem->yoQ,map_replicate->yoR,countP_append->yoS,getElem_drop->ypB,filter_congr->ypC,drop_sublist->ypD,any_eq_false->ypE,not_mem_nil->YI,map_reverse->ypQ,isEmpty_iff->Zh,countP_cons->ypS,cons_ne_nil->ypT,find?_cons->Xu,filter_map->yqF,take_left->yqK,range_add->yqL,drop_left->yqM,drop_drop->yqN
open Nat renaming le_of_eq->aN,le_trans->bp,le_refl->ba,le_antisymm->cj,le_of_lt->b_,le_add_of_sub_le->eH,lt_of_lt_of_le->d_,le_add_right->dO,sub_add_cancel->eO,lt_of_le_of_lt->e_,zero_lt_succ->eM,mul_le_mul_left->gh,ne_of_lt->dx,exists_eq_succ_of_ne_zero->lh,le_of_lt_succ->fU,lt_of_succ_lt->gr,le_of_not_lt->gg,zero_le->dM,add_le_add_left->iD,add_lt_add_left->iY,zero_add->fb,not_succ_le_zero->jB,add_sub_cancel_left->l7,ne_of_gt->fM,lt_succ_self->jc,lt_of_not_le->jd,lt_trans->gY,min_eq_left->jI,le_succ_of_le->k9,min_le_left->lL,succ_le_succ->mU,not_lt_of_le->mD,exists_eq_add_of_le->sS,sub_self->kE,sub_le->jA,lt_succ_of_le->qS,eq_zero_of_not_pos->uz,min_le_right->qj,add_comm->n4,le_succ->qL,lt_of_add_lt_add_left->DH,add_sub_cancel'->zR,not_lt->qw,lt_or_eq_of_le->yC,succ_le_of_lt->yM,lt_succ_of_lt->yA,lt_or_ge->uL,add_zero->tO,add_le_add->vq,le_min->rU,lt_irrefl->vK,add_assoc->w3,add_le_add_right->D2,le_add_left->zQ,add_right_comm->ET,zero_lt_of_lt->DN,sub_pos_of_lt->D1,not_le_of_lt->BP,min_eq_right->Cy,succ_pos->yB,zero_lt_one->DP,sub_eq_zero_of_le->H6,le_of_sub_eq_zero->LC,le_of_ble_eq_true->HF,testBit_or->FY,add_sub_cancel->KU,zero_mul->BO,succ_lt_succ->KY,shiftLeft_eq->Nl,max_eq_right->KQ,le_max_right->HV,not_lt_zero->HG,mul_div_le->H7,shiftRight_eq_div_pow->W0,lt_add_of_pos_right->QM,zero_max->Lj,succ_add->HD,sub_le_iff_le_add'->ynR,lt_of_succ_lt_succ->ynS,lt_asymm->K4,le_of_succ_le_succ->Xz,pow_le_pow_right->yoC,one_mul->HC,not_succ_le_self->QW,lt_sub_of_add_lt->yoF,le_sub_of_add_le->yoG,add_mul->HB,add_add_add_comm->QG,lt_mul_div_succ->S8,not_le->KJ,lt_of_le_of_ne->yoZ,eq_or_lt_of_le->ypA,lt_trichotomy->ypO,succ_ne_self->Zg,sub_sub_self->yqC,add_pos_left->yqD,zero_lt_two->yqJ
open Bool renaming false->ae,true->ab,and_eq_true_iff->dF,false_ne_true->gq,and_eq_true->fY,or_eq_true->lY,not_eq_true'->oB,eq_iff_iff->qB,false_eq_true->yZ,or_eq_true_iff->Kh,and_true->CY,false_or->IX,eq_false_iff->ypI
open PySem renaming wpAny_bind->aG,Expr->aI,wpAny_pure->bA,Shared->aT,Addr->aO,wpAny_loadPart'->lj,wpAny_holding->jH,wpAny_truthy_bool->sr,wpAny_standAt->qI,wpAny_mono->mW,call_meets->o7,wpAny_newObj_type->yV,wpAny_rule->si,wpAny_items_cons->yY,wpAny_typeNameOfWhole_keyiter->JI,wpAny_isTrue_BoolOp->EJ,slot_list_getitem->Cw,wpAny_typeNameOf_keyiter->JJ,wpAny_call_entry->Cz,wpAny_callSpecial?_slot->Jo,wpAny_allTrue_And_cons->MN,wpAny_items_nil->CD,codeAny_builtin->Dq,wpAny_allTrue_Or_cons->MP,plainId_quiet->Dp,wpAny_typeOf->CA,wpAny_dictEntries->Jx,wpAny_Call_ofName->Jv,map_eq_self->Ck,wpAny_execs_nil->JW,slicePick_plain->Jk,typeIs_int->Ce,callWith_type->YH,call_meetsIn->Jz,wpAny_notOrdered_dict->Y2,wpAny_isOneOf_keyiter->Y3,wpAny_letTemporaryGo->XU,wpAny_field->Jn,wpAny_Tuple->Jr,wpAny_Constant_bool->WO,wpAny_Assign_stores->yqI
open PySem.Str renaming ofString->bY
open Array renaming getElem?_toList->eK,length_toList->gO,toList_append->r_,toList_inj->qW,getElem?_eq_getElem->zJ,perm_iff_toList_perm->DB,toList_push->zA,toList_setIfInBounds->Kn,isEmpty_iff->Cf,toList_map->L4,getElem?_eq_some_iff->ymD,getElem?_eq_none->ynJ,mem_of_getElem?->ynN,toList_extract->ynX,any_toList->XX,size_map->yqG
open PyProof.Rows renaming wpS_bind->bq,wpS_pure->bB,wpS_forRange->l4,slot_tuple_getitem->yU,wpS_lift->ux,wpS_get->sY,wpS_modify->zO,assign_Tuple_tuple->JS,pairsOf_size->Ee,get?_update_seq->L7,listUpdate_at->L6,seqEpoch_at->L8,elem'_eq->DC
open PySem.Heap renaming get?_push_of_some->jE,get?_push_size->kU,lt_size->jf,get?_update_self->Ct,size_push->CU,get?_push_ne->yoX,size_update->ypM
open Option.some renaming injEq->jF,inj->je
open List.cons renaming inj->iy
open Prod.mk renaming injEq->kY
open Int renaming natCast_nonneg->qK,lt_trans->mR,ofNat_inj->pL,not_lt->lT,le_of_lt->sd,toNat_natCast->y8,eq_ofNat_of_zero_le->IK,zero_add->Cu,ofNat_le->Cx,le_trans->Cc,add_comm->Cd,max_eq_right->Ji,min_eq_left->Jj,fdiv_eq_ediv_of_nonneg->W2,add_neg_cancel_right->ynI,le_of_eq->Jf,natAbs_of_nonneg->W3,add_le_add_right->X5,toNat_of_nonpos->X4,toNat_of_nonneg->Y0,sub_add_cancel->X',not_le->IJ,lt_of_le_of_lt->WY,max_eq_left->X3
open Nat.succ renaming inj->qR
open List.Perm renaming append_left->z5
open PySem.F renaming slot_dict_keyiterator_next->JF,plainAttrs_list->Df,slot_str_join->Kr,slot_list_getattribute->Kz,slot_dict_get->Kq,slot_list_insert->ylV,slot_list_extend->ylW,slot_list_append->ylX,args_tuple_add_2->W',slot_list_index->ymE,entry_tuple_add->W9,args_str_join_2->ymG,args_dict_get_3->ymH,slot_tuple_add->W8,slot_dict_iter->Y1,entry_str_join->ymN,entry_dict_get->ymO,slot_int_rmul->W6,slot_dict_len->YL,slot_list_lt->ynF
open PySem.Around renaming under_plainId->Ds
open PySem.StrLaws renaming sliceIdx_none_lo->Jq,glued_eq_join->ymV,sliced_plain->Yg
open Prod renaming ext->v9,ext_iff->PY
open Decidable renaming byContradiction->ylG
open Classical renaming byContradiction->ylH
open PySem.Calls renaming call_function_entry->YK,callWith_builtin->Jw,Name_function_global->WQ
open BEq renaming rfl->wx
open Ne renaming symm->vV
open PySem.WalksT renaming enumerate->Y9
open PySem.Obj renaming data_mapFields->Y4
open PySem.W renaming any_some->Cp
theorem bT {C:Prop}(h:ae=ab):C:=nomatch h
theorem ja {C:Prop}(h:ab=ae):C:=nomatch h
theorem aD {C:Prop}{b}{a:b}(h:J=S a):C:=nomatch h
theorem kO {C:Prop}{b}{a:b}(h:S a=J):C:=nomatch h
@[elab_as_elim] theorem Zrr {P:α->Prop}(h:a=b)(m:P b):P a:=h▸m
@[elab_as_elim] theorem Qw {P:c->Prop}(h:a=b)(m:P a):P b:=h▸m
theorem kr {f:c->Option q}{b}{G:Prop}(h:o.bind f=S b)(k:∀a,o=S a->f a=S b->G):G:=(yw.mp h).elim λa h=>k a h.1 h.2
theorem qc {q r u:Type _}{o:Option (q×r)}{f}{b:u}{G:Prop}(h:o.bind f=S b)(k:∀a c,o=S (a,c)->f (a,c)=S b->G):G:=(yw.mp h).elim λa h=>k _ _ h.1 h.2
theorem Hx {q r u x:Type _}{o:Option (q×r×u)}{f}{b:x}{G:Prop}(h:o.bind f=S b)(k:∀a c d,o=S (a,c,d)->f (a,c,d)=S b->G):G:=(yw.mp h).elim λa h=>k _ _ _ h.1 h.2
theorem gX {f:c->q}{b}{G:Prop}(h:o.map f=S b)(k:∀a,o=S a->f a=b->G):G:=(qe.mp h).elim λa h=>k a h.1 h.2
theorem qf {q r u:Type _}{o:Option (q×r)}{f}{b:u}{G:Prop}(h:o.map f=S b)(k:∀a c,o=S (a,c)->f (a,c)=b->G):G:=(qe.mp h).elim λa h=>k _ _ h.1 h.2
theorem Qx {q r u x:Type _}{o:Option (q×r×u)}{f}{b:x}{G:Prop}(h:o.map f=S b)(k:∀a c d,o=S (a,c,d)->f (a,c,d)=b->G):G:=(qe.mp h).elim λa h=>k _ _ _ h.1 h.2
theorem Qy {G:Prop}(h:P0/\P1/\a/\P3/\b/\c/\o/\q/\r/\u/\x/\y)(k:P0->P1->a->P3->b->c->o->q->r->u->x->y->G):G:=k h.1 h.2.1 h.2.2.1 h.2.2.2.1 h.2.2.2.2.1 h.2.2.2.2.2.1 h.2.2.2.2.2.2.1 h.2.2.2.2.2.2.2.1 h.2.2.2.2.2.2.2.2.1 h.2.2.2.2.2.2.2.2.2.1 h.2.2.2.2.2.2.2.2.2.2.1 h.2.2.2.2.2.2.2.2.2.2.2
theorem au {G:Prop}(h:P0/\P1)(k:P0->P1->G):G:=k h.1 h.2
theorem dp {G:Prop}(h:P0/\P1/\a)(k:P0->P1->a->G):G:=k h.1 h.2.1 h.2.2
theorem mB {G:Prop}(h:P0/\P1/\a/\P3)(k:P0->P1->a->P3->G):G:=k h.1 h.2.1 h.2.2.1 h.2.2.2
theorem BM {G:Prop}(h:P0/\P1/\a/\P3/\b)(k:P0->P1->a->P3->b->G):G:=k h.1 h.2.1 h.2.2.1 h.2.2.2.1 h.2.2.2.2
theorem QB {G:Prop}(h:P0/\P1/\a/\P3/\b/\c/\o)(k:P0->P1->a->P3->b->c->o->G):G:=k h.1 h.2.1 h.2.2.1 h.2.2.2.1 h.2.2.2.2.1 h.2.2.2.2.2.1 h.2.2.2.2.2.2
theorem Hy {G:Prop}(h:P0/\P1/\a/\P3/\b/\c/\o/\q)(k:P0->P1->a->P3->b->c->o->q->G):G:=k h.1 h.2.1 h.2.2.1 h.2.2.2.1 h.2.2.2.2.1 h.2.2.2.2.2.1 h.2.2.2.2.2.2.1 h.2.2.2.2.2.2.2
theorem ao {P0:b->Prop}{G:Prop}(h:∃a,P0 a)(k:∀a,P0 a->G):G:=h.elim λa h=>k a h
theorem ah {P0 P1:b->Prop}{G:Prop}(h:∃a,P0 a/\P1 a)(k:∀a,P0 a->P1 a->G):G:=h.elim λa h=>k a h.1 h.2
theorem cD {P0 P1 b:c->Prop}{G:Prop}(h:∃a,P0 a/\P1 a/\b a)(k:∀a,P0 a->P1 a->b a->G):G:=h.elim λa h=>k a h.1 h.2.1 h.2.2
theorem o4 {P0 P1 b P3:c->Prop}{G:Prop}(h:∃a,P0 a/\P1 a/\b a/\P3 a)(k:∀a,P0 a->P1 a->b a->P3 a->G):G:=h.elim λa h=>k a h.1 h.2.1 h.2.2.1 h.2.2.2
theorem tL {P0 P1 b P3 c:o->Prop}{G:Prop}(h:∃a,P0 a/\P1 a/\b a/\P3 a/\c a)(k:∀a,P0 a->P1 a->b a->P3 a->c a->G):G:=h.elim λa h=>k a h.1 h.2.1 h.2.2.1 h.2.2.2.1 h.2.2.2.2
theorem e9 {P0:c->o->Prop}{G:Prop}(h:∃a b,P0 a b)(k:∀a b,P0 a b->G):G:=h.elim λa h=>h.elim λb h=>k a b h
theorem dh {P0 P1:c->o->Prop}{G:Prop}(h:∃a b,P0 a b/\P1 a b)(k:∀a b,P0 a b->P1 a b->G):G:=h.elim λa h=>h.elim λb h=>k a b h.1 h.2
theorem bo {P0 P1 c:o->q->Prop}{G:Prop}(h:∃a b,P0 a b/\P1 a b/\c a b)(k:∀a b,P0 a b->P1 a b->c a b->G):G:=h.elim λa h=>h.elim λb h=>k a b h.1 h.2.1 h.2.2
theorem o5 {P0 P1 c P3:o->q->Prop}{G:Prop}(h:∃a b,P0 a b/\P1 a b/\c a b/\P3 a b)(k:∀a b,P0 a b->P1 a b->c a b->P3 a b->G):G:=h.elim λa h=>h.elim λb h=>k a b h.1 h.2.1 h.2.2.1 h.2.2.2
theorem yx {P0 P1 c P3 o:q->r->Prop}{G:Prop}(h:∃a b,P0 a b/\P1 a b/\c a b/\P3 a b/\o a b)(k:∀a b,P0 a b->P1 a b->c a b->P3 a b->o a b->G):G:=h.elim λa h=>h.elim λb h=>k a b h.1 h.2.1 h.2.2.1 h.2.2.2.1 h.2.2.2.2
theorem kP {P0 P1 c P3 o q:r->u->Prop}{G:Prop}(h:∃a b,P0 a b/\P1 a b/\c a b/\P3 a b/\o a b/\q a b)(k:∀a b,P0 a b->P1 a b->c a b->P3 a b->o a b->q a b->G):G:=h.elim λa h=>h.elim λb h=>k a b h.1 h.2.1 h.2.2.1 h.2.2.2.1 h.2.2.2.2.1 h.2.2.2.2.2
theorem QD {P0:o->q->r->Prop}{G:Prop}(h:∃a b c,P0 a b c)(k:∀a b c,P0 a b c->G):G:=h.elim λa h=>h.elim λb h=>h.elim λc h=>k a b c h
theorem iO {P0 P1:o->q->r->Prop}{G:Prop}(h:∃a b c,P0 a b c/\P1 a b c)(k:∀a b c,P0 a b c->P1 a b c->G):G:=h.elim λa h=>h.elim λb h=>h.elim λc h=>k a b c h.1 h.2
theorem yy {P0 P1 o:q->r->u->Prop}{G:Prop}(h:∃a b c,P0 a b c/\P1 a b c/\o a b c)(k:∀a b c,P0 a b c->P1 a b c->o a b c->G):G:=h.elim λa h=>h.elim λb h=>h.elim λc h=>k a b c h.1 h.2.1 h.2.2
theorem bU {P0 P1 o P3:q->r->u->Prop}{G:Prop}(h:∃a b c,P0 a b c/\P1 a b c/\o a b c/\P3 a b c)(k:∀a b c,P0 a b c->P1 a b c->o a b c->P3 a b c->G):G:=h.elim λa h=>h.elim λb h=>h.elim λc h=>k a b c h.1 h.2.1 h.2.2.1 h.2.2.2
theorem Hz {P0 P1 o P3 q:r->u->x->Prop}{G:Prop}(h:∃a b c,P0 a b c/\P1 a b c/\o a b c/\P3 a b c/\q a b c)(k:∀a b c,P0 a b c->P1 a b c->o a b c->P3 a b c->q a b c->G):G:=h.elim λa h=>h.elim λb h=>h.elim λc h=>k a b c h.1 h.2.1 h.2.2.1 h.2.2.2.1 h.2.2.2.2
theorem nZ {P0 P1 o P3 q r:u->x->y->Prop}{G:Prop}(h:∃a b c,P0 a b c/\P1 a b c/\o a b c/\P3 a b c/\q a b c/\r a b c)(k:∀a b c,P0 a b c->P1 a b c->o a b c->P3 a b c->q a b c->r a b c->G):G:=h.elim λa h=>h.elim λb h=>h.elim λc h=>k a b c h.1 h.2.1 h.2.2.1 h.2.2.2.1 h.2.2.2.2.1 h.2.2.2.2.2
theorem vo {P0 P1:q->r->u->x->Prop}{G:Prop}(h:∃a b c o,P0 a b c o/\P1 a b c o)(k:∀a b c o,P0 a b c o->P1 a b c o->G):G:=h.elim λa h=>h.elim λb h=>h.elim λc h=>h.elim λo h=>k a b c o h.1 h.2
theorem qh {P0 P1 q:r->u->x->y->Prop}{G:Prop}(h:∃a b c o,P0 a b c o/\P1 a b c o/\q a b c o)(k:∀a b c o,P0 a b c o->P1 a b c o->q a b c o->G):G:=h.elim λa h=>h.elim λb h=>h.elim λc h=>h.elim λo h=>k a b c o h.1 h.2.1 h.2.2
theorem tN {P0 P1 q P3:r->u->x->y->Prop}{G:Prop}(h:∃a b c o,P0 a b c o/\P1 a b c o/\q a b c o/\P3 a b c o)(k:∀a b c o,P0 a b c o->P1 a b c o->q a b c o->P3 a b c o->G):G:=h.elim λa h=>h.elim λb h=>h.elim λc h=>h.elim λo h=>k a b c o h.1 h.2.1 h.2.2.1 h.2.2.2
theorem HA {P0 P1 q P3 r u x:y->D->H->I->Prop}{G:Prop}(h:∃a b c o,P0 a b c o/\P1 a b c o/\q a b c o/\P3 a b c o/\r a b c o/\u a b c o/\x a b c o)(k:∀a b c o,P0 a b c o->P1 a b c o->q a b c o->P3 a b c o->r a b c o->u a b c o->x a b c o->G):G:=h.elim λa h=>h.elim λb h=>h.elim λc h=>h.elim λo h=>k a b c o h.1 h.2.1 h.2.2.1 h.2.2.2.1 h.2.2.2.2.1 h.2.2.2.2.2.1 h.2.2.2.2.2.2
theorem BN {P0 P1 u:D->H->I->L->x->y->Prop}{G:Prop}(h:∃a b c o q r,P0 a b c o q r/\P1 a b c o q r/\u a b c o q r)(k:∀a b c o q r,P0 a b c o q r->P1 a b c o q r->u a b c o q r->G):G:=h.elim λa h=>h.elim λb h=>h.elim λc h=>h.elim λo h=>h.elim λq h=>h.elim λr h=>k a b c o q r h.1 h.2.1 h.2.2
local macro_rules | `(tactic|rw[$e:term])=> `(tactic|first|with_reducible_and_instances refine Zrr $e ?_|with_reducible_and_instances refine Zrr (propext $e) ?_)
local macro_rules | `(tactic|rw[$e:term,$es,*])=> `(tactic| (rw[$e:term];rw[$es,*]))
theorem iP {a b c:Nat}(h:a<=b)(k:b<=c):a<=c:=bp h k
theorem ee {a b c:Nat}(h:a<b)(k:b<=c):a<c:=bp h k
theorem bx {a b c:Nat}(h:a<=b)(k:b<c):a<c:=e_ h k
theorem dw {a b c:Nat}(h:a<b)(k:b<c):a<c:=gY h k
theorem qi {u v:Nat}(h:1<=u - v):u - v+v<=u:=aN (eO (b_ (Nat.lt_of_sub_pos h)))
inductive LX where
 |n (k:Nat)|v (i:Nat)|p (a b:LX)|m (k:Nat)(a:LX)|r (a:LX)(k:Nat)
abbrev x0:LX:= .v 0
abbrev x1:LX:= .v 1
abbrev x2:LX:= .v 2
abbrev x3:LX:= .v 3
abbrev x4:LX:= .v 4
abbrev x5:LX:= .v 5
def Lg (c:List Nat)(i:Nat):Nat:=List.rec (motive:=λ_=>Nat->Nat) (λ_=>0) (λx _ a i=>Nat.rec x (λj _=>a j) i) c i
def Ld (c:List Nat)(e:LX):Nat:=LX.rec (λk=>k) (λi=>Lg c i) (λ_ _ x y=>x+y) (λk _ x=>k*x) (λ_ k x=>x*k) e
def Lc (i:Nat)(e:LX):Nat:=LX.rec (λ_=>0) (λj=>if j=i then 1 else 0) (λ_ _ x y=>x+y) (λk _ x=>k*x) (λ_ k x=>x*k) e
def Lk (e:LX):Nat:=LX.rec (λk=>k) (λ_=>0) (λ_ _ x y=>x+y) (λk _ x=>k*x) (λ_ k x=>x*k) e
def Ls (e:LX)(c:List Nat)(i:Nat):Nat:=List.rec (motive:=λ_=>Nat->Nat) (λ_=>0) (λx _ a i=>Lc i e*x+a (i+1)) c i
theorem QF (a b:LX)(c i):Ls (.p a b) c i=Ls a c i+Ls b c i:=by
 induction c generalizing i with
 |nil=>rfl
 |cons x r h=>exact(congr (congrArg _ (HB ..)) (h _)).trans (QG ..)
theorem QH (k)(b:LX)(c i):Ls (.m k b) c i=k*Ls b c i:=by
 induction c generalizing i with
 |nil=>rfl
 |cons x r a=>exact(congr (congrArg _ (Nat.mul_assoc ..)) (a _)).trans (Nat.mul_add ..).symm
theorem QI (k)(b:LX)(c i):Ls (.r b k) c i=Ls b c i*k:=by
 induction c generalizing i with
 |nil=>exact(BO _).symm
 |cons x r a=>exact(congr (congrArg _ (Nat.mul_right_comm ..)) (a _)).trans (HB ..).symm
theorem QJ (k)(c i):Ls (.n k) c i=0:=by
 induction c generalizing i with
 |nil=>rfl
 |cons x r a=>exact(congr (congrArg _ (BO ..)) (a _))
theorem QK (j)(c i)(h:j<i):Ls (.v j) c i=0:=by
 induction c generalizing i with
 |nil=>rfl
 |cons x r a=>exact congr (congrArg _ ((congrArg (· *x) (if_neg (dx h))).trans (BO x))) (a _ (yA h))
theorem QL (j)(c i):Ls (.v (i+j)) c i=Lg c j:=by
 induction c generalizing i j with
 |nil=>rfl
 |cons x r a=>
  cases j with
  |zero=>exact(congr (congrArg HAdd.hAdd ((congrArg (· *x) (if_pos rfl)).trans (HC x))) (QK i r _ (jc i))).trans (tO x)
  |succ j=>exact(congr (congrArg _ ((congrArg (· *x) (if_neg (fM (QM (yB j))))).trans (BO x))) ((congrArg (λt=>Ls (.v t) r (i+1)) (HD i j).symm).trans (a j (i+1)))).trans (fb _)
theorem HE (e:LX)(c):Ld c e=Lk e+Ls e c 0:=by
 induction e with
 |n k=>exact(congrArg (k+ ·) (QJ k c 0)).symm
 |v i=>exact((congrArg (0+ ·) (((congrArg (λt=>Ls (.v t) c 0) (fb i)).symm.trans (QL i c 0)))).trans (fb _)).symm
 |p a b o q=>exact(congr (congrArg _ o) q).trans ((QG ..).trans (congrArg _ (QF a b c 0).symm))
 |m k a h=>exact(congrArg (k* ·) h).trans ((Nat.mul_add ..).trans (congrArg _ (QH k a c 0).symm))
 |r a k h=>exact(congrArg (· *k) h).trans ((HB ..).trans (congrArg _ (QI k a c 0).symm))
def Lb (a b:LX)(n:Nat):Bool:=Nat.rec (Nat.ble (Lk a) (Lk b)) (λi x=>Nat.ble (Lc i a) (Lc i b) &&x) n
theorem QP {a b:LX}{n}(h:Lb a b n=ab):Lk a<=Lk b:=by
 induction n with
 |zero=>exact HF h
 |succ n c=>exact c (dF.mp h).2
theorem QQ {a b:LX}{n i}(h:Lb a b n=ab)(c:i<n):Lc i a<=Lc i b:=by
 induction n with
 |zero=>exact(HG _ c).elim
 |succ n k=>exact(yC (fU c)).elim (k (dF.mp h).2) λz=>z▸HF (dF.mp h).1
theorem QR {a b:LX}(c i)(h:∀j,j<i+c.length->Lc j a<=Lc j b):Ls a c i<=Ls b c i:=by
 induction c generalizing i with
 |nil=>exact ba _
 |cons x r k=>exact vq (Nat.mul_le_mul_right _ (h i (QM (yB _)))) (k (i+1) λj q=>h j (show j<(i+r.length).succ from HD i r.length▸q))
theorem QU {a b:LX}{c}(h:Lb a b c.length=ab):Ld c a<=Ld c b:=
 HE a c▸HE b c▸vq (QP h) (QR c 0 λj q=>QQ h ((fb c.length)▸q))
def LH (c:List Nat)(G:Prop)(a:List (LX×LX)):Prop:=List.rec G (λh _ x=>Ld c h.1<=Ld c h.2->x) a
def Ll (a:List (LX×LX)):LX:=List.rec (.n 0) (λh _ x=> .p h.1 x) a
def Lr (a:List (LX×LX)):LX:=List.rec (.n 0) (λh _ x=> .p h.2 x) a
theorem QV {c G}(a)(h:Ld c (Ll a)<=Ld c (Lr a)->G):LH c G a:=by
 induction a with
 |nil=>exact h (ba _)
 |cons x r b=>exact λhx=>b λhr=>h (vq hx hr)
theorem ai (c:List Nat)(a:List (LX×LX))(m:Nat)(l r:LX)(h:Lb (.p (.m m l) (.p (Lr a) (.n 1))) (.p (.m m r) (.p (Ll a) (.n m))) c.length=ab):LH c (Ld c l<=Ld c r) a:=
 QV a λq=>gg λz=>
  QW _ (Nat.le_of_add_le_add_left (bp (QU h) (bp (aN ((Nat.add_left_comm ..).trans (n4 ..))) (vq (gh m z) q))))
instance (n:Nat):OfNat LX n:=⟨.n n⟩
instance:Add LX:=⟨.p⟩
section
variable {a b c d e f g h i j k l m n o p q r s t u v w x y z:Nat}
theorem q0:a<=b+ (a - b):=ai [a,b,(a - b)] [(x0,x2+x1)] 1 x0 (x1+x2) rfl (eH (ba (a - b)))
theorem q1 (h0:a+64<b):a+1<b:=ai [a,b] [(x0+64+1,x1)] 1 (x0+1+1) x1 rfl h0
theorem q2:0≠1+a:=dx (ai [a] [] 1 (0+1) (1+x0) rfl)
theorem q3 (h0:a<=2^21+1):a<4194304:=ai [a] [(x0,(LX.n ((2^21)))+1)] 1 (x0+1) 4194304 rfl h0
theorem q4 (h0:a<1):a=0:=cj (ai [a] [(x0+1,1)] 1 x0 0 rfl h0) (ai [a] [] 1 0 x0 rfl)
theorem q5 (h0:a<=3):a+1<4194304:=ai [a] [(x0,3)] 1 (x0+1+1) 4194304 rfl h0
theorem q6 (h0:b<a):a - (b+1)<a - b:=ai [b,a,(a - (b+1)),(a - b)] [(x1,x3+x0),(x2+(x0+1),x1)] 1 (x2+1) x3 rfl (eH (ba (a - b))) (aN (eO h0))
theorem q7 (h0:a<b):a+1<b+1:=ai [a,b] [(x0+1,x1)] 1 (x0+1+1) (x1+1) rfl h0
theorem q8 (h0:a<b):a<b+1:=ai [a,b] [(x0+1,x1)] 1 (x0+1) (x1+1) rfl h0
theorem q9:1+a+1≠1+a+2:=dx (ai [a] [] 1 (1+x0+1+1) (1+x0+2) rfl)
theorem HH:0≠1+a+1:=dx (ai [a] [] 1 (0+1) (1+x0+1) rfl)
theorem HI:0≠1+a+2:=dx (ai [a] [] 1 (0+1) (1+x0+2) rfl)
theorem HJ (h0:a<=2^21+1):a - 0<2^22:=ai [a,(a - 0)] [(x0,(LX.n ((2^21)))+1),(x1,x0)] 1 (x1+1) (LX.n ((2^22))) rfl h0 (jA a 0)
theorem HK (h0:0<a):a=a - 1+1:=cj (ai [a,(a - 1)] [(x0,x1+1)] 1 x0 (x1+1) rfl (eH (ba (a - 1)))) (aN (eO (ai [a,(a - 1)] [(0+1,x0)] 1 1 x0 rfl h0)))
theorem HL (h0:a<=b):a+ (b - a)=b:=cj (ai [a,b,(b - a)] [(x2+x0,x1)] 1 (x0+x2) x1 rfl (aN (eO h0))) (ai [a,b,(b - a)] [(x1,x2+x0)] 1 x1 (x0+x2) rfl (eH (ba (b - a))))
theorem HM (h0:a+64<d)(D:b<=4):a+1+min b c<d:=ai [a,d,b,(min b c),c] [(x0+64+1,x1),(x2,4),(x3,x2)] 1 (x0+1+x3+1) x1 rfl h0 D (lL b c)
theorem HN (h0:a+ (c+1)=b):a<b:=ai [a,c,b] [(x0+(x1+1),x2)] 1 (x0+1) x2 rfl (aN h0)
theorem HO (h0:a+ (b+1)=c):a+1+b=c:=cj (ai [a,b,c] [(x0+(x1+1),x2)] 1 (x0+1+x1) x2 rfl (aN h0)) (ai [a,b,c] [(x2,x0+(x1+1))] 1 x2 (x0+1+x1) rfl (aN h0.symm))
theorem HP (h0:a+64<d)(D:b<=4):a+min b c<d:=ai [a,d,b,(min b c),c] [(x0+64+1,x1),(x2,4),(x3,x2)] 1 (x0+x3+1) x1 rfl h0 D (lL b c)
theorem HQ (h0:a<=3):a+2<4194304:=ai [a] [(x0,3)] 1 (x0+2+1) 4194304 rfl h0
theorem HR (h0:b<c - a):a+b<c:=ai [b,(c - a),c,a] [(x0+1,x1),(x1+x3,x2)] 1 (x3+x0+1) x2 rfl h0 (qi (ai [b,(c - a),c,a] [(x0+1,x1)] 1 1 x1 rfl h0))
theorem HS (h0:a=b.succ):a<=b+1:=ai [a,b] [(x0,x1+1)] 1 x0 (x1+1) rfl (aN h0)
theorem HU (h0:b+max 0 c<=c+a)(D:a<=b):a=b:=cj D (ai [b,(max 0 c),c,a] [(x2,x1),(x0+x1,x2+x3)] 1 x0 x3 rfl (HV 0 c) h0)
theorem HW (h0:a<b)(D:b+1<=a):False:=(jB 0 (ai [a,b] [(x0+1,x1),(x1+1,x0)] 0 1 0 rfl h0 D)).elim
theorem HX (h0:a<b)(D:a=b):False:=(jB 0 (ai [a,b] [(x0+1,x1),(x1,x0)] 0 1 0 rfl h0 (aN D.symm))).elim
theorem HY {A:Prop}(h0:a<=10)(D:c<=4/\A)(G:b<=11*c):a+ (0+1+1+1)+b<4194304:=ai [a,c,b] [(x0,10),(.m 11 x1,.m 11 4),(x2,(LX.m 11 x1))] 1 (x0+(0+1+1+1)+x2+1) 4194304 rfl h0 (gh 11 D.1) G
theorem HZ (h0:a+80<b):a+64<b:=ai [a,b] [(x0+80+1,x1)] 1 (x0+64+1) x1 rfl h0
theorem H0 (h0:a=b+2+b):0<a:=ai [a,b] [(x1+2+x1,x0)] 1 (0+1) x0 rfl (aN h0.symm)
theorem H2 (h0:b<=3)(D:a=b+2+b):a<1000:=ai [b,a] [(.m 2 x0,.m 2 3),(x1,x0+2+x0)] 1 (x1+1) 1000 rfl (gh 2 h0) (aN D)
theorem H3 (h0:a<b+1 - b):a=0:=cj (ai [a,((b+1) - b),b] [(x0+1,x1),(x1+x2,x2+1)] 1 x0 0 rfl h0 (aN (eO (ai [a,((b+1) - b),b] [] 1 x2 (x2+1) rfl)))) (ai [a,((b+1) - b),b] [] 1 0 x0 rfl)
theorem H4:a<a+1:=ai [a] [] 1 (x0+1) (x0+1) rfl
theorem H5 (h0:a<b):a+1<2*b+1/\b<2*b+1:=⟨(ai [a,b] [(x0+1,x1)] 1 (x0+1+1) ((LX.m 2 x1)+1) rfl h0),(ai [a,b] [] 1 (x1+1) ((LX.m 2 x1)+1) rfl)⟩
theorem QX (h0:b<=c - (a+1))(D:b>0):a+1+b<=c:=ai [b,(c - (a+1)),c,a] [(x0,x1),(x1+(x3+1),x2)] 1 (x3+1+x0) x2 rfl h0 (qi (ai [b,(c - (a+1)),c,a] [(x0,x1),(0+1,x0)] 1 1 x1 rfl h0 D))
theorem QY {A B C:Prop}:a<0->A->B->C:=λD=>(λG=>(λH=>(jB 0 (ai [a] [(x0+1,0)] 0 1 0 rfl D)).elim))
theorem QZ (h0:a<b+1)(D:a >= b):a=b:=cj (ai [a,b] [(x0+1,x1+1)] 1 x0 x1 rfl h0) D
theorem Q0 (h0:a<=6):1+a<4194304:=ai [a] [(x0,6)] 1 (1+x0+1) 4194304 rfl h0
theorem Q3:a+1+1=1+a+1:=cj (ai [a] [] 1 (x0+1+1) (1+x0+1) rfl) (ai [a] [] 1 (1+x0+1) (x0+1+1) rfl)
theorem Q4 (h0:c<=a/\a<b):1+a≠1+b+1:=dx (ai [c,a,b] [(x1+1,x2)] 1 (1+x1+1) (1+x2+1) rfl h0.2)
theorem Q5 (h0:c<=a/\a<b):1+a≠1+b+2:=dx (ai [c,a,b] [(x1+1,x2)] 1 (1+x1+1) (1+x2+2) rfl h0.2)
theorem Q6 (h0:b<=3)(D:a<=28):a+ (b+1)<4194304:=ai [b,a] [(x0,3),(x1,28)] 1 (x1+(x0+1)+1) 4194304 rfl h0 D
theorem Q7 {A:Prop}(h0:a<b/\A):1+a≠1+b+1:=dx (ai [a,b] [(x0+1,x1)] 1 (1+x0+1) (1+x1+1) rfl h0.1)
theorem Q8 {A:Prop}(h0:a<b/\A):1+a≠1+b+2:=dx (ai [a,b] [(x0+1,x1)] 1 (1+x0+1) (1+x1+2) rfl h0.1)
theorem Q9 (h0:b<a):1+a≠1+b:=fM (ai [b,a] [(x0+1,x1)] 1 (1+x0+1) (1+x1) rfl h0)
theorem Q_:1+a≠1+a+1:=dx (ai [a] [] 1 (1+x0+1) (1+x0+1) rfl)
theorem Ra:1+a≠1+a+2:=dx (ai [a] [] 1 (1+x0+1) (1+x0+2) rfl)
theorem Rb (h0:c+d+e<=b)(D:a+1<c+d):a<b:=ai [c,d,e,b,a] [(x0+x1+x2,x3),(x4+1+1,x0+x1)] 1 (x4+1) x3 rfl h0 D
theorem Rd (h0:c+d+e<=b)(D:a+1<c+d):a+1<b:=ai [c,d,e,b,a] [(x0+x1+x2,x3),(x4+1+1,x0+x1)] 1 (x4+1+1) x3 rfl h0 D
theorem Rf (h0:1<=c)(D:a+c<=b):a<=b:=ai [c,a,b] [(1,x0),(x1+x0,x2)] 1 x1 x2 rfl h0 D
theorem Rg (h0:c<=d)(D:e<c - d):a<=b:=ai [c,d,e,(c - d),a,b] [(x2+1,x3),(x3,0)] 0 x4 x5 rfl D (aN (H6 h0))
theorem Rh (h0:a+64<b):a<b:=ai [a,b] [(x0+64+1,x1)] 1 (x0+1) x1 rfl h0
theorem Ri:0<a*16+ (b+1):=ai [a,b] [] 1 (0+1) ((LX.r x0 16)+(x1+1)) rfl
theorem Rj (h0:a<1000):a+1<4194304:=ai [a] [(x0+1,1000)] 1 (x0+1+1) 4194304 rfl h0
theorem Rk (h0:b<c):a*16+ (b+1)<=a*16+ (c+1):=ai [b,c,a] [(x0+1,x1)] 1 ((LX.r x2 16)+(x0+1)) ((LX.r x2 16)+(x1+1)) rfl h0
theorem Rl (h0:a.succ+b+c+3<=d+e):a+b+ (c+1)+3<=d+e:=ai [a,b,c,d,e] [(x0+1+x1+x2+3,x3+x4)] 1 (x0+x1+(x2+1)+3) (x3+x4) rfl h0
theorem Ro (h0:a+b.succ+c+3<=d+e):a+b+ (c+1)+3<=d+e:=ai [a,b,c,d,e] [(x0+(x1+1)+x2+3,x3+x4)] 1 (x0+x1+(x2+1)+3) (x3+x4) rfl h0
theorem Rp {A:Prop}(h0:a=b)(D:a<b):A:=(jB 0 (ai [a,b] [(x1,x0),(x0+1,x1)] 0 1 0 rfl (aN h0.symm) D)).elim
theorem Rq {A:Prop}(h0:a=b)(D:b<a):A:=(jB 0 (ai [a,b] [(x0,x1),(x1+1,x0)] 0 1 0 rfl (aN h0) D)).elim
theorem Rr {A:Prop}(h0:a<a):A:=(jB 0 (ai [a] [(x0+1,x0)] 0 1 0 rfl h0)).elim
theorem Rt {A:Prop}(h0:a<b)(D:b<a):A:=(jB 0 (ai [a,b] [(x0+1,x1),(x1+1,x0)] 0 1 0 rfl h0 D)).elim
theorem Ru (h0:0<a):a - 1<a:=aN (eO (ai [a,(a - 1)] [(0+1,x0)] 1 1 x0 rfl h0))
theorem Rv (h0:a+16<b):a<b:=ai [a,b] [(x0+16+1,x1)] 1 (x0+1) x1 rfl h0
theorem Rw (h0:b=a+c):a<=b:=ai [b,a,c] [(x1+x2,x0)] 1 x1 x0 rfl (aN h0.symm)
theorem Rx (h0:b=a)(D:¬b<2):1<=a:=ai [b,a] [(x0,x1),(2,x0)] 1 1 x1 rfl (aN h0) (gg D)
theorem Ry (h0:b+0=a):a<=b:=ai [b,a] [(x1,x0+0)] 1 x1 x0 rfl (aN h0.symm)
theorem Rz (h0:a+ (c+1)<b):a<b:=ai [a,c,b] [(x0+(x1+1)+1,x2)] 1 (x0+1) x2 rfl h0
theorem RB (h0:d+ (b+1)<c)(D:a<=d+1):a+b<c:=ai [d,b,c,a] [(x0+(x1+1)+1,x2),(x3,x0+1)] 1 (x3+x1+1) x2 rfl h0 D
theorem RC (h0:a+1<c)(D:c=b+1):a<b:=ai [a,c,b] [(x0+1+1,x1),(x1,x2+1)] 1 (x0+1) x2 rfl h0 (aN D)
theorem RD (h0:3<=c)(D:c<a/\a<b):a<b/\a≠0/\a≠1/\a≠c:=⟨D.2,⟨(fM (ai [c,a,b] [(3,x0),(x0+1,x1)] 1 (0+1) x1 rfl h0 D.1)),⟨(fM (ai [c,a,b] [(3,x0),(x0+1,x1)] 1 (1+1) x1 rfl h0 D.1)),(fM D.1)⟩⟩⟩
theorem RE (h0:c<d/\d<b)(D:1<a/\a<c):a<b/\a≠0/\a≠1/\a≠c:=⟨(dw (dw D.2 h0.1) h0.2),⟨(fM (ai [c,d,b,a] [(1+1,x3)] 1 (0+1) x3 rfl D.1)),⟨(fM D.1),(dx D.2)⟩⟩⟩
theorem RF (h0:a=b+1)(D:b<=6):a<=7:=ai [a,b] [(x0,x1+1),(x1,6)] 1 x0 7 rfl (aN h0) D
theorem RG (h0:a<d)(D:b<a)(G:d=b+1+c):a - b - 1<c:=ai [a,d,b,c,((a - b) - 1),(a - b)] [(x0+1,x1),(x1,x2+1+x3),(x5+x2,x0),(x4+1,x5)] 1 (x4+1) x3 rfl h0 (aN G) (aN (eO (b_ D))) (aN (eO (ai [a,d,b,c,((a - b) - 1),(a - b)] [(x2+1,x0),(x0,x5+x2)] 1 1 x5 rfl D (eH (ba (a - b))))))
theorem RH (h0:c=d+1)(D:a - b - 1<d):a - b - 1+1<c:=ai [c,d,((a - b) - 1),(a - b),a,b] [(x1+1,x0),(x2+1,x1)] 1 (x2+1+1) x0 rfl (aN h0.symm) D
theorem RJ (h0:a<b):a+1+ (b - a - 1)=b:=cj (ai [a,b,((b - a) - 1),(b - a)] [(x3+x0,x1),(x2+1,x3)] 1 (x0+1+x2) x1 rfl (aN (eO (b_ h0))) (aN (eO (ai [a,b,((b - a) - 1),(b - a)] [(x0+1,x1),(x1,x3+x0)] 1 1 x3 rfl h0 (eH (ba (b - a))))))) (ai [a,b,((b - a) - 1),(b - a)] [(x1,x3+x0),(x3,x2+1)] 1 x1 (x0+1+x2) rfl (eH (ba (b - a))) (eH (ba ((b - a) - 1))))
theorem RK (h0:a - b<0+1):a - b=0:=cj (ai [(a - b),a,b] [(x0+1,0+1)] 1 x0 0 rfl h0) (ai [(a - b),a,b] [] 1 0 x0 rfl)
theorem RL (h0:a<=4*c)(D:d<=3)(G:e<=7)(H:c<e)(I:b<=d):a+b<100:=ai [a,c,d,e,b] [(x0,(LX.m 4 x1)),(x2,3),(.m 4 x3,.m 4 7),(.m 4 (x1+1),.m 4 x3),(x4,x2)] 1 (x0+x4+1) 100 rfl h0 D (gh 4 G) (gh 4 H) I
theorem RM (h0:a<=1000):a - 0<2^22:=ai [a,(a - 0)] [(x0,1000),(x1,x0)] 1 (x1+1) (LX.n ((2^22))) rfl h0 (jA a 0)
theorem RN (h0:b+1<=a):a - (b+1)<a:=ai [b,a,(a - (b+1))] [(x2+(x0+1),x1)] 1 (x2+1) x1 rfl (aN (eO h0))
theorem RO (h0:b+1<=a):a - b=a - (b+1)+1:=cj (ai [b,a,(a - b),(a - (b+1))] [(x1,x3+(x0+1)),(x2+x0,x1)] 1 x2 (x3+1) rfl (eH (ba (a - (b+1)))) (aN (eO (b_ h0)))) (ai [b,a,(a - b),(a - (b+1))] [(x1,x2+x0),(x3+(x0+1),x1)] 1 (x3+1) x2 rfl (eH (ba (a - b))) (aN (eO h0)))
theorem RP (h0:min a b - c=0):min a b<=c:=ai [((min a b) - c),(min a b),a,b,c] [(x1,x0+x4),(x0,0)] 1 x1 x4 rfl (eH (ba ((min a b) - c))) (aN h0)
theorem RQ (h0:min b c - a=d+1):a<b:=ai [((min b c) - a),(min b c),b,c,a,d] [(x1,x2),(x5+1,x0),(x0+x4,x1)] 1 (x4+1) x2 rfl (lL b c) (aN h0.symm) (qi (ai [((min b c) - a),(min b c),b,c,a,d] [(x5+1,x0)] 1 1 x0 rfl (aN h0.symm)))
theorem RR (h0:min c b - a=d+1):a<b:=ai [((min c b) - a),(min c b),c,b,a,d] [(x1,x3),(x5+1,x0),(x0+x4,x1)] 1 (x4+1) x3 rfl (qj c b) (aN h0.symm) (qi (ai [((min c b) - a),(min c b),c,b,a,d] [(x5+1,x0)] 1 1 x0 rfl (aN h0.symm)))
theorem RT (h0:min b c - a=d+1):a<min b c:=ai [((min b c) - a),(min b c),b,c,a,d] [(x5+1,x0),(x0+x4,x1)] 1 (x4+1) x1 rfl (aN h0.symm) (qi (ai [((min b c) - a),(min b c),b,c,a,d] [(x5+1,x0)] 1 1 x0 rfl (aN h0.symm)))
theorem RU (h0:min a b - c=d+1)(D:c<min a b):min a b - (c+1)=d:=cj (ai [((min a b) - c),(min a b),a,b,c,d,((min a b) - (c+1))] [(x1,x0+x4),(x0,x5+1),((LX.v 6)+(x4+1),x1)] 1 (LX.v 6) x5 rfl (eH (ba ((min a b) - c))) (aN h0) (aN (eO D))) (ai [((min a b) - c),(min a b),a,b,c,d,((min a b) - (c+1))] [(x5+1,x0),(x1,(LX.v 6)+(x4+1)),(x0+x4,x1)] 1 x5 (LX.v 6) rfl (aN h0.symm) (eH (ba ((min a b) - (c+1)))) (aN (eO (b_ D))))
theorem RW (h0:a=2*b+3):a≠1:=fM (ai [a,b] [((LX.m 2 x1)+3,x0)] 1 (1+1) x0 rfl (aN h0.symm))
theorem RX (h0:a=2*b+3):1<a:=ai [a,b] [((LX.m 2 x1)+3,x0)] 1 (1+1) x0 rfl (aN h0.symm)
theorem RY (h0:a<b):2*a+3≠2*b+3:=dx (ai [a,b] [(.m 2 (x0+1),.m 2 x1)] 1 ((LX.m 2 x0)+3+1) ((LX.m 2 x1)+3) rfl (gh 2 h0))
theorem RZ (h0:a<b):2*a+4≠2*b+4:=dx (ai [a,b] [(.m 2 (x0+1),.m 2 x1)] 1 ((LX.m 2 x0)+4+1) ((LX.m 2 x1)+4) rfl (gh 2 h0))
theorem R0:1≠2*a+3:=dx (ai [a] [] 1 (1+1) ((LX.m 2 x0)+3) rfl)
theorem R1 (h0:a=2*c+3)(D:b<0+c):a≠2*b+3:=fM (ai [a,c,b] [((LX.m 2 x1)+3,x0),(.m 2 (x2+1),.m 2 (0+x1))] 1 ((LX.m 2 x2)+3+1) x0 rfl (aN h0.symm) (gh 2 D))
theorem R2 (h0:b=2*c+3)(D:a<0+c):2*a+3<b:=ai [b,c,a] [((LX.m 2 x1)+3,x0),(.m 2 (x2+1),.m 2 (0+x1))] 1 ((LX.m 2 x2)+3+1) x0 rfl (aN h0.symm) (gh 2 D)
theorem R3:1≠2*a+4:=dx (ai [a] [] 1 (1+1) ((LX.m 2 x0)+4) rfl)
theorem R4 (h0:b=2*c+3)(D:a<0+c):2*a+4<b:=ai [b,c,a] [((LX.m 2 x1)+3,x0),(.m 2 (x2+1),.m 2 (0+x1))] 1 ((LX.m 2 x2)+4+1) x0 rfl (aN h0.symm) (gh 2 D)
theorem R5 (h0:a<b - 1):a<b:=ai [a,(b - 1),b] [(x1,x2),(x0+1,x1)] 1 (x0+1) x2 rfl (jA b 1) h0
theorem R6 (h0:a<b - 1):a+1<b:=ai [a,(b - 1),b] [(x0+1,x1),(x1+1,x2)] 1 (x0+1+1) x2 rfl h0 (aN (eO (ai [a,(b - 1),b] [(x1,x2),(x0+1,x1)] 1 1 x2 rfl (jA b 1) h0)))
theorem R7 (h0:c<b)(D:d<=c)(G:a<d - 1):a<b:=ai [c,b,d,a,(d - 1)] [(x0+1,x1),(x2,x0),(x4,x2),(x3+1,x4)] 1 (x3+1) x1 rfl h0 D (jA d 1) G
theorem R8 (h0:c<b)(D:d<=c)(G:a<d - 1):a+1<b:=ai [c,b,d,a,(d - 1)] [(x0+1,x1),(x2,x0),(x4,x2),(x3+1,x4)] 1 (x3+1+1) x1 rfl h0 D (jA d 1) G
theorem R9 (h0:a<=d+c)(D:d<=b+1):a<=b+ (c+1):=ai [a,d,c,b] [(x0,x1+x2),(x1,x3+1)] 1 x0 (x3+(x2+1)) rfl h0 D
theorem R_ (h0:1<=a):0<a:=ai [a] [(1,x0)] 1 (0+1) x0 rfl h0
theorem Sa (h0:a<=5):a+1<4194304:=ai [a] [(x0,5)] 1 (x0+1+1) 4194304 rfl h0
theorem Sb (h0:a<=5)(D:b<=3):a+1+b<4194304:=ai [a,b] [(x0,5),(x1,3)] 1 (x0+1+x1+1) 4194304 rfl h0 D
theorem Sd (h0:3<=a):0<a:=ai [a] [(3,x0)] 1 (0+1) x0 rfl h0
theorem Se (h0:c<=d+b):a+b+c<=a+b+d+b:=ai [c,d,b,a] [(x0,x1+x2)] 1 (x3+x2+x0) (x3+x2+x1+x2) rfl h0
theorem Sf:2*a+1+1=2* (a+1):=cj (ai [a] [] 1 ((LX.m 2 x0)+1+1) ((LX.m 2 (x0+1))) rfl) (ai [a] [] 1 ((LX.m 2 (x0+1))) ((LX.m 2 x0)+1+1) rfl)
theorem Sg (h0:a+2* (c+1)+2<b):a<b:=ai [a,c,b] [(x0+(LX.m 2 (x1+1))+2+1,x2)] 1 (x0+1) x2 rfl h0
theorem Sh (h0:a+2* (c+1)+2<b):a+1<b:=ai [a,c,b] [(x0+(LX.m 2 (x1+1))+2+1,x2)] 1 (x0+1+1) x2 rfl h0
theorem Si (h0:a+2* (b+1)+2<c):a+1+1+2*b+2<c:=ai [a,b,c] [(x0+(LX.m 2 (x1+1))+2+1,x2)] 1 (x0+1+1+(LX.m 2 x1)+2+1) x2 rfl h0
theorem Sj (h0:a+8* (b+1)+100<c):a+1+3+8*b+100<c:=ai [a,b,c] [(x0+(LX.m 8 (x1+1))+100+1,x2)] 1 (x0+1+3+(LX.m 8 x1)+100+1) x2 rfl h0
theorem Sk (h0:a+8<b):a<b:=ai [a,b] [(x0+8+1,x1)] 1 (x0+1) x1 rfl h0
theorem Sl:¬a+2<2:=mD (ai [a] [] 1 2 (x0+2) rfl)
theorem Sm (h0:b=(c+1).succ+a):a+1<b:=ai [b,c,a] [(x1+1+1+x2,x0)] 1 (x2+1+1) x0 rfl (aN h0.symm)
theorem Sn (h0:c=(a+1).succ+b):a+ (b+1)+1=c:=cj (ai [c,a,b] [(x1+1+1+x2,x0)] 1 (x1+(x2+1)+1) x0 rfl (aN h0.symm)) (ai [c,a,b] [(x0,x1+1+1+x2)] 1 x0 (x1+(x2+1)+1) rfl (aN h0))
theorem So (h0:c=(a+1).succ+b):a+1+b+1=c:=cj (ai [c,a,b] [(x1+1+1+x2,x0)] 1 (x1+1+x2+1) x0 rfl (aN h0.symm)) (ai [c,a,b] [(x0,x1+1+1+x2)] 1 x0 (x1+1+x2+1) rfl (aN h0))
theorem Sp (h0:a=b):0+a=b:=cj (ai [a,b] [(x0,x1)] 1 (0+x0) x1 rfl (aN h0)) (ai [a,b] [(x1,x0)] 1 x1 (0+x0) rfl (aN h0.symm))
theorem Sq (h0:a+80<b):a+1+66<b:=ai [a,b] [(x0+80+1,x1)] 1 (x0+1+66+1) x1 rfl h0
theorem Sr:a+b<=a+1+b:=ai [a,b] [] 1 (x0+x1) (x0+1+x1) rfl
theorem Su (h0:a<=b):a<=b+ (0+1):=ai [a,b] [(x0,x1)] 1 x0 (x1+(0+1)) rfl h0
theorem Sv (h0:b<=a):a=b+ (a - b):=cj (ai [b,a,(a - b)] [(x1,x2+x0)] 1 x1 (x0+x2) rfl (eH (ba (a - b)))) (ai [b,a,(a - b)] [(x2+x0,x1)] 1 (x0+x2) x1 rfl (aN (eO h0)))
theorem Sw (h0:b<=4*c)(D:a<=3):a+1+b<=4* (c+1):=ai [b,c,a] [(x0,(LX.m 4 x1)),(x2,3)] 1 (x2+1+x0) ((LX.m 4 (x1+1))) rfl h0 D
theorem Sx (h0:a<=b)(D:b<=4*c)(G:c<=7):a<=28:=ai [a,b,c] [(x0,x1),(x1,(LX.m 4 x2)),(.m 4 x2,.m 4 7)] 1 x0 28 rfl h0 D (gh 4 G)
theorem Sy (h0:a=a+1):False:=(jB 0 (ai [a] [(x0+1,x0)] 0 1 0 rfl (aN h0.symm))).elim
theorem Sz (h0:a+2* (b+1)+2<c):a+1+2*b+2<c:=ai [a,b,c] [(x0+(LX.m 2 (x1+1))+2+1,x2)] 1 (x0+1+(LX.m 2 x1)+2+1) x2 rfl h0
theorem SA (h0:a+8* (b+1)+100<c):a+3+8*b+100<c:=ai [a,b,c] [(x0+(LX.m 8 (x1+1))+100+1,x2)] 1 (x0+3+(LX.m 8 x1)+100+1) x2 rfl h0
theorem SD (h0:b<=3)(D:a<=b):a+1<4194304:=ai [b,a] [(x0,3),(x1,x0)] 1 (x1+1+1) 4194304 rfl h0 D
theorem SE (h0:b<=3)(D:a<=b):a+2<4194304:=ai [b,a] [(x0,3),(x1,x0)] 1 (x1+2+1) 4194304 rfl h0 D
theorem SF {A:Prop}(h0:a=b.succ.succ)(D:c=d.succ.succ)(G:e+f+max 0 (b.succ.succ+d.succ.succ)+3<=a+c):A:=(jB 0 (ai [a,b,c,d,e,f,(max 0 (((b+1)+1)+ ((d+1)+1)))] [(x0,x1+1+1),(x2,x3+1+1),(x1+1+1+(x3+1+1),(LX.v 6)),(x4+x5+(LX.v 6)+3,x0+x2)] 0 1 0 rfl (aN h0) (aN D) (HV 0 (((b+1)+1)+ ((d+1)+1))) G)).elim
theorem SH (h0:b=a.succ.succ):a<b:=ai [b,a] [(x1+1+1,x0)] 1 (x1+1) x0 rfl (aN h0.symm)
theorem SI (h0:b=a.succ.succ):a+1<b:=ai [b,a] [(x1+1+1,x0)] 1 (x1+1+1) x0 rfl (aN h0.symm)
theorem SJ (h0:c=a.succ.succ)(D:d=b.succ.succ):a+b+0+3<=c+d:=ai [c,a,d,b] [(x1+1+1,x0),(x3+1+1,x2)] 1 (x1+x3+0+3) (x0+x2) rfl (aN h0.symm) (aN D.symm)
theorem SK (h0:a+8<d)(D:b<=4):a+min b c<d:=ai [a,d,b,(min b c),c] [(x0+8+1,x1),(x2,4),(x3,x2)] 1 (x0+x3+1) x1 rfl h0 D (lL b c)
theorem SM (h0:a<b)(D:b=a):False:=(jB 0 (ai [a,b] [(x0+1,x1),(x1,x0)] 0 1 0 rfl h0 (aN D))).elim
theorem SN:¬a*16+ (b+1)<=0:=BP (ai [a,b] [] 1 (0+1) ((LX.r x0 16)+(x1+1)) rfl)
theorem SO (h0:a+c+d<=b):min a b=a:=cj (ai [a,c,d,b,(min a b)] [(x4,x0)] 1 x4 x0 rfl (lL a b)) (rU.2 ⟨(ai [a,c,d,b,(min a b)] [] 1 x0 x0 rfl),(ai [a,c,d,b,(min a b)] [(x0+x1+x2,x3)] 1 x0 x3 rfl h0)⟩)
theorem SP (h0:c+a+d<=b):min a (b - c)=a:=cj (ai [c,a,d,b,(min a (b - c)),(b - c)] [(x4,x1)] 1 x4 x1 rfl (lL a (b - c))) (rU.2 ⟨(ai [c,a,d,b,(min a (b - c)),(b - c)] [] 1 x1 x1 rfl),(ai [c,a,d,b,(min a (b - c)),(b - c)] [(x0+x1+x2,x3),(x3,x5+x0)] 1 x1 x5 rfl h0 (eH (ba (b - c))))⟩)
theorem SQ (h0:c+d+a<=b):min a (b - c - d)=a:=cj (ai [c,d,a,b,(min a ((b - c) - d)),((b - c) - d),(b - c)] [(x4,x2)] 1 x4 x2 rfl (lL a ((b - c) - d))) (rU.2 ⟨(ai [c,d,a,b,(min a ((b - c) - d)),((b - c) - d),(b - c)] [] 1 x2 x2 rfl),(ai [c,d,a,b,(min a ((b - c) - d)),((b - c) - d),(b - c)] [(x0+x1+x2,x3),(x3,(LX.v 6)+x0),((LX.v 6),x5+x1)] 1 x2 x5 rfl h0 (eH (ba (b - c))) (eH (ba ((b - c) - d))))⟩)
theorem SR (h0:a+b<1000):a+b<4194304:=ai [a,b] [(x0+x1+1,1000)] 1 (x0+x1+1) 4194304 rfl h0
theorem SU {A:Prop}(h0:a >= b)(D:a<b):A:=(jB 0 (ai [b,a] [(x0,x1),(x1+1,x0)] 0 1 0 rfl h0 D)).elim
theorem SW (h0:a.succ+b+c+3<=d+e):a+b+c+3<=d+e:=ai [a,b,c,d,e] [(x0+1+x1+x2+3,x3+x4)] 1 (x0+x1+x2+3) (x3+x4) rfl h0
theorem SX (h0:a=c+1+d)(D:d<=4*b)(G:c<=3):a<=4* (b+1):=ai [a,c,d,b] [(x0,x1+1+x2),(x2,(LX.m 4 x3)),(x1,3)] 1 x0 ((LX.m 4 (x3+1))) rfl (aN h0) D G
theorem SY (h0:c<b):a+b≠a+c:=fM (ai [c,b,a] [(x0+1,x1)] 1 (x2+x0+1) (x2+x1) rfl h0)
theorem S2 (h0:a<=10)(D:b<=11* (c+1)):a+1+b<=11* (c+1+1):=ai [a,b,c] [(x0,10),(x1,(LX.m 11 (x2+1)))] 1 (x0+1+x1) ((LX.m 11 (x2+1+1))) rfl h0 D
theorem S3 (h0:a<=820)(D:c<=9)(G:d<c)(H:b<=d):a+b<4194304:=ai [a,c,d,b] [(x0,820),(x1,9),(x2+1,x1),(x3,x2)] 1 (x0+x3+1) 4194304 rfl h0 D G H
theorem S4 (h0:a<=6)(D:b<=3):a+b<1000:=ai [a,b] [(x0,6),(x1,3)] 1 (x0+x1+1) 1000 rfl h0 D
theorem S5 (h0:a<=6)(D:b<=3):a+b<=9:=ai [a,b] [(x0,6),(x1,3)] 1 (x0+x1) 9 rfl h0 D
theorem S6 (h0:a<=6)(D:b<=3):a+b<2^22:=ai [a,b] [(x0,6),(x1,3)] 1 (x0+x1+1) (LX.n ((2^22))) rfl h0 D
theorem S7 (h0:b+c<=d+a)(D:¬a >= b):a<=(a+b) /2/\(a+b) /2<b/\(a+b) /2+ (c+1)<=d+a/\b+ (c+1)<=d+ (a+b) /2+1:=⟨(ai [c,d,b,a,((a+b) /2)] [(x3+1,x2),(x3+x2+1,(LX.m 2 (x4+1)))] 2 x3 x4 rfl (jd D) (S8 (a+b) (by decide))),⟨(ai [c,d,b,a,((a+b) /2)] [(x3+1,x2),((LX.m 2 x4),x3+x2)] 2 (x4+1) x2 rfl (jd D) (H7 (a+b) 2)),⟨(ai [c,d,b,a,((a+b) /2)] [(.m 2 (x2+x0),.m 2 (x1+x3)),(x3+1,x2),((LX.m 2 x4),x3+x2)] 2 (x4+(x0+1)) (x1+x3) rfl (gh 2 h0) (jd D) (H7 (a+b) 2)),(ai [c,d,b,a,((a+b) /2)] [(.m 2 (x2+x0),.m 2 (x1+x3)),(x3+1,x2),(x3+x2+1,(LX.m 2 (x4+1)))] 2 (x2+(x0+1)) (x1+x4+1) rfl (gh 2 h0) (jd D) (S8 (a+b) (by decide)))⟩⟩⟩
theorem S9 (h0:a<=c+b)(D:b<=a):a - b+ (c+b - a)=c:=cj (ai [a,c,b,(a - b),((c+b) - a)] [(x3+x2,x0),(x4+x0,x1+x2)] 1 (x3+x4) x1 rfl (aN (eO D)) (aN (eO (ai [a,c,b,(a - b),((c+b) - a)] [(x0,x1+x2)] 1 x0 (x1+x2) rfl h0)))) (ai [a,c,b,(a - b),((c+b) - a)] [(x0,x3+x2),(x1+x2,x4+x0)] 1 x1 (x3+x4) rfl (eH (ba (a - b))) (eH (ba ((c+b) - a))))
theorem S' (h0:b<=c - a)(D:b>0):a+b<=c:=ai [b,(c - a),c,a] [(x0,x1),(x1+x3,x2)] 1 (x3+x0) x2 rfl h0 (qi (ai [b,(c - a),c,a] [(x0,x1),(0+1,x0)] 1 1 x1 rfl h0 D))
theorem S_ (h0:b+1=a):a - 1=b:=cj (ai [b,a,(a - 1)] [(x1,x0+1),(x2+1,x1)] 1 x2 x0 rfl (aN h0.symm) (aN (eO (ai [b,a,(a - 1)] [(x0+1,x1)] 1 1 x1 rfl (aN h0))))) (ai [b,a,(a - 1)] [(x0+1,x1),(x1,x2+1)] 1 x0 x2 rfl (aN h0) (eH (ba (a - 1))))
theorem Ta (h0:b<=7)(D:c<b)(G:a<=c):a+1<4194304:=ai [b,c,a] [(x0,7),(x1+1,x0),(x2,x1)] 1 (x2+1+1) 4194304 rfl h0 D G
theorem Tb (h0:a<=c+1)(D:c<=b):a<=b+1:=ai [a,c,b] [(x0,x1+1),(x1,x2)] 1 x0 (x2+1) rfl h0 D
theorem Tc (h0:a<=c/\c<b):a<=a+b - 1 - c/\a+b - 1 - c<b:=⟨(ai [a,c,b,(((a+b) - 1) - c),((a+b) - 1)] [(x1+1,x2),(x0+x2,x4+1),(x4,x3+x1)] 1 x0 x3 rfl h0.2 (eH (ba ((a+b) - 1))) (eH (ba (((a+b) - 1) - c)))),(ai [a,c,b,(((a+b) - 1) - c),((a+b) - 1)] [(x0,x1),(x4+1,x0+x2),(x3+x1,x4)] 1 (x3+1) x2 rfl h0.1 (aN (eO (ai [a,c,b,(((a+b) - 1) - c),((a+b) - 1)] [(x1+1,x2)] 1 1 (x0+x2) rfl h0.2))) (aN (eO (ai [a,c,b,(((a+b) - 1) - c),((a+b) - 1)] [(x1+1,x2),(x0+x2,x4+1)] 1 x1 x4 rfl h0.2 (eH (ba ((a+b) - 1)))))))⟩
theorem Td (h0:a+c+1=b):a<b:=ai [a,c,b] [(x0+x1+1,x2)] 1 (x0+1) x2 rfl (aN h0)
theorem Te (h0:c+d+1=b):a+ (a+b) - 1 - (a+c)=a+d:=cj (ai [c,d,b,(((a+ (a+b)) - 1) - (a+c)),((a+ (a+b)) - 1),a] [(x2,x0+x1+1),(x4+1,x5+(x5+x2)),(x3+(x5+x0),x4)] 1 x3 (x5+x1) rfl (aN h0.symm) (aN (eO (ai [c,d,b,(((a+ (a+b)) - 1) - (a+c)),((a+ (a+b)) - 1),a] [(x0+x1+1,x2)] 1 1 (x5+(x5+x2)) rfl (aN h0)))) (aN (eO (ai [c,d,b,(((a+ (a+b)) - 1) - (a+c)),((a+ (a+b)) - 1),a] [(x0+x1+1,x2),(x5+(x5+x2),x4+1)] 1 (x5+x0) x4 rfl (aN h0) (eH (ba ((a+ (a+b)) - 1))))))) (ai [c,d,b,(((a+ (a+b)) - 1) - (a+c)),((a+ (a+b)) - 1),a] [(x0+x1+1,x2),(x5+(x5+x2),x4+1),(x4,x3+(x5+x0))] 1 (x5+x1) x3 rfl (aN h0) (eH (ba ((a+ (a+b)) - 1))) (eH (ba (((a+ (a+b)) - 1) - (a+c)))))
theorem Tf (h0:a<=1000000):a+7 - 0<2^22:=ai [a,((a+7) - 0)] [(x0,1000000),(x1,x0+7)] 1 (x1+1) (LX.n ((2^22))) rfl h0 (jA (a+7) 0)
theorem Tg (h0:b<=1000000)(D:a<=b+14):a<4194304:=ai [b,a] [(x0,1000000),(x1,x0+14)] 1 (x1+1) 4194304 rfl h0 D
theorem Th (h0:a<=b+7):a<=b+14:=ai [a,b] [(x0,x1+7)] 1 x0 (x1+14) rfl h0
theorem Ti (h0:d<=b+c)(D:a<=d+1):a<=b+ (c+1):=ai [d,b,c,a] [(x0,x1+x2),(x3,x0+1)] 1 x3 (x1+(x2+1)) rfl h0 D
theorem Tj (h0:c<=b+7)(D:a<=c+d)(G:d<=7):a<=b+14:=ai [c,b,a,d] [(x0,x1+7),(x2,x0+x3),(x3,7)] 1 x2 (x1+14) rfl h0 D G
theorem Tn (h0:c<=a)(D:b<c):a+7 - (b+1)<a+7 - b:=ai [c,a,b,((a+7) - (b+1)),((a+7) - b)] [(x1+7,x4+x2),(x3+(x2+1),x1+7)] 1 (x3+1) x4 rfl (eH (ba ((a+7) - b))) (aN (eO (ai [c,a,b,((a+7) - (b+1)),((a+7) - b)] [(x0,x1),(x2+1,x0)] 1 (x2+1) (x1+7) rfl h0 D)))
theorem To (h0:a<=b):a<=b+7:=ai [a,b] [(x0,x1)] 1 x0 (x1+7) rfl h0
theorem Tp (h0:b<a):¬a+1<=b:=BP (ai [b,a] [(x0+1,x1)] 1 (x0+1) (x1+1) rfl h0)
theorem Tq (h0:a+1<=a):False:=(jB 0 (ai [a] [(x0+1,x0)] 0 1 0 rfl h0)).elim
theorem Ts (h0:a<b)(D:a=b+1):False:=(jB 0 (ai [a,b] [(x0+1,x1),(x1+1,x0)] 0 1 0 rfl h0 (aN D.symm))).elim
theorem Tt:a+1≠a:=fM (ai [a] [] 1 (x0+1) (x0+1) rfl)
theorem Tu:a≠a+1:=dx (ai [a] [] 1 (x0+1) (x0+1) rfl)
theorem Tv (h0:a+1<a):False:=(jB 0 (ai [a] [(x0+1+1,x0)] 0 1 0 rfl h0)).elim
theorem Tw {A:Prop}(h0:a+1<b)(D:c<d)(G:max 0 (b+d)+1<=a+c):A:=(jB 0 (ai [a,b,c,d,(max 0 (b+d))] [(x0+1+1,x1),(x2+1,x3),(x1+x3,x4),(x4+1,x0+x2)] 0 1 0 rfl h0 D (HV 0 (b+d)) G)).elim
theorem Tx (h0:b<a+1):a+1=b+1+ (a - b):=cj (ai [b,a,(a - b)] [(x1,x2+x0)] 1 (x1+1) (x0+1+x2) rfl (eH (ba (a - b)))) (ai [b,a,(a - b)] [(x2+x0,x1)] 1 (x0+1+x2) (x1+1) rfl (aN (eO (ai [b,a,(a - b)] [(x0+1,x1+1)] 1 x0 x1 rfl h0))))
theorem Tz:a+b<=a+ (b+c+d):=ai [a,b,c,d] [] 1 (x0+x1) (x0+(x1+x2+x3)) rfl
theorem TA (h0:a<=b+1)(D:a >= b+1):a=b+1:=cj (ai [a,b] [(x0,x1+1)] 1 x0 (x1+1) rfl h0) D
theorem TB (h0:a<=28):a+1<4194304:=ai [a] [(x0,28)] 1 (x0+1+1) 4194304 rfl h0
theorem TC:a+1+b=a+ (b+1):=cj (ai [a,b] [] 1 (x0+1+x1) (x0+(x1+1)) rfl) (ai [a,b] [] 1 (x0+(x1+1)) (x0+1+x1) rfl)
theorem TF (h0:a=0+b):a=b:=cj (ai [a,b] [(x0,0+x1)] 1 x0 x1 rfl (aN h0)) (ai [a,b] [(0+x1,x0)] 1 x1 x0 rfl (aN h0.symm))
theorem TG:a=0+a:=cj (ai [a] [] 1 x0 (0+x0) rfl) (ai [a] [] 1 (0+x0) x0 rfl)
theorem TH (h0:e<=d)(D:a+b+c+f<=e):a+b+c<=d:=ai [e,d,a,b,c,f] [(x0,x1),(x2+x3+x4+x5,x0)] 1 (x2+x3+x4) x1 rfl h0 D
theorem TJ (h0:a+b+c<=d):a+ (b+c)<=d:=ai [a,b,c,d] [(x0+x1+x2,x3)] 1 (x0+(x1+x2)) x3 rfl h0
theorem TK:a+ (b+1)+1=a+ (b+1+1):=cj (ai [a,b] [] 1 (x0+(x1+1)+1) (x0+(x1+1+1)) rfl) (ai [a,b] [] 1 (x0+(x1+1+1)) (x0+(x1+1)+1) rfl)
theorem TL (h0:a+b+c+e<=f)(D:f<=d):a+ (b+c)<=d:=ai [a,b,c,e,f,d] [(x0+x1+x2+x3,x4),(x4,x5)] 1 (x0+(x1+x2)) x5 rfl h0 D
theorem TM (h0:27<=a):¬a<=6:=BP (ai [a] [(27,x0)] 1 (6+1) x0 rfl h0)
theorem TN (h0:a<c)(D:b<16):a*16+ (b+1)<c*16+ (d+1):=ai [a,c,b,d] [(.m 16 (x0+1),.m 16 x1),(x2+1,16)] 1 ((LX.r x0 16)+(x2+1)+1) ((LX.r x1 16)+(x3+1)) rfl (gh 16 h0) D
theorem TO (h0:a=b):a<b+1:=ai [a,b] [(x0,x1)] 1 (x0+1) (x1+1) rfl (aN h0)
theorem TP (h0:a<b)(D:b<a):False:=(jB 0 (ai [a,b] [(x0+1,x1),(x1+1,x0)] 0 1 0 rfl h0 D)).elim
theorem TR (h0:b<=c)(D:a<=4*b)(G:c<=7):a<=28:=ai [b,c,a] [(.m 4 x0,.m 4 x1),(x2,(LX.m 4 x0)),(.m 4 x1,.m 4 7)] 1 x2 28 rfl (gh 4 h0) D (gh 4 G)
theorem TS (h0:a+8*c+100<b):a+80<b:=ai [a,c,b] [(x0+(LX.m 8 x1)+100+1,x2)] 1 (x0+80+1) x2 rfl h0
theorem TU (h0:a<=3):0<6 - a:=ai [a,(6 - a)] [(x0,3),(6,x1+x0)] 1 (0+1) x1 rfl h0 (eH (ba (6 - a)))
theorem TX:6 - a<1000:=ai [a,(6 - a)] [(x1,6)] 1 (x1+1) 1000 rfl (jA 6 a)
theorem TY (h0:a<6 - b):1+a<4194304:=ai [b,a,(6 - b)] [(x2,6),(x1+1,x2)] 1 (1+x1+1) 4194304 rfl (jA 6 b) h0
theorem TZ (h0:1<=b)(D:a=b):0<a:=ai [b,a] [(1,x0),(x0,x1)] 1 (0+1) x1 rfl h0 (aN D.symm)
theorem T3 (h0:a<=3):a+2+a<4194304:=ai [a] [(.m 2 x0,.m 2 3)] 1 (x0+2+x0+1) 4194304 rfl (gh 2 h0)
theorem T4 (h0:a=c)(D:d<6 - c)(G:e<1+d)(H:b=e):a+b<1000:=ai [a,c,d,(6 - c),e,b] [(x0,x1),(x2+1,x3),(x4+1,1+x2),(x5,x4),(x3+x1,6)] 1 (x0+x5+1) 1000 rfl (aN h0) D G (aN H) (qi (ai [a,c,d,(6 - c),e,b] [(x2+1,x3)] 1 1 x3 rfl D))
theorem T5 (h0:a=c)(D:d<6 - c)(G:b=1+d):a+b<=6:=ai [a,c,d,(6 - c),b] [(x0,x1),(x2+1,x3),(x4,1+x2),(x3+x1,6)] 1 (x0+x4) 6 rfl (aN h0) D (aN G) (qi (ai [a,c,d,(6 - c),b] [(x2+1,x3)] 1 1 x3 rfl D))
theorem T6 (h0:a<=10):a+ (0+1+1+1)<4194304:=ai [a] [(x0,10)] 1 (x0+(0+1+1+1)+1) 4194304 rfl h0
theorem T7 {A:Prop}(h0:b<=4/\A)(D:a<=11*b):a<4194304:=ai [b,a] [(.m 11 x0,.m 11 4),(x1,(LX.m 11 x0))] 1 (x1+1) 4194304 rfl (gh 11 h0.1) D
theorem T8 (h0:f+b+c+3<=d+e)(D:a.succ<=f+1):a+b+c+3<=d+e:=ai [f,b,c,d,e,a] [(x0+x1+x2+3,x3+x4),(x5+1,x0+1)] 1 (x5+x1+x2+3) (x3+x4) rfl h0 D
theorem T9:821 - 0<2^22:=ai [(821 - 0)] [(x0,821)] 1 (x0+1) (LX.n ((2^22))) rfl (jA 821 0)
theorem T_ (h0:b<=c):min a b<=c:=ai [b,c,(min a b),a] [(x0,x1),(x2,x0)] 1 x2 x1 rfl h0 (qj a b)
theorem Ua (h0:b<=d)(D:a+2*d+2<c):a+2*b+2<c:=ai [b,d,a,c] [(.m 2 x0,.m 2 x1),(x2+(LX.m 2 x1)+2+1,x3)] 1 (x2+(LX.m 2 x0)+2+1) x3 rfl (gh 2 h0) D
theorem Ub (h0:b<=d)(D:a+8*d+100<c):a+8*b+100<c:=ai [b,d,a,c] [(.m 8 x0,.m 8 x1),(x2+(LX.m 8 x1)+100+1,x3)] 1 (x2+(LX.m 8 x0)+100+1) x3 rfl (gh 8 h0) D
theorem Uc (h0:a<=c):a*16+ (b+1)<=c*16+ (b+1):=ai [a,c,b] [(.m 16 x0,.m 16 x1)] 1 ((LX.r x0 16)+(x2+1)) ((LX.r x1 16)+(x2+1)) rfl (gh 16 h0)
theorem Ud (h0:a<=b+1)(D:¬c<=b)(G:c<=a):a=b+1:=cj (ai [a,b,c] [(x0,x1+1)] 1 x0 (x1+1) rfl h0) (ee (jd D) G)
theorem Ue (h0:c<d)(D:d<b)(G:a<=c):a+1<b:=ai [c,d,b,a] [(x0+1,x1),(x1+1,x2),(x3,x0)] 1 (x3+1+1) x2 rfl h0 D G
theorem Ug (h0:a=b+1+c):a=b+ (c+1):=cj (ai [a,b,c] [(x0,x1+1+x2)] 1 x0 (x1+(x2+1)) rfl (aN h0)) (ai [a,b,c] [(x1+1+x2,x0)] 1 (x1+(x2+1)) x0 rfl (aN h0.symm))
theorem Uh (h0:b=a+0):a=b:=cj (ai [b,a] [(x1+0,x0)] 1 x1 x0 rfl (aN h0.symm)) (ai [b,a] [(x0,x1+0)] 1 x0 x1 rfl (aN h0))
theorem Ui (h0:a=b+ (c+1)):a=b+1+c:=cj (ai [a,b,c] [(x0,x1+(x2+1))] 1 x0 (x1+1+x2) rfl (aN h0)) (ai [a,b,c] [(x1+(x2+1),x0)] 1 (x1+1+x2) x0 rfl (aN h0.symm))
theorem Uj (h0:d<c)(D:d=a+ (b+e)):a+b<c:=ai [d,c,a,b,e] [(x0+1,x1),(x2+(x3+x4),x0)] 1 (x2+x3+1) x1 rfl h0 (aN D.symm)
theorem Uk (h0:b<64)(D:a<=b+1):a<=16777216+1:=ai [b,a] [(x0+1,64),(x1,x0+1)] 1 x1 (16777216+1) rfl h0 D
theorem Ul (h0:b=c)(D:c<b):a=0:=cj (ai [b,c,a] [(x0,x1),(x1+1,x0)] 0 x2 0 rfl (aN h0) D) (ai [b,c,a] [] 1 0 x2 rfl)
theorem Um:1+a+b=a+b+1:=cj (ai [a,b] [] 1 (1+x0+x1) (x0+x1+1) rfl) (ai [a,b] [] 1 (x0+x1+1) (1+x0+x1) rfl)
theorem Un (h0:¬a<=1):a - 2+1<a:=ai [a,(a - 2)] [(x1+2,x0)] 1 (x1+1+1) x0 rfl (aN (eO (ai [a,(a - 2)] [(1+1,x0)] 1 2 x0 rfl (jd h0))))
theorem Uo (h0:a+64<b):a+1+1+16<b:=ai [a,b] [(x0+64+1,x1)] 1 (x0+1+1+16+1) x1 rfl h0
theorem aip {a b c:Nat}(h0:2<=b)(D:a=b):0<a:=ai [c,b,a] [(2,x1),(x1,x2)] 1 (0+1) x2 rfl h0 (aN D.symm)
theorem Up (h0:a+f.succ+c+3<=d+e)(D:b.succ.succ<=f.succ+2 - 1):a+b+c+3<=d+e:=ai [a,f,c,d,e,b,(((f+1)+2) - 1)] [(x0+(x1+1)+x2+3,x3+x4),((LX.v 6),x1+1+2),(x5+1+1,(LX.v 6))] 1 (x0+x5+x2+3) (x3+x4) rfl h0 (jA ((f+1)+2) 1) D
theorem Uq (h0:a+b.succ+c+3<=d+e):a+b+c+3<=d+e:=ai [a,b,c,d,e] [(x0+(x1+1)+x2+3,x3+x4)] 1 (x0+x1+x2+3) (x3+x4) rfl h0
theorem Ur:a+b+c+d=a+ (b+c+d):=cj (ai [a,b,c,d] [] 1 (x0+x1+x2+x3) (x0+(x1+x2+x3)) rfl) (ai [a,b,c,d] [] 1 (x0+(x1+x2+x3)) (x0+x1+x2+x3) rfl)
theorem Us (h0:b<=2^21+1)(D:a<b):a<4194304:=ai [b,a] [(x0,(LX.n ((2^21)))+1),(x1+1,x0)] 1 (x1+1) 4194304 rfl h0 D
theorem Ut (h0:1<=d)(D:a+d+b<=c):a+ (b+1)<=c:=ai [d,a,b,c] [(1,x0),(x1+x0+x2,x3)] 1 (x1+(x2+1)) x3 rfl h0 D
theorem Uu (h0:a<900):a+1<1000:=ai [a] [(x0+1,900)] 1 (x0+1+1) 1000 rfl h0
theorem Uv:1+a=a+1:=cj (ai [a] [] 1 (1+x0) (x0+1) rfl) (ai [a] [] 1 (x0+1) (1+x0) rfl)
theorem Uw:1+a+1=a+1+1:=cj (ai [a] [] 1 (1+x0+1) (x0+1+1) rfl) (ai [a] [] 1 (x0+1+1) (1+x0+1) rfl)
theorem Ux:1+a+2=a+2+1:=cj (ai [a] [] 1 (1+x0+2) (x0+2+1) rfl) (ai [a] [] 1 (x0+2+1) (1+x0+2) rfl)
theorem Uy (h0:a<=63):a<=min 63 a:=rU.2 ⟨h0,(ai [a] [] 1 x0 x0 rfl)⟩
theorem Uz (h0:a+1<b):a<=a/\a<b:=⟨(ai [a,b] [] 1 x0 x0 rfl),(ai [a,b] [(x0+1+1,x1)] 1 (x0+1) x1 rfl h0)⟩
theorem UA:2*a+3≠2*a+4:=dx (ai [a] [] 1 ((LX.m 2 x0)+3+1) ((LX.m 2 x0)+4) rfl)
theorem UB:a+a=a*2:=cj (ai [a] [] 1 (x0+x0) (LX.r x0 2) rfl) (ai [a] [] 1 (LX.r x0 2) (x0+x0) rfl)
theorem UC (h0:¬a >= b):a+ (b - a) /2<b:=ai [a,b,((b - a) /2),(b - a)] [(x0+1,x1),(x1,x3+x0),((LX.m 2 x2),x3),(.m 2 (x3+x0),.m 2 x1)] 2 (x0+x2+1) x1 rfl (jd h0) (eH (ba (b - a))) (H7 (b - a) 2) (gh 2 (aN (eO (b_ (jd h0)))))
theorem UD (h0:a+b<=c+d):a+ (b+1)<=c+ (d+ (a - d) /2+1):=ai [a,b,c,d,((a - d) /2),(a - d)] [(x0+x1,x2+x3)] 1 (x0+(x1+1)) (x2+(x3+x4+1)) rfl h0
theorem UE (h0:b+c<=d+a)(D:a+ (b - a) /2<b):a+ (b - a) /2+ (c+1)<=d+a:=ai [b,c,d,a,((b - a) /2),(b - a)] [(x0+x1,x2+x3),(x3+x4+1,x0)] 1 (x3+x4+(x1+1)) (x2+x3) rfl h0 D
theorem UG (h0:b<=3*c)(D:d<=3)(G:a<=d):a+b<=3* (c+1):=ai [b,c,d,a] [(x0,(LX.m 3 x1)),(x2,3),(x3,x2)] 1 (x3+x0) ((LX.m 3 (x1+1))) rfl h0 D G
end
set_option genCtorIdx false in
set_option genInjectivity false in
inductive KT where
 |int|str|ints (u:Unit)|strs
noncomputable def KT.n:KT->Nat| .int=>0| .str=>1| .ints _=>2| .strs=>3
noncomputable instance:DecidableEq KT:=λa b=>decidable_of_iff (a.n=b.n) ⟨λh=>(show∀a:KT,[KT.int,.str,.ints (),.strs].getD a.n .int=a from λa=>by cases a<;>rfl) a▸h▸(show∀a:KT,[KT.int,.str,.ints (),.strs].getD a.n .int=a from λa=>by cases a<;>rfl) b,congrArg _⟩
inductive V where
 |none
 |bool (b:Bool)
 |int (i:Int)
 |str (s:List Nat)
 |tup (xs:List V)
 |lst (xs:List V)
 |aU (t:KT)(ak:List (V×V))
 |obj (c:Nat)(fs:List (Nat×V))
 deriving Inhabited
inductive X where
 |v (a:V)
 |ref (n:Nat)
 deriving Inhabited
inductive Cell where
 |dead
 |lst (xs:List X)
 |aU (t:KT)(ak:List (V×X))
 |obj (c:Nat)(fs:List (Nat×X))
 deriving Inhabited
abbrev Env:=List (Option X)
abbrev Hp:=List Cell
set_option genCtorIdx false
set_option genInjectivity false in
inductive qk where
 |add|sub|mul|mod|fdiv|pow (u:Unit)|bor|band|shl|shr
set_option genInjectivity false in
inductive yD where
 |eq|ne|lt|le|gt (u:Unit)|ge|isIn|ir
set_option genInjectivity false in
inductive tP where
 |len|list|tuple|sorted|sum|dict (t:KT)|abs|int
set_option genInjectivity false in
inductive mF where
 |append|insert (u:Unit)|extend|index|get|join
set_option genInjectivity false in
inductive jC where
 |one (i:Nat)|two (i j:Nat)
set_option genInjectivity false in
mutual
inductive E where
 |var (i:Nat)
 |cst (a:V)
 |glob (g:Nat)
 |attr (o:E)(f:Nat)
 |idx (o i:E)
 |kQ (o hi:E)
 |vw (o lo:E)
 |bin (m:Bool)(op:qk)(l r:E)
 |cmp (op:yD)(l r:E)
 |isNone (neg:Bool)(e:E)
 |and (l r:E)
 |or (l r:E)
 |not (e:E)
 |ite (c t f:E)
 |tup (es:Es)
 |lst (m:Bool)(es:Es)
 |aU (m:Bool)(t:KT)(ks vs:Es)
 |comp (m:Bool)(t:jC)(it:It)(cp:E)
 |iQ (m:Bool)(t:jC)(it:It)(cond cp:E)
 |bf (m:Bool)(f:tP)(e:E)
 |da (o:E)(f:mF)(es:Es)
 |call (f:Nat)(es:Es)
 |bN (o:E)(c f:Nat)(es:Es)
 |new (c:Nat)(es:Es)
inductive Es where
 |nil
 |cons (e:E)(es:Es)
inductive It where
 |of (e:E)
 |hC (e:E)
 |range (e:E)
 |rV (a b:E)
 |enum (e:E)
end
set_option genInjectivity false in
mutual
inductive fj where
 |set (i:Nat)(e:E)
 |mG (is:List Nat)(e:E)
 |ql (is:List Nat)(es:Es)
 |dy (o:E)(f:Nat)(e:E)
 |gk (o k e:E)
 |ex (e:E)
 |ite (c:E)(t f:Ss)
 |cq (t:jC)(it:It)(b:Ss)
 |mH (c:E)(b:Ss)
 |ret (e:E)
 |raise
 |iu (i:Nat)
inductive Ss where
 |nil
 |cons (s:fj)(r:Ss)
end
set_option genCtorIdx true
inductive Flow where
 |next
 |ret (x:X)
set_option genInjectivity false in
structure Fn where
 lM:Nat
 defs:List V
 H8:Nat
 pure:Bool
 body:Ss
set_option genInjectivity false in
structure Prog where
 fns:List Fn
 init:List Nat
 vx:List Bool
 fk:List V
noncomputable def aE:Nat:=2^22
noncomputable def W:Nat:=2^22
mutual
noncomputable def gI:V->V->Bool
 | .none,.none=>ab
 | .int a,.int b=>decide (a=b)
 | .str a,.str b=>decide (a=b)
 | .tup xs,.tup c=>lN xs c
 | .lst xs,.lst c=>lN xs c
 |_,_=>ae
noncomputable def lN:List V->List V->Bool
 | [],[]=>ab
 |x::xs,y::a=>gI x y&&lN xs a
 |_,_=>ae
end
noncomputable def mI (s:List Nat):Bool:=decide (s.length<aE) &&s.all λc=>decide (c<55296)
def isData:Nat->V->Bool
 |_,.none=>ab
 |_,.int _=>ab
 |_,.str s=>mI s
 |k+1,.tup xs=>xs.all (isData k)
 |k+1,.lst xs=>xs.all (isData k)
 |_,_=>ae
def eqv (a b:V):Option Bool:=if isData 4 a/\isData 4 b then S (gI a b)else J
noncomputable def isInt:V->Bool
 | .int _=>ab
 |_=>ae
noncomputable def isStr:V->Bool
 | .str _=>ab
 |_=>ae
theorem H9 {l:List _}:(l.map .str).all isStr=true:=cF.mpr λ_ h=>by
 refine ah (bX.mp h) λs _ O=> ?_;subst O;rfl
def dR:KT->V->Bool
 | .int,.int _=>ab
 | .str,.str _=>ab
 | .ints _,.tup xs=>xs.all isInt
 | .strs,.tup xs=>xs.all isStr
 |_,_=>ae
def dK (a b:V):Bool:=gI a b
def ck {a:Type}(k:V):List (V×a)->Option a
 | []=>J
 |p::r=>if dK p.1 k then S p.2 else ck k r
theorem BQ {r:List (V×a)}:ck k (p::r)=if dK p.1 k then S p.2 else ck k r:=rfl
def d9 {a:Type}(k:V)(x:a):List (V×a)->List (V×a)
 | []=> [(k,x)]
 |p::r=>if dK p.1 k then(p.1,x)::r else p::d9 k x r
theorem UH {x:a}:d9 k x []= [(k,x)]:=rfl
theorem yE {r:List (V×a)}:d9 k x (p::r)=if dK p.1 k then(p.1,x)::r else p::d9 k x r:=rfl
noncomputable def n5 {a:Type}(f:Nat):List (Nat×a)->Option a
 | []=>J
 |p::r=>if p.1=f then S p.2 else n5 f r
theorem H' {r:List (Nat×a)}:n5 f (p::r)=if p.1=f then S p.2 else n5 f r:=rfl
noncomputable def lO {a:Type}(f:Nat)(x:a):List (Nat×a)->List (Nat×a)
 | []=> [(f,x)]
 |p::r=>if p.1=f then(f,x)::r else p::lO f x r
theorem BU {r:List (Nat×a)}:lO f x (p::r)=if p.1=f then(f,x)::r else p::lO f x r:=rfl
noncomputable def X.toV:X->Option V
 | .v a=>S a
 | .ref _=>J
noncomputable def fA:List X->Option (List V)
 | []=>S []
 | .v a::r=>(fA r).map (a:: ·)
 | .ref _::_=>J
theorem aiq:fA (.v a::r)=(fA r).map (a:: ·):=rfl
noncomputable def lP (i:Int)(n:Nat):Option Nat:=
 if 0<=i then(if i<n/\i<aE then S i.toNat else J)
 else if 0<=i+n/\ -aE<i then S (i+n).toNat else J
noncomputable def vy (σ:Hp):X->Option Nat
 | .v (.lst xs)=>S xs.length
 | .v (.tup xs)=>S xs.length
 | .v (.aU _ a)=>S a.length
 | .ref n=>(σ[n]?).bind λc=>match c with
  | .lst xs=>S xs.length
  | .aU _ a=>S a.length
  |_=>J
 |_=>J
def bZ (σ:Hp)(o:X)(i:V):Option X:=match o with
 | .v (.lst xs)=>match i with
  | .int i=>((lP i xs.length).bind (xs[·]?)).map .v
  |_=>J
 | .v (.tup xs)=>match i with
  | .int i=>((lP i xs.length).bind (xs[·]?)).map .v
  |_=>J
 | .v (.aU t ak)=>if dR t i then(ck i ak).map .v else J
 | .ref n=>(σ[n]?).bind λc=>match c with
  | .lst xs=>match i with
   | .int i=>(lP i xs.length).bind (xs[·]?)
   |_=>J
  | .aU t ak=>if dR t i then ck i ak else J
  |_=>J
 |_=>J
noncomputable def hE (c f:Nat):Bool:=match c with
 |0=>decide (f<=6)
 |1=>decide (7<=f/\f<=16)
 |2=>decide (f=0\/(17<=f/\f<=21))
 |3=>decide (f=22\/f=23)
 |4=>decide (f=22\/f=24)
 |5=>decide (f=22\/(24<=f/\f<=26))
 |_=>ae
def ef (σ:Hp)(o:X)(f:Nat):Option X:=match o with
 | .v (.obj c a)=>if hE c f then(n5 f a).map .v else J
 | .ref n=>(σ[n]?).bind λc=>match c with
  | .obj c a=>if hE c f then n5 f a else J
  |_=>J
 |_=>J
def n6 (σ:Hp)(o:X):Option Nat:=match o with
 | .v (.obj c a)=>if a.all (λp=>hE c p.1)then S c else J
 | .ref n=>(σ[n]?).bind λc=>match c with
  | .obj c a=>if a.all (λp=>hE c p.1)then S c else J
  |_=>J
 |_=>J
noncomputable def lQ (a:Int)(n:Nat):Nat:=if a<0 then(a+n).toNat else min a.toNat n
def mJ (o:V)(a:V):Option V:=match a with
 | .int h=>match o with
  | .lst xs=>if xs.length<aE then S (.lst (xs.take (lQ h xs.length)))else J
  | .tup xs=>if xs.length<aE then S (.tup (xs.take (lQ h xs.length)))else J
  | .str s=>if s.length<aE/\0<=h then S (.str (s.take h.toNat))else J
  |_=>J
 |_=>J
def tQ (o:V)(lo:V):Option V:=match lo with
 | .int h=>match o with
  | .lst xs=>if xs.length<aE then S (.lst (xs.drop (lQ h xs.length)))else J
  | .tup xs=>if xs.length<aE then S (.tup (xs.drop (lQ h xs.length)))else J
  |_=>J
 |_=>J
noncomputable def binI (c:qk)(a b:Int):Option Int:=match c with
 | .add=>S (a+b)
 | .sub=>S (a - b)
 | .mul=>if a.natAbs<2^62\/b.natAbs<2^62 then S (a*b)else J
 | .mod=>if 0<b/\b<1000000000 then S (a.fmod b)else J
 | .fdiv=>if 0<b/\b<1000000000 then S (a.fdiv b)else J
 | .pow _=>if 0<=b/\a.natAbs<1000/\b<1000 then S (a^b.toNat)else J
 | .bor=>if 0<=a/\0<=b then S ((a.toNat|||b.toNat:Nat):Int)else J
 | .band=>if 0<=a/\0<=b then S ((a.toNat&&&b.toNat:Nat):Int)else J
 | .shl=>if 0<=b/\b<=1000000/\0<=a/\a<2^62 then S (a*2^b.toNat)else J
 | .shr=>if 0<=b/\0<=a then S ((a.toNat>>>b.toNat:Nat):Int)else J
def cV (c:qk)(a b:V):Option V:=match a,b with
 | .int a,.int b=>(binI c a b).map .int
 | .str a,.str b=>match c with
  | .add=>if a.length+b.length<aE then S (.str (a++b))else J
  |_=>J
 | .tup a,.tup b=>match c with
  | .add=>if a.length+b.length<aE then S (.tup (a++b))else J
  |_=>J
 | .lst a,.lst b=>match c with
  | .add=>if a.length+b.length<aE then S (.lst (a++b))else J
  |_=>J
 | .lst a,.int n=>match c with
  | .mul=>if 0<=n/\a.length*n.toNat<aE/\n<aE then S (.lst ((List.replicate n.toNat a).flatten))else J
  |_=>J
 |_,_=>J
def mK (x:V)(a:List V):Option Bool:=if isData 4 x/\a.all (isData 4)then S (a.any λy=>gI y x)else J
def indexOf (x:V)(a:List V):Option Nat:=if isStr x=ab/\a.all isStr=ab/\a.length<aE then a.findIdx? λy=>gI y x else J
def n7 (σ:Hp)(x:V)(o:X):Option Bool:=match o with
 | .v (.lst a)=>mK x a
 | .v (.tup a)=>mK x a
 | .v (.aU t b)=>if dR t x then S (ck x b).isSome else J
 | .ref n=>(σ[n]?).bind λc=>match c with
  | .lst a=>(fA a).bind (mK x)
  | .aU t b=>if dR t x then S (ck x b).isSome else J
  |_=>J
 |_=>J
noncomputable def vA (f:Int->Int->Bool):X->X->Option Bool
 | .v (.int a),.v (.int b)=>S (f a b)
 |_,_=>J
noncomputable def BV (f:Bool->Bool->Bool)(g:V->V->Option Bool):X->X->Option Bool
 | .v (.bool a),.v (.bool b)=>S (f a b)
 | .v a,.v b=>g a b
 |_,_=>J
def cO (σ:Hp)(c:yD)(a b:X):Option Bool:=match c with
 | .eq=>BV (· == ·) eqv a b
 | .ne=>BV (· != ·) (λa b=>(eqv a b).map not) a b
 | .lt=>vA (λa b=>decide (a<b)) a b
 | .le=>vA (λa b=>decide (a<=b)) a b
 | .gt _=>vA (λa b=>decide (b<a)) a b
 | .ge=>vA (λa b=>decide (b<=a)) a b
 | .isIn=>match a with
  | .v a=>n7 σ a b
  |_=>J
 | .ir=>match a with
  | .v a=>(n7 σ a b).map not
  |_=>J
mutual
def dc:V->V->Bool
 | .int a,.int b=>decide (a<b)
 | .tup xs,.tup c=>kR xs c
 | .lst xs,.lst c=>kR xs c
 |_,_=>ae
def kR:List V->List V->Bool
 | [],[]=>ae
 | [],_::_=>ab
 |_::_,[]=>ae
 |x::xs,y::a=>if dK x y then kR xs a else dc x y
end
def iR:V->Bool
 | .tup xs=>decide (xs.length=2) &&xs.all isInt
 |_=>ae
def rW:V->Bool
 | .lst xs=>xs.all iR
 |_=>ae
def mL (xs:List V):Bool:=(xs.all isInt||xs.all rW||xs.all iR) &&decide (xs.length<aE)
def tR (x:V):List V->List V
 | []=> [x]
 |y::a=>if dc x y then x::y::a else y::tR x a
def gm:List V->List V
 | []=> []
 |x::xs=>tR x (gm xs)
noncomputable def keysOf {a:Type}:List (V×a)->List V:=List.map (·.1)
def rX (σ:Hp):X->Option (List V)
 | .v (.lst xs)=>S xs
 | .v (.tup xs)=>S xs
 | .v (.aU _ a)=>S (keysOf a)
 | .ref n=>(σ[n]?).bind λc=>match c with
  | .lst xs=>fA xs
  | .aU _ a=>S (keysOf a)
  |_=>J
 |_=>J
noncomputable def tS:List V->Int->Option Int
 | [],a=>S a
 | .int i::r,a=>tS r (a+i)
 |_,_=>J
def rY (t:KT):List V->List (V×V)->Option (List (V×V))
 | [],acc=>S acc
 | .tup [k,x]::r,acc=>if dR t k then rY t r (d9 k x acc)else J
 |_,_=>J
noncomputable def vB (a:List Nat):List V->Option (List Nat)
 | []=>S []
 | [.str s]=>S s
 | .str s::r=>(vB a r).map λt=>s++a++t
 |_=>J
noncomputable def kS {b:Type}(x:X)(f:V->Option b):Option b:=match x with
 | .v a=>f a
 | .ref _=>J
noncomputable def rZ {a:Type}(x:X)(f:Int->Option a):Option a:=match x with
 | .v (.int n)=>f n
 |_=>J
noncomputable def qm {a:Type}(x:X)(f:List V->Option a):Option a:=match x with
 | .v (.lst n)=>f n
 |_=>J
noncomputable def H_ {a:Type}(x:X)(f:List V->Option a):Option a:=match x with
 | .v (.tup n)=>f n
 |_=>J
noncomputable def Ia {a:Type}(x:X)(f:KT->List (V×V)->Option a):Option a:=match x with
 | .v (.aU t b)=>f t b
 |_=>J
noncomputable def onStr {a:Type}(x:X)(f:List Nat->Option a):Option a:=match x with
 | .v (.str s)=>f s
 |_=>J
noncomputable def onSeq {a:Type}(x:X)(f:List V->Option a):Option a:=match x with
 | .v (.lst n)=>f n
 | .v (.tup n)=>f n
 |_=>J
noncomputable def tU {a:Type}(as:List X)(f:X->Option a):Option a:=match as with
 | [x]=>f x
 |_=>J
noncomputable def yF {a:Type}(as:List X)(f:X->X->Option a):Option a:=match as with
 | [x,y]=>f x y
 |_=>J
noncomputable def yG {a:Type}(σ:Hp)(o:X)(f:Nat->List X->Option a):Option a:=match o with
 | .ref n=>(σ[n]?).bind λc=>match c with
  | .lst xs=>f n xs
  |_=>J
 | .v _=>J
noncomputable def Ib {a:Type}(σ:Hp)(o:X)(f:Nat->KT->List (V×X)->Option a):Option a:=match o with
 | .ref n=>(σ[n]?).bind λc=>match c with
  | .aU t b=>f n t b
  |_=>J
 | .v _=>J
inductive BR where
 |val (a:V)
 |items (xs:List V)
def cB (σ:Hp)(f:tP)(x:X):Option BR:=match f with
 | .len=>(vy σ x).bind λn=>if n<aE then S (.val (.int n))else J
 | .list=>onSeq x λxs=>if xs.length<aE then S (.items xs)else J
 | .tuple=>qm x λxs=>if xs.length<aE then S (.val (.tup xs))else J
 | .sorted=>(rX σ x).bind λxs=>if mL xs=ab then S (.items (gm xs))else J
 | .sum=>qm x λxs=>(tS xs 0).map λn=> .val (.int n)
 | .dict t=>qm x λxs=>if xs.length<aE then(rY t xs []).map λc=> .val (.aU t c)else J
 | .abs=>rZ x λi=>S (.val (.int i.natAbs))
 | .int=>kS x λa=>match a with
  | .int i=>S (.val (.int i))
  | .bool b=>S (.val (.int (if b then 1 else 0)))
  |_=>J
noncomputable def mF.ty:mF->String
 | .append=> "list" | .insert _=> "list" | .extend=> "list" | .index=> "list" | .get=> "dict" | .join=> "str"
noncomputable def r5 (σ:Hp):X->Option String
 | .v (.lst _)=>S "list"
 | .v (.aU _ _)=>S "dict"
 | .v (.str _)=>S "str"
 | .ref n=>(σ[n]?).bind λc=>match c with
  | .lst _=>S "list"
  | .aU _ _=>S "dict"
  |_=>J
 |_=>J
def gJ (σ:Hp)(f:mF)(o:X)(as:List X):Option (X×Hp):=match f with
 | .append=>yG σ o λn xs=>tU as λx=>if xs.length<aE then S (.v .none,σ.set n (.lst (xs++ [x])))else J
 | .insert _=>yG σ o λn xs=>yF as λa x=>rZ a λi=>if xs.length<aE/\0<=i/\i<=xs.length then S (.v .none,σ.set n (.lst (xs.take i.toNat++ [x]++xs.drop i.toNat)))else J
 | .extend=>yG σ o λn xs=>tU as λa=>qm a λc=>if xs.length+c.length<aE then S (.v .none,σ.set n (.lst (xs++c.map .v)))else J
 | .index=>qm o λxs=>tU as λa=>kS a λx=>(indexOf x xs).map λ(k:Nat)=>(.v (.int (k:Int)),σ)
 | .get=>yF as λa d=>kS a λk=>match o with
  | .v _=>Ia o λt b=>if dR t k then S (match ck k b with|some a=> .v a|Option.none=>d,σ)else J
  | .ref _=>Ib σ o λ_ t b=>if dR t k then S ((ck k b).getD d,σ)else J
 | .join=>onStr o λh=>tU as λa=>onSeq a λxs=>(vB h xs).bind λs=>if s.length<aE/\h.length<aE then S (.v (.str s),σ)else J
def mM (σ:Hp)(o:X)(k:V)(x:X):Option Hp:=match o with
 | .ref n=>(σ[n]?).bind λc=>match c with
  | .lst xs=>match k with
   | .int i=>if 0<=i/\i<xs.length/\i<aE then S (σ.set n (.lst (xs.set i.toNat x)))else J
   |_=>J
  | .aU t a=>if dR t k/\a.length<aE then S (σ.set n (.aU t (d9 k x a)))else J
  |_=>J
 |_=>J
def r6 (σ:Hp)(o:X)(f:Nat)(x:X):Option Hp:=match o with
 | .ref n=>(σ[n]?).bind λc=>match c with
  | .obj c a=>if a.length<64/\hE c f=ab then S (σ.set n (.obj c (lO f x a)))else J
  |_=>J
 |_=>J
noncomputable def jD {a b:Type}(f:Hp->a->Option (b×Hp)):Hp->List a->Option (List b×Hp)
 |σ,[]=>S ([],σ)
 |σ,x::r=>(f σ x).bind λp=>(jD f p.2 r).map λq=>(p.1::q.1,q.2)
def Ic (f:Hp->X->Option (V×Hp))(σ:Hp)(c:Cell):Option (V×Hp):=match c with
 | .lst xs=>(jD f σ xs).map λp=>(.lst p.1,p.2)
 | .aU t a=>(jD (λσ p=>(f σ p.2).map λq=>((p.1,q.1),q.2)) σ a).map λp=>(.aU t p.1,p.2)
 | .obj c b=>(jD (λσ p=>(f σ p.2).map λq=>((p.1,q.1),q.2)) σ b).map λp=>(.obj c p.1,p.2)
 | .dead=>J
def fz:Nat->Hp->X->Option (V×Hp)
 |_,σ,.v a=>S (a,σ)
 |0,_,.ref _=>J
 |k+1,σ,.ref n=>(σ[n]?).bind (Ic (fz k) (σ.set n .dead))
noncomputable def FZ:Nat:=8
set_option genInjectivity false in
structure Cl where
 call:Nat->List X->Hp->Option (X×Hp)
 new:Nat->List X->Hp->Option (X×Hp)
 fk:List V
noncomputable def slot (ρ:Env)(i:Nat):Option X:=(ρ[i]?).join
noncomputable def UI {a:Type}:List a->Option (a×a)
 | []=>J
 |x::r=>match r with
  | []=>J
  |y::r=>match r with
   | []=>S (x,y)
   |_::_=>J
def BW:V->Option (V×V)
 | .tup xs=>UI xs
 |_=>J
def bV (t:jC)(a:V)(ρ:Env):Option Env:=match t with
 | .one i=>S (ρ.set i (S (.v a)))
 | .two i j=>(BW a).map λp=>(ρ.set i (S (.v p.1))).set j (S (.v p.2))
noncomputable def gZ:List Nat->List X->Env->Option Env
 | [],[],ρ=>S ρ
 |i::is,x::xs,ρ=>gZ is xs (ρ.set i (S x))
 |_,_,_=>J
def kx (m:Bool)(xs:List X)(σ:Hp):Option (X×Hp):=
 if xs.length<aE then
  (if m then S (.ref σ.length,σ++ [.lst xs])else(fA xs).map λa=>(.v (.lst a),σ))
 else J
noncomputable def vD (m:Bool)(xs:List V)(σ:Hp):Option (X×Hp):=
 if m then S (.ref σ.length,σ++ [.lst (xs.map .v)])else S (.v (.lst xs),σ)
noncomputable def Ie:List X->List X->Option (List (V×X))
 | [],[]=>S []
 | .v k::a,x::xs=>(Ie a xs).map ((k,x):: ·)
 |_,_=>J
def storeAll (a:List (V×X)):List (V×X):=a.foldl (λacc p=>d9 p.1 p.2 acc) []
noncomputable def qn:List (V×X)->Option (List (V×V))
 | []=>S []
 | (k,.v a)::r=>(qn r).map ((k,a):: ·)
 | (_,.ref _)::_=>J
theorem UJ:qn ((k,.v a)::r)=(qn r).map ((k,a):: ·):=rfl
def BX (m:Bool)(t:KT)(b c:List X)(σ:Hp):Option (X×Hp):=
 (Ie b c).bind λa=>if a.all (λp=>dR t p.1)then
  (if m then S (.ref σ.length,σ++ [.aU t (storeAll a)])else(qn (storeAll a)).map λd=>(.v (.aU t d),σ))
 else J
noncomputable def mN (a b:Int):List V:=(List.range (b - a).toNat).map λ(i:Nat)=>V.int (a+i)
noncomputable def lR:Nat->List V->List V
 |_,[]=> []
 |k,x::xs=> .tup [.int k,x]::lR (k+1) xs
theorem UK:lR k (x::xs)= .tup [.int k,x]::lR (k+1) xs:=rfl
def kT:V->Option (List V)
 | .lst xs=>S xs
 | .tup xs=>S xs
 | .aU _ a=>S (keysOf a)
 |_=>J
noncomputable def mO (f:V->Hp->Option (X×Hp)):List V->Hp->Option (List X×Hp)
 | [],σ=>S ([],σ)
 |a::r,σ=>(f a σ).bind λp=>(mO f r p.2).map λq=>(p.1::q.1,q.2)
noncomputable def qo (c:V->Hp->Option (Bool×Hp))(f:V->Hp->Option (X×Hp)):List V->Hp->Option (List X×Hp)
 | [],σ=>S ([],σ)
 |a::r,σ=>(c a σ).bind λb=>match b.1 with
  |true=>(f a b.2).bind λp=>(qo c f r p.2).map λq=>(p.1::q.1,q.2)
  |false=>qo c f r b.2
noncomputable def gn:X×Hp->Option (Bool×Hp)
 | (.v (.bool b),σ)=>S (b,σ)
 |_=>J
noncomputable def Ig (m:Bool)(σ:Hp)(r:BR):Option (X×Hp):=match r with
 | .val a=>S (.v a,σ)
 | .items xs=>vD m xs σ
noncomputable def mkBin (m:Bool)(o:Option V)(σ:Hp):Option (X×Hp):=match m with
 |false=>o.map λx=>(.v x,σ)
 |true=>o.bind λa=>match a with
  | .lst xs=>S (.ref σ.length,σ++ [.lst (xs.map .v)])
  |_=>J
noncomputable def tV (n:Bool):X->Bool
 | .v .none=> !n
 |_=>n
mutual
def az (cl:Cl):E->Env->Hp->Option (X×Hp)
 | .var i,ρ,σ=>(slot ρ i).map λx=>(x,σ)
 | .cst a,_,σ=>S (.v a,σ)
 | .glob g,_,σ=>(cl.fk[g]?).map λa=>(.v a,σ)
 | .attr o f,ρ,σ=>(az cl o ρ σ).bind λp=>(ef p.2 p.1 f).map λx=>(x,p.2)
 | .idx o i,ρ,σ=>(az cl o ρ σ).bind λp=>(az cl i ρ p.2).bind λq=>kS q.1 λk=>(bZ q.2 p.1 k).map λx=>(x,q.2)
 | .kQ o h,ρ,σ=>(az cl o ρ σ).bind λp=>(az cl h ρ p.2).bind λq=>kS p.1 λa=>kS q.1 λh=>(mJ a h).map λx=>(.v x,q.2)
 | .vw o h,ρ,σ=>(az cl o ρ σ).bind λp=>(az cl h ρ p.2).bind λq=>kS p.1 λa=>kS q.1 λh=>(tQ a h).map λx=>(.v x,q.2)
 | .bin m y l r,ρ,σ=>(az cl l ρ σ).bind λp=>(az cl r ρ p.2).bind λq=>kS p.1 λa=>kS q.1 λb=>mkBin m (cV y a b) q.2
 | .cmp y l r,ρ,σ=>(az cl l ρ σ).bind λp=>(az cl r ρ p.2).bind λq=>(cO q.2 y p.1 q.1).map λb=>(.v (.bool b),q.2)
 | .isNone neg e,ρ,σ=>(az cl e ρ σ).map λp=>(.v (.bool (tV neg p.1)),p.2)
 | .and l r,ρ,σ=>((az cl l ρ σ).bind gn).bind λp=>match p.1 with
  |true=>((az cl r ρ p.2).bind gn).map λq=>(.v (.bool q.1),q.2)
  |false=>S (.v (.bool ae),p.2)
 | .or l r,ρ,σ=>((az cl l ρ σ).bind gn).bind λp=>match p.1 with
  |true=>S (.v (.bool ab),p.2)
  |false=>((az cl r ρ p.2).bind gn).map λq=>(.v (.bool q.1),q.2)
 | .not e,ρ,σ=>((az cl e ρ σ).bind gn).map λp=>(.v (.bool (!p.1)),p.2)
 | .ite c t f,ρ,σ=>((az cl c ρ σ).bind gn).bind λp=>match p.1 with
  |true=>az cl t ρ p.2
  |false=>az cl f ρ p.2
 | .tup es,ρ,σ=>(fV cl es ρ σ).bind λp=>if p.1.length<aE then(fA p.1).map λvs=>(.v (.tup vs),p.2)else J
 | .lst m es,ρ,σ=>(fV cl es ρ σ).bind λp=>kx m p.1 p.2
 | .aU m t G vs,ρ,σ=>(fV cl G ρ σ).bind λp=>(fV cl vs ρ p.2).bind λq=>BX m t p.1 q.1 q.2
 | .comp m t it D,ρ,σ=>(iw cl it ρ σ).bind λp=>
  (mO (λa u=>(bV t a ρ).bind λρ'=>az cl D ρ' u) p.1 p.2).bind λq=>kx m q.1 q.2
 | .iQ m t it c D,ρ,σ=>(iw cl it ρ σ).bind λp=>
  (qo (λa u=>(bV t a ρ).bind λρ'=>(az cl c ρ' u).bind gn) (λa u=>(bV t a ρ).bind λρ'=>az cl D ρ' u) p.1 p.2).bind λq=>kx m q.1 q.2
 | .bf m f e,ρ,σ=>(az cl e ρ σ).bind λp=>(cB p.2 f p.1).bind λr=>Ig m p.2 r
 | .da o f es,ρ,σ=>(az cl o ρ σ).bind λp=>if r5 p.2 p.1=S f.ty then(fV cl es ρ p.2).bind λq=>gJ q.2 f p.1 q.1 else J
 | .call f es,ρ,σ=>(fV cl es ρ σ).bind λq=>cl.call f q.1 q.2
 | .bN o c f es,ρ,σ=>(az cl o ρ σ).bind λp=>
  if n6 p.2 p.1=S c then(fV cl es ρ p.2).bind λq=>cl.call f (p.1::q.1) q.2 else J
 | .new c es,ρ,σ=>(fV cl es ρ σ).bind λq=>cl.new c q.1 q.2
def fV (cl:Cl):Es->Env->Hp->Option (List X×Hp)
 | .nil,_,σ=>S ([],σ)
 | .cons e es,ρ,σ=>(az cl e ρ σ).bind λp=>(fV cl es ρ p.2).map λq=>(p.1::q.1,q.2)
def iw (cl:Cl):It->Env->Hp->Option (List V×Hp)
 | .of e,ρ,σ=>(az cl e ρ σ).bind λp=>kS p.1 λa=>(kT a).map λxs=>(xs,p.2)
 | .hC e,ρ,σ=>(az cl e ρ σ).bind λp=>qm p.1 λxs=>S (xs,p.2)
 | .range e,ρ,σ=>(az cl e ρ σ).bind λp=>rZ p.1 λn=>if n<aE/\ -aE<n then S (mN 0 n,p.2)else J
 | .rV a b,ρ,σ=>(az cl a ρ σ).bind λp=>(az cl b ρ p.2).bind λq=>rZ p.1 λa=>rZ q.1 λb=>if a<aE/\ -aE<a/\b<aE/\ -aE<b then S (mN a b,q.2)else J
 | .enum e,ρ,σ=>(az cl e ρ σ).bind λp=>qm p.1 λxs=>if xs.length<aE then S (lR 0 xs,p.2)else J
end
abbrev RS:=Option (Flow×Env×Hp)
def n8 (t:jC)(b:Env->Hp->RS):List V->Env->Hp->RS
 | [],ρ,σ=>S (.next,ρ,σ)
 |a::r,ρ,σ=>(bV t a ρ).bind λρ'=>(b ρ' σ).bind λp=>match p.1 with
  | .next=>n8 t b r p.2.1 p.2.2
  | .ret x=>S (.ret x,p.2)
noncomputable def qp (c:Env->Hp->Option (Bool×Hp))(b:Env->Hp->RS):Nat->Env->Hp->RS
 |0,_,_=>J
 |k+1,ρ,σ=>(c ρ σ).bind λp=>match p.1 with
  |false=>S (.next,ρ,p.2)
  |true=>(b ρ p.2).bind λq=>match q.1 with
   | .next=>qp c b k q.2.1 q.2.2
   | .ret x=>S (.ret x,q.2)
mutual
def qq (cl:Cl):fj->Env->Hp->RS
 | .set i e,ρ,σ=>(az cl e ρ σ).map λp=>(.next,ρ.set i (S p.1),p.2)
 | .mG is e,ρ,σ=>(az cl e ρ σ).bind λp=>H_ p.1 λxs=>(gZ is (xs.map .v) ρ).map λρ'=>(.next,ρ',p.2)
 | .ql is es,ρ,σ=>(fV cl es ρ σ).bind λp=>(gZ is p.1 ρ).map λρ'=>(.next,ρ',p.2)
 | .dy o f e,ρ,σ=>(az cl e ρ σ).bind λp=>(az cl o ρ p.2).bind λq=>(r6 q.2 q.1 f p.1).map λa=>(.next,ρ,a)
 | .gk o k e,ρ,σ=>(az cl e ρ σ).bind λp=>(az cl o ρ p.2).bind λq=>(az cl k ρ q.2).bind λr=>kS r.1 λk=>(mM r.2 q.1 k p.1).map λa=>(.next,ρ,a)
 | .ex e,ρ,σ=>(az cl e ρ σ).map λp=>(.next,ρ,p.2)
 | .ite c t f,ρ,σ=>((az cl c ρ σ).bind gn).bind λp=>match p.1 with
  |true=>aZ cl t ρ p.2
  |false=>aZ cl f ρ p.2
 | .cq t it b,ρ,σ=>(iw cl it ρ σ).bind λp=>n8 t (λρ' a=>aZ cl b ρ' a) p.1 ρ p.2
 | .mH c b,ρ,σ=>qp (λρ' a=>(az cl c ρ' a).bind gn) (λρ' a=>aZ cl b ρ' a) W ρ σ
 | .ret e,ρ,σ=>(az cl e ρ σ).map λp=>(.ret p.1,ρ,p.2)
 | .raise,_,_=>J
 | .iu i,ρ,σ=>(slot ρ i).bind λx=>(fz FZ σ x).map λp=>(.next,ρ.set i (S (.v p.1)),p.2)
def aZ (cl:Cl):Ss->Env->Hp->RS
 | .nil,ρ,σ=>S (.next,ρ,σ)
 | .cons s r,ρ,σ=>(qq cl s ρ σ).bind λp=>match p.1 with
  | .next=>aZ cl r p.2.1 p.2.2
  | .ret x=>S (.ret x,p.2)
end
noncomputable def frameOf (fn:Fn)(as:List X):Option Env:=
 if as.length<=fn.lM/\fn.lM<=as.length+fn.defs.length then
  S ((as.map S)++ ((fn.defs.drop (as.length+fn.defs.length - fn.lM)).map λa=>S (.v a))++List.replicate (fn.H8 - fn.lM) J)
 else J
def n9 (cl:Cl)(fn:Fn)(as:List X)(σ:Hp):Option (X×Hp):=
 (frameOf fn as).bind λρ=>(aZ cl fn.body ρ σ).map λp=>match p.1 with
  | .next=>(.v .none,p.2.2)
  | .ret x=>(x,p.2.2)
def BY (cl:Cl)(P:Prog)(f:Nat)(as:List X)(σ:Hp):Option (X×Hp):=
 (P.fns[f]?).bind λfn=>match fn.pure with
  |true=>(fA as).bind λ_=>(n9 cl fn as []).bind λp=>(fz FZ p.2 p.1).map λq=>(.v q.1,σ)
  |false=>n9 cl fn as σ
def BZ (cl:Cl)(P:Prog)(c:Nat)(as:List X)(σ:Hp):Option (X×Hp):=
 (P.init[c]?).bind λf=>(P.fns[f]?).bind λfn=>(P.vx[c]?).bind λa=>match a with
  |true=>(fA as).bind λ_=>(n9 cl fn (.ref 0::as) [.obj c []]).bind λp=>match p.1 with
   | .v .none=>(fz FZ p.2 (.ref 0)).map λq=>(.v q.1,σ)
   |_=>J
  |false=>(n9 cl fn (.ref σ.length::as) (σ++ [.obj c []])).bind λp=>match p.1 with
   | .v .none=>S (.ref σ.length,p.2)
   |_=>J
def aQ (P:Prog):Nat->Cl
 |0=>⟨λ_ _ _=>J,λ_ _ _=>J,P.fk⟩
 |d+1=>⟨BY (aQ P d) P,BZ (aQ P d) P,P.fk⟩
theorem bind_some {c k:Type}{o}{f:c->Option k}{b}(h:o.bind f=S b):∃a,o=S a/\f a=S b:=yw.mp h
theorem Ih {c k:Type}{o}{f:c->k}{b}(h:o.map f=S b):∃a,o=S a/\f a=b:=qe.mp h
def OB {b:Type}(o:Option b)(P:b->Prop):Prop:=∀a,o=S a->P a
section
variable {α β:Type} {o:Option α} {P:β->Prop} {x:X}
theorem cv (h:∀a,o=S a->OB (f a) P):OB (o.bind f) P:=λb e=>(bind_some e).elim λa e=>h a e.1 b e.2
theorem UL (h:OB o λa=>OB (f a) P):OB (o.bind f) P:=λb e=>(bind_some e).elim λa e=>h a e.1 b e.2
theorem fc (h:∀a,o=S a->P (f a)):OB (o.map f) P:=λ_ e=>(Ih e).elim λa e=>e.2▸h a e.1
theorem cH (h:P a):OB (S a) P:=λ_ e=>je e▸h
theorem fW:OB .none P:=λ_ e=>nomatch e
theorem fB [Decidable c]{x}(h:c->OB x P):OB (if c then x else .none) P:=λb e=>by
 by_cases q:c
 . rw[if_pos q]at e;exact h q b e
 . rw[if_neg q]at e;exact aD e
theorem lS (h:∀a,x= .v a->OB (f a) P):OB (kS x f) P:=by
 cases x with
 |ref n=>exact fW
 |v a=>exact h a rfl
theorem vE (h:∀a,x= .v (.int a)->OB (f a) P):OB (rZ x f) P:=by
 cases x with
 |ref n=>exact fW
 |v a=>cases a<;>first|exact fW|exact h _ rfl
theorem r7 (h:∀a,x= .v (.lst a)->OB (f a) P):OB (qm x f) P:=by
 cases x with
 |ref n=>exact fW
 |v a=>cases a<;>first|exact fW|exact h _ rfl
theorem UM (h:∀a,x= .v (.tup a)->OB (f a) P):OB (H_ x f) P:=by
 cases x with
 |ref n=>exact fW
 |v a=>cases a<;>first|exact fW|exact h _ rfl
theorem UN (h:∀t b,x= .v (.aU t b)->OB (f t b) P):OB (Ia x f) P:=by
 cases x with
 |ref n=>exact fW
 |v a=>cases a<;>first|exact fW|exact h _ _ rfl
theorem UO (h:∀a,x= .v (.str a)->OB (f a) P):OB (onStr x f) P:=by
 cases x with
 |ref n=>exact fW
 |v a=>cases a<;>first|exact fW|exact h _ rfl
theorem Ii (h:∀a,x= .v (.lst a)\/x= .v (.tup a)->OB (f a) P):OB (onSeq x f) P:=by
 cases x with
 |ref n=>exact fW
 |v a=>cases a<;>first|exact fW|exact h _ (.inl rfl)|exact h _ (.inr rfl)
theorem yH (h:∀a,as= [a]->OB (f a) P):OB (tU as f) P:=by
 rcases as with _| ⟨a,_| ⟨_,_⟩⟩<;>first|exact fW|exact h _ rfl
theorem Ij (h:∀a b,as= [a,b]->OB (f a b) P):OB (yF as f) P:=by
 rcases as with _| ⟨a,_| ⟨b,_| ⟨_,_⟩⟩⟩<;>first|exact fW|exact h _ _ rfl
theorem B0 (h:∀n xs,x= .ref n->σ[n]?=S (.lst xs)->OB (f n xs) P):OB (yG σ x f) P:=by
 cases x with
 |v a=>exact fW
 |ref n=>exact cv λc b=>by cases c<;>first|exact fW|exact h _ _ rfl b
theorem UP (h:∀n t b,x= .ref n->σ[n]?=S (.aU t b)->OB (f n t b) P):OB (Ib σ x f) P:=by
 cases x with
 |v a=>exact fW
 |ref n=>exact cv λc k=>by cases c<;>first|exact fW|exact h _ _ _ rfl k
end
noncomputable def UQ:Ss:=(.cons (.ite (.cmp .eq (.bin ae .band (.bin ae .shr (.idx (.var 1) (.var 3)) (.var 2)) (.cst (.int 1))) (.cst (.int 1))) (.cons (.gk (.var 1) (.var 3) (.bin ae .bor (.idx (.var 1) (.var 3)) (.idx (.var 1) (.var 2)))) .nil) .nil) .nil)
def UR:Ss:=(.cons (.cq (.one 3) (.range (.bf ae .len (.var 1))) UQ) .nil)
def UT:Fn:=⟨1,[],4,ab,
 (.cons (.set 1 (.bf ab .list (.var 0))) (.cons (.cq (.one 2) (.range (.bf ae .len (.var 1))) UR) (.cons (.ret (.var 1)) .nil)))⟩
noncomputable def UU:Ss:=(.cons (.ite (.cmp .eq (.bin ae .band (.var 3) (.cst (.int 1))) (.cst (.int 1))) (.cons (.ex (.da (.var 1) .append (.cons (.var 2) .nil))) .nil) .nil) (.cons (.set 3 (.bin ae .shr (.var 3) (.cst (.int 1)))) (.cons (.set 2 (.bin ae .add (.var 2) (.cst (.int 1)))) .nil)))
def UW:Fn:=⟨1,[],4,ab,
 (.cons (.set 1 (.lst ab .nil)) (.cons (.set 2 (.cst (.int 0))) (.cons (.set 3 (.var 0)) (.cons (.mH (.cmp (.gt ()) (.var 3) (.cst (.int 0))) UU) (.cons (.ret (.var 1)) .nil)))))⟩
noncomputable def UX:Fn:=⟨8,[.int (-1),.none,.int 0,.int 0],8,ab,
 (.cons (.dy (.var 0) 0 (.var 1)) (.cons (.dy (.var 0) 1 (.var 2)) (.cons (.dy (.var 0) 2 (.var 3)) (.cons (.dy (.var 0) 3 (.var 4)) (.cons (.dy (.var 0) 4 (.var 5)) (.cons (.dy (.var 0) 5 (.var 6)) (.cons (.dy (.var 0) 6 (.var 7)) .nil)))))))⟩
noncomputable def UY:Ss:=(.cons (.ex (.da (.idx (.attr (.var 0) 13) (.attr (.var 7) 1)) .append (.cons (.attr (.var 7) 0) .nil))) (.cons (.ex (.da (.attr (.var 0) 14) .append (.cons (.bf ae .len (.attr (.var 0) 15)) .nil))) (.cons (.ex (.da (.attr (.var 0) 15) .extend (.cons (.bin ae .mul (.lst ae (.cons (.attr (.var 7) 0) .nil)) (.bin ae .add (.bf ae .len (.attr (.var 7) 2)) (.cst (.int 1)))) .nil))) .nil)))
def UZ:Fn:=⟨7,[],9,ab,
 (.cons (.dy (.var 0) 7 (.var 1)) (.cons (.dy (.var 0) 8 (.var 2)) (.cons (.dy (.var 0) 9 (.var 3)) (.cons (.dy (.var 0) 10 (.var 4)) (.cons (.dy (.var 0) 11 (.var 5)) (.cons (.dy (.var 0) 12 (.var 6)) (.cons (.dy (.var 0) 13 (.comp ab (.one 8) (.of (.attr (.var 0) 7)) (.lst ab .nil))) (.cons (.dy (.var 0) 14 (.lst ab .nil)) (.cons (.dy (.var 0) 15 (.lst ab .nil)) (.cons (.cq (.one 7) (.of (.attr (.var 0) 9)) UY) (.cons (.dy (.var 0) 16 (.bf ae .len (.attr (.var 0) 15))) .nil)))))))))))⟩
noncomputable def U0:Fn:=⟨1,[],1,ab,
 (.cons (.ret (.bf ae .len (.attr (.var 0) 7))) .nil)⟩
noncomputable def U1:Fn:=⟨2,[],2,ab,
 (.cons (.ret (.ite (.cmp .isIn (.var 1) (.attr (.var 0) 7)) (.da (.attr (.var 0) 7) .index (.cons (.var 1) .nil)) (.cst (.int (-1))))) .nil)⟩
noncomputable def U2:Fn:=⟨2,[],2,ab,
 (.cons (.ret (.bf ae .list (.idx (.attr (.var 0) 13) (.var 1)))) .nil)⟩
noncomputable def U3:Fn:=⟨3,[],3,ab,
 (.cons (.ret (.bin ae .add (.idx (.attr (.var 0) 14) (.var 1)) (.var 2))) .nil)⟩
noncomputable def U4:Fn:=⟨2,[],2,ab,
 (.cons (.ret (.idx (.attr (.var 0) 15) (.var 1))) .nil)⟩
noncomputable def U5:Fn:=⟨2,[],2,ab,
 (.cons (.ret (.bin ae .sub (.var 1) (.idx (.attr (.var 0) 14) (.idx (.attr (.var 0) 15) (.var 1))))) .nil)⟩
noncomputable def U6:Fn:=⟨2,[],4,ab,
 (.cons (.set 2 (.attr (.idx (.attr (.var 0) 9) (.idx (.attr (.var 0) 15) (.var 1))) 2)) (.cons (.set 3 (.bin ae .sub (.var 1) (.idx (.attr (.var 0) 14) (.idx (.attr (.var 0) 15) (.var 1))))) (.cons (.ret (.ite (.cmp .lt (.var 3) (.bf ae .len (.var 2))) (.idx (.var 2) (.var 3)) (.cst (.int (-1))))) .nil)))⟩
noncomputable def U7:Fn:=⟨3,[.int (-1)],6,ab,
 (.cons (.set 3 (.idx (.attr (.var 0) 9) (.var 1))) (.cons (.set 4 (.comp ab (.one 5) (.of (.attr (.var 3) 2)) (.idx (.attr (.var 0) 7) (.var 5)))) (.cons (.ite (.cmp .ge (.var 2) (.cst (.int 0))) (.cons (.ex (.da (.var 4) (.insert ()) (.cons (.var 2) (.cons (.cst (.str [46])) .nil)))) .nil) .nil) (.cons (.iu 4) (.cons (.ret (.bin ae .add (.bin ae .add (.idx (.attr (.var 0) 7) (.attr (.var 3) 1)) (.cst (.str [32,58,32]))) (.da (.cst (.str [32])) .join (.cons (.var 4) .nil)))) .nil)))))⟩
noncomputable def U8:Fn:=⟨2,[],2,ab,
 (.cons (.ret (.call 11 (.cons (.var 0) (.cons (.bN (.var 0) 1 8 (.cons (.var 1) .nil)) (.cons (.bN (.var 0) 1 9 (.cons (.var 1) .nil)) .nil))))) .nil)⟩
noncomputable def U9:Ss:=(.cons (.ite (.cmp .lt (.var 3) (.var 1)) (.cons (.set 2 (.var 3)) .nil) .nil) .nil)
def U_:Fn:=⟨2,[],4,ab,
 (.cons (.set 2 (.cst (.int (-1)))) (.cons (.cq (.one 3) (.of (.var 0)) U9) (.cons (.ret (.var 2)) .nil)))⟩
noncomputable def Ik:Ss:=(.cons (.ite (.or (.cmp .eq (.var 3) (.cst (.str [101,114,114,111,114]))) (.cmp .isIn (.kQ (.var 3) (.cst (.int 1))) (.tup (.cons (.cst (.str [])) (.cons (.cst (.str [36])) (.cons (.cst (.str [39])) .nil)))))) (.cons .raise .nil) .nil) (.cons (.ite (.cmp .ir (.var 3) (.var 2)) (.cons (.ex (.da (.var 2) .append (.cons (.var 3) .nil))) .nil) .nil) .nil))
noncomputable def Va:Ss:=(.cons (.ite (.and (.cmp .ir (.var 7) (.var 2)) (.cmp .ir (.var 7) (.var 6))) (.cons (.ex (.da (.var 6) .append (.cons (.var 7) .nil))) .nil) .nil) .nil)
def Il:Ss:=(.cons (.cq (.one 7) (.of (.var 4)) Va) .nil)
noncomputable def Im:Ss:=(.cons (.set 10 (.bf ae .tuple (.comp ae (.one 11) (.of (.var 4)) (.da (.var 6) .index (.cons (.var 11) .nil))))) (.cons (.ex (.da (.var 9) .append (.cons (.new 0 (.cons (.bf ae .len (.var 9)) (.cons (.da (.var 6) .index (.cons (.var 3) .nil)) (.cons (.var 10) (.cons (.call 13 (.cons (.var 10) (.cons (.var 8) .nil))) .nil))))) .nil))) .nil))
def Vb:Fn:=⟨2,[.none],12,ab,
 (.cons (.set 2 (.lst ab .nil)) (.cons (.cq (.two 3 4) (.hC (.var 0)) Ik) (.cons (.iu 2) (.cons (.set 5 (.ite (.or (.isNone ab (.var 1)) (.cmp .eq (.var 2) (.lst ae .nil))) (.var 1) (.idx (.var 2) (.cst (.int 0))))) (.cons (.ite (.cmp .ir (.var 5) (.var 2)) (.cons .raise .nil) .nil) (.cons (.set 6 (.bf ab .list (.glob 2))) (.cons (.cq (.two 3 4) (.hC (.var 0)) Il) (.cons (.iu 6) (.cons (.set 8 (.bf ae .len (.var 6))) (.cons (.set 6 (.bin ae .add (.bin ae .add (.var 6) (.lst ae (.cons (.cst (.str [36,97,99,99,101,112,116])) .nil))) (.var 2))) (.cons (.set 9 (.lst ab (.cons (.new 0 (.cons (.cst (.int 0)) (.cons (.var 8) (.cons (.tup (.cons (.da (.var 6) .index (.cons (.var 5) .nil)) (.cons (.glob 1) .nil))) (.cons (.glob 1) .nil))))) .nil))) (.cons (.cq (.two 3 4) (.hC (.var 0)) Im) (.cons (.iu 9) (.cons (.ret (.new 1 (.cons (.var 6) (.cons (.var 8) (.cons (.var 9) (.cons (.aU ae .str .nil .nil) (.cons (.cst .none) (.cons (.da (.var 6) .index (.cons (.var 5) .nil)) .nil)))))))) .nil))))))))))))))⟩
noncomputable def Vc:Fn:=⟨4,[],4,ae,
 (.cons (.dy (.var 0) 0 (.var 1)) (.cons (.dy (.var 0) 17 (.var 2)) (.cons (.dy (.var 0) 18 (.var 3)) (.cons (.dy (.var 0) 19 (.lst ae .nil)) (.cons (.dy (.var 0) 20 (.aU ab .int .nil .nil)) (.cons (.dy (.var 0) 21 (.lst ae .nil)) .nil))))))⟩
noncomputable def Ve:Fn:=⟨2,[],2,ab,
 (.cons (.ret (.da (.attr (.var 0) 20) .get (.cons (.var 1) (.cons (.glob 0) .nil)))) .nil)⟩
noncomputable def Vf:Ss:=(.cons (.ite (.cmp (.gt ()) (.bf ae .len (.attr (.var 3) 2)) (.cst (.int 0))) (.cons (.gk (.var 2) (.attr (.var 3) 1) (.bin ae .bor (.idx (.var 2) (.attr (.var 3) 1)) (.bin ae .shl (.cst (.int 1)) (.idx (.attr (.var 3) 2) (.cst (.int 0)))))) .nil) .nil) .nil)
def Vg:Fn:=⟨2,[],4,ab,
 (.cons (.dy (.var 0) 22 (.var 1)) (.cons (.set 2 (.bin ab .mul (.lst ae (.cons (.cst (.int 0)) .nil)) (.bN (.var 1) 1 4 .nil))) (.cons (.cq (.one 3) (.of (.attr (.var 1) 9)) Vf) (.cons (.iu 2) (.cons (.dy (.var 0) 23 (.call 0 (.cons (.var 2) .nil))) .nil)))))⟩
noncomputable def Vh:Ss:=(.cons (.set 4 (.bN (.attr (.var 0) 22) 1 10 (.cons (.var 3) .nil))) (.cons (.ite (.cmp .ge (.var 4) (.cst (.int 0))) (.cons (.set 2 (.bin ae .bor (.bin ae .bor (.var 2) (.bin ae .shl (.cst (.int 1)) (.var 4))) (.idx (.attr (.var 0) 23) (.var 4)))) .nil) .nil) .nil))
def Vi:Fn:=⟨2,[],5,ab,
 (.cons (.set 2 (.cst (.int 0))) (.cons (.cq (.one 3) (.of (.var 1)) Vh) (.cons (.ret (.var 2)) .nil)))⟩
noncomputable def Vj:Ss:=(.cons (.set 5 (.bN (.attr (.var 0) 22) 1 7 (.cons (.var 4) (.cons (.cst (.int 0)) .nil)))) (.cons (.ite (.cmp .ir (.var 5) (.var 1)) (.cons (.ex (.da (.var 2) .append (.cons (.var 5) .nil))) .nil) .nil) .nil))
def Vk:Ss:=(.cons (.cq (.one 4) (.of (.bN (.attr (.var 0) 22) 1 6 (.cons (.var 3) .nil))) Vj) .nil)
def Vl:Fn:=⟨2,[],6,ab,
 (.cons (.set 2 (.lst ab .nil)) (.cons (.cq (.one 3) (.of (.call 1 (.cons (.bN (.var 0) 3 18 (.cons (.var 1) .nil)) .nil))) Vk) (.cons (.ret (.bf ae .sorted (.var 2))) .nil)))⟩
noncomputable def Vm:Fn:=⟨2,[],2,ab,
 (.cons (.ret (.bin ae .add (.bf ae .sorted (.var 1)) (.bN (.var 0) 3 19 (.cons (.var 1) .nil)))) .nil)⟩
noncomputable def Vn:Fn:=⟨2,[],2,ab,
 (.cons (.ret (.bN (.new 3 (.cons (.var 0) .nil)) 3 20 (.cons (.var 1) .nil))) .nil)⟩
noncomputable def Vo:Fn:=⟨2,[],2,ab,
 (.cons (.ret (.bN (.var 0) 1 7 (.cons (.bN (.var 0) 1 8 (.cons (.var 1) .nil)) (.cons (.bin ae .add (.bN (.var 0) 1 9 (.cons (.var 1) .nil)) (.cst (.int 1))) .nil)))) .nil)⟩
noncomputable def Vp:Ss:=(.cons (.set 4 (.bN (.var 0) 1 10 (.cons (.var 3) .nil))) (.cons (.ite (.cmp .ge (.var 4) (.cst (.int 0))) (.cons (.ite (.cmp .ir (.var 4) (.var 2)) (.cons (.gk (.var 2) (.var 4) (.lst ab .nil)) .nil) .nil) (.cons (.ex (.da (.idx (.var 2) (.var 4)) .append (.cons (.call 22 (.cons (.var 0) (.cons (.var 3) .nil))) .nil))) .nil)) .nil) .nil))
noncomputable def Vq:Ss:=(.cons (.gk (.var 5) (.var 4) (.bf ae .tuple (.bf ae .sorted (.idx (.var 2) (.var 4))))) .nil)
def Vr:Fn:=⟨2,[],6,ab,
 (.cons (.set 2 (.aU ab .int .nil .nil)) (.cons (.cq (.one 3) (.of (.var 1)) Vp) (.cons (.set 5 (.aU ab .int .nil .nil)) (.cons (.cq (.one 4) (.of (.bf ae .sorted (.var 2))) Vq) (.cons (.ret (.var 5)) .nil)))))⟩
noncomputable def Vs:Ss:=(.cons (.ite (.and (.cmp .lt (.bN (.var 0) 1 10 (.cons (.var 3) .nil)) (.cst (.int 0))) (.cmp .ne (.bN (.var 0) 1 8 (.cons (.var 3) .nil)) (.cst (.int 0)))) (.cons (.ex (.da (.var 2) .append (.cons (.bN (.var 0) 1 8 (.cons (.var 3) .nil)) .nil))) .nil) .nil) .nil)
def Vt:Fn:=⟨2,[],4,ab,
 (.cons (.set 2 (.lst ab .nil)) (.cons (.cq (.one 3) (.of (.var 1)) Vs) (.cons (.ret (.bf ae .sorted (.var 2))) .nil)))⟩
noncomputable def Vu:Fn:=⟨3,[],3,ae,
 (.cons (.dy (.var 0) 22 (.var 1)) (.cons (.dy (.var 0) 24 (.var 2)) .nil))⟩
noncomputable def Vv:Fn:=⟨3,[],3,ab,
 (.cons (.ret (.bN (.idx (.attr (.var 0) 24) (.var 1)) 2 16 (.cons (.var 2) .nil))) .nil)⟩
noncomputable def Vw:Ss:=(.cons (.ite (.cmp .eq (.var 3) (.glob 0)) (.cons (.ret (.glob 0)) .nil) .nil) (.cons (.set 3 (.bN (.var 0) 4 26 (.cons (.var 3) (.cons (.var 4) .nil)))) .nil))
def Vx:Fn:=⟨3,[],5,ab,
 (.cons (.set 3 (.var 1)) (.cons (.cq (.one 4) (.of (.var 2)) Vw) (.cons (.ret (.var 3)) .nil)))⟩
noncomputable def Vy:Ss:=(.cons (.set 5 (.bN (.var 0) 4 26 (.cons (.idx (.var 3) (.cst (.int (-1)))) (.cons (.var 4) .nil)))) (.cons (.ite (.cmp .eq (.var 5) (.glob 0)) (.cons (.ret (.var 3)) .nil) .nil) (.cons (.ex (.da (.var 3) .append (.cons (.var 5) .nil))) .nil)))
def Vz:Fn:=⟨3,[],6,ab,
 (.cons (.set 3 (.lst ab (.cons (.var 1) .nil))) (.cons (.cq (.one 4) (.of (.var 2)) Vy) (.cons (.ret (.var 3)) .nil)))⟩
noncomputable def VA:Fn:=⟨1,[],1,ab,
 (.cons (.ret (.bN (.var 0) 4 27 (.cons (.cst (.int 0)) (.cons (.attr (.idx (.attr (.attr (.var 0) 22) 9) (.cst (.int 0))) 2) .nil)))) .nil)⟩
noncomputable def VB:Fn:=⟨1,[],2,ab,
 (.cons (.ret (.bf ae .sum (.comp ae (.one 1) (.of (.attr (.var 0) 24)) (.bf ae .len (.attr (.var 1) 20))))) .nil)⟩
noncomputable def VC:Fn:=⟨2,[],2,ae,
 (.cons (.dy (.var 0) 22 (.var 1)) (.cons (.dy (.var 0) 25 (.new 3 (.cons (.var 1) .nil))) (.cons (.dy (.var 0) 24 (.lst ab .nil)) (.cons (.dy (.var 0) 26 (.aU ab (.ints ()) .nil .nil)) .nil))))⟩
noncomputable def VE:Fn:=⟨3,[],3,ae,
 (.cons (.ite (.cmp .ir (.var 1) (.attr (.var 0) 26)) (.cons (.gk (.attr (.var 0) 26) (.var 1) (.bf ae .len (.attr (.var 0) 24))) (.cons (.ex (.da (.attr (.var 0) 24) .append (.cons (.new 2 (.cons (.bf ae .len (.attr (.var 0) 24)) (.cons (.var 1) (.cons (.var 2) .nil)))) .nil))) .nil)) .nil) (.cons (.ret (.idx (.attr (.var 0) 26) (.var 1))) .nil))⟩
noncomputable def VF:Ss:=(.cons (.gk (.attr (.var 1) 20) (.var 3) (.bN (.var 0) 5 32 (.cons (.idx (.var 2) (.var 3)) (.cons (.var 3) .nil)))) .nil)
def VG:Fn:=⟨2,[],4,ae,
 (.cons (.dy (.var 1) 19 (.bN (.attr (.var 0) 25) 3 20 (.cons (.attr (.var 1) 17) .nil))) (.cons (.dy (.var 1) 21 (.call 24 (.cons (.attr (.var 0) 22) (.cons (.attr (.var 1) 19) .nil)))) (.cons (.set 2 (.call 23 (.cons (.attr (.var 0) 22) (.cons (.attr (.var 1) 19) .nil)))) (.cons (.cq (.one 3) (.of (.var 2)) VF) .nil))))⟩
noncomputable def VH:Ss:=(.cons (.ex (.bN (.var 0) 5 33 (.cons (.idx (.attr (.var 0) 24) (.var 1)) .nil))) (.cons (.set 1 (.bin ae .add (.var 1) (.cst (.int 1)))) .nil))
def VI:Fn:=⟨1,[],2,ae,
 (.cons (.ex (.bN (.var 0) 5 32 (.cons (.tup (.cons (.bN (.attr (.var 0) 22) 1 7 (.cons (.cst (.int 0)) (.cons (.cst (.int 0)) .nil))) .nil)) (.cons (.glob 0) .nil)))) (.cons (.set 1 (.cst (.int 0))) (.cons (.mH (.cmp .lt (.var 1) (.bf ae .len (.attr (.var 0) 24))) VH) (.cons (.ret (.new 4 (.cons (.attr (.var 0) 22) (.cons (.attr (.var 0) 24) .nil)))) .nil))))⟩
noncomputable def VJ:Fn:=⟨1,[],1,ab,
 (.cons (.ret (.bN (.new 5 (.cons (.var 0) .nil)) 5 34 .nil)) .nil)⟩
noncomputable def VK:Ss:=(.cons (.ex (.da (.idx (.var 1) (.idx (.attr (.var 2) 20) (.var 3))) .append (.cons (.attr (.var 2) 0) .nil))) .nil)
def VL:Ss:=(.cons (.cq (.one 3) (.of (.attr (.var 2) 20)) VK) .nil)
def VM:Fn:=⟨1,[],5,ab,
 (.cons (.set 1 (.comp ab (.one 4) (.of (.attr (.var 0) 24)) (.lst ab .nil))) (.cons (.cq (.one 2) (.of (.attr (.var 0) 24)) VL) (.cons (.ret (.var 1)) .nil)))⟩
noncomputable def VN:Ss:=(.cons (.gk (.var 6) (.var 8) (.cst (.bool ab))) .nil)
def VO:Ss:=(.cons (.cq (.one 8) (.of (.idx (.var 3) (.var 7))) VN) .nil)
def VQ:Ss:=(.cons (.set 6 (.aU ab .int .nil .nil)) (.cons (.cq (.one 7) (.of (.var 4)) VO) (.cons (.set 4 (.bf ae .sorted (.var 6))) .nil)))
def VS:Fn:=⟨3,[],9,ab,
 (.cons (.set 3 (.call 36 (.cons (.var 0) .nil))) (.cons (.set 4 (.lst ae (.cons (.var 1) .nil))) (.cons (.cq (.one 5) (.range (.var 2)) VQ) (.cons (.ret (.var 4)) .nil))))⟩
noncomputable def Io:Ss:=(.cons (.ite (.isNone ae (.idx (.var 2) (.idx (.var 6) (.var 7)))) (.cons (.gk (.var 2) (.idx (.var 6) (.var 7)) (.bin ae .add (.idx (.var 2) (.var 5)) (.tup (.cons (.var 7) .nil)))) (.cons (.ex (.da (.var 3) .append (.cons (.idx (.var 6) (.var 7)) .nil))) .nil)) .nil) .nil)
def VT:Ss:=(.cons (.set 5 (.idx (.var 3) (.var 4))) (.cons (.set 6 (.attr (.idx (.attr (.var 0) 24) (.var 5)) 20)) (.cons (.cq (.one 7) (.of (.var 6)) Io) (.cons (.set 4 (.bin ae .add (.var 4) (.cst (.int 1)))) .nil))))
def VU:Fn:=⟨2,[],9,ab,
 (.cons (.set 2 (.comp ab (.one 8) (.of (.attr (.var 0) 24)) (.cst .none))) (.cons (.gk (.var 2) (.var 1) (.tup .nil)) (.cons (.set 3 (.lst ab (.cons (.var 1) .nil))) (.cons (.set 4 (.cst (.int 0))) (.cons (.mH (.cmp .lt (.var 4) (.bf ae .len (.var 3))) VT) (.cons (.ret (.var 2)) .nil))))))⟩
noncomputable def VV:Fn:=⟨2,[],2,ab,
 (.cons (.ret (.idx (.call 38 (.cons (.var 0) (.cons (.cst (.int 0)) .nil))) (.var 1))) .nil)⟩
noncomputable def VW:Fn:=⟨2,[],2,ab,
 (.cons (.ret (.cmp .ne (.bN (.var 0) 4 27 (.cons (.cst (.int 0)) (.cons (.var 1) .nil))) (.glob 0))) .nil)⟩
noncomputable def VX:Fn:=⟨2,[],3,ab,
 (.cons (.set 2 (.bN (.var 0) 4 27 (.cons (.cst (.int 0)) (.cons (.var 1) .nil)))) (.cons (.ite (.cmp .eq (.var 2) (.glob 0)) (.cons (.ret (.lst ae .nil)) .nil) .nil) (.cons (.ret (.bf ae .sorted (.attr (.idx (.attr (.var 0) 24) (.var 2)) 19))) .nil)))⟩
noncomputable def VY:Fn:=⟨2,[],3,ab,
 (.cons (.ret (.comp ae (.one 2) (.of (.attr (.idx (.attr (.var 0) 24) (.var 1)) 19)) (.call 12 (.cons (.attr (.var 0) 22) (.cons (.var 2) .nil))))) .nil)⟩
noncomputable def VZ:Ss:=(.cons (.set 1 (.bin ae .add (.bin ae .add (.bin ae .mul (.var 1) (.cst (.int 1009))) (.bin ae .mul (.cst (.int 2)) (.bf ae .abs (.bf ae .int (.var 2))))) (.bf ae .int (.cmp .lt (.var 2) (.cst (.int 0)))))) .nil)
def V0:Fn:=⟨1,[],3,ae,
 (.cons (.set 1 (.cst (.int 7))) (.cons (.cq (.one 2) (.of (.kQ (.var 0) (.cst (.int 63)))) VZ) (.cons (.ret (.lst ab (.cons (.var 1) (.cons (.cst (.int 0)) .nil)))) .nil)))⟩
noncomputable def V1:Fn:=⟨2,[],3,ae,
 (.cons (.ite (.cmp .eq (.idx (.var 0) (.cst (.int 0))) (.cst (.int 0))) (.cons (.gk (.var 0) (.cst (.int 1)) (.bin ae .add (.idx (.var 0) (.cst (.int 1))) (.cst (.int 1)))) (.cons (.gk (.var 0) (.cst (.int 0)) (.bin ae .add (.bin ae .mul (.cst (.int 1009)) (.idx (.var 0) (.cst (.int 1)))) (.cst (.int 5419)))) .nil)) .nil) (.cons (.set 2 (.bin ae .mod (.idx (.var 0) (.cst (.int 0))) (.var 1))) (.cons (.gk (.var 0) (.cst (.int 0)) (.bin ae .fdiv (.idx (.var 0) (.cst (.int 0))) (.var 1))) (.cons (.ret (.var 2)) .nil))))⟩
noncomputable def V2:Fn:=⟨2,[],2,ae,
 (.cons (.ret (.idx (.var 1) (.call 44 (.cons (.var 0) (.cons (.bf ae .len (.var 1)) .nil))))) .nil)⟩
noncomputable def V3:Ss:=(.cons (.ex (.da (.var 2) .append (.cons (.tup (.cons (.var 3) (.cons (.bf ae .tuple (.comp ae (.one 6) (.range (.call 44 (.cons (.var 0) (.cons (.cst (.int 3)) .nil)))) (.call 45 (.cons (.var 0) (.cons (.lst ae (.cons (.cst (.str [97])) (.cons (.cst (.str [98])) .nil))) .nil))))) .nil))) .nil))) .nil)
noncomputable def V4:Ss:=(.cons (.ql [3,5] (.cons (.call 45 (.cons (.var 0) (.cons (.var 1) .nil))) (.cons (.call 44 (.cons (.var 0) (.cons (.cst (.int 4)) .nil))) .nil))) (.cons (.ex (.da (.var 2) .append (.cons (.tup (.cons (.var 3) (.cons (.bf ae .tuple (.comp ae (.one 7) (.range (.var 5)) (.call 45 (.cons (.var 0) (.cons (.bin ae .add (.bin ae .add (.var 1) (.lst ae (.cons (.cst (.str [97])) (.cons (.cst (.str [98])) .nil)))) (.var 1)) .nil))))) .nil))) .nil))) .nil))
def V5:Fn:=⟨1,[],8,ae,
 (.cons (.set 1 (.kQ (.lst ae (.cons (.cst (.str [83])) (.cons (.cst (.str [84])) (.cons (.cst (.str [85])) .nil)))) (.bin ae .add (.cst (.int 1)) (.call 44 (.cons (.var 0) (.cons (.cst (.int 3)) .nil)))))) (.cons (.set 2 (.lst ab .nil)) (.cons (.cq (.one 3) (.of (.var 1)) V3) (.cons (.cq (.one 4) (.range (.bin ae .add (.cst (.int 1)) (.call 44 (.cons (.var 0) (.cons (.bin ae .sub (.cst (.int 6)) (.bf ae .len (.var 1))) .nil))))) V4) (.cons (.ret (.var 2)) .nil)))))⟩
noncomputable def V6:Ss:=(.cons (.gk (.var 1) (.idx (.var 3) (.cst (.int 0))) (.bin ae .add (.da (.var 1) .get (.cons (.idx (.var 3) (.cst (.int 0))) (.cons (.lst ae .nil) .nil))) (.lst ae (.cons (.tup (.cons (.var 2) (.cons (.idx (.var 3) (.cst (.int 1))) .nil))) .nil)))) .nil)
def V7:Fn:=⟨1,[],4,ab,
 (.cons (.set 1 (.aU ab .str .nil .nil)) (.cons (.cq (.two 2 3) (.enum (.var 0)) V6) (.cons (.ret (.var 1)) .nil)))⟩
noncomputable def V8:Ss:=(.cons (.set 9 (.kQ (.var 9) (.cst (.int (-1))))) .nil)
def Ip:Ss:=(.cons (.set 9 (.bin ae .add (.kQ (.var 6) (.cst (.int (-1)))) (.var 8))) (.cons (.mH (.and (.cmp .ne (.var 9) (.tup .nil)) (.cmp .ir (.idx (.var 9) (.cst (.int (-1)))) (.var 0))) V8) (.cons (.ite (.and (.cmp .ne (.var 9) (.tup .nil)) (.and (.cmp .le (.bf ae .len (.var 9)) (.var 1)) (.cmp .ir (.var 9) (.var 4)))) (.cons (.gk (.var 4) (.var 9) (.cst (.bool ab))) (.cons (.ex (.da (.var 3) .append (.cons (.var 9) .nil))) .nil)) .nil) .nil)))
def V9:Ss:=(.cons (.set 6 (.idx (.var 3) (.var 5))) (.cons (.cq (.two 7 8) (.hC (.idx (.var 0) (.idx (.var 6) (.cst (.int (-1)))))) Ip) (.cons (.ite (.cmp (.gt ()) (.bf ae .len (.var 3)) (.var 2)) (.cons (.ret (.cst .none)) .nil) .nil) (.cons (.set 5 (.bin ae .add (.var 5) (.cst (.int 1)))) .nil))))
def V_:Fn:=⟨3,[],10,ab,
 (.cons (.ql [3,4,5] (.cons (.lst ab (.cons (.tup (.cons (.cst (.str [36,97,99,99,101,112,116])) .nil)) .nil)) (.cons (.aU ab .strs (.cons (.tup (.cons (.cst (.str [36,97,99,99,101,112,116])) .nil)) .nil) (.cons (.cst (.bool ab)) .nil)) (.cons (.cst (.int 0)) .nil)))) (.cons (.mH (.cmp .lt (.var 5) (.bf ae .len (.var 3))) V9) (.cons (.ret (.var 3)) .nil)))⟩
noncomputable def Wa:Ss:=(.cons (.set 2 (.call 48 (.cons (.var 0) (.cons (.bin ae .add (.var 1) (.cst (.int 3))) (.cons (.cst (.int 160)) .nil))))) (.cons (.ite (.isNone ab (.var 2)) (.cons (.ret (.tup (.cons (.var 1) (.cons (.var 2) .nil)))) .nil) .nil) .nil))
def Wb:Fn:=⟨1,[],3,ab,
 (.cons (.cq (.one 1) (.of (.tup (.cons (.cst (.int 3)) (.cons (.cst (.int 2)) .nil)))) Wa) (.cons (.ret (.tup (.cons (.cst (.int 1)) (.cons (.call 48 (.cons (.var 0) (.cons (.cst (.int 4)) (.cons (.bin ae (.pow ()) (.cst (.int 10)) (.cst (.int 6))) .nil)))) .nil)))) .nil))⟩
noncomputable def Wd:Ss:=(.cons (.set 8 (.bin ae .add (.kQ (.var 4) (.cst (.int (-1)))) (.kQ (.var 6) (.var 7)))) (.cons (.ite (.cmp .le (.bf ae .len (.var 8)) (.var 2)) (.cons (.gk (.var 3) (.var 8) (.bin ae .add (.da (.var 3) .get (.cons (.var 8) (.cons (.lst ae .nil) .nil))) (.lst ae (.cons (.tup (.cons (.var 5) (.cons (.var 7) .nil))) .nil)))) .nil) .nil) .nil))
def We:Ss:=(.cons (.cq (.one 7) (.range (.bin ae .add (.bf ae .len (.var 6)) (.cst (.int 1)))) Wd) .nil)
def Wf:Ss:=(.cons (.cq (.two 5 6) (.hC (.idx (.var 0) (.idx (.var 4) (.cst (.int (-1)))))) We) .nil)
def Wg:Fn:=⟨3,[],10,ab,
 (.cons (.set 3 (.aU ab .strs .nil .nil)) (.cons (.cq (.one 4) (.of (.var 1)) Wf) (.cons (.iu 3) (.cons (.ret (.bf ae (.dict .strs) (.comp ae (.one 9) (.of (.var 3)) (.tup (.cons (.var 9) (.cons (.bf ae .sorted (.idx (.var 3) (.var 9))) .nil)))))) .nil))))⟩
noncomputable def Wh:Ss:=(.cons (.ex (.da (.var 2) .append (.cons (.tup (.cons (.idx (.attr (.var 0) 7) (.attr (.var 3) 1)) (.cons (.bf ae .tuple (.comp ae (.one 4) (.of (.attr (.var 3) 2)) (.idx (.attr (.var 0) 7) (.var 4)))) .nil))) .nil))) .nil)
def Wi:Fn:=⟨2,[],5,ab,
 (.cons (.set 2 (.lst ab .nil)) (.cons (.cq (.one 3) (.of (.attr (.var 0) 9)) Wh) (.cons (.iu 2) (.cons (.ret (.cmp .eq (.var 2) (.var 1))) .nil))))⟩
noncomputable def Wj:Fn:=⟨4,[],13,ab,
 (.cons (.set 4 (.bf ae .sorted (.comp ae (.two 7 8) (.hC (.var 3)) (.bN (.var 0) 1 7 (.cons (.var 7) (.cons (.var 8) .nil)))))) (.cons (.set 5 (.bf ae .sorted (.iQ ae (.two 9 10) (.hC (.var 3)) (.or (.cmp (.gt ()) (.var 10) (.cst (.int 0))) (.cmp .eq (.var 9) (.cst (.int 0)))) (.bN (.var 0) 1 7 (.cons (.var 9) (.cons (.var 10) .nil)))))) (.cons (.set 6 (.iQ ae (.two 11 12) (.hC (.var 3)) (.and (.cmp (.gt ()) (.var 11) (.cst (.int 0))) (.cmp .eq (.var 12) (.bf ae .len (.attr (.idx (.attr (.var 0) 9) (.var 11)) 2)))) (.var 11))) (.cons (.ite (.or (.cmp .ne (.bf ae .sorted (.attr (.var 1) 19)) (.var 4)) (.or (.cmp .ne (.bf ae .list (.attr (.var 1) 17)) (.var 5)) (.cmp .ne (.kQ (.bf ae .list (.attr (.var 1) 19)) (.bf ae .len (.var 5))) (.var 5)))) (.cons (.ret (.cst (.bool ae))) .nil) .nil) (.cons (.ret (.and (.cmp .eq (.bf ae .list (.attr (.var 1) 21)) (.var 6)) (.cmp .eq (.attr (.var 1) 18) (.ite (.cmp .ne (.var 2) (.tup .nil)) (.bN (.var 0) 1 5 (.cons (.idx (.var 2) (.cst (.int (-1)))) .nil)) (.cst (.int (-1))))))) .nil)))))⟩
noncomputable def B1:Ss:=(.cons (.set 11 (.bN (.var 1) 4 26 (.cons (.var 8) (.cons (.var 9) .nil)))) (.cons (.ite (.cmp .ne (.cmp .ge (.var 11) (.cst (.int 0))) (.cmp .isIn (.bin ae .add (.var 7) (.tup (.cons (.var 10) .nil))) (.var 2))) (.cons (.ret (.cst .none)) .nil) .nil) (.cons (.ite (.cmp .ge (.var 11) (.cst (.int 0))) (.cons (.ex (.da (.var 4) .append (.cons (.tup (.cons (.bin ae .add (.var 7) (.tup (.cons (.var 10) .nil))) (.cons (.var 11) .nil))) .nil))) .nil) .nil) .nil)))
def Wk:Ss:=(.cons (.mG [7,8] (.idx (.var 4) (.var 6))) (.cons (.ite (.cmp .eq (.var 8) (.bf ae .len (.var 5))) (.cons (.ite (.not (.call 52 (.cons (.var 0) (.cons (.idx (.attr (.var 1) 24) (.var 8)) (.cons (.var 7) (.cons (.idx (.var 2) (.var 7)) .nil)))))) (.cons (.ret (.cst .none)) .nil) .nil) (.cons (.ex (.da (.var 5) .append (.cons (.var 7) .nil))) .nil)) .nil) (.cons (.ite (.or (.cmp (.gt ()) (.var 8) (.bf ae .len (.var 5))) (.cmp .ne (.idx (.var 2) (.idx (.var 5) (.var 8))) (.idx (.var 2) (.var 7)))) (.cons (.ret (.cst .none)) .nil) .nil) (.cons (.ite (.cmp .lt (.bf ae .len (.var 7)) (.var 3)) (.cons (.cq (.two 9 10) (.enum (.attr (.var 0) 7)) B1) .nil) .nil) (.cons (.set 6 (.bin ae .add (.var 6) (.cst (.int 1)))) .nil)))))
def Wl:Fn:=⟨4,[],12,ab,
 (.cons (.ql [4,5,6] (.cons (.lst ab (.cons (.tup (.cons (.tup .nil) (.cons (.cst (.int 0)) .nil))) .nil)) (.cons (.lst ab .nil) (.cons (.cst (.int 0)) .nil)))) (.cons (.mH (.cmp .lt (.var 6) (.bf ae .len (.var 4))) Wk) (.cons (.iu 4) (.cons (.iu 5) (.cons (.ret (.tup (.cons (.var 4) (.cons (.var 5) .nil)))) .nil)))))⟩
noncomputable def Wm:Ss:=(.cons (.ite (.or (.isNone ae (.var 5)) (.cmp .ne (.bN (.var 0) 4 27 (.cons (.cst (.int 0)) (.cons (.var 5) .nil))) (.var 4))) (.cons (.ret (.cst (.bool ae))) .nil) .nil) (.cons (.ite (.ite (.cmp .lt (.var 4) (.bf ae .len (.var 1))) (.cmp .ne (.var 5) (.idx (.var 1) (.var 4))) (.cmp .le (.bf ae .len (.var 5)) (.var 2))) (.cons (.ret (.cst (.bool ae))) .nil) .nil) .nil))
def Wn:Fn:=⟨3,[],6,ab,
 (.cons (.set 3 (.call 38 (.cons (.var 0) (.cons (.cst (.int 0)) .nil)))) (.cons (.ite (.cmp .ne (.bf ae .len (.var 3)) (.bf ae .len (.attr (.var 0) 24))) (.cons (.ret (.cst (.bool ae))) .nil) .nil) (.cons (.cq (.two 4 5) (.enum (.var 3)) Wm) (.cons (.ret (.cmp .eq (.call 39 (.cons (.var 0) (.cons (.bin ae .sub (.bf ae .len (.var 3)) (.cst (.int 1))) .nil))) (.idx (.var 3) (.cst (.int (-1)))))) .nil))))⟩
noncomputable def Wo:Ss:=(.cons (.ex (.da (.var 3) .append (.cons (.idx (.attr (.idx (.attr (.var 0) 24) (.idx (.var 3) (.cst (.int (-1))))) 20) (.var 4)) .nil))) .nil)
noncomputable def Wq:Ss:=(.cons (.ex (.da (.idx (.var 5) (.var 7)) .append (.cons (.attr (.var 6) 0) .nil))) .nil)
def Wr:Ss:=(.cons (.cq (.one 7) (.of (.bf ae (.dict .int) (.comp ae (.one 12) (.of (.attr (.var 6) 20)) (.tup (.cons (.idx (.attr (.var 6) 20) (.var 12)) (.cons (.cst (.bool ab)) .nil)))))) Wq) .nil)
noncomputable def Ws:Ss:=(.cons (.set 9 (.iQ ae (.one 14) (.range (.bf ae .len (.var 5))) (.cmp .ne (.iQ ae (.one 15) (.of (.var 9)) (.cmp .isIn (.var 14) (.idx (.var 5) (.var 15))) (.var 15)) (.lst ae .nil)) (.var 14))) .nil)
def Wt:Fn:=⟨3,[],16,ab,
 (.cons (.set 3 (.lst ab (.cons (.cst (.int 0)) .nil))) (.cons (.cq (.one 4) (.of (.var 1)) Wo) (.cons (.iu 3) (.cons (.ite (.or (.cmp .ne (.idx (.var 3) (.cst (.int (-1)))) (.var 2)) (.or (.cmp .ne (.bN (.var 0) 4 28 (.cons (.cst (.int 0)) (.cons (.var 1) .nil))) (.var 3)) (.cmp .ne (.bN (.var 0) 4 28 (.cons (.cst (.int 0)) (.cons (.bin ae .add (.var 1) (.lst ae (.cons (.cst (.int 1)) (.cons (.cst (.int 1)) .nil)))) .nil))) (.var 3)))) (.cons (.ret (.cst (.bool ae))) .nil) .nil) (.cons (.set 5 (.comp ab (.one 11) (.of (.attr (.var 0) 24)) (.lst ab .nil))) (.cons (.cq (.one 6) (.of (.attr (.var 0) 24)) Wr) (.cons (.set 8 (.bf ae .sum (.comp ae (.one 13) (.of (.attr (.var 0) 24)) (.bf ae .len (.attr (.var 13) 20))))) (.cons (.iu 5) (.cons (.ite (.or (.cmp .ne (.call 36 (.cons (.var 0) .nil)) (.var 5)) (.cmp .ne (.bN (.var 0) 4 30 .nil) (.var 8))) (.cons (.ret (.cst (.bool ae))) .nil) .nil) (.cons (.set 9 (.lst ae (.cons (.var 2) .nil))) (.cons (.cq (.one 10) (.range (.bf ae .len (.var 1))) Ws) (.cons (.ret (.and (.cmp .eq (.call 37 (.cons (.var 0) (.cons (.var 2) (.cons (.bf ae .len (.var 1)) .nil)))) (.var 9)) (.cmp .isIn (.cst (.int 0)) (.var 9)))) .nil))))))))))))⟩
noncomputable def Wu:Fn:=⟨3,[],5,ab,
 (.cons (.mG [3,4] (.idx (.var 0) (.var 1))) (.cons (.ret (.bin ae .add (.bin ae .add (.var 3) (.cst (.str [32,58,32]))) (.da (.cst (.str [32])) .join (.cons (.bin ae .add (.bin ae .add (.kQ (.var 4) (.var 2)) (.tup (.cons (.cst (.str [46])) .nil))) (.vw (.var 4) (.var 2))) .nil)))) .nil))⟩
noncomputable def Wv:Fn:=⟨1,[],29,ab,
 (.cons (.set 1 (.call 46 (.cons (.call 43 (.cons (.var 0) .nil)) .nil))) (.cons (.iu 1) (.cons (.set 2 (.bin ae .add (.lst ae (.cons (.tup (.cons (.cst (.str [36,97,99,99,101,112,116])) (.cons (.tup (.cons (.cst (.str [83])) (.cons (.cst (.str [36,101,110,100])) .nil))) .nil))) .nil)) (.var 1))) (.cons (.set 3 (.call 14 (.cons (.comp ae (.two 19 20) (.hC (.var 1)) (.tup (.cons (.var 19) (.cons (.bf ae .list (.var 20)) .nil)))) .nil))) (.cons (.ite (.not (.call 51 (.cons (.var 3) (.cons (.var 2) .nil)))) (.cons (.ret (.cst (.bool ae))) .nil) .nil) (.cons (.set 4 (.call 47 (.cons (.var 2) .nil))) (.cons (.mG [5,6] (.call 49 (.cons (.var 4) .nil))) (.cons (.ql [7,8] (.cons (.call 50 (.cons (.var 4) (.cons (.var 6) (.cons (.var 5) .nil)))) (.cons (.call 35 (.cons (.var 3) .nil)) .nil))) (.cons (.set 9 (.call 53 (.cons (.var 3) (.cons (.var 8) (.cons (.var 7) (.cons (.var 5) .nil)))))) (.cons (.ite (.or (.isNone ae (.var 9)) (.cmp .ne (.bf ae .len (.idx (.var 9) (.cst (.int 0)))) (.bf ae .len (.var 7)))) (.cons (.ret (.cst (.bool ae))) .nil) .nil) (.cons (.mG [10,11] (.var 9)) (.cons (.set 12 (.bf ae .sorted (.comp ae (.one 21) (.of (.var 11)) (.idx (.var 7) (.var 21))))) (.cons (.set 13 (.comp ae (.one 22) (.of (.var 11)) (.bf ae .tuple (.comp ae (.one 23) (.of (.var 22)) (.bN (.var 3) 1 5 (.cons (.var 23) .nil)))))) (.cons (.ite (.or (.cmp .ne (.iQ ae (.one 24) (.rV (.cst (.int 1)) (.bf ae .len (.var 12))) (.cmp .eq (.idx (.var 12) (.bin ae .sub (.var 24) (.cst (.int 1)))) (.idx (.var 12) (.var 24))) (.var 24)) (.lst ae .nil)) (.not (.call 54 (.cons (.var 8) (.cons (.var 13) (.cons (.var 5) .nil)))))) (.cons (.ret (.cst (.bool ae))) .nil) .nil) (.cons (.mG [14,15] (.idx (.var 10) (.cst (.int (-1))))) (.cons (.set 16 (.comp ae (.one 25) (.of (.var 14)) (.bN (.var 3) 1 5 (.cons (.var 25) .nil)))) (.cons (.set 17 (.bf ae .sorted (.comp ae (.two 26 27) (.hC (.idx (.var 7) (.var 14))) (.bN (.var 3) 1 7 (.cons (.var 26) (.cons (.var 27) .nil)))))) (.cons (.ite (.or (.cmp .ne (.call 41 (.cons (.var 8) (.cons (.var 16) .nil))) (.var 17)) (.or (.not (.call 40 (.cons (.var 8) (.cons (.var 16) .nil)))) (.call 40 (.cons (.var 8) (.cons (.bin ae .add (.var 16) (.lst ae (.cons (.cst (.int 1)) .nil))) .nil))))) (.cons (.ret (.cst (.bool ae))) .nil) .nil) (.cons (.ite (.cmp .ne (.call 41 (.cons (.var 8) (.cons (.bin ae .add (.var 16) (.lst ae (.cons (.cst (.int 1)) (.cons (.cst (.int 0)) .nil)))) .nil))) (.lst ae .nil)) (.cons (.ret (.cst (.bool ae))) .nil) .nil) (.cons (.ite (.or (.cmp .ne (.bN (.var 8) 4 29 .nil) (.bN (.var 8) 4 27 (.cons (.cst (.int 0)) (.cons (.lst ae (.cons (.bN (.var 3) 1 5 (.cons (.cst (.str [83])) .nil)) (.cons (.cst (.int 0)) .nil))) .nil)))) (.not (.call 55 (.cons (.var 8) (.cons (.var 16) (.cons (.var 15) .nil)))))) (.cons (.ret (.cst (.bool ae))) .nil) .nil) (.cons (.set 18 (.comp ae (.one 28) (.of (.attr (.idx (.attr (.var 8) 24) (.var 15)) 19)) (.call 56 (.cons (.var 2) (.cons (.bN (.var 3) 1 8 (.cons (.var 28) .nil)) (.cons (.bN (.var 3) 1 9 (.cons (.var 28) .nil)) .nil)))))) (.cons (.ret (.and (.cmp .eq (.call 42 (.cons (.var 8) (.cons (.var 15) .nil))) (.var 18)) (.cmp .eq (.call 21 (.cons (.var 3) (.cons (.attr (.idx (.attr (.var 8) 24) (.var 15)) 17) .nil))) (.attr (.idx (.attr (.var 8) 24) (.var 15)) 19)))) .nil))))))))))))))))))))))⟩
def prog:Prog where
 fns:= [UT,UW,UX,UZ,U0,U1,U2,U3,U4,U5,U6,U7,U8,U_,Vb,Vc,Ve,Vg,Vi,Vl,Vm,Vn,Vo,Vr,Vt,Vu,Vv,Vx,Vz,VA,VB,VC,VE,VG,VI,VJ,VM,VS,VU,VV,VW,VX,VY,V0,V1,V2,V5,V7,V_,Wb,Wg,Wi,Wj,Wl,Wn,Wt,Wu,Wv]
 init:= [2,3,15,17,25,31]
 vx:= [ab,ab,ae,ab,ae,ae]
 fk:= [.int (-1),.int 0,.tup [.str [36,101,110,100],.str [101,114,114,111,114],.str [36,117,110,100,101,102,105,110,101,100]]]
section
open PySem PySem.W PySem.Calls PyProof.Rows
noncomputable def one {α:Type}:(l:List α)->Option {a:α//l= [a]}
 | [a]=>S ⟨a,rfl⟩
 |_=>J
noncomputable def nl {a:Type}:(l:List a)->Option (PLift (l= []))
 | []=>S ⟨rfl⟩
 |_=>J
noncomputable def n_ (e:aI):Option {x:Str×Pos//e= .Name x.1 x.2}:=if h:e.ctorIdx=23 then S (PySem.Expr.Name.elim e h (λa b=>⟨(a,b),rfl⟩))else J
noncomputable def B2 (e:aI):Option {x:aI×Str×Pos//e= .Attribute x.1 x.2.1 x.2.2}:=if h:e.ctorIdx=20 then S (PySem.Expr.Attribute.elim e h (λa b c=>⟨(a,b,c),rfl⟩))else J
noncomputable def B3 (e:aI):Option {x:aI×aI×Pos//e= .Subscript x.1 x.2.1 x.2.2}:=if h:e.ctorIdx=21 then S (PySem.Expr.Subscript.elim e h (λa b c=>⟨(a,b,c),rfl⟩))else J
noncomputable def Ww (e:aI):Option {x:Option aI×Option aI×Option aI×Pos//e= .Slice x.1 x.2.1 x.2.2.1 x.2.2.2}:=if h:e.ctorIdx=26 then S (PySem.Expr.Slice.elim e h (λa b c d=>⟨(a,b,c,d),rfl⟩))else J
noncomputable def Wx (e:aI):Option {x:aI×PySem.Operator×aI×Pos//e= .BinOp x.1 x.2.1 x.2.2.1 x.2.2.2}:=if h:e.ctorIdx=2 then S (PySem.Expr.BinOp.elim e h (λa b c d=>⟨(a,b,c,d),rfl⟩))else J
noncomputable def Wy (e:aI):Option {x:aI×List PySem.CmpOp×List aI×Pos//e= .Compare x.1 x.2.1 x.2.2.1 x.2.2.2}:=if h:e.ctorIdx=15 then S (PySem.Expr.Compare.elim e h (λa b c d=>⟨(a,b,c,d),rfl⟩))else J
noncomputable def qr (e:aI):Option {x:PySem.Const×Nat×Pos//e= .Constant x.1 x.2.1 x.2.2}:=if h:e.ctorIdx=19 then S (PySem.Expr.Constant.elim e h (λa b c=>⟨(a,b,c),rfl⟩))else J
noncomputable def vBool (e:aI):Option {x:PySem.BoolOp×List aI×Pos//e= .BoolOp x.1 x.2.1 x.2.2}:=if h:e.ctorIdx=0 then S (PySem.Expr.BoolOp.elim e h (λa b c=>⟨(a,b,c),rfl⟩))else J
noncomputable def Iq (e:aI):Option {x:PySem.UnaryOp×aI×Pos//e= .UnaryOp x.1 x.2.1 x.2.2}:=if h:e.ctorIdx=3 then S (PySem.Expr.UnaryOp.elim e h (λa b c=>⟨(a,b,c),rfl⟩))else J
noncomputable def Ir (e:aI):Option {x:aI×aI×aI×Pos//e= .IfExp x.1 x.2.1 x.2.2.1 x.2.2.2}:=if h:e.ctorIdx=5 then S (PySem.Expr.IfExp.elim e h (λa b c d=>⟨(a,b,c,d),rfl⟩))else J
noncomputable def qs (e:aI):Option {x:List aI×Nat×Pos//e= .Tuple x.1 x.2.1 x.2.2}:=if h:e.ctorIdx=25 then S (PySem.Expr.Tuple.elim e h (λa b c=>⟨(a,b,c),rfl⟩))else J
noncomputable def Wz (e:aI):Option {x:List aI×Pos//e= .List x.1 x.2}:=if h:e.ctorIdx=24 then S (PySem.Expr.List.elim e h (λa b=>⟨(a,b),rfl⟩))else J
noncomputable def Iu (e:aI):Option {x:List (Option aI)×List aI×Pos//e= .Dict x.1 x.2.1 x.2.2}:=if h:e.ctorIdx=6 then S (PySem.Expr.Dict.elim e h (λa b c=>⟨(a,b,c),rfl⟩))else J
noncomputable def Iv (e:aI):Option {x:aI×List PySem.Comprehension×PySem.Scope×Pos//e= .ListComp x.1 x.2.1 x.2.2.1 x.2.2.2}:=if h:e.ctorIdx=8 then S (PySem.Expr.ListComp.elim e h (λa b c d=>⟨(a,b,c,d),rfl⟩))else J
noncomputable def B4 (e:aI):Option {x:aI×List aI×List PySem.Keyword×Pos//e= .Call x.1 x.2.1 x.2.2.1 x.2.2.2}:=if h:e.ctorIdx=16 then S (PySem.Expr.Call.elim e h (λa b c d=>⟨(a,b,c,d),rfl⟩))else J
noncomputable def Iw (c:PySem.Const):Option (PLift (c= .none)):=if h:c.ctorIdx=0 then S (PySem.Const.none.elim c h ⟨rfl⟩)else J
noncomputable def cStr (c:PySem.Const):Option {s:Str//c= .str s}:=if h:c.ctorIdx=5 then S (PySem.Const.str.elim c h (λa=>⟨a,rfl⟩))else J
noncomputable def cBool (c:PySem.Const):Option {s:Bool//c= .bool s}:=if h:c.ctorIdx=1 then S (PySem.Const.bool.elim c h (λa=>⟨a,rfl⟩))else J
noncomputable def cInt (c:PySem.Const):Option {i:Int//c= .int i}:=if h:c.ctorIdx=2 then S (PySem.Const.int.elim c h (λa=>⟨a,rfl⟩))else J
noncomputable def WA (s:PySem.Stmt):Option {x:List aI×aI×Pos//s= .Assign x.1 x.2.1 x.2.2}:=if h:s.ctorIdx=5 then S (PySem.Stmt.Assign.elim s h (λa b c=>⟨(a,b,c),rfl⟩))else J
noncomputable def WB (s:PySem.Stmt):Option {x:aI×Pos//s= .Expr x.1 x.2}:=if h:s.ctorIdx=24 then S (PySem.Stmt.Expr.elim s h (λa b=>⟨(a,b),rfl⟩))else J
noncomputable def WC (s:PySem.Stmt):Option {x:aI×List PySem.Stmt×List PySem.Stmt×Pos//s= .If x.1 x.2.1 x.2.2.1 x.2.2.2}:=if h:s.ctorIdx=12 then S (PySem.Stmt.If.elim s h (λa b c d=>⟨(a,b,c,d),rfl⟩))else J
noncomputable def WD (s:PySem.Stmt):Option {x:aI×aI×List PySem.Stmt×List PySem.Stmt×Pos//s= .For x.1 x.2.1 x.2.2.1 x.2.2.2.1 x.2.2.2.2}:=if h:s.ctorIdx=9 then S (PySem.Stmt.For.elim s h (λa b c d f=>⟨(a,b,c,d,f),rfl⟩))else J
noncomputable def WE (s:PySem.Stmt):Option {x:aI×List PySem.Stmt×List PySem.Stmt×Pos//s= .While x.1 x.2.1 x.2.2.1 x.2.2.2}:=if h:s.ctorIdx=11 then S (PySem.Stmt.While.elim s h (λa b c d=>⟨(a,b,c,d),rfl⟩))else J
noncomputable def WG (s:PySem.Stmt):Option {x:Option aI×Pos//s= .Return x.1 x.2}:=if h:s.ctorIdx=3 then S (PySem.Stmt.Return.elim s h (λa b=>⟨(a,b),rfl⟩))else J
def vF (e:aI):Option Str:=(n_ e).map λx=>x.1.1
theorem WH (h:vF e=S x):∃p,e= .Name x p:=by
 refine gX h λO _ q=> ?_;obtain ⟨a,e⟩:=O;obtain ⟨y,p⟩:=a
 cases q
 exact⟨p,e⟩
noncomputable abbrev upd (s:PySem.Shared)(h:PySem.Heap)(t:Nat):PySem.Shared:= {s with heap:=h,toks:=t}
structure WI (K:Frag)(C:aO):Prop where
 ga:findIn K (.ref C) "__getattribute__" =S (S (.builtin "object.__getattribute__"))
 gx:findIn K (.ref C) "__getattr__" =S J
 sa:findIn K (.ref C) "__setattr__" =S (S (.builtin "object.__setattr__"))
 over:plainOver K C=ab
 dict:(clsIn K C).any (·.hasDict)=ab
 make:makesIn K C=ab
noncomputable def qt:List Str:= ["len","list","tuple","sorted","sum","dict","abs","int","range","enumerate"]
set_option genInjectivity false in
structure CX where
 prog:Program
 w:World
 K:Frag
 h₀:Heap
 p:Program
 loose:List Str
 mg:Str->Option Value
 mb:Str->Option Value
 T:TopRead p loose mg mb h₀
 X:K.In h₀
 cls:Nat->aO
 fld:Nat->Str
 B5:∀f g,fld f=fld g->f=g
 yI:∀c,c<6->WI K (cls c)
 B6:∀c f,hE c f=ab->findIn K (.ref (cls c)) (fld f)=S J
 Iy:∀x∈qt,nsIn K mainGlobals x=S J
noncomputable abbrev CX.M (C:CX):Model:=model C.prog C.w
noncomputable def intOf:V->Int
 | .int i=>i
 |_=>0
noncomputable def B7:V->Str
 | .str s=>⟨s.toArray⟩
 |_=>⟨#[]⟩
def kh (C:CX):KT->V->Int
 | .int,a=>(intKind C.prog C.w).hash (intOf a)
 | .str,a=>(strKind C.prog C.w).hash (B7 a)
 | .ints _,.tup xs=>(tupleKind (intKind C.prog C.w)).hash (xs.map intOf)
 | .strs,.tup xs=>(tupleKind (strKind C.prog C.w)).hash (xs.map B7)
 |_,_=>0
mutual
def VR (C:CX)(h:Heap)(N:aO->Prop):V->Value->Prop
 | .none,v=>v= .none
 | .bool b,v=>v= .bool b
 | .int i,v=>∃t,v= .int i t
 | .str s,v=>∃t,v= .str ⟨s.toArray⟩ t
 | .tup xs,v=>∃a n k,v= .ref a/\¬N a/\h.get? a=S (seqObj "tuple" k n)/\bI C h N xs k.toList
 | .lst xs,v=>∃a n k,v= .ref a/\¬N a/\h.get? a=S (seqObj "list" k n)/\bI C h N xs k.toList
 | .aU t o,v=>∃a n es,v= .ref a/\¬N a/\(a==sysModules)=ae/\h.get? a=S (dictOf es n)/\iT C h N t o es/\(o.map (·.1)).Nodup
 | .obj c q,v=>∃a d n es,v= .ref a/\¬N a/\¬N d/\h.get? a=S (instObj (C.cls c) d)/\h.get? d=S (dictOf es n)/\oe C h N q es/\(q.map (·.1)).Nodup
def bI (C:CX)(h:Heap)(N:aO->Prop):List V->List Value->Prop
 | [],a=>a= []
 |x::xs,a=>∃v r,a=v::r/\VR C h N x v/\bI C h N xs r
def iT (C:CX)(h:Heap)(N:aO->Prop)(t:KT):List (V×V)->List DictEntry->Prop
 | [],es=>es= []
 | (k,x)::r,es=>∃e a,es=e::a/\dR t k=ab/\e.hash=kh C t k/\VR C h N k e.key/\VR C h N x e.val/\iT C h N t r a
def oe (C:CX)(h:Heap)(N:aO->Prop):List (Nat×V)->List DictEntry->Prop
 | [],es=>es= []
 | (f,x)::r,es=>∃e a b,es=e::a/\e.key= .str (C.fld f) b/\VR C h N x e.val/\oe C h N r a
end
theorem bI.length:∀ {xs:List V} {vs:List _},bI C h N xs vs->xs.length=vs.length:=by
 intro a
 induction a with
 |nil=>
  intro vs e
  cases e;rfl
 |cons x xs b=>
  intro vs e
  refine bo e λv r O _ hr=> ?_;clear e;subst O
  simp[b hr]
structure Kept (h h':Heap)(N N':aO->Prop):Prop where
 get:∀b o,h.get? b=S o->¬N b->h'.get? b=S o
 low:∀b o,h.get? b=S o->N' b->N b
theorem Kept.refl (h)(N):Kept h h N N:=⟨λ_ _ e _=>e,λ_ _ _ n=>n⟩
theorem Kept.trans {N k r}(a:Kept h h' N k)(b:Kept h' u k r)(ha:∀c o,h.get? c=S o->¬N c->¬k c):Kept h u N r:=
 ⟨λc o e n=>b.get c o (a.get c o e n) (ha c o e n),λc o e n=>by
  by_cases q:N c
  . exact q
  exact a.low c o e (b.low c o (a.get c o e q) n)⟩
variable {C:CX} {h h':Heap} {N N':aO->Prop}
mutual
theorem VR.mono (k:Kept h h' N N'):∀ {x:V} {v:Value},VR C h N x v->VR C h' N' x v
 | .none,_,e=>e
 | .bool _,_,e=>e
 | .int _,_,e=>e
 | .str _,_,e=>e
 | .tup xs,v,e=>by
  ((refine bU e λa n r O hn b o=> ?_;clear e);obtain rfl:=O)
  exact⟨a,n,r,rfl,λq=>hn (k.low _ _ b q),k.get _ _ b hn,bI.mono k o⟩
 | .lst xs,v,e=>by
  ((refine bU e λa n r O hn b o=> ?_;clear e);obtain rfl:=O)
  exact⟨a,n,r,rfl,λq=>hn (k.low _ _ b q),k.get _ _ b hn,bI.mono k o⟩
 | .aU t G,v,e=>by
  ((refine nZ e λa n es O hn D b o nd=> ?_;clear e);obtain rfl:=O)
  exact⟨a,n,es,rfl,λq=>hn (k.low _ _ b q),D,k.get _ _ b hn,iT.mono k o,nd⟩
 | .obj c H,v,e=>by
  ((refine HA e λa d n es O hn u b y o nd=> ?_;clear e);obtain rfl:=O)
  exact⟨a,d,n,es,rfl,λq=>hn (k.low _ _ b q),λq=>u (k.low _ _ y q),k.get _ _ b hn,k.get _ _ y u,oe.mono k o,nd⟩
theorem bI.mono (k:Kept h h' N N'):∀ {xs:List V} {a:List Value},bI C h N xs a->bI C h' N' xs a
 | [],_,e=>e
 |x::xs,a,e=>by
  ((refine bo e λv r O b hr=> ?_;clear e);obtain rfl:=O)
  exact⟨v,r,rfl,VR.mono k b,bI.mono k hr⟩
theorem iT.mono (k:Kept h h' N N'){t:KT}:∀ {b:List (V×V)} {es:List DictEntry},iT C h N t b es->iT C h' N' t b es
 | [],_,e=>e
 | (a,x)::r,es,e=>by
  (revert e;intro O;refine kP O λe c o q u y D G=> ?_;clear O;obtain rfl:=o)
  exact⟨e,c,rfl,q,u,VR.mono k y,VR.mono k D,iT.mono k G⟩
theorem oe.mono (k:Kept h h' N N'):∀ {b:List (Nat×V)} {es:List DictEntry},oe C h N b es->oe C h' N' b es
 | [],_,e=>e
 | (a,x)::r,es,e=>by
  (revert e;intro O;refine bU O λe c o q u y D=> ?_;clear O;obtain rfl:=q)
  exact⟨e,c,o,rfl,u,VR.mono k y,oe.mono k D⟩
end
abbrev Lay:=List (aO×aO)
noncomputable def Cell.isDead:Cell->Bool
 | .dead=>ab
 |_=>ae
def own (ι:Lay)(σ:Hp)(b:aO):Prop:=∃(n:Nat) (p:aO×aO) (c:Cell),ι[n]?=S p/\σ[n]?=S c/\c.isDead=ae/\(b=p.1\/b=p.2)
def NN (F:aO->Prop)(ι:Lay)(σ:Hp)(b:aO):Prop:=F b\/own ι σ b
def XR (C:CX)(h:Heap)(N:aO->Prop)(ι:Lay):X->Value->Prop
 | .v a,v=>VR C h N a v
 | .ref n,v=>∃p,ι[n]?=S p/\v= .ref p.1
def bJ (C:CX)(h:Heap)(N:aO->Prop)(ι:Lay):List X->List Value->Prop
 | [],a=>a= []
 |x::xs,a=>∃v r,a=v::r/\XR C h N ι x v/\bJ C h N ι xs r
def fX (C:CX)(h:Heap)(N:aO->Prop)(ι:Lay)(t:KT):List (V×X)->List DictEntry->Prop
 | [],es=>es= []
 | (k,x)::r,es=>∃e a,es=e::a/\dR t k=ab/\e.hash=kh C t k/\VR C h N k e.key/\XR C h N ι x e.val/\fX C h N ι t r a
def g4 (C:CX)(h:Heap)(N:aO->Prop)(ι:Lay):List (Nat×X)->List DictEntry->Prop
 | [],es=>es= []
 | (f,x)::r,es=>∃e a b,es=e::a/\e.key= .str (C.fld f) b/\XR C h N ι x e.val/\g4 C h N ι r a
theorem XR.mono {h c}{N o}{ι r}(k:Kept h c N o)(e:∀(n:Nat) p,ι[n]?=S p->r[n]?=S p):∀ {x:X} {v:Value},XR C h N ι x v->XR C c o r x v
 | .v _,_,q=>VR.mono k q
 | .ref n,_,⟨p,a,b⟩=>⟨p,e n p a,b⟩
theorem bJ.mono {h c}{N o}{ι u}(k:Kept h c N o)(e:∀(n:Nat) p,ι[n]?=S p->u[n]?=S p):∀ {xs:List X} {x:List _},bJ C h N ι xs x->bJ C c o u xs x:=by
 intro y
 induction y with
 |nil=>
  intro _ q
  exact q
 |cons _ G D=>
  intro _ O;exact bo O λv r q a b=>⟨v,r,q,a.mono k e,D b⟩
theorem fX.mono {h o}{N u}{ι x}(k:Kept h o N u)(e:∀(n:Nat) p,ι[n]?=S p->x[n]?=S p){t}:∀ {xs:List _} {y:List _},fX C h N ι t xs y->fX C o u x t xs y:=by
 intro D
 induction D with
 |nil=>
  intro _ q
  exact q
 |cons H I G=>
  intro _ O;exact kP O λv r q a b c d f=>⟨v,r,q,a,b,c.mono k,d.mono k e,G f⟩
theorem g4.mono {h o}{N u}{ι x}(k:Kept h o N u)(e:∀(n:Nat) p,ι[n]?=S p->x[n]?=S p):∀ {xs:List _} {y:List _},g4 C h N ι xs y->g4 C o u x xs y:=by
 intro D
 induction D with
 |nil=>
  intro _ q
  exact q
 |cons I L G=>
  intro _ O;exact bU O λv r H q a b c=>⟨v,r,H,q,a,b.mono k e,G c⟩
theorem bJ.length:∀ {xs:List X} {vs:List _},bJ C h N ι xs vs->xs.length=vs.length:=by
 intro a
 induction a with
 |nil=>
  intro _ e
  cases e;rfl
 |cons _ c b=>
  intro _ O;refine bo O λ_ _ e _ hr=> ?_;clear O
  subst e;simp[b hr]
def tX (C:CX)(h:Heap)(N:aO->Prop)(ι:Lay)(p:aO×aO):Cell->Prop
 | .dead=>True
 | .lst xs=>p.2=p.1/\∃n a,h.get? p.1=S (seqObj "list" a n)/\bJ C h N ι xs a.toList
 | .aU t b=>p.2=p.1/\(p.1==sysModules)=ae/\∃n es,h.get? p.1=S (dictOf es n)/\fX C h N ι t b es/\(b.map (·.1)).Nodup
 | .obj c k=>p.2≠p.1/\h.get? p.1=S (instObj (C.cls c) p.2)/\∃n es,h.get? p.2=S (dictOf es n)/\g4 C h N ι k es/\(k.map (·.1)).Nodup
structure aK (C:CX)(F:aO->Prop)(ι:Lay)(σ:Hp)(h:Heap):Prop where
 len:ι.length=σ.length
 base:∀b o,C.h₀.get? b=S o->h.get? b=S o
 cells:∀(n:Nat) p c,ι[n]?=S p->σ[n]?=S c->tX C h (NN F ι σ) ι p c
 apart:∀(n m:Nat) p q c d,ι[n]?=S p->ι[m]?=S q->σ[n]?=S c->σ[m]?=S d->c.isDead=ae->d.isDead=ae->n≠m->
  p.1≠q.1/\p.1≠q.2/\p.2≠q.1/\p.2≠q.2
 fresh:∀b,own ι σ b->C.h₀.get? b=J/\¬F b
 frames:∀b,F b->C.h₀.get? b=J/\∃o,h.get? b=S o
structure Step (C:CX)(F:aO->Prop)(ι:Lay)(σ:Hp)(h:Heap)(ag:Lay)(af:Hp)(h':Heap):Prop where
 inv:aK C F ag af h'
 keep:∀b o,h.get? b=S o->¬own ι σ b->h'.get? b=S o
 ext:∀(n:Nat) p,ι[n]?=S p->ag[n]?=S p
 new:∀b o,h.get? b=S o->own ag af b->own ι σ b
variable {F:aO->Prop} {ι ag gK:Lay} {σ af gp:Hp} {ky:Heap}
theorem Step.refl (i:aK C F ι σ h):Step C F ι σ h ι σ h:=⟨i,λ_ _ e _=>e,λ_ _ e=>e,λ_ _ _ q=>q⟩
theorem Step.trans (a:Step C F ι σ h ag af h')(b:Step C F ag af h' gK gp ky):Step C F ι σ h gK gp ky:=
 ⟨b.inv,λc o e n=>b.keep c o (a.keep c o e n) λq=>n (a.new c o e q),λn p e=>b.ext n p (a.ext n p e),λc o e q=>by
  by_cases n:own ι σ c
  . exact n
  exact a.new c o e (b.new c o (a.keep c o e n) q)⟩
theorem Step.kept (a:Step C F ι σ h ag af h'):Kept h h' (NN F ι σ) (NN F ag af):=
 ⟨λb o e n=>a.keep b o e λq=>n (.inr q),λb o e n=>n.elim .inl λq=> .inr (a.new b o e q)⟩
theorem Step.xr (a:Step C F ι σ h ag af h'){x}{v}(q:XR C h (NN F ι σ) ι x v):XR C h' (NN F ag af) ag x v:=q.mono a.kept a.ext
theorem Step.fm (a:Step C F ι σ h ag af h'){x}{v}(q:bJ C h (NN F ι σ) ι x v):bJ C h' (NN F ag af) ag x v:=q.mono a.kept a.ext
theorem Step.vr (a:Step C F ι σ h ag af h'){x}{v}(q:VR C h (NN F ι σ) x v):VR C h' (NN F ag af) x v:=q.mono a.kept
theorem Step.kz (a:Step C F ι σ h ag af h'){x}{v}(q:bI C h (NN F ι σ) x v):bI C h' (NN F ag af) x v:=q.mono a.kept
def PV (C:CX)(F:aO->Prop)(ι:Lay)(σ:Hp)(s:aT)(x:X)(c:Hp)(Q:Value->aT->Prop):Prop:=∀v a k b,Step C F ι σ s.heap b c a->XR C a (NN F b c) b x v->Q v (upd s a k)
def EV (C:CX)(A:Around)(F:aO->Prop)(ι:Lay)(σ:Hp)(s:aT)(t:Sem Value)(x:X)(a:Hp):Prop:=
 ∀(Q:Value->aT->Prop) (E:Value->aT->Prop),
  PV C F ι σ s x a Q->wpAny C.M A t Q E s
theorem yJ {Q:c->aT->Prop}{E}{s}(h:∀a b,(∀v s,Q v s->a v s)->wpAny M A t a b s):wpAny M A t Q E s:=h Q E λ_ _ h=>h
structure cQ (F:aO->Prop)(env:PySem.Env):Prop where
 kind:env.scope.kind= .function
 glob:env.globals=mainGlobals
 blt:env.builtins=builtinsNs
 loc:F env.locals
 mP:∀x c,env.cells.lookup x=S c->F c
 apart:∀x y c,env.cells.lookup x=S c->env.cells.lookup y=S c->x=y
 B8:∀x c,env.cells.lookup x=S c->c≠env.locals
abbrev SL:=List (Str×Nat)
structure cx (C:CX)(h:Heap)(N:aO->Prop)(ι:Lay)(env:PySem.Env)(sl:SL)(ρ:Env):Prop where
 ns:∃m,h.Ns env.locals m/\∀x i,sl.lookup x=S i->env.kindOf x=S .local->∀val,slot ρ i=S val->∃v,m x=S v/\XR C h N ι val v
 cl:∀x i,sl.lookup x=S i->(env.kindOf x=S .cell\/env.kindOf x=S .free)->∃c w,env.cells.lookup x=S c/\h.IsCell c w/\∀val,slot ρ i=S val->∃v,w=S v/\XR C h N ι val v
variable {A:Around} {s:aT} {env:PySem.Env} {sl:SL} {ρ:Env}
theorem cx.step (fr:cx C h (NN F ι σ) ι env sl ρ)(ok:cQ F env)(i:aK C F ι σ h)(st:Step C F ι σ h ag af h'):cx C h' (NN F ag af) ag env sl ρ:=have y:=λb hb q=>(i.fresh b q).2 hb;ah fr.ns λm hm hr=>⟨⟨m,iO hm λo es D k r=>⟨o,es,D,st.keep _ _ k (y _ ok.loc),r⟩,λx j hx hk val u=>ah (hr x j hx hk _ u) λv a b=>⟨v,a,st.xr b⟩⟩,λx j hx hk=>bo (fr.cl x j hx hk) λc w a O b=>ah O λo k G=>⟨c,w,a,⟨o,st.keep _ _ k (y _ (ok.mP _ _ a)),G⟩,λval u=>ah (b _ u) λv e q=>⟨v,e,st.xr q⟩⟩⟩
theorem EV.B9 (i:aK C F ι σ s.heap){t}{x}{v}(hx:XR C s.heap (NN F ι σ) ι x v)
 (h:∀(Q:Value->aT->Prop) E,(∀a,Q v {s with toks:=a})->wpAny C.M A t Q E s):EV C A F ι σ s t x σ:=λQ E k=>h Q E (k v _ · ι (.refl i) hx)
theorem air {x:Str}(h:(x != "__debug__")=ab):(x== "__debug__")=false:=by
 simpa [bne]using h
theorem WJ {j}{val}(ok:cQ F env)(i:aK C F ι σ s.heap)(fr:cx C s.heap (NN F ι σ) ι env sl ρ)
 (hx:sl.lookup x=S j)(hk:env.kindOf x=S .local\/env.kindOf x=S .cell\/env.kindOf x=S .free)(b:(x== "__debug__")=ae)(D:(x== "__classdict__")=ae)
 (q:slot ρ j=S val):EV C A F ι σ s (eval (.Name x pos) env) val σ:=by
 rcases hk with hk|hk|hk
 . exact ah fr.ns λm hm hr=>ah (hr x j hx hk _ q) λv G a=> .B9 i a λQ E k=>wpAny_Name (wpAny_loadName_local ok.kind hk hm G (k _)) b
 . refine bo (fr.cl x j hx (.inl hk)) λc w r O hr=>ah O λo u y=> ?_;clear O
   refine ah (hr _ q) λv O a=> ?_;subst O
   exact .B9 i a λQ E k=>wpAny_Name (wpAny_loadName_cell ok.kind hk r ⟨o,u,y⟩ (k _)) b
 . refine bo (fr.cl x j hx (.inr hk)) λc w r O hr=>ah O λo u y=> ?_;clear O
   refine ah (hr _ q) λv O a=> ?_;subst O
   exact .B9 i a λQ E k=>wpAny_Name (wpAny_loadName_free ok.kind hk r ⟨o,u,y⟩ (k _) D) b
theorem WK (i:aK C F ι σ s.heap):EV C A F ι σ s (eval (.Constant (.int n) k pos) env) (.v (.int n)) σ:=λQ E q=>wpAny_Constant_int (q _ _ _ ι (.refl i) ⟨_,rfl⟩)
theorem WL (i:aK C F ι σ s.heap):EV C A F ι σ s (eval (.UnaryOp .USub (.Constant (.int n) k pos) a) env) (.v (.int (-n))) σ:=λQ E q=>wpAny_UnaryOp (wpAny_Constant_int (PyProof.Rows.neg_int (q _ _ _ ι (.refl i) ⟨_,rfl⟩)))
theorem WM (i:aK C F ι σ s.heap):EV C A F ι σ s (eval (.Constant (.str x) k pos) env) (.v (.str x.cps.toList)) σ:=λQ E q=>wpAny_Constant_str (q _ _ _ ι (.refl i) ⟨_,rfl⟩)
theorem WN (i:aK C F ι σ s.heap):EV C A F ι σ s (eval (.Constant (.bool b) k pos) env) (.v (.bool b)) σ:=λQ E q=>WO (q _ _ _ ι (.refl i) rfl)
theorem B_ (i:aK C F ι σ s.heap):EV C A F ι σ s (eval (.Constant .none k pos) env) (.v .none) σ:=λQ E q=>wpAny_Constant_none (q _ _ _ ι (.refl i) rfl)
theorem IA {v}{Q}{E}(ok:cQ F env)(i:aK C F ι σ s.heap)
 (hk:env.kindOf x=S .globalImplicit)(a:(x== "__debug__")=ae)(e:nsIn C.K mainGlobals x=S (S v))(q:Q v s):wpAny C.M A (eval (.Name x pos) env) Q E s:=WQ ok.kind hk (loadGlobal_global (by rw[ok.glob];exact C.T.g.keeps i.base) (mg_of C.X C.T.g e) q) a
theorem WR {v}{Q}{E}(ok:cQ F env)(i:aK C F ι σ s.heap)
 (hk:env.kindOf x=S .globalImplicit)(a:(x== "__debug__")=ae)(e:nsIn C.K mainGlobals x=S J)(c:bootBuiltins x=S v)(hn:x≠ "__name__")(q:Q v s):
 wpAny C.M A (eval (.Name x pos) env) Q E s:=WQ ok.kind hk (loadGlobal_builtin (by rw[ok.glob];exact C.T.g.keeps i.base) (mg_none_of C.X C.T.g e) (by rw[ok.blt];exact C.T.b.keeps i.base) ((C.T.builtins x hn).trans c) q) a
theorem WT {x y z}{b a o}
 (hl:EV C A F ι σ s (eval l env) x b)
 (hr:∀h' c ag,Step C F ι σ s.heap ag b h'->EV C A F ag b (upd s h' c) (eval r env) y a)
 (G:∀h' c ag v u,aK C F ag a h'->XR C h' (NN F ag a) ag x v->XR C h' (NN F ag a) ag y u->EV C A F ag a (upd s h' c) (binaryOp H v u) z o):
 EV C A F ι σ s (eval (.BinOp l H r pos) env) z o:=λQ E q=>wpAny_BinOp (hl _ _ λv U Y bb D hx=>hr _ _ _ D _ _ λu bF de eJ k I=>G _ _ _ v u k.inv (k.xr hx) I _ _ λw h₃ qu du L O=>q w _ _ _ ((D.trans k).trans L) O)
theorem vJ (i:aK C F ι σ h){b}(q:own ι σ b):∃o,h.get? b=S o:=by
 refine bU q λn p c x y u hb=> ?_;clear q
 have r:=i.cells n p c x y
 cases c with
 |dead=>exact ja u
 |lst xs=>
  refine au r λe k=>dh k λ_ _ a _=> ?_;rcases hb with rfl|rfl
  . exact⟨_,a⟩
  exact Zrr e ⟨_,a⟩
 |aU t D=>
  refine dp r λe _ k=>dh k λ_ _ a _=> ?_;rcases hb with rfl|rfl
  . exact⟨_,a⟩
  exact Zrr e ⟨_,a⟩
 |obj c G=>
  refine dp r λ_ a k=>dh k λ_ _ u _=> ?_;rcases hb with rfl|rfl
  . exact⟨_,a⟩
  exact⟨_,u⟩
theorem IB (i:aK C F ι σ h){b}(q:NN F ι σ b):∃o,h.get? b=S o:=q.elim (λf=>(i.frames b f).2) (vJ i)
theorem r8 (i:aK C F ι σ h){b}(e:h.get? b=J):¬NN F ι σ b:=λq=>by
 refine ao (IB i q) λo a=> ?_
 rw[e]at a;exact aD a
theorem gL (h:Heap):h.get? h.objs.size=none:=by
 cases e:h.get? _ with
 |none=>rfl
 |some o=>exact absurd (jf e) (vK _)
theorem Cb {a:aO}(ha:h.objs.size<=a):h.get? a=none:=by
 cases e:h.get? a with
 |none=>rfl
 |some o=>exact absurd (jf e) (qw.mpr ha)
theorem tX.mono (k:Kept h h' N N')(e:∀(n:Nat) p,ι[n]?=S p->ag[n]?=S p){p}{c}
 (D:∀b o,b=p.1\/b=p.2->c.isDead=ae->h.get? b=S o->h'.get? b=S o)(r:tX C h N ι p c):tX C h' N' ag p c:=by
 cases c with
 |dead=>exact trivial
 |lst xs=>
  exact au r λq a=>dh a λn G u x=>⟨q,n,G,D _ _ (.inl rfl) rfl u,x.mono k e⟩
 |aU t I=>
  exact dp r λq y a=>bo a λn es u x nd=>⟨q,y,n,es,D _ _ (.inl rfl) rfl u,x.mono k e,nd⟩
 |obj c L=>
  exact dp r λq u a=>bo a λn es H x nd=>⟨q,D _ _ (.inl rfl) rfl u,n,es,D _ _ (.inr rfl) rfl H,x.mono k e,nd⟩
theorem ix (i:aK C F ι σ h)(k:∀b o,h.get? b=S o->h'.get? b=S o):Step C F ι σ h ι σ h':=have K:=⟨λb o e _=>k b o e,λ_ _ _ q=>q⟩;⟨⟨i.len,λb o e=>k b o (i.base b o e),λn p c a r=>(i.cells n p c a r).mono K (λ_ _ e=>e) λb o _ _ e=>k b o e,i.apart,i.fresh,
 λb f=>⟨(i.frames b f).1,let⟨o,u⟩:=(i.frames b f).2;⟨o,k _ _ u⟩⟩⟩,λb o e _=>k b o e,λ_ _ e=>e,λ_ _ _ q=>q⟩
theorem eP (h:Heap)(o):∀b a,h.get? b=S a->(h.push o).get? b=S a:=λ_ _ e=>jE o e
theorem r9 (hl:ι.length=σ.length){b}(q:own (ι++ [p]) (σ++ [c]) b):own ι σ b\/b=p.1\/b=p.2:=by
 refine bU q λn o r a k u hb=> ?_;by_cases hn:n<ι.length
 . rw[eQ hn]at a
   rw[eQ (hl▸hn)]at k
   exact .inl ⟨n,o,r,a,k,u,hb⟩
 . have:n=ι.length:=by
    have:=(dk.mp a).1
    simp at this;lia
   subst this
   simp at a
   subst a
   exact .inr hb
theorem vL (i:aK C F ι σ h)(k:∀b o,h.get? b=S o->h'.get? b=S o){p}{c}(x:h.get? p.1=J)(y:h.get? p.2=J)
 (r:tX C h' (NN F (ι++ [p]) (σ++ [c])) (ι++ [p]) p c):Step C F ι σ h (ι++ [p]) (σ++ [c]) h':=by
 have ex:∀(n:Nat) q,ι[n]?=S q->(ι++ [p])[n]?=S q:=λn q e=>by
  rw[eQ (dk.mp e).1];exact e
 have low:∀b o,h.get? b=S o->own (ι++ [p]) (σ++ [c]) b->own ι σ b:=λb o e q=>by
  rcases r9 i.len q with q|rfl|rfl
  . exact q
  . rw[x]at e;exact aD e
  . rw[y]at e;exact aD e
 have D:∀(n:Nat) q d,(ι++ [p])[n]?=S q->(σ++ [c])[n]?=S d->n<ι.length/\ι[n]?=S q/\σ[n]?=S d\/n=ι.length/\q=p/\d=c:=λn q d a b=>by
  by_cases hn:n<ι.length
  . rw[eQ hn]at a
    rw[eQ (i.len▸hn)]at b
    exact .inl ⟨hn,a,b⟩
  . have:n=ι.length:=by
     have:=(dk.mp a).1
     simp at this;lia
    subst this
    rw[i.len]at b
    simp at a b
    exact .inr ⟨rfl,a.symm,b.symm⟩
 have U:∀(n:Nat) q d,ι[n]?=S q->σ[n]?=S d->d.isDead=ae->q.1≠p.1/\q.1≠p.2/\q.2≠p.1/\q.2≠p.2:=λn q d a b e=>by
  refine ao (vJ i ⟨n,q,d,a,b,e,.inl rfl⟩) λo1 G=>ao (vJ i ⟨n,q,d,a,b,e,.inr rfl⟩) λo2 H=> ?_
  refine⟨?_,?_,?_,?_⟩<;>intro z<;>first|rw[z,x]at G;exact aD G|rw[z,y]at G;exact aD G|rw[z,x]at H;exact aD H|rw[z,y]at H;exact aD H
 refine⟨⟨by simp[i.len],λb o e=>k b o (i.base b o e),λn q d a b=> ?_,λn m q I d L a Y b b' e e' og=> ?_,λb q=> ?_,
  λb f=>⟨(i.frames b f).1,let⟨o,u⟩:=(i.frames b f).2;⟨o,k _ _ u⟩⟩⟩,λb o e _=>k b o e,ex,low⟩
 . rcases D n q d a b with ⟨_,a,b⟩| ⟨_,rfl,rfl⟩
   . exact(i.cells n q d a b).mono ⟨λb o e _=>k b o e,λb o e q=>q.elim .inl λq=> .inr (low b o e q)⟩ ex λb o _ _ e=>k b o e
   exact r
 . rcases D n q d a b with ⟨_,x1,x2⟩| ⟨hn,hq,hd⟩
   . rcases D m I L Y b' with ⟨_,O,Q⟩| ⟨hm,vO,er⟩
     . exact i.apart n m q I d L x1 O x2 Q e e' og
     . rw[vO];exact U n q d x1 x2 e
   . rcases D m I L Y b' with ⟨_,O,Q⟩| ⟨hm,vO,er⟩
     . exact mB (U m I L O Q e') λz1 z2 z3 z4=>Zrr hq ⟨z1.symm,z3.symm,z2.symm,z4.symm⟩
     exact absurd (hn.trans hm.symm) og
 . rcases r9 i.len q with q|rfl|rfl
   . exact i.fresh b q
   . refine⟨?_,λf=> ?_⟩
     . cases e:C.h₀.get? _ with
       |none=>rfl
       |some o=>rw[i.base _ _ e]at x;exact kO x
     . refine ao (i.frames _ f).2 λo u=> ?_
       rw[x]at u;exact aD u
   . refine⟨?_,λf=> ?_⟩
     . cases e:C.h₀.get? _ with
       |none=>rfl
       |some o=>rw[i.base _ _ e]at y;exact kO y
     . refine ao (i.frames _ f).2 λo u=> ?_
       rw[y]at u;exact aD u
theorem qx (h:Heap)(o)(a:o.isFreed=ae):(h.push o).get? h.objs.size=S o:=kU _ a
theorem yK (i:aK C F ι σ h){xs}{a}(r:bI C h (NN F ι σ) xs a.toList):
 Step C F ι σ h ι σ (h.push {cls:= .type "tuple",data:= .seq a})/\VR C (h.push {cls:= .type "tuple",data:= .seq a}) (NN F ι σ) (.tup xs) (.ref h.objs.size):=have st:=ix i (eP _ _);⟨st,⟨_,0,a,rfl,r8 i (gL h),qx _ _ rfl,st.kz r⟩⟩
theorem yL (i:aK C F ι σ h){xs}{a}(r:bI C h (NN F ι σ) xs a.toList):
 Step C F ι σ h ι σ (h.push {cls:= .type "list",data:= .seq a})/\VR C (h.push {cls:= .type "list",data:= .seq a}) (NN F ι σ) (.lst xs) (.ref h.objs.size):=have st:=ix i (eP _ _);⟨st,⟨_,0,a,rfl,r8 i (gL h),qx _ _ rfl,st.kz r⟩⟩
theorem IC (i:aK C F ι σ h){xs}{a}(r:bJ C h (NN F ι σ) ι xs a.toList):
 Step C F ι σ h (ι++ [(h.objs.size,h.objs.size)]) (σ++ [.lst xs]) (h.push {cls:= .type "list",data:= .seq a}):=by
 refine vL i (eP _ _) (gL h) (gL h) ⟨rfl,0,a,qx _ _ rfl,r.mono ⟨λb o e _=>eP _ _ b o e,λb o e q=>q.elim .inl λq=>by
  rcases r9 i.len q with q|rfl|rfl
  . exact .inr q
  . rw[gL]at e;exact aD e
  . rw[gL]at e;exact aD e⟩ λn q e=> ?_⟩
 rw[eQ (dk.mp e).1];exact e
theorem tY (hl:ι.length=σ.length){p}{h}{N}:XR C h N (ι++ [p]) (.ref σ.length) (.ref p.1):=⟨p,by rw[hl.symm];simp,rfl⟩
theorem bI.fm:∀ {xs:List V} {c:List _},bI C h N xs c->bJ C h N ι (xs.map .v) c:=by
 intro k
 induction k with
 |nil=>
  intro _ e
  cases e;rfl
 |cons x xs o=>
  intro _ e
  refine bo e λv r O a b=> ?_;clear e;subst O
  exact⟨v,r,rfl,a,o b⟩
theorem bJ.kz:∀ {xs:List X} {as:List V} {b:List _},fA xs=S as->bJ C h N ι xs b->bI C h N as b:=by
 intro c
 induction c with
 |nil=>exact λe r=>by cases e;cases r;rfl
 |cons x xs k=>
  intro as b e r
  revert r;intro O;refine bo O λv r o hx y=> ?_;clear O;subst o
  cases x with
  |ref _=>exact aD e
  |v a=>
   refine gX e λbs q O=> ?_;subst O
   exact⟨v,r,rfl,hx,k q y⟩
theorem bI.append:∀ {xs c:List V} {k o:List _},bI C h N xs k->bI C h N c o->bI C h N (xs++c) (k++o):=by
 intro u
 induction u with
 |nil=>
  intro _ _ _ e r
  cases e;exact r
 |cons x xs y=>
  intro _ _ _ e r
  refine bo e λv q O a b=> ?_;clear e;subst O
  exact⟨v,_,rfl,a,y b r⟩
theorem bJ.append:∀ {xs c:List X} {k o:List _},bJ C h N ι xs k->bJ C h N ι c o->bJ C h N ι (xs++c) (k++o):=by
 intro u
 induction u with
 |nil=>
  intro _ _ _ e r
  cases e;exact r
 |cons x xs y=>
  intro _ _ _ O;refine bo O λv q e a b=> ?_;clear O;intro r
  subst e;exact⟨v,_,rfl,a,y b r⟩
theorem bI.get:∀ {xs:List V} {c:List _} {n:Nat} {x:V},bI C h N xs c->xs[n]?=S x->∃v,c[n]?=S v/\VR C h N x v:=by
 intro k
 induction k with
 |nil=>
  intro _ _ _ _ e
  exact aD e
 |cons x xs o=>
  intro _ n y r e
  refine bo r λv q O a b=> ?_;clear r;subst O
  cases n with
  |zero=>simp at e;subst e;exact⟨v,rfl,a⟩
  |succ n=>simpa using o b e
theorem bJ.get:∀ {xs:List X} {c:List _} {n:Nat} {x:X},bJ C h N ι xs c->xs[n]?=S x->∃v,c[n]?=S v/\XR C h N ι x v:=by
 intro k
 induction k with
 |nil=>
  intro _ _ _ _ e
  exact aD e
 |cons x xs o=>
  intro _ n y O;refine bo O λv q r a b=> ?_;clear O;subst r;intro e
  cases n with
  |zero=>simp at e;subst e;exact⟨v,rfl,a⟩
  |succ n=>simpa using o b e
theorem bI.drop:∀ {xs:List V} {c:List _} (n:Nat),bI C h N xs c->bI C h N (xs.drop n) (c.drop n):=by
 intro k
 induction k with
 |nil=>exact λn r=>by cases r;cases n<;>rfl
 |cons x xs o=>
  intro c n r
  cases n with
  |zero=>exact r
  |succ n=>
   refine bo r λv q O a b=> ?_;clear r;subst O
   exact o n b
theorem bI.take:∀ {xs:List V} {vs:List _} (n:Nat),bI C h N xs vs->bI C h N (xs.take n) (vs.take n):=by
 intro c
 induction c with
 |nil=>exact λn r=>by cases r;cases n<;>rfl
 |cons x xs k=>
  intro vs n r
  cases n with
  |zero=>rfl
  |succ n=>
   refine bo r λv q O a b=> ?_;clear r;subst O
   exact⟨v,_,rfl,a,k n b⟩
noncomputable def qk.py:qk->PySem.Operator
 | .add=> .Add| .sub=> .Sub| .mul=> .Mult| .mod=> .Mod| .fdiv=> .FloorDiv| .pow _=> .Pow
 | .bor=> .BitOr| .band=> .BitAnd| .shl=> .LShift| .shr=> .RShift
theorem WU:aE<=sizeLine:=by decide
theorem fO (h:n<aE):n<=sizeLine:=b_ (d_ h WU)
theorem ID (h:a.natAbs<2^62):Builtin.Int.intBits a<=64:=by
 unfold Builtin.Int.intBits
 split
 . exact dM _
 . have:a.natAbs.log2<62:=by
    refine if h0:a.natAbs=0 then ?_ else(Nat.log2_lt h0).mpr h
    . rw[h0];decide
   exact bp (yM this) (by simp)
theorem WW (items):∀(n:Nat) (acc:Array Value),(List.foldl (λx1 x2=>x1++x2) acc (.replicate n items)).toList=acc.toList++ (List.replicate n items.toList).flatten:=by
 intro a
 induction a with
 |zero=>
  exact λacc=>(dg _).symm
 |succ n b=>
  intro acc
  rw[IE,kW,b _,r_,bM _ _ _];rfl
theorem kX {a:Type}{c} [Decidable c]{x y:a}(h:(if c then S x else J)=S y):c/\x=y:=by
 by_cases q:c
 . rw[if_pos q]at h;exact⟨q,je h⟩
 . rw[if_neg q]at h;exact aD h
theorem yN {a b:Type}{o}{f:a->b}{y}(h:o.map f=S y):∃x,o=S x/\f x=y:=qe.mp h
theorem oh {a b:Type}{o}{f:a->Option b}{y}(h:o.bind f=S y):∃x,o=S x/\f x=S y:=yw.mp h
theorem qz {a:Type}{c} [Decidable c]{o}{y:a}(h:(if c then o else J)=S y):c/\o=S y:=by
 by_cases q:c
 . rw[if_pos q]at h;exact⟨q,h⟩
 . rw[if_neg q]at h;exact aD h
inductive tZ:qk->V->V->V->Prop
 |int {op a b c}:binI op a b=some c->tZ op (.int a) (.int b) (.int c)
 |str {a b}:a.length+b.length<aE->tZ .add (.str a) (.str b) (.str (a++b))
 |tup {a b}:a.length+b.length<aE->tZ .add (.tup a) (.tup b) (.tup (a++b))
 |lst {a b}:a.length+b.length<aE->tZ .add (.lst a) (.lst b) (.lst (a++b))
 |rep {a} {n:Int}:0<=n/\a.length*n.toNat<aE/\n<aE->tZ .mul (.lst a) (.int n) (.lst ((List.replicate n.toNat a).flatten))
theorem IF (e:cV k a b=S c):tZ k a b c:=by
 cases a with
 |int x=>cases b with
  |int y=>refine ah (yN e) λc h O=> ?_;subst O;exact .int h
  |_=>exact aD e
 |str x=>cases b with
  |str y=>cases k with
   |add=>refine au (kX e) λh O=> ?_;subst O;exact .str h
   |_=>exact aD e
  |_=>exact aD e
 |tup x=>cases b with
  |tup y=>cases k with
   |add=>refine au (kX e) λh O=> ?_;subst O;exact .tup h
   |_=>exact aD e
  |_=>exact aD e
 |lst x=>cases b with
  |lst y=>cases k with
   |add=>refine au (kX e) λh O=> ?_;subst O;exact .lst h
   |_=>exact aD e
  |int y=>cases k with
   |mul=>refine au (kX e) λh O=> ?_;subst O;exact .rep h
   |_=>exact aD e
  |_=>exact aD e
 |_=>exact aD e
theorem EV.int (i:aK C F ι σ s.heap){t}{n}(h:∀(Q:Value->aT->Prop) E,Q (.int n s.toks) {s with toks:=s.toks+1}->wpAny C.M A t Q E s):EV C A F ι σ s t (.v (.int n)) σ:=
 λQ E q=>h Q E (q _ _ _ ι (.refl i) ⟨_,rfl⟩)
theorem IG {k:Int}(h:0<=k): -2^63<=k:=Cc (by decide) h
theorem IH {k:Int}(h:k<aE):k<2^63:=mR h (by decide)
theorem II {k:Int}(h:0<=k)(l:k<aE):¬(!Builtin.List.listFitsIndex k)=true:=
 have e:Builtin.List.listFitsIndex k=true:=dF.mpr ⟨decide_eq_true (IG h),decide_eq_true (IH l)⟩
 Zrr e gq
theorem WX (h:0<=a/\0<=b):Builtin.bitOr a b=a.toNat|||b.toNat:=by
 have c:∀x,Builtin.bitNot (Builtin.bitNot x)=x:=λx=>(congrArg (· - 1) ((Int.neg_sub ..).trans (Int.sub_neg ..))).trans (by rw[Cd 1 x];exact Int.add_sub_cancel ..)
 have k:∀ {x},0<=x->¬0<=Builtin.bitNot x:=λh=>IJ.mpr (WY (Int.sub_le_sub_right (Int.neg_nonpos_of_nonneg h) 1) (by decide))
 unfold Builtin.bitOr
 rw[bitAnd_nn (k h.1) (k h.2),c _,c _,c _];rfl
theorem WZ {a b:Int}(h:0<=a):a.fdiv (2^b.toNat)=a.toNat>>>b.toNat:=by
 refine ao (IK h) λx O=> ?_;subst O
 rw[W0 _ _]
 exact Zrr (W2 _ (by exact_mod_cast dM _)) rfl
theorem IL {b:Int}{n:Nat}(h:0<=b)(k:b<n):b.natAbs<n:=Int.ofNat_lt.mp ((W3 h).symm▸k)
theorem W4 (i:aK C F ι σ s.heap){o:qk}{a b:Int}{t u:Tok}:OB (binI o a b) λc=>EV C A F ι σ s (binaryOp o.py (.int a t) (.int b u)) (.v (.int c)) σ:=by
 cases o
 . exact cH (.int i λQ E q=>PyProof.Rows.add_int q)
 . exact cH (.int i λQ E q=>PyProof.Rows.sub_int q)
 . exact fB λk=>cH (.int i λQ E q=>PyProof.Rows.mul_int q (k.elim (λz=> .of_left (ID z)) λz=> .of_right (ID z)))
 . exact fB λk=>cH (.int i λQ E q=>PyProof.Rows.mod_int' (Int.ne_of_gt k.1) q)
 . exact fB λk=>cH (.int i λQ E q=>PyProof.Rows.floordiv_int (Int.ne_of_gt k.1) q (.inl (PyProof.noPylong_small (IL (sd k.1) (mR k.2 (by decide))))))
 . exact fB λk=>cH (.int i λQ E q=>PyProof.Rows.pow_int_small k.1 (sd (mR k.2.2 (by decide))) (gY k.2.1 (by decide)) q)
 . exact fB λk=>cH (.int i λQ E q=>PyProof.Rows.or_int (by rw[WX k];exact q))
 . exact fB λk=>cH (.int i λQ E q=>PyProof.Rows.and_int (by rw[bitAnd_pp k.1 k.2];exact q))
 . exact fB λk=>cH (.int i λQ E q=>PyProof.Rows.lshift_int_small k.1 k.2.1 (IL k.2.2.1 (mR k.2.2.2 (by decide))) q)
 . exact fB λk=>cH (.int i λQ E q=>PyProof.Rows.rshift_int k.1 (by rw[WZ k.2];exact q))
theorem W5 (h:bI C s.heap N as a):∀m,bI C s.heap N (List.replicate m as).flatten (List.replicate m a).flatten:=by
 intro b
 induction b with
 |zero=>
  exact rfl
 |succ m c=>
  rw[IE];exact h.append c
theorem IM {v u}{Q}{E}(ha:VR C s.heap N (.lst as) v)(hb:VR C s.heap N (.lst bs) u)(b:as.length+bs.length<aE)
 (q:∀a,bI C s.heap N (as++bs) a.toList->Q (.ref s.heap.objs.size) {s with heap:=s.heap.push {cls:= .type "list",data:= .seq a}}):wpAny C.M A (binaryOp .Add v u) Q E s:=by
 refine bU ha λl n a O _ hl c=> ?_;clear ha;subst O
 refine bU hb λr m o O _ hr k=> ?_;clear hb;subst O
 exact PySem.P.add_list hl hr (q _ (by rw[r_];exact c.append k)) (by rw[c.length,k.length]at b;exact fO b)
theorem IP {v u}{Q}{E}(ha:VR C s.heap N (.lst as) v)(hb:VR C s.heap N (.int k) u)(c:0<=k/\as.length*k.toNat<aE/\k<aE)
 (q:∀a,bI C s.heap N (List.replicate k.toNat as).flatten a.toList->Q (.ref s.heap.objs.size) {s with heap:=s.heap.push {cls:= .type "list",data:= .seq a}}):wpAny C.M A (binaryOp .Mult v u) Q E s:=by
 refine bU ha λl n a O _ hl b=> ?_;clear ha;subst O
 refine ao hb λt O=> ?_;clear hb;subst O
 have hsz:a.size*k.toNat<aE:=by have:=c.2.1;rwa[b.length]at this
 refine wpAny_binaryOp_repeat_ref rfl ⟨_,hl,rfl⟩ (Ce · k t) noFill_list_mul PySem.F.fills_int_mul W6 repeat_list PySem.F.slot_int_index.lookup
  (o7 W6 (Ce s k t) PySem.F.entry_int_rmul (PySem.F.args_int_rmul_2 _ _) (int___rmul___int_list k t l a n)
   ⟨hl,rfl,⟨_,hl,rfl⟩,o7 PySem.F.slot_list_mul ⟨_,hl,rfl⟩ PySem.F.entry_list_mul (PySem.F.args_list_mul_2 _ _)
    (AutoListH.list___mul___list_int_3 l a n k t (II c.1 c.2.2) (λz=>mD (b_ (gY hsz (by decide))) z) (λz=>mD (fO hsz) (of_decide_eq_true z)))
    ⟨hl,q _ ?_⟩⟩)
 rw[WW _ _ _];by_cases he:a.isEmpty=ab
 . rw[if_pos he]
   rw[Cf.mp he]at b
   rw[qA b.length,List.flatten_replicate_nil];rfl
 exact Zrr (if_neg he) (W5 b _)
set_option tactic.hygienic true in
theorem W7 (i:aK C F ι σ s.heap){U:qk}{a b c:V}{v u:Value}(ha:VR C s.heap (NN F ι σ) a v)(hb:VR C s.heap (NN F ι σ) b u)(e:cV U a b=S c):EV C A F ι σ s (binaryOp U.py v u) (.v c) σ:=by
 cases IF e with
 |int e'=>
  ((refine ao ha λt O=> ?_;clear ha);obtain rfl:=O)
  ((refine ao hb λt' O=> ?_;clear hb);obtain rfl:=O)
  exact W4 i _ e'
 |str o=>
  ((refine ao ha λt O=> ?_;clear ha);obtain rfl:=O)
  ((refine ao hb λt' O=> ?_;clear hb);obtain rfl:=O)
  intro Q E q
  rename_i x y
  refine PySem.SB.add (λY k=>q _ s.heap k ι (.refl i) ⟨Y,?_⟩) (fO o)
  show Value.str ⟨x.toArray++y.toArray⟩ Y=_
  rw[List.append_toArray _ _];rfl
 |lst o=>
  intro Q E q
  refine IM ha hb o λG D=> ?_
  refine au (yL i D) λst r=> ?_
  exact q _ _ s.toks ι st r
 |rep o=>
  intro Q E q
  refine IP ha hb o λG D=> ?_
  refine au (yL i D) λst r=> ?_
  exact q _ _ s.toks ι st r
 |tup o=>
  rename_i x y
  have o8:=ha
  have o9:=hb
  ((refine bU ha λl n G O _ hl D=> ?_;clear ha);obtain rfl:=O)
  ((refine bU hb λr m I O _ hr L=> ?_;clear hb);obtain rfl:=O)
  rw[D.length,L.length]at o
  intro Q E q
  by_cases H:G.isEmpty=ab
  . have h0:=qA (by(rw[D.length,Cf.mp H]);rfl)
    rw[h0]at q
    exact concat_meets ⟨_,hl,rfl⟩ ⟨_,hr,rfl⟩ noFill_tuple_add seq_tuple_add W8 W9 (W' _ _)
     (tuple_addW0 l r G I n m J J #[] #[] H) ⟨hl,hr,q _ s.heap s.toks ι (.refl i) o9⟩
  by_cases hw:I.isEmpty=ab
  . have h0:=qA (by(rw[L.length,Cf.mp hw]);rfl)
    rw[h0,dg]at q
    exact concat_meets ⟨_,hl,rfl⟩ ⟨_,hr,rfl⟩ noFill_tuple_add seq_tuple_add W8 W9 (W' _ _)
     (tuple_addW1 l r G I n m J J #[] #[] H hw) ⟨hl,hr,q _ s.heap s.toks ι (.refl i) o8⟩
  refine PySem.P.add_tuple hl hr H hw ?_ (fO o)
  refine au (yK i (by rw[r_];exact D.append L)) λst r=> ?_
  exact q _ _ s.toks ι st r
theorem W_ (i:aK C F ι σ s.heap){k}{a b}{xs}{v u}
 (ha:VR C s.heap (NN F ι σ) a v)(hb:VR C s.heap (NN F ι σ) b u)(e:cV k a b=S (.lst xs)):EV C A F ι σ s (binaryOp k.py v u) (.ref σ.length) (σ++ [.lst (xs.map .v)]):=by
 intro Q E q
 have fin:∀o,bI C _ _ xs _->Q _ {s with heap:=s.heap.push {cls:= .type _,data:= .seq o}}:=λo r=>
  q _ _ _ _ (IC i r.fm) (tY i.len)
 cases IF e with
 |lst c=>exact IM ha hb c fin
 |rep c=>exact IP ha hb c fin
mutual
noncomputable def eR:V->PyData
 | .none=> .none
 | .bool b=> .bool b
 | .int i=> .int i
 | .str s=> .str ⟨s.toArray⟩
 | .tup xs=> .tuple (iU xs)
 | .lst xs=> .list (iU xs)
 | .aU _ _=> .none
 | .obj _ _=> .none
noncomputable def iU:List V->List PyData
 | []=> []
 |x::xs=>eR x::iU xs
end
theorem Xa:∀xs,iU xs=xs.map eR:=by
 intro a
 induction a with
 |nil=>
  exact rfl
 |cons x xs b=>
  exact congrArg _ b
inductive Dk:Nat->V->Prop
 |none {k}:Dk k .none
 |int {k i}:Dk k (.int i)
 |str {k s}:mI s=true->Dk k (.str s)
 |tup {k xs}:(∀x∈xs,Dk k x)->Dk (k+1) (.tup xs)
 |lst {k xs}:(∀x∈xs,Dk k x)->Dk (k+1) (.lst xs)
theorem vP (k):∀a,isData k a=ab->Dk k a:=by
 induction k with
 |zero=>
  intro a h
  cases a with
  |none=>exact .none
  |int i=>exact .int
  |str s=>exact .str h
  |_=>exact bT h
 |succ k b=>
  intro a h
  cases a with
  |none=>exact .none
  |int i=>exact .int
  |str s=>exact .str h
  |tup xs=>exact .tup λx m=>b x (cF.mp h x m)
  |lst xs=>exact .lst λx m=>b x (cF.mp h x m)
  |_=>exact bT h
theorem yO {xs}(h:∀x∈xs,(eR x).canLay0=ab/\(eR x).depth<=k):PyData.canLayAll0 (iU xs)=ab/\PyData.depthAll (iU xs)<=k:=by
 induction xs with
 |nil=>exact⟨rfl,k.zero_le⟩
 |cons x xs c=>
  exact have a:=h x (.head _);have b:=c λy m=>h y (.tail _ m);⟨dF.mpr ⟨a.1,b.1⟩,Nat.max_le.mpr ⟨a.2,b.2⟩⟩
theorem Xb (h:Dk k a):(eR a).canLay0=ab/\(eR a).depth<=k:=by
 induction h with
 |none=>exact⟨rfl,dM _⟩
 |int=>exact⟨rfl,dM _⟩
 |str h=>
  refine⟨?_,dM _⟩
  show PyData.strOk _=ab
  simp only[PyData.strOk,List.all_toArray,cF,decide_eq_true_eq]
  exact λx hx=>gY (of_decide_eq_true (cF.mp (dF.mp h).2 x hx)) (by simp)
 |tup _ b=>exact⟨(yO b).1,mU (yO b).2⟩
 |lst _ b=>exact⟨(yO b).1,mU (yO b).2⟩
theorem o_ (k)(a)(h:isData k a=ab):(eR a).canLay0=ab/\(eR a).depth<=k:=Xb (vP k a h)
theorem IS {xs}(c:∀x∈xs,∀b j,Dk j b->(eR x).eqv (eR b)=gI x b):∀ {a:List V},(∀y∈a,Dk j y)->PyData.eqvAll (iU xs) (iU a)=lN xs a:=by
 induction xs with
 |nil=>intro a _;cases a<;>rfl
 |cons x xs h=>
  intro a k
  cases a with
  |nil=>rfl
  |cons y a=>exact congr (congrArg _ (c x (.head _) y j (k y (.head _)))) (h (λz m=>c z (.tail _ m)) λz m=>k z (.tail _ m))
theorem Xc {k j}(ha:Dk k a)(hb:Dk j b):(eR a).eqv (eR b)=gI a b:=by
 induction ha generalizing b j with
 |none=>cases hb<;>rfl
 |int=>cases hb<;>rfl
 | @str k s h=>
  cases hb with
  | @str _ t _=>
   show((⟨_⟩:Str)==⟨_⟩)=decide _
   rw[qB,propext beq_iff_eq];exact Zrr decide_eq_true_eq ⟨congrArg λz:Str=>z.cps.toList,λe=>e▸rfl⟩
  |_=>rfl
 |tup _ c=>
  cases hb with
  |tup h=>exact IS (λx m b j hb=>c x m hb) h
  |_=>rfl
 |lst _ c=>
  cases hb with
  |lst h=>exact IS (λx m b j hb=>c x m hb) h
  |_=>rfl
theorem yP (a b)(k j)(ha:isData k a=ab)(hb:isData j b=ab):(eR a).eqv (eR b)=gI a b:=Xc (vP k a ha) (vP j b hb)
theorem Cg (o:∀x∈xs,∀v,VR C h N x v->∃as,Reads h v (eR x) as):∀ {c:List _},bI C h N xs c->∃as,ReadsAll h c (iU xs) as:=by
 induction xs with
 |nil=>intro c r;cases r;exact⟨_,.nil⟩
 |cons x xs k=>
  intro c r
  refine bo r λv q O a b=> ?_;clear r;subst O
  exact ao (o x (.head _) v a) λas u=>ao (k (λy m=>o y (.tail _ m)) b) λbs D=>⟨_,.cons u D⟩
theorem IT {k}(y:Dk k a)(r:VR C h N a v):∃as,Reads h v (eR a) as:=by
 induction y generalizing v with
 |none=>cases r;exact⟨[],.none⟩
 |int=>refine ao r λt O=> ?_;clear r;subst O;exact⟨[],.int _ t⟩
 |str=>refine ao r λt O=> ?_;clear r;subst O;exact⟨[],.str _ t⟩
 |tup _ b=>
  refine bU r λa n D O _ c o=> ?_;clear r;subst O
  exact ao (Cg (λx m v q=>b x m q) o) λas u=>⟨as,.tuple c rfl rfl u⟩
 |lst _ b=>
  refine bU r λa n D O _ c o=> ?_;clear r;subst O
  exact ao (Cg (λx m v q=>b x m q) o) λas u=>⟨_,.list c rfl rfl u⟩
theorem VR.reads (k)(b:isData k a=ab)(r:VR C h N a v):∃as,Reads h v (eR a) as:=IT (vP k a b) r
theorem bI.reads (k)(a:xs.all (isData k)=ab)(r:bI C h N xs b):∃as,ReadsAll h b (iU xs) as:=
 Cg (λx m _ q=>IT (vP k x (cF.mp a x m)) q) r
noncomputable def yD.py:yD->PySem.CmpOp
 | .eq=> .Eq| .ne=> .NotEq| .lt=> .Lt| .le=> .LtE| .gt _=> .Gt| .ge=> .GtE| .isIn=> .In| .ir=> .NotIn
theorem Xd {v u}{c}{Q}{E}(ha:VR C s.heap N a v)(hb:VR C s.heap N b u)(e:eqv a b=S c)(o:A.units+64<cLine)
 (q:Q (.bool c) s):wpAny C.M A (compareOp .Eq v u) Q E s:=by
 unfold eqv at e
 split at e
 . rename_i k
   refine ao (ha.reads 4 k.1) λas r=>ao (hb.reads 4 k.2) λbs x=>au (o_ 4 a k.1) λy D=>au (o_ 4 b k.2) λG H=> ?_
   simp only[jF]at e
   refine SeqAt.compareEq_reads r x y G ?_ ?_
   . have:=lL (eR a).depth (eR b).depth
     exact HP o D
   . rw[yP a b 4 4 k.1 k.2];exact Zrr e q
 exact aD e
theorem Xe {v u}{c}{Q}{E}(ha:VR C s.heap N a v)(hb:VR C s.heap N b u)(e:eqv a b=S c)(o:A.units+64<cLine)
 (q:Q (.bool !c) s):wpAny C.M A (compareOp .NotEq v u) Q E s:=by
 unfold eqv at e
 split at e
 . rename_i k
   refine ao (ha.reads 4 k.1) λas r=>ao (hb.reads 4 k.2) λbs x=>au (o_ 4 a k.1) λy D=>au (o_ 4 b k.2) λG H=> ?_
   simp only[jF]at e
   refine SeqAt.compareNe_reads r x y G ?_ ?_
   . have:=lL (eR a).depth (eR b).depth
     exact HP o D
   . rw[yP a b 4 4 k.1 k.2];exact Zrr e q
 exact aD e
theorem iT.Xf:∀ {a:List _} {es:List _},iT C h N t a es->fX C h N ι t (a.map λp=>(p.1,.v p.2)) es:=by
 intro b
 induction b with
 |nil=>
  intro _ r
  cases r;rfl
 |cons D r c=>
  intro _ e
  revert e;intro O;refine kP O λe G k o q u x y=> ?_;clear O;subst k
  exact⟨e,_,rfl,o,q,u,x,c y⟩
theorem fX.Xg:∀ {b:List _} {c:List _} {es:List _},qn b=S c->fX C h N ι t b es->iT C h N t c es:=by
 intro o
 induction o with
 |nil=>exact λq r=>by cases q;cases r;rfl
 |cons p b u=>
  intro c es q r
  obtain ⟨k,x⟩:=p
  refine kP r λe L O y D G H I=> ?_;clear r;subst O
  cases x with
  |ref _=>exact aD q
  |v a=>
   refine gX q λbs q1 O=> ?_;subst O
   exact⟨e,_,rfl,y,D,G,H,u q1 I⟩
theorem Ci (f:c->o)(k):∀l,ck k (l.map λp=>(p.1,f p.2))=(ck k l).map f:=by
 intro a
 induction a with
 |nil=>
  exact rfl
 |cons p r b=>
  simp only[dz,BQ]
  split
  . rfl
  exact b
structure kA (C:CX)(t:KT){K:Type} [DecidableEq K](bG:KeyKind C.prog C.w K)(aH:K->V):Prop where
 kt:∀k,dR t (aH k)=ab
 of:∀a,dR t a=ab->∃k,a=aH k
 eq:∀a b,gI (aH a) (aH b)=decide (a=b)
 inj:∀a b,aH a=aH b->a=b
 hash:∀k,kh C t (aH k)=bG.hash k
 is:∀ {h N k v},VR C h N (aH k) v->bG.is k v=ab
 Cj:∀ {h N k v},bG.is k v=ab->VR C h N (aH k) v
theorem qD (C):kA C .int (intKind _ _) .int where
 kt:=λ_=>rfl
 of:=λa h=>by cases a<;>first|exact⟨_,rfl⟩|exact bT h
 eq:=λa b=>rfl
 inj:=λa b e=>by injection e
 hash:=λ_=>rfl
 is:=λr=>by refine ao r λt O=> ?_;clear r;subst O;simp[intKind,Value.isInt]
 Cj:=λr=>by refine ao (Value.isInt_shape r) λt O=> ?_;subst O;exact⟨t,rfl⟩
noncomputable def IU (x:Str):V:= .str x.cps.toList
theorem qE (C):kA C .str (strKind _ _) IU where
 kt:=λ_=>rfl
 of:=λa h=>by
  cases a<;>first|exact⟨⟨_⟩,rfl⟩|exact bT h
 eq:=λ⟨⟨a⟩⟩ ⟨⟨b⟩⟩=>decide_eq_decide.mpr ⟨congrArg λl=>Str.mk _,congrArg λs:Str=>s.cps.toList⟩
 inj:=λ⟨_⟩ ⟨_⟩ e=>congrArg (λl=>Str.mk (.mk l)) (V.str.inj e)
 hash:=λk=>rfl
 is:=λ{h N k v} r=>by
  refine ao r λt O=> ?_;clear r;subst O
  simp[PySem.strKind,Value.isStrOf]
 Cj:=λ{h N k v} r=>by
  refine ao (Value.isStrOf_shape r) λt O=> ?_;subst O
  exact⟨_,rfl⟩
inductive hO (C:CX)(h:Heap)(N:Addr->Prop)(ι:Lay){K:Type}(aH:K->V):List (V×X)->List (K×Value)->Prop
 |nil:hO C h N ι aH [] []
 |cons {k:K} {x:X} {v:Value} {r:List (V×X)} {r':List (K×Value)}:XR C h N ι x v->hO C h N ι aH r r'->hO C h N ι aH ((aH k,x)::r) ((k,v)::r')
section
variable {t:KT} {K:Type} [DecidableEq K] {bG:KeyKind C.prog C.w K} {aH:K->V}
theorem hO.keys (c:hO C h N ι aH r a):r.map (·.1)=(a.map (·.1)).map aH:=by
 induction c with
 |nil=>rfl
 |cons _ _ b=>simp[b]
theorem hO.length (c:hO C h N ι aH r r'):r.length=r'.length:=by
 induction c with
 |nil=>rfl
 |cons _ _ a=>simp[a]
theorem IV (o:kA C t bG aH):∀ {l:List K},(l.map aH).Nodup↔l.Nodup:=by
 intro q
 induction q with
 |nil=>
  simp
 |cons a l r=>
  simp only[dz,kB,r,bX,not_exists,not_and]
  constructor
  . intro O;exact au O λc k=>⟨(c a · rfl),k⟩
  . intro O;exact au O λc k=>⟨λb m e=>c (o.inj _ _ e▸m),k⟩
theorem Xh (b:kA C t bG aH):∀ {o:List _} {es:List _},fX C h N ι t o es->∃u,hO C h N ι aH o u/\Pairs bG es u/\∀e∈es,∃k,bG.is k e.key=ab/\e.hash=bG.hash k:=by
 intro D
 induction D with
 |nil=>
  intro _ r
  cases r;exact⟨[],.nil,.nil,λ_ h=>nomatch h⟩
 |cons G o H=>
  obtain ⟨a,x⟩:=G
  intro _ O;refine kP O λe eh z I L y Q U=> ?_;clear O
  subst z
  refine ao (b.of a I) λk O=> ?_;subst O
  refine cD (H U) λu c p q=>⟨_,.cons Q c,.cons (b.is y) rfl p,λY he=> ?_⟩
  rcases cy.mp he with rfl|he
  . exact⟨k,b.is y,by rw[L,b.hash _];rfl⟩
  exact q Y he
set_option tactic.hygienic true in
theorem Xi (o:kA C t bG aH):∀ {u:List _} {y:List _} {es:List _},hO C h N ι aH u y->Pairs bG es y->(∀e∈es,∃k,bG.is k e.key=ab/\e.hash=bG.hash k)->fX C h N ι t u es:=by
 intro u y es c
 induction c generalizing es with
 |nil=>intro p _;cases p;rfl
 | @cons k x v r L hx c G=>
  intro p q
  cases p with
  |cons D H p=>
   rename_i e es
   refine⟨e,es,rfl,o.kt k,?_,o.Cj D,?_,G p λe he=>q e (dA _ he)⟩
   . refine ah (q e cT) λI a b=> ?_
     rw[(bG.inj _ _ _ D a:k=I),b,o.hash _];rfl
   exact Zrr H hx
theorem vQ (o:kA C t bG aH){a}{n}{b}{es}(u:h.get? a=S (dictOf es n))(r:fX C h N ι t b es)(nd:(b.map (·.1)).Nodup):
 ∃k,hO C h N ι aH b k/\h.DictOf bG a k:=by
 refine cD (Xh o r) λk c p q=>⟨_,c,_,_,n,u,⟨rfl,rfl,rfl⟩,rfl,λe he=>q e (by simpa using he),by simpa using p,?_⟩
 rw[c.keys]at nd
 exact(IV o).mp nd
theorem IW (k:kA C t bG aH){a}{b}{o}(c:hO C h N ι aH b o)(d:h.DictOf bG a o):
 ∃n es,h.get? a=S (dictOf es n)/\fX C h N ι t b es/\(b.map (·.1)).Nodup:=by
 refine nZ d λO es n D q r hk G hn=> ?_;obtain ⟨cl,H,I,sl⟩:=O;refine dp q λu x y=> ?_;clear q
 simp only at u x y r
 subst u x y r
 exact⟨n,_,by simpa using D,Xi k c G λe he=>hk e (by simpa using he),Zrr c.keys ((IV k).mpr hn)⟩
theorem hO.look (G:kA C t bG aH){k}{r}{D}(c:hO C h N ι aH r D):
 ck (aH k) r=J/\valueAt D k=J\/∃x v,ck (aH k) r=S x/\valueAt D k=S v/\XR C h N ι x v:=by
 induction c with
 |nil=>exact .inl ⟨rfl,rfl⟩
 | @cons j x v r D hx c H=>
  simp only[BQ,dK,G.eq]
  by_cases o:j=k
  . subst o
    exact .inr ⟨x,v,by simp,by simp[valueAt],hx⟩
  . rcases H with ⟨a,b⟩| ⟨y,u,a,b,q⟩
    . exact .inl ⟨by simpa [o]using a,by simpa [valueAt,o]using b⟩
    exact .inr ⟨y,u,by simpa [o]using a,by simpa [valueAt,o]using b,q⟩
theorem Xj {v u}{a:List (K×Value)}(hn:k∉a.map (·.1)):stored ((k,u)::a) k v=(k,v)::a:=by
 have:=map_store_of_not_mem a k v hn
 simp[stored,this]
theorem Xk {v u}{a:List (K×Value)}(b:j≠k):stored ((j,u)::a) k v=(j,u)::stored a k v:=by
 simp only[stored,vR,b,decide_false,IX,dz,if_false]
 split<;>simp
theorem hO.store (q:kA C t bG aH){k}{y}{u}(o:XR C h N ι y u){r}{a}(c:hO C h N ι aH r a):(a.map (·.1)).Nodup->hO C h N ι aH (d9 (aH k) y r) (stored a k u):=by
 induction c with
 |nil=>intro _;exact .cons o .nil
 | @cons j x v r a hx c D=>
  intro nd
  rw[dz,kB]at nd
  simp only[yE,dK,q.eq]
  by_cases b:j=k
  . subst b
    rw[Xj nd.1]
    simp only
    exact .cons o c
  . rw[Xk b]
    simp only[b]
    exact .cons hx (D nd.2)
omit [DecidableEq K]in
theorem hO.mono {a:Heap}{b:aO->Prop}(k:Kept h a N b)(e:∀(n:Nat) p,ι[n]?=S p->ag[n]?=S p){r:List (V×X)}{o:List (K×Value)}(c:hO C h N ι aH r o):hO C a b ag aH r o:=by
 induction c with
 |nil=>exact .nil
 |cons hx _ q=>exact .cons (hx.mono k e) q
end
structure gM (C:CX)(t:KT){K:Type} [DecidableEq K](bG:KeyKind C.prog C.w K)(aH:K->V):Prop where
 kt:∀ks:List K,dR t (.tup (ks.map aH))=ab
 of:∀a,dR t a=ab->∃ks:List K,a= .tup (ks.map aH)
 eq:∀a b,gI (aH a) (aH b)=decide (a=b)
 inj:∀a b,aH a=aH b->a=b
 hash:∀ks:List K,kh C t (.tup (ks.map aH))=(tupleKind bG).hash ks
 is:∀ {h N k v},VR C h N (aH k) v->bG.is k v=ab
theorem Xl {K:Type} [DecidableEq K]{c}(he:∀a b,gI (c a) (c b)=decide (a=b)):∀a b:List K,lN (a.map c) (b.map c)=decide (a=b):=by
 intro a
 induction a with
 |nil=>intro b;cases b<;>rfl
 |cons x xs k=>
  intro b
  cases b with
  |nil=>rfl
  |cons y o=>
   refine(congr (congrArg _ (he x y)) (k o)).trans ((Bool.decide_and ..).symm.trans (decide_eq_decide.mpr ⟨λh=> ?_,iy⟩))
   rw[h.1,h.2];rfl
theorem gM.IY {K} [DecidableEq K]{k}{c}(o:gM C t k c)(a b:List K):gI (.tup (a.map c)) (.tup (b.map c))=decide (a=b):=Xl o.eq a b
theorem Xm {c k:Type}{f:c->k}(hf:∀a b,f a=f b->a=b){a b:List c}:a.map f=b.map f->a=b:=(List.map_inj_right hf).mp
theorem gM.Xn {K} [DecidableEq K]{k}{c}(o:gM C t k c)(a b:List K)(e:V.tup (a.map c)= .tup (b.map c)):a=b:=by
 injection e with e
 exact Xm o.inj e
theorem vS (C):gM C (.ints ()) (intKind _ _) .int where
 kt:=λb=>cF.mpr λ_ m=>(bX.mp m).elim λ_ q=>q.2▸rfl
 of:=λa h=>by
  cases a<;>first|exact bT h|skip
  refine⟨xs.map intOf,?_⟩
  congr 1
  rw[b4]
  symm
  refine Ck λx hx=> ?_
  have:=cF.mp h x hx
  cases x<;>first|rfl|exact bT this
 eq:=(qD C).eq
 inj:=(qD C).inj
 hash:=λb=>congrArg (tupleKind _).hash ((b4 ..).trans (Ck λ_ _=>rfl))
 is:=(qD C).is
theorem vT (C):gM C .strs (PySem.strKind _ _) IU where
 kt:=λb=>cF.mpr λ_ m=>(bX.mp m).elim λ_ q=>q.2▸rfl
 of:=λa h=>by
  cases a<;>first|exact bT h|skip
  refine⟨xs.map B7,?_⟩
  congr 1
  rw[b4]
  symm
  refine Ck λx hx=> ?_
  have:=cF.mp h x hx
  cases x<;>first|rfl|exact bT this
 eq:=(qE C).eq
 inj:=(qE C).inj
 hash:=λb=>congrArg (tupleKind _).hash ((b4 ..).trans (Ck λ_ _=>rfl))
 is:=(qE C).is
inductive gN (C:CX)(h:Heap)(N:Addr->Prop)(ι:Lay){K:Type}(aH:K->V):List (V×X)->List (List K×Addr×Value)->Prop
 |nil:gN C h N ι aH [] []
 |cons {k:List K} {a:Addr} {x:X} {v:Value} {r:List (V×X)} {r':List (List K×Addr×Value)}:VR C h N (.tup (k.map aH)) (.ref a)->XR C h N ι x v->gN C h N ι aH r r'->gN C h N ι aH ((.tup (k.map aH),x)::r) ((k,a,v)::r')
section
variable {t:KT} {K:Type} [DecidableEq K] {bG:KeyKind C.prog C.w K} {aH:K->V}
theorem Xo (u:gM C t bG aH):∀ {c:List K} {o:List _},bI C h N (c.map aH) o->ItemsAre bG c o:=by
 intro x
 induction x with
 |nil=>
  intro _ r
  cases r;exact .nil
 |cons k c y=>
  intro _ r
  refine bo r λv q O a b=> ?_;clear r;subst O
  exact .cons (u.is a) (y b)
theorem se (k:gM C t bG aH){c}{b}(r:VR C h N (.tup (c.map aH)) (.ref b)):IsTupleKey bG h c b:=by
 refine bU r λa n o e _ q u=> ?_;injection e with e;subst e
 exact⟨_,o,n,q,rfl,rfl,Xo k u⟩
theorem t7 (r:VR C h N (.tup xs) v):∃b,v= .ref b:=iO r λa _ _ e _=>⟨a,e⟩
theorem gN.keys (c:gN C h N ι aH r a):r.map (·.1)=(a.map (·.1)).map λk=> .tup (k.map aH):=by
 induction c with
 |nil=>rfl
 |cons _ _ _ b=>simp[b]
theorem gN.length (c:gN C h N ι aH r r'):r.length=r'.length:=by
 induction c with
 |nil=>rfl
 |cons _ _ _ a=>simp[a]
theorem IZ (q:gM C t bG aH):∀ {l:List (List K)},(l.map λk=>V.tup (k.map aH)).Nodup↔l.Nodup:=by
 intro r
 induction r with
 |nil=>
  simp
 |cons a l u=>
  simp only[dz,kB,u,bX,not_exists,not_and]
  constructor
  . intro O;exact au O λc o=>⟨(c a · rfl),o⟩
  . intro O;exact au O λc o=>⟨λb m e=>c (q.Xn _ _ e▸m),o⟩
theorem Xp (y:gM C t bG aH):∀ {o:List _} {es:List _},fX C h N ι t o es->∃q,gN C h N ι aH o q/\es=q.map (entryOfKey (tupleKind bG)):=by
 intro H
 induction H with
 |nil=>
  intro _ r
  cases r;exact⟨[],.nil,rfl⟩
 |cons I o L=>
  obtain ⟨a,x⟩:=I
  intro _ O;refine kP O λQ eh z U D u G Y=> ?_;clear O;obtain ⟨hs,key,val⟩:=Q
  subst z
  refine ao (y.of a U) λk O=> ?_;subst O
  refine ah (L Y) λq c p=>ao (t7 u) λb hb=> ?_
  simp only at D u G hb
  subst hb
  refine⟨_,.cons u G c,?_⟩
  rw[dz,p.symm,D,y.hash _]
  rfl
theorem Xq (b:gM C t bG aH){o}{q}(c:gN C h N ι aH o q):fX C h N ι t o (q.map (entryOfKey (tupleKind bG))):=by
 induction c with
 |nil=>rfl
 | @cons k a x v r y ha hx c u=>exact⟨_,_,rfl,b.kt k,(b.hash k).symm,ha,hx,u⟩
theorem gN.Xr (b:gM C t bG aH){k}{a}(c:gN C h N ι aH k a):∀x∈a,(tupleKind bG).is h x.1 x.2.1:=by
 induction c with
 |nil=>intro x hx;cases hx
 |cons ha _ _ o=>
  intro x hx
  rcases cy.mp hx with rfl|hx
  . exact se b ha
  exact o x hx
theorem vU (b:gM C t bG aH){a}{n}{k}{es}(q:h.get? a=S (dictOf es n))(r:fX C h N ι t k es)(nd:(k.map (·.1)).Nodup):
 ∃o,gN C h N ι aH k o/\h.DictOfH (tupleKind bG) a o:=by
 refine ah (Xp b r) λo c p=>⟨_,c,_,_,n,q,⟨rfl,rfl,rfl⟩,rfl,by simpa using p,c.Xr b,?_⟩
 rw[c.keys]at nd
 exact(IZ b).mp nd
theorem I0 (k:gM C t bG aH){a}{b}{o}(c:gN C h N ι aH b o)(d:h.DictOfH (tupleKind bG) a o):
 ∃n es,h.get? a=S (dictOf es n)/\fX C h N ι t b es/\(b.map (·.1)).Nodup:=by
 refine nZ d λO es n D q r hk G hn=> ?_;obtain ⟨cl,H,I,sl⟩:=O;refine dp q λu x y=> ?_;clear q
 simp only at u x y r
 subst u x y r
 exact⟨n,_,by simpa using D,by rw[hk];exact Xq k c,Zrr c.keys ((IZ k).mpr hn)⟩
theorem gN.look (G:gM C t bG aH){k}{r}{D}(c:gN C h N ι aH r D):
 ck (.tup (k.map aH)) r=J/\atKey D k=J\/∃x p,ck (.tup (k.map aH)) r=S x/\atKey D k=S p/\XR C h N ι x p.2:=by
 induction c with
 |nil=>exact .inl ⟨rfl,rfl⟩
 | @cons j a x v r D ha hx c H=>
  simp only[BQ,dK,G.IY]
  by_cases o:j=k
  . subst o
    exact .inr ⟨x,(a,v),by simp,by simp[atKey],hx⟩
  . rcases H with ⟨a,b⟩| ⟨y,u,a,b,q⟩
    . exact .inl ⟨by simpa [o]using a,by simpa [atKey,o]using b⟩
    exact .inr ⟨y,u,by simpa [o]using a,by simpa [atKey,o]using b,q⟩
theorem ais:∀ {a:List (List K×aO×Value)},k∉a.map (·.1)->atKey a k=none:=by
 intro b
 induction b with
 |nil=>
  exact λ_=>rfl
 |cons x r c=>
  intro h
  simp only[dz,cy,not_or]at h
  have:=c h.2
  simp only[atKey]at this ⊢
  simp only[Xu,vV h.1,decide_false]
  exact this
theorem Xv {v u}{c:List (List K×aO×Value)}(hn:k∉c.map (·.1)):storedH ((k,b,u)::c) k a v=(k,b,v)::c:=by
 have:=map_putAt_of_not_mem c k v hn
 simp[storedH,atKey,putAt,this]
theorem Xw {a:List (List K×aO×Value)}(c:j≠k):atKey ((j,b,u)::a) k=atKey a k:=by
 simp only[atKey,Xu,c,decide_false]
theorem Xx {v u}{c:List (List K×aO×Value)}(o:j≠k):storedH ((j,b,u)::c) k a v=(j,b,u)::storedH c k a v:=by
 unfold storedH
 rw[Xw o]
 cases (atKey c k).isSome
 . rfl
 simp[putAt,o]
theorem gN.store (G:gM C t bG aH){k}{a}{y}{u}(ha:VR C h N (.tup (k.map aH)) (.ref a))(D:XR C h N ι y u){r}{o}(c:gN C h N ι aH r o):
 (o.map (·.1)).Nodup->gN C h N ι aH (d9 (.tup (k.map aH)) y r) (storedH o k a u):=by
 induction c with
 |nil=>intro _;exact .cons ha D .nil
 | @cons j b x v r o hb hx c H=>
  intro nd
  rw[dz,kB]at nd
  simp only[yE,dK,G.IY]
  by_cases q:j=k
  . subst q
    rw[Xv nd.1]
    simp only
    exact .cons hb D c
  . rw[Xx q]
    simp only[q]
    exact .cons hb hx (H nd.2)
omit [DecidableEq K]in
theorem gN.mono {a:Heap}{b:aO->Prop}(k:Kept h a N b)(e:∀(n:Nat) p,ι[n]?=S p->ag[n]?=S p){r:List (V×X)}{o:List (List K×aO×Value)}(c:gN C h N ι aH r o):gN C a b ag aH r o:=by
 induction c with
 |nil=>exact .nil
 |cons ha hx _ q=>exact .cons (ha.mono k) (hx.mono k e) q
end
structure DictAt (C:CX)(h:Heap)(N:aO->Prop)(ι:Lay)(a:aO)(t:KT)(ak:List (V×X)):Prop where
 low:(a==sysModules)=ae
 at_:∃n es,h.get? a=S (dictOf es n)/\fX C h N ι t ak es/\(ak.map (·.1)).Nodup
theorem I1 {c:List (V×X)}{q:Type}{o:Option q}(e:ck k c=J/\o=J\/∃x v,ck k c=S x/\o=S v):(ck k c).isSome=o.isSome:=by
 rcases e with ⟨a,b⟩| ⟨x,v,a,b⟩<;>(rw[a,b])<;>rfl
theorem I2 {E}(D:DictAt C s.heap N ι a t ak)(hk:dR t k=ab)(L:VR C s.heap N k u)(hx:ck k ak=S x)
 (hr:A.units+64<cLine)(q:∀v tk,XR C s.heap N ι x v->Q v {s with toks:=tk}):wpAny C.M A (getItem (.ref a) u) Q E s:=by
 obtain ⟨low,n,es,ho,r,nd⟩:=D
 have one:∀ {K:Type} [DecidableEq K] {o:KeyKind _ _ K} {G:K->V},kA C t o G->wpAny C.M A (getItem (.ref a) u) Q E s:=by
  intro K _ o G H
  refine ah (vQ H ho r nd) λcE c d=>ao (H.of k hk) λk' O=> ?_;subst O
  rcases c.look H with ⟨e,_⟩| ⟨y,v,e,U,Y⟩
  . rw[hx]at e;exact kO e
  . rw[hx]at e;cases e
    exact wpAny_getItem_of (H.is L) d.mapOf U (q v _ Y)
 have two:∀ {K:Type} [DecidableEq K] {o:KeyKind _ _ K} {G:K->V},gM C t o G->wpAny C.M A (getItem (.ref a) u) Q E s:=by
  intro K _ o G I
  refine ah (vU I ho r nd) λcE c d=>ao (I.of k hk) λk' O=> ?_;subst O
  refine ao (t7 L) λb O=> ?_;subst O
  rcases c.look I with ⟨e,_⟩| ⟨y,v,e,U,Y⟩
  . rw[hx]at e;exact kO e
  . rw[hx]at e;cases e
    exact wpAny_getItem_heap (by show A.in1.units<cLine;simp;exact q1 hr) (se I L) d U (q _ _ Y)
 cases t
 . exact one (qD C)
 . exact one (qE C)
 . exact two (vS C)
 exact two (vT C)
theorem I3 {neg:Bool}{Q}{E}(D:DictAt C s.heap N ι a t U)(hk:dR t k=ab)(o:VR C s.heap N k u)
 (hr:A.units+64<cLine)(q:∀tk,Q (.bool (if neg then !(ck k U).isSome else(ck k U).isSome)) {s with toks:=tk}):wpAny C.M A (compareOp (if neg then .NotIn else .In) u (.ref a)) Q E s:=by
 obtain ⟨low,n,es,Y,r,nd⟩:=D
 have one:∀ {K:Type} [DecidableEq K] {x:KeyKind _ _ K} {G:K->V},kA C t x G->wpAny C.M A (compareOp (if neg then .NotIn else .In) u (.ref a)) Q E s:=by
  intro K _ x G H
  refine ah (vQ H Y r nd) λcE c d=>ao (H.of k hk) λk' O=> ?_;subst O
  rw[(I1 ((c.look H).imp id (bo · λy v e L _=>⟨y,v,e,L⟩)))]at q
  cases neg
  . exact wpAny_in_of (H.is o) low d.mapOf (q _)
  exact wpAny_notIn_of (H.is o) low d.mapOf (q _)
 have two:∀ {K:Type} [DecidableEq K] {x:KeyKind _ _ K} {G:K->V},gM C t x G->wpAny C.M A (compareOp (if neg then .NotIn else .In) u (.ref a)) Q E s:=by
  intro K _ x G I
  refine ah (vU I Y r nd) λcE c d=>ao (I.of k hk) λk' O=> ?_;subst O
  refine ao (t7 o) λb O=> ?_;subst O
  have e:=I1 ((c.look I (k:=k')).imp id (bo · λy v e L _=>⟨y,v,e,L⟩))
  rw[e]at q
  cases neg
  . exact wpAny_in_heap (by show A.in1.units<cLine;simp;exact q1 hr) (se I o) low d (q _)
  exact wpAny_notIn_heap (by show A.in1.units<cLine;simp;exact q1 hr) (se I o) low d (q _)
 cases t
 . exact one (qD C)
 . exact one (qE C)
 . exact two (vS C)
 exact two (vT C)
theorem Xy {x}{Q}{E}(D:DictAt C s.heap N ι a t ak)(hk:dR t k=ab)(U:VR C s.heap N k u)(hv:XR C s.heap N ι x v)
 (hr:A.units+64<cLine)(hz:ak.length<aE)(ha:N a)
 (q:∀h' tk,Heap.SameBut a s.heap h'->DictAt C h' N ι a t (d9 k x ak)->Q () (upd s h' tk)):wpAny C.M A (setItem (.ref a) u v) Q E s:=by
 obtain ⟨low,n,es,ho,r,nd⟩:=D
 have kept:∀ {h':Heap},Heap.SameBut a _ h'->Kept s.heap h' N N:=λy=>⟨λb o e n=>(y.2 b λz=>n (z▸ha)).trans e,λ_ _ _ z=>z⟩
 have one:∀ {K:Type} [DecidableEq K] {G:KeyKind _ _ K} {H:K->V},kA C t G H->wpAny C.M A (setItem (.ref a) u v) Q E s:=by
  intro K _ G H I
  refine ah (vQ I ho r nd) λcE c d=>ao (I.of k hk) λk' O=> ?_;subst O
  refine nZ (id d) λ_ _ _ _ _ _ _ _ hn=>wpAny_setItem_pairs (I.is U) d (λh' Y y=>q h' _ y ⟨low,IW I ((c.store I hv hn).mono (kept y) λ_ _ e=>e) Y⟩) ?_
  rw[c.length.symm];exact fO hz
 have two:∀ {K:Type} [DecidableEq K] {G:KeyKind _ _ K} {H:K->V},gM C t G H->wpAny C.M A (setItem (.ref a) u v) Q E s:=by
  intro K _ G H L
  refine ah (vU L ho r nd) λcE c d=>ao (L.of k hk) λk' O=> ?_;subst O
  refine ao (t7 U) λb O=> ?_;subst O
  refine nZ (id d) λ_ _ _ _ _ _ _ _ hn=>wpAny_setItem_heap (by show A.in1.units<cLine;simp;exact q1 hr) (se L U) d (λh' Y y=>q h' _ y ⟨low,I0 L ((c.store L U hv hn).mono (kept y) λ_ _ e=>e) Y⟩) ?_
  rw[c.length.symm];exact fO hz
 cases t
 . exact one (qD C)
 . exact one (qE C)
 . exact two (vS C)
 exact two (vT C)
theorem VR.dictAt (r:VR C h N (.aU t b) v):∃a,v= .ref a/\¬N a/\DictAt C h N ι a t (b.map λp=>(p.1,.v p.2)):=by
 refine nZ r λa n es O hn low c k nd=> ?_;clear r;subst O
 exact⟨a,rfl,hn,low,n,es,c,k.Xf,Zrr b4 nd⟩
theorem sf (i:aK C F ι σ h){n:Nat}{p}{t}{a}(b:ι[n]?=S p)(c:σ[n]?=S (.aU t a)):DictAt C h (NN F ι σ) ι p.1 t a:=dp (i.cells n p _ b c) λ_ low o=>bo o λk es q r nd=>⟨low,k,es,q,r,nd⟩
theorem qF (i:aK C F ι σ h){n:Nat}{p}{xs}(b:ι[n]?=S p)(c:σ[n]?=S (.lst xs)):∃k a,h.get? p.1=S (seqObj "list" a k)/\bJ C h (NN F ι σ) ι xs a.toList:=au (i.cells n p _ b c) λ_ o=>dh o λk a q r=>⟨k,a,q,r⟩
theorem I4 (b:a.all (isData 4)=ab):PyData.canLayAll0 (iU a)=ab/\PyData.depthAll (iU a)<=4:=have:=o_ 5 (.lst a) b;⟨this.1,Xz this.2⟩
theorem I5 (hx:isData 4 x=ab)(b:a.all (isData 4)=ab):(iU a).any (·.eqv (eR x))=a.any (gI · x):=by
 rw[Xa _,yQ]
 induction a with
 |nil=>rfl
 |cons y a c=>
  simp only[Cm,fY]at b
  simp only[vR,Function.comp,yP y x 4 4 b.1 hx]
  rw[(c b.2).symm];rfl
theorem I6 {v}{a}{n}{o}{neg c:Bool}{Q}{E}(I:VR C s.heap N x v)
 (r:s.heap.get? a=S (seqObj "list" o n))(L:bI C s.heap N k o.toList)(e:mK x k=S c)(hr:A.units+64<cLine)(q:Q (.bool (if neg then !c else c)) s):
 wpAny C.M A (compareOp (if neg then .NotIn else .In) v (.ref a)) Q E s:=by
 unfold mK at e
 split at e
 . rename_i b
   simp only[jF]at e;subst e
   refine ao (bI.reads 4 b.2 L) λas u=>ao (I.reads 4 b.1) λbs y=>au (o_ 4 x b.1) λD U=>au (I4 b.2) λG O=> ?_
   have H:A.units+1+min (PyData.depthAll (iU k)) (eR x).depth<cLine:=by have:=(PyData.depthAll (iU k)).min_le_left (eR x).depth;exact HM hr O
   rw[<-I5 b.1 b.2]at q
   cases neg
   . exact SeqAt.in_list_reads (.list r rfl rfl u) y G D H q
   exact SeqAt.notIn_list_reads (.list r rfl rfl u) y G D H q
 exact aD e
theorem XA {v}{a}{n}{o}{neg c:Bool}{Q}{E}(I:VR C s.heap N x v)
 (r:s.heap.get? a=S (seqObj "tuple" o n))(L:bI C s.heap N k o.toList)(e:mK x k=S c)(hr:A.units+64<cLine)(q:Q (.bool (if neg then !c else c)) s):
 wpAny C.M A (compareOp (if neg then .NotIn else .In) v (.ref a)) Q E s:=by
 unfold mK at e
 split at e
 . rename_i b
   simp only[jF]at e;subst e
   refine ao (bI.reads 4 b.2 L) λas u=>ao (I.reads 4 b.1) λbs y=>au (o_ 4 x b.1) λD U=>au (I4 b.2) λG O=> ?_
   have H:A.units+1+min (PyData.depthAll (iU k)) (eR x).depth<cLine:=by have:=(PyData.depthAll (iU k)).min_le_left (eR x).depth;exact HM hr O
   rw[<-I5 b.1 b.2]at q
   cases neg
   . exact SeqAt.in_tuple_reads (.tuple r rfl rfl u) y G D H q
   exact SeqAt.notIn_tuple_reads (.tuple r rfl rfl u) y G D H q
 exact aD e
theorem XB (k)(a):(ck k (a.map λp=>(p.1,X.v p.2))).isSome=(ck k a).isSome:=by
 rw[Ci _ _ _];simp
theorem I7 (i:aK C F ι σ s.heap){neg c:Bool}{a}{b}{v u}(ha:VR C s.heap (NN F ι σ) a v)(hb:XR C s.heap (NN F ι σ) ι b u)(e:n7 σ a b=S c)(hr:A.units+64<cLine)
 {Q}{E}(q:∀x,Q (.bool (if neg then !c else c)) {s with toks:=x}):wpAny C.M A (compareOp (if neg then .NotIn else .In) v u) Q E s:=by
 cases b with
 |v b=>
  cases b with
  |lst y=>
   refine bU hb λl n G O _ o r=> ?_;clear hb;subst O
   exact I6 ha o r e hr (q _)
  |tup y=>
   refine bU hb λl n G O _ o r=> ?_;clear hb;subst O
   exact XA ha o r e hr (q _)
  |aU t L=>
   refine au (kX e) λhk O=> ?_;subst O
   refine cD (hb.dictAt (ι:=ι)) λd O _ D=> ?_;subst O
   refine I3 D hk ha hr λx=> ?_
   rw[XB _ _];exact q x
  |_=>exact aD e
 |ref n=>
  refine ah hb λp H O=> ?_;subst O
  refine ah (oh e) λU I e=> ?_
  cases U with
  |lst y=>
   exact dh (qF i H I) λk G o r=>ah (oh e) λas Y e=>I6 ha o (r.kz Y) e hr (q _)
  |aU t L=>
   refine au (kX e) λhk O=> ?_;subst O
   exact I3 (sf i H I) hk ha hr q
  |_=>exact aD e
theorem yR {a b}{v u}(ha:XR C h N ι a v)(hb:XR C h N ι b u)(e:vA f a b=S c):∃x y t k,v= .int x t/\u= .int y k/\f x y=c:=by
 cases a with
 |ref _=>exact aD e
 |v a=>cases a with
  |int x=>cases b with
   |ref _=>exact aD e
   |v b=>cases b with
    |int y=>
     refine ao ha λt O=> ?_;clear ha;subst O
     refine ao hb λk O=> ?_;clear hb;subst O
     exact⟨x,y,t,k,rfl,rfl,je e⟩
    |_=>exact aD e
  |_=>cases b with
   |ref _=>exact aD e
   |v b=>exact aD e
theorem I8 {a b}{v u}(ha:XR C h N ι a v)(hb:XR C h N ι b u)(e:BV f g a b=S c):(∃x y,v= .bool x/\u= .bool y/\f x y=c)\/∃x y,VR C h N x v/\VR C h N y u/\g x y=S c:=by
 cases a with
 |ref _=>exact aD e
 |v x=>cases b with
  |ref _=>cases x<;>(first|exact aD e|cases e)
  |v y=>
   have k:g x y=S c->(∃x y,v= .bool x/\u= .bool y/\f x y=c)\/∃x y,VR C h N x v/\VR C h N y u/\g x y=S c:=λe=> .inr ⟨x,y,ha,hb,e⟩
   cases x with
   |bool x=>cases y with
    |bool y=>exact .inl ⟨x,y,ha,hb,je e⟩
    |_=>exact k e
   |_=>exact k e
theorem I' (i:aK C F ι σ s.heap){r}{c}{a b}{v u}(ha:XR C s.heap (NN F ι σ) ι a v)(hb:XR C s.heap (NN F ι σ) ι b u)(e:cO σ r a b=S c)(hr:A.units+64<cLine)
 {Q}{E}(q:∀I,Q (.bool c) {s with toks:=I}):wpAny C.M A (compareOp r.py v u) Q E s:=by
 cases r with
 |eq=>
  rcases I8 ha hb e with ⟨x,y,rfl,rfl,rfl⟩| ⟨x,y,hx,D,e⟩
  . exact PyProof.Rows.eq_bool (q s.toks)
  exact Xd hx D e hr (q s.toks)
 |ne=>
  rcases I8 ha hb e with ⟨x,y,rfl,rfl,rfl⟩| ⟨x,y,hx,D,e⟩
  . exact PyProof.Rows.ne_bool (q s.toks)
  . refine ah (yN e) λd G O=> ?_;subst O
    exact Xe hx D G hr (q s.toks)
 |lt=>
  refine qh (yR ha hb e) λx y t H O k o=> ?_;subst O;subst k;subst o
  exact PyProof.Rows.lt_int (q s.toks)
 |le=>
  refine qh (yR ha hb e) λx y t H O k o=> ?_;subst O;subst k;subst o
  exact PyProof.Rows.le_int (q s.toks)
 |gt=>
  refine qh (yR ha hb e) λx y t H O k o=> ?_;subst O;subst k;subst o
  exact PyProof.Rows.gt_int (q s.toks)
 |ge=>
  refine qh (yR ha hb e) λx y t H O k o=> ?_;subst O;subst k;subst o
  exact PyProof.Rows.ge_int (q s.toks)
 |isIn=>cases a with
  |v a=>exact I7 (neg:=ae) i ha hb e hr q
  |ref _=>exact aD e
 |ir=>cases a with
  |v a=>
   refine ah (yN e) λd G O=> ?_;subst O
   exact I7 (neg:=ab) i ha hb G hr q
  |ref _=>exact aD e
def vW:X->Bool:=tV ae
theorem I_ (neg)(a):tV neg a=if neg then !vW a else vW a:=by
 cases neg with
 |false=>rfl
 |true=>cases a with
  |v a=>cases a<;>rfl
  |ref n=>rfl
theorem XD (ha:XR C h N ι a v):plainIs v .none=ab/\(v== .none)=vW a:=by
 cases a with
 |ref n=>refine ah ha λp _ O=> ?_;subst O;exact⟨rfl,rfl⟩
 |v a=>
  cases a with
  |none=>cases ha;exact⟨rfl,rfl⟩
  |bool b=>cases ha;exact⟨rfl,rfl⟩
  |int b=>refine ao ha λt O=> ?_;clear ha;subst O;exact⟨rfl,rfl⟩
  |str b=>refine ao ha λt O=> ?_;clear ha;subst O;exact⟨rfl,rfl⟩
  |tup xs=>refine iO ha λ_ _ _ O _=> ?_;clear ha;subst O;exact⟨rfl,rfl⟩
  |lst xs=>refine iO ha λ_ _ _ O _=> ?_;clear ha;subst O;exact⟨rfl,rfl⟩
  |aU _ _=>refine iO ha λ_ _ _ O _=> ?_;clear ha;subst O;exact⟨rfl,rfl⟩
  |obj _ _=>refine vo ha λ_ _ _ _ O _=> ?_;clear ha;subst O;exact⟨rfl,rfl⟩
theorem Ja (neg:Bool){a}{v}(ha:XR C s.heap N ι a v){Q}{E}
 (q:Q (.bool (if neg then !vW a else vW a)) s):wpAny C.M A (compareOp (if neg then .IsNot else .Is) v .none) Q E s:=by
 refine au (XD ha) λb c=> ?_
 cases neg
 . exact wpAny_is_plain b (Zrr c q)
 exact wpAny_isNot_plain b (Zrr c q)
theorem Cn (k:σ[n]?=S c)(r:c.isDead=ae)(u:o.isDead=ae)(b):own ι (σ.set n o) b↔own ι σ b:=by
 constructor
 . intro O;refine bU O λm p d a hm he hb=> ?_;clear O
   by_cases q:m=n
   . subst q;exact⟨m,p,c,a,k,r,hb⟩
   . rw[dG (.symm q)]at hm;exact⟨m,p,d,a,hm,he,hb⟩
 . intro O;refine bU O λm p d a hm he hb=> ?_;by_cases q:m=n
   . subst q;exact⟨m,p,o,a,by rw[oj (dk.mp k).1];rfl,u,hb⟩
   exact⟨m,p,d,a,by rw[dG (.symm q)];exact hm,he,hb⟩
theorem XE (a:σ[n]?=S c)(k:c.isDead=ae)(o:q.isDead=ae):NN F ι (σ.set n q)=NN F ι σ:=by
 funext b;exact propext (or_congr .rfl (Cn a k o b))
theorem yS (i:aK C F ι σ h){n}{p}{c G}(H:ι[n]?=S p)(u:σ[n]?=S c)(D:c.isDead=ae)(O:G.isDead=ae)
 (k:∀b o,h.get? b=S o->b≠p.1->b≠p.2->h'.get? b=S o)(r:tX C h' (NN F ι σ) ι p G):Step C F ι σ h ι (σ.set n G) h':=by
 have hn:=(dk.mp u).1
 have Q:∀b,¬own ι σ b->b≠p.1/\b≠p.2:=λb q=>⟨λe=>q ⟨n,p,c,H,u,D,.inl e⟩,λe=>q ⟨n,p,c,H,u,D,.inr e⟩⟩
 have I:=λb o e q=>k b o e (Q b q).1 (Q b q).2
 refine⟨⟨by simp[i.len],λb o e=>I b o (i.base b o e) λq=> ?_,λm q d a b=> ?_,λm U q q' d L a a' b b' e e' ne=> ?_,λb q=>i.fresh b ((Cn u D O b).mp q),λb f=> ?_⟩,
  I,λ_ _ e=>e,λb _ _ q=>(Cn u D O b).mp q⟩
 . have:=(i.fresh b q).1;rw[e]at this;exact kO this
 . rw[XE (F:=F) (ι:=ι) u D O]
   by_cases z:m=n
   . subst z
     rw[oj hn]at b
     cases b
     rw[H]at a
     cases a
     exact r
   . rw[dG (.symm z)]at b
     cases Y:d.isDead with
     |true=>cases d<;>first|exact trivial|exact bT Y
     |false=>
      refine mB (i.apart m n q p d c a H b u Y D z) λx1 x2 x3 x4=>(i.cells m q d a b).mono ⟨λb o e q=>I b o e λz=>q (.inr z),λ_ _ _ q=>q⟩ (λ_ _ e=>e) λy o hy _ ho=>k y o ho ?_ ?_
      . rcases hy with rfl|rfl
        . exact x1
        exact x3
      . rcases hy with rfl|rfl
        . exact x2
        exact x4
 . have ej:∀(m:Nat) d,(σ.set n G)[m]?=S d->d.isDead=ae->∃L,σ[m]?=S L/\L.isDead=false:=λm d a b=>by
    by_cases z:m=n
    . subst z;exact⟨c,u,D⟩
    . rw[dG (.symm z)]at a;exact⟨d,a,b⟩
   exact ah (ej m d b e) λd1 y1 z1=>ah (ej U L b' e') λd2 y2 z2=>i.apart m U q q' d1 d2 a a' y1 y2 z1 z2 ne
 exact au (i.frames b f) λx aF=>ao aF λo y=>⟨x,o,I b o y λq=>(i.fresh b q).2 f⟩
theorem XR.handed (r:XR C h N ι x v):handedIn v=true:=by
 cases x with
 |ref n=>refine ah r λp _ O=> ?_;clear r;subst O;rfl
 |v a=>
  cases a with
  |none=>cases r;rfl
  |bool b=>cases r;rfl
  |int b=>refine ao r λt O=> ?_;clear r;subst O;rfl
  |str b=>refine ao r λt O=> ?_;clear r;subst O;rfl
  |tup xs=>refine iO r λ_ _ _ O _=> ?_;clear r;subst O;rfl
  |lst xs=>refine iO r λ_ _ _ O _=> ?_;clear r;subst O;rfl
  |aU _ _=>refine iO r λ_ _ _ O _=> ?_;clear r;subst O;rfl
  |obj _ _=>refine vo r λ_ _ _ _ O _=> ?_;clear r;subst O;rfl
theorem oe.XF:∀ {k:List _} {es:List _},oe C h N k es->g4 C h N ι (k.map λp=>(p.1,.v p.2)) es:=by
 intro o
 induction o with
 |nil=>
  intro _ e
  cases e;rfl
 |cons y r q=>
  intro _ e
  revert e;intro O;refine bU O λe D u x a b c=> ?_;clear O;subst x
  exact⟨e,_,u,rfl,a,b,q c⟩
theorem g4.find:∀ {k:List _} {es:List _} {f:Nat} {x:X},g4 C h N ι k es->n5 f k=S x->∃v,getL (C.fld f) es=S (S v)/\XR C h N ι x v:=by
 intro u
 induction u with
 |nil=>
  intro _ _ _ _ e
  exact aD e
 |cons D r y=>
  intro _ f x O;refine bU O λe G H q a b c=> ?_;clear O;intro hx
  subst q
  simp only[H']at hx
  split at hx
  . rename_i z;subst z
    cases hx
    refine⟨_,?_,b⟩
    unfold getL
    exact Zrr (List.find?_cons_of_pos (by rw[a];simp[Value.isStr])) rfl
  . rename_i z
    refine ah (y c hx) λv o q=>⟨v,?_,q⟩
    unfold getL at o ⊢
    have n1:e.key.isStr (C.fld f)=false:=by rw[a];simp only[Value.isStr,beq_eq_false_iff_ne];exact λw=>z (C.B5 _ _ w)
    refine Zrr (XG (by rw[n1];decide)) ?_
    rw[vR,(by unfold DictEntry.refKey;rw[a];rfl:e.refKey=ae)];exact Zrr (IX _) o
theorem g4.XH:∀ {k:List _} {es:List _},g4 C h N ι k es->es.any (·.refKey)=false:=by
 intro o
 induction o with
 |nil=>
  intro _ e
  cases e;rfl
 |cons x r u=>
  intro _ O;refine bU O λe y D q a b c=> ?_;clear O
  subst q
  rw[vR,(by unfold DictEntry.refKey;rw[a];rfl:e.refKey=ae),u c];rfl
theorem g4.absent:∀ {k:List _} {es:List _},g4 C h N ι k es->(∀p∈k,C.fld p.1≠name)->getL name es=S none:=by
 intro u
 induction u with
 |nil=>
  intro _ e _
  cases e;rfl
 |cons x r D=>
  obtain ⟨g,y⟩:=x
  intro _ O;refine bU O λe H I q a b c=> ?_;clear O;intro hn
  subst q
  have o:=D c λp G=>hn p (.tail _ G)
  unfold getL at o ⊢
  refine Zrr (XG (by rw[(by rw[a];simp only[Value.isStr,beq_eq_false_iff_ne];exact hn _ (.head _):e.key.isStr _=ae)];decide)) ?_
  rw[vR,(by unfold DictEntry.refKey;rw[a];rfl:e.refKey=ae)];exact Zrr (IX _) o
theorem XI:∀ {a:List (Nat×X)},(∀p∈a,p.1≠f)->lO f x a=a++ [(f,x)]:=by
 intro b
 induction b with
 |nil=>
  exact λ_=>rfl
 |cons p r c=>
  intro h
  simp only[BU,if_neg (h p (.head _))]
  rw[c λq k=>h q (.tail _ k)];rfl
theorem XJ:∀ {a:List (Nat×X)},f∈a.map (·.1)->(lO f x a).map (·.1)=a.map (·.1):=by
 intro b
 induction b with
 |nil=>
  intro h
  cases h
 |cons p r c=>
  intro h
  simp only[BU]
  split
  . rename_i e;simp[e]
  . rename_i e
    rw[dz];exact Zrr (c (by simp only[dz,cy]at h;exact h.resolve_left λq=>e q.symm)) rfl
theorem XM {c:List (Nat×X)}(h:(c.map (·.1)).Nodup):((lO f x c).map (·.1)).Nodup:=by
 by_cases q:f∈c.map (·.1)
 . rw[XJ q];exact h
 . rewrite[XI λp k e=>q (bX.mpr ⟨p,k,e⟩)]
   simp only[bK,dz,qG]
   refine qH.mpr ⟨h,by simp,λa ha b hb=> ?_⟩
   simp only[dm]at hb
   subst hb
   exact λe=>q (e▸ha)
theorem g4.store {x}{v}{u}{k}(hx:XR C h N ι x v):∀ {o:List _} {es:List _},g4 C h N ι o es->g4 C h N ι (lO f x o) (putL (C.fld f) u (.str (C.fld f) k) v es):=by
 intro D
 induction D with
 |nil=>
  intro _ e
  cases e;exact⟨_,[],k,rfl,rfl,hx,rfl⟩
 |cons G r H=>
  obtain ⟨g,y⟩:=G
  intro _ O;refine bU O λe I tk' q a b c=> ?_;clear O
  subst q
  simp only[BU,putL]
  by_cases z:g=f
  . subst z
    rw[if_pos rfl];exact Zrr (if_pos (by rw[a];simp[Value.isStr])) ⟨_,_,_,rfl,a,hx,c⟩
  . rw[if_neg z];exact Zrr (if_neg (by rw[a];simp only[Value.isStr,beq_iff_eq];exact λw=>z (C.B5 _ _ w))) ⟨e,_,_,rfl,a,b,H c⟩
theorem XN (name)(a)(k v):∀es,(putL name a k v es).length<=es.length+1:=by
 intro b
 induction b with
 |nil=>
  simp[putL]
 |cons e r c=>
  simp only[putL]
  split
  . simp
  . simp only[jG];exact mU ‹_›
theorem g4.length:∀ {a:List _} {es:List _},g4 C h N ι a es->a.length=es.length:=by
 intro b
 induction b with
 |nil=>
  intro _ e
  cases e;rfl
 |cons _ o k=>
  intro _ O;refine bU O λ_ _ _ q _ _ c=> ?_;clear O
  subst q;simp[k c]
structure t8 (C:CX)(h:Heap)(N:aO->Prop)(ι:Lay)(c:Nat)(fs:List (Nat×X))(v:Value):Prop where
 at_:∃a d n es,v= .ref a/\h.get? a=S (instObj (C.cls c) d)/\h.get? d=S (dictOf es n)/\g4 C h N ι fs es
theorem Jb (r:XR C h N ι (.v (.obj c b)) v):t8 C h N ι c (b.map λp=>(p.1,.v p.2)) v:=by
 refine HA r λa d n es O _ _ k o hf _=> ?_;clear r;subst O
 exact⟨a,d,n,es,rfl,k,o,hf.XF⟩
theorem Jc (i:aK C F ι σ h){n c}{a}{v}(b:σ[n]?=S (.obj c a))(r:XR C h N ι (.ref n) v):t8 C h (NN F ι σ) ι c a v:=by
 refine ah r λp o O=> ?_;clear r;subst O
 exact dp (i.cells n p _ o b) λ_ q u=>bo u λk es x hf _=>⟨_,_,k,es,rfl,q,x,hf⟩
theorem t8.inst (o:t8 C h N ι c b v):∃a d n es,v= .ref a/\g4 C h N ι b es/\InstAt h a (instObj (C.cls c) d) (C.cls c) (S (dictOf es n)):=by
 refine tN o.at_ λa d n es O k q hf=> ?_;subst O
 exact⟨a,d,n,es,rfl,hf,k,rfl,rfl,q⟩
theorem XO (f):∀a,n5 f (a.map λp=>(p.1,X.v p.2))=(n5 f a).map .v:=by
 intro b
 induction b with
 |nil=>
  exact rfl
 |cons p r c=>
  simp only[dz,H']
  split
  . rfl
  exact c
theorem XQ (i:aK C F ι σ h){o x}{f}{v}(k:XR C h (NN F ι σ) ι o v)(e:ef σ o f=S x):∃c b,hE c f=ab/\n5 f b=S x/\t8 C h (NN F ι σ) ι c b v:=by
 cases o with
 |v a=>cases a with
  |obj c b=>
   exact au (qz e) λhf e=>⟨c,_,hf,by rw[XO _ _];exact e,Jb k⟩
  |_=>exact aD e
 |ref n=>
  refine ah (oh e) λq r e=> ?_
  cases q with
  |obj c b=>
   exact au (qz e) λhf e=>⟨c,b,hf,e,Jc i r k⟩
  |_=>exact aD e
theorem Co (e:hE c f=ab):c<6:=by
 rcases c.lt_or_ge 6 with q|q
 . exact q
 . refine ao (Nat.exists_eq_add_of_le' q) λd O=> ?_;subst O
   exact bT e
theorem vY {a:c}{b:o}(h:m=S a)(k:f a=S b):m.bind f=S b:=Zrr h k
theorem XS (i:aK C F ι σ s.heap){o x}{f}{v}{b}{Q}{E}(k:XR C s.heap (NN F ι σ) ι o v)(e:ef σ o f=S x)
 (q:∀u r,XR C s.heap (NN F ι σ) ι x u->Q u {s with toks:=r}):wpAny C.M A (getAttr v (C.fld f) b) Q E s:=by
 refine bo (XQ i k e) λc U hf hl y=>qh y.inst λa d n es O D I=> ?_;subst O
 exact ah (D.find hl) λu G hx=>have ok:=C.yI c (Co hf);ah (Cp ok.dict) λcd H L=>get_value (λb o e=>i.base b o (C.X b o e)) I ok.ga (vY H (vY (C.B6 c f hf) (vY rfl (vY rfl (vY (a:=S u) (by simp only[PySem.W.ownOf,L,if_true,lookIn_dict,G]) rfl))))) hx.handed (q u _ hx)
def pb (e:aI):Bool:=(B4 e).all λx=> !x.1.2.1.isEmpty
theorem Cs (h:pb o=ab):attributeBase o attr env a=a:=by
 cases o with
 |Call f as b p=>
  cases as with
  |nil=>exact(gq h).elim
  |cons=>cases f<;>rfl
 |_=>rfl
theorem XT {f}{a}{e}{env}{pos}(hb:pb e=ab)
 (he:EV C A F ι σ s (eval e env) o a)(ha:ef a o f=S x):EV C A F ι σ s (eval (.Attribute e (C.fld f) pos) env) x a:=by
 intro Q E q
 rw[arm_eval_Attribute _ _ _ _,Cs hb]
 exact aG (he _ _ λv r y D b c=>aG (qI (aG (jH (XS b.inv c ha λu k hx=>aG (XU (bA (q u _ k _ b hx))))))))
theorem update_other (h:Heap)(a)(f){b}(hb:b≠a){o}(e:h.get? b=S o):(h.update a f).get? b=S o:=by
 rw[h.get?_update_ne b a f hb];exact e
theorem XW (i:aK C F ι σ s.heap){o x}{f}{v u}{Q}{E}(L:XR C s.heap (NN F ι σ) ι o v)(hx:XR C s.heap (NN F ι σ) ι x u)
 (e:r6 σ o f x=S af)(q:∀h' tk,Step C F ι σ s.heap ι af h'->Q () (upd s h' tk)):wpAny C.M A (setAttr v (C.fld f) u) Q E s:=by
 cases o with
 |v a=>exact aD e
 |ref n=>
  refine ah (oh e) λcc D e=> ?_
  cases cc with
  |obj c fs=>
   refine au (kX e) λhlt O=> ?_;subst O
   refine ah L λp G O=> ?_;clear L;subst O
   refine dp (i.cells n p _ G D) λne H U=>bo U λk es r hf nd=> ?_;clear U
   have ok:=C.yI c (Co hlt.2)
   have X:C.K.In s.heap:=λb o e=>i.base b o (C.X b o e)
   have I:InstAt s.heap p.1 (instObj (C.cls c) p.2) (C.cls c) (S (dictOf es k)):=⟨H,rfl,rfl,r⟩
   refine set_plain X I ok.sa ?_
   obtain ⟨y,g,d,t,os⟩:=s
   refine osa_open (s:=⟨y,g,d,t+1,os⟩) X I ok.over (by unfold takerIn;rw[(C.B6 c f hlt.2)];rfl) λb=>ah (Cp ok.dict) λcd Cq Cr=> ?_
   refine aG (bA (aG (aG (wpAny_loadPart H (aG (looks_clsIn X Cq _ _ _ _ (λ_ _ e=>e) (Zrr Cr (bA (aG (bA (aG ?_)))))))))))
   unfold nsSet
   refine aG (aG (wpAny_askSetting (bA (aG (wpAny_mkText (aG (wpAny_loadPart r ?_)))))))
   dsimp only
   refine Zrr (by rw[aRefKeyMayBeTheName_at _ _,XX.symm,XX.symm,hf.XH,Bool.and_false _];rfl:aRefKeyMayBeTheName (C.fld f) es.toArray=ae) (wpAny_updatePart r ?_)
   have hl:es.length<64:=Zrr hf.length.symm hlt.1
   have Y:(y.update p.2 (.putName (C.fld f) (PyData.keyHash C.w.params (C.fld f)) (.str (C.fld f) (t+1)) u)).get? p.2=S (dictOf (putL (C.fld f) (PyData.keyHash C.w.params (C.fld f)) (.str (C.fld f) (t+1)) u es) (putN (C.fld f) es k)):=by
    refine Zrr (Ct _ r (by rewrite[putName_dict];rfl)) ?_;rewrite[putName_dict];rfl
   exact aG (wpAny_lookBehind Y (pastItsLine_dict (by rw[vZ,sizeLine_eq];have:=XN (C.fld f) (PyData.keyHash C.w.params (C.fld f)) (.str (C.fld f) (t+1)) u es;exact Uk hl this)) (bA (q _ _ (have K:Kept y (y.update p.2 (.putName (C.fld f) (PyData.keyHash C.w.params (C.fld f)) (.str (C.fld f) (t+1)) u)) (NN F ι σ) (NN F ι σ):=
    ⟨λb o e n'=>update_other _ _ _ (λz=>n' (.inr ⟨n,p,_,G,D,rfl,.inr z⟩)) e,λ_ _ _ q=>q⟩;yS i G D rfl rfl (λb o e _ h2=>update_other _ _ _ h2 e) ⟨ne,update_other _ _ _ ne.symm H,_,_,Y,.store (hx.mono K λ_ _ e=>e) (hf.mono K λ_ _ e=>e),XM nd⟩))))
  |_=>exact aD e
theorem XY {o x}{f}{u}{b c}{e}{env}{pos}(i:aK C F ι σ s.heap)(hx:XR C s.heap (NN F ι σ) ι x u)
 (he:EV C A F ι σ s (eval e env) o b)(ha:r6 b o f x=S c){Q}{E}(q:∀h' k ag,Step C F ι σ s.heap ag c h'->Q () (upd s h' k)):
 wpAny C.M A (assign (.Attribute e (C.fld f) pos) env u) Q E s:=aG (jH (he _ _ λv D G H a r=>aG (qI (aG (jH (XW a.inv r (a.xr hx) ha λI L y=>wpAny_release (q _ _ _ (a.trans y))))))))
theorem XZ (i:aK C F ι σ s.heap){o}{c}{name}{fa}{v}{y}{Q}{E}(x:XR C s.heap (NN F ι σ) ι o v)
 (e:n6 σ o=S c)(D:c<6)(hf:findIn C.K (.ref (C.cls c)) name=S (S (.ref fa)))(G:typeIn C.K (.ref fa)=S (.type "function"))(hn:∀f,hE c f=ab->C.fld f≠name)
 (q:Q (.ref fa,[v]) s):wpAny C.M A (getMethod v name y) Q E s:=by
 have ok:=C.yI c D
 have key:∃k,t8 C s.heap (NN F ι σ) ι c k v/\∀p∈k,hE c p.1=true:=by
  cases o with
  |v a=>cases a with
   |obj c k=>
    refine au (kX e) λr O=> ?_;subst O
    refine⟨_,Jb x,λp u=>ah (bX.mp u) λH L O=> ?_⟩;subst O
    exact cF.mp r H L
   |_=>exact aD e
  |ref n=>
   refine ah (oh e) λU Y e=> ?_
   cases U with
   |obj c k=>
    refine au (kX e) λr O=> ?_;subst O
    exact⟨_,Jc i Y x,λp u=>cF.mp r p u⟩
   |_=>exact aD e
 refine ah key λk oa r=> ?_;clear key
 refine qh oa.inst λa d n es O xf I=> ?_;subst O
 refine method_fn (λb o e=>i.base b o (C.X b o e)) I ok.ga ok.gx hf G ?_ q
 unfold shadowIn
 dsimp only
 rw[lookIn_dict _ _ _,xf.absent λp u=>hn _ (r p u)]
 rfl
theorem sh {b a}{o i}{T id}{c}{Q}{E}(k:s.TypeIs o T)(hl:typeLookup (.type T) "__getitem__" =pure (S (.builtin id)))
 (q:subscripted a ae o i=operate c (getItem o i))(h:wpAny C.M A (getItem o i) Q E s):wpAny C.M A (subscriptTail b a o i) Q E s:=by
 refine aG (aG (wpAny_specialOf k hl ?_))
 first
  |exact bA (aG (Zrr q (wpAny_operating (mW h (λr u h₃=>aG (XU (bA h₃))) λ_ _ x=>x))))
  |exact aG _
  |exact aG _
theorem Jd {k j:Int}{n:Nat}(e:(if k<0 then k+n else k)=j)(h:0<=j)(l:j<n):seqIndex? k n=S j.toNat:=by
 unfold seqIndex?
 rw[e];exact if_pos (dF.mpr ⟨decide_eq_true h,decide_eq_true l⟩)
theorem Je (e:lP k n=S j):seqIndex? k n=S j/\ -2^63<=k/\k<2^63/\(0<=k->j=k.toNat)/\(k<0->j=(k+n).toNat/\ -n<=k):=by
 unfold lP at e
 by_cases h:0<=k
 . rw[if_pos h]at e
   exact au (kX e) λa b=>b▸⟨Jd (if_neg (lT.mpr h)) h a.1,IG h,IH a.2,λ_=>rfl,λz=>absurd h (IJ.mpr z)⟩
 . rw[if_neg h]at e
   have h:=IJ.mp h
   exact au (kX e) λa b=>b▸⟨Jd (if_pos h) a.1 (Int.lt_of_lt_of_le (Int.add_lt_add_right h n) (Jf (Cu n))),sd (mR (by decide) a.2),mR h (by decide),λz=>absurd h (lT.mpr z),λ_=>⟨rfl,Int.zero_sub n▸Int.sub_right_le_of_le_add a.1⟩⟩
theorem Jg {j}{v}{Q}{E}(o:s.heap.get? a=S (seqObj "list" b n))(e:lP k b.size=S j)(c:b[j]?=S v)
 (q:Q v s):wpAny C.M A (getItem (.ref a) (.int k t)) Q E s:=by
 refine BM (Je e) λ_ lo r x y=> ?_
 have hl:s.heap.IsList a b:=⟨_,o,rfl,n,rfl⟩
 rcases k.lt_or_le 0 with z|z
 . refine au (y z) λO w=> ?_;subst O
   exact wpAny_getItem_list_neg hl z w lo c q
 . obtain rfl:=x z
   exact wpAny_getItem_list hl z r c q
theorem X1 {j}{v}{Q}{E}(c:s.heap.get? a=S (seqObj "tuple" b n))(e:lP k b.size=S j)(o:b[j]?=S v)
 (q:Q v s):wpAny C.M A (getItem (.ref a) (.int k t)) Q E s:=BM (Je e) λx lo r _ _=>PyProof.Rows.getItem_tuple ⟨_,c,rfl,n,rfl⟩ lo r x o q
theorem Cv {c}(b:s.heap.get? a=S (seqObj c k n)):s.TypeIs (.ref a) c:=⟨_,b,rfl⟩
theorem X2 (i:aK C F ι σ s.heap){o x}{k}{v u}{fZ qJ}{Q}{E}(H:XR C s.heap (NN F ι σ) ι o v)(hk:VR C s.heap (NN F ι σ) k u)
 (e:bZ σ o k=S x)(hr:A.units+64<cLine)(I:∀o i,subscripted qJ ae o i=operate [o,i] (getItem o i))(q:∀r L,XR C s.heap (NN F ι σ) ι x r->Q r {s with toks:=L}):
 wpAny C.M A (subscriptTail fZ qJ v u) Q E s:=by
 unfold bZ at e
 cases o with
 |v a=>
  cases a with
  |lst xs=>
   dsimp only at e
   cases k<;>dsimp only at e<;>first|exact aD e|skip
   refine gX e λy c O=> ?_;subst O
   refine kr c λj U c=>bU H λa n vs O _ b G=> ?_;clear H;subst O
   refine ao hk λt O=> ?_;clear hk;subst O
   exact ah (G.get c) λr Y hx=>sh (Cv b) Cw.lookup (I _ _) (Jg b (by rw[gO.symm];exact Zrr G.length.symm U) (by rw[eK.symm];exact Y) (q r s.toks hx))
  |tup xs=>
   dsimp only at e
   cases k<;>dsimp only at e<;>first|exact aD e|skip
   refine gX e λy c O=> ?_;subst O
   refine kr c λj U c=>bU H λa n vs O _ b G=> ?_;clear H;subst O
   refine ao hk λt O=> ?_;clear hk;subst O
   exact ah (G.get c) λr Y hx=>sh (Cv b) yU.lookup (I _ _) (X1 b (by rw[gO.symm];exact Zrr G.length.symm U) (by rw[eK.symm];exact Y) (q r s.toks hx))
  |aU t ak=>
   refine au (qz e) λt9 e=> ?_
   . refine ah (yN e) λy c O=> ?_;subst O
     refine cD (H.dictAt (ι:=ι)) λa O _ D=> ?_;subst O
     obtain ⟨low,n,es,b,_⟩:=id D
     refine sh ⟨_,b,rfl⟩ slot_dict_getitem.lookup (I _ _) (I2 D t9 hk (by rw[Ci X.v _ _,c];rfl) hr λr L hx=>q r L hx)
  |_=>exact aD e
 |ref m=>
  refine ah H λp hp O=> ?_;clear H;subst O
  refine ah (oh e) λcc hc e=> ?_
  cases cc with
  |lst xs=>
   cases k<;>dsimp only at e<;>first|exact aD e|skip
   refine kr e λj U c=>dh (qF i hp hc) λn vs b G=>ao hk λt O=> ?_;clear hk;subst O
   exact ah (G.get c) λr Y hx=>sh (Cv b) Cw.lookup (I _ _) (Jg b (by rw[gO.symm];exact Zrr G.length.symm U) (by rw[eK.symm];exact Y) (q r s.toks hx))
  |aU t ak=>
   refine au (qz e) λt9 e=> ?_
   . have D:=sf i hp hc
     obtain ⟨low,n,es,b,_⟩:=id D
     refine sh ⟨_,b,rfl⟩ slot_dict_getitem.lookup (I _ _) (I2 D t9 hk e hr λr L hx=>q r L hx)
  |_=>exact aD e
theorem Jh (h)(n):lQ h n=clipAt n h:=by
 have a:∀x:Int,(max 0 x).toNat=x.toNat:=λx=>(Int.le_total 0 x).elim (λq=>congrArg _ (Ji q)) λq=>(congrArg _ (X3 q)).trans (X4 q).symm
 show(if h<0 then(h+n).toNat else min _ n)=(max 0 (min (if h<0 then h+n else h) n)).toNat
 rw[a _]
 by_cases c:h<0
 . rw[if_pos c,if_pos c,Jj (Cc (X5 (sd c) n) (Jf (Cu _)))];rfl
 . refine ao (IK (lT.mp c)) λk O=> ?_;subst O
   exact Zrr (if_neg c) ((k.le_total n).elim (λq=>(jI q).trans (congrArg Int.toNat (Jj (Cx.mpr q))).symm) λq=>(Cy q).trans (congrArg Int.toNat (Int.min_eq_right (Cx.mpr q))).symm)
theorem X6 (a)(h):slicePick a J (S h) J=(a.toList.take (lQ h a.size)).toArray:=by
 rw[Jk _ _ _,Jh _ _];simp
theorem X7 (a)(h):slicePick a (S h) J J=(a.toList.drop (lQ h a.size)).toArray:=by
 rw[Jk _ _ _,Jh _ _]
 exact Zrr (f_ (by simp)) rfl
theorem X8 (lo a)(n:Nat):Builtin.Slice.sliceAdjust lo a 1 n=(((lo.elim 0 (clipAt n):Nat):Int),((a.elim n (clipAt n):Nat):Int)):=by
 have key:∀v:Int,(if v<0 then max (v+n) 0 else min v n)=((clipAt n v:Nat):Int):=λv=>by
  rw[clipAt_cast _ _]
  by_cases h:v<0
  . rw[if_pos h,if_pos h,Jj (Cc (X5 (sd h) n) (Jf (Cu n)))];exact Int.max_comm ..
  . rw[if_neg h,if_neg h];exact(Ji (Int.le_min.mpr ⟨lT.mp h,qK n⟩)).symm
 cases lo<;>cases a<;>exact v9 (by first|rfl|exact key _) (by first|rfl|exact key _)
theorem X9 (a b:Nat):Builtin.Slice.slicePlaces a b 1=b - a:=by
 show(if(a:Int)<b then((b:Int) - a - 1) /1+1 else 0).toNat=_
 by_cases h:(a:Int)<b
 . rw[if_pos h,Int.ediv_one _,X' _ _];exact Int.toNat_sub ..
 . rw[if_neg h];exact(H6 (Cx.mp (lT.mp h))).symm
theorem X_ {sl:aO}{b c}{lo a}{Q:Int×Int×Nat->aT->Prop}{E}(y:s.heap.IsSliceOf sl b c .none)(D:IsPart b lo)(G:IsPart c a)
 (h:Q ((lo.elim 0 (clipAt n):Nat),1,a.elim n (clipAt n) - lo.elim 0 (clipAt n)) s):wpAny C.M A (Builtin.Slice.sliceApplied (.ref sl) (pure n)) Q E s:=by
 refine cD (id y) λos o I r=> ?_
 have u:∀ {v:Value} {k:Option _} {Q:Option _->aT->Prop},IsPart v k->Q k s->wpAny C.M A (Builtin.Slice.slicePartIndex v) Q E s:=by
  intro v k Q H q
  cases H with
  |none=>exact slicePart_none q
  |int i t=>exact slicePart_int q
 refine aG (aG (Jn o r (x:=b) rfl (aG (Jn o r (x:=c) rfl (aG (Jn o r (x:= .none) rfl (bA (aG (slicePart_none ?_)))))))))
 refine Zrr (if_neg (by decide)) aG (u D (aG (u G (aG (bA ?_)))))
 show wpAny _ _ (match Builtin.Slice.sliceAdjust lo a 1 n with| (lo,a)=>pure (lo,(1:Int),Builtin.Slice.slicePlaces lo a 1)) _ _ s
 rw[X8 _ _ _]
 show wpAny _ _ (pure (_,1,Builtin.Slice.slicePlaces _ _ 1)) _ _ s
 rw[X9 _ _]
 exact bA h
theorem Ya (xs:Array Value)(a k:Nat):((List.range k).filterMap λ(j:Nat)=>xs[(a+ (j:Int)*1).toNat]?).toArray=((xs.toList.drop a).take k).toArray:=by
 rw[(by
  funext j
  have:(a+ (j:Int)*1).toNat=a+j:=congrArg Int.toNat (congrArg (_+ ·) (Int.mul_one _))
  rw[this];rfl:(λ(j:Nat)=>xs[(a+ (j:Int)*1).toNat]?)=λj=>xs[a+j]?)]
 have:=pick_run xs a k
 rw[List.filterMap_map]at this
 have b:((λx=>xs[x]?) ∘λx=>a+x)=λj=>xs[a+j]?:=rfl
 rw[b]at this
 rw[this];rfl
theorem Yb {sl:aO}{items}{n}{k o}{lo a}{Q}{E}(u:s.heap.get? t=S (seqObj "tuple" items n))(q:s.heap.IsSliceOf sl k o .none)
 (x:IsPart k lo)(y:IsPart o a)(hsz:items.size<=sizeLine)
 (D:slicePick items lo a J=items->Q (.ref t) s)
 (h:Q (.ref s.heap.objs.size) {s with heap:=s.heap.push {cls:= .type "tuple",data:= .seq (slicePick items lo a J)}}):wpAny C.M A (getItem (.ref t) (.ref sl)) Q E s:=by
 have b:IsTup _ t _:=⟨_,u,rfl,n,rfl⟩
 refine cD (id q) λos G H I=> ?_
 have r:=Jk items lo a
 unfold getItem
 try with_reducible refine jH ?_
 refine aG (wpAny_sequenceKey b.typeIs rfl (aG (Jo b.typeIs yU
  (Cz yU b.typeIs entry_tuple_getitem ?_ (args_tuple_getitem _ _)))))
 show wpAny _ _ (Builtin.Tuple.tupleItemsOf _>>=_) _ _ s
 refine aG (tupleItemsOf_ b (aG (CA ⟨os,G,H⟩ (Zrr (if_pos rfl) aG (X_ q x y ?_)))))
 show wpAny _ _ (if(((lo.elim 0 _:Nat):Int)==0&&1==1&&a.elim _ _ - lo.elim 0 _==items.size)=ab then _ else _) _ _ s
 split
 . rename_i c
   exact aG (aG (CA b.typeIs (bA (aG (si (aG (bA (bA ⟨_,rfl,bA (D (by
    simp only[fY,beq_iff_eq]at c
    rw[r,c.2]
    have:lo.elim 0 (clipAt items.size)=0:=by lia
    rw[this];exact Zrr (f_ (by simp)) rfl))⟩))))))))
 . rw[Ya _ _ _,r.symm]
   first
    |exact aG _
    |exact aG (yV (aG (bA (bA ⟨_,rfl,bA h⟩))) (bp (slicePick_size_le _ lo a J) hsz))
    |exact aG _
    |exact aG _
variable {aC bj:Hp}
noncomputable def CB (e:aI):Bool:=e.ctorIdx==26
theorem Yc (e:CB k=ae)(o i):subscripted k ae o i=operate [o,i] (getItem o i):=by
 cases k with
 |Slice a b c p=>exact(gq e.symm).elim
 |_=>rfl
theorem Yd {o x y:X}{k}{e f}{pos}(he:EV C A F ι σ s (eval e env) o aC)(hf:∀h' a ag,Step C F ι σ s.heap ag aC h'->EV C A F ag aC (upd s h' a) (eval f env) (.v k) bj)
 (D:bZ bj o k=S x)(hr:A.units+64<cLine)(G:CB f=ae):EV C A F ι σ s (eval (.Subscript e f pos) env) x bj:=λQ E q=>Subscript_ (he _ _ λv L O U c H=>hf _ _ _ c _ _ λu I Y eJ b hk=>X2 b.inv (b.xr H) hk D hr (Yc G) λr a hx=>q r I a _ (c.trans b) hx)
theorem Jp (i:aK C F ι σ s.heap){a b:V}{v u x}{lo y}{sl}{Q}{E}(ha:VR C s.heap (NN F ι σ) a v)
 (D:s.heap.IsSliceOf sl u x .none)(G:IsPart u lo)(H:IsPart x y){f:List V->List V}(hf:∀(xs:List V) (c:Array _),bI C s.heap (NN F ι σ) xs c.toList->bI C s.heap (NN F ι σ) (f xs) (slicePick c lo y J).toList)
 (e:(match a with| .lst xs=>if xs.length<aE then S (.lst (f xs))else .none| .tup xs=>if xs.length<aE then S (.tup (f xs))else .none|_=> .none)=S b)
 (q:∀r h',Step C F ι σ s.heap ι σ h'->VR C h' (NN F ι σ) b r->Q r (upd s h' s.toks)):wpAny C.M A (getItem v (.ref sl)) Q E s:=by
 cases a with
 |lst xs=>
  refine au (qz e) λhl e=> ?_
  cases e
  refine bU ha λa n c O _ o k=> ?_;subst O
  have hsz:c.size<=sizeLine:=by rw[gO.symm,k.length.symm];exact fO hl
  exact au (yL i (hf xs c k)) λst r=>wpAny_getItem_list_slice ⟨_,o,rfl,n,rfl⟩ D G H .none (by decide) (q _ _ st r) hsz
 |tup xs=>
  refine au (qz e) λhl e=> ?_
  cases e
  refine bU ha λa n c O hn o k=> ?_;subst O
  have hsz:c.size<=sizeLine:=by rw[gO.symm,k.length.symm];exact fO hl
  refine au (yK i (hf xs c k)) λst r=>Yb o D G H hsz (λw=>q _ _ (.refl i) ?_) (q _ _ st r)
  have:=hf xs c k
  rw[w]at this
  exact⟨a,n,c,rfl,hn,o,this⟩
 |_=>exact aD e
theorem Ye (x:Str)(h:Nat):(Builtin.Str.strSliceIndices J (S h) 1 x.length).filterMap (x.cps[·]?)=x.cps.toList.take h:=by
 rw[Jq _ _]
 rcases h.le_total _ with q|q
 . have:=Yg x (dM _) q
   simpa using this
 . rw[(by
    exact Zrr (Jq _ _).symm (sliceIdx_hi_beyond _ (by lia)):Builtin.Str.strSliceIndices _ _ 1 _=Builtin.Str.strSliceIndices (S 0) (S x.length) 1 _)]
   have:=Yg x (dM _) (ba _)
   rw[this]
   have l:x.length=x.cps.toList.length:=rfl
   rw[CC,Nat.sub_zero _];exact Zrr (f_ (aN l.symm)) (Zrr (f_ (iP (aN l.symm) q)) rfl)
theorem Yh {a}{h}{v}{t}{sl}{Q}{E}(ha:VR C s.heap N (.str a) v)
 (c:s.heap.IsSliceOf sl .none (.int h t) .none)(h0:0<=h)(hl:a.length<aE)(q:∀r b,VR C s.heap N (.str (a.take h.toNat)) r->Q r {s with toks:=b}):wpAny C.M A (getItem v (.ref sl)) Q E s:=by
 ((refine ao ha λk O=> ?_;clear ha);obtain rfl:=O)
 refine wpAny_getItem_str_slice (l:=J) (u:=S (h,t)) (st:=J) c rfl ?_
 (refine ao (IK h0) λn O=> ?_;obtain rfl:=O)
 unfold sliceMade slicePicked
 simp only[Option.map_none,ua,Option.getD_none]
 have key:=Ye ⟨a.toArray⟩ n
 split
 . rename_i w
   simp only[beq_self_eq_true,Bool.true_and,beq_iff_eq]at w
   refine q _ s.toks ?_
   refine⟨k,?_⟩
   have l:(⟨a.toArray⟩:Str).length=a.length:=by simp[Str.length]
   have b:a.take ((n:Int)).toNat=a:=by
    rcases n.le_total a.length with z|z
    . have:=StrLaws.strSliceIndices_plain (dM _) z
      rw[l,Jq]at w
      rw[show((0:Nat):Int)=0 from rfl]at this
      rw[this]at w
      simp at w
      refine Zrr (f_ (by lia)) ?_;rfl
    . refine Zrr (f_ (by lia)) ?_;rfl
   rw[b];rfl
 . show _/\_
   rw[key]
   refine⟨?_,q _ _ ?_⟩
   . have:=fO hl
     simp only[Str.length,vZ,ie]
     exact T_ this
   . exact⟨s.toks,rfl⟩
theorem Yi (h:mJ a c=S b):∃n,c= .int n:=by cases c<;>first|exact⟨_,rfl⟩|exact aD h
theorem Yj (h:tQ a c=S b):∃n,c= .int n:=by cases c<;>first|exact⟨_,rfl⟩|exact aD h
theorem Yk {n}{v}(c:VR C s.heap N a v)(hx:mJ a (.int n)=S b):∃T id,typeLookup (.type T) "__getitem__" =pure (S (.builtin id))/\s.TypeIs v T:=by
 cases a with
 |str x=>refine ao c λ_ O=> ?_;clear c;subst O;exact⟨_,_,PySem.F.slot_str_getitem.lookup,rfl⟩
 |tup xs=>refine bU c λ_ _ _ O _ k _=> ?_;clear c;subst O;exact⟨_,_,yU.lookup,_,k,rfl⟩
 |lst xs=>refine bU c λ_ _ _ O _ k _=> ?_;clear c;subst O;exact⟨_,_,Cw.lookup,_,k,rfl⟩
 |_=>exact aD hx
theorem Yl {n}{v}(c:VR C s.heap N a v)(hx:tQ a (.int n)=S b):∃T id,typeLookup (.type T) "__getitem__" =pure (S (.builtin id))/\s.TypeIs v T:=by
 cases a with
 |tup xs=>refine bU c λ_ _ _ O _ k _=> ?_;clear c;subst O;exact⟨_,_,yU.lookup,_,k,rfl⟩
 |lst xs=>refine bU c λ_ _ _ O _ k _=> ?_;clear c;subst O;exact⟨_,_,Cw.lookup,_,k,rfl⟩
 |_=>exact aD hx
theorem Ym (i:aK C F ι σ s.heap){a b}{v}{k}{t}{sl}{Q}{E}(u:VR C s.heap (NN F ι σ) a v)(y:s.heap.IsSliceOf sl .none (.int k t) .none)(hx:mJ a (.int k)=S b)
 (q:∀r h' o,Step C F ι σ s.heap ι σ h'->VR C h' (NN F ι σ) b r->Q r (upd s h' o)):wpAny C.M A (getItem v (.ref sl)) Q E s:=by
 have go:=Jp (A:=A) (E:=E) (Q:=Q) (b:=b) i u y .none (.int k t)
  λxs D r=>by rw[X6 _ _,gO.symm,r.length.symm];exact r.take _
 cases a with
 |lst xs=>exact go hx λr h'=>q r h' _
 |tup xs=>exact go hx λr h'=>q r h' _
 |str x=>
  refine au (qz hx) λc hx=> ?_
  cases hx
  exact Yh u y c.2 c.1 λr o hr=>q r _ o (.refl i) hr
 |_=>exact aD hx
theorem Yn (i:aK C F ι σ s.heap){a b}{v}{c}{t}{sl}{Q}{E}(k:VR C s.heap (NN F ι σ) a v)(o:s.heap.IsSliceOf sl (.int c t) .none .none)(hx:tQ a (.int c)=S b)
 (q:∀r h' u,Step C F ι σ s.heap ι σ h'->VR C h' (NN F ι σ) b r->Q r (upd s h' u)):wpAny C.M A (getItem v (.ref sl)) Q E s:=by
 have go:=Jp (A:=A) (E:=E) (Q:=Q) (b:=b) i k o (.int c t) .none
  λxs x r=>by rw[X7 _ _,gO.symm,r.length.symm];exact r.drop _
 cases a with
 |lst xs=>exact go hx λr h'=>q r h' _
 |tup xs=>exact go hx λr h'=>q r h' _
 |_=>exact aD hx
theorem Yo {y}{e f}{p pos}(he:EV C A F ι σ s (eval e env) (.v a) aC)(hf:∀h' k ag,Step C F ι σ s.heap ag aC h'->EV C A F ag aC (upd s h' k) (eval f env) (.v y) bj)
 (hx:mJ a y=S b):EV C A F ι σ s (eval (.Subscript e (.Slice J (S f) J p) pos) env) (.v b) bj:=by
 refine ao (Yi hx) λU O=> ?_;subst O
 refine λQ E q=>Subscript_ (he _ _ λv Y bC bb D c=>wpAny_Slice (bA (hf _ _ _ D _ _ λu G H eJ o hk=>bA (ao hk λt O=> ?_))));clear hk;subst O
 exact have x:=ix o.inv (eP _ _);have c:=x.xr (o.xr c);dh (Yk (s:= {s with heap:=G.push _,toks:=H}) c hx) λT id hl I=>sh I hl rfl (Ym x.inv c (.new _ _ _ _) hx λr h' k st L=>q r h' k _ ((D.trans o).trans (x.trans st)) L)
theorem Yp {y}{e f}{p pos}(he:EV C A F ι σ s (eval e env) (.v a) aC)(hf:∀h' k ag,Step C F ι σ s.heap ag aC h'->EV C A F ag aC (upd s h' k) (eval f env) (.v y) bj)
 (hx:tQ a y=S b):EV C A F ι σ s (eval (.Subscript e (.Slice (S f) J J p) pos) env) (.v b) bj:=by
 refine ao (Yj hx) λU O=> ?_;subst O
 refine λQ E q=>Subscript_ (he _ _ λv Y bC bb D c=>wpAny_Slice (hf _ _ _ D _ _ λu G H eJ o hk=>bA (bA (ao hk λt O=> ?_))));clear hk;subst O
 exact have x:=ix o.inv (eP _ _);have c:=x.xr (o.xr c);dh (Yl (s:= {s with heap:=G.push _,toks:=H}) c hx) λT id hl I=>sh I hl rfl (Yn x.inv c (.new _ _ _ _) hx λr h' k st L=>q r h' k _ ((D.trans o).trans (x.trans st)) L)
def Yq (C:CX)(F:aO->Prop)(ι:Lay)(σ:Hp)(s:aT)(xs:List X)(c:Hp)(Q:List Value->aT->Prop):Prop:=∀k a o b,Step C F ι σ s.heap b c a->bJ C a (NN F b c) b xs k->Q k (upd s a o)
def lU (C:CX)(A:Around)(F:aO->Prop)(ι:Lay)(σ:Hp)(s:aT)(t:Sem (List Value))(xs:List X)(a:Hp):Prop:=
 ∀(Q:List Value->aT->Prop) (E:Value->aT->Prop),
  Yq C F ι σ s xs a Q->wpAny C.M A t Q E s
def Yr (C:CX)(F:aO->Prop)(ι:Lay)(σ:Hp)(s:aT)(b:Bool)(c:Hp)(Q:Bool->aT->Prop):Prop:=∀a k o,Step C F ι σ s.heap o c a->Q b (upd s a k)
def gb (C:CX)(A:Around)(F:aO->Prop)(ι:Lay)(σ:Hp)(s:aT)(t:Sem Bool)(b:Bool)(a:Hp):Prop:=
 ∀(Q:Bool->aT->Prop) (E:Value->aT->Prop),
  Yr C F ι σ s b a Q->wpAny C.M A t Q E s
noncomputable def notStar (e:aI):Bool:= !(e.ctorIdx==22)
theorem ub (h:notStar e=ab):starEach (e::r) env=(ae,eval e env)::starEach r env:=by
 cases e<;>first|rfl|exact bT h
theorem sj {pos}:∀ {es:List _},es.all notStar=ab->(backTo pos (starEach es env)).any (·.1)=false:=by
 intro a
 induction a with
 |nil=>
  exact λ_=>rfl
 |cons e r b=>
  intro h
  simp only[Cm,fY]at h
  rw[ub h.1]
  have:=b h.2
  unfold backTo at this ⊢
  rw[dz,vR,this];rfl
theorem yW {a}{M}{Q}{E}(o:a.any (·.1)=ae)(q:wpAny M A (spliced a) (λc k=>Q ⟨c,[]⟩ k) E s):
 wpAny M A (evalArgs f ab a []) Q E s:=by
 cases a with
 |nil=>
  exact aG (mW q (λc k u=>jH (aG (bA (aG (bA (bA u)))))) λ_ _ x=>x)
 |cons t r=>
  obtain ⟨b,x⟩:=t
  cases b
  . exact PySem.Calls.evalArgs_plain q
  exact ja o
theorem Yt (i:aK C F ι σ s.heap){pos}:lU C A F ι σ s (spliced (backTo pos (starEach [] env))) [] σ:=λQ E q=>CD (q [] _ _ ι (.refl i) rfl)
theorem Yu {pos}{x}{xs}(he:EV C A F ι σ s (eval e env) x aC)(c:notStar e=ab)
 (hr:∀h' k ag,Step C F ι σ s.heap ag aC h'->lU C A F ag aC (upd s h' k) (spliced (backTo pos (starEach r env))) xs bj):
 lU C A F ι σ s (spliced (backTo pos (starEach (e::r) env))) (x::xs) bj:=λQ E q=>yY (he _ _ λv y D G a hx=>hr _ _ _ a _ _ λo H I L b u=>q _ _ _ _ (a.trans b) ⟨v,o,rfl,b.xr hx,u⟩) (ub c)
theorem Yw {pos}{xs}{a}(he:lU C A F ι σ s (spliced (backTo pos (starEach es env))) xs aC)(c:fA xs=S a)(hl:xs.length<aE):
 EV C A F ι σ s (eval (.Tuple es k pos) env) (.v (.tup a)) aC:=λQ E q=>Jr (he _ _ λo u x y b hx=>au (yK b.inv (by simpa using bJ.kz c hx)) λst r=>⟨by rw[hx.length.symm];exact fO hl,q _ _ _ _ (b.trans st) r⟩)
theorem Yx {xs}{a}{x}(i:aK C F ι σ h)(hx:bJ C h (NN F ι σ) ι xs a)(e:kx m xs σ=S (x,af)):
 a.length<=sizeLine/\∃ag,Step C F ι σ h ag af (h.push {cls:= .type "list",data:= .seq a.toArray})/\XR C (h.push {cls:= .type "list",data:= .seq a.toArray}) (NN F ag af) ag x (.ref h.objs.size):=by
 unfold kx at e
 split at e
 . rename_i hl
   refine⟨by rw[hx.length.symm];exact fO hl,?_⟩
   cases m
   . simp only[yZ,if_false,qe,kY]at e
     refine cD e λk c O b=> ?_;clear e;subst O;subst b
     exact au (yL i (by simpa using bJ.kz c hx)) λst r=>⟨ι,st,r⟩
   . simp only[if_true,jF,kY]at e
     refine au e λO b=> ?_;clear e;subst O;subst b
     exact⟨_,IC i (by simpa using hx),tY i.len⟩
 exact aD e
theorem Yy {pos}{m}{xs}{x}(he:lU C A F ι σ s (spliced (backTo pos (starEach es env))) xs aC)(hm:kx m xs aC=S (x,bj)):
 EV C A F ι σ s (eval (.List es pos) env) x bj:=λQ E q=>wpAny_List (he _ _ λc k o u a hx=>au (Yx a.inv hx hm) λhl b=>ah b λy st r=>⟨hl,q _ _ _ _ (a.trans st) r⟩)
theorem Yz (e:gn p=S q):p=(.v (.bool q.1),q.2):=by
 obtain ⟨x,σ⟩:=p
 cases x with
 |ref n=>exact aD e
 |v a=>cases a with
  |bool b=>cases e;rfl
  |_=>exact aD e
theorem YA (he:EV C A F ι σ s (eval e env) (.v (.bool b)) aC)(a:isTrue e env (eval e env)=do let v<-eval e env;standAt e.pos;holding [v] (truthy v)):
 gb C A F ι σ s (isTrue e env (eval e env)) b aC:=by
 refine λQ E q=>wpAny_isTrue_value (he _ _ λv k o r c hx=> ?_) a
 subst hx
 exact sr (q _ _ _ c)
theorem Js {x y}{b}(hl:EV C A F ι σ s (eval l env) x aC)(hr:∀h' a ag,Step C F ι σ s.heap ag aC h'->EV C A F ag aC (upd s h' a) (eval r env) y bj)
 (D:∀(Q:Value->aT->Prop) (E:Value->aT->Prop) h' a ag v u,aK C F ag bj h'->XR C h' (NN F ag bj) ag x v->XR C h' (NN F ag bj) ag y u->(∀a,Q (.bool b) (upd s h' a))->wpAny C.M A (compareOp k v u) Q E (upd s h' a))
 (hm:behindInMarks k r=ae):EV C A F ι σ s (eval (.Compare l [k] [r] pos) env) (.v (.bool b)) bj:=λQ E q=>wpAny_Compare1 (hl _ _ λv H I L o hx=>hr _ _ _ o _ _ λu O U Y c G=>D _ _ _ _ _ v u c.inv (c.xr hx) G (q _ _ · _ (o.trans c) rfl)) hm
theorem Jt {x y}{b}(hl:EV C A F ι σ s (eval l env) x aC)(hr:∀h' a ag,Step C F ι σ s.heap ag aC h'->EV C A F ag aC (upd s h' a) (eval r env) y bj)
 (D:∀(Q:Value->aT->Prop) (E:Value->aT->Prop) h' a ag v u,aK C F ag bj h'->XR C h' (NN F ag bj) ag x v->XR C h' (NN F ag bj) ag y u->(∀a,Q (.bool b) (upd s h' a))->wpAny C.M A (compareOp k v u) Q E (upd s h' a))
 (hm:behindInMarks k r=ae):gb C A F ι σ s (isTrue (.Compare l [k] [r] pos) env H) b bj:=λQ E q=>wpAny_isTrue_Compare1 (hl _ _ λv I L O o hx=>hr _ _ _ o _ _ λu U Y eJ c G=>D _ _ _ _ _ v u c.inv (c.xr hx) G λa=>sr (q _ a _ (o.trans c))) hm
theorem YB {c}(hl:EV C A F ι σ s (eval l env) (.v (.bool ab)) aC)(hr:∀h' b ag,Step C F ι σ s.heap ag aC h'->EV C A F ag aC (upd s h' b) (eval r env) (.v (.bool c)) bj):
 EV C A F ι σ s (eval (.BoolOp .And [l,r] pos) env) (.v (.bool c)) bj:=λQ E q=>wpAny_And2 (hl _ _ λv x y D a hx=>Zrr hx (sr (hr _ _ _ a _ _ λu G H I k o=>q u _ _ _ (a.trans k) o)))
theorem YC (hl:EV C A F ι σ s (eval l env) (.v (.bool ae)) aC):EV C A F ι σ s (eval (.BoolOp .And [l,r] pos) env) (.v (.bool ae)) aC:=
 λQ E q=>wpAny_And2 (hl _ _ λv b c k a hx=>Zrr hx (sr (q _ _ _ _ a rfl)))
theorem YD {c}(hl:EV C A F ι σ s (eval l env) (.v (.bool ae)) aC)(hr:∀h' b ag,Step C F ι σ s.heap ag aC h'->EV C A F ag aC (upd s h' b) (eval r env) (.v (.bool c)) bj):
 EV C A F ι σ s (eval (.BoolOp .Or [l,r] pos) env) (.v (.bool c)) bj:=λQ E q=>wpAny_Or2 (hl _ _ λv x y D a hx=>Zrr hx (sr (hr _ _ _ a _ _ λu G H I k o=>q u _ _ _ (a.trans k) o)))
theorem YE (hl:EV C A F ι σ s (eval l env) (.v (.bool ab)) aC):EV C A F ι σ s (eval (.BoolOp .Or [l,r] pos) env) (.v (.bool ab)) aC:=
 λQ E q=>wpAny_Or2 (hl _ _ λv b c k a hx=>Zrr hx (sr (q _ _ _ _ a rfl)))
theorem YF {b}(he:EV C A F ι σ s (eval e env) (.v (.bool b)) aC):EV C A F ι σ s (eval (.UnaryOp .Not e pos) env) (.v (.bool !b)) aC:=
 λQ E q=>wpAny_UnaryOp (he _ _ λv c k o a hx=>Zrr hx (not_value (sr (q _ _ _ _ a rfl))))
theorem YG {b}(he:gb C A F ι σ s (isTrue e env (eval e env)) b aC):gb C A F ι σ s (isTrue (.UnaryOp .Not e pos) env c) (!b) aC:=
 λQ _ q=>wpAny_isTrue_Not (he _ _ λk o r a=>q _ _ _ a)
theorem Ju {b}{x}(k:gb C A F ι σ s (isTrue c env (eval c env)) b aC)
 (o:∀h' r ag,Step C F ι σ s.heap ag aC h'->EV C A F ag aC (upd s h' r) (if b then eval t env else eval f env) x bj):EV C A F ι σ s (eval (.IfExp c t f pos) env) x bj:=by
 refine λQ E q=>wpAny_IfExp (k _ _ λH y I a=> ?_)
 have:=o _ y _ a Q E λu L O U D G=>q u _ _ _ (a.trans D) G
 cases b<;>exact this
theorem CE {e}{f}{Q}{E}(hf:(∃T,f= .type T)\/∃id,f= .builtin id)(k:notStar e=ab)
 (hn:∀o,o f s->wpAny C.M A (eval (.Name x q) env) o E s)(h:wpAny C.M A (eval e env) (λv b=>wpAny C.M A (call f [v]) Q E b) E s):wpAny C.M A (eval (.Call (.Name x q) [e] [] pos) env) Q E s:=by
 refine Jv (hn _ ?_)
 have c:(backTo pos (starEach [e] env)).any _=false:=sj (by simp[k])
 have ha:wpAny _ A (evalArgs f _ _ []) (λa b=>wpAny _ A (call f ([]++a.pos) a.kw) Q E b) E s:=yW c (yY (mW h (λv b r=>CD r) λ_ _ x=>x) (ub k))
 rcases hf with ⟨T,rfl⟩| ⟨id,rfl⟩
 . exact YH c ha
 exact Jw c ha
theorem y0 {v}{E}(ok:cQ F env)(i:aK C F ι σ s.heap)(hk:env.kindOf x=S .globalImplicit)(hx:x∈qt)(c:bootBuiltins x=S v):
 ∀a,a v s->wpAny C.M A (eval (.Name x pos) env) a E s:=by
 intro a q
 have b:(x== "__debug__")=ae/\x≠ "__name__" :=by
  unfold qt at hx
  simp only[cy,YI,or_false]at hx
  rcases hx with rfl|rfl|rfl|rfl|rfl|rfl|rfl|rfl|rfl|rfl<;>exact⟨rfl,by decide⟩
 exact WR ok i hk b.1 (C.Iy x hx) c b.2 q
theorem fits (h:n<aE):(n:Int)<2^63:=by unfold aE at h;lia
theorem fX.length:∀ {ak:List _} {es:List _},fX C h N ι t ak es->ak.length=es.length:=by
 intro a
 induction a with
 |nil=>
  intro _ e
  cases e;rfl
 |cons c k b=>
  intro _ O;refine kP O λ_ _ q _ _ _ _ r=> ?_;clear O
  subst q;simp[b r]
theorem YJ {prog}{w}{d}(a:(d==sysModules)=ae):
 MeetsIn prog w (Builtin.«dict.__len__» ⟨[.ref d],[]⟩) λ_ R s=>∃es n,s.heap.get? d=S (dictOf es n)/\R (.ok (.ret (.int es.length s.toks))) {s with toks:=s.toks+1}:=
 .of_wp λA R s b=>dh b λes n c h=>by
  show wpAny _ _ (dictSize d>>=_) _ _ s
  exact aG (aG (Jx c rfl (bA (aG (wpAny_pendingCount_other a (wpAny_ret_mkInt (Zrr vZ h)))))))
theorem Jy {E}(D:DictAt C s.heap N ι a t b)(hl:b.length<aE)(q:∀o tk',Q (.int b.length o) {s with toks:=tk'}):
 wpAny C.M A (call (.builtin "len") [.ref a]) Q E s:=by
 obtain ⟨low,n,es,c,r,nd⟩:=D
 have k:s.TypeIs (.ref a) _:=⟨_,c,rfl⟩
 have hf:=fits hl
 refine YK kind_len plain_len entry_len (args_len1 _) (aG (bA (aG (Jo k YL
  (Jz YL k PySem.F.entry_dict_len (PySem.F.args_dict_len_1 _) (YJ low) ⟨es,n,c,Zrr r.length.symm (aG (jH (bA (aG (wpAny_letGo ?_)))))⟩)))))
 show wpAny _ _ (if(b.length:Int) >= 2^63 then _ else _) _ _ _
 exact Zrr (if_neg (by lia)) (aG (wpAny_mkInt (bA ⟨_,rfl,q _ _⟩)))
theorem YM (i:aK C F ι σ s.heap){x}{n}{v}{Q}{E}(hx:XR C s.heap (NN F ι σ) ι x v)(e:vy σ x=S n)(hl:n<aE)
 (q:∀y tk',Q (.int n y) {s with toks:=tk'}):wpAny C.M A (call (.builtin "len") [v]) Q E s:=by
 cases x with
 |v a=>
  cases a with
  |lst xs=>
   cases e
   refine bU hx λa k b O _ c o=> ?_;clear hx;subst O
   have e:b.size=xs.length:=by rw[o.length];rfl
   exact call_len_list ⟨_,c,rfl,k,rfl⟩ (by rw[e];exact fits hl) (by rw[e];exact q _ _)
  |tup xs=>
   cases e
   refine bU hx λa k b O _ c o=> ?_;clear hx;subst O
   have e:b.size=xs.length:=by rw[o.length];rfl
   exact PyProof.Rows.len_tuple ⟨_,c,rfl,k,rfl⟩ (by rw[e];exact fits hl) (by rw[e];exact q _ _)
  |aU t G=>
   cases e
   refine cD (hx.dictAt (ι:=ι)) λd O _ D=> ?_;subst O
   exact Jy D (by simpa using hl) (by simpa using q)
  |_=>exact aD e
 |ref m=>
  refine ah hx λp r O=> ?_;clear hx;subst O
  refine ah (oh e) λH u e=> ?_
  cases H with
  |lst xs=>
   cases e
   refine dh (qF i r u) λk b c o=> ?_
   have e:b.size=xs.length:=by rw[o.length];rfl
   exact call_len_list ⟨_,c,rfl,k,rfl⟩ (by rw[e];exact fits hl) (by rw[e];exact q _ _)
  |aU t G=>
   cases e
   exact Jy (sf i r u) hl q
  |_=>exact aD e
theorem YN (i:aK C F ι σ s.heap){m}{a}{xs}{x}{v}{Q}{E}(ha:VR C s.heap (NN F ι σ) a v)(e:a= .lst xs\/a= .tup xs)(hl:xs.length<aE)(hm:vD m xs σ=S (x,af))
 (q:∀r h' ag,Step C F ι σ s.heap ag af h'->XR C h' (NN F ag af) ag x r->Q r (upd s h' s.toks)):wpAny C.M A (call (.type "list") [v]) Q E s:=by
 have key:∃a T n c,(T= "list" \/T= "tuple")/\v= .ref a/\s.heap.get? a=S (seqObj T c n)/\bI C s.heap (NN F ι σ) xs c.toList:=by
  rcases e with rfl|rfl<;>(refine bU ha λa n c O _ y k=> ?_;clear ha;subst O)
  . exact⟨a,_,n,c,.inl rfl,rfl,y,k⟩
  exact⟨a,_,n,c,.inr rfl,rfl,y,k⟩
 refine tN key λa T n c H O y k=> ?_;clear key;subst O
 refine call_list_seq a H y rfl rfl (λh' G hk hn=> ?_) (by rw[gO.symm,k.length.symm];exact fO hl)
 have u:s.heap.get? _=none:=gL _
 unfold vD at hm
 cases m
 . simp only[yZ,if_false,jF,kY]at hm
   refine au hm λO D=> ?_;clear hm;subst O;subst D
   have st:=ix i hk
   refine q _ h' ι st ?_
   exact⟨_,G,c,rfl,r8 i u,hn,st.kz k⟩
 . simp only[if_true,jF,kY]at hm
   refine au hm λO D=> ?_;clear hm;subst O;subst D
   refine q _ h' _ (vL i hk u u ⟨rfl,G,c,hn,(k.mono (⟨λb o e _=>hk b o e,λb o e q=>q.elim .inl λq=>by
    rcases r9 i.len q with q|rfl|rfl
    . exact .inr q
    . rw[u]at e;exact aD e
    . rw[u]at e;exact aD e⟩:Kept _ h' _ (NN F (ι++ [(s.heap.objs.size,s.heap.objs.size)]) _))).fm⟩) (tY i.len)
theorem YO (i:aK C F ι σ s.heap){xs}{v}{Q}{E}(ha:VR C s.heap (NN F ι σ) (.lst xs) v)(hl:xs.length<aE)
 (q:∀r h',Step C F ι σ s.heap ι σ h'->VR C h' (NN F ι σ) (.tup xs) r->Q r (upd s h' s.toks)):wpAny C.M A (call (.type "tuple") [v]) Q E s:=by
 refine bU ha λa n o O _ c b=> ?_;clear ha;subst O
 exact call_tuple_list ⟨_,c,rfl,n,rfl⟩ (λh' hk=>have st:=ix i hk;au (yK st.inv (st.kz b)) λk r=>q _ _ (st.trans k) r) (by rw[gO.symm,b.length.symm];exact fO hl)
set_option tactic.hygienic true in
theorem YQ:∀ {xs:List V} {c:List _} {a n:Int},bI C h N xs c->tS xs a=S n->(∀v∈c,∃i t,v= .int i t)/\n=a+ (numsOf c).sum:=by
 intro k
 induction k with
 |nil=>
  intro c a n r e
  cases r;cases e
  exact⟨λv b=>(nomatch b),a.add_zero.symm⟩
 |cons x xs o=>
  intro c a n r e
  refine bo r λv q O b hr=> ?_;clear r;subst O
  cases x
  case int i=>
   refine ao b λt O=> ?_;clear b;subst O
   exact au (o hr e) λy z=>⟨λv b=>(cy.mp b).elim (λrfl=>⟨i,t,rfl⟩) (y v),z.trans (by rw[Int.add_assoc _ _ _];rfl)⟩
  all_goals exact aD e
theorem YR (c:A.handled=J)(i:aK C F ι σ s.heap){xs}{n}{v}{Q}{E}(ha:VR C s.heap (NN F ι σ) (.lst xs) v)(e:tS xs 0=S n)
 (q:∀t h' b,Step C F ι σ s.heap ι σ h'->Q (.int n t) (upd s h' b)):wpAny C.M A (call (.builtin "sum") [v]) Q E s:=by
 refine bU ha λa k o O _ r u=> ?_;clear ha;subst O
 refine au (YQ u e) λx O=> ?_;subst O
 have y:AllInts o:=λv D=>x v (by simpa using D)
 refine ao y.items λH O=> ?_;subst O
 refine sum_intListG c ⟨_,r,rfl,k,rfl⟩ λh' b G hk=> ?_
 have:=q G h' b (ix i hk)
 rw[nums_intItems,Cu]at this
 rw[preSum_eq _ _];exact Zrr (f_ (by simp)) this
theorem YS {E}(ha:VR C s.heap N (.int n) v)(q:∀t a,Q (.int n.natAbs t) {s with toks:=a}):wpAny C.M A (call (.builtin "abs") [v]) Q E s:=by
 refine ao ha λt O=> ?_;clear ha;subst O
 refine call_abs_int λu a=> ?_
 have:(if n<0 then -n else n)=n.natAbs:=if h:n<0 then(if_pos h).trans (Int.ofNat_natAbs_of_nonpos (sd h)).symm else(if_neg h).trans (W3 (lT.mp h)).symm
 rw[this];exact q u a
structure cW (C:CX)(F W:aO->Prop)(ι:Lay)(σ:Hp)(h:Heap)(ag:Lay)(af:Hp)(h':Heap):Prop where
 inv:aK C F ag af h'
 keep:∀b o,h.get? b=S o->¬own ι σ b->¬W b->h'.get? b=S o
 ext:∀(n:Nat) p,ι[n]?=S p->ag[n]?=S p
 new:∀b o,h.get? b=S o->own ag af b->own ι σ b
variable {W:aO->Prop}
theorem Step.w (a:Step C F ι σ h ag af h')(W):cW C F W ι σ h ag af h':=⟨a.inv,λb o e n _=>a.keep b o e n,a.ext,a.new⟩
theorem cW.refl (i:aK C F ι σ h)(W):cW C F W ι σ h ι σ h:=(Step.refl i).w W
theorem cW.trans (a:cW C F W ι σ h ag af h')(b:cW C F W ag af h' gK gp ky)(hW:∀b,W b->F b):cW C F W ι σ h gK gp ky:=
 ⟨b.inv,λc o e n w=>b.keep c o (a.keep c o e n w) (λq=>n (a.new c o e q)) w,λn p e=>b.ext n p (a.ext n p e),λc o e q=>by
  by_cases n:own ι σ c
  . exact n
  . by_cases w:W c
    . exact absurd (hW c w) (b.inv.fresh c q).2
    exact a.new c o e (b.new c o (a.keep c o e n w) q)⟩
theorem cW.kept (a:cW C F W ι σ h ag af h')(hW:∀b,W b->F b):Kept h h' (NN F ι σ) (NN F ag af):=
 ⟨λb o e n=>a.keep b o e (λq=>n (.inr q)) λw=>n (.inl (hW b w)),λb o e n=>n.elim .inl λq=> .inr (a.new b o e q)⟩
theorem cW.xr (a:cW C F W ι σ h ag af h')(hW:∀b,W b->F b){x}{v}(q:XR C h (NN F ι σ) ι x v):XR C h' (NN F ag af) ag x v:=q.mono (a.kept hW) a.ext
theorem cW.fm (a:cW C F W ι σ h ag af h')(hW:∀b,W b->F b){x}{v}(q:bJ C h (NN F ι σ) ι x v):bJ C h' (NN F ag af) ag x v:=q.mono (a.kept hW) a.ext
theorem cW.vr (a:cW C F W ι σ h ag af h')(hW:∀b,W b->F b){x}{v}(q:VR C h (NN F ι σ) x v):VR C h' (NN F ag af) x v:=q.mono (a.kept hW)
theorem cW.none (a:cW C F (λ_=>False) ι σ h ag af h'):Step C F ι σ h ag af h':=⟨a.inv,λb o e n=>a.keep b o e n λq=>q,a.ext,a.new⟩
theorem uc {G:aO->Prop}(i:aK C F ι σ h)(k:∀b o,h.get? b=S o->h'.get? b=S o)(fr:∀b,G b->h.get? b=J)(u:∀b,G b->∃o,h'.get? b=S o):
 aK C (λb=>F b\/G b) ι σ h'/\Kept h h' (NN F ι σ) (NN (λb=>F b\/G b) ι σ):=by
 have K:Kept h h' (NN F ι σ) (NN (λb=>F b\/G b) ι σ):=⟨λb o e _=>k b o e,λb o e q=>by
  rcases q with (q|q)|q
  . exact .inl q
  . rw[fr b q]at e;exact aD e
  exact .inr q⟩
 refine⟨⟨i.len,λb o e=>k b o (i.base b o e),λn p c x y=>(i.cells n p c x y).mono K (λ_ _ e=>e) λb o _ _ e=>k b o e,i.apart,λb q=>⟨(i.fresh b q).1,λz=> ?_⟩,λb z=> ?_⟩,K⟩
 . rcases z with z|z
   . exact(i.fresh b q).2 z
   . refine ao (vJ i q) λo r=> ?_
     rw[fr b z]at r;exact aD r
 . rcases z with z|z
   . exact au (i.frames b z) λa D=>ao D λo r=>⟨a,o,k b o r⟩
   . refine⟨?_,u b z⟩
     cases e:C.h₀.get? b with
     |none=>rfl
     |some o=>have:=i.base b o e;rw[fr b z]at this;exact aD this
theorem wb {G:aO->Prop}(i:aK C (λb=>F b\/G b) ι σ h)(k:∀b o,h.get? b=S o->¬G b->h'.get? b=S o)(x:∀b,F b->¬G b):
 aK C F ι σ h'/\Kept h h' (NN (λb=>F b\/G b) ι σ) (NN F ι σ):=by
 have K:Kept h h' (NN (λb=>F b\/G b) ι σ) (NN F ι σ):=⟨λb o e n=>k b o e λg=>n (.inl (.inr g)),λb _ _ q=>q.elim (λf=> .inl (.inl f)) .inr⟩
 refine⟨⟨i.len,λb o e=>k b o (i.base b o e) λg=> ?_,λn p c r u=> ?_,i.apart,λb q=>⟨(i.fresh b q).1,λz=>(i.fresh b q).2 (.inl z)⟩,λb z=> ?_⟩,K⟩
 . have:=(i.frames b (.inr g)).1;rw[e]at this;exact kO this
 . exact(i.cells n p c r u).mono K (λ_ _ e=>e) λb o hb y e=>k b o e ((λb q g=>(i.fresh b q).2 (.inr g)) b ⟨n,p,c,r,u,y,hb⟩)
 exact au (i.frames b (.inl z)) λa D=>ao D λo H=>⟨a,o,k b o H (x b z)⟩
theorem YT (h:i<ρ.length):slot (ρ.set i (S x)) i=S x:=by unfold slot;rw[oj h];rfl
theorem slot_set_ne (h:i≠j):slot (ρ.set i x) j=slot ρ j:=by unfold slot;rw[dG h];rfl
theorem slot_set {x y}(h:slot (ρ.set i (S x)) j=S y):i=j/\y=x\/i≠j/\slot ρ j=S y:=by
 by_cases e:i=j
 . subst e
   by_cases l:i<ρ.length
   . rw[YT l]at h;cases h;exact .inl ⟨rfl,rfl⟩
   . rw[List.set_eq_of_length_le (gg l)]at h
     unfold slot at h
     rw[eU (gg l)]at h;exact aD h
 . rw[slot_set_ne e]at h;exact .inr ⟨e,h⟩
def iV (sl:SL):Prop:=∀(x y:Str) (i:Nat),sl.lookup x=S i->sl.lookup y=S i->x=y
theorem cx.YU (fr:cx C h (NN F ι σ) ι env sl ρ)(ok:cQ F env)(i:aK C F ι σ h)(st:cW C F W ι σ h ag af h')(hW:∀b,W b->F b)(nl:¬W env.locals)(D:∀x c,env.cells.lookup x=S c->¬W c):
 cx C h' (NN F ag af) ag env sl ρ:=have y:=λb hb q=>(i.fresh b q).2 hb;ah fr.ns λm hm hr=>⟨⟨m,iO hm λo es G k r=>⟨o,es,G,st.keep _ _ k (y _ ok.loc) nl,r⟩,λx j hx hk val u=>ah (hr x j hx hk _ u) λv a b=>⟨v,a,st.xr hW b⟩⟩,λx j hx hk=>bo (fr.cl x j hx hk) λc w a O b=>ah O λo k H=>⟨c,w,a,⟨o,st.keep _ _ k (y _ (ok.mP _ _ a)) (D _ _ a),H⟩,λval u=>ah (b _ u) λv e q=>⟨v,e,st.xr hW q⟩⟩⟩
theorem y3 (i:aK C F ι σ h)(r:F L)(hW:W L)(sb:Heap.SameBut L h h')(y:∃o,h'.get? L=S o):cW C F W ι σ h ι σ h':=by
 have k:∀b o,h.get? b=S o->b≠L->h'.get? b=S o:=λb o e n=>(sb.2 b n).trans e
 refine⟨⟨i.len,λb o e=>k b o (i.base b o e) λz=> ?_,λn p c u x=> ?_,i.apart,i.fresh,λb z=> ?_⟩,λb o e n w=>k b o e λz=>w (z▸hW),λ_ _ e=>e,λ_ _ _ q=>q⟩
 . subst z;rw[(i.frames b r).1]at e;exact aD e
 . exact(i.cells n p c u x).mono ⟨λb o e n=>k b o e λz=>n (.inl (z▸r)),λ_ _ _ q=>q⟩ (λ_ _ e=>e) λb o hb D e=>k b o e λz=>(λb hb q=>(i.fresh b q).2 hb) L r (z▸⟨n,p,c,u,x,D,hb⟩)
 . refine au (i.frames b z) λa G=>ao G λo H=> ?_;by_cases q:b=L
   . subst q;exact⟨a,y⟩
   exact⟨a,o,k b o H q⟩
theorem wc (ok:cQ F env)(i:aK C F ι σ s.heap)(fr:cx C s.heap (NN F ι σ) ι env sl ρ)(ds:iV sl)
 (hx:sl.lookup x=S j)(hk:env.kindOf x=S .local/\W env.locals\/env.kindOf x=S .cell/\∀c,env.cells.lookup x=S c->W c)(hv:XR C s.heap (NN F ι σ) ι val v)(hW:∀b,W b->F b)
 {Q}{E}
 (q:∀h' tk,cW C F W ι σ s.heap ι σ h'->cx C h' (NN F ι σ) ι env sl (ρ.set j (S val))->Q () (upd s h' tk)):wpAny C.M A (bindName env x v) Q E s:=by
 refine wpAny_bindName ?_
 refine ah fr.ns λm hm hr=> ?_
 rcases hk with ⟨hk,JA⟩| ⟨hk,y4⟩
 . refine wpAny_storeName_local hk hm (λh' hn sb=>q h' _ ?_ ?_) (by rw[ok.kind];rfl)
   . refine iO hn λo es ep H _=> ?_;exact y3 i ok.loc JA sb ⟨o,H⟩
   . have st:=iO (id hn) λo es ep H _=>y3 i ok.loc JA sb ⟨o,H⟩
     refine⟨⟨_,hn,λy k r D U a=> ?_⟩,λy k r D=> ?_⟩
     . rcases slot_set a with ⟨rfl,rfl⟩| ⟨ne,a⟩
       . have:=ds y x j r hx
         subst this
         exact⟨v,if_pos rfl,st.xr hW hv⟩
       exact ah (hr y k r D _ a) λu I L=>have:y≠x:=λe=>ne (by subst e;rw[hx]at r;exact je r);⟨u,by simp only[if_neg this];exact I,st.xr hW L⟩
     . refine bo (fr.cl y k r D) λc w G O wd=>ah O λo H Y=> ?_;refine⟨c,w,G,⟨o,(sb.2 c (ok.B8 y c G)).trans H,Y⟩,λU a=> ?_⟩
       rcases slot_set a with ⟨rfl,rfl⟩| ⟨ne,a⟩
       . have:=ds y x j r hx
         subst this
         rcases D with e|e<;>(rw[hk]at e;cases e)
       exact ah (wd _ a) λu I L=>⟨u,I,st.xr hW L⟩
 . refine bo (fr.cl x j hx (.inl hk)) λc w G v8 wd=>wpAny_storeName_cell ok.kind hk G v8 λh' hJ sb=> ?_
   have st:=y3 i (ok.mP x c G) (y4 c G) sb (let⟨o,H,_⟩:=hJ;⟨o,H⟩)
   refine q h' _ st ⟨⟨m,hm.sameBut sb (ok.B8 x c G).symm,λy k r D U a=> ?_⟩,λy k r D=> ?_⟩
   . rcases slot_set a with ⟨rfl,rfl⟩| ⟨ne,a⟩
     . have:=ds y x j r hx
       subst this
       rw[hk]at D;cases D
     exact ah (hr y k r D _ a) λu I L=>⟨u,I,st.xr hW L⟩
   . refine bo (fr.cl y k r D) λc' w' CF O YV=>ah O λo H Y=> ?_;clear O
     by_cases e:y=x
     . subst e
       rw[G]at CF;rw[hx]at r;cases r
       refine⟨c,_,G,hJ,λU a=> ?_⟩
       rcases slot_set a with ⟨_,rfl⟩| ⟨ne,_⟩
       . exact⟨v,rfl,st.xr hW hv⟩
       exact absurd rfl ne
     . refine⟨c',w',CF,⟨o,(sb.2 c' λz=>e (ok.apart y x c' CF (z▸G))).trans H,Y⟩,λU a=> ?_⟩
       rcases slot_set a with ⟨rfl,rfl⟩| ⟨ne,a⟩
       . exact absurd (ds y x j r hx) e
       exact ah (YV _ a) λu I L=>⟨u,I,st.xr hW L⟩
noncomputable def isNm (e:aI):Bool:=e.ctorIdx==23
structure Iter (C:CX)(A:Around)(aX:aI)(it:Value)(G:aO->Prop)(P:(aO->Prop)->List V->Heap->Prop):Prop where
 y6:∀ {N N':aO->Prop} {xs:List V} {h h':Heap},P N xs h->Kept h h' N N'->(∀b o,G b->h.get? b=S o->h'.get? b=S o)->P N' xs h'
 next:∀ {N:aO->Prop} {x:V} {xs:List V} (s:aT) (Q:Value->aT->Prop) (E E':Value->aT->Prop),P N (x::xs) s.heap->(∀b,G b->N b)->(∀b,s.heap.get? b=J->¬N b)->
  (∀v h' tk,P N xs h'->(∀b o,s.heap.get? b=S o->¬G b->h'.get? b=S o)->(∀b,G b->∃o,h'.get? b=S o)->VR C h' N x v->Q v (upd s h' tk))->
  wpAny C.M A (pyNext it) (λr dS=>∃v,r=S v/\wpAny C.M A (letOwnedTupleGo aX it v) (λ_ jg=>Q v jg) E' dS) E s
 stop:∀ {N:aO->Prop} (s:aT) (Q:aT->Prop) (E:Value->aT->Prop),P N [] s.heap->
  (∀h' tk,(∀b o,s.heap.get? b=S o->¬G b->h'.get? b=S o)->Q (upd s h' tk))->wpAny C.M A (pyNext it) (λr dS=>r=J/\Q dS) E s
 self:∀ {N:aO->Prop} {xs:List V} (s:aT) (Q:Value->aT->Prop) (E:Value->aT->Prop),P N xs s.heap->Q it s->wpAny C.M A (pyIter it) Q E s
structure pf (C:CX)(A:Around)(aX:aI)(F:aO->Prop)(ι:Lay)(σ:Hp)(h:Heap)(xs:List V)(it:Value)(h':Heap):Prop where
 it:∃G P,Iter C A aX it G P/\(∀b o,h.get? b=S o->h'.get? b=S o)/\(∀b,G b->h.get? b=J)/\(∀b,G b->∃o,h'.get? b=S o)/\P (NN (λb=>F b\/G b) ι σ) xs h'
theorem Iter.ofWalks {I}{fp wr}{n}{P0}{St}(W:Walks C.prog C.w A I fp wr n P0 St)(D:List aO)(U:∀b∈wr,b=I)(CG:∀b∈fp,b=I\/b∈D)
 (g5:∀i h,St i h->∃o,h.get? I=S o)(lV:∀(i:Nat) (v:Value) (s:aT) (Q:Unit->aT->Prop) (E:Value->aT->Prop),St i s.heap->Q () s->wpAny C.M A (letOwnedTupleGo aX (.ref I) v) Q E s):
 Iter C A aX (.ref I) (· =I) (λN ys h=>∃i,St i h/\i+ys.length=n/\(∀d∈D,¬N d/\∃o,h.get? d=S o)/\∀j x,ys[j]?=S x->∀v,P0 (i+j) v->VR C h N x v) where
 y6:=by
  intro N N' xs h r O;refine o4 O λi st c G H=> ?_;refine λk g=>⟨i,W.frame i h r st λb hb o e=>(CG b hb).elim ((g b o · e)) λhb=>k.get b o e (G b hb).1,c,λd Y=> ?_,λj x hx v hp=>(H j x hx v hp).mono k⟩
  . refine au (G d Y) λa aF=>ao aF λo L=> ?_;exact⟨λq=>a (k.low d o L q),o,k.get d o L a⟩
 next:=by
  intro N x xs s Q E E' O;refine o4 O λi st c G H=> ?_;refine λhG hN q=>W.item i s _ E (by simp at c;exact HN c) st λv r tk hp ay hk=> ?_
  have k:Kept s.heap r N N:=⟨λb o e n=>hk b o (λw=>n (hG b (U b w))) e,λ_ _ _ q=>q⟩
  refine⟨v,rfl,lV (i+1) v _ _ _ ay (q v r tk ⟨i+1,ay,by simp at c;exact HO c,λd Y=> ?_,λj y hy u hu=> ?_⟩ (λb o e n=>hk b o (λw=>n (U b w)) e) (λb hb=>hb▸g5 _ _ ay) ((H 0 x rfl v hp).mono k))⟩
  . refine au (G d Y) λa aF=>ao aF λo L=> ?_;exact⟨a,o,k.get d o L a⟩
  exact(H (j+1) y (by simpa using hy) u (by lia)).mono k
 stop:=by
  intro N s Q E O;refine o4 O λi st c G H=> ?_;clear O;intro q
  subst (by simpa using c)
  exact W.done s _ E st λr tk hk=>⟨rfl,q r tk λb o e n=>hk b o (λw=>n (U b w)) e⟩
 self:=by
  intro N xs s Q E O;refine o4 O λi st c G H=> ?_;exact(W.self i s Q E st)
theorem y7 {I}{c r}{n}{P0}{St}(i:aK C F ι σ h)(W:Walks C.prog C.w A I c r n P0 St)(D:List _)(O:∀b∈r,b=I)(U:∀b∈c,b=I\/b∈D)
 (u:∀i h,St i h->∃o,h.get? I=S o)(Y:∀(i:Nat) (v:Value) (s:aT) (Q:Unit->aT->Prop) (E:Value->aT->Prop),St i s.heap->Q () s->wpAny C.M A (letOwnedTupleGo aX (.ref I) v) Q E s)
 (k:∀b o,h.get? b=S o->h'.get? b=S o)(fr:h.get? I=J)(y:St 0 h'){xs}(hn:xs.length=n)(hD:∀d∈D,¬NN F ι σ d/\∃o,h.get? d=S o)
 (hv:∀j x,xs[j]?=S x->∀v,P0 j v->VR C h (NN F ι σ) x v):pf C A aX F ι σ h xs (.ref I) h':=have H:∀b,b=I->∃o,h'.get? b=S o:=λb e=>e▸u 0 h' y;au (uc (G:=(· =I)) i k (λb e=>e▸fr) H) λ_ K=>⟨_,_,.ofWalks W D O U u Y,k,λb e=>e▸fr,H,0,y,by simpa using hn,λd hd=>au (hD d hd) λa aF=>ao aF λo L=>⟨λq=>a (K.low d o L q),o,k d o L⟩,λj x hx v hp=>(hv j x hx v (by simpa using hp)).mono K⟩
theorem JB (x:h.IsListIter I l i):∃o,h.get? I=S o:=x.imp λ_ h=>h.1
theorem YW (x:h.IsTupleIter I l i):∃o,h.get? I=S o:=x.imp λ_ h=>h.1
theorem YX (x:h.IsKeyIter I l i n a):∃o,h.get? I=S o:=x.imp λ_ h=>h.1
theorem CH {Q}{E}(b:isNm a=ab)(q:Q () s):wpAny C.M A (letOwnedTupleGo a it v) Q E s:=by
 cases a<;>first|exact bA q|exact bT b
theorem YY (G:A.handled=J){H}(i:aK C F ι σ s.heap){xs}{v}(c:VR C s.heap (NN F ι σ) (.lst xs) v){Q}{E}
 (q:∀it h',pf C A H F ι σ s.heap xs it h'->Q it (upd s h' s.toks)):wpAny C.M A (pyIter v) Q E s:=by
 refine bU c λl n k O hn a r=> ?_;clear c;subst O
 have hl:s.heap.IsList l k:=⟨_,a,rfl,n,rfl⟩
 refine wpAny_pyIter_list hl (q _ _ (y7 i (.list G _ l (dx (jf a)) k) [l] (by simp) (by simp) (λj h st=>JB st.1) (λj v s Q E st q=>letGo_listiter st.1 q) (λb o e=>jE _ e)
  (gL _) ⟨⟨_,kU _ rfl,rfl,rfl⟩,hl.at λo e=>jE _ e⟩ (by rw[r.length];rfl) ?_ ?_))
 . intro d y
   simp only[dm]at y
   subst y
   exact⟨hn,_,a⟩
 . refine λj x hx v I=>ah (r.get hx) λu D L=> ?_
   rw[eK,I]at D
   cases D
   exact L
theorem YZ (H:A.handled=J){c}(I:isNm c=ab)(i:aK C F ι σ s.heap){xs}{v}(k:VR C s.heap (NN F ι σ) (.tup xs) v){Q}{E}
 (q:∀it h',pf C A c F ι σ s.heap xs it h'->Q it (upd s h' s.toks)):wpAny C.M A (pyIter v) Q E s:=by
 refine bU k λl n r O hn a y=> ?_;clear k;subst O
 have hl:s.heap.IsTuple l r:=⟨_,a,rfl,n,rfl⟩
 refine wpAny_pyIter_tuple hl (q _ _ (y7 i (.tuple H _ l (dx (jf a)) r) [l] (by simp) (by simp) (λj h st=>YW st.1) (λj v s Q E st q=>CH I q) (λb o e=>jE _ e)
  (gL _) ⟨⟨_,kU _ rfl,rfl,rfl⟩,hl.at λo e=>jE _ e⟩ (by rw[y.length];rfl) ?_ ?_))
 . intro d D
   simp only[dm]at D
   subst D
   exact⟨hn,_,a⟩
 . refine λj x hx v L=>ah (y.get hx) λu G U=> ?_
   rw[eK,L]at G
   cases G
   exact U
theorem JC (a b):Builtin.Range.rangeSize a b 1=(b - a).toNat:=by
 show(if a<b then(b - a - 1) /1+1 else 0)=_
 by_cases h:a<b
 . rw[if_pos h,Int.ediv_one _,X' _ _];exact(Y0 (Int.sub_nonneg_of_le (sd h))).symm
 . rw[if_neg h];exact(congrArg Nat.cast (X4 (Int.sub_nonpos_of_le (lT.mp h)))).symm
theorem JD (D:A.handled=J){c}(G:isNm c=ab)(i:aK C F ι σ s.heap){r}{a b}{t u v}(hr:IsRange s.heap r a b 1 t u v)(H:Builtin.Range.small a b 1=ab){Q}{E}
 (q:∀it h',pf C A c F ι σ s.heap (mN a b) it h'->Q it (upd s h' s.toks)):wpAny C.M A (pyIter (.ref r)) Q E s:=by
 refine wpAny_pyIter_range hr H (q _ _ (y7 i (.range D _ a 1 (b - a).toNat) [] (by simp) (by simp) (λj h st=>⟨_,st⟩) (λj v s Q E st q=>CH G q) (λb o e=>jE _ e)
  (gL _) ?_ (by simp[mN]) (by simp) ?_))
 . show Heap.get? _ _=_
   rw[kU _ rfl,JC _ _]
   simp
 . intro j x hx v y
   unfold mN at hx
   rw[bw]at hx
   refine gX hx λk hk O=> ?_;subst O
   have:=by
    have:=dk.mp hk
    refine ao this λ_ e=> ?_;simpa using e.symm
   subst this
   refine ao y λt O=> ?_;clear y;subst O
   exact⟨t,by rw[Int.mul_one _];rfl⟩
variable {prog:Program} {w:World} {E:Value->aT->Prop}
theorem JE (low:(d==sysModules)=ae)(hm:s.heap.get? d=S (dictOf es b))
 (c:Q (.ref s.heap.objs.size) {s with heap:=s.heap.push {cls:= .type "dict_keyiterator",data:= .fields #[.ref d,.int 0 0,.int es.length 0,.int b 0]}}):
 wpAny (model prog w) A (pyIter (.ref d)) Q E s:=by
 have a:s.TypeIs (.ref d) _:=⟨_,hm,rfl⟩
 refine wpAny_pyIter_slot a Y1 (Cz Y1 a PySem.F.entry_dict_iter (aG (aG (Y2 a (bA ?_)))) (PySem.F.args_dict_iter_1 _))
 show wpAny _ _ (Builtin.Dict.showsAll d>>=_) _ _ s
 unfold Builtin.Dict.showsAll
 refine Zrr (if_neg (by exact Zrr low gq)) (aG (bA (aG (Jx hm rfl (aG (wpAny_dictEpoch hm rfl (aG (yV (bA ⟨_,rfl,_,_,⟨_,kU _ rfl,rfl⟩,JF.lookup,?_⟩)))))))))
 simpa [rawInt]using c
theorem JG {it d}{i c}{es}{Q}(a:s.heap.IsKeyIter it d i es.length c)(hm:s.heap.get? d=S (dictOf es c))(q:es[i]?=J->A.handled=J)
 (r:∀e h',es[i]?=S e->h'.IsKeyIter it d (i+1) es.length c->Heap.SameBut it s.heap h'->Q (S e.key) (upd s h' s.toks))(u:es[i]?=J->∀h',Heap.ExtBut it s.heap h'->Q J (upd s h' s.toks)):wpAny (model prog w) A (pyNext (.ref it)) Q E s:=by
 refine cD (id a) λo k y b=> ?_
 unfold pyNext
 refine aG (wpAny_attempt (Jo a.typeIs JF
  (Cz JF a.typeIs PySem.F.entry_dict_keyiterator_next ?_ (PySem.F.args_dict_keyiterator_next_1 _))))
 refine aG (bA ?_)
 refine aG ?_
 refine aG ?_
 first|refine aG (JI a.typeIs (bA ?_))|refine aG (JJ a.typeIs (bA ?_))
 refine aG (wpAny_fieldsOf k b ?_)
 have D:Builtin.Dict_items.ownsTuple "dict_keyiterator" =false:=rfl
 rw[D,if_neg gq]
 show wpAny _ _ (if(Value.ref d== .none)=ab then _ else _) _ _ s
 rewrite[if_neg (show¬((Value.ref d== .none)=ab) from gq)]
 refine aG (bA ?_)
 refine aG (Jx hm rfl ?_)
 have hsz:es.toArray.size=es.length:=rfl
 refine Zrr (if_neg (by rw[hsz];simp)) ?_
 refine aG (bA ?_)
 refine aG (wpAny_dictEpoch hm rfl ?_)
 refine Zrr (if_neg (by simp)) ?_
 refine bA ?_
 have he:es.toArray[i]?=es[i]?:=by simp
 dsimp only
 rw[if_neg (lT.mpr (qK i)),y8 _,he]
 clear he
 cases hx:es[i]? with
 |some e=>
  rw[hx]at r
  refine aG ?_
  first|refine aG (JI a.typeIs (bA ?_))|refine aG (JJ a.typeIs (bA ?_))
  refine aG (Y3 a.typeIs ?_)
  show wpAny _ _ (setField (.ref it) 1 (rawInt (i+1)) >>=_) _ _ s
  refine aG (wpAny_setField k b (by simp) ?_)
  have x:(s.heap.update it (.mapFields (·.setIfInBounds 1 (rawInt (i+1))))).IsKeyIter it d (i+1) es.length c:=
   ⟨_,Ct _ k (Obj.isFreed_of_fields (Y4 b _)),(Obj.cls_mapFields ..).trans y,by rw[Y4 b _];simp[rawInt]⟩
  refine aG (jH ?_)
  refine aG (Y3 x.typeIs ?_)
  show wpAny _ _ (pure e.key) _ _ _
  exact bA (bA ⟨_,rfl,bA (r e _ rfl x (.update ..))⟩)
 |none=>
  rw[hx]at u q
  refine aG ?_
  first|refine aG (JI a.typeIs (bA ?_))|refine aG (JJ a.typeIs (bA ?_))
  show wpAny _ _ (setField (.ref it) 0 .none>>=_) _ _ s
  refine aG (wpAny_setField k b (by simp) ?_)
  show wpAny _ _ (newExc (.type "StopIteration") [] >>=_) _ _ _
  refine aG ?_
  simp only[newExc]
  refine aG (yV ?_ (by size_fits))
  refine aG (wpAny_of_eq (by first|rfl| (simp only;rfl)) ?_)
  refine yV ?_ (by size_fits)
  refine aG (wpAny_handled ?_)
  rw[(q rfl)]
  refine aG (bA (wpAny_throw ?_))
  refine aG (wpAny_isInstance ⟨_,kU _ rfl,rfl⟩ isSubtype_stop ?_)
  exact bA (u rfl _ (((Heap.SameBut.update ..).extBut.push _).push _))
theorem Y5 (b:s.heap.IsKeyIter it d i es.length a)
 (hm:s.heap.get? d=S (dictOf es a))(hx:es[i]?=S e)
 (c:∀h',h'.IsKeyIter it d (i+1) es.length a->Heap.SameBut it s.heap h'->Q (S e.key) (upd s h' s.toks)):wpAny (model prog w) A (pyNext (.ref it)) Q E s:=
 JG b hm (λz=>by rw[hx]at z;exact kO z) (λk h' z=>by rw[hx]at z;cases z;exact c h') λz=>by rw[hx]at z;exact kO z
theorem Y6 (a:A.handled=J)(b:s.heap.IsKeyIter it d es.length es.length c)
 (hm:s.heap.get? d=S (dictOf es c))(k:∀h',Heap.ExtBut it s.heap h'->Q J (upd s h' s.toks)):wpAny (model prog w) A (pyNext (.ref it)) Q E s:=
 JG b hm (λ_=>a) (λe _ z=>by rw[eU (ba _)]at z;exact aD z) λ_=>k
theorem JK (r:A.handled=J)(I d)(u:d≠I)(es)(k):
 Walks prog w A I [I,d] [I] es.length (λi v=>∃e,es[i]?=S e/\v=e.key) λi h=>h.IsKeyIter I d i es.length k/\h.get? d=S (dictOf es k) where
 sub:=λb hb=>by simp at hb;simp[hb]
 frame:=λ_ _ _ st hk=>⟨st.1.at λo e=>hk I (by simp) o e,hk d (by simp) _ st.2⟩
 item:=λi s Q E D st a=>Y5 st.1 st.2 (e:=es[i]) (by simp) λc x q=>a _ c _ ⟨_,by simp,rfl⟩ ⟨x,(q.2 d u).trans st.2⟩ λb o hb e=>q.extBut b o (λh=>hb (by simp[h])) e
 done:=λs Q E st a=>Y6 r st.1 st.2 λc y=>a c _ λb o hb e=>y b o (λh=>hb (by simp[h])) e
 self:=λ_ _ _ _ st a=>wpAny_pyIter_keyiter st.1 a
theorem iT.get:∀ {b:List _} {es:List _} {j:Nat} {p:V×V},iT C h N t b es->b[j]?=S p->∃e,es[j]?=S e/\VR C h N p.1 e.key:=by
 intro k
 induction k with
 |nil=>
  intro _ _ _ _ e
  exact aD e
 |cons u r o=>
  intro _ j p r' e
  refine kP r' λq x O _ _ a _ c=> ?_;clear r';subst O
  cases j with
  |zero=>simp at e;subst e;exact⟨q,rfl,a⟩
  |succ j=>simpa using o c e
theorem iT.length:∀ {ak:List _} {es:List _},iT C h N t ak es->ak.length=es.length:=by
 intro a
 induction a with
 |nil=>
  intro _ e
  cases e;rfl
 |cons k r b=>
  intro _ r'
  refine kP r' λo q O _ _ _ _ c=> ?_;clear r';subst O
  simp[b c]
theorem Y7 (G:A.handled=J){c}(H:isNm c=ab)(i:aK C F ι σ s.heap){t}{k}{v}(u:VR C s.heap (NN F ι σ) (.aU t k) v){Q}{E}
 (q:∀it h',pf C A c F ι σ s.heap (keysOf k) it h'->Q it (upd s h' s.toks)):wpAny C.M A (pyIter v) Q E s:=by
 refine nZ u λd n es O hn low a y nd=> ?_;clear u;subst O
 refine JE low a (q _ _ (y7 i (JK G _ d (dx (jf a)) es n) [d] (by simp) (by simp) (λj h st=>YX st.1) (λj v s Q E st q=>CH H q) (λb o e=>jE _ e)
  (gL _) ⟨⟨_,kU _ rfl,rfl,rfl⟩,jE _ a⟩ (by simp[keysOf,y.length]) ?_ ?_))
 . intro b hb
   simp only[dm]at hb
   subst hb
   exact⟨hn,_,a⟩
 . intro j x hx v O;refine ah O λe he I=> ?_;clear O;subst I
   unfold keysOf at hx
   rw[bw]at hx
   refine gX hx λp L O=> ?_;subst O
   refine ah (y.get L) λU D r=> ?_
   rw[he]at D;cases D
   exact r
inductive JL (C:CX)(e it l:Addr)(xs:List V)(vs:Array Value)(N:Addr->Prop)(ys:List V)(h:Heap):Prop
 |mk (j:Nat):((∃ej,IsEnum h e it j ej)/\h.IsListIter it l j/\h.IsList l vs)->ys=lR j (xs.drop j)->j<=xs.length->¬N l->bI C h N xs vs.toList->JL C e it l xs vs N ys h
theorem y9 {h}{i:Nat}(st:(∃a,IsEnum h e it i a)/\h.IsListIter it l i/\h.IsList l c):∀b,b=e\/b=it->∃o,h.get? b=S o:=by
 refine dp st λO y _=> ?_;clear st;refine ao O λa x=> ?_;clear O
 rintro b (rfl|rfl)
 . exact⟨_,x⟩
 exact JB y
theorem Y8 (hh:A.handled=J){fq}{k}{tp}{xs}{l it e}{a}(iW:l≠e)(wg:l≠it)(H:e≠it):Iter C A (.Tuple fq k tp) (.ref e) (λb=>b=e\/b=it) (JL C e it l xs a):=by
 have W:=Y9 (prog:=C.prog) (w:=C.w) hh e it l H iW wg a
 refine⟨?_,?_,?_,?_⟩
 . intro N N' ys h I P k g
   obtain ⟨j,st,O,G,D,r⟩:=P;subst O
   refine ah (id st.2.2) λo ue ot=> .mk j (W.frame j h I st λb hb o e=> ?_) rfl G (λz=>D (k.low l o ue z)) (r.mono k)
   simp only[cy,YI,or_false]at hb
   rcases hb with rfl|rfl|rfl
   . exact g b o (.inl rfl) e
   . exact g b o (.inr rfl) e
   exact k.get b o e D
 . intro N x ys s Q E E' P hG hN q
   obtain ⟨j,st,c,G,D,r⟩:=P
   have hsz:xs.length=a.size:=by rw[r.length,gO];rfl
   have L:j<xs.length:=by
    rcases j.lt_or_ge xs.length with z|z
    . exact z
    . rw[sD z]at c;cases c
   rw[ou L]at c
   refine au (iy c) λO ax=> ?_;subst O;subst ax
   refine dp st λO sC U=> ?_;clear st;refine ao O λY pg=> ?_;clear O
   have JM:a[j]?=S (a[j]'(ee L (aN hsz))):=by simp
   refine wpAny_pyNext_enum_item pg sC U JM H λaL wi y_ hT _ hk=>⟨_,rfl,wpAny_letOwnedTupleGo_enum wi λy Y_ sb=> ?_⟩
   have kk:∀b o,s.heap.get? b=S o->¬(b=e\/b=it)->y.get? b=S o:=λb o x n=>(sb.2 b λz=>n (.inl z)).trans (hk b o (λz=>n (.inl z)) (λz=>n (.inr z)) x)
   have K':Kept s.heap y N N:=⟨λb o x n=>kk b o x λz=>n (hG b z),λ_ _ _ q=>q⟩
   have ay:(∃Y,IsEnum y e it (j+1:Nat) Y)/\y.IsListIter it l (j+1)/\y.IsList l a:=
    ⟨⟨_,by simpa using Y_⟩,y_.at λo x=>(sb.2 it H.symm).trans x,U.at λo x=>kk l o x λz=>z.elim iW wg⟩
   have fo:=r.mono K'
   refine ah (fo.get (n:=j) (x:=xs[j]) (by simp)) λu hu fe=> ?_
   rw[eK,JM]at hu
   cases hu
   refine q _ y _ (.mk (j+1) ay rfl L D fo) kk (y9 ay) ?_
   refine⟨_,0,_,rfl,hN _ (gL _),(sb.2 _ ((by
    intro b hb z
    refine ao (y9 ⟨⟨Y,pg⟩,sC,U⟩ b hb) λo ho=> ?_
    rw[z,gL]at ho;exact aD ho:∀b,(b=e\/b=it)->b≠s.heap.objs.size) e (.inl rfl)).symm).trans hT,?_⟩
   exact⟨_,_,rfl,⟨_,rfl⟩,_,_,rfl,fe,rfl⟩
 . intro N s Q E P q
   obtain ⟨j,st,c,G,D,r⟩:=P
   have hsz:xs.length=a.size:=by rw[r.length,gO];rfl
   have:j=a.size:=by
    rcases j.lt_or_ge xs.length with z|z
    . rw[ou z]at c;cases c
    . exact cj (iP G (aN hsz)) (iP (aN hsz.symm) z)
   subst this
   exact W.done s _ E st λI tk hk=>⟨rfl,q I tk λb o x n=>hk b o (λz=>n (((by simp:∀b,b∈ [e,it]↔ (b=e\/b=it)) b).mp z)) x⟩
 . intro N ys s Q E P q
   obtain ⟨j,st,_⟩:=P
   exact W.self j s Q E st q
theorem Za (u:A.handled=J){fq}{k}{tp}(i:aK C F ι σ s.heap){xs}{l it e}{n}{a}{h0}(hn:¬NN F ι σ l)(y:h0.get? l=S (seqObj "list" a n))(I:bI C h0 (NN F ι σ) xs a.toList)
 (r:∀b o,h0.get? b=S o->s.heap.get? b=S o)(L:aK C F ι σ h0)(he:IsEnum s.heap e it 0 .none)(O:s.heap.IsListIter it l 0)(f1:h0.get? e=J)(f2:h0.get? it=J)(D:e≠it){Q}{E}
 (q:pf C A (.Tuple fq k tp) F ι σ h0 (lR 0 xs) (.ref e) s.heap->Q (.ref e) s):wpAny C.M A (pyIter (.ref e)) Q E s:=by
 have G:l≠e:=λz=>by lia
 have H:l≠it:=λz=>by lia
 have U:h0.IsList l a:=⟨_,y,rfl,n,rfl⟩
 have c:(∃Y,IsEnum _ e it 0 Y)/\s.heap.IsListIter it l 0/\s.heap.IsList l a:=⟨⟨_,he⟩,O,U.at λo x=>r l o x⟩
 refine(Y9 u e it l D G H a).self 0 s _ _ c (q ?_)
 have fr:∀b,b=e\/b=it->h0.get? b=none:=by lia
 exact au (uc L r fr (y9 c)) λ_ K=>⟨_,_,Y8 u G H D,r,fr,y9 c,.mk 0 c rfl (dM _) (λz=>hn (K.low l _ y z)) (I.mono K)⟩
def ov (C:CX)(A:Around)(k:aI)(F:aO->Prop)(ι:Lay)(σ:Hp)(s:aT)(t:Sem Value)(xs:List V)(a:Hp):Prop:=
 ∀(Q:Value->aT->Prop) (E:Value->aT->Prop),
  (∀it b h' o c,Step C F ι σ s.heap c a b->pf C A k F c a b xs it h'->Q it (upd s h' o))->
  wpAny C.M A t (λx q=>wpAny C.M A (pyIter x) Q E q) E s
theorem JN (o:A.handled=J){u}{e}{a}{xs}(he:EV C A F ι σ s (eval e env) (.v a) aC)(c:kT a=S xs)(b:isNm u=ab\/∃r,a= .lst r):
 ov C A u F ι σ s (eval e env) xs aC:=by
 refine λQ E q=>he _ _ λv G x H k hx=> ?_
 have go:=λit y D=>q it _ y x _ k D
 cases a with
 |lst r=>cases c;exact YY (s:=upd s _ _) o k.inv hx go
 |tup r=>
  cases c
  rcases b with b| ⟨_,e⟩
  . exact YZ (s:=upd s _ _) o b k.inv hx go
  cases e
 |aU t I=>
  cases c
  rcases b with b| ⟨_,e⟩
  . exact Y7 (s:=upd s _ _) o b k.inv hx go
  cases e
 |_=>exact aD c
theorem Zb {e b}{f}{Q}{E}(hf:(∃T,f= .type T)\/∃id,f= .builtin id)(o:notStar e=ab)(q:notStar b=ab)
 (hn:∀r,r f s->wpAny C.M A (eval (.Name x D) env) r E s)(h:wpAny C.M A (eval e env) (λv c=>wpAny C.M A (eval b env) (λu y=>wpAny C.M A (call f [v,u]) Q E y) E c) E s):wpAny C.M A (eval (.Call (.Name x D) [e,b] [] pos) env) Q E s:=by
 refine Jv (hn _ ?_)
 have k:(backTo pos (starEach [e,b] env)).any _=false:=sj (by simp[o,q])
 have ha:wpAny _ A (evalArgs f _ _ []) (λa c=>wpAny _ A (call f ([]++a.pos) a.kw) Q E c) E s:=yW k (yY (mW h (λv c G=>yY (mW G (λu y H=>CD H) λ_ _ x=>x) (ub q)) λ_ _ x=>x) (ub o))
 rcases hf with ⟨T,rfl⟩| ⟨id,rfl⟩
 . exact YH k ha
 exact Jw k ha
theorem JO {a b:Int}(c:a<aE)(k: -aE<a)(o:b<aE)(r: -aE<b):Builtin.Range.small a b 1=true:=by
 have H:∀ {x:Int},x<aE+aE-> -aE+ -aE<x-> -9223372036854775808<=x/\x<9223372036854775808:=λp q=>⟨Cc (by decide) (sd q),mR p (by decide)⟩
 have B:=H (mR o (by decide)) (mR (by decide) r)
 unfold Builtin.Range.small
 rw[JC _ _]
 unfold Builtin.Range.rangeFitsLong
 simp
 exact⟨⟨⟨H (mR c (by decide)) (mR (by decide) k),B⟩,by
  rcases(b - a).le_total 0 with q|q
  . rw[Ji q];decide
  . rw[X3 q];exact H (Int.add_lt_add o (Int.neg_lt_of_neg_lt k)) (Int.add_lt_add r (Int.neg_lt_neg c))⟩,.inr B⟩
theorem JP (i:aK C F ι σ h)(k:∀b o,h.get? b=S o->h'.get? b=S o)(a:pf C A c F ι σ h' xs it ky):pf C A c F ι σ h xs it ky:=by
 refine yx a.it λG P I q fr r p=>⟨G,P,I,λb o e=>q b o (k b o e),λb g=> ?_,r,p⟩
 cases e:h.get? b with
 |none=>rfl
 |some o=>have:=k b o e;rw[fr b g]at this;exact aD this
theorem Zd (o:A.handled=J)(ok:cQ F env)(i:aK C F ι σ s.heap){b e}{r pos}{n}(hk:env.kindOf "range" =S .globalImplicit)(u:notStar e=ab)(he:EV C A F ι σ s (eval e env) (.v (.int n)) aC)(x:n<aE)(y: -aE<n)(D:isNm b=ab):
 ov C A b F ι σ s (eval (.Call (.Name "range" r) [e] [] pos) env) (mN 0 n) aC:=by
 refine λQ E q=>CE (f:= .type "range") (.inl ⟨_,rfl⟩) u (y0 ok i hk (by simp[qt]) (rfl)) (he _ _ λv c k G a hx=> ?_)
 refine ao hx λt O=> ?_;clear hx;subst O
 exact call_range_1 (JD o D (ix (h':=c.push {cls:= .type "range",data:= .fields #[.int 0 k,.int n t,.int 1 (k+1)]}) a.inv (eP _ _)).inv (qx _ _ rfl) (JO (by unfold aE;lia) (by unfold aE;lia) x y) λit h' H=>q it c h' _ G a (JP a.inv (eP _ _) H))
theorem Ze (x:A.handled=J)(ok:cQ F env)(i:aK C F ι σ s.heap){c e a}{y pos}{n m}(hk:env.kindOf "range" =S .globalImplicit)(D:notStar e=ab)(G:notStar a=ab)(he:EV C A F ι σ s (eval e env) (.v (.int n)) aC)
 (H:∀h' I ag,Step C F ι σ s.heap ag aC h'->EV C A F ag aC (upd s h' I) (eval a env) (.v (.int m)) bj)(L:n<aE)(U: -aE<n)(Y:m<aE)(h4: -aE<m)(ht:isNm c=ab):
 ov C A c F ι σ s (eval (.Call (.Name "range" y) [e,a] [] pos) env) (mN n m) bj:=by
 refine λQ E q=>Zb (f:= .type "range") (.inl ⟨_,rfl⟩) D G (y0 ok i hk (by simp[qt]) (rfl)) (he _ _ λv aL bC bb k hx=>H aL bC bb k _ _ λu o de eJ b r=> ?_)
 refine ao hx λt O=> ?_;clear hx;subst O
 refine ao r λt' O=> ?_;clear r;subst O
 exact call_range_2 (JD x ht (ix (h':=o.push {cls:= .type "range",data:= .fields #[.int n t,.int m t',.int 1 de]}) b.inv (eP _ _)).inv (qx _ _ rfl) (JO L U Y h4) λit h' ia=>q it o h' _ eJ (k.trans b) (JP b.inv (eP _ _) ia))
theorem Zf (c:A.handled=J)(ok:cQ F env)(i:aK C F ι σ s.heap){e}{fq}{k}{tp o pos}{xs}(hk:env.kindOf "enumerate" =S .globalImplicit)(r:notStar e=ab)(he:EV C A F ι σ s (eval e env) (.v (.lst xs)) aC):
 ov C A (.Tuple fq k tp) F ι σ s (eval (.Call (.Name "enumerate" o) [e] [] pos) env) (lR 0 xs) aC:=by
 refine λQ E q=>CE (f:= .type "enumerate") (.inl ⟨_,rfl⟩) r (y0 ok i hk (by simp[qt]) (rfl)) (he _ _ λv u x y a hx=> ?_)
 refine bU hx λl n I O hn b D=> ?_;clear hx;subst O
 exact call_enumerate_list ⟨_,b,rfl,n,rfl⟩ λG he H hsz hk=>Za (fq:=fq) (k:=k) (tp:=tp) c (ix a.inv hk).inv hn b D hk a.inv he H (Cb (qL _)) (gL _) (Zg _) (q _ u G x y a)
def ig (env:PySem.Env)(W:aO->Prop)(x:Str):Prop:=
 (env.kindOf x=S .local/\W env.locals)\/(env.kindOf x=S .cell/\∀c,env.cells.lookup x=S c->W c)
inductive ph (sl:SL):List PySem.Expr->List Nat->Prop
 |nil:ph sl [] []
 |cons {x p es i is}:sl.lookup x=some i->ph sl es is->ph sl (.Name x p::es) (i::is)
def sF (sl:SL):List aI->List Nat->Bool
 | [],is=>is.isEmpty
 |e::es,is=>(vF e).any (λx=>sl.lookup x==is.head?) && !is.isEmpty&&sF sl es is.tail
theorem qM:∀ {es:List _} {is:List _},sF sl es is=ab->ph sl es is:=by
 intro c
 induction c with
 |nil=>
  intro is h
  cases Zh.mp h;exact .nil
 |cons e es k=>
  intro is h
  have a:=dF.mp h
  have b:=dF.mp a.1
  refine ah (Cp b.1) λx hx o=>ao (WH hx) λp O=> ?_;subst O
  cases is with
  |nil=>cases b.2
  |cons i is=>exact .cons (eq_of_beq o) (k a.2)
variable {ρ':Env}
theorem za (h:ph sl es is):(assignEach es env).length=is.length/\(assignEach es env).findIdx? (·.1)=J/\es.length=is.length:=by
 induction h with
 |nil=>exact⟨rfl,rfl,rfl⟩
 | @cons x p es i is _ _ a=>
  refine⟨congrArg _ a.1,?_,congrArg _ a.2.2⟩
  show((ae,assign _ _)::assignEach es _).findIdx? _=J
  rw[List.findIdx?_cons,a.2.1];rfl
theorem CJ (ds:iV sl)(hW:∀b,W b->F b)(ok:cQ F env){Q}{E}{es}{is}(h:ph sl es is):∀ {xs:List X} {a:List _} {s:aT} {ρ:Env},
 (∀x p,.Name x p∈es->ig env W x)->aK C F ι σ s.heap->cx C s.heap (NN F ι σ) ι env sl ρ->bJ C s.heap (NN F ι σ) ι xs a->gZ is xs ρ=S ρ'->
 (∀h' k,cW C F W ι σ s.heap ι σ h'->cx C h' (NN F ι σ) ι env sl ρ'->Q () (upd s h' k))->wpAny C.M A (assignInOrder ((assignEach es env).map (·.2)) a) Q E s:=by
 induction h with
 |nil=>
  intro xs a s ρ _ i fr hx e q
  cases xs with
  |cons x xs=>exact aD e
  |nil=>
   cases e;exact bA (q _ _ (.refl i W) fr)
 | @cons x p es j is hl _ o=>
  intro xs a s ρ so i fr hx hb q
  cases xs with
  |nil=>exact aD hb
  |cons y L=>
   refine bo hx λv U O u D=> ?_;clear hx;subst O
   exact aG (jH (aG (qI (wc ok i fr ds hl (so x p (.head _)) u hW λY bC c G=>o (λz r hm=>so z r (.tail _ hm)) c.inv G (c.fm hW D) hb λbF de H I=>q _ _ (c.trans H hW) I))))
theorem Zi (h:bV (.two i j) a ρ=S ρ'):∃x y,a= .tup [x,y]/\gZ [i,j] [.v x,.v y] ρ=S ρ':=by
 refine gX h λp b h=> ?_
 cases a with
 |tup xs=>
  rcases xs with _| ⟨x,_| ⟨y,_| ⟨z,r⟩⟩⟩<;>(first|exact aD b|cases b)
  exact⟨_,_,rfl,congrArg S h⟩
 |_=>exact aD b
def qN (e:aI):List PySem.Expr:=match qs e with
 |some x=>x.1.1
 |none=> [e]
noncomputable def CL:jC->List Nat
 | .one i=> [i]
 | .two i j=> [i,j]
def ow (sl:SL)(t:jC)(e:aI):Bool:=(match t with| .one _=>(n_ e).isSome| .two _ _=>(qs e).isSome) &&sF sl (qN e) (CL t)
inductive CM (sl:SL):jC->PySem.Expr->Prop
 |one {i x p}:sl.lookup x=some i->CM sl (.one i) (.Name x p)
 |two {i j es n p}:ph sl es [i,j]->CM sl (.two i j) (.Tuple es n p)
theorem JQ (h:ow sl t e=ab):CM sl t e:=by
 have h:=dF.mp h
 cases t with
 |one i=>
  refine ao (ug.mp h.1) λO _=> ?_;obtain ⟨x,a⟩:=O;subst a
  cases qM h.2 with|cons h _=>exact .one h
 |two i j=>
  refine ao (ug.mp h.1) λO _=> ?_;obtain ⟨x,a⟩:=O;subst a
  exact .two (qM h.2)
theorem zb (e:Heap.ExtBut h.objs.size h h'):∀b o,h.get? b=S o->h'.get? b=S o:=λb o x=>e b o (dx (jf x)) x
theorem JR (k:A.handled=J)(ds:iV sl)(hW:∀b,W b->F b)(ok:cQ F env){t}{e}{a}{v}{Q}{E}(o:ow sl t e=ab)
 (so:∀x p,.Name x p∈qN e->ig env W x)(i:aK C F ι σ s.heap)(fr:cx C s.heap (NN F ι σ) ι env sl ρ)(hx:VR C s.heap (NN F ι σ) a v)(hb:bV t a ρ=S ρ')
 (q:∀h' r,cW C F W ι σ s.heap ι σ h'->cx C h' (NN F ι σ) ι env sl ρ'->Q () (upd s h' r)):wpAny C.M A (assign e env v) Q E s:=by
 cases JQ o with
 |one hl=>
  cases hb
  exact aG (qI (wc ok i fr ds hl (so _ _ (.head _)) (val:= .v a) hx hW λu bC D G=>q _ _ D G))
 |two ns=>
  refine dh (Zi hb) λx y O H=> ?_;subst O;revert H;refine λhb=>bU hx λl m I O _ L c=> ?_;clear hx;subst O
  exact dp (za (env:=env) ns) λn1 U n3=>JS k ⟨_,L,rfl,m,rfl⟩ (by rw[n1,(by rw[gO.symm];rw[c.length.symm];rfl:I.size=2)];rfl) U λu ex=>have st:=ix i (zb ex);CJ ds hW ok ns so st.inv (fr.step ok i st) (st.kz c).fm hb λbF de Y jJ=>q _ _ ((st.w W).trans Y hW) jJ
def wj (C:CX)(h:Heap)(N:aO->Prop)(ι:Lay):Flow->PySem.Flow->Prop
 | .next,f=>f= .next
 | .ret x,f=>∃v,f= .ret v/\XR C h N ι x v
def PS (C:CX)(F W:aO->Prop)(env:PySem.Env)(sl:SL)(ι:Lay)(σ:Hp)(s:aT)(k:Flow)(ρ':Env)(c:Hp)(Q:PySem.Flow->aT->Prop):Prop:=∀f b o a,cW C F W ι σ s.heap a c b->cx C b (NN F a c) a env sl ρ'->wj C b (NN F a c) a k f->Q f (upd s b o)
def SV (C:CX)(A:Around)(F W:aO->Prop)(env:PySem.Env)(sl:SL)(ι:Lay)(σ:Hp)(s:aT)(t:Sem PySem.Flow)(a:Flow)(ρ':Env)(b:Hp):Prop:=
 ∀(Q:PySem.Flow->aT->Prop) (E:Value->aT->Prop),
  PS C F W env sl ι σ s a ρ' b Q->wpAny C.M A t Q E s
variable {G:aO->Prop}
theorem cx.mono (fr:cx C h N ι env sl ρ)(k:Kept h h' N N')(e:∀(n:Nat) p,ι[n]?=S p->ag[n]?=S p)(D:∀o,h.get? env.locals=S o->h'.get? env.locals=S o)(H:∀x c o,env.cells.lookup x=S c->h.get? c=S o->h'.get? c=S o):
 cx C h' N' ag env sl ρ:=ah fr.ns λm hm hr=>⟨⟨m,iO hm λo es I u r=>⟨o,es,I,D _ u,r⟩,λx j hx hk val y=>ah (hr x j hx hk _ y) λv a b=>⟨v,a,b.mono k e⟩⟩,λx j hx hk=>bo (fr.cl x j hx hk) λc w a O b=>ah O λo u L=>⟨c,w,a,⟨o,H _ _ _ a u,L⟩,λval y=>ah (b _ y) λv Q q=>⟨v,Q,q.mono k e⟩⟩⟩
theorem cQ.more (ok:cQ F env):cQ (λb=>F b\/G b) env:=⟨ok.kind,ok.glob,ok.blt,.inl ok.loc,λx c e=> .inl (ok.mP x c e),ok.apart,ok.B8⟩
theorem ig.more (so:ig env W x):ig env (λb=>W b\/G b) x:=so.imp (au · λa b=>⟨a,.inl b⟩) (au · λa b=>⟨a,λc e=> .inl (b c e)⟩)
theorem JT (i:aK C F ι σ h)(r:∀b,G b->F b)(hW:∀b,G b->W b)(k:∀b o,h.get? b=S o->¬G b->h'.get? b=S o)(y:∀b,G b->∃o,h'.get? b=S o):cW C F W ι σ h ι σ h':=by
 refine⟨⟨i.len,λb o e=>k b o (i.base b o e) λz=> ?_,λn p c u x=> ?_,i.apart,i.fresh,λb z=> ?_⟩,λb o e n w=>k b o e λz=>w (hW b z),λ_ _ e=>e,λ_ _ _ q=>q⟩
 . rw[(i.frames b (r b z)).1]at e;exact aD e
 . exact(i.cells n p c u x).mono ⟨λb o e n=>k b o e λz=>n (.inl (r b z)),λ_ _ _ q=>q⟩ (λ_ _ e=>e) λb o hb D e=>k b o e λz=>(λb hb q=>(i.fresh b q).2 hb) b (r b z) ⟨n,p,c,u,x,D,hb⟩
 . refine au (i.frames b z) λa H=>ao H λo I=> ?_;by_cases q:G b
   . exact⟨a,y b q⟩
   exact⟨a,o,k b o I q⟩
theorem JU {a k h₃ c}(r:∀b o,a.get? b=S o->k.get? b=S o)(fr:∀b,G b->a.get? b=J)(st:cW C (λb=>F b\/G b) (λb=>W b\/G b) ι σ k ag af h₃)
 (x:∀b o,h₃.get? b=S o->¬G b->c.get? b=S o)(i:aK C F ag af c):cW C F W ι σ a ag af c:=by
 have u:∀b o,a.get? b=S o->¬G b:=λb o e g=>by rw[fr b g]at e;exact aD e
 refine⟨i,λb o e n w=>x b o (st.keep b o (r b o e) n λz=>z.elim w (u b o e)) (u b o e),st.ext,λb o e q=>st.new b o (r b o e) q⟩
theorem cW.more (st:cW C F W ι σ h ag af h')(G:aO->Prop):cW C F (λb=>W b\/G b) ι σ h ag af h':=⟨st.inv,λb o e n w=>st.keep b o e n λz=>w (.inl z),st.ext,st.new⟩
theorem wj.mono (r:wj C h N ι a f)(k:Kept h h' N N'):wj C h' N' ι a f:=by
 cases a with
 |next=>exact r
 |ret x=>exact ah r λv e q=>⟨v,e,q.mono k λ_ _ e=>e⟩
def BodyOk (C:CX)(A:Around)(env:PySem.Env)(sl:SL)(body:List PySem.Stmt)(b:Env->Hp->RS):Prop:=
 ∀(F W:aO->Prop),cQ F env->(∀b,W b->F b)->(∀x,(env.kindOf x=S .local\/env.kindOf x=S .cell)->ig env W x)->∀(ρ:Env) (σ:Hp) (s:aT) (ι:Lay) a ρ' c,aK C F ι σ s.heap->cx C s.heap (NN F ι σ) ι env sl ρ->b ρ σ=S (a,ρ',c)->
  SV C A F W env sl ι σ s (execs body env) a ρ' c
inductive CN (C:CX)(env:PySem.Env)(sl:SL)(F W G:Addr->Prop)(P:(Addr->Prop)->List V->Heap->Prop)(g:List V->Env->Hp->RS)(r:Flow×Env×Hp)(bb:Lay)(aC:Hp)(bF:Heap)(s:Shared):Nat->Shared->Prop
 |mk {xs du cJ jK h₃ tk}:cW C (λb=>F b\/G b) (λb=>W b\/G b) bb aC bF du cJ h₃->cx C h₃ (NN (λb=>F b\/G b) du cJ) du env sl jK->P (NN (λb=>F b\/G b) du cJ) xs h₃->g xs jK cJ=some r->CN C env sl F W G P g r bb aC bF s xs.length (upd s h₃ tk)
def Zj (I:Nat->aT->Prop)(n:Nat)(Q:PySem.Flow->aT->Prop)(f:PySem.Flow)(s:aT):Prop:=match f with
 | .next| .cont=>∃m,m<n/\I m s
 | .brk=>Q .next s
 | .ret v=>Q (.ret v) s
theorem Zk (hh:A.handled=J)(ds:iV sl){t}{Y iter}{body}{pos}{b}{xs}{D}(hb:BodyOk C A env sl body b)(ok:cQ F env)(hW:∀b,W b->F b)
 (so:∀x,(env.kindOf x=S .local\/env.kindOf x=S .cell)->ig env W x)(ht:ow sl t Y=ab)(hk:∀x p,.Name x p∈qN Y->env.kindOf x=S .local\/env.kindOf x=S .cell)
 (hi:ov C A Y F ι σ s (eval iter env) xs aC)(fr:cx C s.heap (NN F ι σ) ι env sl ρ)(i:aK C F ι σ s.heap)(e:n8 t b xs ρ aC=S (D,ρ',af))(hs:∀x,foldedSetIterable iter env x=pure x):
 SV C A F W env sl ι σ s (exec (.For Y iter body [] pos) env) D ρ' af:=by
 refine λQ E q=>wpAny_For (hi _ _ λit aL bF de bb aB ia=>yx ia.it λG P I k1 kZ wk p0=>au (uc aB.inv k1 kZ wk) λJV zc=> ?_) hs
 have H:∀b,F b->¬G b:=λb f g=>by
  refine au (aB.inv.frames _ f) λ_ aF=>ao aF λo ho=> ?_;rw[kZ _ g]at ho;exact aD ho
 have jJ:=(fr.step ok i aB).mono zc (λ_ _ e=>e) (λo e=>k1 _ o e) λx c o _ e=>k1 _ o e
 have uh:∀b,(W b\/G b)->(F b\/G b):=λb z=>z.imp (hW b) id
 have fin:∀ {a k h₃ u jK} (f:PySem.Flow) L,cW C (λb=>F b\/G b) (λb=>W b\/G b) bb aC bF a k h₃->(∀b o,h₃.get? b=S o->¬G b->u.get? b=S o)->cx C h₃ (NN (λb=>F b\/G b) a k) a env sl jK->wj C h₃ (NN (λb=>F b\/G b) a k) a D f->
  (D,jK,k)=(D,ρ',af)->Q f (upd s u L):=by
  intro a k h₃ u jK f L st U k6 hf eq
  cases eq
  exact au (wb st.inv U H) λlW ui=>q f u L a ((aB.w W).trans (JU k1 kZ st U lW) hW) (k6.mono ui (λ_ _ e=>e) (λo e=>U _ o e (H _ ok.loc)) λx c o hc e=>U _ o e (H _ (ok.mP x c hc))) (hf.mono ui)
 refine codeAny_forLoop_any (CN C env sl F W G P (n8 t b) (D,ρ',af) bb aC bF s) ?_ xs.length (.mk (.refl JV _) jJ p0 e)
 clear jJ p0 e JV zc ia
 refine λn s' eA=>yJ λQ2 E2 hq=> ?_
 obtain @⟨ys,a,k,jK,h₃,L,st,k6,p,e⟩:=eA
 cases ys with
 |nil=>
  cases e
  exact mW (I.stop (upd s h₃ L) ((wpAny C.M A (execs [] env) Q _)) _ p λu tk' U=>JW (fin .next tk' st U k6 rfl rfl)) (λr dS hr=>by revert hr;intro O;refine au O λax hr=> ?_;clear O;subst ax;exact hq _ _ hr) λ_ _ x=>x
 |cons y ys=>
  refine kr e λCP zd e=>Hx e λf1 JX ze Zl e=>mW (I.next (upd s h₃ L) (λv jg=>wpAny C.M A (assign Y env v) (λ_ jg=>wpAny C.M A (execs body env) (Zj (CN C env sl F W G P (n8 t b) (D,ρ',af) bb aC bF s) (y::ys).length Q) _ jg) _ jg) _ _ p (λb g=> .inl (.inr g)) (λb e=>r8 st.inv e) λv u zf p4 k4 CQ hv=> ?_)
   (λr dS hr=>by revert hr;intro O;refine ah O λv ax hr=> ?_;clear O;subst ax;exact hq _ _ hr) λ_ _ x=>x
  have g6:cW C (λb=>F b\/G b) (λb=>W b\/G b) a k h₃ a k u:=JT st.inv (λb g=> .inr g) (λb g=> .inr g) k4 CQ
  have zg:∀b,W b->(F b\/G b):=λb z=> .inl (hW b z)
  refine JR (s:=(upd s u zf)) hh ds zg ok.more ht (λx p hm=>so x (hk x p hm)) g6.inv (k6.mono (g6.kept uh) (λ_ _ e=>e) (λo e=>k4 _ o e (H _ ok.loc)) λx c o hc e=>k4 _ o e (H _ (ok.mP x c hc))) hv zd λfQ CR jh uj=>hb (λb=>F b\/G b) W ok.more zg so CP k _ a f1 JX ze jh.inv uj Zl _ _ λf qO CS JY mZ wm hf=> ?_
  have uk:=jh.trans mZ zg
  have m6:=(st.trans g6 uh).trans (uk.more G) uh
  cases f1 with
  |next=>
   cases hf
   exact⟨ys.length,jc _,.mk m6 wm (I.y6 p4 (uk.kept zg) λb o g e=>uk.keep b o e (λq=>(g6.inv.fresh b q).2 (.inr g)) (λw=>H b (hW b w) g)) e⟩
  |ret x=>
   cases e
   refine ah hf λv O hx=> ?_;clear hf;subst O
   exact fin (.ret v) CS m6 (λb o e _=>e) wm ⟨v,rfl,hx⟩ rfl
def wo (C:CX)(A:Around)(env:PySem.Env)(sl:SL)(t:aI)(c:Env->Hp->Option (Bool×Hp)):Prop:=
 ∀(F:aO->Prop),cQ F env->∀(ρ:Env) (σ:Hp) (s:aT) (ι:Lay) b a,aK C F ι σ s.heap->cx C s.heap (NN F ι σ) ι env sl ρ->c ρ σ=S (b,a)->gb C A F ι σ s (isTrue t env (eval t env)) b a
inductive JZ (C:CX)(env:PySem.Env)(sl:SL)(F W:Addr->Prop)(ι:Lay)(σ:Hp)(g:Nat->Env->Hp->RS)(r:Flow×Env×Hp)(s:Shared):Nat->Shared->Prop
 |mk {n du cJ jK h₃ tk}:cW C F W ι σ s.heap du cJ h₃->cx C h₃ (NN F du cJ) du env sl jK->g n jK cJ=some r->JZ C env sl F W ι σ g r s n (upd s h₃ tk)
theorem Zm {c}{b}{u}{k}(U:wo C A env sl Y c)(hb:BodyOk C A env sl body b)(ok:cQ F env)(hW:∀b,W b->F b)
 (so:∀x,env.kindOf x=S .local\/env.kindOf x=S .cell->ig env W x)(fr:cx C s.heap (NN F ι σ) ι env sl ρ)(i:aK C F ι σ s.heap)(e:qp c b k ρ σ=S (u,ρ',af)):
 SV C A F W env sl ι σ s (exec (.While Y body [] pos) env) u ρ' af:=by
 refine λQ E q=>wpAny_While (codeAny_whileLoop (JZ C _ sl F W ι σ _ _ s) ?_ k (.mk (.refl i W) fr e))
 clear fr e i
 refine λn s' eA=>yJ λQ1 E1 a=> ?_
 obtain @⟨du,cJ,jK,h₃,tk,st,y,e⟩:=eA
 cases n with
 |zero=>exact aD e
 |succ n=>
  refine qc e λt zi h4 e=>U F ok _ _ _ _ t _ st.inv y h4 _ _ λcU zf ait o=> ?_
  have D:=y.step ok st.inv o
  have r:=st.trans (o.w W) hW
  cases t with
  |false=>
   cases e
   exact a _ _ (JW (q _ _ _ _ r D rfl))
  |true=>
   refine a _ _ (yJ λQ2 E2 hr=> ?_)
   clear a
   refine Hx e λH JX ze h5 e=>hb F W ok hW so _ _ (upd s _ _) _ H _ _ o.inv D h5 _ _ λf qO CS JY I L hf=>hr _ _ ?_
   cases H with
   |next=>
    cases hf
    exact⟨n,n.lt_succ_self,.mk (r.trans I hW) L e⟩
   |ret x=>
    cases e
    refine ah hf λv O hx=> ?_;clear hf;subst O
    exact q _ _ _ _ (r.trans I hW) L ⟨v,rfl,hx⟩
theorem J0 {t}{a}(hW:∀b,W b->F b)(o:gb C A F ι σ s (isTrue c env (eval c env)) t aC)
 (hb:∀h' r ag,Step C F ι σ s.heap ag aC h'->SV C A F W env sl ag aC (upd s h' r) (execs (if t then body else u) env) a ρ' af):SV C A F W env sl ι σ s (exec (.If c body u pos) env) a ρ' af:=by
 refine λQ E q=>wpAny_If (o _ _ λH x I k=> ?_)
 have:=hb _ x _ k Q E λf L O U y D hf=>q f _ _ _ ((k.w W).trans y hW) D hf
 cases t<;>exact this
theorem Zo {x}(ok:cQ F env)(i:aK C F ι σ s.heap)(fr:cx C s.heap (NN F ι σ) ι env sl ρ)(he:EV C A F ι σ s (eval e env) x aC):SV C A F W env sl ι σ s (exec (.Return (S e) pos) env) (.ret x) ρ aC:=λQ E q=>wpAny_Return_some (he _ _ λv b c k a hx=>q _ _ _ _ (a.w W) (fr.step ok i a) ⟨v,rfl,hx⟩)
theorem Zp {st}{rest}{a}{oy}(hW:∀b,W b->F b)(k:SV C A F W env sl ι σ s (exec st env) .next oy aC)
 (o:∀h' r ag,cW C F W ι σ s.heap ag aC h'->cx C h' (NN F ag aC) ag env sl oy->SV C A F W env sl ag aC (upd s h' r) (execs rest env) a ρ' af):SV C A F W env sl ι σ s (execs (st::rest) env) a ρ' af:=
 λQ E q=>wpAny_execs_cons (k _ _ λf D H I c u hf=>Zrr hf (o _ _ _ c u Q E λf L O U x y hf=>q f _ _ _ (c.trans x hW) y hf))
theorem Zq {st}{rest}{x}{oy}(a:SV C A F W env sl ι σ s (exec st env) (.ret x) oy aC):SV C A F W env sl ι σ s (execs (st::rest) env) (.ret x) oy aC:=
 λQ E q=>wpAny_execs_cons (a _ _ λf k o r b c hf=>ah hf λv e hx=>Zrr e (q _ _ _ _ b c ⟨v,rfl,hx⟩))
theorem Zr (i:aK C F ι σ s.heap)(fr:cx C s.heap (NN F ι σ) ι env sl ρ):SV C A F W env sl ι σ s (execs [] env) .next ρ σ:=λQ E q=>JW (q _ _ _ ι (.refl i W) fr rfl)
noncomputable def fR (scope:Scope)(kd:Str->Option NameKind)(x:Str):Option NameKind:=
 (scope.names.map λ(n,k)=>if(k== .free&&kd n==S .cell)then(n,.cell)else(n,k)).lookup x
def dN (t:jC)(e:aI):SL:=((qN e).filterMap vF).zip (CL t)
noncomputable def um (scope:Scope)(kd:Str->Option NameKind)(sl a:SL):Bool:=
 scope.kind== .function&&
 scope.names.all (λp=>scope.names.lookup p.1==S p.2) &&
 scope.names.all (λp=>p.2 != .free|| ((sl.lookup p.1).isSome&& (kd p.1==S .cell||kd p.1==S .free) && (a.lookup p.1).isNone)) &&
 scope.names.all (λp=>(p.2 != .local&&p.2 != .cell)|| (a.lookup p.1).isSome|| (sl.lookup p.1).isNone)
theorem zj {kd:Str->Option NameKind}:∀ {l:List _} {x:Str} {k:NameKind},(l.map λ(n,k)=>if k== .free&&kd n==S .cell then(n,.cell)else(n,k)).lookup x=S k->
 ∃o,l.lookup x=S o/\(o= .free/\kd x=S .cell/\k= .cell\/k=o/\¬(o= .free/\kd x=S .cell)):=by
 intro y
 induction y with
 |nil=>
  intro _ _ h
  exact aD h
 |cons D r u=>
  obtain ⟨n,o⟩:=D
  intro x k h
  simp only[dz]at h
  by_cases c:(o== .free&&kd n==S .cell)=ab
  . rw[if_pos c,k7]at h
    cases e:x==n with
    |true=>
     rw[e]at h
     simp only[jF]at h
     have:=eq_of_beq e;subst this
     simp only[fY,beq_iff_eq]at c
     exact⟨o,by simp,.inl ⟨c.1,c.2,h.symm⟩⟩
    |false=>
     rw[e]at h
     exact ah (u h) λq a b=>⟨q,by rw[k7];exact Zrr e a,b⟩
  . rw[if_neg c,k7]at h
    cases e:x==n with
    |true=>
     rw[e]at h
     simp only[jF]at h
     have:=eq_of_beq e;subst this
     simp only[fY,beq_iff_eq]at c
     exact⟨o,by simp,.inr ⟨h.symm,c⟩⟩
    |false=>
     rw[e]at h
     exact ah (u h) λq a b=>⟨q,by rw[k7];exact Zrr e a,b⟩
theorem zm:∀(l:List _) (n:Nat) (acc:List _),cellsFrom n l acc=cellsFrom n l []++acc:=by
 intro b
 induction b with
 |nil=>
  exact λ_ _=>rfl
 |cons c r a=>
  obtain ⟨name,kind⟩:=c
  intro n acc
  unfold cellsFrom
  split
  . rw[a _ _,a _ [(name,n)]];simp
  exact a n _
theorem Zt:∀(l:List _) (n:Nat) {x:Str} {c:aO},(x,c)∈cellsFrom n l []->(x,.cell)∈l:=by
 intro b
 induction b with
 |nil=>
  intro _ _ _ h
  cases h
 |cons k r a=>
  obtain ⟨name,kind⟩:=k
  intro n x c h
  unfold cellsFrom at h
  split at h
  . rename_i hk
    rw[zm]at h
    rcases b5.mp h with h|h
    . exact .tail _ (a _ h)
    . simp only[dm,kY]at h
      refine au h λO _=> ?_;clear h;subst O
      have:=eq_of_beq hk;subst this
      exact .head _
  exact .tail _ (a _ h)
theorem J1:∀(l:List _) (n:Nat) {x:Str},(x,.cell)∈l->∃c,(x,c)∈cellsFrom n l []:=by
 intro b
 induction b with
 |nil=>
  intro _ _ h
  cases h
 |cons o r a=>
  intro n x h
  unfold cellsFrom
  rcases cy.mp h with e|h
  . cases e
    exact Zrr (zm _ _ _) ⟨n,b5.mpr (.inr (.head _))⟩
  . split
    . exact ao (a _ h) λc k=>Zrr (zm _ _ _) ⟨c,b5.mpr (.inl k)⟩
    exact a n h
theorem J2 {a:Type}:∀ {l:List _} {x:Str} {c:a},(x,c)∈l->∃b,l.lookup x=S b:=by
 intro k
 induction k with
 |nil=>exact λh=>nomatch h
 |cons p r o=>
  intro x c h
  rw[k7]
  cases e:x==p.1 with
  |true=>exact⟨_,rfl⟩
  |false=>
   rcases cy.mp h with h|h
   . subst h;rw[wx]at e;exact ja e
   exact o h
theorem lookup_append {a:Type}:∀ {l r:List (Str×a)} {x:Str},(l++r).lookup x=(l.lookup x).or (r.lookup x):=by
 intro b
 induction b with
 |nil=>
  intro r x
  simp
 |cons c l o=>
  obtain ⟨k,v⟩:=c
  intro r x
  rw[CT,k7,k7]
  cases e:x==k with
  |true=>simp
  |false=>exact o
theorem Zu:∀(l:List (Str×NameKind)) (acc:List _),(∀p∈l,p.2= .free->∃c,env.cells.lookup p.1=S c)->(∀x c,acc.lookup x=S c->env.cells.lookup x=S c)->
 ∃cl,forIn l acc (λx L=>(if x.2== .free then do let a<-cellOf env x.1;pure (.yield ((x.1,a)::L))else pure (.yield L):Sem _))=pure cl/\
  (∀x c,cl.lookup x=S c->env.cells.lookup x=S c)/\(∀x c,acc.lookup x=S c->cl.lookup x=S c)/\∀x,(x,.free)∈l->cl.lookup x=env.cells.lookup x:=by
 intro Q
 induction Q with
 |nil=>
  exact λacc _ ha=>⟨_,rfl,ha,λ_ _ e=>e,λ_ h=>by cases h⟩
 |cons U r O=>
  obtain ⟨n,k⟩:=U
  intro acc hf ha
  by_cases hk:k= .free
  . subst hk
    refine ao (hf _ (.head _) rfl) λc o=>o4 (O _ (λp y=>hf p (.tail _ y)) λx q e=>by
     rw[k7]at e
     cases b:x==n with
     |true=>rw[b]at e;rw[eq_of_beq b];exact Zrr e.symm o
     |false=>rw[b]at e;exact ha x q e) λcl D H u I=> ?_
    have hn:=u n c (by simp)
    refine⟨cl,?_,H,λx q e=> ?_,λx hx=> ?_⟩
    . rw[zo _ _ _ _]
      have:cellOf env n=pure c:=by unfold cellOf;rw[o];rfl
      simp only[this]
      exact D
    . refine if b:x=n then ?_ else u x q (by rw[k7,beq_eq_false_iff_ne.mpr b];exact e)
      . subst b
        rw[hn,o.symm];exact(ha x q e).symm▸rfl
    . refine(cy.mp hx).elim (λe=> ?_) (I x)
      . cases e;rw[hn,o];rfl
  . refine o4 (O _ (λp y=>hf p (.tail _ y)) ha) λcl D H u I=>⟨cl,?_,H,u,λx hx=> ?_⟩
    . rw[zo _ _ _ _]
      have:(k== .free)=false:=by simpa using hk
      simp only[this]
      exact D
    . refine(cy.mp hx).elim (λe=> ?_) (I x)
      . cases e;exact absurd rfl hk
theorem Zv (hf:∀p∈scope.names,p.2= .free->∃c,env.cells.lookup p.1=S c):
 ∃cl,closureFor scope env=pure cl/\(∀x c,cl.lookup x=S c->env.cells.lookup x=S c)/\∀x,(x,.free)∈scope.names->cl.lookup x=env.cells.lookup x:=by
 refine o4 (Zu _ [] hf λx c e=>aD e) λcl a b _ k=>⟨cl,?_,b,k⟩
 rw[(rfl:closureFor _ _=forIn _ [] _>>=pure),a];rfl
theorem Zw {M}{Q}{E}
 (a:∀h',(∀b o,s.heap.get? b=S o->h'.get? b=S o)->h'.Ns s.heap.objs.size (λ_=>J)->CellsOk h' (s.heap.objs.size+1) (cellsFrom (s.heap.objs.size+1) scope.names [])->
  Q (newEnv scope s.heap.objs.size env.globals (cellsFrom (s.heap.objs.size+1) scope.names []++cl) env.qual J .none (S env) builtinsNs) (upd s h' s.toks)):
 wpAny M A (newFunctionEnv scope env.globals cl [] env.qual J .none (S env)) Q E s:=by
 simp only[newFunctionEnv]
 refine aG (wpAny_alloc (aG (wpAny_layCells _ (λname kind cells=>rfl) _ _ _ _ ?_)))
 have ok:=cellsFrom_ok scope.names (s.heap.push {cls:= .type "dict",data:= .dict #[]}) (s.heap.objs.size+1) [] ⟨λ_ _ hm=>(nomatch hm),.nil⟩ (by simp)
 rw[CU]at ok
 rw[CU ..,zm _ _ _]
 exact Zrr List.forIn_nil (aG (bA (bA (a _ (λb o e=>pushCells_keeps _ _ b o (jE _ e)) ((Heap.Ns.new _ _).keeps (pushCells_keeps _ _)) ok))))
noncomputable def k8 (scope:Scope)(cells:List (Str×aO))(Ca:aO)(env:PySem.Env):PySem.Env:=
 {scope:=relabel scope env,locals:=Ca,globals:=env.globals,cells:=cells,qual:=env.qual,func:=J,code:=env.code,frame:=env.frame,builtins:=env.builtins}
noncomputable def wy (t:jC)(ρ:Env):Env:=match t with
 | .one i=>ρ.set i J
 | .two i j=>(ρ.set i J).set j J
variable {aL fQ:Heap} {ts:SL}
section
variable {scope:Scope} {cells eB cl:List (Str×aO)} {Ca:aO}
theorem CV (h:slot (ρ.set i J) j=S x):slot ρ j=S x/\j≠i:=by
 by_cases e:i=j
 . subst e
   unfold slot at h
   by_cases l:i<ρ.length
   . rw[oj l]at h;exact aD h
   . rw[eU (by simp;exact gg l)]at h;exact aD h
 . rw[slot_set_ne e]at h;exact⟨h,.symm e⟩
theorem CW (o:ts=dN t q)(h:slot (wy t ρ) j=S x):slot ρ j=S x/\∀y,ts.lookup y≠S j:=by
 subst o
 have key:slot ρ j=S x/\j∉CL t:=by
  cases t with
  |one i=>
   exact au (CV h) λa b=>⟨a,λm=>b (dm.mp m)⟩
  |two i k=>
   exact au (CV h) λa b=>au (CV a) λa c=>⟨a,λm=>(cy.mp m).elim c λm=>b (dm.mp m)⟩
 exact⟨key.1,λy e=>key.2 (J3 (mem_of_lookup e)).2⟩
theorem Zx (a)(ρ):bV t a (wy t ρ)=bV t a ρ:=by
 cases t with
 |one i=>exact congrArg S (lX ..)
 |two i j=>
  refine congrArg (BW a).map (funext λz=> ?_)
  by_cases e:i=j
  . subst e;simp only[wy,lX]
  . simp only[wy]
    rw[uo _ _ e,lX _,uo _ _ e];exact Zrr (lX _) (uo _ _ (.symm e))
theorem zp (hk:env.scope.kind= .function)(x):(k8 scope cells Ca env).kindOf x=fR scope env.kindOf x:=by
 unfold k8 Env.kindOf relabel fR
 dsimp only
 rw[hk]
 simp only[beq_self_eq_true,CY]
 rfl
structure J4 (scope:Scope)(kd:Str->Option NameKind)(sl ts:SL):Prop where
 kind:scope.kind= .function
 cons:∀p∈scope.names,scope.names.lookup p.1=S p.2
 free:∀p∈scope.names,p.2= .free->(∃j,sl.lookup p.1=S j)/\(kd p.1=S .cell\/kd p.1=S .free)/\ts.lookup p.1=J
 own:∀p∈scope.names,p.2= .local\/p.2= .cell->(∃j,ts.lookup p.1=S j)\/sl.lookup p.1=J
theorem Zy (h:um scope kd sl ts=ab):J4 scope kd sl ts:=by
 unfold um at h
 simp only[fY,cF,beq_iff_eq,lY,bne_iff_ne,CZ]at h
 refine au h λO o=>au O λq r=>au q λu x=>⟨u,x,λp k hf=> ?_,λp k y=> ?_⟩
 . rcases r p k with z| ⟨⟨a,b⟩,c⟩
   . exact absurd hf z
   exact⟨ug.mp a,b,c⟩
 . rcases o p k with (z|z)|z
   . exact y.elim (absurd · z.1) (absurd · z.2)
   . exact .inl (ug.mp z)
   exact .inr z
theorem Zz {t}{aX}(ok:cQ F env)(i:aK C F ι σ aL)(fr:cx C aL (NN F ι σ) ι env sl ρ)(co:J4 scope env.kindOf sl ts)(wz:ts=dN t aX)
 (Y:∀x c,cl.lookup x=S c->env.cells.lookup x=S c)(C0:∀x,(x,.free)∈scope.names->cl.lookup x=env.cells.lookup x)(sA:eB=cellsFrom (Ca+1) scope.names [])(hc:CellsOk fQ (Ca+1) eB)(hn:fQ.Ns Ca (λ_=>J))
 (k:∀b o,aL.get? b=S o->fQ.get? b=S o)(fresh:aL.get? Ca=J)(J5:∀n c,(n,c)∈eB->aL.get? c=J)(hG:∀b,(b=Ca\/∃n,(n,b)∈eB)->G b)(K:Kept aL fQ (NN F ι σ) (NN (λb=>F b\/G b) ι σ)):
 cQ (λb=>F b\/G b) (k8 scope (eB++cl) Ca env)/\cx C fQ (NN (λb=>F b\/G b) ι σ) ι (k8 scope (eB++cl) Ca env) (ts++sl) (wy t ρ)/\
  (∀x j,ts.lookup x=S j->((k8 scope (eB++cl) Ca env).kindOf x=S .local\/(k8 scope (eB++cl) Ca env).kindOf x=S .cell)->ig (k8 scope (eB++cl) Ca env) (λb=>b=Ca\/∃n,(n,b)∈eB) x):=by
 have zr:∀x c,cl.lookup x=S c->F c/\∃o,aL.get? c=S o:=λx c e=>⟨ok.mP x c (Y x c e),(i.frames c (ok.mP x c (Y x c e))).2⟩
 have I:∀x c,(eB++cl).lookup x=S c->((x,c)∈eB/\eB.lookup x=S c)\/(eB.lookup x=J/\cl.lookup x=S c):=λx c e=>by
  rw[lookup_append]at e
  cases z:eB.lookup x with
  |none=>rw[z]at e;exact .inr ⟨rfl,by simpa using e⟩
  |some c'=>rw[z]at e;simp at e;subst e;exact .inl ⟨mem_of_lookup z,rfl⟩
 refine⟨(by
  refine⟨by show(relabel scope env).kind=_;exact co.kind,ok.glob,ok.blt,.inr (hG Ca (.inl rfl)),λx c e=> ?_,λx y c e e'=> ?_,λx c e=> ?_⟩
  . rcases I x c e with ⟨m,_⟩| ⟨_,m⟩
    . exact .inr (hG c (.inr ⟨x,m⟩))
    exact .inl (zr x c m).1
  . rcases I x c e with ⟨m,_⟩| ⟨_,m⟩<;>rcases I y c e' with ⟨L,_⟩| ⟨_,L⟩
    . exact name_of_addr hc.apart m L
    . refine au (zr y c L) λ_ u=>ao u λo r=> ?_;clear u
      rw[J5 x c m]at r;exact aD r
    . refine au (zr x c m) λ_ u=>ao u λo r=> ?_;clear u
      rw[J5 y c L]at r;exact aD r
    exact ok.apart x y c (Y x c m) (Y y c L)
  . show c≠Ca
    rcases I x c e with ⟨m,_⟩| ⟨_,m⟩
    . exact have:=(hc.empty x c m).2;fM this
    . refine au (zr x c m) λ_ u=>ao u λo r=> ?_;clear u
      intro z;rw[z,fresh]at r;exact aD r),⟨⟨_,hn,λx j hx hk val hv=> ?_⟩,λx j hx hk=> ?_⟩,λx j hx hk=> ?_⟩
 . exfalso
   rw[zp ok.kind]at hk
   refine ah (zj hk) λa hl D=> ?_
   have sG:a= .local:=by
    rcases D with ⟨_,_,e⟩| ⟨e,_⟩
    . cases e
    exact e.symm
   subst sG
   have Q:=(CW wz hv).2 x
   rw[lookup_append]at hx
   rcases co.own _ (mem_of_lookup hl) (.inl rfl)with ⟨j',H⟩|z
   . rw[H]at hx;simp at hx;subst hx;exact Q H
   cases q:ts.lookup x with
    |some j'=>rw[q]at hx;simp at hx;subst hx;exact Q q
    |none=>rw[q]at hx;simp only[ZA]at hx;dsimp only at z;rw[z]at hx;exact aD hx
 . rw[zp ok.kind]at hk
   have key:∃a,scope.names.lookup x=S a/\(a= .free\/a= .cell):=by
    rcases hk with hk|hk
    . refine ah (zj hk) λa hl D=> ?_
      rcases D with ⟨e,_,_⟩| ⟨e,_⟩
      . exact⟨a,hl,.inl e⟩
      exact⟨a,hl,.inr e.symm⟩
    . refine ah (zj hk) λa hl D=> ?_
      rcases D with ⟨_,_,e⟩| ⟨e,_⟩
      . cases e
      exact⟨a,hl,.inl e.symm⟩
   refine ah key λa hl sG=> ?_;clear key
   have hm:=mem_of_lookup hl
   rcases sG with rfl|rfl
   . (refine dp (co.free _ hm rfl) λO qP J6=> ?_;refine ao O λj' wB=> ?_;clear O)
     dsimp only at wB J6
     have H:=by rw[lookup_append,J6]at hx;simpa using hx
     (refine bo (fr.cl x j H qP) λc w wC O hv=> ?_;refine ah O λo r hd=> ?_;clear O)
     have ZC:eB.lookup x=none:=by
      cases z:eB.lookup x with
      |none=>rfl
      |some c'=>have:=(λ{x c} m=>by rw[sA]at m;exact co.cons _ (Zt _ _ m):∀ {x c},(x,c)∈eB->scope.names.lookup x=S .cell) (mem_of_lookup z);rw[hl]at this;cases this
     refine⟨c,w,by show(eB++cl).lookup x=S c;rw[lookup_append,ZC,C0 x hm,wC];rfl,⟨o,k _ _ r,hd⟩,λval C1=> ?_⟩
     refine ah (hv val (CW wz C1).1) λv e q=> ?_
     exact⟨v,e,q.mono K λ_ _ e=>e⟩
   . refine ao (J1 scope.names (Ca+1) hm) λc0 U=> ?_
     rw[<-sA]at U
     refine ao (J2 U) λc zu=> ?_
     refine⟨c,J,by show(eB++cl).lookup x=S c;rw[lookup_append,zu];rfl,(hc.empty x c (mem_of_lookup zu)).1,λval C1=> ?_⟩
     exfalso
     have Q:=(CW wz C1).2 x
     rw[lookup_append]at hx
     rcases co.own _ hm (.inr rfl)with ⟨j',H⟩|z
     . rw[H]at hx;simp at hx;subst hx;exact Q H
     . cases q:ts.lookup x with
       |some j'=>rw[q]at hx;simp at hx;subst hx;exact Q q
       |none=>rw[q]at hx;simp only[ZA]at hx;dsimp only at z;rw[z]at hx;exact aD hx
 . rcases hk with hk|hk
   . exact .inl ⟨hk,.inl rfl⟩
   . refine .inr ⟨hk,λc e=> ?_⟩
     rw[zp ok.kind]at hk
     refine ah (zj hk) λa hl D=> ?_
     rcases D with ⟨e0,_,_⟩| ⟨e0,_⟩
     . subst e0
       have:=(co.free _ (mem_of_lookup hl) rfl).2.2
       dsimp only at this;rw[hx]at this;exact kO this
     . subst e0
       refine ao (J1 scope.names (Ca+1) (mem_of_lookup hl)) λc0 U=> ?_
       rw[<-sA]at U
       refine ao (J2 U) λc' zu=> ?_
       rcases I x c e with ⟨m,_⟩| ⟨m,_⟩
       . exact .inr ⟨x,m⟩
       . rw[zu]at m;exact kO m
end
noncomputable def sI (f:V->Hp->Option (Option X×Hp)):List V->Hp->Option (List X×Hp)
 | [],σ=>S ([],σ)
 |a::r,σ=>(f a σ).bind λp=>(sI f r p.2).map λq=>(p.1.toList++q.1,q.2)
theorem ZD (f):∀(xs:List V) (σ:Hp),mO f xs σ=sI (λa σ=>(f a σ).map λp=>(S p.1,p.2)) xs σ:=by
 intro b
 induction b with
 |nil=>
  exact λ_=>rfl
 |cons a r c=>
  intro σ
  show(f a σ).bind _=((f a σ).map _).bind _
  cases f a σ with
  |none=>rfl
  |some p=>simp[c]
theorem ZE (c)(f):∀(xs:List V) (σ:Hp),qo c f xs σ=sI (λa σ=>(c a σ).bind λb=>match b.1 with|true=>(f a b.2).map λp=>(S p.1,p.2)|false=>S (J,b.2)) xs σ:=by
 intro o
 induction o with
 |nil=>
  exact λ_=>rfl
 |cons a r k=>
  intro σ
  show(c a σ).bind _=((c a σ).bind _).bind _
  cases c a σ with
  |none=>rfl
  |some b=>
   obtain ⟨b,q⟩:=b
   cases b
   . simp[k]
   . simp only[Option.bind_some]
     cases f a _ with
     |none=>rfl
     |some p=>simp[k]
theorem ZF (e:bV t a ρ=S ρ')(b):bV t b ρ'=bV t b ρ:=by
 cases t with
 |one i=>cases e;exact congrArg S (lX ..)
 |two i j=>
  refine gX e λp _ O=> ?_;subst O
  refine congrArg (BW b).map (funext λz=> ?_)
  by_cases q:i=j
  . subst q;rw[lX _,lX _,lX _,lX _];rfl
  . rw[uo _ _ q,lX _,uo _ _ q];exact Zrr (lX _) (uo _ _ (.symm q))
def zv (C:CX)(r:PySem.Env)(sl:SL)(F:aO->Prop)(D:aO)(step:Env->Hp->Option (Option X×Hp))(Body:(aT->Prop)->aT->Prop):Prop:=
 ∀(K:aT->Prop) (s:aT) (ρ:Env) (σ:Hp) (ι:Lay) (ys:List X) (o:Array Value) (n:Nat) (b:Option X) (c:Hp),
  aK C F ι σ s.heap->cx C s.heap (NN F ι σ) ι r sl ρ->s.heap.get? D=S (seqObj "list" o n)->bJ C s.heap (NN F ι σ) ι ys o.toList->ys.length+b.toList.length<aE->step ρ σ=S (b,c)->
  (∀a u k q x,cW C F (· =D) ι σ s.heap k c a->a.get? D=S (seqObj "list" q x)->bJ C a (NN F k c) k (ys++b.toList) q.toList->K (upd s a u))->Body K s
inductive CompI (C:CX)(F W:Addr->Prop)(ι:Lay)(σ af:Hp)(s:Shared)(bL:PySem.Env)(sl:SL)(P:(Addr->Prop)->List V->Heap->Prop)(B:V->Env->Option Env)(ρ:Env)(D:Addr)(go:List V->Hp->Option (List X×Hp))(zs:List X):Nat->Shared->Prop
 |mk {xs ys du cJ jK h₃ tk vs m rest}:cW C F W ι σ s.heap du cJ h₃->cx C h₃ (NN F du cJ) du bL sl jK->P (NN F du cJ) xs h₃->(∀a,B a jK=B a ρ)->h₃.get? D=some (seqObj "list" vs m)->bJ C h₃ (NN F du cJ) du ys vs.toList->go xs cJ=some (rest,af)->ys++rest=zs->
  CompI C F W ι σ af s bL sl P B ρ D go zs xs.length (upd s h₃ tk)
theorem ZG (hh:A.handled=J){t}{H}{k}{it}{ji U}{P}{D}{step}{Body}{Y}{Rn:aT->Prop}{En}
 (I:Iter C A H it ji P)(ok:cQ F k)(ds:iV sl)(ht:ow sl t H=ab)(g5:∀x p,.Name x p∈qN H->ig k U x)(y4:∀b,U b->F b)(zw:∀b,ji b->F b)(hD:F D)
 (d1:∀b,ji b->b≠D/\¬U b)(d2:¬U D)(d3:¬ji k.locals)(d4:∀x c,k.cells.lookup x=S c->¬ji c/\c≠D)(d5:k.locals≠D)
 (hb:zv C k sl F D step Body)(hz:Y.length<aE)(wa:∀b,ji b\/U b\/b=D->W b)(hW:∀b,W b->F b)
 (ZH:∀h₃ cU tk ag vs n,cW C F W ι σ s.heap ag af h₃->(∃m,h₃.Ns k.locals m)->(∀b o,h₃.get? b=S o->¬ji b->cU.get? b=S o)->h₃.get? D=S (seqObj "list" vs n)->bJ C h₃ (NN F ag af) ag Y vs.toList->Rn (upd s cU tk)):
 ∀n s',CompI C F W ι σ af s k sl P (bV t) ρ D (sI λa σ=>(bV t a ρ).bind λρ'=>step ρ' σ) Y n s'->
  wpAny C.M A (pyNext it) (λr dS=>match r with
   |none=>Rn dS
   |some v=>wpAny C.M A (letOwnedTupleGo H it v) (λ_ m8=>wpAny C.M A (assign H k v) (λ_ jg=>Body (λpn=>∃m,m<n/\CompI C F W ι σ af s k sl P (bV t) ρ D (sI λa σ=>(bV t a ρ).bind λρ'=>step ρ' σ) Y m pn) jg) En m8) En dS) En s':=by
 refine λn s' eA=>yJ λQ2 E2 hq=> ?_
 obtain @⟨xs,ys,du,cJ,jK,h₃,tk,vs,m,rest,st,fr,p,C2,hd,hx,e,zx⟩:=eA
 cases xs with
 |nil=>
  cases e
  rw[dg]at zx
  cases zx
  exact mW (I.stop (upd s h₃ tk) Rn _ p λcU tk' k3=>ZH h₃ cU tk' du vs m st (let⟨m,hm,_⟩:=fr.ns;⟨m,hm⟩) k3 hd hx) (λr dS hr=>by revert hr;intro O;refine au O λax hr=> ?_;clear O;subst ax;exact hq _ _ hr) λ_ _ x=>x
 |cons y xs=>
  refine qc e λox ze h5 e=>kr h5 λCP zd h5=>qf e λJ7 aiu h6 e=> ?_
  cases e
  refine mW (I.next (upd s h₃ tk) (λv jg=>wpAny C.M A (assign H k v) (λ_ jg=>Body _ jg) En jg) _ _ p (λb g=> .inl (zw b g)) (λb e=>r8 st.inv e) λv cU zf p4 k4 CQ hv=> ?_)
   (λr dS hr=>by revert hr;intro O;refine ah O λv ax hr=> ?_;clear O;subst ax;exact hq _ _ hr) λ_ _ x=>x
  have L:=JT st.inv zw (λb g=>wa b (.inl g)) k4 CQ
  have wq:=fr.mono (L.kept hW) (λ_ _ e=>e) (λo e=>k4 _ o e d3) λx c o hc e=>k4 _ o e (d4 x c hc).1
  have C3:=L.fm hW hx
  have m6:=st.trans L hW
  have zy:=k4 _ _ hd (λg=>(d1 _ g).1 rfl)
  clear fr p hd hx st k4
  refine JR hh ds y4 ok ht g5 L.inv wq hv ((C2 y).trans zd) λfQ CR u uj=> ?_
  clear wq hv
  refine hb _ (upd s fQ CR) CP cJ du ys vs m ox ze u.inv uj (u.keep _ _ zy (λq=>(L.inv.fresh _ q).2 hD) d2) (u.fm y4 C3) (by
   have e:Y.length=ys.length+ (ox.toList.length+J7.length):=by rw[zx.symm,aY];exact congrArg _ (aY ..)
   exact Uj hz e) h5 λqO CS JY pj m' Q ZI ZJ=> ?_
  have uk:=cW.trans ⟨u.inv,λb o e n w=>u.keep b o e n λz=>w (wa b (.inr (.inl z))),u.ext,u.new⟩ ⟨Q.inv,λb o e n w=>Q.keep b o e n λz=>w (wa b (.inr (.inr z))),Q.ext,Q.new⟩ hW
  refine⟨xs.length,jc _,.mk (m6.trans uk hW) (uj.YU ok u.inv Q (λb z=>z▸hD) (d5) (λx c hc z=>(d4 x c hc).2 z)) (I.y6 p4 (uk.kept hW) λb o g e=>Q.keep b o (u.keep b o e (λq=>(L.inv.fresh b q).2 (zw b g)) (d1 b g).2) (λq=>(u.inv.fresh b q).2 (zw b g)) (d1 b g).1) (λa=>(ZF ((C2 y).trans zd) a).trans (C2 a)) ZI ZJ h6 ((bM ..).trans zx)⟩
variable {bL:PySem.Env}
def sJ (C:CX)(A:Around)(env:PySem.Env)(sl:SL)(e:aI)(f:Env->Hp->Option (X×Hp)):Prop:=
 ∀(F:aO->Prop),cQ F env->∀(ρ:Env) (σ:Hp) (s:aT) (ι:Lay) x a,aK C F ι σ s.heap->cx C s.heap (NN F ι σ) ι env sl ρ->f ρ σ=S (x,a)->EV C A F ι σ s (eval e env) x a
theorem J8 {a}{n}{x}{v}{K:aT->Prop}{En}(i:aK C F ι σ s.heap)(c:F D)(y:s.heap.get? D=S (seqObj "list" a n))(hx:bJ C s.heap (NN F ι σ) ι k a.toList)
 (H:XR C s.heap (NN F ι σ) ι x v)(hl:k.length<aE)
 (q:∀h' I o L,cW C F (· =D) ι σ s.heap ι σ h'->h'.get? D=S (seqObj "list" o L)->bJ C h' (NN F ι σ) ι (k++ [x]) o.toList->K (upd s h' I)):
 wpAny C.M A (call (.builtin "list.append") [.ref D,v]) (λ_ O=>K O) En s:=append_at (hsz:=by rw[gO.symm,hx.length.symm];exact fO hl) y λh' sb r=>have st:cW C F (· =D) ι σ _ ι σ h':=y3 i c rfl sb ⟨_,r⟩;have u:∀b,b=D->F b:=λb z=>z▸c;q h' _ _ _ st r (Zrr zA ((st.fm u hx).append ⟨v,[],rfl,st.xr u H,rfl⟩))
theorem ZK {En k}(ok:cQ F bL)(c:F D)(he:sJ C A bL sl o f):
 zv C bL sl F D (λρ σ=>(f ρ σ).map λp=>(S p.1,p.2)) λK s=>wpAny C.M A (eval o bL) (λx r=>wpAny C.M A (call (.builtin "list.append") [.ref D,x]) (λ_ u=>K u) k r) En s:=by
 refine λK s ρ σ ι ys vs n ox af i fr y hx hl e q=>qf e λx aC hf e=> ?_
 simp only[kY]at e
 refine au e λO H=> ?_;clear e;subst O;subst H
 exact he F ok ρ σ s ι x _ i fr hf _ _ λv aL bC bb a I=>J8 a.inv c (a.keep _ _ y λq=>(i.fresh _ q).2 c) (a.fm hx) I (by simp at hl;exact gr ‹_›) λbF de pj L Q U Y=>q _ _ _ _ L ((a.w _).trans Q λb z=>z▸c) U Y
theorem ZL {f}{c}{En I L}(ok:cQ F bL)(k:F D)(he:sJ C A bL sl Q f)(U:wo C A bL sl u c):
 zv C bL sl F D (λρ σ=>(c ρ σ).bind λb=>match b.1 with|true=>(f ρ b.2).map λp=>(S p.1,p.2)|false=>S (J,b.2))
  λK s=>wpAny C.M A (isTrue u bL (eval u bL)) (λok y=>if ok=ab then wpAny C.M A (eval Q bL) (λx Y=>wpAny C.M A (call (.builtin "list.append") [.ref D,x]) (λ_ pn=>K pn) L Y) I y else K y) En s:=by
 refine λK s ρ σ ι ys vs n ox af i fr hd hx hl e q=>qc e λb aC hb e=>U F ok ρ σ s ι b _ i fr hb _ _ λaL bC bb a=> ?_
 have H:=a.keep _ _ hd λq=>(i.fresh _ q).2 k
 cases b with
 |false=>
  simp only[jF,kY]at e
  refine au e λO r=> ?_;clear e;subst O;subst r
  exact q _ _ _ vs n (a.w _) H (by simpa using a.fm hx)
 |true=>
  refine qf e λx bj hf e=> ?_
  simp only[kY]at e
  refine au e λO r=> ?_;clear e;subst O;subst r
  exact he F ok ρ _ _ _ x _ a.inv (fr.step ok i a) hf _ _ λv bF de eJ o hv=>J8 o.inv k (o.keep _ _ H λq=>(a.inv.fresh _ q).2 k) (o.fm (a.fm hx)) hv (by simp at hl;exact gr ‹_›) λh₃ qu pj n' fN ZN ZO=>q _ _ _ _ n' (((a.trans o).w _).trans fN λb z=>z▸k) ZN ZO
structure sL (C:CX)(F:aO->Prop)(Ca:aO)(ι:Lay)(σ:Hp)(h:Heap)(ag:Lay)(af:Hp)(h':Heap):Prop where
 inv:aK C (λb=>F b\/b=Ca) ag af h'
 keep:∀b o,h.get? b=S o->¬own ι σ b->h'.get? b=S o
 ext:∀(n:Nat) p,ι[n]?=S p->ag[n]?=S p
 new:∀b o,h.get? b=S o->own ag af b->own ι σ b
 fresh:h.get? Ca=J
 ns:∃m,h'.Ns Ca m
theorem sL.fin (p:sL C F c ι σ h ag af h')(i:aK C F ι σ h){a}(sb:Heap.SameBut c h' a):Step C F ι σ h ag af a/\Kept h' a (NN (λb=>F b\/b=c) ag af) (NN F ag af):=by
 have k:∀b o,h'.get? b=S o->¬b=c->a.get? b=S o:=λb o e n=>(sb.2 b n).trans e
 refine au (wb p.inv k λb f z=>by
  refine au (i.frames b f) λ_ r=>ao r λo q=> ?_;rw[z,p.fresh]at q;exact aD q) λu K=>⟨⟨u,λb o e n=>k b o (p.keep b o e n) λz=> ?_,p.ext,p.new⟩,K⟩
 rw[z,p.fresh]at e;exact aD e
theorem ZP {Ca D}{u}{vs}{n}{m}{x}{h₃ k}{ji:aO->Prop}(C6:aK C F ι σ aL)(k1:∀b o,aL.get? b=S o->fQ.get? b=S o)(I:∀b,G b->aL.get? b=J)
 (st:cW C (λb=>F b\/G b) G ι σ fQ ag af h₃)(L:∀b o,h₃.get? b=S o->¬ji b->k.get? b=S o)(gG:∀b,ji b->G b)(H:G D)(Q:G Ca)(gD:¬ji D)(J':¬ji Ca)(ne:D≠Ca)
 (hd:h₃.get? D=S (seqObj "list" vs n))(hx:bJ C h₃ (NN (λb=>F b\/G b) ag af) ag u vs.toList)(ns:∃m,h₃.Ns Ca m)(hm:kx m u af=S (x,gp)):
 ∃gK,sL C F Ca ι σ aL gK gp k/\XR C k (NN (λb=>F b\/b=Ca) gK gp) gK x (.ref D):=by
 have dj:∀b,F b->¬G b:=λb f g=>by
  refine au (C6.frames b f) λ_ aF=> ?_;refine ao aF λo ho=> ?_;clear aF
  rw[I b g]at ho;exact aD ho
 have U:=st.inv
 have ZQ:aK C (λb=>(F b\/b=Ca)\/(G b/\b≠Ca)) ag af h₃:=by
  have e:(λb=>(F b\/b=Ca)\/(G b/\b≠Ca))=λb=>F b\/G b:=by
   funext b
   apply propext
   constructor
   . rintro ((a|rfl)|a)
     . exact .inl a
     . exact .inr Q
     . exact .inr a.1
   . rintro (a|a)
     . exact .inl (.inl a)
     . by_cases z:b=Ca
       . exact .inl (.inr z)
       . exact .inr ⟨a,z⟩
  rw[e];exact U
 have ZR:∀b o,h₃.get? b=S o->¬(G b/\b≠Ca)->k.get? b=S o:=λb o e n=>L b o e λg=>n ⟨gG b g,λz=>J' (z▸g)⟩
 refine au (wb ZQ ZR λb f g=>by
  rcases f with f|rfl
  . exact dj b f g.1
  . exact g.2 rfl) λc ui=> ?_
 have Ne:NN (λb=>(F b\/b=Ca)\/(G b/\b≠Ca)) ag af=NN (λb=>F b\/G b) ag af:=by
  funext b
  apply propext
  refine or_congr ⟨?_,?_⟩ .rfl
  . rintro ((a|rfl)|a)
    . exact .inl a
    . exact .inr Q
    . exact .inr a.1
  . rintro (a|a)
    . exact .inl (.inl a)
    . by_cases z:b=Ca
      . exact .inl (.inr z)
      . exact .inr ⟨a,z⟩
 rw[Ne]at ui
 have nG:∀b o,aL.get? b=S o->¬G b:=λb o e g=>by rw[I b g]at e;exact aD e
 have keep:=λb o e n=>L b o (st.keep b o (k1 b o e) n (nG b o e)) λg=>nG b o e (gG b g)
 have new:=λb o e q=>st.new b o (k1 b o e) q
 have zy:=L D _ hd gD
 have C7:=λq=>(U.fresh D q).2 (.inr H)
 have J_:∃m,k.Ns Ca m:=by
  refine vo ns λm o es ep ho r=> ?_;clear ns
  exact⟨m,o,es,ep,L Ca _ ho J',r⟩
 have C3:=hx.mono ui λ_ _ e=>e
 unfold kx at hm
 split at hm
 . cases m
   . simp only[yZ,if_false,qe,kY]at hm
     ((refine cD hm λus hu O ax=> ?_;clear hm);obtain rfl:=O;obtain rfl:=ax)
     refine⟨ag,⟨c,keep,st.ext,new,I _ Q,J_⟩,?_⟩
     show VR C k _ (.lst us) _
     refine⟨D,n,vs,rfl,λq=> ?_,zy,bJ.kz hu C3⟩
     rcases q with (q|q)|q
     . exact dj D q H
     . exact ne q
     . exact C7 q
   . simp only[if_true,jF,kY]at hm
     ((refine au hm λO ax=> ?_;clear hm);obtain rfl:=O;obtain rfl:=ax)
     have low:∀b,own (ag++ [(D,D)]) (af++ [.lst u]) b->own ag af b\/b=D:=λb q=>(r9 c.len q).imp id λz=>z.elim id id
     have Ka:Kept h₃ k (NN (λb=>F b\/G b) ag af) (NN (λb=>F b\/b=Ca) (ag++ [(D,D)]) (af++ [.lst u])):=⟨ui.get,λb _ _ q=>by
      rcases q with (q|rfl)|q
      . exact .inl (.inl q)
      . exact .inl (.inr Q)
      . rcases low b q with q|rfl
        . exact .inr q
        . exact .inl (.inr H)⟩
     have ex:∀(n:Nat) q,ag[n]?=S q->(ag++ [(D,D)])[n]?=S q:=λn q e=>by
      rw[eQ (dk.mp e).1];exact e
     have ej:∀(n:Nat) q d,(ag++ [(D,D)])[n]?=S q->(af++ [.lst u])[n]?=S d->(n<ag.length/\ag[n]?=S q/\af[n]?=S d)\/(n=ag.length/\q=(D,D)/\d= .lst u):=λn q d a b=>by
      by_cases hn:n<ag.length
      . rw[eQ hn]at a
        rw[eQ (c.len▸hn)]at b
        exact .inl ⟨hn,a,b⟩
      . have:n=ag.length:=by
         have:=(dk.mp a).1
         simp at this;lia
        subst this
        rw[c.len]at b
        simp at a b
        exact .inr ⟨rfl,a.symm,b.symm⟩
     have vN:∀(n:Nat) q d,ag[n]?=S q->af[n]?=S d->d.isDead=ae->q.1≠D/\q.2≠D:=λn q d a b e=>⟨λz=>C7 ⟨n,q,d,a,b,e,.inl z.symm⟩,λz=>C7 ⟨n,q,d,a,b,e,.inr z.symm⟩⟩
     have nF:¬(F D\/D=Ca):=λz=>z.elim (λf=>dj D f H) ne
     refine⟨ag++ [(D,D)],⟨⟨by simp[c.len],c.base,λn q d a b=> ?_,λn m q q' d d' a a' b b' e e' og=> ?_,λb q=> ?_,c.frames⟩,keep,λn p e=>ex n p (st.ext n p e),λb o e q=> ?_,I _ Q,J_⟩,?_⟩
     . rcases ej n q d a b with ⟨_,a,b⟩| ⟨_,rfl,rfl⟩
       . refine(U.cells n q d a b).mono Ka ex λy o hy hl e=>L y o e λg=>(U.fresh y ⟨n,q,d,a,b,hl,hy⟩).2 (.inr (gG y g))
       . exact⟨rfl,_,vs,zy,hx.mono Ka ex⟩
     . rcases ej n q d a b with ⟨_,x1,x2⟩| ⟨hn,hq,hd⟩
       . rcases ej m q' d' a' b' with ⟨_,y1,y2⟩| ⟨hm,vO,er⟩
         . exact c.apart n m q q' d d' x1 y1 x2 y2 e e' og
         . refine au (vN n q d x1 x2 e) λY z2=> ?_
           rw[vO];exact⟨Y,Y,z2,z2⟩
       . rcases ej m q' d' a' b' with ⟨_,y1,y2⟩| ⟨hm,vO,er⟩
         . refine au (vN m q' d' y1 y2 e') λY z2=> ?_
           rw[hq];exact⟨Y.symm,z2.symm,Y.symm,z2.symm⟩
         . exact absurd (hn.trans hm.symm) og
     . rcases low b q with q|rfl
       . exact c.fresh b q
       . exact⟨(U.frames b (.inr H)).1,nF⟩
     . rcases low b q with q|rfl
       . exact new b o e q
       . rw[I b H]at e;exact aD e
     . exact tY c.len
 . exact aD hm
def wG (scope:Scope)(kd:Str->Option NameKind)(a:aI):Bool:=
 (qN a).all λe=>match vF e with|some x=>fR scope kd x==S .local||fR scope kd x==S .cell|none=>ab
theorem Kb (h:ph sl es is):∀x p,.Name x p∈es->∃j,((es.filterMap vF).zip is).lookup x=S j:=by
 induction h with
 |nil=>exact λ_ _ m=>nomatch m
 | @cons y q es i is _ _ a=>
  intro x p m
  show∃j,((y,i)::(es.filterMap _).zip is).lookup x=S j
  rw[k7]
  cases e:x==y with
  |true=>exact⟨i,rfl⟩
  |false=>
   rcases cy.mp m with m|m
   . cases m;rw[wx]at e;exact ja e
   exact a x p m
theorem ZS (b:ow sl t a=ab):∀x p,.Name x p∈qN a->∃j,(dN t a).lookup x=S j:=by
 cases JQ b with
 |one h=>exact Kb (.cons h .nil)
 |two h=>exact Kb h
theorem Kc {c:Type}{x}{o:c}(a:x=J)(b:x=S o):False:=by rw[a]at b;exact aD b
theorem Kd (hh:A.handled=J){use:Option (Value->Sem Unit)}{Q:Value->aT->Prop}{E:Value->aT->Prop}{e cp H iter:aI}{ZT:List aI}{scope:Scope}{pos p:Pos}{t:jC}{xs:List V}{zs:List X}{m:Bool}{x:X}
 {step:Env->Hp->Option (Option X×Hp)}(Bd:PySem.Env->aO->(Value->aT->Prop)->(aT->Prop)->aT->Prop)(he:e= .ListComp cp [⟨H,iter,ZT,0⟩] scope p)
 (ZU:∀(u:PySem.Env) (it:Value) (D:aO) (R:Result->aT->Prop) (I:Nat->aT->Prop),(∀n s,I n s->wpAny C.M A (pyNext it) (λr dS=>match r with
  |none=>R (.ok .next) dS
  |some v=>wpAny C.M A (letOwnedTupleGo H it v) (λ_ m8=>wpAny C.M A (assign H u v) (λ_ jg=>Bd u D (notedBy C.M A u λe k=>R (.error e) k) (λpn=>∃m,m<n/\I m pn) jg) (notedBy C.M A u λe k=>R (.error e) k) m8) (notedBy C.M A u λe k=>R (.error e) k) dS)
  (notedBy C.M A u λe k=>R (.error e) k) s)->∀n s,I n s->codeAny C.M A (.compLoop e 0 it (.ref D) u) R s)
 (ZV:∀(u:PySem.Env) (F':aO->Prop) (D:aO) (En:Value->aT->Prop),cQ F' u->(∀x,u.kindOf x=fR scope env.kindOf x)->F' D->zv C u (dN t H++sl) F' D step (Bd u D En))
 (ok:cQ F env)(i:aK C F ι σ s.heap)(fr:cx C s.heap (NN F ι σ) ι env sl ρ)(co:um scope env.kindOf sl (dN t H)=ab)(ds:iV (dN t H++sl))(ht:ow (dN t H++sl) t H=ab)(to:wG scope env.kindOf H=ab)
 (hs:∀x,foldedSetIterable iter env x=pure x)(hi:ov C A H F ι σ s (eval iter env) xs aC)(lV:sI (λa σ=>(bV t a ρ).bind λρ'=>step ρ' σ) xs aC=S (zs,af))(hm:kx m zs af=S (x,gp))
 (wH:∀(Ca D:aO) (Y cU:Heap) (tk:Nat) (bb gK:Lay),Step C F ι σ s.heap bb aC Y->sL C F Ca bb aC Y gK gp cU->XR C cU (NN (λb=>F b\/b=Ca) gK gp) gK x (.ref D)->compPost C.M A E use Q (.ref D) Ca (.ok .next) (upd s cU tk)):
 wpAny C.M A (comprehension e scope env pos (newList []) ae (eval iter env) use) Q E s:=by
 have zC:=Zy co
 have hz:=by
  unfold kx at hm
  split at hm
  . rename_i z;exact z
  . exact aD hm
 refine cD (Zv (λp hp hf=>by
  (refine dp (zC.free p hp hf) λO hk _=> ?_;refine ao O λj hj=> ?_;clear O)
  refine dh (fr.cl p.1 j hj hk) λc _ hc _=> ?_
  exact⟨c,hc⟩)) λcl ZW m7 C0=> ?_
 subst he
 refine wpAny_comprehension_free rfl hs ZW zC.kind (λy hy hl=>by have:=zC.cons y hy;rw[hl]at this;exact this) (hi _ _ λit Y bF de bb aB ia=> ?_)
 refine yx ia.it λji P I k1 kZ wk p0=> ?_
 refine yV ?_
 refine Zw λfQ k5 wI wJ=> ?_
 generalize wK:bF.objs.size=D at*
 generalize ZX:({cls:= .type "list",dict:=J,data:= .seq ([]:List Value).toArray}:Obj)=oD at*
 have hsz:(bF.push oD).objs.size=D+1:=by rw[CU _ _,wK];rfl
 dsimp only at k5 wI wJ ⊢
 rw[hsz]at wI wJ ⊢
 generalize sA:cellsFrom (D+1+1) scope.names []=U at*
 have wL:∀a,D<=a->Y.get? a=none:=λa ha=>by
  cases q:Y.get? a with
  |none=>rfl
  |some o=>have:=jf (k1 a o q);rw[wK]at this;exact absurd this (qw.mpr ha)
 let Wc:aO->Prop:=λb=>b=D+1\/∃n,(n,b)∈U
 let G:aO->Prop:=λb=>ji b\/Wc b\/b=D
 have uq:=λb g=>by refine ao (wk b g) λo L=> ?_;have:=jf L;rw[wK]at this;exact this
 have sN:∀b,Wc b-> @LE.le Nat _ (D+1) b:=by
  rintro b (rfl| ⟨n,hb⟩)
  . exact ba _
  . exact bp (qL _) (wJ.empty n b hb).2
 have C8:=λb o e=>k5 b o (jE _ (k1 b o e))
 have Ke:∀b,G b->Y.get? b=none:=by
  rintro b (g|g|rfl)
  . exact kZ b g
  . exact wL b (bp (qL _) (sN b g))
  . exact wL _ (ba _)
 have Kf:fQ.get? D=S (seqObj "list" #[] 0):=by
  refine k5 D _ ?_
  rw[wK.symm,ZX.symm];exact kU _ rfl
 have ZY:∀b,G b->∃o,fQ.get? b=S o:=by
  rintro b (g| (rfl| ⟨n,g⟩)|rfl)
  . refine ao (wk b g) λo L=> ?_;exact⟨o,k5 b o (jE _ L)⟩
  . refine iO wI λo _ _ L _=> ?_;clear wI;exact⟨o,L⟩
  . refine ah ((wJ.empty n b g).1) λo L _=> ?_;exact⟨o,L⟩
  . exact⟨_,Kf⟩
 refine au (uc aB.inv C8 Ke ZY) λZZ Z0=> ?_
 have mY:=fr.step ok i aB
 refine dp (Zz ok aB.inv mY zC rfl m7 C0 sA.symm wJ wI C8 (wL _ (qL _)) (λn c hc=>wL c (bp (qL _) (sN c (.inr ⟨n,hc⟩)))) (λb z=> .inr (.inl z)) Z0) λKg Z1 g5=> ?_
 have hk:∀x,(k8 scope (U++cl) (D+1) env).kindOf x=fR scope env.kindOf x:=zp ok.kind
 have kp:P (NN (λb=>F b\/G b) bb aC) xs fQ:=by
  refine au (uc aB.inv k1 kZ wk) λ_ K2=> ?_
  refine I.y6 p0 ⟨λb o e _=>k5 b o (jE _ e),λb o e q=> ?_⟩ λb o _ e=>k5 b o (jE _ e)
  have hb:=by have:=jf e;rw[wK]at this;exact this
  rcases q with (q|q|q|q)|q
  . exact .inl (.inl q)
  . exact .inl (.inr q)
  . exact absurd (sN b q) (Tp hb)
  . exact absurd q (dx hb)
  . exact .inr q
 have Z2:∀x c,(U++cl).lookup x=S c->Wc c\/∃o,Y.get? c=S o:=λx c e=>by
  rw[lookup_append]at e
  cases z:U.lookup x with
  |some c'=>rw[z]at e;simp at e;subst e;exact .inl (.inr ⟨x,mem_of_lookup z⟩)
  |none=>rw[z]at e;simp at e;exact .inr (aB.inv.frames c (ok.mP x c (m7 x c e))).2
 have T:=λn k=>ZG (s:=(upd s fQ de)) (ρ:=ρ) hh
  (Body:=Bd (k8 scope (U++cl) (D+1) env) D (notedBy C.M A (k8 scope (U++cl) (D+1) env) λe k=>compPost C.M A E use Q (.ref D) (D+1) (.error e) k))
  (En:=notedBy C.M A (k8 scope (U++cl) (D+1) env) λe k=>compPost C.M A E use Q (.ref D) (D+1) (.error e) k) I Kg ds ht
  (λx p hm=>by
   refine ao (ZS ht x p hm) λj hj=> ?_
   refine g5 x j hj ?_
   rw[hk _]
   unfold wG at to
   have:=cF.mp to _ hm
   exact(Kh.mp this).imp eq_of_beq eq_of_beq)
  (λb z=> .inr (.inr (.inl z))) (λb z=> .inr (.inl z)) (.inr (.inr (.inr rfl)))
  (λb g=>⟨dx (uq b g),λw=>by have:=uq b g;have:=sN b w;exact HW ‹_› this⟩) (λw=>by have:=sN D w;exact Tq this) (λg=>by have:=uq _ g;have e:(k8 scope (U++cl) (D+1) env).locals=D+1:=rfl;rw[e]at this;exact Ts this e)
  (λx c hc=>by
   rcases Z2 x c hc with w| ⟨o,L⟩
   . exact⟨λg=>by have:=uq c g;have:=sN c w;exact HW ‹_› this,λz=>fM (sN c w) z⟩
   . exact⟨λg=>Kc (kZ c g) L,λz=>Kc (wL c (by rw[z];exact ba _)) L⟩)
  (by show D+1≠D;exact Tt)
  (ZV _ (λb=>F b\/G b) D _ Kg hk (.inr (.inr (.inr rfl)))) hz (λb z=>z) (λb z=> .inr z)
  (λh₃ cU tk ag vs n st Z3 k3 hd hx=>by
   have ne:D≠D+1:=Tu
   refine ah (ZP (G:=G) (ji:=ji) (Ca:=D+1) aB.inv C8 Ke st k3 (λb g=> .inl g) (.inr (.inr rfl)) (.inr (.inl (.inl rfl))) (λg=>vK _ (uq D g)) (λg=>by have:=uq _ g;exact Tv this) ne hd hx Z3 hm) λgK pd Z4=> ?_
   exact wH (D+1) D Y cU tk bb gK aB pd Z4) n k
 have start:=ZU (k8 scope (U++cl) (D+1) env) it D (λr k=>compPost C.M A E use Q (.ref D) (D+1) r k) _ T xs.length (upd s fQ de)
  (.mk (ys:= []) (.refl ZZ _) Z1 kp (λa=>Zx a ρ) Kf rfl lV rfl)
 exact codeAny_compStart_list start (I.self (upd s fQ de) (λZ5 k=>codeAny C.M A (.compLoop _ 0 Z5 (.ref D) _) _ k) _ kp start)
variable {du:Lay} {cJ:Hp}
theorem sL.fin2 {u a c}(p:sL C F r ι σ h ag af u)(i:aK C F ι σ h)(hW:∀b,W b->F b)(st:cW C (λb=>F b\/b=r) W ag af u du cJ a)(sb:Heap.SameBut r a c):
 cW C F W ι σ h du cJ c/\Kept a c (NN (λb=>F b\/b=r) du cJ) (NN F du cJ):=have k:∀b o,a.get? b=S o->¬b=r->c.get? b=S o:=λb o e n=>(sb.2 b n).trans e;au (wb st.inv k λb f z=>by
 refine au (i.frames b f) λ_ y=>ao y λo x=> ?_;rw[z,p.fresh]at x;exact aD x) λD K=>⟨⟨D,λb o e n w=>k b o (st.keep b o (p.keep b o e n) (λq=>n (p.new b o e q)) w) ((λb o e z=>by rw[z,p.fresh]at e;exact aD e) b o e),λn q e=>st.ext n q (p.ext n q e),λb o e q=>by
 by_cases n:own ι σ b
 . exact n
 exact p.new b o e (st.new b o (p.keep b o e n) q)⟩,K⟩
def sO (C:CX)(A:Around)(F:aO->Prop)(env:PySem.Env)(ι:Lay)(σ:Hp)(s:aT)(e:aI)(x:X)(o:Hp):Prop:=
 ∃(scope:Scope) (gens:List Comprehension) (y:aI) (pos:Pos),e= .ListComp y gens scope pos/\firstAsync gens=ae/\∀(use:Option (Value->Sem Unit)) (Q:Value->aT->Prop) (E:Value->aT->Prop),
  (∀(a D:aO) (q c:Heap) (H:Nat) (r k:Lay) (u:Hp),Step C F ι σ s.heap r u q->sL C F a r u q k o c->XR C c (NN (λb=>F b\/b=a) k o) k x (.ref D)->compPost C.M A E use Q (.ref D) a (.ok .next) (upd s c H))->
  wpAny C.M A (comprehension e scope env (firstIterPos gens pos) (newList []) ae (firstIter gens env) use) Q E s
theorem Z6 (u:A.handled=J){q k iter}{scope}{p}{t}{xs}{r}{m}{x}{f}
 (y:∀bL,(∀x,bL.kindOf x=fR scope env.kindOf x)->sJ C A bL (dN t k++sl) q f)
 (ok:cQ F env)(i:aK C F ι σ s.heap)(fr:cx C s.heap (NN F ι σ) ι env sl ρ)(co:um scope env.kindOf sl (dN t k)=ab)(ds:iV (dN t k++sl))(H:ow (dN t k++sl) t k=ab)(L:wG scope env.kindOf k=ab)
 (O:∀x,foldedSetIterable iter env x=pure x)(U:ov C A k F ι σ s (eval iter env) xs aC)(o:mO (λa af=>(bV t a ρ).bind λρ'=>f ρ' af) xs aC=S (r,af))(hm:kx m r af=S (x,gp)):
 sO C A F env ι σ s (.ListComp q [⟨k,iter,[],0⟩] scope p) x gp:=by
 refine⟨_,_,_,p,rfl,rfl,λuse Q E Y=> ?_⟩
 rw[ZD]at o
 rw[(by
  funext a σ;rw[Option.map_bind];rfl:(λa σ=>((bV t a ρ).bind (f · σ)).map λp=>(S _,p.2))=λa σ=>(bV t a ρ).bind λρ'=>(f _ σ).map λp=>(S _,p.2))]at o
 exact Kd u (λbL D En K s=>wpAny C.M A _ (λx wD=>wpAny C.M A _ _ En _) En s) rfl
  (λbL it D R I turn n s hI=>kcp_loop I turn n hI) (λbL F' D En C9 hk hD=>ZK C9 hD (y _ hk)) ok i fr co ds H L O U o hm
  λCa D aL cU tk bb gK a b c=>Y Ca D _ _ tk _ _ _ a b c
theorem Z7 (y:A.handled=J){o k iter q}{scope}{p}{t}{xs}{r}{m}{x}{f}{c}
 (H:∀bL,(∀x,bL.kindOf x=fR scope env.kindOf x)->sJ C A bL (dN t k++sl) o f)(L:∀bL,(∀x,bL.kindOf x=fR scope env.kindOf x)->wo C A bL (dN t k++sl) q c)
 (ok:cQ F env)(i:aK C F ι σ s.heap)(fr:cx C s.heap (NN F ι σ) ι env sl ρ)(co:um scope env.kindOf sl (dN t k)=ab)(ds:iV (dN t k++sl))(O:ow (dN t k++sl) t k=ab)(U:wG scope env.kindOf k=ab)
 (Y:∀x,foldedSetIterable iter env x=pure x)(hi:ov C A k F ι σ s (eval iter env) xs aC)
 (u:qo (λa af=>(bV t a ρ).bind (c · af)) (λa af=>(bV t a ρ).bind (f · af)) xs aC=S (r,af))(hm:kx m r af=S (x,gp)):
 sO C A F env ι σ s (.ListComp o [⟨k,iter,[q],0⟩] scope p) x gp:=by
 refine⟨_,_,_,p,rfl,rfl,λuse Q E wH=> ?_⟩
 rw[ZE]at u
 exact Kd y (λbL D En K s=>wpAny _ A _ (λok yT=>if ok=ab then wpAny C.M A _ (λx wD=>wpAny _ A _ _ En _) En _ else K _) En s) rfl
  (λbL it D R I turn n s hI=>kct_loop I turn n hI) (λbL F' D En C9 hk hD=>ZL C9 hD (H _ hk) (L _ hk)) ok i fr co ds O U Y hi (by
  refine(congrArg ((sI · xs _)) ?_).trans u
  funext a σ
  cases bV t a ρ with
  |none=>rfl
  |some ρ'=>rfl) hm
  (λCa D aL cU tk bb gK a b c=>wH Ca D _ _ tk _ _ _ a b c)
theorem Z8 {scope}{Q}{E}(ha:firstAsync gens=ae)(h:wpAny C.M A (comprehension (.ListComp a gens scope pos) scope env (firstIterPos gens pos) (newList []) ae (firstIter gens env) J) Q E s):wpAny C.M A (eval (.ListComp a gens scope pos) env) Q E s:=by
 rw[eval_ListComp _ _ _ _];exact Zrr ha h
theorem Z9 {E}{acc}{a}{s}(h:∃m,s.heap.Ns a m/\∀h',Heap.SameBut a s.heap h'->Q acc (upd s h' s.toks)):compPost C.M A E J Q acc a (.ok .next) s:=h
theorem Ki (a:sO C A F env ι σ s e x gp):EV C A F ι σ s (eval e env) x gp:=by
 revert a;intro O;refine qh O λscope gens o pos c ha a=> ?_;clear O;subst c
 exact λQ E q=>Z8 ha (a _ Q E λr D u y k H I L st b hx=>Z9 (ao b.ns λm hm=>⟨m,hm,λU sb=>have z:=b.fin st.inv sb;q _ _ k _ (st.trans z.1) (hx.mono z.2 λ_ _ e=>e)⟩))
theorem Z' {scope}{y}{Q}{E}(ha:firstAsync gens=ae)
 (b:swapsWith (.ListComp a gens scope pos) (S (.Name y py)) c.line env=pure ab)
 (h:wpAny C.M A (comprehension (.ListComp a gens scope pos) scope env (firstIterPos gens pos) (newList []) ae (firstIter gens env) (S (assign (.Name y py) env))) (λ_=>Q .next) E s):
 wpAny C.M A (exec (.Assign [.Name y py] (.ListComp a gens scope pos) c) env) Q E s:=by
 rw[exec_Assign_Name_used _ _ _ _ b];rewrite[arm_evalThenUse_ListComp];exact Zrr ha (aG (qI (aG (aG (mW h (λ_ _ z=>bA (bA z)) λ_ _ z=>z)))))
theorem Z_ {E}{acc}{b}{s}(h:wpAny C.M A (u acc) (λ_ a=>∃m,a.heap.Ns b m/\∀h',Heap.SameBut b a.heap h'->Q .none (upd a h' a.toks)) E s):
 compPost C.M A E (S u) Q acc b (.ok .next) s:=h
theorem aaa {j}(u:sO C A F env ι σ s e x gp)(ok:cQ F env)(i:aK C F ι σ s.heap)(fr:cx C s.heap (NN F ι σ) ι env sl ρ)(ds:iV sl)
 (hy:sl.lookup y=S j)(so:ig env W y)(hW:∀b,W b->F b)(oz:swapsWith e (S (.Name y py)) C'.line env=pure ab):
 SV C A F W env sl ι σ s (exec (.Assign [.Name y py] e C') env) .next (ρ.set j (S x)) gp:=by
 revert u;intro O;refine qh O λscope gens cp pos ax ha u=> ?_;clear O;subst ax
 refine λQ E q=>Z' ha oz (u _ _ _ λH D aL cU tk bb eJ aC st a hx=>Z_ ?_)
 have U:=λb f q=>(st.inv.fresh b q).2 f
 have Y:∀b,F b->b≠H:=λb f z=>by
  refine au (st.inv.frames b f) λ_ I=>ao I λo k=> ?_;rw[z,a.fresh]at k;exact aD k
 exact vo a.ns λm o es ep k r=>aG (qI (wc ok.more a.inv ((fr.step ok i st).mono ⟨λb o e n=>a.keep b o e λq=>n (.inr q),λb o e q=>by
  rcases q with (q|rfl)|q
  . exact .inl q
  . rw[a.fresh]at e;exact aD e
  exact .inr (a.new b o e q)⟩ a.ext (λo e=>a.keep _ o e (U _ ok.loc)) λx c o L e=>a.keep _ o e (U _ (ok.mP x c L))) ds hy so hx (λb w=> .inl (hW b w)) λfQ CR jh uj=>⟨m,⟨o,es,ep,jh.keep _ _ k (λq=>(a.inv.fresh _ q).2 (.inr rfl)) λw=>by
  refine au (st.inv.frames H (hW H w)) λ_ I=>ao I λo k=> ?_;rw[a.fresh]at k;exact aD k,r⟩,λqO sb=>have z:=a.fin2 st.inv hW jh sb;q _ _ _ _ ((st.w W).trans z.1 hW) (uj.mono z.2 (λ_ _ e=>e) (λo e=>(sb.2 _ (Y _ ok.loc)).trans e) λx c o L e=>(sb.2 _ (Y _ (ok.mP x c L))).trans e) rfl⟩))
noncomputable def wM (e:aI):Bool:=8<=e.ctorIdx&&e.ctorIdx<=10
theorem Kj (h:wM a=ae):swapsWith a b line env=pure false:=by
 cases a<;>first|rfl|exact ja h
theorem aab (env)(v o)(f)(p)(l):swapsWith v (S (.Attribute o f p)) l env=pure false:=by cases v<;>rfl
theorem aac (env)(v o k)(p)(l):swapsWith v (S (.Subscript o k p)) l env=pure false:=by cases v<;>rfl
theorem C_ (env)(v)(es)(k)(p)(l):swapsWith v (S (.Tuple es k p)) l env=pure false:=by cases v<;>rfl
noncomputable def Kk (kd:Str->Option NameKind)(scope:Scope)(pos:Pos)(y:Str)(py:Pos):Bool:=
 kd y==S .local&&py.line==pos.line&& !(scope.names.any λ(n,k)=>n==y&& (k== .local||k== .cell))
theorem aad {y}{line}(hb:env.scope.kind= .function):
 swapsWith (.ListComp cp gens scope pos) (S (.Name y py)) line env=pure (Kk env.kindOf scope pos y py):=by
 show pure _=pure _
 have:(env.blockKind== .function)=true:=by unfold Env.blockKind;rw[hb];rfl
 rw[this];rfl
theorem Kl {j}{x}(he:EV C A F ι σ s (eval c env) x aC)(ok:cQ F env)(i:aK C F ι σ s.heap)(fr:cx C s.heap (NN F ι σ) ι env sl ρ)(ds:iV sl)
 (k:sl.lookup y=S j)(so:ig env W y)(hW:∀b,W b->F b)(o:swapsWith c (S (.Name y py)) pos.line env=pure ae):
 SV C A F W env sl ι σ s (exec (.Assign [.Name y py] c pos) env) .next (ρ.set j (S x)) aC:=λQ E q=>yqI (he _ _ λv D H I a hx=>aG (qI (wc ok a.inv (fr.step ok i a) ds k so hx hW λL O r u=>q _ _ _ _ ((a.w W).trans r hW) u rfl))) o rfl
theorem aae {o x}{f}{c e}{pos p}(k:EV C A F ι σ s (eval c env) x aC)(he:∀h' r ag,Step C F ι σ s.heap ag aC h'->EV C A F ag aC (upd s h' r) (eval e env) o bj)(ha:r6 bj o f x=S cJ)
 (ok:cQ F env)(i:aK C F ι σ s.heap)(fr:cx C s.heap (NN F ι σ) ι env sl ρ)(u:∀b,W b->F b):SV C A F W env sl ι σ s (exec (.Assign [.Attribute e (C.fld f) p] c pos) env) .next ρ cJ:=λQ E q=>yqI (k _ _ λv D H I a hx=>XY a.inv hx (he _ _ _ a) ha λL O U y=>have st:=a.trans y;q _ _ _ _ (st.w W) (fr.step ok i st) rfl) (aab env _ e (C.fld f) p pos.line) rfl
theorem Km (ws)(f)(e:f a=ws)(m):∃b,.mapSeq f (seqObj "list" a m)=seqObj "list" ws b:=by
 subst e
 exact⟨_,rfl⟩
theorem bJ.set {w:Value}(hx:XR C h N ι x w):∀ {j:Nat} {xs:List X} {vs:List _},bJ C h N ι xs vs->bJ C h N ι (xs.set j x) (vs.set j w):=by
 intro j c
 induction c generalizing j with
 |nil=>exact λe=>by cases e;rfl
 |cons y xs k=>
  intro vs r
  revert r;intro O;refine bo O λv r o a b=> ?_;clear O;subst o
  cases j with
  |zero=>exact⟨w,r,rfl,hx,b⟩
  |succ j=>exact⟨v,_,rfl,a,k b⟩
theorem aaf (i:aK C F ι σ s.heap){o x}{k}{v u w}{Q}{E}(ho:XR C s.heap (NN F ι σ) ι o v)(hk:VR C s.heap (NN F ι σ) k u)(hx:XR C s.heap (NN F ι σ) ι x w)
 (e:mM σ o k x=S af)(hr:A.units+64<cLine)(q:∀h' y,Step C F ι σ s.heap ι af h'->Q () (upd s h' y)):wpAny C.M A (setItem v u w) Q E s:=by
 cases o with
 |v a=>exact aD e
 |ref n=>
  refine ah ho λp c O=> ?_;clear ho;subst O
  refine ah (oh e) λcc r e=> ?_
  cases cc with
  |lst xs=>cases k with
   |int j=>
    refine au (kX e) λhj O=> ?_;subst O
    refine au (i.cells n p _ c r) λD H=>dh H λm vs I cR=> ?_;refine ao hk λt O=> ?_;clear hk;subst O
    have hz:xs.length=vs.size:=by rw[cR.length];rfl
    exact ao (Km (vs.setIfInBounds j.toNat w) (λxs=>xs.setIfInBounds j.toNat w) rfl m) λL Dc=>ki_setAt I hj.1 (by have:=hj.2.2;unfold aE at this;lia) (by lia) (q _ s.toks (have K:=⟨λb o e L=>update_other _ _ _ (λz=>L (.inr (by exact Zrr z ⟨n,p,_,c,r,rfl,.inl rfl⟩))) e,λ_ _ _ q=>q⟩;yS i c r rfl rfl (λb o e U _=>update_other _ _ _ U e) ⟨D,L,_,(by refine Zrr (Ct _ I (rfl)) ?_;rw[Dc];rfl),Zrr Kn ((cR.mono K λ_ _ e=>e).set (hx.mono K λ_ _ e=>e))⟩))
   |_=>exact aD e
  |aU t ak=>
   refine au (kX e) λt9 O=> ?_;subst O
   refine dp (i.cells n p _ c r) λD low H=>bo H λm es I zF nd=> ?_;refine Xy (sf i c r) t9.1 hk hx hr t9.2 (.inr ⟨n,p,_,c,r,rfl,.inl rfl⟩) λh' y sb D'=>q h' y ?_
   obtain ⟨Y,m',eh,aah,aai,sP⟩:=D'
   exact yS i c r rfl rfl (λb o eo U _=>(sb.2 b U).trans eo) ⟨D,Y,m',eh,aah,aai,sP⟩
  |_=>exact aD e
theorem aaj {o x}{k}{r e f}{pos p}{y}(hr:A.units+64<cLine)(L:EV C A F ι σ s (eval r env) x aC)(he:∀h' b ag,Step C F ι σ s.heap ag aC h'->EV C A F ag aC (upd s h' b) (eval e env) o bj)
 (hf:∀h' b ag,Step C F ι σ s.heap ag bj h'->EV C A F ag bj (upd s h' b) (eval f env) (.v k) cJ)(ha:mM cJ o k x=S y)
 (ok:cQ F env)(i:aK C F ι σ s.heap)(fr:cx C s.heap (NN F ι σ) ι env sl ρ):SV C A F W env sl ι σ s (exec (.Assign [.Subscript e f p] r pos) env) .next ρ y:=λQ E q=>wpAny_Assign_Subscript (L _ _ λv U Y bb D hx=>he _ _ _ D _ _ λu bF de eJ H O=>have I:=D.trans H;hf _ _ _ I _ _ λw h₃ qu du a hk=>aaf a.inv (a.xr O) hk (a.xr (H.xr hx)) ha hr λcU zf c=>have st:=(I.trans a).trans c;q _ _ _ _ (st.w W) (fr.step ok i st) rfl) (aac _ _ e f p _)
theorem aal (H:A.handled=J){c}{k}{o pos}{r}{is}{xs}(he:EV C A F ι σ s (eval r env) (.v (.tup xs)) aC)(ok:cQ F env)(i:aK C F ι σ s.heap)(fr:cx C s.heap (NN F ι σ) ι env sl ρ)(ds:iV sl)
 (hn:sF sl c is=ab)(so:∀x p,.Name x p∈c->ig env W x)(hW:∀b,W b->F b)(hb:gZ is (xs.map .v) ρ=S ρ')(hl:xs.length=is.length)(hw:swappedStores [.Tuple c k o] r env=pure J):
 SV C A F W env sl ι σ s (exec (.Assign [.Tuple c k o] r pos) env) .next ρ' aC:=by
 refine λQ E q=>Assign_Tuple (he _ _ λv aL bC bb y hx=> ?_) (C_ env _ c k o pos.line) hw
 refine bU hx λa m I O _ L D=> ?_;clear hx;subst O
 exact dp (za (env:=env) (qM hn)) λn1 U n3=>JS H ⟨_,L,rfl,m,rfl⟩ (by rw[n1,(by rw[hl.symm];rw[D.length];rfl:I.size=is.length)];rfl) U λbF ex=>have u:=ix y.inv (zb ex);have st:=y.trans u;CJ ds hW ok (qM hn) so u.inv (fr.step ok i st) ((u.kz D).fm) hb λh₃ qu Y k6=>q _ _ _ _ ((st.w W).trans Y hW) k6 rfl
theorem aam {x}(ok:cQ F env)(i:aK C F ι σ s.heap)(fr:cx C s.heap (NN F ι σ) ι env sl ρ)(he:EV C A F ι σ s (eval e env) x aC)(b:wM e=ae):
 SV C A F W env sl ι σ s (exec (.Expr e pos) env) .next ρ aC:=by
 refine λQ E q=>wpAny_Expr_any (he _ _ λv c k o a hx=>q _ _ _ _ (a.w W) (fr.step ok i a) rfl) ?_ (Kj b)
 unfold interactive
 rw[ok.kind];rfl
theorem zG (q:own ι (σ.set n .dead) b):own ι σ b/\∃m p c,m≠n/\ι[m]?=S p/\σ[m]?=S c/\c.isDead=ae/\(b=p.1\/b=p.2):=by
 refine bU q λm p c o a k hb=> ?_;clear q
 by_cases e:m=n
 . subst e
   by_cases l:m<σ.length
   . rw[oj l]at a;cases a;exact ja k
   . rw[eU (by simp;exact gg l)]at a;exact aD a
 . rw[dG (.symm e)]at a
   exact⟨⟨m,p,c,o,a,k,hb⟩,m,p,c,e,o,a,k,hb⟩
theorem aan (i:aK C F ι σ h)(n):Step C F ι σ h ι (σ.set n .dead) h:=by
 have c:∀(m:Nat) d,(σ.set n .dead)[m]?=S d->d.isDead=ae->σ[m]?=S d:=λm d a b=>by
  by_cases e:m=n
  . subst e
    by_cases l:m<σ.length
    . rw[oj l]at a;cases a;exact ja b
    . rw[eU (by simp;exact gg l)]at a;exact aD a
  . rw[dG (.symm e)]at a;exact a
 refine⟨⟨by simp[i.len],i.base,λm q d a b=> ?_,λm k q y d r a D b H e u ne=>i.apart m k q y d r a D (c m d b e) (c k r H u) e u ne,λb q=>i.fresh b (zG q).1,i.frames⟩,λ_ _ e _=>e,λ_ _ e=>e,λb _ _ q=>(zG q).1⟩
 cases x:d.isDead with
 |true=>cases d<;>first|exact trivial|exact bT x
 |false=>exact(i.cells m q d a (c m d b x)).mono ⟨λb o e _=>e,λb o e q=>q.imp id λz=>(zG z).1⟩ (λ_ _ e=>e) λ_ _ _ _ e=>e
def zH (C:CX)(F:aO->Prop)(ι:Lay)(h:Heap)(k:Nat):Prop:=∀ {σ a:Hp} {x:X} {v:V} {u:Value},fz k σ x=S (v,a)->aK C F ι σ h->XR C h (NN F ι σ) ι x u->Step C F ι σ h ι a h/\VR C h (NN F ι a) v u
theorem Dd {σ b}{x}{xs:List q}{c:List r}(e:jD f σ (x::xs)=S (c,b)):∃y aC a,f σ x=S (y,aC)/\jD f aC xs=S (a,b)/\c=y::a:=by
 refine qc e λy aC k e=>qf e λa u o e=> ?_
 cases e
 exact⟨y,_,_,k,o,rfl⟩
theorem Kp {b:Type}{a}{o}{y:b×V}{σ:Hp}(e:(o.map λq=>((a,q.1),q.2))=S (y,σ)):∃v,o=S (v,σ)/\y=(a,v):=by
 refine qf e λv c h e=> ?_
 cases e
 exact⟨v,h,rfl⟩
theorem aao (K:zH C F ι h k){xs}:∀ {o:List _} {σ c:Hp} {q:List V},jD (fz k) σ xs=S (q,c)->aK C F ι σ h->bJ C h (NN F ι σ) ι xs o->Step C F ι σ h ι c h/\bI C h (NN F ι c) q o:=by
 induction xs with
 |nil=>
  intro o σ c q e i r
  cases e
  cases r
  exact⟨.refl i,rfl⟩
 |cons x xs D=>
  intro o σ c q e i r
  revert r;intro O;refine bo O λw r H a b=> ?_;clear O;subst H
  refine yy (Dd e) λy Y ur I L O=> ?_;subst O
  exact au (K I i a) λs1 Q=>au (D L s1.inv (s1.fm b)) λu U=>⟨s1.trans u,w,r,rfl,u.vr Q,U⟩
theorem aap (K:zH C F ι h k){xs}:∀ {D:List _} {σ o:Hp} {u:List _},jD (λσ p=>(fz k σ p.2).map λq=>((p.1,q.1),q.2)) σ xs=S (u,o)->aK C F ι σ h->fX C h (NN F ι σ) ι t xs D->Step C F ι σ h ι o h/\iT C h (NN F ι o) t u D/\u.map (·.1)=xs.map (·.1):=by
 induction xs with
 |nil=>
  intro D σ o u e i r
  cases e
  cases r
  exact⟨.refl i,rfl,rfl⟩
 |cons x xs I=>
  intro D σ o u e i r
  revert r;intro O;refine kP O λw r L a b c d f=> ?_;clear O;subst L
  refine yy (Dd e) λy aC ur Q U O=> ?_;subst O
  refine ah (Kp Q) λz Y O=> ?_;subst O
  exact au (K Y i d) λs1 v1=>dp (I U s1.inv (f.mono s1.kept s1.ext)) λH v2 v3=>⟨s1.trans H,⟨w,r,rfl,a,b,H.vr (s1.vr c),H.vr v1,v2⟩,congrArg _ v3⟩
theorem aaq (K:zH C F ι h k){xs}:∀ {o:List _} {σ b:Hp} {c:List _},jD (λσ p=>(fz k σ p.2).map λq=>((p.1,q.1),q.2)) σ xs=S (c,b)->aK C F ι σ h->g4 C h (NN F ι σ) ι xs o->Step C F ι σ h ι b h/\oe C h (NN F ι b) c o/\c.map (·.1)=xs.map (·.1):=by
 induction xs with
 |nil=>
  intro o σ b c e i r
  cases e
  cases r
  exact⟨.refl i,rfl,rfl⟩
 |cons x xs D=>
  intro o σ b c e i r
  revert r;intro O;refine bU O λw r H I a d f=> ?_;clear O;subst I
  refine yy (Dd e) λy aC ur L Q O=> ?_;subst O
  refine ah (Kp L) λz U O=> ?_;subst O
  exact au (K U i d) λs1 Y=>dp (D Q s1.inv (f.mono s1.kept s1.ext)) λu v2 v3=>⟨s1.trans u,⟨w,r,H,rfl,a,u.vr Y,v2⟩,congrArg _ v3⟩
theorem De (k):zH C F ι h k:=by
 induction k with
 |zero=>
  intro σ L x v u e i r
  cases x with
  |v a=>cases e;exact⟨.refl i,r⟩
  |ref n=>exact aD e
 |succ k K=>
 intro σ L x v u e i r
 cases x with
 |v a=>cases e;exact⟨.refl i,r⟩
 |ref n=>
  refine ah r λp Q O=> ?_;clear r;subst O
  have y:=aan i n
  have Y:∀ {c:Cell} {L:Hp} {b:aO},σ[n]?=S c->c.isDead=ae->Step C F ι (σ.set n .dead) h ι L h->b=p.1\/b=p.2->(∃o,h.get? b=S o)->¬NN F ι L b:=by
   intro c L b D hd st hb ⟨o,H⟩ q
   rcases q with f|q
   . exact(i.fresh b ⟨n,p,c,Q,D,hd,hb⟩).2 f
   . refine au (zG (st.new b o H q)) λ_ I=>Hz I λm q2 d ne h1 h2 h3 h4=> ?_;clear I
     refine mB (i.apart m n q2 p d c h1 Q h2 D h3 hd ne) λa1 a2 a3 a4=> ?_
     rcases hb with rfl|rfl<;>rcases h4 with z|z<;>first|exact a1 z.symm|exact a2 z.symm|exact a3 z.symm|exact a4 z.symm
  refine kr e λcc D e=> ?_
  cases cc with
  |lst xs=>
   refine qf e λys bj hm e=> ?_
   cases e
   exact au (i.cells n p _ Q D) λe0 I=>dh I λm vs H cR=>au (aao K hm y.inv (y.fm cR)) λs1 U=>⟨y.trans s1,_,m,vs,rfl,Y D rfl s1 (.inl rfl) ⟨_,H⟩,H,U⟩
  |aU t ak=>
   refine qf e λys bj hm e=> ?_
   cases e
   exact dp (i.cells n p _ Q D) λe0 low I=>bo I λm es H zF nd=>dp (aap K hm y.inv (zF.mono y.kept y.ext)) λs1 U v2=>⟨y.trans s1,_,m,es,rfl,Y D rfl s1 (.inl rfl) ⟨_,H⟩,low,H,U,v2.symm▸nd⟩
  |obj c fs=>
   refine qf e λys bj hm e=> ?_
   cases e
   exact dp (i.cells n p _ Q D) λne bR I=>bo I λm es H zF nd=>dp (aaq K hm y.inv (zF.mono y.kept y.ext)) λs1 U v2=>⟨y.trans s1,_,_,m,es,rfl,Y D rfl s1 (.inl rfl) ⟨_,bR⟩,Y D rfl s1 (.inr rfl) ⟨_,H⟩,bR,H,U,v2.symm▸nd⟩
  |dead=>exact aD e
theorem aar (fr:cx C h (NN F ι σ) ι env sl ρ)(st:Step C F ι σ h ι af h){j}{x}{v}(hx:slot ρ j=S x)(hf:∀u,XR C h (NN F ι σ) ι x u->VR C h (NN F ι af) v u):cx C h (NN F ι af) ι env sl (ρ.set j (S (.v v))):=by
 refine ah fr.ns λm hm hr=>⟨⟨m,hm,λy k q hk val a=> ?_⟩,λy k q hk=> ?_⟩
 . rcases slot_set a with ⟨rfl,rfl⟩| ⟨ne,a⟩
   . exact ah (hr y j q hk x hx) λu b o=>⟨u,b,hf u o⟩
   exact ah (hr y k q hk _ a) λu b o=>⟨u,b,st.xr o⟩
 . refine bo (fr.cl y k q hk) λc w D H r=>⟨c,w,D,H,λval a=> ?_⟩
   rcases slot_set a with ⟨rfl,rfl⟩| ⟨ne,a⟩
   . exact ah (r x hx) λu b o=>⟨u,b,hf u o⟩
   exact ah (r _ a) λu b o=>⟨u,b,st.xr o⟩
noncomputable def mF.nm:mF->Str
 | .append=> "append" | .insert _=> "insert" | .extend=> "extend" | .index=> "index" | .get=> "get" | .join=> "join"
noncomputable def mF.id:mF->String
 | .append=> "list.append" | .insert _=> "list.insert" | .extend=> "list.extend" | .index=> "list.index" | .get=> "dict.get" | .join=> "str.join"
theorem aas (f:mF):PlainAttrs f.ty/\Slot f.ty f.nm f.id/\typeOf (.builtin f.id)=pure (.type "method_descriptor"):=by
 cases f
 . exact⟨Df,ylX,PySem.F.type_list_append⟩
 . exact⟨Df,ylV,PySem.F.type_list_insert⟩
 . exact⟨Df,ylW,PySem.F.type_list_extend⟩
 . exact⟨Df,ymE,PySem.F.type_list_index⟩
 . exact⟨PySem.F.plainAttrs_dict,Kq,PySem.F.type_dict_get⟩
 exact⟨PySem.F.plainAttrs_str,Kr,PySem.F.type_str_join⟩
theorem aat (i:aK C F ι σ s.heap){o}{t}{v}(r:XR C s.heap (NN F ι σ) ι o v)(e:r5 σ o=S t):s.TypeIs v t/\∀a,v= .ref a->∃u,s.heap.get? a=S u/\u.dict=none:=by
 cases o with
 |v a=>
  cases a with
  |lst xs=>
   cases e
   refine bU r λa n y O _ q _=> ?_;subst O
   exact⟨⟨_,q,rfl⟩,λb e=>by cases e;exact⟨_,q,rfl⟩⟩
  |aU t I=>
   cases e
   refine Hz r λa n y O _ _ q _=> ?_;clear r;subst O
   exact⟨⟨_,q,rfl⟩,λb e=>by cases e;exact⟨_,q,rfl⟩⟩
  |str x=>
   cases e
   refine ao r λt O=> ?_;clear r;subst O
   exact⟨rfl,λb e=>by cases e⟩
  |_=>exact aD e
 |ref n=>
  refine ah r λp D O=> ?_;clear r;subst O
  refine ah (oh e) λc H e=> ?_
  cases c with
  |lst xs=>
   cases e
   exact dh (qF i D H) λk y q _=>⟨⟨_,q,rfl⟩,λb e=>by cases e;exact⟨_,q,rfl⟩⟩
  |aU L I=>
   cases e
   obtain ⟨_,k,es,q,_⟩:=sf i D H
   exact⟨⟨_,q,rfl⟩,λb e=>by cases e;exact⟨_,q,rfl⟩⟩
  |_=>exact aD e
theorem Kt (b:args.all notStar=ab)(hl:args.length<30):
 ((backTo pos (starEach args env)).all (λx=> !x.1) && (backToKw pos (keywordEach [] env)).all (λx=>x.1.isSome) &&decide (args.length+ ([]:List Keyword).length+ (if([]:List Keyword).isEmpty then 0 else 1)<30))=true:=have a:=sj (env:=env) (pos:=pos) b;Zrr (by
 rw[cF]
 intro x hx
 rw[ypE]at a
 simpa using a x hx:(backTo _ _).all _=ab) (decide_eq_true hl)
theorem aau {f:mF}{args}{e}{D pos}{xs}(hb:pb e=ab)(b:args.all notStar=ab)(hl:args.length<30)(I:(D.endLine==pos.line)=ab)
 (he:EV C A F ι σ s (eval e env) o aC)(L:r5 aC o=S f.ty)(ha:∀h' O ag,Step C F ι σ s.heap ag aC h'->lU C A F ag aC (upd s h' O) (spliced (backTo pos (starEach args env))) xs bj)
 (c:∀(s:aT) (ι:Lay) (v:Value) (a:List _),aK C F ι bj s.heap->XR C s.heap (NN F ι bj) ι o v->bJ C s.heap (NN F ι bj) ι xs a->EV C A F ι bj s (call (.builtin f.id) (v::a)) y cJ):
 EV C A F ι σ s (eval (.Call (.Attribute e f.nm D) args [] pos) env) y cJ:=λQ E q=>dp (aas f) λU k ty=>wpAny_Call_method_late (Cs hb) (Kt b hl) I rfl (he _ _ λv aL bC bb r H=>au (aat r.inv H L) λY hd=>⟨_,_,U,k,ty,Y,hd,Jw (sj b) (yW (sj b) (ha _ _ _ r _ _ λa bF de eJ x hx=>c _ _ v a x.inv (x.xr H) hx Q E λu h₃ qu du fN hu=>q u _ _ _ ((r.trans x).trans fN) hu))⟩)
theorem bJ.drop:∀ {xs:List X} {a:List _} (n:Nat),bJ C h N ι xs a->bJ C h N ι (xs.drop n) (a.drop n):=by
 intro c
 induction c with
 |nil=>intro a n r;cases r;cases n<;>rfl
 |cons x xs k=>
  intro a n r
  cases n with
  |zero=>exact r
  |succ n=>exact bo r λv q e _ b=>by subst e;exact k n b
theorem bJ.take:∀ {xs:List X} {vs:List _} (n:Nat),bJ C h N ι xs vs->bJ C h N ι (xs.take n) (vs.take n):=by
 intro c
 induction c with
 |nil=>exact λn r=>by cases r;cases n<;>rfl
 |cons x xs k=>
  intro vs n r
  cases n with
  |zero=>rfl
  |succ n=>
   refine bo r λv q O a b=> ?_;clear r;subst O
   exact⟨v,_,rfl,a,k n b⟩
theorem Dh (i:aK C F ι σ h){n}{p}{xs r}{u ws}{m}(a:ι[n]?=S p)(c:σ[n]?=S (.lst xs))(x:h.get? p.1=S (seqObj "list" u m))(f)(hf:f u=ws)
 (y:bJ C h (NN F ι σ) ι r ws.toList):Step C F ι σ h ι (σ.set n (.lst r)) (h.update p.1 (.mapSeq f)):=au (i.cells n p _ a c) λD _=>ao (Km ws f hf m) λk H=>have K:=⟨λb o e k=>update_other _ _ _ (λz=>k (.inr (by exact Zrr z ⟨n,p,_,a,c,rfl,.inl rfl⟩))) e,λ_ _ _ q=>q⟩;yS i a c rfl rfl (λb o e I _=>update_other _ _ _ I e) ⟨D,k,_,by refine Zrr (Ct _ x rfl) ?_;rw[H];rfl,y.mono K λ_ _ e=>e⟩
theorem aaw (i:aK C F ι σ s.heap){o}{xs}{v}{b}(c:XR C s.heap (NN F ι σ) ι o v)(hx:bJ C s.heap (NN F ι σ) ι xs b):OB (gJ σ .append o xs) λy=>EV C A F ι σ s (call (.builtin "list.append") (v::b)) y.1 y.2:=
 B0 λn ys L D=>yH λx U=>fB λhl=>cH λQ E q=>by
  subst L U
  refine ah c λp H O=> ?_;clear c;subst O
  refine bo hx λu r O Y hr=> ?_;clear hx;subst O
  cases hr
  exact dh (qF i H D) λk ws a I=>o7 ylX ⟨_,a,rfl⟩ PySem.F.entry_list_append (PySem.F.args_list_append_2 _ _) (list_append _ ws k u (by rw[gO.symm,I.length.symm];exact fO hl)) ⟨a,q _ _ _ ι (Dh i H D a _ rfl (Zrr zA (I.append ⟨u,[],rfl,Y,rfl⟩))) rfl⟩
theorem aax (i:aK C F ι σ s.heap){o}{xs}{v}{D}(H:XR C s.heap (NN F ι σ) ι o v)(hx:bJ C s.heap (NN F ι σ) ι xs D):OB (gJ σ (.insert ()) o xs) λy=>EV C A F ι σ s (call (.builtin "list.insert") (v::D)) y.1 y.2:=
 B0 λn ys jj I=>Ij λa x ft=>vE λj wB=>fB λhl=>cH λQ E q=>by
  subst jj ft wB
  refine ah H λp L O=> ?_;clear H;subst O
  refine bo hx λw r O hw U=>bo U λu r' ax hu hr=> ?_;clear U;clear hx;subst O;subst ax
  cases hr
  refine ao hw λt O=> ?_;clear hw;subst O
  refine dh (qF i L I) λk ws b c=> ?_
  have Y:ys.length=ws.size:=by rw[c.length];rfl
  refine o7 ylV ⟨_,b,rfl⟩ PySem.F.entry_list_insert (PySem.F.args_list_insert_3 _ _ _) (PySem.AutoSeq1.list_insert_list_int_val_1 p.1 ws k j t u (II hl.2.1 (WY hl.2.2 (Int.ofNat_lt.mpr hl.1))) (by rw[Y.symm];exact fO hl.1)) ⟨b,q .none _ s.toks ι (Dh i L I b _ rfl ?_) rfl⟩
  simp only[lT.mpr hl.2.1,if_false,(jI (Y▸Int.toNat_le.mpr hl.2.2):min j.toNat ws.size=j.toNat)]
  exact Zrr (by
   simp only[r_,zA,ynX,ymS,CC,Nat.sub_zero]
   exact Zrr (f_ (l:= .drop _ _) (by simp)) rfl:((ws.extract 0 j.toNat).push u++ws.extract j.toNat).toList=ws.toList.take j.toNat++ [u]++ws.toList.drop j.toNat) (.append ((c.take _).append ⟨u,[],rfl,hu,rfl⟩) (c.drop _))
theorem aay (i:aK C F ι σ s.heap){o}{xs}{v}{D}(H:XR C s.heap (NN F ι σ) ι o v)(hx:bJ C s.heap (NN F ι σ) ι xs D):OB (gJ σ .extend o xs) λy=>EV C A F ι σ s (call (.builtin "list.extend") (v::D)) y.1 y.2:=
 B0 λn ys jj I=>yH λa ft=>r7 λzs Di=>fB λhl=>cH λQ E q=>by
  subst jj ft Di
  refine ah H λp L O=> ?_;clear H;subst O
  refine bo hx λw r O hw hr=> ?_;clear hx;subst O
  cases hr
  refine bU hw λb k2 U O _ c Y=> ?_;clear hw;subst O
  refine dh (qF i L I) λk ws u jL=> ?_
  have uu:ys.length=ws.size:=by rw[jL.length];rfl
  have x:zs.length=U.size:=by rw[Y.length];rfl
  rw[uu,x]at hl
  have hm:=fO hl
  exact o7 ylW ⟨_,u,rfl⟩ PySem.F.entry_list_extend (PySem.F.args_list_extend_2 _ _) (PySem.AutoSeq1.list_extend_list_list_0 _ ws k b U k2 (λz=>mD hm (of_decide_eq_true (dF.mp z).2)) (bp (dO ..) hm) (k9 hm)) ⟨u,c,q _ _ _ ι (Dh i L I u _ rfl (Zrr r_ (jL.append Y.fm))) rfl⟩
noncomputable def Ku (x:Str):Value->Bool
 | .str y _=>y==x
 |_=>ae
theorem aaA {c:Type}{p}:∀ {l:List c} {j:Nat},l.findIdx? p=S j->∃h,p l[j]=ab/\∀m (hm:m<l.length),m<j->p l[m]=false:=by
 intro l j e
 rw[Kv]at e
 exact ah e λh a b=>⟨h,a,λm hm k=>by simpa using b m k⟩
theorem aaB (i:aK C F ι σ s.heap){o}{xs}{v}{vs}(I:XR C s.heap (NN F ι σ) ι o v)(hx:bJ C s.heap (NN F ι σ) ι xs vs):OB (gJ σ .index o xs) λy=>EV C A F ι σ s (call (.builtin "list.index") (v::vs)) y.1 y.2:=
 r7 λc jj=>yH λa ft=>lS λx C5=>fc λj L Q E q=>by
  subst jj ft C5
  unfold indexOf at L
  split at L
  . rename_i hc
    refine dp hc λU D h3=> ?_;clear hc
    refine bo hx λw r O hw hr=> ?_;clear hx;subst O
    cases hr
    cases x with
    |str x=>
     have hw:=hw
     have I:=I
     refine ao hw λt O=> ?_;clear hw;subst O
     refine bU I λb k2 k O _ bR fD=> ?_;clear I;subst O
     have H:c.length=k.size:=by rw[fD.length,gO];rfl
     have item:∀m (hm:m<k.size),∃a t,c[m]?=S (.str a)/\k[m]= .str ⟨a.toArray⟩ t:=by
      intro m hm
      have kD:c[m]?=S (c[m]'(ee hm (aN H.symm))):=by simp
      refine ah (fD.get kD) λu hu Y=> ?_
      rw[eK,zJ hm]at hu
      cases hu
      have hs:=cF.mp D (c[m]'(ee hm (aN H.symm))) (wO _)
      cases hq:c[m]'(ee hm (aN H.symm))with
      |str a=>
       rw[hq]at Y
       refine ao Y λt ht=> ?_;clear Y
       exact⟨a,t,by rw[kD,hq];rfl,ht⟩
      |_=>rw[hq]at hs;exact bT hs
     refine ah (aaA L) λuf ha hb=> ?_
     have key:∀m (hm:m<k.size),Ku ⟨x.toArray⟩ k[m]=gI (c[m]'(by lia)) (.str x):=by
      refine λm hm=>dh (item m hm) λa t U D=> ?_
      have:c[m]'(ee hm (aN H.symm))= .str a:=have:=dk.mp U;this.2
      rw[this,D]
      show(({cps:=a.toArray}:Str)== {cps:=x.toArray})=decide (a=x)
      have:(({cps:=a.toArray}:Str)== {cps:=x.toArray})=decide (a=x):=by
       by_cases q:a=x
       . subst q;simp
       . simp only[q,decide_false,beq_eq_false_iff_ne]
         intro z;apply q
         have:=congrArg (λs:Str=>s.cps.toList) z
         simpa using this
      exact this
     refine o7 ymE ⟨_,bR,rfl⟩ PySem.F.entry_list_index (PySem.F.args_list_index_2 _ _) (SeqAt.list_indexAt b k k2 J #[] _ (Ku ⟨x.toArray⟩) j (ee uf (aN H)) (by unfold aE at h3;lia) (by rw[key _ _];exact ha) (λm hm Kw=>by rw[key _ _];exact hb m (dw Kw uf) Kw)) ⟨bR,?_,?_⟩
     . refine λy hy=>ao (Array.getElem_of_mem hy) λm aF=>ao aF λhm O=> ?_;clear aF;subst O
       exact dh (item m hm) λa t' _ D=>Zrr D (.str_str _ _ _ _)
     exact q _ s.heap _ ι (.refl i) ⟨_,rfl⟩
    |_=>exact bT U
  exact aD L
theorem Kx {x}{Q}{E}(D:DictAt C s.heap N ι a t ak)(hk:dR t k=ab)(hu:VR C s.heap N k u)(hd:XR C s.heap N ι x d)
 (hr:A.units+64<cLine)(q:∀v tk,XR C s.heap N ι ((ck k ak).getD x) v->Q v {s with toks:=tk}):wpAny C.M A (call (.builtin "dict.get") [.ref a,u,d]) Q E s:=by
 obtain ⟨low,n,es,L,r,nd⟩:=D
 have one:∀ {K:Type} [DecidableEq K] {H:KeyKind _ _ K} {I:K->V},kA C t H I->wpAny C.M A (call (.builtin "dict.get") [.ref a,u,d]) Q E s:=by
  intro K _ H I U
  refine ah (vQ U L r nd) λcE c dd=>ao (U.of k hk) λk' O=> ?_;subst O
  refine Jz Kq ⟨_,L,rfl⟩ ymO (ymH _ _ _) (meets_dict_get_default _ a (U.is hu) low d) ⟨_,dd.mapOf,q _ _ ?_⟩
  rcases c.look U with ⟨e,o⟩| ⟨y,v,e,o,hy⟩
  . rw[e];exact Zrr o hd
  . rw[e];exact Zrr o hy
 have two:∀ {K:Type} [DecidableEq K] {H:KeyKind _ _ K} {I:K->V},gM C t H I->wpAny C.M A (call (.builtin "dict.get") [.ref a,u,d]) Q E s:=by
  intro K _ H I Y
  refine ah (vU Y L r nd) λcE c dd=>ao (Y.of k hk) λk' O=> ?_;subst O
  refine ao (t7 hu) λb O=> ?_;subst O
  refine Jz Kq ⟨_,L,rfl⟩ ymO (ymH _ _ _) (meetsH_dict_get_default _ a b low d) ⟨?_,k',_,se Y hu,dd,?_⟩
  . show A.in1.units<cLine
    simp;exact q1 hr
  refine q _ _ ?_
  rcases c.look Y with ⟨e,o⟩| ⟨y,v,e,o,hy⟩
  . rw[e];exact Zrr o hd
  . rw[e];exact Zrr o hy
 cases t
 . exact one (qD C)
 . exact one (qE C)
 . exact two (vS C)
 exact two (vT C)
theorem aaC (k)(b)(d):(ck k (b.map λp=>(p.1,X.v p.2))).getD d=match ck k b with|some a=> .v a|none=>d:=by
 rw[Ci _ k _]
 cases ck k _<;>rfl
theorem aaD (i:aK C F ι σ s.heap){o}{xs}{v}{L}(hr:A.units+64<cLine)(b:XR C s.heap (NN F ι σ) ι o v)(hx:bJ C s.heap (NN F ι σ) ι xs L):OB (gJ σ .get o xs) λy=>EV C A F ι σ s (call (.builtin "dict.get") (v::L)) y.1 y.2:=
 Ij λa d ft=>lS λk c=>by
 subst ft c
 refine bo hx λu r O U Y=>bo Y λw r' ax hw h_=> ?_;clear Y;clear hx;subst O;subst ax
 cases h_
 cases o with
 |v x=>
  refine UN λt ak e=>fB λhk=>cH λQ E q=> ?_
  cases e
  refine cD (VR.dictAt (ι:=ι) b) λa O _ D=> ?_;subst O
  refine Kx D hk U hw hr λv H I=>q v _ H ι (.refl i) ?_
  rwa[aaC]at I
 |ref n=>
  refine UP λn t ak e hc=>fB λhk=>cH λQ E q=> ?_
  cases e
  refine ah b λp hp O=> ?_;clear b;subst O
  exact Kx (sf i hp hc) hk U hw hr λv H I=>q v _ H ι (.refl i) I
theorem Ky (b):∀ {xs:List V} {c:List _} {r:List _},vB b xs=S r->bI C h N xs c->
 ∃l,c=strValues l/\r.toArray=(Txt.join ⟨b.toArray⟩ (l.map (·.1))).cps/\(l.map λp=>p.1.length+b.length).sum<=r.length+b.length:=by
 intro q
 induction q with
 |nil=>
  intro c r e k
  cases e
  subst k
  exact⟨[],rfl,rfl,by simp⟩
 |cons x xs u=>
  intro c r e k
  refine bo k λv L O hx hr=> ?_;clear k;subst O
  cases x with
  |str a=>
   refine ao hx λt O=> ?_;clear hx;subst O
   cases xs with
   |nil=>
    cases e
    subst hr
    exact⟨[(⟨_⟩,t)],rfl,rfl,by simp[Str.length]⟩
   |cons y Q=>
    refine gX e λU D O=> ?_;subst O
    refine cD (u D hr) λl O H o=> ?_;subst O
    refine⟨(⟨_⟩,t)::l,rfl,?_,?_⟩
    . cases l with
      |nil=>
       exact dh hr λ_ _ e _=>by cases e
      |cons p l=>
       have I:Txt.join ⟨b.toArray⟩ (((⟨a.toArray⟩,t)::p::l).map (·.1))=⟨a.toArray⟩++ ⟨b.toArray⟩++Txt.join ⟨b.toArray⟩ ((p::l).map (·.1)):=by
        show Builtin.Str.glued _ _=_++Builtin.Str.glued _ _
        rw[ymV _ _];exact Zrr (ymV _ _) rfl
       rw[I]
       simp only[Str.cps_append,<-H]
       simp
    . simp only[dz,List.sum_cons,aY,Str.length]at o ⊢
      simp only[vZ]
      exact Se o
  |_=>exact aD e
theorem aaE (b):∀(l:List Str) (n:Nat),l.foldl (λa x=>a+x.length+b) n=n+ (l.map λp=>p.length+b).sum:=by
 intro c
 induction c with
 |nil=>
  intro n
  simp
 |cons x l k=>
  intro n
  rw[kW,k _]
  simp only[dz,List.sum_cons]
  exact Ur
theorem aaF (i:aK C F ι σ s.heap){o}{xs}{v}{vs}(I:XR C s.heap (NN F ι σ) ι o v)(hx:bJ C s.heap (NN F ι σ) ι xs vs):OB (gJ σ .join o xs) λy=>EV C A F ι σ s (call (.builtin "str.join") (v::vs)) y.1 y.2:=
 UO λc jj=>yH λa ft=>Ii λL Di=>cv λr U=>fB λhl=>cH λQ E q=>by
 subst jj ft
 have go:∀ {c:List Nat} {L:List V} {u:Array Value} {r:List Nat} {l:List (Str×Tok)},vB c L=S r->bI C s.heap (NN F ι σ) L u.toList->r.length<aE->c.length<aE->u.toList=strValues l->r.toArray=(Txt.join ⟨c.toArray⟩ (l.map (·.1))).cps->(l.map λp=>p.1.length+c.length).sum<=r.length+c.length->
  Builtin.Str.tooLong ((l.map (·.1)).toArray.foldl (· + ·.length+ (⟨c.toArray⟩:Str).length) 0)=false:=by
  intro c L u r l e hs h1 h2 hl hr hz
  unfold Builtin.Str.tooLong
  rw[List.foldl_toArray _ _ _,aaE _ _ _]
  simp only[b4,fb,decide_eq_false_iff_not,qw]
  refine bp hz ?_
  unfold aE at h1 h2
  rw[sizeLine_eq]
  lia
 rcases Di with rfl|rfl
 . refine bo hx λw rr O hw hr=> ?_;clear hx;subst O
   cases hr
   refine ao I λt O=> ?_;clear I;subst O
   refine bU hw λb Y u O _ bR x=> ?_;clear hw;subst O
   exact cD (Ky c U x) λl D H Dj=>have tl:=go U x hl.1 hl.2 D H Dj;o7 Kr (typeIs_str _ _ _) ymN (ymG _ _) (meets_str_join_list ⟨c.toArray⟩ t b l tl) ⟨Zrr D.symm ⟨_,bR,rfl,Y,rfl⟩,post_join l ⟨joinFit_length tl,λt' k=>q _ s.heap k ι (.refl i) ⟨t',by rw[H];rfl⟩⟩⟩
 . refine bo hx λw rr O hw hr=> ?_;clear hx;subst O
   cases hr
   refine ao I λt O=> ?_;clear I;subst O
   refine bU hw λb Y u O _ bR x=> ?_;clear hw;subst O
   exact cD (Ky c U x) λl D H Dj=>have tl:=go U x hl.1 hl.2 D H Dj;o7 Kr (typeIs_str _ _ _) ymN (ymG _ _) (meets_str_join_tuple ⟨c.toArray⟩ t b l tl) ⟨Zrr D.symm ⟨_,Y,bR,rfl,rfl⟩,post_join l ⟨joinFit_length tl,λt' k=>q _ s.heap k ι (.refl i) ⟨t',by rw[H];rfl⟩⟩⟩
theorem aaG (i:aK C F ι σ s.heap){f}{o}{xs}{v}{b}(hr:A.units+64<cLine)(a:XR C s.heap (NN F ι σ) ι o v)(hx:bJ C s.heap (NN F ι σ) ι xs b):OB (gJ σ f o xs) λy=>EV C A F ι σ s (call (.builtin f.id) (v::b)) y.1 y.2:=by
 cases f
 . exact aaw i a hx
 . exact aax i a hx
 . exact aay i a hx
 . exact aaB i a hx
 . exact aaD i hr a hx
 exact aaF i a hx
theorem aaH {prog:Program}{w:World}{A:Around}{E:Value->aT->Prop}{s:aT}{a:aO}{xs:Array Value}{k:Nat}{Q:Option Value->aT->Prop}
 (hx:s.heap.get? a=S (seqObj "list" xs k))(x:A.handled=J)(h:∀h' q,(∀b o,s.heap.get? b=S o->h'.get? b=S o)->Q J (upd s h' q)):
 wpAny (model prog w) A (getAttr? (.ref a) "keys") Q E s:=by
 obtain ⟨y,g,d,q,os⟩:=s
 have r:∀tk',(⟨y,g,d,tk',os⟩:aT).TypeIs (.ref a) "list" :=λ_=>⟨_,hx,rfl⟩
 have D:=sub_AttributeError
 have H:=Kz.lookup
 have I:=Kz.bind (.ref a)
 have L:=am_list_getattr_none
 have c:typeLookup (.type "list") "keys" =pure none:=am_miss_of_fast (by kernel_rfl)
 unfold getAttr? getAttrBy? getAttrBy
 repeat (any_goals (first|assumption|exact r _| ((with_reducible show wpAny _ _ (call (Value.builtin "list.__getattribute__") _ _) _ _ _);refine o7 Kz (r _) am_entry_list_getattribute (F.args_list_getattribute_2 _ _) (meets_getattribute_miss_list a xs k #[] "keys" _ c (by decide+kernel)) ⟨hx,x,λh' tk' e u=> ?_⟩)|wp_step))
 refine e9 u.there λO U he=> ?_
 show wpAny _ _ (getattributeRaised _ _ _ _ _ _ _) _ _ _
 unfold getattributeRaised
 repeat (any_goals (first|assumption|wp_step))
 exact h _ _ u.of.keeps
theorem dict_set {x}{Q}{E}(D:DictAt C s.heap N ι a t ak)(hk:dR t k=ab)(Y:VR C s.heap N k u)(hv:XR C s.heap N ι x v)
 (hr:A.units+64<cLine)(hz:ak.length<aE)(ha:N a)
 (q:∀h' tk,Heap.SameBut a s.heap h'->DictAt C h' N ι a t (d9 k x ak)->Q () (upd s h' tk)):wpAny C.M A (dictSet a u v) Q E s:=by
 obtain ⟨low,n,es,ho,r,nd⟩:=D
 have kept:∀ {h':Heap},Heap.SameBut a _ h'->Kept s.heap h' N N:=λy=>⟨λb o e n=>(y.2 b λz=>n (z▸ha)).trans e,λ_ _ _ z=>z⟩
 have one:∀ {K:Type} [DecidableEq K] {H:KeyKind _ _ K} {I:K->V},kA C t H I->wpAny C.M A (dictSet a u v) Q E s:=by
  intro K _ H I L
  refine ah (vQ L ho r nd) λcE c d=>ao (L.of k hk) λk' O=> ?_;subst O
  refine nZ (id d) λ_ _ _ _ _ _ _ _ hn=>wpAny_dictSet_pairs (L.is Y) d (λh' d' y=>q h' _ y ⟨low,IW L ((c.store L hv hn).mono (kept y) λ_ _ e=>e) d'⟩) ?_
  rw[c.length.symm];exact fO hz
 have two:∀ {K:Type} [DecidableEq K] {H:KeyKind _ _ K} {I:K->V},gM C t H I->wpAny C.M A (dictSet a u v) Q E s:=by
  intro K _ H I U
  refine ah (vU U ho r nd) λcE c d=>ao (U.of k hk) λk' O=> ?_;subst O
  refine ao (t7 Y) λb O=> ?_;subst O
  refine nZ (id d) λ_ _ _ _ _ _ _ _ hn=>wpAny_dictSet_heap (by show A.units<cLine;exact Rh hr) (se U Y) d (λh' d' y=>q h' _ y ⟨low,I0 U ((c.store U Y hv hn).mono (kept y) λ_ _ e=>e) d'⟩) ?_
  rw[c.length.symm];exact fO hz
 cases t
 . exact one (qD C)
 . exact one (qE C)
 . exact two (vS C)
 exact two (vT C)
theorem KA:entryFor table "dict.update.loop" =S Builtin.«dict.update.loop»:=entryFor_of_tree rfl
theorem zK:plainId "dict.update.loop" =true:=by decide+kernel
theorem aaJ (k)(x:b):∀l,(d9 k x l).length<=l.length+1:=by
 intro a
 induction a with
 |nil=>
  simp[UH]
 |cons p r c=>
  rw[yE]
  split<;>simp<;>assumption
theorem aaK (f:c->o)(k)(x):∀l,(d9 k x l).map (λp=>(p.1,f p.2))=d9 k (f x) (l.map λp=>(p.1,f p.2)):=by
 intro a
 induction a with
 |nil=>
  exact rfl
 |cons p r b=>
  simp only[yE,dz]
  split
  . rfl
  . rw[dz,b];rfl
theorem DictAt.Dl {a}{t}{b}(D:DictAt C h N ι a t b)(k:Kept h h' N N')(ha:∀o,h.get? a=S o->h'.get? a=S o):DictAt C h' N' ι a t b:=by
 obtain ⟨low,n,es,c,r,nd⟩:=D
 exact⟨low,n,es,ha _ c,r.mono k λ_ _ e=>e,nd⟩
theorem aaL (e:rY t (y::a) acc=S r):∃k x,y= .tup [k,x]/\dR t k=ab/\rY t a (d9 k x acc)=S r:=by
 cases y with
 |tup l=>
  rcases l with _| ⟨k,_| ⟨x,_| ⟨z,l⟩⟩⟩
  . exact aD e
  . exact aD e
  . exact au (qz e) λh e=>⟨k,x,rfl,h,e⟩
  exact aD e
 |_=>exact aD e
theorem aaM {D I l:aO}{a:Array Value}{m:Nat}{t:KT}(wR:D≠I)(hD:N D)(hI:N I)(hl:¬N l):
 ∀(u:List V) (i:Nat) (acc r:List (V×V)),rY t u acc=S r->acc.length+u.length<aE->i+u.length=a.size->∀L,
  MeetsIn C.prog C.w (Builtin.«dict.update.loop» ⟨[.ref D,.ref I,rawInt i,.none],[]⟩) (λA R s=>A.handled=J/\A.units+66<cLine/\s.heap.IsListIter I l i/\s.heap.get? l=S (seqObj "list" a m)/\s=(upd L s.heap s.toks)/\
   bI C s.heap N u (a.toList.drop i)/\DictAt C s.heap N ι D t (acc.map λp=>(p.1,.v p.2))/\
   ∀h' tk,(∀b o,s.heap.get? b=S o->b≠D->b≠I->h'.get? b=S o)->DictAt C h' N ι D t (r.map λp=>(p.1,.v p.2))->R (.ok (.ret .none)) (upd L h' tk)):=by
 intro u
 induction u with
 |nil=>
  intro i acc r e Q H L
  cases e
  refine λA R s U=> ?_
  refine Hy U λhh hu et ue Dm Y hd q=> ?_;clear U
  have hx:a[i]?=none:=by simp at H;simp;exact Ry H
  unfold Builtin.«dict.update.loop»
  show wpAny _ _ (pyNext (.ref I) >>=_) _ _ _
  refine aG (wpAny_pyNext_list_end hh et ⟨_,ue,rfl,m,rfl⟩ hx λh' cZ=> ?_)
  show wpAny _ _ (Builtin.Dict.addKeywords D [] >>=_) _ _ _
  refine aG (bA (bA ?_))
  have e:((upd s h' s.toks):aT)=(upd L h' s.toks):=by rw[Dm];rfl
  show R _ (upd s h' s.toks)
  rw[e]
  exact q h' s.toks (λb o e _ n=>cZ b o n e) (hd.Dl ⟨λb o e n=>cZ b o (λz=>n (z▸hI)) e,λ_ _ _ z=>z⟩ λo e=>cZ D o wR e)
 |cons y u ih=>
  intro i acc r e Q H L
  (refine bo (aaL e) λk x O hk e'=> ?_;obtain rfl:=O)
  refine λA R s U=> ?_
  refine Hy U λhh hu et ue Dm Y hd q=> ?_;clear U
  have hlt:i<a.size:=by simp at H;exact HN H
  have hdr:a.toList.drop i=a[i]::a.toList.drop (i+1):=by
   refine Zrr (ou (by simpa using hlt)) ?_;simp
  rw[hdr]at Y
  (revert Y;intro O;refine bo O λ_ _ e0 hy Y=> ?_;clear O)
  cases e0
  refine bU hy λb nb ws hb hnb bR jL=> ?_;clear hy
  refine bo jL λku _ ew hku aF=> ?_;refine bo aF λxu _ ew2 fe ew3=> ?_;clear aF;clear jL
  have ews:ws= #[ku,xu]:=by
   cases ws with
   |mk l=>simp at ew;rw[ew,ew2];rewrite[ew3];rfl
  subst ews
  unfold Builtin.«dict.update.loop»
  show wpAny _ _ (pyNext (.ref I) >>=_) _ _ _
  refine aG (wpAny_pyNext_list_item et ⟨_,ue,rfl,m,rfl⟩ (x:=a[i]) (by simp) λaL y_ wU=> ?_)
  rw[hb]
  have neb:b≠I:=λz=>hnb (z▸hI)
  have KC:=(wU.2 b neb).trans bR
  have uv:Kept s.heap aL N N:=⟨λc o e n=>(wU.2 c λz=>n (z▸hI)).trans e,λ_ _ _ z=>z⟩
  dsimp only
  refine aG (jH ?_)
  refine aG (wpAny_tryCatch ?_)
  unfold Builtin.Dict.pairItems
  refine aG (CA ⟨_,KC,rfl⟩ ?_)
  refine Zrr (if_pos (rfl)) ?_
  refine aG (wpAny_seqItems KC rfl (bA ?_))
  dsimp only[Option.getD]
  refine jH ?_
  refine dict_set (hd.Dl uv λo e=>(wU.2 D wR).trans e) hk (hku.mono uv) (x:= .v x) (fe.mono uv) (by show A.units+1+64<cLine;exact gr ‹_›) ?_ hD λbF tk zL aaN=> ?_
  . simp at Q ⊢;exact Rz Q
  have zc:Kept aL bF N N:=⟨λc o e n=>(zL.2 c λz=>n (z▸hD)).trans e,λ_ _ _ z=>z⟩
  have nlD:l≠D:=λz=>hl (z▸hD)
  have nlI:l≠I:=λz=>hl (z▸hI)
  refine bA ⟨Dp zK _,Dq KA ?_⟩
  rw[Ds zK _]
  have hc:((i:Int)+1)=((i+1:Nat):Int):=by push_cast;rfl
  rw[hc]
  refine cD y_ λoi hoi ci di=> ?_;clear y_
  refine ih (i+1) _ r e' ?_ ?_ L A R _ ⟨hh,hu,⟨oi,(zL.2 I (vV wR)).trans hoi,ci,di⟩,(zL.2 l nlD).trans ((wU.2 l nlI).trans ue),?_,(bI.mono uv Y).mono zc,?_,λh' tk' kk d'=> ?_⟩
  . have:=aaJ k x acc
    simp at Q ⊢;exact RB Q this
  . simp at H;exact HO H
  . rw[Dm];rfl
  . rw[aaK _ _ _ _];exact aaN
  . exact q h' tk' (λc o e n1 n2=>kk c o ((zL.2 c n1).trans ((wU.2 c n2).trans e)) n1 n2) d'
theorem KD (i:aK C F ι σ h):(h.objs.size==sysModules)=false:=have:=modules_low (C.T.nolimit.keeps i.base);beq_eq_false_iff_ne.mpr (fM this)
theorem Dt (i:aK C F ι σ h):DictAt C (h.push {cls:= .type "dict",data:= .dict #[]}) N ι h.objs.size t []:=
 ⟨KD i,0,[],kU _ rfl,rfl,by simp⟩
theorem aaO:∀ {c:List _} {b:List _},qn c=S b->b.map (·.1)=c.map (·.1):=by
 intro o
 induction o with
 |nil=>exact λe=>by cases e;rfl
 |cons p r q=>
  intro b e
  obtain ⟨k,x⟩:=p
  cases x with
  |ref _=>exact aD e
  |v a=>
   refine gX e λy u O=> ?_;subst O
   exact congrArg _ (q u)
theorem Du {m:Bool}{x}{N'}(i:aK C F ι σ h)(k:∀b o,h.get? b=S o->h'.get? b=S o)(fr:h.get? D=J)(d:DictAt C h' N' ι D t a)(c:N' D)
 (low:∀b,NN F ι σ b->N' b)(hm:(if m then S (.ref σ.length,σ++ [.aU t a])else(qn a).map λd=>(.v (.aU t d),σ))=S (x,af)):
 ∃ag,Step C F ι σ h ag af h'/\XR C h' (NN F ag af) ag x (.ref D):=by
 obtain ⟨lo,n,es,u,r,nd⟩:=d
 cases m
 . refine gX hm λH e hx=> ?_
   cases hx
   refine⟨ι,ix i k,⟨D,n,es,rfl,r8 i fr,lo,u,(fX.Xg e r).mono ⟨λ_ _ e _=>e,λb o _ q=>low b q⟩,?_⟩⟩
   rw[aaO e];exact nd
 . simp only[if_true,jF,kY]at hm
   refine au hm λO y=> ?_;clear hm;subst O;subst y
   exact⟨ι++ [(D,D)],vL i k fr fr ⟨rfl,lo,n,es,u,r.mono ⟨λ_ _ e _=>e,λb o _ q=>q.elim (λq=>low b (.inl q)) λq=>by
    rcases r9 i.len q with q|rfl|rfl
    . exact low b (.inr q)
    . exact c
    exact c⟩ λn p e=>by
    rw[eQ (dk.mp e).1];exact e,nd⟩,tY i.len⟩
theorem aaP (i:aK C F ι σ s.heap)(hm:BX m t [] [] σ=S (x,af)):EV C A F ι σ s (eval (.Dict [] [] pos) env) x af:=λQ E q=>wpAny_Dict_empty (ah (Du (N':=λb=>NN F ι σ b\/b=s.heap.objs.size) i (eP _ _) (gL _) (Dt i) (.inr rfl) (λb q=> .inl q) hm) λa st hx=>q _ _ _ _ st hx)
theorem aaQ {m}{w}{b}{y}{D H I}{L O U pos}(hr:A.units+64<cLine)(i:aK C F ι σ s.heap)(hm:BX m .strs [.v (.tup [.str w.cps.toList])] [.v (.bool b)] σ=S (y,af)):
 EV C A F ι σ s (eval (.Dict [S (.Tuple [.Constant (.str w) D L] H O)] [.Constant (.bool b) I U] pos) env) y af:=by
 refine λQ E q=>wpAny_Dict_any ?a ?b ?c ?d ?_
 case a=>rfl
 case b=>rfl
 case c=>exact ypT _ _
 case d=>exact HF rfl
 have fr:=gL s.heap
 have Y:=Dt (N:=λb=>NN F ι σ b\/b=s.heap.objs.size) (t:= .strs) i
 unfold pairTrees pairTrees evalPairs evalPairs PySem.storeAll
 refine aG (Jr (yY (wpAny_Constant_str (CD ⟨by simp;decide,aG (jH (aG (WO (aG (qI (bA (aG (jH (bA (bA ?_))))))))))⟩)) (ub (rfl))))
 rw[zo _ _ _ _]
 generalize u:(s.heap.push {cls:= .type "dict",data:= .dict #[]})=r at*
 have x:r.objs.size=s.heap.objs.size+1:=by rw[u.symm];exact(λh o=>size_push' h o) _ _
 have key:VR C (r.push (seqObj "tuple" [.str w s.toks].toArray 0)) (λb=>NN F ι σ b\/b=s.heap.objs.size) (.tup [.str w.cps.toList]) (.ref r.objs.size):=by
  exact⟨_,0,_,rfl,(by
  rintro (q|q)
  . refine ao (IB i q) λo ho=> ?_
    exact absurd (jf ho) (by rw[x];exact qw.mpr (qL _))
  . exact absurd q (by rw[x];exact Zg _)),(kU _ rfl),_,_,rfl,⟨_,rfl⟩,rfl⟩
 have val:XR C (r.push (seqObj "tuple" [.str w s.toks].toArray 0)) (λb=>NN F ι σ b\/b=s.heap.objs.size) ι (.v (.bool b)) (.bool b):=rfl
 have k_:=Y.Dl (⟨λb o e _=>eP _ _ b o e,λ_ _ _ z=>z⟩:Kept r (r.push (seqObj "tuple" [.str w s.toks].toArray 0)) (λb=>NN F ι σ b\/b=s.heap.objs.size) (λb=>NN F ι σ b\/b=s.heap.objs.size)) λo e=>eP _ _ _ o e
 refine aG ?_
 refine aG ?_
 refine dict_set k_ (rfl) key val hr (by unfold aE;simp) (.inr rfl) ?_
 intro h' tk sb lZ
 refine bA ?_
 refine bA ?_
 have k:=λb o e=>(sb.2 b λz=>by rw[z,fr]at e;exact aD e).trans (eP _ _ b o (u▸eP s.heap _ b o e))
 refine ah (Du i k fr lZ (.inr rfl) (λb q=> .inl q) hm) λag st hx=> ?_
 exact q _ h' tk ag st hx
theorem aaR (hh:A.handled=J)(hr:A.units+80<cLine)(i:aK C F ι σ s.heap){t}{xs}{u}{v}{Q}{E}(ha:VR C s.heap (NN F ι σ) (.lst xs) v)(hl:xs.length<aE)(e:rY t xs []=S u)
 (q:∀r h' x,Step C F ι σ s.heap ι σ h'->VR C h' (NN F ι σ) (.aU t u) r->Q r (upd s h' x)):wpAny C.M A (call (.type "dict") [v]) Q E s:=by
 ((refine bU ha λl n vs O hn y hs=> ?_;clear ha);obtain rfl:=O)
 have hz:xs.length=vs.size:=by rw[hs.length,gO];rfl
 refine callType_codes (Q₁:=λobj dS=>obj= .ref s.heap.objs.size/\dS= {s with heap:=s.heap.push {cls:= .type "dict",data:= .dict #[]}}) PySem.F.kt_called_dict (PySem.F.kt_typeCall_dict_1 _) PySem.F.entry_dict_init (kt_code_dict_new _ ⟨rfl,rfl⟩) ?_
 (intro obj dS O;refine au O λax cu=> ?_;clear O;obtain rfl:=ax;obtain rfl:=cu)
 have fr:=gL s.heap
 have KG:=Dt (N:=λb=>NN F ι σ b\/b=s.heap.objs.size) (t:=t) i
 have D:=eP s.heap {cls:= .type "dict",data:= .dict #[]} l _ y
 have H:(s.heap.push {cls:= .type "dict",data:= .dict #[]}).get? s.heap.objs.size=S (dictOf [] 0):=kU _ rfl
 refine⟨⟨_,H,rfl⟩,PySem.F.args_dict_init_2 _ _,?_⟩
 unfold Builtin.«dict.__init__»
 refine aG ?_
 unfold Builtin.Dict.selfAndRest
 refine aG (Y2 ⟨_,H,rfl⟩ ?_)
 show wpAny _ _ (pure (s.heap.objs.size,[Value.ref l])) _ _ _
 refine bA ?_
 show wpAny _ _ (Builtin.Dict.updateFrom "dict.__init__" s.heap.objs.size (.ref l) [] .none) _ _ _
 unfold Builtin.Dict.updateFrom
 refine aG (CA ⟨_,D,rfl⟩ ?_)
 refine Zrr (if_pos (rfl)) ?_
 refine aG (aaH D hh λa aiv I=> ?_)
 refine Zrr (if_pos (rfl)) ?_
 refine aG (si ?_)
 have L:=I _ _ D
 have KH:=I _ _ H
 refine aG (wpAny_pyIter_list ⟨_,L,rfl,n,rfl⟩ ?_)
 have U:=dx (jf L)
 have wR:=dx (jf KH)
 have Y:=gL a
 have Dy:=λb o e=>I b o (eP _ _ b o e)
 have KI:s.heap.get? a.objs.size=none:=by
  cases q:s.heap.get? a.objs.size with
  |none=>rfl
  |some o=>have:=Dy _ _ q;rw[Y]at this;exact aD this
 refine bA ⟨Dp zK _,Dq KA ?_⟩
 rw[Ds zK _]
 have K:∀h₃,(∀b o,a.get? b=S o->h₃.get? b=S o)->Kept s.heap h₃ (NN F ι σ) (λb=>NN F ι σ b\/b=s.heap.objs.size\/b=a.objs.size):=λh₃ k=>⟨λb o e _=>k b o (Dy b o e),λb o e z=>by
  rcases z with z|rfl|rfl
  . exact z
  . rw[fr]at e;exact aD e
  . rw[KI]at e;exact aD e⟩
 have c:=eP a {cls:= .type "list_iterator",data:= .fields #[.ref l,rawInt 0]}
 have aaT:DictAt C (a.push {cls:= .type "list_iterator",data:= .fields #[.ref l,rawInt 0]}) (λb=>NN F ι σ b\/b=s.heap.objs.size\/b=a.objs.size) ι s.heap.objs.size t []:=⟨KD i,0,[],c _ _ KH,rfl,by simp⟩
 refine aaM wR (.inr (.inl rfl)) (.inr (.inr rfl)) ?_ xs 0 [] u e (by simpa using hl) (Sp hz) {s with toks:=s.toks} A.in1 _ _ ⟨hh,by show A.units+1+66<cLine;exact Sq hr,⟨_,kU _ rfl,rfl,rfl⟩,c _ _ L,rfl,?_,aaT,?_⟩
 . rintro (z|z|z)
   . exact hn z
   . rw[z,fr]at y;exact aD y
   . exact U z
 . rw[CC];exact hs.mono (K _ c)
 . intro h' x kk D'
   have k:=λb o e=>kk b o (c b o (Dy b o e)) (λz=>by rw[z,fr]at e;exact aD e) (λz=>by rw[z,KI]at e;exact aD e)
   refine ah (Du (m:=ae) i k fr D' (.inr (.inl rfl)) (λb q=> .inl q) (by
    simp only[yZ]
    have:∀l:List (V×V),qn (l.map λp=>(p.1,X.v p.2))=S l:=by
     intro l
     induction l with
     |nil=>rfl
     |cons p r ih=>simp[UJ,ih]
    rw[this _];rfl)) λag st hx=> ?_
   have hι:ag=ι:=by
    have h1:=st.inv.len
    have h2:=i.len
    apply gP
    intro n
    cases q:ι[n]? with
    |some p=>exact st.ext n p q
    |none=>
     rw[Dz]at q ⊢
     lia
   subst hι
   exact⟨rfl,q _ h' x st hx⟩
end
section
open PySem PyProof.Rows
noncomputable def Ks (key:Keyed->Nat)(xs:Array Keyed)(i:Nat):Nat:=match xs[i]? with
 |some p=>key p
 |none=>0
def dZ (key:Keyed->Nat)(xs:Array Keyed)(lo a:Nat):Prop:=∀i,lo<=i->i+1<a->Ks key xs i<=Ks key xs (i+1)
def DA (key:Keyed->Nat)(xs:Array Keyed)(lo a:Nat):Prop:=∀i,lo<=i->i+1<a->Ks key xs (i+1)<=Ks key xs i
def iB (M:Model)(A:Around)(s:aT)(a:Array Keyed)(kd:SortKind)(key:Keyed->Nat):Prop:=
 ∀(E:Value->aT->Prop) (x y:Keyed) (st:SortSt) (Q:Option Bool->SortSt->Prop),x∈a.toList->y∈a.toList->kindOf st=kd->Q (S (decide (key x<key y))) st->wpS M A E s (lt' x y) Q st
structure SB (aS:Array Keyed)(kd:SortKind)(st:SortSt):Prop where
 perm:(arrOf st).Perm aS
 kind:kindOf st=kd
 failed:failedOf st=J
variable {M:Model} {A:Around} {E:Value->aT->Prop} {s:aT} {aS:Array Keyed} {kd:SortKind} {key:Keyed->Nat}
theorem SB.size {st}(h:SB aS kd st):(arrOf st).size=aS.size:=h.perm.size_eq
theorem SB.set {st}(h:SB aS kd st){xs}(a:xs.Perm (arrOf st)):SB aS kd (setArr st xs):=⟨a.trans h.perm,h.kind,h.failed⟩
theorem SB.get {st}(h:SB aS kd st){i}(b:i<aS.size):∃p,(arrOf st)[i]?=S p/\p∈aS.toList/\key p=Ks key (arrOf st) i:=by
 have a:i<(arrOf st).size:=Zrr h.size b
 refine⟨_,getElem?_pos _ i a,(DB.mp h.perm).mem_iff.mp (by simp),?_⟩
 unfold Ks
 rw[getElem?_pos _ i a];rfl
theorem uw {i j}(h:xs[i]?=a[j]?):Ks key xs i=Ks key a j:=by unfold Ks;rw[h];rfl
theorem wV (L:iB M A s aS kd key){st}{i j}{Q}(a:SB aS kd st)(b:i<aS.size)(c:j<aS.size)
 (h:Q (S (decide (Ks key (arrOf st) i<Ks key (arrOf st) j))) st):wpS M A E s (ltAt' i j) Q st:=by
 refine cD (a.get (key:=key) b) λx k o q=>cD (a.get (key:=key) c) λy r u D=> ?_
 show wpS _ _ _ _ (do let x<-elem' _ i;let y<-elem' _ j;lt' x y) Q st
 rw[DC _ _,DC _ _,k];exact Zrr r (bq (bB (bq (bB (L E x y st Q o u a.kind (by rw[q];exact Zrr D h))))))
theorem DD {i j}(b:j<=xs.size)(k):Ks key (mirror xs i j ((j - i) /2)) k=if i<=k/\k<j then Ks key xs (i+j - 1 - k)else Ks key xs k:=by
 have e:=getElem?_mirror_all (i:=i) b k
 by_cases a:i<=k/\k<j
 . rw[if_pos a]at e ⊢;exact uw e
 . rw[if_neg a]at e ⊢;exact uw e
theorem aaU {a d}(o:a<xs.size)(q:d<=a)(k):
 Ks key (bubble xs a d) k=if k=a - d then Ks key xs a else if a - d<k/\k<=a then Ks key xs (k - 1)else Ks key xs k:=by
 have e:=getElem?_bubble o d q k
 by_cases b:k=a - d
 . rw[if_pos b]at e ⊢;exact uw e
 . rw[if_neg b]at e ⊢
   by_cases c:a - d<k/\k<=a
   . rw[if_pos c]at e ⊢;exact uw e
   . rw[if_neg c]at e ⊢;exact uw e
theorem zN {st}{i j}{Q}(h:Q () (setArr st (mirror (arrOf st) i j ((j - i) /2)))):wpS M A E s (reverseSlice' i j) Q st:=zO h
structure iC (key:Keyed->Nat)(aS:Array Keyed)(kd:SortKind)(lo:Nat)(st ay:SortSt):Prop where
 sb:SB aS kd ay
 pend:pendingOf ay=pendingOf st
 low:∀i,i<lo->Ks key (arrOf ay) i=Ks key (arrOf st) i
theorem iC.refl {st}{lo}(h:SB aS kd st):iC key aS kd lo st st:=⟨h,rfl,λ_ _=>rfl⟩
theorem iC.trans {st c k}{lo}(a:iC key aS kd lo st c)(b:iC key aS kd lo c k):iC key aS kd lo st k:=⟨b.sb,b.pend.trans a.pend,λi h=>(b.low i h).trans (a.low i h)⟩
theorem iC.rev {st}{lo i j}(h:SB aS kd st)(b:lo<=i)(a:j<=aS.size):iC key aS kd lo st (setArr st (mirror (arrOf st) i j ((j - i) /2))):=
 ⟨h.set (mirror_perm _ _ _ _),rfl,λk hk=>by
  rewrite[DD (Zrr h.size a)];exact Zrr (if_neg (by lia)) rfl⟩
abbrev AS:=Option (Option Nat)×Nat
abbrev DS:=Option (Option Nat)×Nat×Nat
noncomputable def DE (lo:Nat):Nat->AS->StateT SortSt Sem (ForInStep AS):=λ_ c=>do
 let x<-ltAt' (lo+c.snd) (lo+c.snd - 1)
 match x with
 |some a=>if a=ab then pure (ForInStep.done (J,c.snd))else pure (ForInStep.yield (J,c.snd+1))
 |_=>pure (ForInStep.done (S J,c.snd))
noncomputable def aaV (lo:Nat):Nat->DS->StateT SortSt Sem (ForInStep DS):=λ_ c=>do
 let x<-ltAt' (lo+c.snd.fst) (lo+c.snd.fst - 1)
 match x with
 |some b=>
  if b=ab then
   if c.snd.snd>0 then do
    reverseSlice' (lo+c.snd.fst - (c.snd.snd+1)) (lo+c.snd.fst)
    pure (ForInStep.yield (J,c.snd.fst+1,0))
   else pure (ForInStep.yield (J,c.snd.fst+1,0))
  else do
   let x<-ltAt' (lo+c.snd.fst - 1) (lo+c.snd.fst)
   match x with
   |some a=>
    if a=ab then pure (ForInStep.done (J,c.snd.fst,c.snd.snd))
    else pure (ForInStep.yield (J,c.snd.fst+1,c.snd.snd+1))
   |_=>pure (ForInStep.done (S J,c.snd.fst,c.snd.snd))
 |_=>pure (ForInStep.done (S J,c.snd.fst,c.snd.snd))
def wW (lo a n:Nat):StateT SortSt Sem (Option Nat):=do
 reverseSlice' lo (lo+n)
 let c<-forIn [n:a] ((J,n):AS) (DE lo)
 match c.fst with
 |some r=>pure r
 |none=>pure (S c.snd)
def DG (lo a n:Nat):StateT SortSt Sem (Option Nat):=do
 liftM (rule "list.sort.descending-run")
 let c<-forIn [n+1:a] ((J,n+1,0):DS) (aaV lo)
 match c.fst with
 |some r=>pure r
 |none=>
  if c.snd.snd>0 then do
   reverseSlice' (lo+c.snd.fst - (c.snd.snd+1)) (lo+c.snd.fst)
   wW lo a c.snd.fst
  else wW lo a c.snd.fst
def Flat (key:Keyed->Nat)(xs:Array Keyed)(lo a:Nat):Prop:=∀i,lo<=i->i+1<a->Ks key xs (i+1)=Ks key xs i
section
variable {xs ys:Array Keyed} {lo n hi:Nat}
theorem dZ.le (h:dZ key xs lo hi){i j}(c:lo<=i)(a:i<=j)(b:j<hi):Ks key xs i<=Ks key xs j:=by
 refine ao (sS a) λd O=> ?_;subst O
 clear a
 induction d with
 |zero=>exact ba _
 |succ d k=>exact bp (k (gr b)) (h _ (bp c (dO ..)) b)
theorem Flat.eq (h:Flat key xs lo hi){i j}(c:lo<=i)(a:i<=j)(b:j<hi):Ks key xs j=Ks key xs i:=by
 refine ao (sS a) λd O=> ?_;subst O
 clear a
 induction d with
 |zero=>rfl
 |succ d k=>exact(h _ (bp c (dO ..)) b).trans (k (gr b))
theorem wX {P:Nat->Prop}(h:∀i,lo<=i->i+1<lo+ (n+1)->P i)(e:P (lo+n)):∀i,lo<=i->i+1<lo+ (n+2)->P i:=λi a b=>by
 rcases yC (fU b)with q|q
 . exact h i a q
 . rw[qR q];exact e
theorem wY {P:Nat->Prop}:∀i,lo<=i->i+1<lo+1->P i:=λ_ a b=>absurd a (KJ.mpr (ynS b))
theorem KL (h:lo+n<=xs.size){u v}(e:u+v+1=n):Ks key (mirror xs lo (lo+n) ((lo+n - lo) /2)) (lo+u)=Ks key xs (lo+v):=by
 rw[DD h _];refine Zrr (if_pos ⟨dO ..,iY (Td e) _⟩) ?_
 congr 1
 exact Te e
theorem aaX (h:lo+n<=xs.size){i}(a:lo<=i)(b:i+1<lo+n):∃v,v+1<n/\Ks key (mirror xs lo (lo+n) ((lo+n - lo) /2)) i=Ks key xs (lo+v+1)/\Ks key (mirror xs lo (lo+n) ((lo+n - lo) /2)) (i+1)=Ks key xs (lo+v):=by
 refine ao (sS a) λu O=> ?_;subst O
 exact ao (sS (DH (show lo+ (u+1)<lo+n from b))) λv e=>⟨v,by exact Sm e,KL h (v:=v+1) (Sn e),KL (u:=u+1) h (So e)⟩
theorem DI (h:m<=xs.size)(hf:Flat key xs lo m):∀k,Ks key (mirror xs lo m ((m - lo) /2)) k=Ks key xs k:=λk=>by
 rw[DD h _]
 split
 . next q=>
   have a:lo<=lo+m - 1 - k/\lo+m - 1 - k<m:=Tc ‹_›
   exact(k.le_total _).elim (hf.eq q.1 · a.2) λc=>(hf.eq a.1 c q.2).symm
 rfl
end
theorem cg {st}{Q}{c} [Decidable c]{t e:StateT σ _ b}(a:c->wpS M A E s t Q st)(he:¬c->wpS M A E s e Q st):wpS M A E s (if c then t else e) Q st:=by
 by_cases h:c
 . rw[if_pos h];exact a h
 . rw[if_neg h];exact he h
abbrev SS (a:Type):=StateT SortSt Sem a
theorem KN (L:iB M A s aS kd key){st}{lo a k}{Q:AS->SortSt->Prop}(hn:lo+k<=aS.size)(ha:1<=a)(u:a<=k)(U:SB aS kd st)(Y:dZ key (arrOf st) lo (lo+a))
 (h:∀n,a<=n->n<=k->dZ key (arrOf st) lo (lo+n)->n=k\/Ks key (arrOf st) (lo+n)<Ks key (arrOf st) (lo+n - 1)->Q (J,n) st):wpS M A E s (forIn [a:k] (J,a) (DE lo)) Q st:=by
 refine l4 (I:=λx c q=>q=st/\c=(J,x)/\dZ _ _ lo (lo+x)) (λx c q D H i=> ?_) (λc q i=> ?_) ⟨rfl,rfl,Y⟩
 . refine dp i λO r o=> ?_;clear i;subst O;subst r
   refine ao (lh (fM (bp ha D))) λy O=> ?_;subst O
   exact have hx:=d_ (iY H lo) hn;bq (wV L U hx (gr hx) (cg (λb=>bB (h _ D (b_ H) o (.inr (of_decide_eq_true b)))) λb=>bB ⟨rfl,rfl,wX o (gg λz=>b (decide_eq_true z))⟩))
 . refine dp i λO r o=> ?_;clear i;subst O;subst r
   rw[KQ u]at o ⊢
   exact h _ u (ba _) o (.inl rfl)
theorem KR (L:iB M A s aS kd key){st}{lo a n}{Q}(hn:lo+a<=aS.size)(b:1<=n)(o:n<=a)(q:SB aS kd st)(u:DA key (arrOf st) lo (lo+n))
 (h:∀m c,iC key aS kd lo st c->1<=m->m<=a->dZ key (arrOf c) lo (lo+m)->Q (S m) c):wpS M A E s (wW lo a n) Q st:=have r:=bp (iD o lo) hn;have K:=iC.rev (key:=key) (i:=lo) q (ba _) r;bq (zN (bq (KN L hn b o K.sb (λi b x=>cD (aaX (key:=key) (Zrr q.size r) b x) λv y D H=>D.symm▸H.symm▸u _ (dO ..) (iY y lo)) λm I O k _=>bB (h m _ K (bp b I) O k))))
inductive DK (key:Keyed->Nat)(aS:Array Keyed)(kd:SortKind)(lo:Nat)(st:SortSt)(x:Nat)(ay:SortSt):DS->Prop
 |mk {y sT}:x=y+ (sT+1)->iC key aS kd lo st ay->DA key (arrOf ay) lo (lo+x)->Flat key (arrOf ay) (lo+y) (lo+x)->DK key aS kd lo st x ay (none,x,sT)
theorem KS (L:iB M A s aS kd key){st a}{lo b x}{Q}(hn:lo+b<=aS.size)(hx:x<=b){c}(i:DK key aS kd lo st x a c)
 (h:∀m a,iC key aS kd lo st a->1<=m->m<=b->dZ key (arrOf a) lo (lo+m)->Q (S m) a):wpS M A E s (match c.fst with
  |some r=>pure r
  |none=>if c.snd.snd>0 then do
   reverseSlice' (lo+c.snd.fst - (c.snd.snd+1)) (lo+c.snd.fst)
   wW lo b c.snd.fst
   else wW lo b c.snd.fst) Q a:=by
 cases i with| @mk y I e K q hf=>
 exact have k:1<=x:=e▸mU (dM _);have u:=bp (iD hx lo) hn;cg (λ_=>bq (zN (Zrr (by rw[e,(w3 _ _ _).symm,KU _ _];rfl:lo+x - (I+1)=lo+y) (have D:=K.trans (.rev (i:=lo+y) K.sb (dO ..) u);have H:=DI (Zrr K.sb.size u) hf;KR L hn k hx D.sb (λi k O=>(H _).symm▸(H i).symm▸q i k O) λm U o=>h m _ (D.trans o))))) λ_=>KR L hn k hx K.sb q λm U o=>h m _ (K.trans o)
theorem KW (L:iB M A s aS kd key){st}{lo o n}{Q}(hn:lo+o<=aS.size)(pA:n<o)(hB:SB aS kd st)(hs:DA key (arrOf st) lo (lo+ (n+1)))
 (h:∀m a,iC key aS kd lo st a->1<=m->m<=o->dZ key (arrOf a) lo (lo+m)->Q (S m) a):wpS M A E s (DG lo o n) Q st:=by
 refine bq (ux (si ⟨rfl,bq (l4 (I:=λx c a=>DK _ _ kd lo st x a c) (λx c a DJ H i=> ?_) (λc a i=> ?_) (.mk rfl (.refl hB) hs wY))⟩))
 . have k:=d_ (iY H lo) hn
   cases i with| @mk y O e K r hf=>
   subst e
   refine bq (wV L K.sb k (gr k) (cg (λb=> ?_) λb=> ?_))
   . have U:=wX r (b_ (of_decide_eq_true b))
     refine cg (λ_=>bq (zN (bB ?_))) λ_=>bB (.mk rfl K U wY)
     exact Zrr (by rw[(w3 _ _ _).symm,KU _ _];rfl:lo+ (y+ (O+1)) - (O+1)=lo+y) (have Y:=DI (by rw[K.sb.size];exact b_ k) hf;.mk rfl (K.trans (.rev K.sb (dO ..) (b_ k))) (λi u D=>(Y _).symm▸(Y i).symm▸U i u D) wY)
   . refine bq (wV L K.sb (gr k) k (cg (λd=>bB (KS L hn (b_ H) (.mk rfl K r hf) h)) λd=> ?_))
     . have d:=gg λz=>d (decide_eq_true z)
       refine bB (.mk rfl K (wX r d) λi u D=> ?_)
       rcases yC (fU D)with q|q
       . exact hf i u q
       . rw[(qR q)];exact cj d (gg λz=>b (decide_eq_true z))
 . rw[KQ pA]at i
   exact KS L hn (ba _) i h
def aaY (lo a:Nat):SS (Option Nat):=forIn [1:a] ((J,1):AS) (DE lo) >>=λc=>match c.1 with
 |some r=>pure r
 |none=>if(c.2==a)=ab then pure (S c.2)
  else if c.2>1 then ltAt' lo (lo+c.2 - 1) >>=λx=>match x with
   |some b=>if b=ab then pure (S c.2)else reverseSlice' lo (lo+c.2) >>=λ_=>DG lo a c.2
   |_=>pure J
  else DG lo a c.2
theorem aa0 (lo a):countRun' lo a=aaY lo a:=by kernel_rfl
theorem wpS_countRun (L:iB M A s aS kd key){st}{lo r}{Q}(hn:lo+r<=aS.size)(a:1<=r)(c:SB aS kd st)
 (h:∀m u,iC key aS kd lo st u->1<=m->m<=r->dZ key (arrOf u) lo (lo+m)->Q (S m) u):wpS M A E s (countRun' lo r) Q st:=by
 rw[aa0 _ _]
 refine bq (KN L hn (ba _) a c wY λn D H o I=>cg (λ_=>bB (h n st (.refl c) D H o)) λe=> ?_)
 have x:=yoZ H λq=>e (q▸wx)
 have hlt:=I.resolve_left (dx x)
 have y:=d_ (iY x lo) hn
 refine ao (lh (fM D)) λm O=> ?_;subst O
 refine cg (λ_=>bq (wV L c (e_ (dO ..) y) (gr y) (cg (λ_=>bB (h _ st (.refl c) D H o)) λb=>bq (zN (have K:=iC.rev (key:=key) (i:=lo) c (ba _) (b_ y);have hf:=λi a k=>cj (bp (o.le (k9 a) (fU k) (jc _)) (bp (gg λz=>b (decide_eq_true z)) (o.le (ba _) a (gr k)))) (o i a k);have U:=DI (by rw[c.size];exact b_ y) hf;KW L hn x K.sb (λi a k=>(U _).symm▸(U i).symm▸wX (λi a k=>aN (hf i a k)) (b_ hlt) i a k) λm u Y=>h m _ (K.trans Y)))))) λhg=> ?_
 . obtain rfl:m=0:=uz λz=>hg (KY z)
   exact KW L hn x c (wX wY (b_ hlt)) h
abbrev GS:=Option (Option Nat)×Nat×Nat
structure Cut (f:Nat->Bool)(n l r:Nat):Prop where
 le:l<=r
 rn:r<=n
 t:∀i,i<l->f i=ab
 f:∀i,r<=i->i<n->f i=ae
abbrev BS:=Option Bool×Nat×Nat
noncomputable def KZ (lo k:Nat):Nat->BS->SS (ForInStep BS):=λ_ c=>
 if c.2.1 >= c.2.2 then pure (.done (J,c.2.1,c.2.2))
 else ltAt' (lo+k) (lo+ (c.2.1+c.2.2) /2) >>=λx=>match x with
  |some less=>if less=ab then pure (.yield (J,c.2.1,(c.2.1+c.2.2) /2))else pure (.yield (J,(c.2.1+c.2.2) /2+1,c.2.2))
  |_=>pure (.done (S ae,c.2.1,c.2.2))
def K0 (lo n ok:Nat):SS Bool:=forIn [max ok 1:n] ((J,()):Option Bool×Unit) (λk _=>forIn [:k] ((J,0,k):BS) (KZ lo k) >>=λc=>match c.1 with
 |some r=>pure (.done (S r,()))
 |none=>moveDown' (lo+k) (lo+c.2.1) >>=λ_=>pure (.yield (J,()))) >>=λc=>match c.1 with
 |some r=>pure r
 |none=>pure ab
theorem aa2 (lo n ok):binarySort' lo n ok=K0 lo n ok:=by kernel_rfl
inductive K1 (f:Nat->Bool)(k x:Nat):BS->Prop
 |mk {l r}:Cut f k l r->r+x<=k+l->K1 f k x (none,l,r)
theorem aa3 (L:iB M A s aS kd key){st}{lo k}(D:lo+k<aS.size)(U:SB aS kd st)(H:dZ key (arrOf st) lo (lo+k)){Q:BS->SortSt->Prop}(q:∀l,Cut (λi=>decide (Ks key (arrOf st) (lo+i)<=Ks key (arrOf st) (lo+k))) k l l->Q (J,l,l) st):
 wpS M A E s (forIn [:k] (J,0,k) (KZ lo k)) Q st:=by
 refine l4 (I:=λx c o=>o=st/\K1 (λi=>decide (Ks key (arrOf st) (lo+i)<=Ks key (arrOf st) (lo+k))) k x c) (λx c o _ hx h=> ?_) (λc o h=> ?_) ⟨rfl,⟨⟨dM _,ba _,λ_ z=>(nomatch z),λ_ a b=>absurd b (qw.mpr a)⟩,ba _⟩⟩
 . revert h;intro O;refine au O λu h=> ?_;clear O;subst u
   cases h with| @mk l r c h=>
   refine cg (λe=>bB (cj c.le e▸q _ (cj c.le e▸c))) λe=> ?_
   have g:l<=(l+r) /2/\(l+r) /2<r/\(l+r) /2+ (x+1)<=k+l/\r+ (x+1)<=k+ (l+r) /2+1:=S7 ‹_› e
   exact have hm:=d_ g.2.1 c.rn;bq (wV L U D (gY (iY hm lo) D) (cg (λb=>bB ⟨rfl,⟨⟨g.1,b_ hm,c.t,λi y Y=>decide_eq_false (KJ.mpr (d_ (of_decide_eq_true b) (H.le (dO ..) (iD y _) (iY Y _))))⟩,g.2.2.1⟩⟩) λb=>bB ⟨rfl,⟨⟨g.2.1,c.rn,λi y=>decide_eq_true (bp (H.le (dO ..) (iD (fU y) _) (iY hm _)) (gg λz=>b (decide_eq_true z))),c.f⟩,g.2.2.2⟩⟩))
 . revert h;intro O;refine au O λu h=> ?_;clear O;subst u
   cases h with| @mk l r c h=>
   have:l=r:=by have:=c.le;exact HU ‹_› this
   subst this
   exact q _ c
theorem aa4 {lo k l}(I:lo+k<xs.size)(D:dZ key xs lo (lo+k))(c:Cut (λi=>decide (Ks key xs (lo+i)<=Ks key xs (lo+k))) k l l):dZ key (bubble xs (lo+k) (lo+k - (lo+l))) lo (lo+ (k+1))/\∀i,i<lo->Ks key (bubble xs (lo+k) (lo+k - (lo+l))) i=Ks key xs i:=by
 have a:=aaU (key:=key) I ((lo+k).sub_le (lo+l))
 have L:=yqC (iD c.rn lo)
 rw[L]at a
 have o:∀ {i},i<lo+l->Ks _ _ i=Ks _ xs i:=λ{i} h=>by rw[a _,if_neg (dx h)];rewrite[if_neg λz=>K4 h z.1];rfl
 have r:∀ {i},lo+l<=i->i+1<lo+k+1->Ks _ _ _=Ks _ xs i:=λ{i} h Q=>by rw[a _,if_neg (fM (qS h)),if_pos ⟨qS h,fU Q⟩];rfl
 refine⟨λi H x=> ?_,λi h=>o (d_ h (dO ..))⟩
 have y:=ynS x
 rcases i.lt_trichotomy (lo+l)with q|rfl|q
 . rw[o q]
   rcases yC (yM q)with b|b
   . rw[o b];exact D i H (d_ b (iD c.rn lo))
   . rw[show i+1=lo+l from b,a _];refine Zrr (if_pos rfl) (ao (sS H) λu O=> ?_);subst O
     exact of_decide_eq_true (c.t u (DH q))
 . rw[r (ba _) x,a _];exact Zrr (if_pos rfl) (b_ (jd (of_decide_eq_false (c.f l (ba _) (DH y)))))
 . refine ao (lh (fM (DN q))) λj O=> ?_;subst O
   rw[r (b_ q) x];exact Zrr (r (fU q) (yA y)) (D j (bp (dO ..) (fU q)) y)
theorem aa5 (L:iB M A s aS kd key){st}{lo n ok}{Q}(hn:lo+n<=aS.size)(r:1<=ok)(u:ok<=n)(x:SB aS kd st)(y:dZ key (arrOf st) lo (lo+ok))
 (h:∀a,iC key aS kd lo st a->dZ key (arrOf a) lo (lo+n)->Q ab a):wpS M A E s (binarySort' lo n ok) Q st:=by
 rw[aa2 _ _ _]
 unfold K0
 rw[Nat.max_eq_left r]
 refine bq (l4 (I:=λk c a=>c=(J,())/\iC key _ kd lo st a/\dZ _ (arrOf a) lo (lo+k)) (λk c a _ o i=> ?_) (λc a i=> ?_) ⟨rfl,.refl x,y⟩)
 . refine dp i λO K b=> ?_;clear i;exact have q:=d_ (iY o lo) hn;bq (aa3 L q K.sb b λl c=>Zrr (moveDown'_eq _ _) (have hb:=aa4 (Zrr K.sb.size q) b c;bq (zO (bB ⟨rfl,K.trans ⟨K.sb.set (bubble_perm _ _ _),rfl,hb.2⟩,hb.1⟩))))
 . refine dp i λO K b=> ?_;clear i;subst O
   rw[KQ u]at b
   exact bB (h _ K b)
noncomputable def pC:Bool->Keyed->Array Keyed->Nat->Nat->Nat->StateT SortSt Sem (Option Nat):=sortPriv%PySem.Builtin.gallop
def gQ (key:Keyed->Nat)(left:Bool)(k:Keyed)(arr:Array Keyed)(base i:Nat):Bool:=
 if left then decide (Ks key arr (base+i)<key k)else decide (Ks key arr (base+i)<=key k)
noncomputable def K5 (left:Bool)(k:Keyed)(arr:Array Keyed)(base i:Nat):StateT SortSt Sem (Option Bool):=do
 let x<-elem' arr (base+i)
 if left=ab then lt' x k else do
  let r<-lt' k x
  pure (Option.map (λx=> !x) r)
structure uA (M:Model)(A:Around)(E:Value->aT->Prop)(s:aT)(f:Nat->Bool)(t:Nat->SS (Option Bool))(n:Nat)(st:SortSt):Prop where
 ok:∀ {i} {R:Option Bool->SortSt->Prop},i<n->R (S (f i)) st->wpS M A E s (t i) R st
 mono:∀ {i j},i<=j->j<n->f j=ab->f i=ab
section
variable {f:Nat->Bool} {t:Nat->SS (Option Bool)} {n hint:Nat} {st:SortSt}
theorem uA.up (T:uA M A E s f t n st){m}(h:f m=ae):∀i,m<=i->i<n->f i=false:=λi a b=>ypI.mpr λe=>by rw[T.mono a b e]at h;exact ja h
noncomputable def aa6 (t:Nat->SS (Option Bool)):Nat->GS->SS (ForInStep GS):=λ_ c=>
 if c.2.1 >= c.2.2 then pure (.done (J,c.2.1,c.2.2))
 else t (c.2.1+ (c.2.2 - c.2.1) /2) >>=λx=>match x with
  |some more=>if more=ab then pure (.yield (J,c.2.1+ (c.2.2 - c.2.1) /2+1,c.2.2))else pure (.yield (J,c.2.1,c.2.1+ (c.2.2 - c.2.1) /2))
  |_=>pure (.done (S J,c.2.1,c.2.2))
def DO (t:Nat->SS (Option Bool))(n lo a:Nat):SS (Option Nat):=forIn [:n] (J,lo,a) (aa6 t) >>=λc=>match c.1 with
 |some r=>pure r
 |none=>pure (S c.2.2)
noncomputable def K6 (t:Nat->SS (Option Bool))(n hint:Nat):Nat->GS->SS (ForInStep GS):=λ_ c=>
 if c.2.2 >= n - hint then pure (.done (J,c.2.1,c.2.2))
 else t (hint+c.2.2) >>=λx=>match x with
  |some more=>if(!more)=ab then pure (.done (J,c.2.1,c.2.2))else pure (.yield (J,c.2.2,2*c.2.2+1))
  |_=>pure (.done (S J,c.2.1,c.2.2))
noncomputable def K7 (t:Nat->SS (Option Bool))(hint:Nat):Nat->GS->SS (ForInStep GS):=λ_ c=>
 if c.2.2 >= hint+1 then pure (.done (J,c.2.1,c.2.2))
 else t (hint - c.2.2) >>=λx=>match x with
  |some a=>if a=ab then pure (.done (J,c.2.1,c.2.2))else pure (.yield (J,c.2.2,2*c.2.2+1))
  |_=>pure (.done (S J,c.2.1,c.2.2))
def K8 (t:Nat->SS (Option Bool))(n hint:Nat):SS (Option Nat):=t hint>>=λx=>match x with
 |some right=>if right=ab then forIn [:n] (J,0,1) (K6 t n hint) >>=λc=>match c.1 with
  |some r=>pure r
  |none=>DO t n (hint+c.2.1+1) (hint+min c.2.2 (n - hint))
  else forIn [:n] (J,0,1) (K7 t hint) >>=λc=>match c.1 with
   |some r=>pure r
   |none=>DO t n (hint+1 - min c.2.2 (hint+1)) (hint - c.2.1)
 |_=>pure J
theorem aa8 (left)(k)(arr)(base n hint):pC left k arr base n hint=K8 (K5 left k arr base) n hint:=by kernel_rfl
inductive K9 (f:Nat->Bool)(n x:Nat):GS->Prop
 |mk {l r}:Cut f n l r->r+x<=n+l->K9 f n x (none,l,r)
theorem K_ (T:uA M A E s f t n st){lo a}(c:Cut f n lo a){Q}(q:∀r,Cut f n r r->Q (S r) st):wpS M A E s (DO t n lo a) Q st:=by
 refine bq (l4 (I:=λx c k=>k=st/\K9 f n x c) (λx c k _ hx h=> ?_) (λc k h=> ?_) ⟨rfl,⟨c,vq c.rn (dM _)⟩⟩)
 . revert h;intro O;refine au O λo h=> ?_;clear O;subst o
   cases h with| @mk l r c h=>
   refine cg (λe=>bB (bB (q _ (cj c.le e▸c)))) λe=> ?_
   have hm:l+ (r - l) /2<r:=UC e
   refine bq (T.ok (d_ hm c.rn) (cg (λb=>bB ⟨rfl,⟨⟨hm,c.rn,λi a=>T.mono (fU a) (d_ hm c.rn) b,c.f⟩,(UD ‹_›)⟩⟩) λb=>bB ⟨rfl,⟨⟨dO ..,b_ (d_ hm c.rn),c.t,T.up (eq_false_of_ne_true b)⟩,(UE ‹_› hm)⟩⟩))
 . revert h;intro O;refine au O λo h=> ?_;clear O;subst o
   cases h with| @mk l r c h=>
   have:l=r:=by have:=c.le;exact HU ‹_› this
   subst this
   exact bB (q _ c)
inductive La (f:Nat->Bool)(hint x:Nat):GS->Prop
 |mk {l o}:x<o->l<o->l<=hint->f (hint - l)=false->La f hint x (none,l,o)
theorem aa9 (T:uA M A E s f t n st)(H:hint<n)(hb:f hint=ae){Q:GS->SortSt->Prop}(q:∀l o,l<o->l<=hint->f (hint - l)=ae->(o<=hint->f (hint - o)=ab)->Q (J,l,o) st):wpS M A E s (forIn [:n] (J,0,1) (K7 t hint)) Q st:=by
 refine l4 (I:=λx c u=>u=st/\La f _ x c) (λx c u _ hx h=> ?_) (λc u h=> ?_) ⟨rfl,⟨DP,DP,dM _,hb⟩⟩
 . revert h;intro O;refine au O λy h=> ?_;clear O;subst y
   cases h with| @mk l o D a k r=>
   have g:x+1<2*o+1/\o<2*o+1:=H5 D
   exact cg (λe=>bB (q _ _ a k r λz=>absurd (bp e z) (QW _))) λe=>bq (T.ok (e_ (jA ..) H) (cg (λb=>bB (q _ _ a k r λ_=>b)) λb=>bB ⟨rfl,⟨g.1,g.2,gg e,eq_false_of_ne_true b⟩⟩))
 . revert h;intro O;refine au O λy h=> ?_;clear O;subst y
   cases h with|mk D a k r=>
   exact q _ _ a k r λz=>absurd (d_ D (bp z (b_ H))) (by simp)
inductive Lf (f:Nat->Bool)(n hint x:Nat):GS->Prop
 |mk {l o}:x<o->l<o->hint+l<n->f (hint+l)=true->Lf f n hint x (none,l,o)
theorem aba (T:uA M A E s f t n st)(H:hint<n)(hb:f hint=ab){Q:GS->SortSt->Prop}(q:∀l o,l<o->hint+l<n->f (hint+l)=ab->(hint+o<n->f (hint+o)=ae)->Q (J,l,o) st):wpS M A E s (forIn [:n] (J,0,1) (K6 t n hint)) Q st:=by
 refine l4 (I:=λx c u=>u=st/\Lf f n _ x c) (λx c u _ hx h=> ?_) (λc u h=> ?_) ⟨rfl,⟨DP,DP,H,hb⟩⟩
 . revert h;intro O;refine au O λy h=> ?_;clear O;subst y
   cases h with| @mk l o D a k r=>
   have g:x+1<2*o+1/\o<2*o+1:=H5 D
   refine cg (λe=>bB (q _ _ a k r (absurd · (qw.mpr (ynR.mp e))))) λe=> ?_
   have e:=jd λz=>e (ynR.mpr z)
   refine bq (T.ok e (cg (λb=>bB (q _ _ a k r λ_=>(oB _).mp b)) λb=>bB ⟨rfl,⟨g.1,g.2,e,by lia⟩⟩))
 . revert h;intro O;refine au O λy h=> ?_;clear O;subst y
   cases h with|mk D a k r=>
   refine q _ _ a k r λz=>absurd (gY D (e_ (zQ ..) z)) (by simp)
theorem abb (T:uA M A E s f t n st)(c:hint<n){Q}(q:∀r,Cut f n r r->Q (S r) st):wpS M A E s (K8 t n hint) Q st:=by
 refine bq (T.ok c (cg (λb=>bq (aba T c b λl o x u y D=>K_ T ?_ q)) λb=>bq (aa9 T c (eq_false_of_ne_true b) λl o x u y D=>K_ T ?_ q)))
 . have hn:=zR (b_ c)
   refine⟨iD (rU.mpr ⟨x,Nat.lt_sub_iff_add_lt'.mpr u⟩) _,bp (iD (qj _ _) _) (aN hn),λi a=>T.mono (fU a) u y,λi a H=> ?_⟩
   . have k:hint+o<=i:=by
      refine(o.le_total _).elim (λz=>jI z▸a) λz=> ?_
      . rw[Cy z,hn]at a;exact absurd H (qw.mpr a)
     exact T.up (D (e_ k H)) i k H
 . refine⟨bp (Nat.sub_le_sub_left (rU.mpr ⟨x,mU u⟩) _) (aN (hint.add_sub_add_right 1 l)),bp (jA ..) (b_ c),λi a=> ?_,T.up y⟩
   . have k:=fU (jd λz=>i.not_lt_zero (by rw[Cy z,kE]at a;exact a))
     rw[jI (k9 k)]at a
     exact T.mono (fU (Nat.lt_of_lt_of_eq a (Nat.succ_sub k))) (e_ (jA ..) c) (D k)
end
theorem DQ (L:iB M A s aS kd key){st}{left}{k}{arr}{base n hint}{Q}(b:kindOf st=kd)(hk:k∈aS.toList)(ha:∀i,i<n->∃p,arr[base+i]?=S p/\p∈aS.toList)
 (q:dZ key arr base (base+n))(u:hint<n)
 (h:∀r,r<=n->(∀i,i<r->gQ key left k arr base i=ab)->(∀i,r<=i->i<n->gQ key left k arr base i=ae)->Q (S r) st):wpS M A E s (pC left k arr base n hint) Q st:=by
 rewrite[aa8]
 refine abb ⟨λ{i R} x a=> ?_,λ{i j} y D e=> ?_⟩ u λr c=>h r c.rn c.t c.f
 . refine ah (ha i x) λp o hm=> ?_
   unfold gQ Ks at a
   rw[o]at a
   unfold K5
   rw[DC _ _];refine Zrr o (bq (bB ?_))
   cases left
   . refine bq (L E k p st _ hk hm b (bB ?_))
     have:(!decide (key k<key p))=decide (key p<=key k):=by rw[decide_not.symm];exact decide_eq_decide.mpr qw
     show R (S !decide _) st
     exact Zrr this a
   exact L E p k st _ hm hk b a
 . have hl:=q.le (dO ..) (iD y _) (iY D _)
   cases left
   . exact decide_eq_true (bp hl (of_decide_eq_true e))
   exact decide_eq_true (e_ hl (of_decide_eq_true e))
noncomputable def uB:Nat->StateT SortSt Sem Unit:=sortPriv%PySem.Builtin.setMinGallop
noncomputable abbrev m_ (st:SortSt)(g:Nat):SortSt:=SortSt.mk' (kindOf st) (arrOf st) (pendingOf st) g (failedOf st)
theorem aiw (g):uB g=modify (m_ · g):=rfl
noncomputable def zS:Array Keyed->Array Keyed->StateT SortSt Sem (Array Keyed):=sortPriv%PySem.Builtin.mergeLo
section
variable {a b:Array Keyed}
theorem g7 {st}{Q}(h:arr[i]?=S p)(q:Q p st):wpS M A E s (elem' arr i) Q st:=by
 rw[DC _ _,h];exact bB q
theorem zT {st}{Q}(q:Q () (m_ st g)):wpS M A E s (uB g) Q st:=zO q
def Le (key:Keyed->Nat)(x y:Keyed):Prop:=key x<=key y
structure eA (key:Keyed->Nat)(a b:Array Keyed)(out:Array Keyed)(ia ib:Nat):Prop where
 perm:out.toList.Perm (a.toList.take ia++b.toList.take ib)
 sorted:out.toList.Pairwise (Le key)
 la:∀x∈out.toList,∀y∈a.toList.drop ia,key x<=key y
 lb:∀x∈out.toList,∀y∈b.toList.drop ib,key x<=key y
def Done (key:Keyed->Nat)(a b out:Array Keyed):Prop:=out.toList.Perm (a.toList++b.toList)/\out.toList.Pairwise (Le key)
theorem qU (xs:Array Keyed)(i k):(xs.extract i (i+k)).toList=(xs.toList.drop i).take k:=by simp
theorem zV (xs:Array Keyed)(i):(xs.extract i xs.size).toList=xs.toList.drop i:=by
 rw[ynX];exact Zrr ymS (f_ (by simp))
theorem DR {xs out:Array Keyed}{i}{p}(h:xs[i]?=S p):out.push p=out++xs.extract i (i+1):=by
 apply qW.mp
 rw[zA,r_,qU _ _ _]
 have c:=by
  have:=ymD.mp h
  simpa using this.1
 rw[(by
  rw[ou c]
  have:=ymD.mp h
  simpa using this.2:xs.toList.drop i=p::xs.toList.drop (i+1))];rfl
theorem pD {l:List Keyed}{m k}{x}(h:x∈ (l.drop m).take k):∃i,i<k/\l[m+i]?=S x:=by
 refine ao (w5 h) λi o=>ao o λc e=> ?_;rw[ie,qX]at c
 refine⟨i,(Nat.lt_min.mp c).1,?_⟩
 rw[List.getElem_take,ypB]at e
 rw[dr _,e];rfl
theorem w6 {l:List Keyed}{m}{x}(h:x∈l.drop m):∃i,l[m+i]?=S x:=by
 refine ao (w5 h) λi c=>ao c λk e=> ?_;rw[qX]at k
 refine⟨i,?_⟩
 rw[ypB]at e
 rw[dr _,e];rfl
theorem pE {l:List _}(h:l.Pairwise (Le key)){i j:Nat}{x y}(hx:l[i]?=S x)(c:l[j]?=S y)(k:i<=j):key x<=key y:=by
 refine ao (dk.mp hx) λo O=> ?_;subst O
 refine ao (dk.mp c) λr O=> ?_;subst O
 rcases i.lt_or_ge j with q|q
 . exact Lh.mp h i j o r q
 . have:i=j:=cj k q
   subst this;exact ba _
theorem eA.sV (sa:a.toList.Pairwise (Le key)){out}{c q k}(j:eA key a b out c q)(h:∀x∈ (a.toList.drop c).take k,∀y∈b.toList.drop q,key x<=key y):eA key a b (out++a.extract c (c+k)) (c+k) q:=by
 have e:(out++a.extract c (c+k)).toList=out.toList++ (a.toList.drop c).take k:=by rw[r_,qU _ _ _];rfl
 have r:=(sa.sublist (ypD _ _):(a.toList.drop c).Pairwise _)
 rw[<-iZ k (a.toList.drop c),gc]at r
 refine⟨?_,?_,?_,?_⟩
 . rw[e];refine Zrr Li ((j.perm.append_right _).trans ?_)
   rw[bM _ _ _];exact Zrr (bM _ _ _) (.append_left _ DT)
 . rw[e];exact Zrr (propext gc) ⟨j.sorted,r.1,λx hx y o=>j.la x hx y (oC o)⟩
 . rw[e];exact Zrr (by simp:a.toList.drop (c+k)=(a.toList.drop c).drop k) λx hx y o=>(b5.mp hx).elim (j.la x · y (zW o)) (r.2.2 x · y o)
 exact Zrr e λx hx y o=>(b5.mp hx).elim (j.lb x · y o) (h x · y o)
theorem eA.sW (sb:b.toList.Pairwise (Le key)){out}{q c k}(j:eA key a b out q c)(h:∀x∈ (b.toList.drop c).take k,∀y∈a.toList.drop q,key x<=key y):eA key a b (out++b.extract c (c+k)) q (c+k):=by
 have e:(out++b.extract c (c+k)).toList=out.toList++ (b.toList.drop c).take k:=by rw[r_,qU _ _ _];rfl
 have r:=(sb.sublist (ypD _ _):(b.toList.drop c).Pairwise _)
 rw[<-iZ k (b.toList.drop c),gc]at r
 refine⟨?_,?_,?_,?_⟩
 . rw[e,Li];exact Zrr (bM _ _ _).symm (j.perm.append_right _)
 . rw[e];exact Zrr (propext gc) ⟨j.sorted,r.1,λx hx y o=>j.lb x hx y (oC o)⟩
 . exact Zrr e λx hx y o=>(b5.mp hx).elim (j.la x · y o) (h x · y o)
 . rw[e];exact Zrr (by simp:b.toList.drop (c+k)=(b.toList.drop c).drop k) λx hx y o=>(b5.mp hx).elim (j.lb x · y (zW o)) (r.2.2 x · y o)
theorem eA.uC (sa:a.toList.Pairwise (Le key))(sb:b.toList.Pairwise (Le key)){out}{k c}{p q}(j:eA key a b out k c)(o:a[k]?=S p)(u:b[c]?=S q)(h:key p<=key q):eA key a b (out.push p) (k+1) c:=by
 rw[DR o]
 refine j.sV sa λx hx y D=>ah (pD hx) λi H r=>ao (w6 D) λm I=> ?_
 have:i=0:=q4 H
 subst this
 rw[tO,eK,o]at r
 cases r
 have:=pE sb (i:=c) (by rw[eK];exact u) I (by simp)
 exact bp ‹_› ‹_›
theorem eA.uD (sa:a.toList.Pairwise (Le key))(sb:b.toList.Pairwise (Le key)){out}{c k}{p q}(j:eA key a b out c k)(u:a[c]?=S p)(o:b[k]?=S q)(h:key q<=key p):eA key a b (out.push q) c (k+1):=by
 rw[DR o]
 refine j.sW sb λx hx y D=>ah (pD hx) λi H r=>ao (w6 D) λm I=> ?_
 have:i=0:=q4 H
 subst this
 rw[tO,eK,o]at r
 cases r
 have:=pE sa (i:=c) (by rw[eK];exact u) I (by simp)
 exact bp ‹_› ‹_›
theorem eA.DU (sa:a.toList.Pairwise (Le key))(sb:b.toList.Pairwise (Le key)){out}{c o k}{q}(j:eA key a b out c o)(D:b[o]?=S q)(h:∀i,i<k->gQ key ae q a c i=ab):eA key a b (out++a.extract c (c+k)) (c+k) o:=by
 refine j.sV sa λx hx y H=>ah (pD hx) λi I u=>ao (w6 H) λm L=> ?_
 have r:=h i I
 unfold gQ Ks at r
 rw[eK]at u
 rw[u]at r
 have:=pE sb (Zrr eK D) L (by simp)
 simp at r
 exact bp ‹_› ‹_›
theorem eA.DW (sa:a.toList.Pairwise (Le key))(sb:b.toList.Pairwise (Le key)){out}{o c k}{p}(j:eA key a b out o c)(u:a[o]?=S p)(h:∀i,i<k->gQ key ab p b c i=ab):eA key a b (out++b.extract c (c+k)) o (c+k):=by
 refine j.sW sb λx hx y D=>ah (pD hx) λi H r=>ao (w6 D) λm I=> ?_
 have q:=h i H
 unfold gQ Ks at q
 rw[eK]at r
 rw[r]at q
 have:=pE sa (Zrr eK u) I (by simp)
 simp at q
 lia
theorem eA.done (sa:a.toList.Pairwise (Le key))(sb:b.toList.Pairwise (Le key)){out}{c o}(j:eA key a b out c o)(h:a.size<=c\/b.size<=o):Done key a b (out++a.extract c a.size++b.extract o b.size):=by
 have r:=(j.sV (k:=a.size - c) sa λx hx y q=>by
  rcases h with h|h
  . exact ah (pD hx) λi u _=>(Rg h u)
  . rw[sD (by simpa using h)]at q;cases q).sW (k:=b.size - o) sb λx hx y q=>by
  rw[sD (by simp;exact q0)]at q;cases q
 have D:a.extract c (c+ (a.size - c))=a.extract c a.size:=by
  apply qW.mp;rw[qU _ _ _,zV _ _];exact f_ (by simp)
 rw[D,(by
  apply qW.mp;rw[qU _ _ _];rw[zV _ _];exact f_ (by simp):b.extract o _=b.extract o b.size)]at r
 refine⟨r.perm.trans (Zrr (f_ (by simp;exact q0)) (Zrr (f_ (by simp;exact q0)) ?_)),r.sorted⟩;rfl
theorem eA.last (sa:a.toList.Pairwise (Le key))(sb:b.toList.Pairwise (Le key)){out}{c o}(j:eA key a b out c o)(h:c+1=a.size)(hl:∀x∈b.toList,Ks key a (a.size - 1) >= key x):Done key a b (out++b.extract o b.size++a.extract c a.size):=by
 have r:=(j.sW (k:=b.size - o) sb λx hx y q=>by
  refine ao (w6 q) λm u=> ?_
  have hm:=(dk.mp u).1
  have:m=0:=by simp at hm;lia
  subst this
  have:=hl x (zW (oC hx))
  unfold Ks at this
  rw[eK,tO]at u
  rw[show a.size - 1=c by exact S_ h,u]at this
  exact this).sV (k:=a.size - c) sa λx hx y q=>by
  rw[sD (by simp;exact q0)]at q;cases q
 have D:a.extract c (c+ (a.size - c))=a.extract c a.size:=by
  apply qW.mp;rw[qU _ _ _,zV _ _];exact f_ (by simp)
 rw[D,(by
  apply qW.mp;rw[qU _ _ _];rw[zV _ _];exact f_ (by simp):b.extract o _=b.extract o b.size)]at r
 refine⟨r.perm.trans (Zrr (f_ (by simp;exact q0)) (Zrr (f_ (by simp;exact q0)) ?_)),r.sorted⟩;rfl
end
section
variable {a b:Array Keyed}
structure SG (st ay:SortSt):Prop where
 arr:arrOf ay=arrOf st
 kind:kindOf ay=kindOf st
 pend:pendingOf ay=pendingOf st
 fail:failedOf ay=failedOf st
theorem SG.trans {st c o}(h:SG st c)(k:SG c o):SG st o:=⟨k.arr.trans h.arr,k.kind.trans h.kind,k.pend.trans h.pend,k.fail.trans h.fail⟩
theorem SG.nf {st c}(h:SG st c)(g):SG st (m_ c g):=⟨h.arr,h.kind,h.pend,h.fail⟩
theorem abc (h:xs.toList.Pairwise (Le key))(i j)(k:j<=xs.size):dZ key xs i j:=by
 intro x _ c
 have c:=d_ c k
 unfold Ks
 rw[zJ c,zJ (gr c)]
 exact pE h (by simp) (by simp) x.le_succ
theorem DX {q p}{base i}(h:gQ key ae q arr base i=ae)(c:arr[base+i]?=S p):key q<=key p:=by
 unfold gQ Ks at h
 rw[c]at h
 simp at h
 exact b_ ‹_›
theorem DY {q p}{base i}(h:gQ key ab q arr base i=ae)(c:arr[base+i]?=S p):key q<=key p:=by
 unfold gQ Ks at h
 rw[c]at h
 simpa using h
theorem oE {x y:Nat}(h:¬(x==y)=ab):x≠y:=λe=>h (e▸wx)
theorem w7 {x y:Nat}(h:(x==y)=ab):y<=x:=aN (eq_of_beq h).symm
theorem pF {x y:Nat}(l:x<=y)(h:¬(x==y)=ab):x<y:=yoZ l (oE h)
structure MA (M:Model)(A:Around)(s:aT)(aS:Array Keyed)(kd:SortKind)(key:Keyed->Nat)(a b:Array Keyed):Prop where
 lt:iB M A s aS kd key
 ha:∀i,i<a.size->∃p,a[i]?=S p/\p∈aS.toList
 hb:∀i,i<b.size->∃p,b[i]?=S p/\p∈aS.toList
 sa:a.toList.Pairwise (Le key)
 sb:b.toList.Pairwise (Le key)
abbrev RA:=Option (Array Keyed)
structure TQ {τ:Type}(G D:τ->Prop)(Q:ForInStep τ->Prop):Prop where
 d:∀ {c},D c->Q (.done c)
 g:∀ {c},G c->Q (.done c)/\Q (.yield c)
inductive Dn {β:Type}(key:Keyed->Nat)(a b:Array Keyed):RA×β->Prop
 |mk {r d}:Done key a b r->Dn key a b (some r,d)
theorem zX {k n e}{f:Nat->u->SS _}{P:SortSt->Prop}{G:Nat->u->Prop}{D}(he:e<=k)(mono:∀ {m q c},m<=q->G q c->G m c)
 (step:∀x c st,P st->G n c->∀Q,(∀o,P o->TQ (G (n+e)) D (Q · o))->wpS M A E s (f x c) Q st){Q}
 (y:∀c st,P st->D c->Q c st)(r:∀c st,P st->G (n+e) c->Q c st){c}{st}(i:G n c)(H:P st):wpS M A E s (forIn [:k] c f) Q st:=
 l4 (I:=λx c st=>P st/\G (n+min x e) c) (λx c st _ _ h=>step x c st h.1 (mono (dO ..) h.2) _ λo p=>⟨y _ o p,λg=>⟨r _ _ p g,p,mono (iD (qj ..) n) g⟩⟩)
  (λc st h=>r c st h.1 (mono (by rw[Lj _,Cy he];exact ba _) h.2)) ⟨H,mono (ba _) i⟩
noncomputable def dn (a b out:Array Keyed)(c k:Nat):Array Keyed:=out++a.extract c a.size++b.extract k b.size
noncomputable def dl (a b out:Array Keyed)(c k:Nat):Array Keyed:=out++b.extract k b.size++a.extract c a.size
abbrev LT:=RA×Array Keyed×Nat×Nat×Nat×Nat×Nat
def DZ (a b:Array Keyed)(mg ac k:Nat)(out:Array Keyed)(c o:Nat):SS (ForInStep LT):=elem' a c>>=λp=>
 if(c+1+1==a.size)=ab then pure (.done (S (dl a b (out.push p) (c+1) o),out.push p,c+1,o,mg,ac,k))
 else if(decide (ac<7) &&decide (k<7))=ab then pure (.done (J,out.push p,c+1,o,mg,ac,k))else pure (.yield (J,out.push p,c+1,o,mg,ac,k))
def D0 (a b:Array Keyed)(mg ac r:Nat)(out:Array Keyed)(o c:Nat):SS (ForInStep LT):=elem' b c>>=λq=>
 if(c+1==b.size)=ab then pure (.done (S (dn a b (out.push q) o (c+1)),out.push q,o,c+1,mg,ac,r))
 else elem' a o>>=λp=>pC ab p b (c+1) (b.size - (c+1)) 0>>=λx=>match x with
  |some k=>if k>0 then
   if(c+1+k==b.size)=ab then pure (.done (S (dn a b (out.push q++b.extract (c+1) (c+1+k)) o (c+1+k)),out.push q++b.extract (c+1) (c+1+k),o,c+1+k,mg,ac,k))
   else DZ a b mg ac k (out.push q++b.extract (c+1) (c+1+k)) o (c+1+k)
   else DZ a b mg ac k (out.push q) o (c+1)
  |_=>pure (.done (S (dn a b (out.push q) o (c+1)),out.push q,o,c+1,mg,ac,r))
def lo1 (a b:Array Keyed)(r:Nat)(out:Array Keyed)(c o u mg:Nat):SS (ForInStep LT):=uB mg>>=λ_=>elem' b o>>=λq=>pC ae q a c (a.size - c) 0>>=λx=>match x with
 |some k=>if k>0 then
  if(c+k+1==a.size)=ab then pure (.done (S (dl a b (out++a.extract c (c+k)) (c+k) o),out++a.extract c (c+k),c+k,o,mg,k,r))
  else if(c+k==a.size)=ab then pure (.done (S (dn a b (out++a.extract c (c+k)) (c+k) o),out++a.extract c (c+k),c+k,o,mg,k,r))
  else D0 a b mg k r (out++a.extract c (c+k)) (c+k) o
  else D0 a b mg k r out c o
 |_=>pure (.done (S (dn a b out c o),out,c,o,mg,u,r))
def loG (a b:Array Keyed):Nat->LT->SS (ForInStep LT):=λ_ c=>
 if c.2.2.2.2.1>1 then lo1 a b c.2.2.2.2.2.2 c.2.1 c.2.2.1 c.2.2.2.1 c.2.2.2.2.2.1 (c.2.2.2.2.1 - 1)else lo1 a b c.2.2.2.2.2.2 c.2.1 c.2.2.1 c.2.2.2.1 c.2.2.2.2.2.1 c.2.2.2.2.1
def Lm (a b:Array Keyed)(mg:Nat):Nat->RA×Array Keyed×Nat×Nat×Nat×Nat->SS (ForInStep (RA×Array Keyed×Nat×Nat×Nat×Nat)):=λ_ c=>
 elem' b c.2.2.2.1>>=λy=>elem' a c.2.2.1>>=λx=>lt' y x>>=λw=>match w with
 |some w=>if w=ab then elem' b c.2.2.2.1>>=λq=>
  if(c.2.2.2.1+1==b.size)=ab then pure (.done (S (dn a b (c.2.1.push q) c.2.2.1 (c.2.2.2.1+1)),c.2.1.push q,c.2.2.1,c.2.2.2.1+1,0,c.2.2.2.2.2+1))
  else if c.2.2.2.2.2+1 >= mg then pure (.done (J,c.2.1.push q,c.2.2.1,c.2.2.2.1+1,0,c.2.2.2.2.2+1))else pure (.yield (J,c.2.1.push q,c.2.2.1,c.2.2.2.1+1,0,c.2.2.2.2.2+1))
  else elem' a c.2.2.1>>=λp=>
   if(c.2.2.1+1+1==a.size)=ab then pure (.done (S (dl a b (c.2.1.push p) (c.2.2.1+1) c.2.2.2.1),c.2.1.push p,c.2.2.1+1,c.2.2.2.1,c.2.2.2.2.1+1,0))
   else if c.2.2.2.2.1+1 >= mg then pure (.done (J,c.2.1.push p,c.2.2.1+1,c.2.2.2.1,c.2.2.2.2.1+1,0))else pure (.yield (J,c.2.1.push p,c.2.2.1+1,c.2.2.2.1,c.2.2.2.2.1+1,0))
 |_=>pure (.done (S (dn a b c.2.1 c.2.2.1 c.2.2.2.1),c.2.1,c.2.2.1,c.2.2.2.1,c.2.2.2.2.1,c.2.2.2.2.2))
def Ln (a b:Array Keyed):Nat->RA×Array Keyed×Nat×Nat×Nat->SS (ForInStep (RA×Array Keyed×Nat×Nat×Nat)):=λ_ c=>
 forIn [:a.size+b.size] (J,c.2.1,c.2.2.1,c.2.2.2.1,0,0) (Lm a b c.2.2.2.2) >>=λd=>match d.1 with
 |some r=>pure (.done (S r,d.2.1,d.2.2.1,d.2.2.2.1,c.2.2.2.2))
 |none=>(liftM (rule "list.sort.gallop"):SS Unit) >>=λ_=>
  forIn [:a.size+b.size] (J,d.2.1,d.2.2.1,d.2.2.2.1,c.2.2.2.2+1,d.2.2.2.2.1,d.2.2.2.2.2) (loG a b) >>=λd=>match d.1 with
  |some r=>pure (.done (S r,d.2.1,d.2.2.1,d.2.2.2.1,d.2.2.2.2.1))
  |none=>uB (d.2.2.2.2.1+1) >>=λ_=>pure (.yield (J,d.2.1,d.2.2.1,d.2.2.2.1,d.2.2.2.2.1+1))
theorem abd (a b):zS a b=(liftM (rule "list.sort.merge-lo"):SS _) >>=λ_=>elem' b 0>>=λq=>
 if(1==b.size)=ab then pure (dn a b #[q] 0 1)
 else if(0+1==a.size)=ab then pure (dl a b #[q] 0 1)
 else get>>=λst=>forIn [:a.size+b.size] (J,#[q],0,1,gallopOf st) (Ln a b) >>=λd=>match d.1 with
  |some r=>pure r
  |none=>liftM (unsupported "internal:list.sort.merge-bound"):=by kernel_rfl
structure uE (key:Keyed->Nat)(a b:Array Keyed)(n:Nat)(out:Array Keyed)(ia ib:Nat):Prop where
 j:eA key a b out ia ib
 la:ia+1<a.size
 lb:ib<b.size
 m:n<=ia+ib
inductive l5 {δ:Type}(key:Keyed->Nat)(a b:Array Keyed)(n:Nat):RA×Array Keyed×Nat×Nat×δ->Prop
 |mk {o i j d}:uE key a b n o i j->l5 key a b n (none,o,i,j,d)
theorem l5.mono {c:RA×Array _×Nat×Nat×k}(l:m<=n)(h:l5 key a b n c):l5 key a b m c:=by
 cases h with|mk h=>exact⟨h.j,h.la,h.lb,bp l h.m⟩
section
variable {st:SortSt} {n mg ac bc ia ib:Nat} {out:Array Keyed}
theorem MA.nf (W:MA M A s aS kd key a b)(hk:kindOf st=kd){left}{k}{arr}{base n hint}{Q}(m:k∈aS.toList)(ha:∀i,i<arr.size->∃p,arr[i]?=S p/\p∈aS.toList)
 (c:arr.toList.Pairwise (Le key))(e:base+n<=arr.size)(o:hint<n)(h:∀r,r<=n->(∀i,i<r->gQ key left k arr base i=ab)->(∀i,r<=i->i<n->gQ key left k arr base i=ae)->Q (S r) st):wpS M A E s (pC left k arr base n hint) Q st:=
 DQ W.lt hk m (λi q=>ha _ (d_ (iY q _) e)) (abc c _ _ e) o h
variable (W:MA M A s aS kd key a b) (hl:∀x∈b.toList,Ks key a (a.size - 1) >= key x)
include W hl
theorem Lo (i:uE key a b n out ia ib)(le:∀p q,a[ia]?=S p->b[ib]?=S q->key p<=key q)(q:TQ (l5 key a b n) (Dn key a b) (Q · st)):wpS M A E s (DZ a b mg ac bc out ia ib) Q st:=ah (W.hb ib i.lb) λq0 eq _=>ah (W.ha ia (gr i.la)) λp k _=>have o:=i.j.uC W.sa W.sb k eq (le p q0 k eq);bq (g7 k (cg (λe=>bB (q.d ⟨o.last W.sa W.sb (eq_of_beq e) hl⟩)) λe=>have g:=q.g (c:=(J,_,_,_,mg,ac,bc)) ⟨o,pF i.la e,i.lb,bp i.m (Sr)⟩;cg (λ_=>bB g.1) λ_=>bB g.2))
theorem Lp (hk:kindOf st=kd){Q}(i:uE key a b n out ia ib)(le:∀p q,a[ia]?=S p->b[ib]?=S q->key q<=key p)(q:TQ (l5 key a b n) (Dn key a b) (Q · st)):wpS M A E s (D0 a b mg ac bc out ia ib) Q st:=by
 refine ah (W.hb ib i.lb) λq0 eq _=>ah (W.ha ia (gr i.la)) λp c mp=> ?_
 have o:=i.j.uD W.sa W.sb c eq (le p q0 c eq)
 refine bq (g7 eq (cg (λe=>bB (q.d ⟨o.done W.sa W.sb (.inr (w7 e))⟩)) λe=> ?_))
 have lb:=pF i.lb e
 have hm:n<=ia+ (ib+1):=k9 i.m
 refine bq (g7 c (bq (W.nf hk mp W.hb W.sb (aN (zR i.lb)) (D1 lb) λk u D H=> ?_)))
 have nx:ib+1+k<b.size->∀x y,a[ia]?=S x->b[ib+1+k]?=S y->key x<=key y:=λh x y ex I=>by
  rw[c]at ex;cases ex
  exact DY (H k k.le_refl (yoF (n4 .. ▸h))) I
 refine cg (λ_=>have r:=o.DW W.sa W.sb c D;cg (λe=>bB (q.d ⟨r.done W.sa W.sb (.inr (w7 e))⟩)) λe=>have l:=pF (show ib+1+k<=b.size by exact QX u ‹_›) e;Lo W hl ⟨r,i.la,l,bp hm (iD (dO ..) _)⟩ (nx l) q) λh0=> ?_
 . obtain rfl:=uz h0
   exact Lo W hl ⟨o,i.la,lb,hm⟩ (nx lb) q
theorem Lq (hk:kindOf st=kd){Q}(i:uE key a b n out ia ib)(q:TQ (l5 key a b n) (Dn key a b) (Q · (m_ st mg))):wpS M A E s (lo1 a b bc out ia ib ac mg) Q st:=by
 refine ah (W.hb ib i.lb) λq0 eq r=> ?_
 have la:=gr i.la
 refine bq (zT (bq (g7 eq (bq (W.nf (st:=m_ st mg) hk r W.ha W.sa (aN (zR (b_ la))) (D1 la) λk u D H=> ?_)))))
 have nx:ia+k<a.size->∀x y,a[ia+k]?=S x->b[ib]?=S y->key y<=key x:=λh x y ex o=>by
  rw[eq]at o;cases o
  exact DX (H k k.le_refl (yoF (n4 .. ▸h))) ex
 refine cg (λ_=>have c:=i.j.DU W.sa W.sb eq D;cg (λe=>bB (q.d ⟨c.last W.sa W.sb (eq_of_beq e) hl⟩)) λe=>cg (λe=>bB (q.d ⟨c.done W.sa W.sb (.inl (w7 e))⟩)) λI=>have l:=pF (pF (show ia+k<=a.size by exact S' u ‹_›) I) e;Lp W hl (st:=m_ st mg) hk ⟨c,l,i.lb,bp i.m (D2 (dO ..) _)⟩ (nx (gr l)) q) λh0=> ?_
 . obtain rfl:=uz h0
   exact Lp W hl (st:=m_ st mg) hk i (nx la) q
theorem abe (hk:kindOf st=kd){Q}{x}(i:uE key a b n out ia ib)(q:TQ (l5 key a b (n+1)) (Dn key a b) (Q · st)):wpS M A E s (Lm a b mg x (J,out,ia,ib,ac,bc)) Q st:=ah (W.hb ib i.lb) λq0 eq r=>ah (W.ha ia (gr i.la)) λp o mp=>bq (g7 eq (bq (g7 o (bq (W.lt E q0 p st _ r mp hk (cg (λh=>bq (g7 eq (have k:=i.j.uD W.sa W.sb o eq (b_ (of_decide_eq_true h));cg (λe=>bB (q.d ⟨k.done W.sa W.sb (.inr (w7 e))⟩)) λe=>have g:=q.g (c:=(J,_,_,_,0,bc+1)) ⟨k,i.la,pF i.lb e,mU i.m⟩;cg (λ_=>bB g.1) λ_=>bB g.2))) λh=>bq (g7 o (have k:=i.j.uC W.sa W.sb o eq (gg (of_decide_eq_false (eq_false_of_ne_true h)));cg (λe=>bB (q.d ⟨k.last W.sa W.sb (eq_of_beq e) hl⟩)) λe=>have g:=q.g (c:=(J,_,_,_,ac+1,0)) ⟨k,pF i.la e,i.lb,HD .. ▸mU i.m⟩;cg (λ_=>bB g.1) λ_=>bB g.2))))))))
theorem abf (hk:kindOf st=kd){Q}{x}(i:uE key a b n out ia ib)(q:∀o c,SG st o->Dn key a b c->Q (.done c) o)(r:∀o c,SG st o->l5 key a b (n+1) c->Q (.yield c) o):wpS M A E s (Ln a b x (J,out,ia,ib,mg)) Q st:=by
 refine bq (zX (G:=l5 _ a b) (D:=Dn key a b) (yqD (DN i.la) _) .mono (λx c o k g Q h=> ?_) (λc o k h=> ?_) (λc o k g=> ?_) ⟨i⟩ (⟨rfl,rfl,rfl,rfl⟩:SG st st))
 . cases g with|mk g=>exact abe W hl (k.kind.trans hk) g (h _ k)
 . cases h with|mk h=>exact bB (q _ _ k ⟨h⟩)
 cases g with|mk g=>
  refine bq (ux (si ⟨rfl,bq (zX (G:=l5 _ a b) (D:=Dn key a b) (dM _) .mono (λx c o k g Q h=> ?_) (λc o k h=> ?_) (λc o k g=> ?_) ⟨g⟩ k)⟩))
  . cases g with|mk g=>exact cg (λ_=>Lq W hl (k.kind.trans hk) g (h _ (k.nf _))) λ_=>Lq W hl (k.kind.trans hk) g (h _ (k.nf _))
  . cases h with|mk h=>exact bB (q _ _ k ⟨h⟩)
  cases g with|mk g=>exact bq (zT (bB (r _ _ (k.nf _) ⟨g⟩)))
theorem abg (hk:kindOf st=kd)(L:1<=a.size)(U:1<=b.size)(h0:Ks key b 0<=Ks key a 0)(h:∀out k,SG st k->Done key a b out->Q out k):wpS M A E s (zS a b) Q st:=by
 rw[abd _ _]
 refine ah (W.hb 0 U) λb0 q _=>ah (W.ha 0 L) λa0 Y _=> ?_
 have r:=(eA.mk (out:= #[]) (by simp) (by simp) (by simp) (by simp)).uD W.sa W.sb Y q (by unfold Ks at h0;rw[Y,q]at h0;exact h0)
 have u:SG st st:=⟨rfl,rfl,rfl,rfl⟩
 refine bq (ux (si ⟨rfl,bq (g7 q (cg (λe=>bB (h _ st u (r.done W.sa W.sb (.inr (w7 e))))) λe=>cg (λy=>bB (h _ st u (r.last W.sa W.sb (eq_of_beq y) hl))) λy=>bq (sY (bq (l4 (I:=λx c k=>SG st k/\l5 _ a b (x+1) c) (λx c k _ _ i=> ?_) (λc k i=> ?_) ⟨u,⟨⟨r,pF L y,pF U e,ba _⟩⟩⟩)))))⟩))
 . revert i;intro O;refine au O λo i=> ?_;clear O
   cases i with|mk i=>
   exact abf W hl (o.kind.trans hk) i (λfE c D H=>by cases H with|mk H=>exact bB (h _ _ (o.trans D) H)) λfE c D g=>⟨o.trans D,g⟩
 . revert i;intro O;refine au O λo i=> ?_;clear O
   cases i with|mk i=>
   have:=i.la;have:=i.lb;have:=i.m;exact Tw ‹_› ‹_› this
end
end
noncomputable def zY:Array Keyed->Array Keyed->StateT SortSt Sem (Array Keyed):=sortPriv%PySem.Builtin.mergeHi
section
variable {a b:Array Keyed}
structure JH (key:Keyed->Nat)(a b:Array Keyed)(out:Array Keyed)(na nb:Nat):Prop where
 perm:out.toList.reverse.Perm (a.toList.drop na++b.toList.drop nb)
 sorted:out.toList.reverse.Pairwise (Le key)
 la:∀x∈out.toList,∀y∈a.toList.take na,key y<=key x
 lb:∀x∈out.toList,∀y∈b.toList.take nb,key y<=key x
theorem aix (xs:Array Keyed)(i j):(xs.extract i j).toList=(xs.toList.drop i).take (j - i):=by simp
theorem aiy (xs:Array Keyed)(j):(xs.extract 0 j).toList=xs.toList.take j:=by simp
theorem Lu {xs out:Array Keyed}{i}{p}(h:xs[i]?=S p):out.push p=out++ (xs.extract i (i+1)).reverse:=by
 have:=DR (out:= #[]) h
 have e:=by simpa using this.symm
 rw[e];simp
theorem w8 {l:List Keyed}{m}{x}(h:x∈l.take m):∃i,i<m/\l[i]?=S x:=
 ao (uF h) λi e=>have e:=w9.symm.trans e;if q:i<m then⟨i,q,(if_pos q).symm.trans e⟩else aD ((if_neg q).symm.trans e)
theorem Lv {l:List Keyed}{i j}(h:i<=j):l.drop i=(l.drop i).take (j - i)++l.drop j:=by
 have e:=iZ (j - i) (l.drop i)
 rw[yqN,show i+ (j - i)=j by exact HL h]at e
 exact e.symm
theorem uG {l:List Keyed}{i j}(h:i<=j):l.take j=l.take i++ (l.drop i).take (j - i):=by
 have e:=Li (l:=l) (i:=i) (j:=j - i)
 rwa[show i+ (j - i)=j by exact HL h]at e
theorem JH.sV (sa:a.toList.Pairwise (Le key)){out}{c q at_}(o:at_<=c)(j:JH key a b out c q)(h:∀x∈ (a.toList.drop at_).take (c - at_),∀y∈b.toList.take q,key y<=key x):JH key a b (out++ (a.extract at_ c).reverse) at_ q:=by
 have e:(out++ (a.extract at_ c).reverse).toList=out.toList++ ((a.toList.drop at_).take (c - at_)).reverse:=by simp
 have st:(a.toList.take c).Pairwise _:=sa.sublist (uH _ _)
 rw[uG o,gc]at st
 refine⟨?_,?_,?_,?_⟩
 . rw[e,zZ,z0 _]
   conv=>rhs;rw[Lv (l:=a.toList) o]
   exact Zrr (bM _ _ _) (.append_left _ j.perm)
 . rw[e,zZ,z0 _];exact Zrr (propext gc) ⟨st.2.1,j.sorted,λx hx y k=>j.la y (oF.mp k) x (by rw[uG o];exact ij _ hx)⟩
 . exact Zrr e λx hx y k=>(b5.mp hx).elim (j.la x · y (by rw[uG o];exact fg _ k)) λhx=>st.2.2 y k x (oF.mp hx)
 exact Zrr e λx hx y k=>(b5.mp hx).elim (j.lb x · y k) λhx=>h x (oF.mp hx) y k
theorem JH.sW (sb:b.toList.Pairwise (Le key)){out}{q c at_}(o:at_<=c)(j:JH key a b out q c)(h:∀x∈ (b.toList.drop at_).take (c - at_),∀y∈a.toList.take q,key y<=key x):JH key a b (out++ (b.extract at_ c).reverse) q at_:=by
 have e:(out++ (b.extract at_ c).reverse).toList=out.toList++ ((b.toList.drop at_).take (c - at_)).reverse:=by simp
 have st:(b.toList.take c).Pairwise _:=sb.sublist (uH _ _)
 rw[uG o,gc]at st
 refine⟨?_,?_,?_,?_⟩
 . rw[e,zZ,z0 _]
   conv=>rhs;rw[Lv (l:=b.toList) o]
   refine(z5 _ j.perm).trans ?_
   rw[(bM _ _ _).symm];exact Zrr (bM _ _ _).symm (.append_right _ DT)
 . rw[e,zZ,z0 _];exact Zrr (propext gc) ⟨st.2.1,j.sorted,λx hx y k=>j.lb y (oF.mp k) x (by rw[uG o];exact ij _ hx)⟩
 . exact Zrr e λx hx y k=>(b5.mp hx).elim (j.la x · y k) λhx=>h x (oF.mp hx) y k
 exact Zrr e λx hx y k=>(b5.mp hx).elim (j.lb x · y (by rw[uG o];exact fg _ k)) λhx=>st.2.2 y k x (oF.mp hx)
theorem JH.uC (sa:a.toList.Pairwise (Le key))(sb:b.toList.Pairwise (Le key)){out}{k c}{p q}(j:JH key a b out (k+1) (c+1))(o:a[k]?=S p)(u:b[c]?=S q)(h:key q<=key p):JH key a b (out.push p) k (c+1):=by
 rw[Lu o]
 refine j.sV sa (by simp) λx hx y D=>ah (pD hx) λi H r=>ah (w8 D) λm hm I=> ?_
 have:i=0:=H3 H
 subst this
 rw[tO,eK,o]at r
 cases r
 have:=pE sb (j:=c) I (by rw[eK];exact u) (fU ‹_›)
 exact bp ‹_› ‹_›
theorem JH.uD (sa:a.toList.Pairwise (Le key))(sb:b.toList.Pairwise (Le key)){out}{c k}{p q}(j:JH key a b out (c+1) (k+1))(u:a[c]?=S p)(o:b[k]?=S q)(h:key p<=key q):JH key a b (out.push q) (c+1) k:=by
 rw[Lu o]
 refine j.sW sb (by simp) λx hx y D=>ah (pD hx) λi H r=>ah (w8 D) λm hm I=> ?_
 have:i=0:=H3 H
 subst this
 rw[tO,eK,o]at r
 cases r
 have:=pE sa (j:=c) I (by rw[eK];exact u) (fU ‹_›)
 exact bp ‹_› ‹_›
theorem JH.DU (sa:a.toList.Pairwise (Le key))(sb:b.toList.Pairwise (Le key)){out}{c k at_}{q}(j:JH key a b out c (k+1))(o:at_<=c)(r:b[k]?=S q)(h:∀i,at_<=i->i<c->gQ key ae q a 0 i=ae):JH key a b (out++ (a.extract at_ c).reverse) at_ (k+1):=by
 refine j.sV sa o λx hx y u=>ah (pD hx) λi D H=>ah (w8 u) λm hm I=> ?_
 have L:=DX (h (at_+i) (by simp) (HR D)) (by simpa using H)
 have:=pE sb I (Zrr eK r) (fU ‹_›)
 exact bp ‹_› ‹_›
theorem JH.DW (sa:a.toList.Pairwise (Le key))(sb:b.toList.Pairwise (Le key)){out}{k c at_}{p}(j:JH key a b out (k+1) c)(o:at_<=c)(q:a[k]?=S p)(h:∀i,at_<=i->i<c->gQ key ab p b 0 i=ae):JH key a b (out++ (b.extract at_ c).reverse) (k+1) at_:=by
 refine j.sW sb o λx hx y r=>ah (pD hx) λi u D=>ah (w8 r) λm hm H=> ?_
 have I:=DY (h (at_+i) (by simp) (HR u)) (by simpa using D)
 have:=pE sa H (Zrr eK q) (fU ‹_›)
 exact bp ‹_› ‹_›
theorem JH.done (sa:a.toList.Pairwise (Le key))(sb:b.toList.Pairwise (Le key)){out}{c k}(j:JH key a b out c k)(h:c=0\/k=0):Done key a b (a.extract 0 c++b.extract 0 k++out.reverse):=by
 have e:(a.extract 0 c++b.extract 0 k++out.reverse).toList=a.toList.take c++ (b.toList.take k++out.toList.reverse):=by simp
 refine⟨?_,?_⟩
 . refine Zrr e ((z5 _ (.append_left _ j.perm)).trans ?_)
   conv=>rhs;rw[((iZ _ _).symm:a.toList=a.toList.take c++a.toList.drop c),((iZ _ _).symm:b.toList=b.toList.take k++b.toList.drop k)]
   refine Zrr (bM _ _ _) (.append_left _ ?_)
   rw[(bM _ _ _).symm];exact Zrr (bM _ _ _).symm (.append_right _ DT)
 . rw[e,propext gc];refine Zrr (propext gc) ⟨sa.sublist (uH _ _),⟨sb.sublist (uH _ _),j.sorted,λx hx y o=>j.lb y (oF.mp o) x hx⟩,λx hx y o=> ?_⟩
   rcases b5.mp o with o|o
   . rcases h with rfl|rfl
     . cases hx
     cases o
   exact j.la y (oF.mp o) x hx
theorem JH.first (sa:a.toList.Pairwise (Le key))(sb:b.toList.Pairwise (Le key)){out}{k}(j:JH key a b out k 1)(h0:∀x∈a.toList,Ks key b 0<=key x):Done key a b (b.extract 0 1++a.extract 0 k++out.reverse):=by
 have e:(b.extract 0 1++a.extract 0 k++out.reverse).toList=b.toList.take 1++ (a.toList.take k++out.toList.reverse):=by simp
 refine⟨?_,?_⟩
 . refine Zrr e ((z5 _ (.append_left _ j.perm)).trans ?_)
   rw[((a.toList.take k).append_assoc _ _).symm,(iZ _ _).symm.symm]
   conv=>rhs;rw[((iZ _ _).symm:b.toList=b.toList.take 1++b.toList.drop 1)]
   rw[(bM _ _ _).symm];exact Zrr (bM _ _ _).symm (.append_right _ DT)
 . rw[e,propext gc];refine Zrr (propext gc) ⟨sb.sublist (uH _ _),⟨sa.sublist (uH _ _),j.sorted,λx hx y c=>j.la y (oF.mp c) x hx⟩,λx hx y c=> ?_⟩
   rcases b5.mp c with c|c
   . refine ah (w8 hx) λi q o=> ?_
     have:i=0:=q4 q
     subst this
     have:=h0 y (oC c)
     unfold Ks at this
     rw[eK]at o
     rw[o]at this
     exact this
   exact j.lb y (oF.mp c) x hx
end
section
variable {a b:Array Keyed}
theorem Lw {q p}{base i}(h:gQ key ae q arr base i=ab)(c:arr[base+i]?=S p):key p<=key q:=by
 unfold gQ Ks at h
 rw[c]at h
 simpa using h
theorem Lx {q p}{base i}(h:gQ key ab q arr base i=ab)(c:arr[base+i]?=S p):key p<=key q:=by
 unfold gQ Ks at h
 rw[c]at h
 simp at h
 exact b_ ‹_›
abbrev HT:=RA×Nat×Nat×Array Keyed×Nat×Nat×Nat
noncomputable def hn (a b out:Array Keyed)(c k:Nat):Array Keyed:=a.extract 0 c++b.extract 0 k++out.reverse
noncomputable def hf (a b out:Array Keyed)(c k:Nat):Array Keyed:=b.extract 0 k++a.extract 0 c++out.reverse
def D3 (a b:Array Keyed)(mg ac k c o:Nat)(out:Array Keyed):SS (ForInStep HT):=elem' a (c - 1) >>=λp=>
 if(c - 1==0)=ab then pure (.done (S (hn a b (out.push p) (c - 1) o),c - 1,o,out.push p,mg,ac,k))
 else if(decide (ac<7) &&decide (k<7))=ab then pure (.done (J,c - 1,o,out.push p,mg,ac,k))else pure (.yield (J,c - 1,o,out.push p,mg,ac,k))
def qY (a b:Array Keyed)(mg ac o c k:Nat)(out:Array Keyed):SS (ForInStep HT):=elem' b (c - 1) >>=λq=>
 if(c - 1==1)=ab then pure (.done (S (hf a b (out.push q) k (c - 1)),k,c - 1,out.push q,mg,ac,o))
 else elem' a (k - 1) >>=λp=>pC ab p b 0 (c - 1) (c - 1 - 1) >>=λx=>match x with
  |some t=>if c - 1 - t>0 then
   if(t==1)=ab then pure (.done (S (hf a b (out.push q++ (b.extract t (c - 1)).reverse) k t),k,t,out.push q++ (b.extract t (c - 1)).reverse,mg,ac,c - 1 - t))
   else if(t==0)=ab then pure (.done (S (hn a b (out.push q++ (b.extract t (c - 1)).reverse) k t),k,t,out.push q++ (b.extract t (c - 1)).reverse,mg,ac,c - 1 - t))
   else D3 a b mg ac (c - 1 - t) k t (out.push q++ (b.extract t (c - 1)).reverse)
   else D3 a b mg ac (c - 1 - t) k (c - 1) (out.push q)
  |_=>pure (.done (S (hn a b (out.push q) k (c - 1)),k,c - 1,out.push q,mg,ac,o))
def oG (a b:Array Keyed)(c k:Nat)(out:Array Keyed)(r o mg:Nat):SS (ForInStep HT):=uB mg>>=λ_=>elem' b (k - 1) >>=λq=>pC ae q a 0 c (c - 1) >>=λx=>match x with
 |some t=>if c - t>0 then
  if(t==0)=ab then pure (.done (S (hn a b (out++ (a.extract t c).reverse) t k),t,k,out++ (a.extract t c).reverse,mg,c - t,o))
  else qY a b mg (c - t) o k t (out++ (a.extract t c).reverse)
  else qY a b mg (c - t) o k c out
 |_=>pure (.done (S (hn a b out c k),c,k,out,mg,r,o))
def hiG (a b:Array Keyed):Nat->HT->SS (ForInStep HT):=λ_ c=>
 if c.2.2.2.2.1>1 then oG a b c.2.1 c.2.2.1 c.2.2.2.1 c.2.2.2.2.2.1 c.2.2.2.2.2.2 (c.2.2.2.2.1 - 1)else oG a b c.2.1 c.2.2.1 c.2.2.2.1 c.2.2.2.2.2.1 c.2.2.2.2.2.2 c.2.2.2.2.1
def Ly (a b:Array Keyed)(mg:Nat):Nat->RA×Nat×Nat×Array Keyed×Nat×Nat->SS (ForInStep (RA×Nat×Nat×Array Keyed×Nat×Nat)):=λ_ c=>
 elem' b (c.2.2.1 - 1) >>=λy=>elem' a (c.2.1 - 1) >>=λx=>lt' y x>>=λw=>match w with
 |some w=>if w=ab then elem' a (c.2.1 - 1) >>=λp=>
  if(c.2.1 - 1==0)=ab then pure (.done (S (hn a b (c.2.2.2.1.push p) (c.2.1 - 1) c.2.2.1),c.2.1 - 1,c.2.2.1,c.2.2.2.1.push p,c.2.2.2.2.1+1,0))
  else if c.2.2.2.2.1+1 >= mg then pure (.done (J,c.2.1 - 1,c.2.2.1,c.2.2.2.1.push p,c.2.2.2.2.1+1,0))else pure (.yield (J,c.2.1 - 1,c.2.2.1,c.2.2.2.1.push p,c.2.2.2.2.1+1,0))
  else elem' b (c.2.2.1 - 1) >>=λq=>
   if(c.2.2.1 - 1==1)=ab then pure (.done (S (hf a b (c.2.2.2.1.push q) c.2.1 (c.2.2.1 - 1)),c.2.1,c.2.2.1 - 1,c.2.2.2.1.push q,0,c.2.2.2.2.2+1))
   else if c.2.2.2.2.2+1 >= mg then pure (.done (J,c.2.1,c.2.2.1 - 1,c.2.2.2.1.push q,0,c.2.2.2.2.2+1))else pure (.yield (J,c.2.1,c.2.2.1 - 1,c.2.2.2.1.push q,0,c.2.2.2.2.2+1))
 |_=>pure (.done (S (hn a b c.2.2.2.1 c.2.1 c.2.2.1),c.2.1,c.2.2.1,c.2.2.2.1,c.2.2.2.2.1,c.2.2.2.2.2))
def Lz (a b:Array Keyed):Nat->RA×Nat×Nat×Array Keyed×Nat->SS (ForInStep (RA×Nat×Nat×Array Keyed×Nat)):=λ_ c=>
 forIn [:a.size+b.size] (J,c.2.1,c.2.2.1,c.2.2.2.1,0,0) (Ly a b c.2.2.2.2) >>=λd=>match d.1 with
 |some r=>pure (.done (S r,d.2.1,d.2.2.1,d.2.2.2.1,c.2.2.2.2))
 |none=>(liftM (rule "list.sort.gallop"):SS Unit) >>=λ_=>
  forIn [:a.size+b.size] (J,d.2.1,d.2.2.1,d.2.2.2.1,c.2.2.2.2+1,d.2.2.2.2.1,d.2.2.2.2.2) (hiG a b) >>=λd=>match d.1 with
  |some r=>pure (.done (S r,d.2.1,d.2.2.1,d.2.2.2.1,d.2.2.2.2.1))
  |none=>uB (d.2.2.2.2.1+1) >>=λ_=>pure (.yield (J,d.2.1,d.2.2.1,d.2.2.2.1,d.2.2.2.2.1+1))
theorem abh (a b):zY a b=(liftM (rule "list.sort.merge-hi"):SS _) >>=λ_=>elem' a (a.size - 1) >>=λq=>
 if(a.size - 1==0)=ab then pure (hn a b #[q] (a.size - 1) b.size)
 else if(b.size==1)=ab then pure (hf a b #[q] (a.size - 1) b.size)
 else get>>=λst=>forIn [:a.size+b.size] (J,a.size - 1,b.size,#[q],gallopOf st) (Lz a b) >>=λd=>match d.1 with
  |some r=>pure r
  |none=>liftM (unsupported "internal:list.sort.merge-bound"):=by kernel_rfl
structure uI (key:Keyed->Nat)(a b:Array Keyed)(n:Nat)(out:Array Keyed)(na nb:Nat):Prop where
 j:JH key a b out (na+1) (nb+2)
 la:na<a.size
 lb:nb+1<b.size
 m:na+nb+n+3<=a.size+b.size
inductive l6 {δ:Type}(key:Keyed->Nat)(a b:Array Keyed)(n:Nat):RA×Nat×Nat×Array Keyed×δ->Prop
 |mk {o i j d}:uI key a b n o i j->l6 key a b n (none,i+1,j+2,o,d)
theorem l6.mono {c:RA×Nat×Nat×Array _×k}(l:m<=n)(h:l6 key a b n c):l6 key a b m c:=by
 cases h with|mk h=>exact⟨h.j,h.la,h.lb,bp (D2 (iD l _) 3) h.m⟩
section
variable {st:SortSt} {n mg ac bc na nb:Nat} {out:Array Keyed}
variable (W:MA M A s aS kd key a b) (h0:∀x∈a.toList,Ks key b 0<=key x)
include W
theorem LA (i:uI key a b n out na nb)(le:∀p q,a[na]?=S p->b[nb+1]?=S q->key q<=key p)(q:TQ (l6 key a b n) (Dn key a b) (Q · st)):wpS M A E s (D3 a b mg ac bc (na+1) (nb+2) out) Q st:=by
 refine ah (W.hb _ i.lb) λq0 eq _=>ah (W.ha na i.la) λp k _=> ?_
 have o:=i.j.uC W.sa W.sb k eq (le p q0 k eq)
 refine bq (g7 k (cg (λe=>bB (q.d ⟨o.done W.sa W.sb (.inl (eq_of_beq e))⟩)) λe=>ao (lh (oE e)) λc O=> ?_));subst O
 exact have g:=q.g (c:=(J,_,_,_,mg,ac,bc)) ⟨o,gr i.la,i.lb,by have:=i.m;exact SW this⟩;cg (λ_=>bB g.1) λ_=>bB g.2
include h0
theorem LB (hk:kindOf st=kd){Q}(i:uI key a b n out na nb)(le:∀p q,a[na]?=S p->b[nb+1]?=S q->key p<=key q)(q:TQ (l6 key a b n) (Dn key a b) (Q · st)):wpS M A E s (qY a b mg ac bc (nb+2) (na+1) out) Q st:=by
 refine ah (W.hb _ i.lb) λq0 eq _=>ah (W.ha na i.la) λp k mp=> ?_
 have o:=i.j.uD W.sa W.sb k eq (le p q0 k eq)
 refine bq (g7 eq (cg (λe=>bB (q.d ⟨by rw[qR (eq_of_beq e)]at o ⊢;exact o.first W.sa W.sb h0⟩)) λe=>ao (lh λz=>oE e (congrArg Nat.succ z)) λc O=> ?_));subst O
 have lb:=Nat.le_of_succ_le i.lb
 refine bq (g7 k (bq (W.nf hk mp W.hb W.sb (by rw[fb _];exact lb) (jc _) λt r H I=> ?_)))
 have nx:∀u,u+1<t->∀x y,a[na]?=S x->b[u+1]?=S y->key y<=key x:=λu h x y ex L=>by
  rw[k]at ex;cases ex
  exact Lx (H (u+1) h) (by rw[fb _];exact L)
 have m:=i.m
 refine cg (λ_=> ?_) λU=> ?_
 . have D:=o.DW W.sa W.sb r k I
   refine cg (λe=>bB (q.d ⟨by obtain rfl:=eq_of_beq e;exact D.first W.sa W.sb h0⟩)) λe=>cg (λe=>bB (q.d ⟨D.done W.sa W.sb (.inr (eq_of_beq e))⟩)) λY=>ao (lh (oE Y)) λu O=> ?_;subst O
   refine ao (lh λz=>oE e (congrArg Nat.succ z)) λu O=> ?_;subst O
   exact LA W ⟨D,i.la,d_ r lb,(Up m r)⟩ (nx u (jc _)) q
 . obtain rfl:t=c+1+1:=cj r (LC (uz U))
   exact LA W ⟨o,i.la,lb,(Uq m)⟩ (nx c (jc _)) q
theorem LD (hk:kindOf st=kd){Q}(i:uI key a b n out na nb)(q:TQ (l6 key a b n) (Dn key a b) (Q · (m_ st mg))):wpS M A E s (oG a b (na+1) (nb+2) out ac bc mg) Q st:=by
 refine ah (W.hb _ i.lb) λq0 eq r=>bq (zT (bq (g7 eq (bq (W.nf (st:=m_ st mg) hk r W.ha W.sa (by rw[fb _];exact i.la) (jc _) λt c D H=> ?_)))))
 have nx:∀u,u<t->∀x y,a[u]?=S x->b[nb+1]?=S y->key x<=key y:=λu h x y ex k=>by
  rw[eq]at k;cases k
  exact Lw (D u h) (by rw[fb _];exact ex)
 have m:=i.m
 refine cg (λ_=> ?_) λI=> ?_
 . have o:=i.j.DU W.sa W.sb c eq H
   refine cg (λe=>bB (q.d ⟨o.done W.sa W.sb (.inl (eq_of_beq e))⟩)) λe=>ao (lh (oE e)) λu O=> ?_;subst O
   exact LB W h0 (st:=m_ st mg) hk ⟨o,d_ c i.la,i.lb,(T8 m c)⟩ (nx u (jc _)) q
 . obtain rfl:t=na+1:=cj c (LC (uz I))
   exact LB W h0 (st:=m_ st mg) hk i (nx na (jc _)) q
theorem abi (hk:kindOf st=kd){Q}{x}(i:uI key a b n out na nb)(q:TQ (l6 key a b (n+1)) (Dn key a b) (Q · st)):wpS M A E s (Ly a b mg x (J,na+1,nb+2,out,ac,bc)) Q st:=by
 refine ah (W.hb _ i.lb) λq0 eq r=>ah (W.ha na i.la) λp o mp=> ?_
 have m:=i.m
 refine bq (g7 eq (bq (g7 o (bq (W.lt E q0 p st _ r mp hk (cg (λh=>bq (g7 o ?_)) λh=>bq (g7 eq ?_)))))))
 . have k:=i.j.uC W.sa W.sb o eq (b_ (of_decide_eq_true h))
   refine cg (λe=>bB (q.d ⟨k.done W.sa W.sb (.inl (eq_of_beq e))⟩)) λe=>ao (lh (oE e)) λc O=> ?_;subst O
   exact have g:=q.g (c:=(J,_,_,_,ac+1,0)) ⟨k,gr i.la,i.lb,(Rl m)⟩;cg (λ_=>bB g.1) λ_=>bB g.2
 . have k:=i.j.uD W.sa W.sb o eq (gg (of_decide_eq_false (eq_false_of_ne_true h)))
   refine cg (λe=>bB (q.d ⟨by rw[qR (eq_of_beq e)]at k ⊢;exact k.first W.sa W.sb h0⟩)) λe=>ao (lh λz=>oE e (congrArg Nat.succ z)) λc O=> ?_;subst O
   exact have g:=q.g (c:=(J,_,_,_,0,bc+1)) ⟨k,i.la,gr i.lb,(Ro m)⟩;cg (λ_=>bB g.1) λ_=>bB g.2
theorem abj (hk:kindOf st=kd){Q}{x}(i:uI key a b n out na nb)(q:∀o c,SG st o->Dn key a b c->Q (.done c) o)(r:∀o c,SG st o->l6 key a b (n+1) c->Q (.yield c) o):wpS M A E s (Lz a b x (J,na+1,nb+2,out,mg)) Q st:=by
 refine bq (zX (G:=l6 _ a b) (D:=Dn key a b) (yqD (DN i.la) _) .mono (λx c o k g Q h=> ?_) (λc o k h=> ?_) (λc o k g=> ?_) ⟨i⟩ (⟨rfl,rfl,rfl,rfl⟩:SG st st))
 . cases g with|mk g=>exact abi W h0 (k.kind.trans hk) g (h _ k)
 . cases h with|mk h=>exact bB (q _ _ k ⟨h⟩)
 cases g with|mk g=>
  refine bq (ux (si ⟨rfl,bq (zX (G:=l6 _ a b) (D:=Dn key a b) (dM _) .mono (λx c o k g Q h=> ?_) (λc o k h=> ?_) (λc o k g=> ?_) ⟨g⟩ k)⟩))
  . cases g with|mk g=>exact cg (λ_=>LD W h0 (k.kind.trans hk) g (h _ (k.nf _))) λ_=>LD W h0 (k.kind.trans hk) g (h _ (k.nf _))
  . cases h with|mk h=>exact bB (q _ _ k ⟨h⟩)
  cases g with|mk g=>exact bq (zT (bB (r _ _ (k.nf _) ⟨g⟩)))
theorem abk {Q}(hk:kindOf st=kd)(h1:1<=a.size)(h2:1<=b.size)(hl:∀x∈b.toList,key x<=Ks key a (a.size - 1))(h:∀out k,SG st k->Done key a b out->Q out k):wpS M A E s (zY a b) Q st:=by
 rw[abh _ _]
 refine ao (lh (fM h1)) λm o=>ao (lh (fM h2)) λn q=>ah (W.ha m (aN o.symm)) λa0 u _=>ah (W.hb n (aN q.symm)) λb0 Y _=> ?_
 rw[o]at hl ⊢
 have y:=(JH.mk (out:= #[]) (by rw[(sD (by simp;exact HS o)),(sD (by simp;exact HS q))];simp) (by simp) (by simp) (by simp)).uC W.sa W.sb u Y (by
  have:=hl b0 (by simpa using ynN Y)
  unfold Ks at this
  rwa[show m.succ - 1=m from rfl,u]at this)
 have D:SG st st:=⟨rfl,rfl,rfl,rfl⟩
 refine Zrr q (bq (ux (si ⟨rfl,bq (g7 u (cg (λe=>bB (h _ st D (y.done W.sa W.sb (.inl (eq_of_beq e))))) λe=>cg (λH=>bB (h _ st D ?_)) λH=>bq (sY ?_)))⟩)))
 . obtain rfl:n=0:=qR (eq_of_beq H)
   exact y.first W.sa W.sb h0
 refine ao (lh (oE e)) λc O=> ?_;subst O
 refine ao (lh λz=>oE H (congrArg Nat.succ z)) λd O=> ?_;subst O
 refine bq (l4 (I:=λx c k=>SG st k/\l6 key a b x c) (λx c k _ _ i=> ?_) (λc k i=> ?_) ⟨D,⟨⟨y,by exact SH o,by exact SI q,(SJ o q)⟩⟩⟩)
 . revert i;intro O;refine au O λr i=> ?_;clear O
   cases i with|mk i=>
   exact abj W h0 (r.kind.trans hk) i (λfE c L U=>by cases U with|mk U=>exact bB (h _ fE (r.trans L) U)) λfE c L g=>⟨r.trans L,g⟩
 . revert i;intro O;refine au O λr i=> ?_;clear O
   cases i with|mk i=>
   have:=i.m;exact SF o q this
end
end
theorem abl (i):mergeAt' i=(do
 let s<-get
 let(S (sa,b,o),S (sb,c,_)):=((pendingOf s)[i]?,(pendingOf s)[i+1]?)|liftM (unsupported "internal:list.sort.pending")
 set (setPending s (((pendingOf s).setIfInBounds i (sa,b+c,o)).eraseIdxIfInBounds (i+1)))
 let S k<-pC ae (<-elem' (arrOf s) sb) (arrOf s) sa b 0|return ae
 let(sa,b):=(sa+k,b - k)
 if b==0 then return ab
 let S c<-pC ab (<-elem' (arrOf s) (sa+b - 1)) (arrOf s) sb c (c - 1)|return ae
 if c==0 then return ab
 let x:=(arrOf s).extract sa sb
 let y:=(arrOf s).extract sb (sb+c)
 let merged<-if b<=c then zS x y else zY x y
 modify λs=>setArr s (merged.toList.zipIdx.foldl (λa (p,j)=>a.setIfInBounds (sa+j) p) (arrOf s))
 return (failedOf (<-get)).isNone):=rfl
theorem abn {E}{s}{σ}{x}{Q}{st}(h:Q ⟨⟩ x):wpS M A E s (set x:StateT σ _ _) Q st:=bA ⟨rfl,h⟩
theorem at_of {xs:Array Keyed}{P L}(e:xs.toList=P++L)(i):xs[P.length+i]?=L[i]?:=by
 rw[eK.symm,e,iE (dO ..),l7 _ _];rfl
theorem LF {xs:Array Keyed}{P L N}(e:xs.toList=P++ (L++N)):xs.extract P.length (P.length+L.length)=L.toArray:=by
 apply qW.mp
 rw[qU _ _ _,e,yqM,yqK];rfl
theorem abo (sa):∀(l M:List _) (k:Nat) (xs:Array _) (P N:List Keyed),xs.toList=P++ (M++N)->P.length=sa+k->M.length=l.length->
 ((l.zipIdx k).foldl (λa (p,j)=>a.setIfInBounds (sa+j) p) xs).toList=P++ (l++N):=by
 intro c
 induction c with
 |nil=>
  intro M _ _ _ _ e _ h
  rw[qA h]at e;exact e
 |cons p l o=>
  refine λM k xs P N e b hl=>e9 (LG hl) λm M O=> ?_;subst O
  refine Zrr kW ((o M _ _ (P++ [p]) N ?_ (by rw[aY,b];rfl) (qR hl)).trans (bM ..))
  rw[Kn,e,b.symm,w_ _ _ (ba _),kE _,bM _ _ _];rfl
theorem abp {l:List Keyed}{p m n}(h:p+m+n<=l.length):∃P U V R,l=P++ (U++ (V++R))/\P.length=p/\U.length=m/\V.length=n:=
 ⟨_,_,_,((l.drop p).drop m).drop n,by rw[iZ _ _,iZ _ _,iZ _ _];rfl,
  by rw[ie];exact SO h,by rw[ie,qX];exact SP h,by rw[ie,qX,qX];exact SQ h⟩
theorem D4 (h:xs[i]?=S x):Ks key xs i=key x:=by unfold Ks;rw[h];rfl
theorem z6 {P Y R}(e:xs.toList=P++ (Y++R)):dZ key xs P.length (P.length+Y.length)↔Y.Pairwise (Le key):=by
 have at_:∀ {i} (h:i<Y.length),Ks key xs (P.length+i)=key Y[i]:=λ{i} h=>D4 (by rw[at_of e _,eQ h];exact dr h)
 rw[Lh]
 constructor
 . intro k i j b a o
   have:=k.le (dO _ i) (iD (b_ o) _) (iY a _)
   rwa[at_ b,at_ a]at this
 . refine λq i b a=>ao (sS b) λu O=> ?_;subst O
   have c:u+1<Y.length:=DH a
   rw[at_ (gr c)];exact Zrr (at_ c) (q u (u+1) _ c (u.lt_succ_self))
theorem abq {V}(h:(q::V).Pairwise (Le key)):∀x∈q::V,key q<=key x:=λx hx=>by
 rcases cy.mp hx with rfl|hx
 . exact ba _
 exact(sZ.mp h).1 x hx
theorem abr {U}(h:(U++ [z]).Pairwise (Le key)):∀x∈U++ [z],key x<=key z:=λx hx=>by
 rcases b5.mp hx with hx|hx
 . exact(gc.mp h).2.2 x hx z (ynH z)
 . cases dm.mp hx;exact ba _
theorem LI:∀ {U:List Keyed},0<U.length->∃a z,U=a++ [z]
 |x::r,_=>⟨_,_,(List.dropLast_concat_getLast (ypT x r)).symm⟩
theorem abt {U:List Keyed}{k}(h:k<=U.length):∃X Y,U=X++Y/\X.length=k:=⟨_,U.drop k,(iZ ..).symm,by rw[ie];exact jI h⟩
theorem LJ {f}{q}{xs}{P U R}(e:xs.toList=P++ (U++R)){k}(hk:k<=U.length)(o:∀i,i<k->gQ key f q xs P.length i=ab)(r:∀i,k<=i->i<U.length->gQ key f q xs P.length i=ae):
 ∃X Y,U=X++Y/\X.length=k/\(∀x∈X,key x<=key q)/\∀y∈Y,key q<=key y:=by
 refine dh (abt hk) λX Y O u=> ?_;subst O;obtain rfl:=u
 refine⟨X,Y,rfl,rfl,λx hx=> ?_,λy D=> ?_⟩
 . ((refine ao (w5 hx) λi b=> ?_;refine ao b λa O=> ?_;clear b);obtain rfl:=O)
   have c:xs[P.length+i]?=S X[i]:=by rw[at_of e _,bM _ _ _,eQ a];exact dr a
   cases f
   . exact Lw (o i a) c
   . exact Lx (o i a) c
 . ((refine ao (w5 D) λi b=> ?_;refine ao b λa O=> ?_;clear b);obtain rfl:=O)
   have c:xs[P.length+ (X.length+i)]?=S Y[i]:=by rw[at_of e _,bM _ _ _,iE (dO ..),l7 _ _,eQ a];exact dr a
   have h:=r (X.length+i) (dO ..) (by rw[aY];exact iY a _)
   cases f
   . exact DX h c
   . exact DY h c
theorem abu {xs a:Array Keyed}{P Y Z R}(ex:xs.toList=P++ (Y++R))(b:a.toList=P++ (Z++R))(l:Z.length=Y.length){i}(h:i<P.length\/P.length+Y.length<=i):a[i]?=xs[i]?:=by
 rw[eK.symm,eK.symm,ex,b]
 rcases h with h|h
 . rw[eQ h,eQ h];rfl
 . refine ao (sS h) λu O=> ?_;subst O
   rw[(bM _ _ _).symm,(bM _ _ _).symm];refine Zrr (iE (by rw[aY];exact Zrr l h)) (Zrr (iE (by simp)) ?_);rw[aY,aY,l];rfl
structure abv (key:Keyed->Nat)(aS:Array Keyed)(kd:SortKind)(st:SortSt)(pend:Array (Nat×Nat×Nat))(sa n:Nat)(ay:SortSt):Prop where
 sb:SB aS kd ay
 pend:pendingOf ay=pend
 z7:dZ key (arrOf ay) sa (sa+n)
 rest:∀i,i<sa\/sa+n<=i->Ks key (arrOf ay) i=Ks key (arrOf st) i
theorem MA.of {U V:List _}(L:iB M A s aS kd key)(b:∀p∈U,p∈aS.toList)(c:∀p∈V,p∈aS.toList)(k:U.Pairwise (Le key))(o:V.Pairwise (Le key)):MA M A s aS kd key U.toArray V.toArray:=
 ⟨L,λi a=>⟨U[i],by simp,b _ (wO a)⟩,λi a=>⟨V[i],by simp,c _ (wO a)⟩,k,o⟩
theorem abw (L:iB M A s aS kd key){st}{Q}(hk:kindOf st=kd)(hf:failedOf st=J){P X Y Z T R}{q z}(k:(arrOf st).toList=P++ ((X++ (Y++ [z]))++ (((q::Z)++T)++R)))(hm:∀p∈ (arrOf st).toList,p∈aS.toList)
 (I:(Y++ [z]).Pairwise (Le key))(O:(q::Z).Pairwise (Le key))(u:∀x∈Y++ [z],key q<=key x)(y:∀x∈q::Z,key x<=key z)
 (h:∀b out,kindOf b=kd->failedOf b=J->pendingOf b=pendingOf st->(arrOf b).toList=P++ (X++ (out++ (T++R)))->out.Perm ((Y++ [z])++ (q::Z))->out.Pairwise (Le key)->Q ab b):
 wpS M A E s (do
  let m<-if(Y++ [z]).length<=(q::Z).length then zS (Y++ [z]).toArray (q::Z).toArray else zY (Y++ [z]).toArray (q::Z).toArray
  modify λs=>setArr s (m.toList.zipIdx.foldl (λa (p,j)=>a.setIfInBounds (P.length+X.length+j) p) (arrOf s))
  return (failedOf (<-get)).isNone) Q st:=by
 have W:=MA.of L (λp o=>hm p (by rw[k];exact ij _ (fg _ (ij _ o)))) (λp o=>hm p (by rw[k];exact ij _ (ij _ (fg _ (fg _ o))))) I O
 have D:Ks _ _ ((Y++ [z]).toArray.size - 1)=key z:=D4 (by rw[List.getElem?_toArray,vZ,aY];exact ymB)
 have U:Ks _ (q::Z).toArray 0=key q:=rfl
 have fin:∀(m:Array _) b,SG st _->Done _ _ _ m->wpS M A E s (do
  modify λs=>setArr s (m.toList.zipIdx.foldl (λa (p,j)=>a.setIfInBounds (P.length+X.length+j) p) (arrOf s))
  return (failedOf (<-get)).isNone) Q _:=λm b c d=>by
  show wpS M A E s (pure (failedOf b).isNone) Q _
  refine Zrr (c.fail.trans hf) (bB (h _ _ (c.kind.trans hk) (c.fail.trans hf) c.pend ?_ d.1 d.2))
  show(m.toList.zipIdx.foldl _ (arrOf b)).toList=_
  rw[c.arr];refine Zrr (abo _ m.toList ((Y++ [z])++ (q::Z)) 0 (arrOf st) (P++X) (T++R) (by rw[k];simp only[bM]) (by simp) d.1.length_eq.symm) ?_;rw[bM _ _ _];rfl
 have r:1<=(Y++ [z]).toArray.size:=by simp
 exact cg (λ_=>bq (abg W (λx hx=>by rw[D];exact y x hx) hk r (zQ ..) (Zrr U (ah (W.ha 0 r) λp H _=>Zrr (D4 H) (u p (by simpa using ynN H)))) λout b c d=>fin out b c d)) λ_=>bq (abk W (λx hx=>(u x hx)) hk r (zQ ..) (λx hx=>by rw[D];exact y x hx) λout b c d=>fin out b c d)
theorem abx (L:iB M A s aS kd key){st:SortSt}{Q:Bool->SortSt->Prop}(b:SB aS kd st){i sa r D pw pv:Nat}(hp:(pendingOf st)[i]?=S (sa,r,pw))(hq:(pendingOf st)[i+1]?=S (sa+r,D,pv))
 (h1:1<=r)(h2:1<=D)(hn:sa+r+D<=aS.size)(ra:dZ key (arrOf st) sa (sa+r))(rb:dZ key (arrOf st) (sa+r) (sa+r+D))
 (h:∀c,abv key aS kd st (((pendingOf st).setIfInBounds i (sa,r+D,pw)).eraseIdxIfInBounds (i+1)) sa (r+D) c->Q ab c):wpS M A E s (mergeAt' i) Q st:=by
 (refine tN (abp (by(rw[gO,b.size]);exact hn)) λP U V R o O ax cu=> ?_;obtain rfl:=O;obtain rfl:=ax;obtain rfl:=cu)
 have z8:(arrOf st).toList=(P++U)++ (V++R):=by rw[o,bM _ _ _];rfl
 have z9:(arrOf st).toList=P++ ((U++V)++R):=by rw[o,bM _ _ _];rfl
 have l2:(P++U).length=P.length+U.length:=aY
 have su:=(z6 o).mp ra
 have sv:=(z6 z8).mp (by rw[l2];exact rb)
 have hm:∀p∈ (arrOf st).toList,p∈aS.toList:=λp hp=>(DB.mp b.perm).mem_iff.mp hp
 have fin:∀c Y,kindOf c=kd->failedOf c=J->pendingOf c=((pendingOf st).setIfInBounds i (P.length,U.length+V.length,pw)).eraseIdxIfInBounds (i+1)->(arrOf c).toList=P++ (Y++R)->Y.Perm (U++V)->Y.Pairwise (Le key)->Q ab c:=
  λc Y k f p e u s=>by
   have ly:Y.length=U.length+V.length:=by rw[u.length_eq,aY];rfl
   exact h c ⟨⟨(DB.mpr (by(rw[e,z9]);exact z5 _ (u.append_right R))).trans b.perm,k,f⟩,p,ly▸(z6 e).mpr s,λi hi=>uw (abu z9 e u.length_eq (by rw[aY];exact hi))⟩
 generalize hpd:((pendingOf st).setIfInBounds i (P.length,U.length+V.length,pw)).eraseIdxIfInBounds (i+1)=pd at fin
 rw[abl _]
 refine bq (sY ?_)
 rw[hp,hq]
 dsimp only
 rw[hpd]
 refine e9 (LI h1) λU' z H=> ?_
 obtain ⟨q,I,rfl⟩:∃q I,V=q::I:=List.exists_cons_of_length_pos h2
 have zU:=abr (H▸su)
 rw[<-H]at zU
 have qV:=abq sv
 have eq:(arrOf st)[P.length+U.length]?=S q:=by rw[l2.symm];exact at_of z8 0
 have mq:=hm q (by rw[z8];exact ij _ (fg _ (cT ..)))
 have zl:z∈U:=by rw[H];exact ij _ (ynH z)
 have mz:=hm z (by rw[o];exact ij _ (fg _ zl))
 have gt:∀ {j},j<aS.size->∃p,(arrOf st)[j]?=S p/\p∈aS.toList:=λhj=>have⟨p,e,m,_⟩:=b.get (key:=key) hj;⟨p,e,m⟩
 refine bq (abn (bq (g7 eq (bq (DQ L b.kind mq (λj hj=>gt (d_ (iY hj _) (bp (dO ..) hn))) ra h1 λk hk hk1 hk2=> ?_)))))
 (refine o5 (LJ o hk hk1 hk2) λX Y O ax xq qy=> ?_;obtain rfl:=O;obtain rfl:=ax)
 have sx:=gc.mp su
 have D6:=λx hx y a=>bp (xq x hx) (qV y a)
 refine cg (λe=>bB (fin (setPending st pd) (X++Y++q::I) b.kind b.failed rfl z9 (.refl _) (gc.mpr ⟨su,sv,?_⟩))) λe0=> ?_
 . have:Y= []:=qA (by have:=eq_of_beq e;rw[aY]at this;lia)
   subst this
   rw[dg _];exact D6
 have ly:=zR hk
 have ez:(arrOf st)[P.length+X.length+ ((X++Y).length - X.length) - 1]?=S z:=by
  rw[w3 _ _ _,ly,Nat.add_sub_assoc h1 _,at_of o _,H,aY,bM _ _ _]
  exact iE (ba _)|>.trans (by rw[kE _];rfl)
 refine bq (g7 ez (bq (DQ L b.kind mz (λj hj=>gt (d_ (iY hj _) hn)) rb (Nat.sub_lt h2 (jc 0)) λt ht LK LL=> ?_)))
 rw[<-l2]at LK LL
 (refine o5 (LJ z8 ht LK LL) λZ T eV O zz zt=> ?_;obtain rfl:=O)
 refine cg (λe=>bB (fin (setPending st pd) (X++Y++q::I) b.kind b.failed rfl z9 (.refl _) (gc.mpr ⟨su,sv,λx hx y a=> ?_⟩))) λe1=> ?_
 . have:=qA (eq_of_beq e)
   rw[eV,this]at a
   exact bp (zU x hx) (zt y a)
 obtain ⟨q',Z,rfl⟩:∃q I,Z=q::I:=List.exists_cons_of_ne_nil λe=>e1 (by rw[e];rfl)
 cases (iy eV).1
 (refine e9 (LI (U:=Y) (Nat.pos_of_ne_zero λe=>e0 (by(rw[aY,e,tO _,kE _]);rfl))) λY' z' O=> ?_;obtain rfl:=O)
 obtain rfl:z'=z:=by rw[<-bM]at H;exact List.singleton_inj.mp (qZ H rfl).2
 rw[eV]at o sv fin
 have sz:=gc.mp sv
 have x1:=by
  have:=LF (P:=P++X) (L:=Y'++ [z']) (N:=(q::Z++T)++R) (by rw[o];simp only[bM])
  rwa[aY,w3,<-aY (as:=X)]at this
 have y1:=by
  have:=LF (P:=P++ (X++ (Y'++ [z']))) (L:=q::Z) (N:=T++R) (by rw[o];simp only[bM])
  rwa[l2]at this
 rw[x1,y1,(show(X++ (Y'++ [z'])).length - X.length=(Y'++ [z']).length by rw[aY];rw[l7 _ _];rfl)]
 refine abw L (st:=setPending st pd) b.kind b.failed o hm sx.2.1 sz.1 qy zz λc out k f p e u so=>fin c (X++ (out++T)) k f p (by rw[e];simp only[bM]) ?_ ?_
 . rw[bM _ _ _]
   refine z5 _ ?_
   rw[(bM _ _ _).symm]
   exact u.append_right T
 . refine gc.mpr ⟨sx.1,gc.mpr ⟨so,sz.2.1,λx hx y a=> ?_⟩,λx hx y a=> ?_⟩
   . rcases b5.mp (u.mem_iff.mp hx)with hx|hx
     . exact bp (zU x (ij _ hx)) (zt y a)
     . exact sz.2.2 x hx y a
   . rcases b5.mp a with a|a
     . rcases b5.mp (u.mem_iff.mp a)with a|a
       . exact sx.2.2 x hx y a
       . exact D6 x hx y (by rw[eV];exact fg _ a)
     . exact D6 x hx y (by rw[eV];exact ij _ a)
def Runs (key:Keyed->Nat)(xs:Array Keyed):Nat->List (Nat×Nat×Nat)->Nat->Prop
 |lo,[],a=>lo=a
 |lo,p::r,a=>p.1=lo/\1<=p.2.1/\dZ key xs lo (lo+p.2.1)/\Runs key xs (lo+p.2.1) r a
theorem Runs.le:∀ {l:List _} {lo a:Nat},Runs key xs lo l a->lo+l.length<=a:=by
 intro b
 induction b with
 |nil=>
  intro _ _ h
  cases h;simp
 |cons p r c=>
  intro lo a O;refine mB O λq k _ o=> ?_;have:=c o
  simp only[jG];exact Ut k this
theorem Runs.app:∀ {l r:List _} {lo a:Nat},Runs key xs lo (l++r) a↔∃m,Runs key xs lo l m/\Runs key xs m r a:=by
 intro c
 induction c with
 |nil=>exact λ{_ lo _}=>⟨λh=>⟨lo,rfl,h⟩,λh=>by revert h;intro O;exact ah O λm e h=>by cases e;exact h⟩
 |cons p l b=>
  exact⟨λh=>(b.mp h.2.2.2).elim λm k=>⟨m,⟨h.1,h.2.1,h.2.2.1,k.1⟩,k.2⟩,λh=>h.elim λm k=>⟨k.1.1,k.1.2.1,k.1.2.2.1,b.mpr ⟨m,k.1.2.2.2,k.2⟩⟩⟩
theorem Runs.same:∀ {l:List _} {lo a:Nat},Runs key xs lo l a->(∀i,lo<=i->i<a->Ks key o i=Ks key xs i)->Runs key o lo l a:=by
 intro q
 induction q with
 |nil=>
  intro _ _ h _
  exact h
 |cons p r u=>
  intro lo a O;exact mB O λx c y k=>λe=>have:=k.le;⟨x,c,λi a b=>Zrr (e i (by assumption) (Rb this b)) (Zrr (e _ (k9 ‹_›) (Rd this b)) (y i a b)),u k λi a b=>e i (Rf c a) b⟩
theorem aby {k:Type}:∀ {l:List k} {j:Nat},j+1<l.length->∃L a b R,l=L++a::b::R/\L.length=j:=by
 intro o j h
 have c:=iZ j o
 rw[ou (gr h),ou h]at c
 exact⟨_,_,_,_,c.symm,List.length_take_of_le (b_ (gr h))⟩
theorem abz (L:iB M A s aS kd key){st}{Q}(hS:SB aS kd st){j b}(hr:Runs key (arrOf st) 0 (pendingOf st).toList b)(hh:b<=aS.size)(hj:j+1<(pendingOf st).size)
 (h:∀a,SB aS kd a->Runs key (arrOf a) 0 (pendingOf a).toList b->(pendingOf a).size+1=(pendingOf st).size->(∀i,b<=i->Ks key (arrOf a) i=Ks key (arrOf st) i)->Q ab a):wpS M A E s (mergeAt' j) Q st:=by
 refine vo (aby (l:=(pendingOf st).toList) (by simpa using hj)) λl p q r e hl=> ?_
 obtain ⟨sa,c,pw⟩:=p
 obtain ⟨sb,o,pv⟩:=q
 rw[e]at hr
 refine ah (Runs.app.mp hr) λm r1 u=>QB u λx n1 s1 y D H k=> ?_;clear u
 dsimp only at x n1 s1 y D H k
 subst x
 subst y
 have I:=k.le
 refine abx L hS (by rw[eK.symm,e];simp[hl]:(pendingOf st)[j]?=S (sa,c,pw)) (by rw[eK.symm,e];simp[hl]:(pendingOf st)[j+1]?=S (sa+c,o,pv)) n1 D (TH hh I) s1 H λa mg=> ?_
 have O:(pendingOf a).toList=l++ (sa,c+o,pw)::r:=by
  rw[mg.pend,Array.toList_eraseIdxIfInBounds,Kn,e,hl.symm]
  simp[List.eraseIdx_append_of_length_le]
 refine h _ mg.sb (Zrr O (Runs.app.mpr ⟨sa,r1.same λi U Y=>mg.rest i (.inl Y),rfl,by lia,mg.z7,Zrr (w3 _ _ _).symm (k.same λi U Y=>mg.rest i (.inr (TJ U)))⟩)) ?_ λi b=>mg.rest i (.inr (TL I b))
 . rw[gO.symm,gO.symm,O,e]
   simp;exact TK
abbrev US:=Option Unit×Unit
noncomputable def abA (b pw:Nat):Nat->US->SS (ForInStep US):=λ_ _=>(get:SS SortSt) >>=λst=>match if(pendingOf st).size>1 then(pendingOf st)[(pendingOf st).size - 2]? else J with
 |some (_,_,a)=>if a<=pw then pure (.done (J,()))
  else mergeAt' ((pendingOf st).size - 2) >>=λr=>if(!r)=ab then pure (.done (S (),()))else pure (.yield (J,()))
 |_=>pure (.done (J,()))
noncomputable def z_ (lo n:Nat):SS (ForInStep (Option Unit×Nat)):=(modify λs=>setPending s ((pendingOf s).push (lo,n,0)):SS PUnit) >>=λ_=>pure (.yield (J,lo+n))
def Aa (a lo n:Nat):SS (ForInStep (Option Unit×Nat)):=(get:SS SortSt) >>=λst=>match(pendingOf st).back? with
 |some (s1,n1,_)=>forIn [:a] ((J,()):US) (abA a (power' a (2*s1+n1) (2*s1+n1+n1+n) a)) >>=λc=>match c.1 with
  |some r=>pure (.done (S r,lo))
  |none=>(modify λs=>setPending s ((pendingOf s).modify ((pendingOf s).size - 1) λx=>(x.1,x.2.1,power' a (2*s1+n1) (2*s1+n1+n1+n) a)):SS PUnit) >>=λ_=>z_ lo n
 |_=>z_ lo n
def abC (a b:Nat):Nat->Option Unit×Nat->SS (ForInStep (Option Unit×Nat)):=λ_ c=>
 if c.2 >= a then pure (.done (J,c.2))else countRun' c.2 (a - c.2) >>=λx=>match x with
 |some n=>if n<b then(liftM (rule "list.sort.binary-insertion"):SS Unit) >>=λ_=>binarySort' c.2 (min (a - c.2) b) n>>=λr=>if(!r)=ab then pure (.done (S (),c.2))else Aa a c.2 (min (a - c.2) b)
  else Aa a c.2 n
 |_=>pure (.done (S (),c.2))
noncomputable def abD (p:Array (Nat×Nat×Nat)):Nat:=if((if p.size - 2>0 then p[p.size - 2 - 1]?.map (·.2.1)else J).any (· <(p[p.size - 2+1]?.elim 0 (·.2.1))))=ab then p.size - 2 - 1 else p.size - 2
def LM:Nat->US->SS (ForInStep US):=λ_ _=>(get:SS SortSt) >>=λst=>if(pendingOf st).size<=1 then pure (.done (J,()))
 else mergeAt' (abD (pendingOf st)) >>=λr=>if(!r)=ab then pure (.done (S (),()))else pure (.yield (J,()))
theorem abE:sortRuns'=get>>=λst=>forIn [:(arrOf st).size] (J,0) (abC (arrOf st).size (minRun' (arrOf st).size (arrOf st).size 0)) >>=λc=>match c.1 with
 |some r=>pure r
 |none=>forIn [:(arrOf st).size] (J,()) LM>>=λc=>match c.1 with
  |some r=>pure r
  |none=>pure ():=by kernel_rfl
theorem abF {f}(hf:∀p,(f p).1=p.1/\(f p).2.1=p.2.1):∀ {l:List _} {k lo a:Nat},Runs key xs lo l a->Runs key xs lo (l.modify k f) a:=by
 intro b
 induction b with
 |nil=>exact λ{k _ _} h=>by rw[List.modify_nil _ _];exact h
 |cons p r c=>
  intro k lo a h
  cases k with
  |zero=>
   exact Zrr (List.modify_zero_cons _ _ _) ⟨(hf p).1.trans h.1,by rw[(hf p).2];exact h.2.1,by rw[(hf p).2];exact h.2.2.1,by rw[(hf p).2];exact h.2.2.2⟩
  |succ k=>
   exact Zrr (List.modify_succ_cons _ _ _ _) ⟨h.1,h.2.1,h.2.2.1,c h.2.2.2⟩
structure RI (key:Keyed->Nat)(aS:Array Keyed)(kd:SortKind)(st:SortSt)(lo:Nat):Prop where
 sb:SB aS kd st
 runs:Runs key (arrOf st) 0 (pendingOf st).toList lo
section
variable {st:SortSt} {lo n:Nat}
theorem RI.push (r:RI key aS kd st lo)(a:1<=n)(b:dZ key (arrOf st) lo (lo+n)):RI key aS kd (setPending st ((pendingOf st).push (lo,n,0))) (lo+n):=
 ⟨⟨r.sb.perm,r.sb.kind,r.sb.failed⟩,Zrr zA (Runs.app.mpr ⟨lo,r.runs,rfl,a,b,rfl⟩)⟩
theorem LN (L:iB M A s aS kd key){j o}(r:RI key aS kd st o)(u:o<=aS.size)(x:j+1<(pendingOf st).size){Q:ForInStep US->SortSt->Prop}
 (q:∀k,RI key aS kd k o->(pendingOf k).size+1=(pendingOf st).size->(∀i,o<=i->Ks key (arrOf k) i=Ks key (arrOf st) i)->Q (.yield (J,())) k):
 wpS M A E s (mergeAt' j>>=λr=>if(!r)=ab then pure (.done (S (),()))else pure (.yield (J,()))) Q st:=
 bq (abz L r.sb r.runs u x λk a b c d=>bB (q _ ⟨a,b⟩ c d))
set_option tactic.hygienic true in
theorem abG (L:iB M A s aS kd key){Q}(r:RI key aS kd st lo)(y:1<=n)(hn:lo+n<=aS.size)(b:dZ key (arrOf st) lo (lo+n))
 (h:∀a,RI key aS kd a (lo+n)->Q (.yield (J,lo+n)) a):wpS M A E s (Aa aS.size lo n) Q st:=by
 have fin:∀ {a},RI _ _ kd _ lo->dZ _ _ lo _->wpS M A E s (z_ lo n) Q a:=λr b=>bq (zO (bB (h _ (r.push y b))))
 refine bq (sY ?_)
 split
 . next s1 n1 o _=>
   have out:∀ {a},RI _ _ kd a lo->dZ _ (arrOf a) lo _->wpS M A E s (modify (λs=>setPending s ((pendingOf s).modify ((pendingOf s).size - 1) λx=>(x.1,x.2.1,power' _ _ _ _))) >>=λ_=>z_ lo n) Q _:=λ{a} r b=>
    bq (zO (fin ⟨⟨r.sb.perm,r.sb.kind,r.sb.failed⟩,Zrr Array.toList_modify (abF (f:=λx=>(x.1,x.2.1,power' aS.size (2*s1+n1) (2*s1+n1+n1+n) aS.size)) (λp=>⟨rfl,rfl⟩) r.runs)⟩ b))
   refine bq (l4 (I:=λx c a=>c=(J,())/\RI _ _ kd a lo/\dZ _ (arrOf a) lo _) (λx c a _ hx i=> ?_) (λc a i=> ?_) ⟨rfl,r,b⟩)
   . refine dp i λO k q=> ?_;clear i;refine bq (sY ?_)
     split
     . next hm=>
       refine cg (λ_=>bB (out k q)) λ_=>LN L k (bp (dO ..) hn) (by lia) λU D _ hk=>⟨rfl,D,λi u H=> ?_⟩
       rw[hk i u];exact Zrr (hk _ (k9 u)) (q i u H)
     exact bB (out k q)
   . refine dp i λO k q=> ?_;clear i;subst O
     exact out k q
 exact fin r b
end
theorem abH (L:iB M A s aS kd key){st}{Q}(hS:SB aS kd st)(hp:pendingOf st= #[])(o:1<=aS.size)
 (h:∀b,SB aS kd b->dZ key (arrOf b) 0 aS.size->Q () b):wpS M A E s sortRuns' Q st:=by
 rw[abE]
 refine bq (sY ?_)
 rw[hS.size]
 generalize minRun' aS.size aS.size 0=mr
 have last:∀ {b},RI key aS kd b aS.size->wpS M A E s (forIn [:aS.size] (J,()) LM>>=λc=>match c.1 with
  |some r=>pure r
  |none=>pure ()) Q b:=λ{b} r=>by
  have fin:∀ {k},RI key aS kd k aS.size->(pendingOf k).size<=1->Q () k:=λ{k} r a=>by
   have hr:=r.runs
   rw[<-gO]at a
   cases hl:(pendingOf k).toList with
   |nil=>rw[hl]at hr;exact absurd hr (dx o)
   |cons p l=>
    rw[hl]at hr a
    obtain rfl:l= []:=qA (uz λq=>absurd a (KJ.mpr (KY q)))
    refine mB hr λ_ _ s1 e=> ?_;clear hr
    exact h _ r.sb ((e)▸s1)
  have uu:=by have:=r.runs.le;rwa[fb,gO]at this
  refine bq (l4 (I:=λx c k=>c=(J,())/\RI key aS kd k aS.size/\((pendingOf k).size+x<=aS.size\/(pendingOf k).size<=1)) (λx c k _ hx i=> ?_) (λc k i=> ?_) ⟨rfl,r,.inl uu⟩)
  . ((refine dp i λO y a=> ?_;clear i);obtain rfl:=O)
    refine bq (sY (cg (λe=>bB (bB (fin y e))) λe=>LN L y (ba _) ?_ λu r3 Y _=>⟨rfl,r3,?_⟩))
    . have aux:∀(c:Prop) [Decidable c] (n:Nat),(if c then n - 1 else n)<=n:=λc _ n=>by
       split
       . exact jA ..
       . exact ba _
      exact e_ (D2 (aux _ _) 1) (Un e)
    . exact .inl (bp (aN (Nat.succ_add_eq_add_succ ..).symm) (bp (aN (congrArg (· +x) Y)) (a.resolve_right e)))
  . ((refine dp i λO y a=> ?_;clear i);obtain rfl:=O)
    exact bB (fin y (by rw[Lj]at a;exact a.elim (λz=>k9 (Nat.le_of_add_le_add_right (bp z (aN (fb _).symm)))) id))
 refine bq (l4 (I:=λx c b=>∃lo,c=(J,lo)/\RI key aS kd b lo/\lo<=aS.size/\x<=lo) (λx c b _ hx i=> ?_) (λc b i=> ?_) ⟨0,rfl,⟨hS,by rw[hp];rfl⟩,dM _,ba _⟩)
 . ((refine o4 i λlo O r D o=> ?_;clear i);obtain rfl:=O)
   refine cg (λe=>bB ?_) λe=> ?_
   . obtain rfl:lo=aS.size:=cj D e
     exact last r
   have hlt:=jd e
   have a:=zR D
   refine bq (wpS_countRun L (aN a) (D1 hlt) r.sb λm k K2 w0 zP pB=> ?_)
   have tail:∀ {n:Nat} {u:SortSt} {R:ForInStep (Option Unit×Nat)->SortSt->Prop},(∀H,(∃U,((J,lo+n):Option Unit×Nat)=(J,U)/\RI key aS kd H U/\U<=aS.size/\x+1<=U)->R (.yield (J,lo+n)) H)->iC key aS kd lo b u->1<=n->lo+n<=aS.size->dZ key (arrOf u) lo (lo+n)->wpS M A E s (Aa aS.size lo n) R u:=λ{n u R} hR K m9 uy D7=>
    abG L ⟨K.sb,by rw[K.pend];exact r.runs.same λi _ hi=>K.low i hi⟩ m9 uy D7 λH r4=>hR H ⟨lo+n,rfl,r4,uy,vq o m9⟩
   have hmn:=a▸iD zP lo
   refine cg (λhl=>bq (ux (si ⟨rfl,bq (aa5 L ?_ w0 ?_ K2.sb pB λu K3 D7=>tail (λ_ z=>z) (K2.trans K3) ?_ ?_ D7)⟩))) λ_=>tail (λ_ z=>z) K2 w0 hmn pB
   . exact bp (iD (lL ..) lo) (aN a)
   . exact rU.mpr ⟨zP,b_ hl⟩
   . exact rU.mpr ⟨D1 hlt,DN hl⟩
   . exact bp (iD (lL ..) lo) (aN a)
 . ((refine o4 i λlo O r D o=> ?_;clear i);obtain rfl:=O)
   rw[Lj]at o
   obtain rfl:lo=aS.size:=cj D o
   exact last r
end
section
open PySem PySem.W PySem.Calls PyProof.Rows PySem.SeqAt
open PySem.AutoSeq1 (wpAny_loadPart')
open PySem.MeetsSeq PySem.MeetsSeq2 PySem.MeetsSeq3
def ng (A:Around)(s:aT)(y x:Value)(b:Bool):Prop:=
 ∀(prog:Program) (w:World) (E:Value->aT->Prop) (Q:Value->aT->Prop),Q (.bool b) s->wpAny (model prog w) A (richCompare .Lt y x) Q E s
noncomputable def nh:List (Bool×Bool)->Bool->Bool
 | [],fin=>fin
 |p::r,fin=>if p.1 then nh r fin else p.2
theorem D8:nh (p::r) f=if p.1 then nh r f else p.2:=rfl
theorem D9:nh [] f=f:=rfl
theorem abI (l b:aO)(items a:Array Value)(n n2:Nat)(dd uJ:Option aO)(sl uK:Array (Option Value))(e g:Nat->Bool):
 Meets (Builtin.«tuple.__lt__» ⟨[.ref l,.ref b],[]⟩)
  (λA R s=>s.heap.get? l=S {cls:= .type "tuple",dict:=dd,data:= .seq items n,slots:=sl}/\s.heap.get? b=S {cls:= .type "tuple",dict:=uJ,data:= .seq a n2,slots:=uK}/\
   (∀j (D:j<items.size) (H:j<a.size),EqAt A.in1 s items[j] a[j] (e j)/\(e j=ae->ng A.in1 s items[j] a[j] (g j)))/\
   R (.ok (.ret (.bool (nh ((List.range (min items.size a.size)).map λj=>(e j,g j)) (decide (items.size<a.size)))))) s):=
 .of_wp λprog w A R s h=>by
  obtain ⟨hp,g',d,tk,os⟩:=s;(revert h;intro O;refine mB O λhl hb he h=> ?_;clear O)
  have f2:=AutoSeq1.sub_tuple_tuple
  have hZ:(items.toList.zip a.toList).length=min items.size a.size:=by simp
  wp_walk using lj hl,lj hb,wpAny_forIn_list _ (λrest b I=>b.1=J/\I=⟨hp,g',d,tk,os⟩/\∃i,rest=(items.toList.zip a.toList).drop i/\
   R (.ok (.ret (.bool (nh (((List.range (min items.size a.size)).drop i).map λj=>(e j,g j)) (decide (items.size<a.size)))))) ⟨hp,g',d,tk,os⟩) _
  case turn=>
   (intro O;obtain ⟨y,x⟩:=O;intro rest b I q;refine dp q λL Q r=> ?_;refine ah r λi k c=> ?_;clear r;clear q;obtain rfl:=Q)
   have hlt:i<(items.toList.zip a.toList).length:=by
    rcases uL i (items.toList.zip a.toList).length with o|o
    . exact o
    . rw[sD o]at k;cases k
   have hm:=hZ▸hlt
   have D:=d_ hm (lL _ _)
   have H:=d_ hm (qj _ _)
   rw[ou hlt]at k
   injection k with LO U
   have u:y=items[i]:=by have:=congrArg Prod.fst LO;simpa using this
   have hx:x=a[i]:=by have:=congrArg Prod.snd LO;simpa using this
   subst u hx
   have hd:(List.range (min items.size a.size)).drop i=i::(List.range (min items.size a.size)).drop (i+1):=by simp[ou,hm]
   rw[hd,dz,D8]at c
   refine aG ((he i D H).1 prog w _ _ ?_)
   cases u:e i with
   |true=>
    rw[u]at c
    wp_walk
    exact⟨rfl,rfl,i+1,U,by simpa using c⟩
   |false=>
    rw[u]at c
    have hc:=(he i D H).2 u prog w
    generalize richCompare .Lt items[i] a[i]=rc at hc ⊢
    wp_walk
    refine hc _ _ ?_
    wp_walk
    exact⟨_,rfl,by simpa using c⟩
  case fin=>
   (intro O;obtain ⟨b1,b2⟩:=O;intro I q;refine dp q λL Q r=> ?_;refine ah r λi k c=> ?_;clear r;clear q;obtain rfl:=Q)
   simp only at L
   subst L
   have Y:min items.size a.size<=i:=by
    rcases uL i (items.toList.zip a.toList).length with o|o
    . rw[ou o]at k;cases k
    . exact hZ▸o
   rw[sD (by simpa using Y)]at c
   wp_walk
   exact⟨_,rfl,by simpa [Builtin.Tuple.tupleCompareSizes,D9]using c⟩
  case h=>
   exact⟨rfl,rfl,0,rfl,by simpa using h⟩
theorem abK (l b:aO)(items a:Array Value)(n u:Nat)(x y:Option aO)(sl D:Array (Option Value))(e g:Nat->Bool)(k:Nat):
 ∀i:Nat,min items.size a.size - i=k->Meets (Builtin.«list.__eq__.loop» ⟨[.ref l,.ref b,rawInt i,rawInt 0],[]⟩)
  (λA R s=>s.heap.get? l=S {cls:= .type "list",dict:=x,data:= .seq items n,slots:=sl}/\s.heap.get? b=S {cls:= .type "list",dict:=y,data:= .seq a u,slots:=D}/\
   (∀j (c:j<items.size) (Y:j<a.size),EqAt A.in1 s items[j] a[j] (e j)/\(e j=ae->ng A.in1 s items[j] a[j] (g j)))/\
   R (.ok (.ret (.bool (nh (((List.range (min items.size a.size)).drop i).map λj=>(e j,g j)) (decide (items.size<a.size)))))) s):=by
 induction k with
 |zero=>
  intro i hk prog w A R s h
  obtain ⟨H,I,d,L,os⟩:=s;(revert h;intro O;refine mB O λhl hb he h=> ?_;clear O)
  have o:(List.range (min items.size a.size)).drop i= []:=by simp;exact RP hk
  rw[o]at h
  wp_walk using lj hl,lj hb
  by_cases c:items.size<=i
  . have oG:items[((i:Nat):Int).toNat]?=none:=by simp;assumption
    rw[oG]
    wp_walk using lj hl,lj hb
    show R (.ok (.ret (.bool (decide (items.size<a.size))))) _
    simpa [D9]using h
  . have qY:a[((i:Nat):Int).toNat]?=none:=ynJ (gg λz=>BP (Nat.lt_min.mpr ⟨jd c,z⟩) (LC hk))
    have oG:items[((i:Nat):Int).toNat]?=S (items[i]'(jd c)):=by simp
    rw[qY,oG]
    wp_walk using lj hl,lj hb
    show R (.ok (.ret (.bool (decide (items.size<a.size))))) _
    simpa [D9]using h
 |succ k Q=>
  intro i hk prog w A R s h
  obtain ⟨H,I,d,L,os⟩:=s;(revert h;intro O;refine mB O λhl hb he h=> ?_;clear O)
  wp_walk using lj hl,lj hb
  have hlt:i<items.size:=RQ hk
  have q:i<a.size:=RR hk
  have oG:items[((i:Nat):Int).toNat]?=S items[i]:=by simp[hlt]
  have qY:a[((i:Nat):Int).toNat]?=S a[i]:=by simp[q]
  have hm:i<min items.size a.size:=RT hk
  have o:(List.range (min items.size a.size)).drop i=i::(List.range (min items.size a.size)).drop (i+1):=by simp[ou,hm]
  have U:((i:Int)+1)=((i+1:Nat):Int):=by push_cast;rfl
  rw[o,dz,D8]at h
  rw[oG,qY]
  refine aG ((he i hlt q).1 prog w _ _ ?_)
  cases r:e i with
  |true=>
   rw[r]at h
   wp_walk
   rw[U]
   exact⟨Dp plain_eq_loop _,Dq entry_eq_loop (by
    rw[Ds plain_eq_loop _]
    exact Q (i+1) (RU hk hm) prog w A R _ ⟨hl,hb,he,by simpa using h⟩)⟩
  |false=>
   rw[r]at h
   wp_walk using lj hl,lj hb
   rw[oG,qY]
   refine aG ((he i hlt q).2 r prog w _ _ ?_)
   wp_walk
   simpa using h
theorem abL (l b)(items a)(n c)(k o)(sl q)(e g:Nat->Bool):
 Meets (Builtin.«list.__lt__» ⟨[.ref l,.ref b],[]⟩)
  (λA R s=>s.heap.get? l=S {cls:= .type "list",dict:=k,data:= .seq items n,slots:=sl}/\s.heap.get? b=S {cls:= .type "list",dict:=o,data:= .seq a c,slots:=q}/\
   (∀j (r:j<items.size) (u:j<a.size),EqAt A.in1 s items[j] a[j] (e j)/\(e j=ae->ng A.in1 s items[j] a[j] (g j)))/\
   R (.ok (.ret (.bool (nh ((List.range (min items.size a.size)).map λj=>(e j,g j)) (decide (items.size<a.size)))))) s):=by
 intro prog w A R s h
 obtain ⟨x,y,d,D,os⟩:=s;revert h;intro O;refine mB O λhl hb he h=> ?_;clear O
 have H:=AutoSeq1.sub_list_list
 wp_walk using lj hl,lj hb
 exact⟨Dp plain_eq_loop _,Dq entry_eq_loop (by
  rw[Ds plain_eq_loop _]
  exact abK l b items a n c k o sl q e g _ 0 rfl prog w A R _ ⟨hl,hb,he,by simpa using h⟩)⟩
variable {A:Around} {s:aT}
theorem ng.ints (a)(t)(b)(u):ng A s (.int a t) (.int b u) (decide (a<b)):=λprog w E Q h=>
 wpAny_richCompare_same (Ce s a t) (Ce s b u) F.slot_int_lt (by
  refine mW (call_int_lt (Q:=λv c=>v= .bool _/\c=s) ⟨rfl,rfl⟩) (λv c k=>au k λO o=> ?_) λ_ _ x=>x;clear k;subst O;subst o
  exact⟨nofun,h⟩) rfl
theorem ng.tuples {items a}{n c}{e g:Nat->Bool}(k:s.heap.get? l=S (seqObj "tuple" items n))(o:s.heap.get? b=S (seqObj "tuple" a c))(q:A.units<cLine)
 (he:∀j (r:j<items.size) (u:j<a.size),EqAt A.in1 s items[j] a[j] (e j)/\(e j=ae->ng A.in1 s items[j] a[j] (g j))):
 ng A s (.ref l) (.ref b) (nh ((List.range (min items.size a.size)).map λj=>(e j,g j)) (decide (items.size<a.size))):=λ_ _ _ Q h=>
 richCompare_meets_room ⟨_,k,rfl⟩ ⟨_,o,rfl⟩ F.slot_tuple_lt F.entry_tuple_lt (F.args_tuple_lt_2 _ _) (abI l b _ _ n c _ _ _ _ e g)
  ⟨k,o,he,⟨(λx=>nomatch x),h⟩⟩ q
end
structure gR (P:V->Prop)(lt:V->V->Bool):Prop where
 uM:∀x,P x->lt x x=ae
 trans:∀x y z,P x->P y->P z->lt x y=ab->lt y z=ab->lt x z=ab
 uN:∀x y,P x->P y->lt x y=ae->lt y x=ae->x=y
theorem gR.abM (o:gR P lt){x y}(hx:P x)(a:P y)(h:lt x y=ab):lt y x=false:=by
 cases q:lt y x with
 |false=>rfl
 |true=>have:=o.trans x y x hx a hx h q;rw[o.uM x hx]at this;exact bT this
theorem gR.neg (o:gR P lt){x y z}(hx:P x)(b:P y)(a:P z)(h:lt z y=ab)(q:lt x y=ae):lt z x=true:=by
 cases r:lt z x with
 |true=>rfl
 |false=>
  cases t:lt x z with
  |true=>have:=o.trans x z y hx a b t h;rw[q]at this;exact bT this
  |false=>have:=o.uN x z hx a t r;subst this;rw[q]at h;exact bT h
theorem q_ (h:isInt x=ab):∃i,x= .int i:=by cases x<;>first|exact⟨_,rfl⟩|exact bT h
theorem xb:gR (λx=>isInt x=ab) dc where
 uM:=λx h=>by
  refine ao (q_ h) λi O=> ?_;subst O
  exact decide_eq_false i.lt_irrefl
 trans:=λx y z hx a b h q=>by
  refine ao (q_ hx) λi O=> ?_;subst O
  refine ao (q_ a) λj O=> ?_;subst O
  refine ao (q_ b) λk O=> ?_;subst O
  exact decide_eq_true (mR (of_decide_eq_true h) (of_decide_eq_true q))
 uN:=λx y hx a h q=>by
  refine ao (q_ hx) λi O=> ?_;subst O
  refine ao (q_ a) λj O=> ?_;subst O
  exact congrArg _ (Int.le_antisymm (lT.mp (of_decide_eq_false q)) (lT.mp (of_decide_eq_false h)))
theorem Ac (hx:isInt x=ab)(a:isInt y=ab):dK x y=ab↔x=y:=by
 refine ao (q_ hx) λi O=> ?_;subst O
 refine ao (q_ a) λj O=> ?_;subst O
 exact⟨λe=>congrArg _ (of_decide_eq_true e),λe=>decide_eq_true (V.int.inj e)⟩
theorem Ea (x)(xs)(y)(a):kR (x::xs) (y::a)=if dK x y then kR xs a else dc x y:=rfl
theorem Eb (i j k l):dc (.tup [.int i,.int j]) (.tup [.int k,.int l])=if i=k then if j=l then ae else decide (j<l)else decide (i<k):=by
 show(if decide _=ab then if decide _=ab then ae else decide _ else decide _)=_
 simp only[decide_eq_true_eq]
section
variable {P:V->Prop}
theorem abN (hk:∀x y,P x->P y->(dK x y=ab↔x=y)){xs}:∀ {c:List V},(∀x∈xs,P x)->(∀x∈c,P x)->(lN xs c=ab↔xs=c):=by
 induction xs with
 |nil=>
  intro c _ _
  cases c with
  |nil=>exact⟨λ_=>rfl,λ_=>rfl⟩
  |cons y c=>exact⟨λh=>(gq h).elim,λh=>by cases h⟩
 |cons x xs o=>
  intro c hx k
  cases c with
  |nil=>exact⟨λh=>(gq h).elim,λh=>by cases h⟩
  |cons y c=>
   have a:=hk x y (hx x (.head _)) (k y (.head _))
   have b:=o (λz m=>hx z (.tail _ m)) λz m=>k z (.tail _ m)
   refine⟨λh=> ?_,λh=> ?_⟩
   . have h:=dF.mp h
     rewrite[a.mp h.1];rw[b.mp h.2];rfl
   exact have h:=iy h;dF.mpr ⟨a.mpr h.1,b.mpr h.2⟩
theorem LP (o:gR P dc)(hk:∀x y,P x->P y->(dK x y=ab↔x=y)){xs}:(∀x∈xs,P x)->kR xs xs=false:=by
 induction xs with
 |nil=>exact λ_=>rfl
 |cons x xs a=>exact λh=>(if_pos ((hk x x (h x (.head _)) (h x (.head _))).mpr rfl)).trans (a λz m=>h z (.tail _ m))
theorem LQ (o:gR P dc)(hk:∀x y,P x->P y->(dK x y=ab↔x=y)){xs}:∀ {a:List V},(∀x∈xs,P x)->(∀x∈a,P x)->kR xs a=ae->kR a xs=ae->xs=a:=by
 induction xs with
 |nil=>
  intro a _ _ h _
  cases a with
  |nil=>rfl
  |cons y a=>exact ja h
 |cons x xs k=>
  intro a hx c h q
  cases a with
  |nil=>exact ja q
  |cons y a=>
   have b:=hx x (.head _)
   have py:=c y (.head _)
   rw[Ea]at h q
   by_cases e:x=y
   . subst e
     have:=(hk x x b b).mpr rfl
     rw[if_pos this]at h q
     rw[k (λz m=>hx z (.tail _ m)) (λz m=>c z (.tail _ m)) h q];rfl
   . rw[if_neg λz=>e ((hk x y b py).mp z)]at h
     rw[if_neg λz=>e ((hk y x py b).mp z).symm]at q
     exact absurd (o.uN x y b py h q) e
theorem LR (o:gR P dc)(hk:∀x y,P x->P y->(dK x y=ab↔x=y)){xs}:∀ {a b:List V},(∀x∈xs,P x)->(∀x∈a,P x)->(∀x∈b,P x)->kR xs a=ab->kR a b=ab->kR xs b=true:=by
 induction xs with
 |nil=>
  intro a b _ _ _ h q
  cases b with
  |cons z b=>rfl
  |nil=>cases a with
   |nil=>exact bT q
   |cons y a=>exact bT q
 |cons x xs L=>
  intro a b hx H I h q
  cases a with
  |nil=>exact bT h
  |cons y a=>
  cases b with
  |nil=>exact bT q
  |cons z b=>
   have c:=hx x (.head _)
   have py:=H y (.head _)
   have k:=I z (.head _)
   rw[Ea]at h q ⊢
   by_cases D:x=y
   . subst D
     rw[if_pos ((hk x x c c).mpr rfl)]at h
     by_cases r:x=z
     . subst r
       rw[if_pos ((hk x x c c).mpr rfl)]at q ⊢
       exact L (λu m=>hx u (.tail _ m)) (λu m=>H u (.tail _ m)) (λu m=>I u (.tail _ m)) h q
     . rw[if_neg λe=>r ((hk x z c k).mp e)]at q ⊢
       exact q
   . rw[if_neg λe=>D ((hk x y c py).mp e)]at h
     by_cases r:y=z
     . subst r
       rewrite[if_neg λe=>D ((hk x y c py).mp e)]
       exact h
     . rw[if_neg λe=>r ((hk y z py k).mp e)]at q
       exact have t:=o.trans x y z c py k h q;Zrr (if_neg λe=>by rw[(hk x z c k).mp e,o.uM z k]at t;exact bT t) t
end
theorem lp (h:iR x=ab):∃a b,x= .tup [.int a,.int b]:=by
 cases x with
 |tup xs=>
  have e:=dF.mp h
  rcases xs with _| ⟨x,_| ⟨y,_| ⟨z,r⟩⟩⟩
  . cases e.1
  . cases e.1
  . have a:=cF.mp e.2
    have b:=a x (.head _)
    have c:=a y (.tail _ (.head _))
    cases x<;>first|exact bT b|skip
    cases y<;>first|exact⟨_,_,rfl⟩|exact bT c
  cases e.1
 |_=>exact bT h
theorem rf:∀x∈ [.int a,.int b],isInt x=true:=yoA.mpr ⟨rfl,yoA.mpr ⟨rfl,λ_ m=>nomatch m⟩⟩
theorem xc:gR (λx=>iR x=ab) dc where
 uM:=λx h=>by
  refine e9 (lp h) λa b O=> ?_;subst O
  exact LP xb (λx y=>Ac) rf
 trans:=λx y z hx k o h q=>by
  refine e9 (lp hx) λa b O=> ?_;subst O
  refine e9 (lp k) λc d O=> ?_;subst O
  refine e9 (lp o) λe f O=> ?_;subst O
  exact LR xb (λx y=>Ac) rf rf rf h q
 uN:=λx y hx k h q=>by
  refine e9 (lp hx) λa b O=> ?_;subst O
  refine e9 (lp k) λc d O=> ?_;subst O
  exact congrArg _ (LQ xb (λx y=>Ac) rf rf h q)
theorem Ec (hx:iR x=ab)(k:iR y=ab):dK x y=ab↔x=y:=by
 refine e9 (lp hx) λa b O=> ?_;subst O
 refine e9 (lp k) λc d O=> ?_;subst O
 exact have:=abN (λx y=>Ac) (rf (a:=a) (b:=b)) (rf (a:=c) (b:=d));⟨λh=>congrArg _ (this.mp h),λh=>this.mpr (V.tup.inj h)⟩
theorem oH (h:rW x=ab):∃xs,x= .lst xs/\∀y∈xs,iR y=true:=by
 cases x with
 |lst xs=>exact⟨xs,rfl,cF.mp h⟩
 |_=>exact bT h
theorem abO:gR (λx=>rW x=ab) dc where
 uM:=λx h=>by
  refine ah (oH h) λa O ha=> ?_;subst O
  exact LP xc (λx y=>Ec) ha
 trans:=λx y z hx k o h q=>by
  refine ah (oH hx) λa O ha=> ?_;subst O
  refine ah (oH k) λb O hb=> ?_;subst O
  refine ah (oH o) λc O r=> ?_;subst O
  exact LR xc (λx y=>Ec) ha hb r h q
 uN:=λx y hx k h q=>by
  refine ah (oH hx) λa O ha=> ?_;subst O
  refine ah (oH k) λb O hb=> ?_;subst O
  exact congrArg _ (LQ xc (λx y=>Ec) ha hb h q)
theorem LS (x y)(a):tR x (y::a)=if dc x y then x::y::a else y::tR x a:=rfl
theorem LU (x):∀xs,(tR x xs).Perm (x::xs):=by
 intro a
 induction a with
 |nil=>
  exact .refl _
 |cons y b c=>
  rw[LS _ _ _]
  split
  . exact .refl _
  exact(c.cons y).trans (.swap x y b)
theorem uO:∀xs,(gm xs).Perm xs:=by
 intro a
 induction a with
 |nil=>
  exact .refl _
 |cons x xs b=>
  exact(LU x _).trans (b.cons x)
def pG (xs:List V):Prop:=xs.Pairwise λx y=>dc y x=ae
theorem abP (o:gR P dc){x}(hx:P x):∀ {xs:List V},(∀y∈xs,P y)->pG xs->pG (tR x xs):=by
 intro c
 induction c with
 |nil=>
  exact λ_ _=>LY ..
 |cons y k r=>
  intro h s
  have py:=h y (by simp)
  have b:=sZ.mp s
  rw[LS _ _ _]
  split
  . next hlt=>
    refine sZ.mpr ⟨λz a=> ?_,s⟩
    rcases cy.mp a with rfl|a
    . exact o.abM hx py hlt
    cases q:dc z x with
     |false=>rfl
     |true=>have:=o.trans z x y (h z (by simp[a])) hx py q hlt;rw[b.1 z a]at this;exact bT this
  next hlt=>
   refine sZ.mpr ⟨λz a=> ?_,r (λz a=>h z (by simp[a])) b.2⟩
   rcases cy.mp ((LU x k).mem_iff.mp a)with rfl|a
   . simpa using hlt
   exact b.1 z a
theorem abQ (o:gR P dc):∀ {xs:List V},(∀y∈xs,P y)->pG (gm xs):=by
 intro b
 induction b with
 |nil=>
  exact λ_=> .nil
 |cons x xs c=>
  exact λh=>abP o (h x (by simp)) (λy a=>h y (by simp[(uO xs).mem_iff.mp a])) (c λy a=>h y (by simp[a]))
theorem abR (o:gR P dc):∀ {xs a:List V},xs.Perm a->(∀x∈xs,P x)->pG xs->pG a->xs=a:=by
 intro q
 induction q with
 |nil=>exact λp _ _ _=>(List.nil_perm.mp p).symm
 |cons x xs r=>
  intro a p h s t
  cases a with
  |nil=>exact absurd p.length_eq (Nat.succ_ne_zero _)
  |cons y a=>
   have b:=sZ.mp s
   have c:=sZ.mp t
   have k:=p.mem_iff.mpr cT
   have e:x=y:=(cy.mp k).elim (λe=>e.symm) λu=>(cy.mp (p.mem_iff.mp cT)).elim (λe=>e) λhx=>o.uN x y (h x cT) (h y k) (c.1 x hx) (b.1 y u)
   subst e
   rewrite[r p.cons_inv (λz D=>h z (dA _ D)) b.2 c.2];rfl
theorem Ed (o:gR P dc){xs a}(h:∀x∈xs,P x)(p:a.Perm xs)(s:pG a):gm xs=a:=
 abR o ((uO xs).trans p.symm) (λx hx=>h x ((uO xs).mem_iff.mp hx)) (abQ o h) s
noncomputable def rank (l:List V)(x:V):Nat:=l.countP λz=>dc z x
theorem abS (o:gR P dc){l}(hl:∀x∈l,P x){x y}(hx:P x)(a:P y)(h:dc y x=ae):rank l x<=rank l y:=ynV λz b q=>o.neg a hx (hl z b) q h
theorem abT (o:gR P dc){l}(hl:∀x∈l,P x){x y}(hx:x∈l)(u:P y)(h:dc x y=ab):rank l x<rank l y:=by
 have r:=hl x hx
 refine e9 (LZ hx) λa b O=> ?_;subst O
 have k:∀m:List V,(∀z∈m,P z)->m.countP _<=m.countP _:=λm hm=>ynV λz c q=>o.trans z x y (hm z c) r u q h
 have D:=k a λz c=>hl z (by simp[c])
 have H:=k b λz c=>hl z (by simp[c])
 unfold rank
 rw[yoS,yoS,ypS,ypS,h,o.uM x r]
 lia
theorem L0 (o:gR P dc){l}(hl:∀x∈l,P x){x y}(hx:x∈l)(a:y∈l):decide (rank l x<rank l y)=dc x y:=by
 cases h:dc x y with
 |true=>simpa using abT o hl hx (hl y a) h
 |false=>simpa using abS o hl (hl y a) (hl x hx) h
section
open PySem PySem.W PySem.Calls PyProof.Rows PySem.SeqAt
variable {prog:Program} {w:World} {A:Around} {E:Value->aT->Prop} {s:aT}
theorem abU {dec:Value->V}{P}(o:gR P dc){l}(hl:∀x∈l,P x){a}{kd}(b:∀p∈a.toList,dec p.1∈l)
 (h:∀(E:Value->aT->Prop) (x y:Keyed) (Q:Bool->aT->Prop),x∈a.toList->y∈a.toList->Q (dc (dec x.1) (dec y.1)) s->wpAny M A (keyLt' kd x.1 y.1) Q E s):
 iB M A s a kd λp=>rank l (dec p.1):=by
 intro E x y st Q hx c hk q
 rw[lt'_eq _ _]
 refine bq (sY (Zrr hk (bq (ux (wpAny_attempt (h _ x y _ hx c ⟨rfl,?_⟩))))))
 rw[(L0 o hl (b x hx) (b y c)).symm]
 exact bB q
theorem abV {P}(o:gR P dc){a}{xs}(hx:a.map dec=xs)(b:∀x∈xs,P x){arr}(r:arr.Perm (pairsOf a))(I:dZ (λp=>rank xs (dec p.1)) arr 0 (pairsOf a).size):
 (arr.map (·.2)).toList.Perm a/\(arr.map (·.2)).toList.map dec=gm xs:=by
 have L:=r.size_eq
 have u:arr.toList.Perm (a.zip a):=by rw[(pairsOf_toList _).symm];exact DB.mp r
 have k:(arr.map (·.2)).toList.Perm a:=by
  refine Zrr L4 ((u.map _).trans (Zrr (List.map_snd_zip (by simp)) ?_));rfl
 have y:∀p∈arr.toList,p.1=p.2:=λp b=>(mem_zip_self (u.mem_iff.mp b)).1
 refine⟨k,(Ed o b (hx▸k.map _) ?_).symm⟩
 have hw:=by
  refine(z6 (key:=λp=>rank xs (dec p.1)) (xs:=arr) (P:= []) (dg _).symm).mp ?_
  rw[(by assumption:arr.toList.length=(pairsOf a).size),fb _];exact I
 unfold pG
 rw[L4,b4,propext i5]
 have D:∀p∈arr.toList,dec _∈xs:=λp b=>Zrr hx.symm (bX.mpr ⟨_,k.mem_iff.mp (by rw[L4];exact bX.mpr ⟨p,b,rfl⟩),rfl⟩)
 refine hw.imp_of_mem λ{p q} mp H c=> ?_
 show dc (dec _) (dec _)=ae
 have c:rank xs _<=rank xs _:=c
 rw[y p mp,y q H]at c
 rw[(L0 o b (D q H) (D p mp)).symm]
 simpa using c
theorem abW {dec}{P}(o:gR P dc){a}{c}{xs}{n}{kd}{R}(D:s.heap.get? a=S (seqObj "list" c.toArray n))(hl:c.length<aE)(hx:c.map dec=xs)(r:∀x∈xs,P x)
 (hk:∀h',(∀b o,b≠a->s.heap.get? b=S o->h'.get? b=S o)->2<=c.length->
  (∀(Q:SortKind->aT->Prop) E,Q kd (upd s h' s.toks)->wpAny (model prog w) A (keyKind' c.toArray) Q E (upd s h' s.toks))/\
  (∀(E:Value->aT->Prop) x y (Q:Bool->aT->Prop),x∈c->y∈c->Q (dc (dec x) (dec y)) (upd s h' s.toks)->wpAny (model prog w) A (keyLt' kd x y) Q E (upd s h' s.toks)))
 (h:∀out,out.toList.Perm c->out.toList.map dec=gm xs->R (.done (.ret .none)) (upd s (sortedHeap s.heap a c out) s.toks)):
 wpAny (model prog w) A (Builtin.«list.sort» ⟨[.ref a],[]⟩) R E s:=by
 rw[list_sort_plain _]
 have ha:=jf D
 have Ad:=fO hl
 refine aG (listItems_at D rfl ?_)
 refine aG (L6 D rfl ?_ (by simpa using Ad) (dM _))
 obtain ⟨I,mQ⟩:∃I,(s.heap.update a (.mapSeq λ_=> #[])).get? a=S (seqObj "list" #[] I):=⟨_,L7 D (λ_=> #[])⟩
 refine aG (L8 mQ rfl ?_)
 refine aG (wpAny_newTuple ?_ (by simpa using Ad))
 refine aG (wpAny_newList ?_ (dM _))
 refine jH ?_
 have H:(((s.heap.update a (.mapSeq λ_=> #[])).push (seqObj "tuple" c.toArray 0)).push (seqObj "list" #[] 0)).get? a=S (seqObj "list" #[] I):=by
  refine Zrr (yoX _ _ _ (by(rw[size_push' _ _,ypM _ _ _]);exact dx (yA ha))) ?_;refine Zrr (yoX _ _ _ (by rw[ypM _ _ _];exact dx ha)) ?_
  exact mQ
 have O:∀b o,b≠a->s.heap.get? b=S o->(((s.heap.update a (.mapSeq λ_=> #[])).push (seqObj "tuple" c.toArray 0)).push (seqObj "list" #[] 0)).get? b=S o:=λb o hb e=>
  jE _ (jE _ (update_other _ _ _ hb e))
 show wpAny (model prog w) A _ R E (upd s (((s.heap.update a (.mapSeq λ_=> #[])).push (seqObj "tuple" c.toArray 0)).push (seqObj "list" #[] 0)) s.toks)
 dsimp only
 have hsz:c.toArray.size=c.length:=rfl
 have fin:∀k,(arrOf k).Perm (pairsOf c)->dZ (λp=>rank xs (dec p.1)) (arrOf k) 0 (pairsOf c).size->R (.done (.ret .none)) (upd s (sortedHeap s.heap a c ((arrOf k).map (·.2))) s.toks):=by
  intro k oo cZ
  refine au (abV o hx r oo cZ) λU Y=> ?_
  exact h _ U Y
 by_cases u:c.toArray.size<2
 . rw[if_pos u,if_pos u]
   refine aG (bA ?_)
   rw[StateT.run_pure _ _]
   refine aG (bA ?_)
   dsimp only
   refine aG (L8 H rfl ?_)
   refine aG (L6 H rfl ?_ (dM _) (by rw[yqG];show(pairsOf c).size<=_;rw[Ee _];exact k9 ‹_›))
   simp only[bne_self_eq_false,if_false]
   refine bA (fin (.mk' general' (c.toArray.zip c.toArray) #[] 7 J) (.refl _) ?_)
   intro i _ hj
   rw[Ee]at hj
   lia
 . rw[if_neg u,if_neg u]
   refine au (hk _ O (iP (gg u) (aN hsz))) λk1 k2=> ?_
   refine aG (k1 _ _ ?_)
   have L:=by
    have mem:∀p∈ (pairsOf c).toList,p.1∈c:=λp r=>by rw[pairsOf_toList]at r;exact(mem_zip_self r).2
    refine abU o r (λp r=> ?_) λE x y Q hx hy q=>k2 E x.1 y.1 Q (mem x hx) (mem y hy) q
    rw[hx.symm];exact bX.mpr ⟨p.1,mem p r,rfl⟩
   refine aG (mW (abH L
    (Q:=λ_ k=>SB (pairsOf c) kd k/\dZ (λp=>rank xs (dec p.1)) (arrOf k) 0 (pairsOf c).size)
    ⟨.refl _,rfl,rfl⟩ rfl (by rw[Ee _];exact Rx hsz u) λk U Y=>⟨U,Y⟩) ?_ λ_ _ e=>e)
   rintro ⟨⟨⟩,k⟩ s' ⟨rfl,hB,hs⟩
   dsimp only
   refine aG (L8 H rfl ?_)
   refine aG (L6 H rfl ?_ (dM _) (by refine bp (aN ((yqG ..).trans (hB.perm.size_eq.trans (Ee _)))) ?_;exact k9 ‹_›))
   rw[hB.failed]
   simp only[bne_self_eq_false,if_false]
   exact bA (fin k hB.perm hs)
theorem Ef {P}(o:gR P dc){v}{r}{xs}{kd}{Q}(hl:r.length<aE)(hx:r.map dec=xs)(L:∀x∈xs,P x)
 (O:∀(R:List _->aT->Prop),(∀a c,(∀b o,s.heap.get? b=S o->a.get? b=S o)->R r (upd s a c))->wpAny (model prog w) A.in1 (collect v) R E s)
 (hk:∀(a:Heap) c,(∀b o,s.heap.get? b=S o->a.get? b=S o)->2<=r.length->
  (∀(Q:SortKind->aT->Prop) E,Q kd (upd s a c)->wpAny (model prog w) A.in1.in1 (keyKind' r.toArray) Q E (upd s a c))/\
  ∀(E:Value->aT->Prop) x y (Q:Bool->aT->Prop),x∈r->y∈r->Q (dc (dec x) (dec y)) (upd s a c)->wpAny (model prog w) A.in1.in1 (keyLt' kd x y) Q E (upd s a c))
 (h:∀(out:Array _) b a n c,out.toList.Perm r->out.toList.map dec=gm xs->(∀b o,s.heap.get? b=S o->a.get? b=S o)->s.heap.get? b=J->a.get? b=S (seqObj "list" out n)->Q (.ref b) (upd s a c)):
 wpAny (model prog w) A (call (.builtin "sorted") [v]) Q E s:=by
 refine YK kind_sorted plain_sorted entry_sorted (args_sorted1 _) ?_
 refine aG (bA (aG (O _ λD c u=>aG (wpAny_newList ?_ (by simpa using fO hl)))))
 have H:(D.push _).get? _=S (seqObj "list" r.toArray 0):=kU _ rfl
 have fr:s.heap.get? D.objs.size=none:=by
  cases q:s.heap.get? _ with
  |none=>rfl
  |some o=>have:=u _ _ q;rw[gL]at this;exact aD this
 refine aG (jH (Cz slot_list_sort ⟨_,H,rfl⟩ entry_list_sort (abW (kd:=kd) o H hl hx L (λa k U=> ?_) λout Y a2=>⟨_,rfl,?_⟩) (args_list_sort _)))
 . refine hk a c (λb o e=>k b o (λz=> ?_) (eP _ _ b o (u b o e))) U
   rw[z,fr]at e;exact aD e
 . refine bA ⟨_,rfl,?_⟩
   obtain ⟨I,mQ⟩:∃I,((D.push (seqObj _ _ 0)).update _ _).get? _=S (seqObj _ _ I):=⟨_,L7 H (λ_=> #[])⟩
   exact h _ _ _ _ c Y a2 (λb o e=>have hb:=(λb o e=>dx (jf e)) b o (u b o e);update_other _ _ _ hb (eP _ _ b o (eP _ _ b o (update_other _ _ _ hb (eP _ _ b o (u b o e)))))) fr (L7 (eP _ _ _ _ (eP _ _ _ _ mQ)) _)
noncomputable def Ag:Value->V
 | .int i _=> .int i
 |_=> .none
noncomputable def abY:Data->List Value
 | .seq a _=>a.toList
 |_=> []
def Eh (h:Heap):Value->List Value
 | .ref a=>((h.get? a).map λo=>abY o.data).getD []
 |_=> []
def s7 (h:Heap)(v:Value):V:= .tup ((Eh h v).map Ag)
def Ei (h:Heap)(v:Value):V:= .lst ((Eh h v).map (s7 h))
variable {C:CX} {h h':Heap} {N:aO->Prop}
theorem L9 (h:isInt x=ab):∃i,x= .int i:=by
 cases x with
 |int i=>exact⟨i,rfl⟩
 |_=>exact bT h
theorem Ej (hx:isInt x=ab)(r:VR C h N x v):Ag v=x:=by
 cases x with
 |int i=>refine ao r λt O=> ?_;clear r;subst O;rfl
 |_=>exact bT hx
theorem xd {p}(o:∀ {x v},p x=ab->VR C h N x v->dec v=x):∀ {xs:List V} {k:List _},xs.all p=ab->bI C h N xs k->k.map dec=xs:=by
 intro u
 induction u with
 |nil=>
  intro _ _ r
  cases r;rfl
 |cons x xs y=>
  intro _ c r
  refine bo r λv q O a b=> ?_;clear r;subst O
  simp only[Cm,fY]at c
  rw[dz,o c.1 a,y c.2 b];rfl
theorem L_ (b:h.get? a=S (seqObj T c n)):Eh h (.ref a)=c.toList:=by
 show((h.get? a).map _).getD []=_
 rw[b];rfl
theorem Ek (hx:iR x=ab)(r:VR C h N x v):s7 h v=x:=by
 refine e9 (lp hx) λi j O=> ?_;subst O
 refine bU r λa n k O _ b c=> ?_;clear r;subst O
 unfold s7
 rw[L_ b,xd Ej rfl c];rfl
theorem Ma (hx:rW x=ab)(r:VR C h N x v):Ei h v=x:=by
 refine ah (oH hx) λxs O b=> ?_;subst O
 refine bU r λa n o O _ c k=> ?_;clear r;subst O
 unfold Ei
 rw[L_ c];exact Zrr (xd Ek (by simpa using b) k) rfl
theorem bI.mem:∀ {xs:List V} {c:List _} {v:Value},bI C h N xs c->v∈c->∃x∈xs,VR C h N x v:=by
 intro k
 induction k with
 |nil=>
  intro _ v r m
  cases r;cases m
 |cons x xs o=>
  intro _ v r m
  refine bo r λu q O a b=> ?_;clear r;subst O
  rcases cy.mp m with rfl|m
  . exact⟨x,by simp,a⟩
  exact ah (o b m) λy D r=>⟨y,by simp[D],r⟩
theorem bI.abZ:∀ {a:List _} {dec:Value->V},(∀v∈a,VR C h N (dec v) v)->bI C h N (a.map dec) a:=by
 intro c
 induction c with
 |nil=>
  intro _ _
  exact rfl
 |cons v a k=>
  intro dec b
  exact⟨v,a,rfl,b v (by simp),k λu o=>b u (by simp[o])⟩
theorem bI.dec {dec:Value->V}{p}(b:∀ {x v},p x=ab->VR C h N x v->dec v=x){xs}{a}(c:xs.all p=ab)(r:bI C h N xs a):∀v∈a,VR C h N (dec v) v/\p (dec v)=true:=λv k=>ah (r.mem k) λx hx q=>have:=cF.mp c x hx;Zrr (b this q) ⟨q,this⟩
theorem Mb:∀xs a,nh ((List.range (min xs.length a.length)).map λj=>(dK (xs.getD j .none) (a.getD j .none),dc (xs.getD j .none) (a.getD j .none))) (decide (xs.length<a.length))=kR xs a
 | [],[]=>rfl
 | [],y::a=>rfl
 |x::xs,[]=>rfl
 |x::xs,y::a=>by
  rw[(by simp:min _ _=min xs.length a.length+1),El,dz,D8,Ea _ _ _ _,(Mb xs a).symm]
  simp[Function.comp_def]
theorem ab0 (hx:iR x=ab)(a:iR y=ab)(b:VR C s.heap N x v)(c:VR C s.heap N y u)(k:A.units+8<cLine):EqAt A s v u (dK x y):=by
 have d:∀z,iR z=ab->isData 4 z=true:=λz o=>by
  refine e9 (lp o) λi j O=> ?_;subst O
  rfl
 refine ao (b.reads 4 (d x hx)) λas q=>ao (c.reads 4 (d y a)) λbs r=>au (o_ 4 x (d x hx)) λD H=>au (o_ 4 y (d y a)) λI L=> ?_
 have:=eqAt_reads _ _ A s v u as bs q r D I (by
  have:=lL (eR x).depth (eR y).depth
  exact SK k H)
 rw[yP x y 4 4 (d x hx) (d y a)]at this
 exact this
theorem ab1 {x y}{v u}(hx:iR x=ab)(hy:iR y=ab)(L:VR C s.heap N x v)(Q:VR C s.heap N y u)(hu:A.units+8<cLine):ng A s v u (dc x y):=by
 refine e9 (lp hx) λi j O=> ?_;subst O
 refine e9 (lp hy) λk l O=> ?_;subst O
 refine bU L λa n vs O _ ho c=>bo c λv1 r1 e1 o q=> ?_;clear c;refine bo q λv2 r2 e2 r e3=> ?_;clear q;clear L;subst O;refine ao o λU D=> ?_;clear o;subst D;refine ao r λY H=> ?_;clear r;subst H
 refine bU Q λb m us O _ jj c=>bo c λu1 q1 f1 o q=> ?_;clear c;refine bo q λu2 q2 f2 r f3=> ?_;clear q;clear Q;subst O;refine ao o λw1 D=> ?_;clear o;subst D;refine ao r λw2 H=> ?_;clear r;subst H
 subst e3;subst e2;subst f3;subst f2
 have ev:=qW.mp e1
 have eu:=qW.mp f1
 subst ev;subst eu
 have:=ng.tuples (A:=A) (e:=λz=>if z=0 then i==k else j==l) (g:=λz=>if z=0 then decide (i<k)else decide (j<l)) ho jj (Sk hu) (λz I h2=>by
  match z,I,h2 with
  |0,_,_=>exact⟨.int_int _ _ _ _,λ_=> .ints _ _ _ _⟩
  |1,_,_=>exact⟨.int_int _ _ _ _,λ_=> .ints _ _ _ _⟩
  |z+2,I,_=>exact absurd (show z+2<2 by simpa using I) (Sl))
 rw[(rfl:nh ((List.range (min #[Value.int i U,Value.int j Y].size #[Value.int k w1,Value.int l w2].size)).map λz=>((if z=0 then i==k else j==l),(if z=0 then decide (i<k)else decide (j<l)))) (decide (#[Value.int i U,Value.int j Y].size< #[Value.int k w1,Value.int l w2].size))=dc (.tup [.int i,.int j]) (.tup [.int k,.int l]))]at this
 exact this
theorem bI.getD (r:bI C s.heap N xs c){j}(a):VR C s.heap N (xs.getD j .none) c[j]:=by
 have hl:=r.length
 have hx:xs[j]?=S (xs[j]'(ee a (aN hl.symm))):=dr _
 refine ah (r.get hx) λv b q=> ?_
 rw[dr a]at b
 cases b
 rw[Em];exact Zrr hx q
theorem ab2 (hx:rW x=ab)(U:rW y=ab)(D:VR C s.heap N x v)(H:VR C s.heap N y u)(Y:A.units+16<cLine)(q:Q (dc x y) s):wpAny C.M A (oneLt' ab v u) Q E s:=by
 refine ah (oH hx) λxs O hp=> ?_;subst O
 refine ah (oH U) λc O hq=> ?_;subst O
 refine bU D λa n vs O _ k o=> ?_;clear D;subst O
 refine bU H λb m us O _ jj r=> ?_;clear H;subst O
 refine aG (wpAny_cRoomFor (Rv Y) (aG (wpAny_callSpecialIfBound?_slot ⟨_,k,rfl⟩ ynF (o7 ynF ⟨_,k,rfl⟩ PySem.F.entry_list_lt (PySem.F.args_list_lt_2 _ _)
  (abL a b vs us n m _ _ _ _ (λj=>dK (xs.getD j .none) (c.getD j .none)) λj=>dc (xs.getD j .none) (c.getD j .none)) ⟨k,jj,λj h1 h2=> ?_,?_⟩))))
 . have l1:=o.length
   have l2:=r.length
   simp only[gO]at l1 l2
   have I:iR (xs.getD j .none)=true:=by
    rw[Em];exact Zrr (dr (by lia)) (hp _ (wO _))
   have L:iR (c.getD j .none)=true:=by
    rw[Em];exact Zrr (dr (by lia)) (hq _ (wO _))
   exact have q1:=o.getD (by simpa using h1);have q2:=r.getD (by simpa using h2);⟨ab0 I L q1 q2 (by lia),λ_=>ab1 I L q1 q2 (by lia)⟩
 . have e:=Mb xs c
   rw[o.length,r.length]at e
   exact Zrr e (sr q)
theorem ab3 (low:(d==sysModules)=ae):KdlSrc prog w "dict" d d es.length (λi v=>∃e,es[i]?=S e/\v=e.key) λh=>h.get? d=S (dictOf es b) where
 type:=λ_ hm=>⟨_,hm,rfl⟩
 there:=λ_ hm=>⟨jf hm,jf hm⟩
 keep:=λ_ _ hm hk=>hk d (.inl rfl) _ hm
 notList:=rfl
 notTuple:=rfl
 hint:=λ_ _ _ _ hm a=>kdl_hint_dict ⟨_,hm,rfl⟩ a
 iter:=λ_ _ c hm=>⟨_,_,λ_ _ a=>JE low hm a,JK c _ d (dx (jf hm)) es b,⟨⟨_,kU _ rfl,rfl,rfl⟩,jE _ hm⟩⟩
variable {F W:aO->Prop} {ι ag:Lay} {σ af:Hp}
theorem fX.keys:∀ {c:List _} {es:List _},fX C h N ι t c es->bI C h N (keysOf c) (es.map (·.key)):=by
 intro o
 induction o with
 |nil=>
  intro es r
  cases r;rfl
 |cons u r y=>
  obtain ⟨k,x⟩:=u
  intro es q
  refine kP q λe D O _ _ a _ b=> ?_;clear q;subst O
  exact⟨_,_,rfl,a,y b⟩
theorem iT.keys:∀ {c:List _} {es:List _},iT C h N t c es->bI C h N (keysOf c) (es.map (·.key)):=by
 intro o
 induction o with
 |nil=>
  intro es r
  cases r;rfl
 |cons u r y=>
  obtain ⟨k,x⟩:=u
  intro es q
  refine kP q λe D O _ _ a _ b=> ?_;clear q;subst O
  exact⟨_,_,rfl,a,y b⟩
theorem Mc {E}(u:A.handled=J){d}{es}{x}(low:(d==sysModules)=ae)(y:s.heap.get? d=S (dictOf es x))(hl:es.length<aE)(R)
 (q:∀h' c,(∀b o,s.heap.get? b=S o->h'.get? b=S o)->R (es.map (·.key)) (upd s h' c)):wpAny C.M A (collect (.ref d)) R E s:=kdu_collect (ab3 low) u y (fO hl) λh' c acc k it=>Zrr (by
 apply gP
 intro j
 rw[bw,eK]
 by_cases a:j<es.length
 . refine ah (it.2 j acc[j]! (by
    have:j<acc.size:=by rewrite[it.1];exact a
    rw[zJ this,getElem!_pos _ j this];rfl)) λe he r=> ?_
   have:j<acc.size:=by rewrite[it.1];exact a
   rw[he,zJ this]
   rw[getElem!_pos _ j _]at r
   rw[r];rfl
 . have D:acc[j]?=none:=ynJ (by rewrite[it.1];exact gg a)
   rw[eU (gg a),D];rfl:acc.toList=es.map _) (q h' c k)
theorem ab4 (H:A.handled=J)(i:aK C F ι σ s.heap){x}{xs}{v}(hx:XR C s.heap (NN F ι σ) ι x v)(e:rX σ x=S xs)(hl:xs.length<aE):
 ∃u,bI C s.heap (NN F ι σ) xs u/\∀(E:Value->aT->Prop) (R:List _->aT->Prop),(∀h' D,(∀b o,s.heap.get? b=S o->h'.get? b=S o)->R u (upd s h' D))->wpAny C.M A (collect v) R E s:=by
 have seq:∀(a:aO) (T:String) (n:Nat) (u:Array _),T= "list" \/T= "tuple" ->s.heap.get? a=S (seqObj T u n)->u.toList.length<aE->∀(E:Value->aT->Prop) (R:List _->aT->Prop),(∀h' D,(∀b o,s.heap.get? b=S o->h'.get? b=S o)->R _ (upd s h' D))->wpAny C.M A _ R E s:=λa T n u Y y hz E R q=>wpAny_collect_seq a Y y rfl rfl (λh' k=>q h' _ k) (fO (by simpa using hz))
 cases x with
 |v a=>cases a with
  |lst I=>
   cases e
   refine bU hx λa n u O _ y r=> ?_;clear hx;subst O
   exact⟨_,r,seq a _ n u (.inl rfl) y (Zrr r.length.symm hl)⟩
  |tup I=>
   cases e
   refine bU hx λa n u O _ y r=> ?_;clear hx;subst O
   exact⟨_,r,seq a _ n u (.inr rfl) y (Zrr r.length.symm hl)⟩
  |aU t ak=>
   cases e
   refine nZ hx λa n es O _ low y r _=> ?_;clear hx;subst O
   refine⟨_,r.keys,λE R q=>Mc H low y ?_ R q⟩
   rw[r.length.symm];simpa [keysOf]using hl
  |_=>exact aD e
 |ref n=>
  refine ah hx λp L O=> ?_;clear hx;subst O
  refine ah (oh e) λc Q e=> ?_
  cases c with
  |lst I=>
   exact dh (qF i L Q) λk u y r=>have U:=bJ.kz e r;⟨_,U,seq _ _ k u (.inl rfl) y (Zrr U.length.symm hl)⟩
  |aU t ak=>
   cases e
   obtain ⟨low,k,es,y,r,_⟩:=sf i L Q
   refine⟨_,r.keys,λE R q=>Mc H low y ?_ R q⟩
   rw[r.length.symm];simpa [keysOf]using hl
  |_=>exact aD e
theorem ab5 (hh:A.handled=J)(hr:A.units+64<cLine)(i:aK C F ι σ s.heap){m:Bool}{x y:X}{xs:List V}{v:Value}{Q:Value->aT->Prop}{E:Value->aT->Prop}(hx:XR C s.heap (NN F ι σ) ι x v)(e:rX σ x=S xs)(D:mL xs=ab)(hm:vD m (gm xs) σ=S (y,af))
 (q:∀r h' U ag,Step C F ι σ s.heap ag af h'->XR C h' (NN F ag af) ag y r->Q r (upd s h' U)):wpAny C.M A (call (.builtin "sorted") [v]) Q E s:=by
 have hl:=by
  unfold mL at D
  simp only[fY,decide_eq_true_eq]at D
  exact D.2
 refine ah (ab4 (A:=A.in1) hh i hx e hl) λvs r hc=> ?_
 have hz:=r.length
 have fin:∀(dec:Value->V),(∀v∈vs,VR C s.heap (NN F ι σ) (dec v) v)->∀(out:Array Value) b h' n U,out.toList.Perm vs->out.toList.map dec=gm xs->(∀b o,s.heap.get? b=S o->h'.get? b=S o)->s.heap.get? b=J->h'.get? b=S (seqObj "list" out n)->Q (.ref b) (upd s h' U):=by
  intro dec L out b h' n U hp he k fr Y
  have rs:bI C s.heap (NN F ι σ) (gm xs) out.toList:=by
   rw[he.symm]
   exact bI.abZ λv I=>L v (hp.mem_iff.mp I)
  unfold vD at hm
  cases m
  . simp only[yZ,if_false,jF,kY]at hm
    ((refine au hm λO ax=> ?_;clear hm);obtain rfl:=O;obtain rfl:=ax)
    have st:=ix i k
    refine q _ h' U ι st ?_
    show VR C h' (NN F ι σ) (.lst (gm xs)) _
    exact⟨_,n,out,rfl,r8 i fr,Y,st.kz rs⟩
  . simp only[if_true,jF,kY]at hm
    ((refine au hm λO ax=> ?_;clear hm);obtain rfl:=O;obtain rfl:=ax)
    have K:Kept s.heap h' (NN F ι σ) (NN F (ι++ [(b,b)]) (σ++ [.lst ((gm xs).map .v)])):=⟨λb o e _=>k b o e,λc o e q=>q.elim .inl λq=>by
     rcases r9 i.len q with q|rfl|rfl
     . exact .inr q
     . rw[fr]at e;exact aD e
     . rw[fr]at e;exact aD e⟩
    exact q _ h' U _ (vL i k fr fr ⟨rfl,n,out,Y,(rs.mono K).fm⟩) (tY i.len)
 have K:∀h':Heap,(∀b o,s.heap.get? b=S o->h'.get? b=S o)->Kept s.heap h' (NN F ι σ) (NN F ι σ):=λh' k=>⟨λb o e _=>k b o e,λ_ _ _ q=>q⟩
 unfold mL at D
 simp only[lY,fY,decide_eq_true_eq]at D
 rcases D with ⟨(D|D)|D,_⟩
 ·
  have L:=r.dec Ej D
  refine Ef xb (kd:=oneType') (bx (aN hz.symm) hl) (xd Ej D r) (by simpa using D) (hc E) (λh' U k h2=>⟨λQ' E' H=> ?_,λE' x' y' Q' ft xe H=> ?_⟩) (fin Ag λv I=>(L v I).1)
  . have hI:=intsAre_map vs λv I=>by
     refine au (L v I) λa b=> ?_
     cases fo:Ag v with
     |int n=>rw[fo]at a;((refine ao a λt O=> ?_;clear a);obtain rfl:=O);exact⟨n,t,rfl⟩
     |_=>rw[fo]at b;exact bT b
    match vs,hI,h2 with
    | [],_,h2=>simp at h2
    | [_],_,h2=>simp at h2
    |aiz::aiA::rest,hI,_=>
     rw[keyKind_ints hI]
     exact bA H
  . refine au (L x' ft) λa b=> ?_
    refine au (L y' xe) λc d=> ?_
    refine ao (L9 b) λi1 h1=> ?_
    refine ao (L9 d) λi2 h3=> ?_
    rw[h1]at a;rw[h3]at c;rw[h1,h3]at H
    ((refine ao a λt O=> ?_;clear a);obtain rfl:=O)
    ((refine ao c λu O=> ?_;clear c);obtain rfl:=O)
    rw[keyLt'_oneType _ _]
    exact oneLt_int H
 ·
  have L:=r.dec Ma D
  refine Ef abO (kd:=oneType') (bx (aN hz.symm) hl) (xd Ma D r) (by simpa using D) (hc E) (λh' U k h2=>⟨λQ' E' H=> ?_,λE' x' y' Q' ft xe H=> ?_⟩) (fin (Ei s.heap) λv I=>(L v I).1)
  . refine kas_kind (T:= .type "list") h2 (λv I=> ?_) (by decide) (by decide) H
    refine au (L v I) λa b=> ?_
    refine ah (oH b) λps he _=> ?_
    rw[he]at a
    ((refine bU a λl n us O _ Y _=> ?_;clear a);obtain rfl:=O)
    exact(Looks.ld (k _ _ Y)).andThen .now
  . refine au (L x' ft) λa b=> ?_
    refine au (L y' xe) λc d=> ?_
    rw[keyLt'_oneType _ _]
    exact ab2 (s:=(upd s h' U)) b d (a.mono (K h' k)) (c.mono (K h' k)) (by show A.units+1+1+16<cLine;exact Uo hr) H
 ·
  have L:=r.dec (dec:=s7 s.heap) (p:=iR) Ek D
  have Eo:∀v∈vs,∃(i j:Int) (a:aO) (n:Nat) (t u:Tok),s7 s.heap v= .tup [.int i,.int j]/\v= .ref a/\s.heap.get? a=S (seqObj "tuple" #[.int i t,.int j u] n):=by
   intro v I
   refine au (L v I) λa b=> ?_
   refine e9 (lp b) λi j he=> ?_
   rw[he]at a
   ((refine bU a λl n us O _ Y aF=> ?_;refine bo aF λv1 r1 e1 ax oI=> ?_;clear aF;refine bo oI λv2 r2 e2 jN e3=> ?_;clear oI;clear a);obtain rfl:=O;refine ao ax λt1 cu=> ?_;clear ax;obtain rfl:=cu;refine ao jN λt2 pH=> ?_;clear jN;obtain rfl:=pH)
   subst e3;subst e2
   have eu:us= #[.int i t1,.int j t2]:=qW.mp e1
   subst eu
   exact⟨i,j,l,n,t1,t2,he,rfl,Y⟩
  refine Ef xc (kd:=tuples' ab) (dec:=s7 s.heap) (bx (aN hz.symm) hl) (xd Ek D r) (by simpa using D) (hc E) (λh' U k h2=>⟨λQ' E' H=> ?_,λE' x' y' Q' ft xe H=> ?_⟩) (fin (s7 s.heap) λv I=>(L v I).1)
  . have ab6:∀l:List Value,(∀v∈l,v∈vs)->∃fs,KatTups h' l fs/\fs.length=l.length/\∀f∈fs,∃n t,f=Value.int n t:=by
     intro l
     induction l with
     |nil=>intro _;exact⟨[],.nil,rfl,by simp⟩
     |cons v l ih=>
      intro hm
      refine cD (ih λu hu=>hm u (by simp[hu])) λfs a b c=> ?_
      (refine BN (Eo v (hm _ (by simp))) λi j a' n t u _ O Y=> ?_;obtain rfl:=O)
      refine⟨.int i t::fs,.cons (k _ _ Y) rfl rfl rfl a,by simp[b],λf hf=> ?_⟩
      rcases cy.mp hf with rfl|hf
      . exact⟨_,_,rfl⟩
      . exact c f hf
    refine cD (ab6 vs λv I=>I) λfs a b c=> ?_
    refine kat_kind (T:= .type "int") a (by lia) (λf hf=> ?_) (by decide) H
    (refine e9 (c f hf) λn t O=> ?_;obtain rfl:=O)
    exact Looks.of_pure rfl
  . (refine BN (Eo x' ft) λi1 j1 a1 n1 t1 u1 d1 O mQ=> ?_;obtain rfl:=O)
    (refine BN (Eo y' xe) λi2 j2 a2 n2 t2 u2 d2 O o6=> ?_;obtain rfl:=O)
    rw[d1,d2]at H
    refine kat_lt (k _ _ mQ) rfl (k _ _ o6) rfl ?_
    refine kat_cons (EqAt.int_int _ _ _ _ _ _ _ _ ?_)
    by_cases e1:i1=i2
    . subst e1
      have:(i1==i1)=true:=by simp
      rw[this]
      refine kat_yes (kat_cons (EqAt.int_int _ _ _ _ _ _ _ _ ?_))
      by_cases e2:j1=j2
      . subst e2
        have:(j1==j1)=true:=by simp
        rw[this]
        refine kat_yes (kat_nil ?_)
        rw[Eb,if_pos rfl,if_pos rfl]at H;exact H
      . have:(j1==j2)=false:=by simpa using e2
        rw[this]
        refine kat_no (kat_one _ _ ?_)
        refine ng.ints _ _ _ _ _ _ _ _ ?_
        show Q' (decide (j1<j2)) _
        rw[Eb,if_pos rfl,if_neg e2]at H;exact H
    . have:(i1==i2)=false:=by simpa using e1
      rw[this]
      refine kat_no (oneLt_int ?_)
      rw[Eb,if_neg e1]at H;exact H
end
section
open PySem PySem.W PySem.Calls PyProof.Rows
theorem Md {a:Type}:∀ {l:List (Str×a)} {n:Str},n∈l.map (·.1)->∃v,l.lookup n=S v:=by
 intro b
 induction b with
 |nil=>exact λh=>nomatch h
 |cons p l c=>
  intro n h
  rw[k7]
  cases e:n==p.1 with
  |true=>exact⟨_,rfl⟩
  |false=>exact c ((cy.mp h).resolve_left λq=>by rw[q,wx]at e;exact ja e)
theorem ab7 {a:Type}{l:List (Str×a)}{n}(h:n∉l.map (·.1)):l.lookup n=none:=by
 cases e:l.lookup n with
 |none=>rfl
 |some v=>exact absurd (bX.mpr ⟨_,mem_of_lookup e,rfl⟩) h
theorem ab8 {x:Type}:∀ {ns:List Str} {a:List x},ns.Nodup->ns.length=a.length->(ns.filterMap λn=>((ns.zip a).lookup n).map λv=>(n,v))=ns.zip a:=λ{ns a} nd hl=>by
 have:∀(c:List _) (o:List x),c.length=o.length->(∀p∈c.zip o,(ns.zip a).lookup p.1=S p.2)->(c.filterMap λn=>((ns.zip a).lookup n).map λv=>(n,v))=c.zip o:=λc=>by
  induction c with
  |nil=>intro o _ _;rfl
  |cons m c r=>
   refine λo h k=>e9 (LG h.symm) λu o O=> ?_;subst O
   rw[yoK,k (m,u) cT ..];rewrite[r o (qR h) λp b=>k p (dA _ b)]
   rfl
 refine this ns a hl λp b=> ?_
 have y:((ns.zip a).map (·.1)).Nodup:=by rw[Ep (aN hl)];assumption
 generalize ns.zip a=l at b y
 induction l with
 |nil=>cases b
 |cons q l r=>
  have D:=kB.mp y
  rw[k7]
  rcases cy.mp b with rfl|b
  . rw[wx];rfl
  . have:=beq_eq_false_iff_ne.mpr λe=>D.1 (bX.mpr ⟨p,b,e⟩)
    rw[this];exact r b D.2
theorem ab9 {E}{s}(f)
 (hf:∀n d slots,f (n,d) slots=if(slots.lookup n).isNone=ab then pure (.yield (slots++ [(n,d)]))else pure (.yield slots)){r}:∀ {l:List _} {slots:List _} {Q:List (Str×Value)->aT->Prop},
 (∀p∈l,p.1∈slots.map (·.1))->(slots.map (·.1)++r.map (·.1)).Nodup->Q (slots++r) s->wpAny M A (forIn (l++r) slots f) Q E s:=by
 intro k
 induction k with
 |cons p l b=>
  intro slots Q c a q
  refine ao (Md (c _ cT ..)) λv e=> ?_
  rw[CT,zo _ _ _ _,hf _ _ _];exact Zrr e (aG (bA (b (λp o=>c p (dA _ o)) a q)))
 |nil=>
  intro slots Q _ a q
  rw[Er _]
  induction r generalizing slots with
  |nil=>rw[dg]at q;exact bA q
  |cons p r b=>
   rw[zo _ _ _ _,hf _ _ _];refine Zrr (ab7 ((qH.mp a).2.2 _ · p.1 (cT ..) rfl)) (aG (bA (b (λ_ h=>nomatch h) ?_ ?_)))
   . rw[bK,bM _ _ _];exact a
   . rw[bM _ _ _];exact q
structure Mf (p:Arguments)(ns:List Str):Prop where
 pos:p.posonlyargs= []
 Et:p.kwonlyargs= []
 va:p.vararg=J
 Eu:p.kwarg=J
 names:p.args.map (·.arg)=ns
 nd:ns.Nodup
theorem Mg {E}{s}{a}{c} [Decidable c]{t e}{Q:a->aT->Prop}(h:¬c)(k:wpAny M A e Q E s):wpAny M A (if c then t else e) Q E s:=by rw[if_neg h];exact k
theorem aca {s}{fd}{X Y Z}{b lZ k_}(O:Mf fd.params (X++ (Y++Z)))
 (U:(fd.defaults= .none/\lZ++k_= [])\/∃T o items n,fd.defaults= .ref T/\s.heap.get? T=S o/\o.data= .seq items n/\lZ++k_=items.toList)
 (a:(X++Y).length=b.length)(x:Y.length=lZ.length)(c:Z.length=k_.length):BindsTo s fd ⟨b,[]⟩ ((X++ (Y++Z)).zip (b++k_)):=by
 intro M A E Q q
 obtain ⟨pos,Et,va,Eu,names,nd⟩:=O
 unfold bindArgs
 generalize fd.params=p at*
 obtain ⟨po,ar,va',ko,kd,kw,df⟩:=p
 dsimp only at pos Et va Eu names
 subst pos Et va Eu
 have y:(Y++Z).length=(lZ++k_).length:=by rw[aY,aY,x,c];rfl
 have D:=by
  have:=Mi (r₁:=Z) (r₂:= []) a
  rwa[dg,List.zip_nil_right,dg,bM]at this
 have k:=Ep (aN a)
 have H:(lZ++k_).drop ((lZ++k_).length - (X++ (Y++Z)).length)=lZ++k_:=by refine Zrr (H6 (by rw[y.symm,aY (as:=X)];exact zQ ..)) ?_;rw[CC];rfl
 have I:(X++ (Y++Z)).length - (lZ++k_).length=X.length:=by rw[aY,y,KU _ _];rfl
 refine aG (bA (aG ((λR L=>by
  rcases U with ⟨e,u⟩| ⟨T,o,items,n,e,ho,hs,u⟩
  . exact Zrr e (aG (bA (bA (L _ u.symm))))
  exact Zrr e (wpAny_seqItems ho hs (L _ u.symm)):∀(R:Option (Array Value)->aT->Prop),(∀r,(r.getD #[]).toList=lZ++k_->R r s)->wpAny M A (seqItems? fd.defaults) R E s) _ λr hr=>Mg ?_ (Mg ?_ (aG ?_)))))
 . intro h
   have h:=of_decide_eq_true (dF.mp h).1
   rw[names,qG,Er,<-bM,aY,a]at h
   exact absurd h (qw.mpr (dO ..))
 . rw[names,qG,Er _,hr,H,I,yqK]
   intro h
   rw[xg.mpr λn hn=>by
    refine ao (Md (l:=(X++Y).zip b) (n:=n) (by rw[k];exact fg _ hn)) λv e=> ?_
    rw[D];exact Zrr e Bool.noConfusion]at h
   exact bT h
 . rw[names,qG,Er _,hr,H,I,yqM,Mi x];refine Zrr D (ab9 _ (λn d slots=>rfl) (λp hp=>Zrr k (ij _ (J3 hp).1)) ?_ ?_)
   . rw[k,Ep (aN c),bM _ _ _];exact nd
   . rw[(Mi a).symm];refine Zrr (bM _ _ _) (aG (bA (bA ?_)))
     rw[dg _];exact Zrr (ab8 nd (by rw[(bM _ _ _).symm,aY,a,c,aY];rfl)) q
noncomputable def isTup (e:aI):Bool:=e.ctorIdx==25
theorem acb {a}{env}(h:isTup a=ae):swappedStores [.Tuple b k c] a env=pure none:=by
 cases a<;>first|rfl|exact ja h
def s8:List aI->Option (List Str)
 | []=>S []
 |t::r=>(n_ t).bind λp=>(s8 r).map (p.1.1:: ·)
noncomputable def acd (a:List aI):Nat:=(a.head?.map (·.pos.line)).getD 0
def Ew (kd:Str->Option NameKind)(a b:List aI)(ns:List Str):Bool:=
 (a.length==2||a.length==3) &&b.length==a.length&&b.all notStar&&s8 a==S ns&&
 a.all (λt=>(n_ t).any λp=>kd p.1.1==S .local&&p.1.2.line==acd a) &&ns.eraseDups.length==ns.length&&
 !(b.all (foldedForSure 8)) && !(b.all (constantsAlone 8))
def Ah (kd:Str->Option NameKind)(a b:List aI):Bool:=
 (a.length==2||a.length==3) &&b.length==a.length&&b.all notStar&&
 a.any (λt=>(n_ t).any λp=>kd p.1.1 !=S .local)
theorem ace {kd:Str->Option NameKind}{l}:∀ {c:List _} {ns:List _},s8 c=S ns->(c.all λt=>(n_ t).any λp=>kd p.1.1==S .local&&p.1.2.line==l)=ab->
 (c.filterMap λt=>match t with| .Name id pos=>if kd id==S .local&&pos.line==l then S id else J|_=>J)=ns/\ns.length=c.length:=by
 intro k
 induction k with
 |nil=>
  intro ns h _
  cases h;exact⟨rfl,rfl⟩
 |cons t c o=>
  intro ns h ha
  refine kr h λO _ h=> ?_;obtain ⟨q,e⟩:=O;obtain ⟨x,p⟩:=q
  refine gX h λr hr O=> ?_;subst O
  cases e
  have hb:=dF.mp ha
  refine au (o hr hb.2) λa b=>⟨(List.filterMap_cons_some ?_).trans (congrArg _ a),congrArg _ b⟩
  exact if_pos hb.1
theorem Mj {a:List aI}{f:aI->Bool}(hf:∀e,notStar e=ab->f e=ae)(h:a.all notStar=ab):a.any f=false:=by
 rw[ypE]
 exact λe he=>ypI.mp (hf e (cF.mp h e he))
theorem filter_lt {c k:Type}(f:c->Option k):∀ {l:List c},(∃x∈l,f x=J)->(l.filterMap f).length<l.length:=by
 intro o
 induction o with
 |nil=>
  intro O;exact ah O λ_ h _=>by cases h
 |cons a l r=>
  intro O;refine ah O λx hx e=> ?_;clear O
  rw[yoK]
  cases q:f a with
  |none=>exact qS (List.length_filterMap_le f l)
  |some b=>
   rcases cy.mp hx with rfl|hx
   . rw[e]at q;exact aD q
   . have:=r ⟨x,hx,e⟩
     simp only[jG];exact q7 this
theorem s9 {a:Type _}{b}{x y:a}(h:b=ae):(if b=ab then x else y)=y:=if_neg (by exact Zrr h gq)
theorem acf {y D}{env}{kd}{ns}(hk:env.scope.kind= .function)(he:∀x,env.kindOf x=kd x)(h:Ew kd ts H ns=ab):
 swappedStores [.Tuple ts k y] (.Tuple H k' D) env=pure (S ns)/\ns.length=ts.length/\s8 ts=S ns:=by
 obtain rfl:env.kindOf=kd:=funext he
 unfold Ew at h
 simp only[fY,lY,beq_iff_eq,oB]at h
 refine au h λO I=>au O λL Q=>au L λU Y=>au U λjN h5=>au jN λpH q=>au pH λo h3=>au o λc h2=>au (ace q h5) λa b=>⟨?_,b,q⟩
 have r:=a
 have u:(ns.length !=ts.length||ns.eraseDups.length !=ns.length)=false:=by rw[Y];simp[b]
 rw[<-r]at u
 exact(s9 (by
  have:env.blockKind= .function:=by unfold Env.blockKind;rw[hk];rfl
  rw[this,h2]
  rcases c with c|c<;>simp[c])).trans ((s9 (Mj (λe he=>by cases e<;>first|rfl|exact bT he) h3)).trans ((s9 u).trans ((s9 Q).trans ((s9 I).trans (congrArg (λx=>pure _) r)))))
theorem acg {c o}{env}{kd}(hk:env.scope.kind= .function)(he:∀x,env.kindOf x=kd x)(h:Ah kd ts r=ab):
 swappedStores [.Tuple ts k c] (.Tuple r I o) env=pure none:=by
 obtain rfl:env.kindOf=kd:=funext he
 unfold Ah at h
 simp only[fY,lY,beq_iff_eq]at h
 exact au h λO u=>au O λb y=>au b λa D=>(s9 (by
  have:env.blockKind= .function:=by unfold Env.blockKind;rw[hk];rfl
  rw[this,D]
  rcases a with a|a<;>simp[a])).trans ((s9 (Mj (λe he=>by cases e<;>first|rfl|exact bT he) y)).trans (if_pos (Kh.mpr (.inl (bne_iff_ne.mpr (dx (by
  refine filter_lt _ (ah (Ai.mp u) λt H q=>⟨t,H,ah ((uQ ..).mp q) λO _ q=> ?_⟩);obtain ⟨b,e⟩:=O;cases e
  exact if_neg λz=>bne_iff_ne.mp q (beq_iff_eq.mp (dF.mp z).1))))))))
theorem Aj:∀ {is:List _} {xs:List X} {ρ ρ':Env},gZ is xs ρ=S ρ'->is.length=xs.length:=by
 intro a
 induction a with
 |nil=>
  intro xs _ _ h
  cases xs with
  |nil=>rfl
  |cons _ _=>exact aD h
 |cons _ is b=>
  intro xs _ _ h
  cases xs with
  |nil=>exact aD h
  |cons _ xs=>exact congrArg _ (b h)
theorem ach:∀ {is:List _} {xs:List X} {ρ ρ':Env},j∉is->gZ is xs ρ=S ρ'->gZ is xs (ρ.set j (S y))=S (ρ'.set j (S y)):=by
 intro b
 induction b with
 |nil=>
  intro xs _ _ _ h
  cases xs with
  |nil=>cases h;rfl
  |cons _ _=>exact aD h
 |cons i is c=>
  intro xs ρ _ a h
  cases xs with
  |nil=>exact aD h
  |cons x xs=>
   have a:=not_or.mp λh=>a (cy.mpr h)
   show gZ is xs _=_
   exact Zrr (uo _ _ a.1) (c a.2 h)
theorem aci:∀ {is:List _} {xs:List X} {ρ ρ':Env},gZ is xs ρ=S ρ'->gZ (is++ [j]) (xs++ [y]) ρ=S (ρ'.set j (S y)):=by
 intro a
 induction a with
 |nil=>
  intro xs _ _ h
  cases xs with
  |nil=>cases h;rfl
  |cons _ _=>exact aD h
 |cons i is b=>
  intro xs ρ _ h
  cases xs with
  |nil=>exact aD h
  |cons x xs=>exact b h
theorem acj:∀ {is:List _} {xs:List X} {ρ:Env},is.length=xs.length->∃ρ',gZ is xs ρ=S ρ':=by
 intro a
 induction a with
 |nil=>
  intro xs ρ h
  rw[qA h.symm];exact⟨ρ,rfl⟩
 |cons i is b=>
  intro xs ρ h
  refine e9 (LG h.symm) λx xs O=> ?_;subst O
  exact b (qR h)
theorem ack:∀ {is:List _} {xs:List X} {ρ ρ':Env},is.Nodup->gZ is xs ρ=S ρ'->gZ is.reverse xs.reverse ρ=S ρ':=by
 intro b
 induction b with
 |nil=>
  intro xs _ _ _ h
  cases xs with
  |nil=>exact h
  |cons _ _=>exact aD h
 |cons i is c=>
  intro xs ρ ρ' nd h
  cases xs with
  |nil=>exact aD h
  |cons x xs=>
   have nd:=kB.mp nd
   rw[xh,xh]
   have:∃a,gZ is xs ρ=S _:=acj (Aj h)
   refine ao this λa e=> ?_;rw[aci (c nd.2 e)];exact Zrr (ach nd.1 e).symm h
variable {C:CX} {A:Around} {F W N:aO->Prop} {ι ag gK:Lay} {σ af gp aC bj:Hp} {s:aT} {h h' ky:Heap} {env:PySem.Env} {sl:SL} {ρ ρ':Env}
theorem acn (ds:iV sl)(hW:∀b,W b->F b)(ok:cQ F env){Q}{E}:∀ {ns:List _} {is:List _} {xs:List X} {a:List _} {s:aT} {ρ:Env},
 ns.map (sl.lookup ·)=is.map S->(∀x∈ns,ig env W x)->aK C F ι σ s.heap->cx C s.heap (NN F ι σ) ι env sl ρ->bJ C s.heap (NN F ι σ) ι xs a->gZ is xs ρ=S ρ'->
 (∀h' k,cW C F W ι σ s.heap ι σ h'->cx C h' (NN F ι σ) ι env sl ρ'->Q () (upd s h' k))->wpAny C.M A (assignInOrder (ns.map (bindName env ·)) a) Q E s:=by
 intro o
 induction o with
 |nil=>
  intro is xs a s ρ h _ i fr hx e q
  cases Mk.mp h.symm
  cases xs with
  |cons x xs=>exact aD e
  |nil=>
   cases e;exact bA (q _ _ (.refl i W) fr)
 |cons x ns r=>
  intro is xs a s ρ h so i fr hx hb q
  cases is with
  |nil=>cases h
  |cons j is=>
  have h:=iy h
  cases xs with
  |nil=>exact aD hb
  |cons y U=>
   refine bo hx λv Y O u D=> ?_;clear hx;subst O
   exact aG (jH (wc ok i fr ds h.1 (so x (.head _)) u hW λaL bC c H=>r h.2 (λz hm=>so z (.tail _ hm)) c.inv H (c.fm hW D) hb λbF de I L=>q _ _ (c.trans I hW) L))
theorem bJ.reverse {ι}:∀ {xs:List X} {c:List _},bJ C h N ι xs c->bJ C h N ι xs.reverse c.reverse:=by
 intro k
 induction k with
 |nil=>
  intro _ r
  cases r;rfl
 |cons x xs o=>
  intro _ O;refine bo O λv q e a b=> ?_;clear O
  subst e
  rw[xh];exact Zrr xh ((o b).append ⟨v,[],rfl,a,rfl⟩)
theorem aco (h:ph sl c is):∀ {ns:List _},s8 c=S ns->ns.map (sl.lookup ·)=is.map S/\∀x∈ns,∃p,.Name x p∈c:=by
 induction h with
 |nil=>intro ns h;cases h;exact⟨rfl,λ_ h=>nomatch h⟩
 | @cons x p es i is hl _ o=>
  intro ns a
  refine kr a λO _ a=> ?_;obtain ⟨u,e⟩:=O;refine gX a λr hr O=> ?_;subst O
  cases e
  have k:=o hr
  refine⟨by rw[dz,hl,k.1];rfl,λy b=> ?_⟩
  rcases cy.mp b with rfl|b
  . exact⟨_,cT ..⟩
  exact(k.2 y b).imp λq m=>dA _ m
theorem acp (hh:A.handled=J){r D}{k L}{O H pos}{is}{xs}(he:lU C A F ι σ s (spliced (backTo H (starEach D env))) xs aC)(ok:cQ F env)(i:aK C F ι σ s.heap)(fr:cx C s.heap (NN F ι σ) ι env sl ρ)(ds:iV sl)
 (hn:sF sl r is=ab)(so:∀x p,.Name x p∈r->ig env W x)(hW:∀b,W b->F b)(hb:gZ is xs ρ=S ρ')(hl:xs.length<aE)
 (hw:swappedStores [.Tuple r k O] (.Tuple D L H) env=pure J\/∃ns,swappedStores [.Tuple r k O] (.Tuple D L H) env=pure (S ns)/\s8 r=S ns/\is.Nodup/\(is.length=2\/is.length=3)):
 SV C A F W env sl ι σ s (exec (.Assign [.Tuple r k O] (.Tuple D L H) pos) env) .next ρ' aC:=by
 intro Q E q
 have jO:=Aj hb
 have Ml:∀(R:Value->aT->Prop),(∀c u U o a,Step C F ι σ s.heap o aC u->bJ C u (NN F o aC) o xs c->IsTup u a c.toArray->R (.ref a) (upd s u U))->wpAny C.M A (eval (.Tuple D L H) env) R E s:=λR hR=>Jr (he _ _ λc u U o y hx=>have st:=ix (h':=u.push {cls:= .type "tuple",data:= .seq c.toArray}) y.inv (eP _ _);⟨by rw[hx.length.symm];exact fO hl,hR c _ U o _ (y.trans st) (st.fm hx) ⟨_,qx _ _ rfl,rfl,0,rfl⟩⟩)
 rcases hw with hw| ⟨ns,hw,hs,nd,h23⟩
 . exact Assign_Tuple (Ml _ λc u U o a y hx Y=>dp (za (env:=env) (qM hn)) λn1 n2 n3=>JS hh Y (by rw[n1,(by rw[vZ];rw[hx.length.symm];rw[jO];rfl:c.toArray.size=is.length)];rfl) n2 λbF ex=>have I:=ix y.inv (zb ex);have st:=y.trans I;CJ ds hW ok (qM hn) so I.inv (fr.step ok i st) (I.fm hx) hb λh₃ qu fN k6=>q .next h₃ qu o ((st.w W).trans fN hW) k6 rfl) (C_ env (.Tuple D L H) r k O pos.line) hw
 exact au (aco (qM hn) hs) λa1 a2=>Assign_Tuple_swapped (Ml _ λc u U o a y hx Y=>Zrr (by
  have:=congrArg List.length a1
  simp only[aq]at this
  rw[this,jO,hx.length];rfl:ns.length=c.toArray.size) (unpackItems_tuple hh Y λbF ex=>have I:=ix y.inv (zb ex);have st:=y.trans I;acn ds hW ok (by rw[ypQ,a1,ypQ];rfl) (λx hx=>ao (a2 x (oF.mp hx)) λp hp=>so x p hp) I.inv (fr.step ok i st) (I.fm hx).reverse (ack nd hb) λh₃ qu fN k6=>q .next h₃ qu o ((st.w W).trans fN hW) k6 rfl)) (C_ env (.Tuple D L H) r k O pos.line) hw
structure jP (A:Around)(d:Nat):Prop where
 handled:A.handled=J
 depth:A.depth+2*d+2<recursionLimit
 units:A.units+8*d+100<cLine
theorem jP.deeper (r:jP A (d+1))(env):jP (A.deeper env) d:=
 ⟨r.handled,by have:=r.depth;show A.depth+1+2*d+2<_;exact Sz this,by have:=r.units;show A.units+3+8*d+100<_;exact SA this⟩
theorem jP.less (r:jP A d)(h:e<=d):jP A e:=⟨r.handled,by have:=r.depth;exact Ua h this,by have:=r.units;exact Ub h this⟩
noncomputable def Mm:V->Value->Bool
 | .none,.none=>ab
 | .int i,.int j _=>i==j
 |_,_=>ae
def uR:List V->List Value->Bool
 | [],[]=>ab
 |x::r,y::q=>Mm x y&&uR r q
 |_,_=>ae
theorem acq {x}{y}(e:Mm x y=ab):VR C h N x y:=by
 cases x with
 |none=>cases y<;>first|rfl|exact bT e
 |int i=>cases y<;>first|exact⟨_,by rewrite[eq_of_beq e];rfl⟩|exact bT e
 |_=>exact bT e
theorem acr:∀ {a:List V} {b:List _},uR a b=ab->bI C h N a b:=by
 intro c
 induction c with
 |nil=>
  intro b e
  cases b with
  |nil=>rfl
  |cons _ _=>exact bT e
 |cons x r k=>
  intro b e
  cases b with
  |nil=>exact bT e
  |cons y q=>
   exact have e:=dF.mp e;⟨y,q,rfl,acq e.1,k e.2⟩
theorem Ex:∀ {a:List V} {b:List _},uR a b=ab->a.length=b.length:=by
 intro c
 induction c with
 |nil=>
  intro b e
  cases b with
  |nil=>rfl
  |cons _ _=>exact bT e
 |cons x r k=>
  intro b e
  cases b with
  |nil=>exact bT e
  |cons y q=>exact congrArg _ (k (dF.mp e).2)
structure FnAt (C:CX)(fn:Fn)(a:aO)(fd:FuncData)(ns:List Str)(body:List PySem.Stmt)(sl:SL)(items:List Value):Prop where
 obj:∃oc od Ey,C.K.lookup a=S ⟨oc,od,.func fd,Ey⟩
 cd:codeIn C.K fd.code fd.qualname=ab
 body:fd.body= .stmts body
 Mn:fd.closure= []
 glob:fd.globals=mainGlobals
 blt:fd.builtins=builtinsNs
 co:fd.scope.isCoroutine=ae
 gen:fd.scope.isGenerator=ae
 kind:fd.scope.kind= .function
 simple:Mf fd.params ns
 len:ns.length=fn.lM
 kinds:∀x∈ns,fd.scope.names.lookup x=S .local\/fd.scope.names.lookup x=S .cell
 dflt:(fd.defaults= .none/\items= [])\/∃T o arr n,fd.defaults= .ref T/\C.K.lookup T=S o/\o.data= .seq arr n/\items=arr.toList
 defs:uR fn.defs items=ab
 Mo:fn.defs.length<=fn.lM
 slots:∀x i,sl.lookup x=S i->(fd.scope.names.lookup x=S .local\/fd.scope.names.lookup x=S .cell)/\(∀y,i<fn.lM->ns[i]?=S y->x=y)
 dist:iV sl
theorem acs {x}:∀ {bs:List _} {m:Str->Option _},x∉bs.map (·.1)->bindL kd bs m x=m x:=by
 intro a
 induction a with
 |nil=>
  intro _ _
  exact rfl
 |cons c bs b=>
  intro m hn
  have hn:=not_or.mp λh=>hn (cy.mpr h)
  unfold bindL
  rw[b hn.2]
  split
  . exact if_neg hn.1
  rfl
theorem acu (hk:kd x=S .local):∀ {bs:List _} {m:Str->Option _},(bs.map (·.1)).Nodup->(x,v)∈bs->bindL kd bs m x=S v:=by
 intro a
 induction a with
 |nil=>
  intro _ _ hm
  exact nomatch hm
 |cons c r b=>
  intro m nd hm
  have nd:=kB.mp nd
  unfold bindL
  rcases cy.mp hm with e|hm
  . cases e
    rw[if_pos hk,acs nd.1];exact if_pos rfl
  exact b nd.2 hm
theorem acv {x}:∀ {bs:List _} {m:Str->Option _},x∉bs.map (·.1)->bindC kd bs m x=m x:=by
 intro a
 induction a with
 |nil=>
  intro _ _
  exact rfl
 |cons c bs b=>
  intro m hn
  have hn:=not_or.mp λh=>hn (cy.mpr h)
  unfold bindC
  rw[b hn.2]
  split
  . rfl
  exact if_neg hn.1
theorem acw (hk:kd x=S .cell):∀ {bs:List _} {m:Str->Option _},(bs.map (·.1)).Nodup->(x,v)∈bs->bindC kd bs m x=S v:=by
 intro a
 induction a with
 |nil=>
  intro _ _ hm
  exact nomatch hm
 |cons c r b=>
  intro m nd hm
  have nd:=kB.mp nd
  unfold bindC
  rcases cy.mp hm with e|hm
  . cases e
    refine Zrr (if_neg (by lia)) ?_;rw[acv nd.1];exact if_pos rfl
  exact b nd.2 hm
theorem slot_of {l:List _}{i}{x}(h:slot l i=S x):l[i]?=S (S x):=by
 unfold slot at h
 cases q:l[i]? with
 |none=>rw[q]at h;exact aD h
 |some o=>rw[q]at h;exact congrArg _ h
theorem Mp {a:Type}{l m:List a}{j}{x}(h:(l++m)[j]?=S x):l[j]?=S x\/∃i,j=l.length+i/\m[i]?=S x:=by
 rcases j.lt_or_ge _ with c|c
 . exact .inl (by rwa[eQ c]at h)
 . refine ao (sS c) λi O=> ?_;subst O
   exact .inr ⟨i,rfl,by rwa[iE (dO ..),l7]at h⟩
theorem acx {a:Type}{l m:List a}{j:Nat}{x}(h:l[j]?=S x):(l++m)[j]?=S x:=by
 rw[eQ (dk.mp h).1];exact h
theorem acy {a:Type}{l m:List a}{n j}{x}(e:l.length=n)(h:m[j]?=S x):(l++m)[n+j]?=S x:=by
 rw[e.symm,iE (dO ..),l7 _ _];exact h
theorem acz {ns:List Str}{a d}(k:a<=ns.length)(o:ns.length<=a+d)(c:d<=ns.length):∃X Y Z,ns=X++ (Y++Z)/\(X++Y).length=a/\Y.length=a+d - ns.length/\Z.length=d - (a+d - ns.length):=by
 have hr:=Nat.sub_le_of_le_add (n4 .. ▸iD k d)
 have b:(ns.drop (ns.length - d)).length=d:=by rw[qX,yqC c];rfl
 refine⟨_,_,(ns.drop (ns.length - d)).drop (a+d - ns.length),by rw[iZ _ _,iZ _ _];rfl,?_,by rw[ie,b,jI hr];rfl,by rw[qX,b];rfl⟩
 rw[aY,ie,ie,b,jI hr,jI (jA ..)]
 clear hr b
 exact S9 o c
theorem acA {ds}{k j}{x}(ha:bJ C h N ι as u)(H:bI C h N ds D)(e:slot (as.map S++ds.map (λa=>S (.v a))++ .replicate k J) j=S x):
 ∃v,(u++D)[j]?=S v/\XR C h N ι x v:=by
 rcases Mp (slot_of e)with e| ⟨i,_,e⟩
 . rcases Mp e with b| ⟨i,rfl,b⟩
   . rw[bw]at b
     refine gX b λy c q=> ?_
     cases q
     exact ah (ha.get c) λv o r=>⟨v,acx o,r⟩
   . rw[bw]at b
     refine gX b λy c q=> ?_
     cases q
     exact ah (H.get c) λv o r=>⟨v,acy (by rw[aq _,ha.length];rfl) o,r⟩
 . rw[Ak]at e
   split at e<;>(first|exact aD e|cases e)
structure Framed (C:CX)(F:aO->Prop)(ι:Lay)(σ:Hp)(fd:FuncData)(sl:SL)(ρ:Env)(h aL:Heap)(env:PySem.Env)(G:aO->Prop):Prop where
 kd:∀x,env.kindOf x=fd.scope.names.lookup x
 keep:∀b o,h.get? b=S o->aL.get? b=S o
 fresh:∀b,G b->h.get? b=J
 inv:aK C (λb=>F b\/G b) ι σ aL
 ok:cQ (λb=>F b\/G b) env
 fr:cx C aL (NN (λb=>F b\/G b) ι σ) ι env sl ρ
 so:∀x,(env.kindOf x=S .local\/env.kindOf x=S .cell)->ig env (λb=>False\/G b) x
theorem acB {fn}{a}{fd}{ns}{body:List PySem.Stmt}{sl}{items}(K:FnAt C fn a fd ns body sl items){as}{I D}{ds}{k}
 (i:aK C F ι σ s.heap)(hx:bJ C s.heap (NN F ι σ) ι as I)(hd:∀h N,bI C h N ds D)(hl:ns.length=(I++D).length){env:PySem.Env}{dS}{qual}{func}
 (L:env=newEnv fd.scope s.heap.objs.size fd.globals (cellsFrom (s.heap.objs.size+1) fd.scope.names []) qual func fd.code J fd.builtins)
 (u:InCallC s env.locals (bindL env.kindOf (ns.zip (I++D)) λ_=>J) env.cells (bindC env.kindOf (ns.zip (I++D)) λ_=>J) dS):
 ∃G,Framed C F ι σ fd sl (as.map S++ds.map (λa=>S (.v a))++ .replicate k J) s.heap dS.heap env G:=by
 (refine dh u.done λaL Mq O keep=> ?_;obtain rfl:=O)
 have Y:∀x,env.kindOf x=fd.scope.names.lookup x:=λx=>by rw[L];rfl
 have Mr:env.locals=s.heap.objs.size:=by rw[L];rfl
 have fresh:∀b,(b=env.locals\/∃n,env.cells.lookup n=S b)->s.heap.get? b=none:=λb hb=>by
  rcases hb with rfl| ⟨n,hn⟩
  . rw[Mr];exact gL _
  . have:=u.above n b (mem_of_lookup hn)
    rw[Mr]at this
    exact Cb (b_ this)
 refine au (uc i keep fresh λb hb=>by
  rcases hb with rfl| ⟨n,hn⟩
  . refine iO u.toInCall.ns λo _ _ ho _=> ?_
    exact⟨o,ho⟩
  . refine ah (u.cell n b hn) λo ho _=> ?_
    exact⟨o,ho⟩) λC6 uv=> ?_
 have nd:((ns.zip (I++D)).map (·.1)).Nodup:=by rw[Ep (aN hl)];exact K.simple.nd
 have start:∀ {x:Str} {j:Nat} {val:X},sl.lookup x=S j->slot (as.map S++ds.map (λa=>S (.v a))++List.replicate k J) j=S val->
  ∃v,(x,v)∈ns.zip (I++D)/\XR C aL (NN (λb=>F b\/(b=env.locals\/∃n,env.cells.lookup n=S b)) ι σ) ι val v:=λ{x j val} Q U=>by
  refine ah (acA (hx.mono uv λ_ _ z=>z) (hd _ _) U) λv e r=> ?_
  have c:j<ns.length:=by rw[hl];exact(dk.mp e).1
  have hn:=dr c
  rw[<-(K.slots x j Q).2 _ (by rw[K.len.symm];exact c) hn]at hn
  exact⟨v,eX (List.getElem?_zip_eq_some.mpr ⟨hn,e⟩),r⟩
 refine⟨_,Y,keep,fresh,C6,⟨by rw[L];exact K.kind,by rw[L];exact K.glob,by rw[L];exact K.blt,.inr (.inl rfl),λx c H=> .inr (.inr ⟨x,H⟩),λx y c hx hy=>name_of_addr u.apart (mem_of_lookup hx) (mem_of_lookup hy),λx c H=>fM (u.above x c (mem_of_lookup H))⟩,
  ⟨⟨_,u.toInCall.ns,λx j Q hk val U=> ?_⟩,λx j Q hk=> ?_⟩,λx hk=>hk.imp (λz=>⟨z,.inr (.inl rfl)⟩) λz=>⟨z,λc H=> .inr (.inr ⟨x,H⟩)⟩⟩
 . refine ah (start Q U) λv m r=> ?_
   exact⟨v,acu hk nd m,r⟩
 . have H:env.kindOf x=S .cell:=by
    rw[Y]at hk ⊢
    exact(K.slots x j Q).1.resolve_left λz=>by rw[z]at hk;rcases hk with q|q<;>cases q
   refine ao (ug.mp (show(env.cells.lookup x).isSome=ab by rw[L];exact cellsFrom_some _ _ _ (.inl (by rw[(Y _).symm];exact H)))) λc hJ=> ?_
   refine⟨c,_,hJ,u.cell x c hJ,λval U=> ?_⟩
   refine ah (start Q U) λv m r=> ?_
   exact⟨v,acw H nd m,r⟩
theorem acC {cl}{fn}{a}{fd}{ns}{body}{sl}{items}{d}(K:FnAt C fn a fd ns body sl items)
 (hb:∀(A:Around) (env:PySem.Env),jP A d->(∀x,env.kindOf x=fd.scope.names.lookup x)->BodyOk C A env sl body λρ σ=>aZ cl fn.body ρ σ)
 (H:A.depth<recursionLimit)(hr:∀env,jP (A.deeper env) d){as}{c}{x}(i:aK C F ι σ s.heap)(hx:bJ C s.heap (NN F ι σ) ι as c)(e:n9 cl fn as σ=S (x,af)){R}
 (q:∀v h' tk ag,Step C F ι σ s.heap ag af h'->XR C h' (NN F ag af) ag x v->R (.ok (.ret v)) (upd s h' tk)):
 codeAny C.M A (.call (.ref a) ⟨c,[]⟩) R s:=by
 have I:=λb o e=>i.base b o (C.X b o e)
 refine QD K.obj λoc od Ey r=>kr e λρ u e=>Qx e λfl ρ' cJ he e=> ?_
 unfold frameOf at u
 split at u
 case isFalse=>exact aD u
 case isTrue D=>
 cases u
 rw[<-K.len,hx.length,Ex K.defs]at D
 refine bU (acz D.1 D.2 (by rw[K.len,(Ex K.defs).symm];exact K.Mo)) λX Y Z L l1 l2 l3=> ?_
 have eD:items=items.take (c.length+items.length - ns.length)++items.drop (c.length+items.length - ns.length):=(iZ ..).symm
 have hl:ns.length=(c++items.drop (c.length+items.length - ns.length)).length:=by rw[aY,qX,l3.symm,l1.symm,aY.symm,bM _ _ _,L.symm];rfl
 have bt:=by
  have:=aca (s:=s) (lZ:=items.take (c.length+items.length - ns.length)) (k_:=items.drop (c.length+items.length - ns.length)) (L▸K.simple) ?_ l1
   (by rw[l2,ie];exact(jI (Nat.sub_le_iff_le_add.mpr (n4 items.length c.length▸iD D.1 _))).symm) (by rw[l3,qX];rfl)
  . rwa[<-L]at this
  . refine Zrr eD.symm (K.dflt.imp id λz=>tN z λT o arr n z1 z2 z3 z4=> ?_);clear z
    exact⟨T,o,arr,n,z1,I _ _ z2,z3,z4⟩
 have t_:∀h N,bI C h N (fn.defs.drop (as.length+fn.defs.length - fn.lM)) (items.drop (c.length+items.length - ns.length)):=λh N=>by
  rw[hx.length,Ex K.defs,K.len];exact(acr K.defs).drop _
 refine codeAny_call_function H (I _ _ r) rfl K.co K.gen K.body (codeRec_of I K.cd) (bt _ _ _ _ ?_)
 rw[K.Mn]
 refine wpAny_newFunctionEnv_cells K.kind (λp hp=>(K.kinds p.1 (J3 hp).1).imp id λz=>⟨z,cellsFrom_some _ _ _ (.inl z)⟩) λenv rg dS Q=>⟨(C.T.nolimit.keeps i.base).keeps Q.toInCall.keep,codeAny_func (ao (acB K i hx t_ hl (k:=fn.H8 - fn.lM) rg Q) λG f=>dh Q.done λaL Mq O _=> ?_)⟩;subst O
 refine hb (A.deeper env) env (hr env) f.kd (λb=>F b\/G b) (λb=>False\/G b) f.ok (λb z=>z.elim False.elim .inr) f.so _ σ (upd s aL Mq) ι fl ρ' cJ f.inv f.fr he _ _ λfl' bF de eJ bh jJ hf=>au (wb bh.inv (λ_ _ z _=>z) (λb hF U=>by
  refine au (i.frames b hF) λ_ aF=>ao aF λo r=> ?_;clear aF
  rw[f.fresh b U]at r;exact aD r)) λsM acE=> ?_
 have st:=(JU f.keep f.fresh bh (λ_ _ z _=>z) sM).none
 cases fl with
 |next=>
  cases e
  cases (hf)
  exact q .none bF de eJ st rfl
 |ret y=>
  cases e
  refine ah hf λv O hv=> ?_;clear hf;subst O
  exact q v bF de eJ st (hv.mono acE λ_ _ z=>z)
theorem acF:∀ {as:List X} {a:List V},fA as=S a->a.map .v=as:=by
 intro c
 induction c with
 |nil=>exact λh=>by cases h;rfl
 |cons x as k=>
  intro a h
  cases x with
  |ref _=>exact aD h
  |v b=>
   refine gX h λr hr O=> ?_;subst O
   exact congrArg _ (k hr)
theorem uS (b):¬own [] [] b:=(iO · λn _ _ e _=>aD e)
theorem Ms (i:aK C F ι σ h):aK C (NN F ι σ) [] [] h where
 len:=rfl
 base:=i.base
 cells:=λn p c e _=>aD e
 apart:=λn m p q c d e _ _ _ _ _=>aD e
 fresh:=λb q=>absurd q (uS b)
 frames:=λb q=>q.elim (i.frames b) λq=>⟨(i.fresh b q).1,vJ i q⟩
theorem acG:∀b,NN (NN F ι σ) [] [] b->NN F ι σ b:=λb q=>q.elim id (absurd · (uS b))
theorem acH (h):Kept h h (NN F ι σ) (NN (NN F ι σ) [] []):=⟨λ_ _ e _=>e,λb _ _ q=>acG b q⟩
theorem Mu (i:aK C F ι σ h)(st:Step C (NN F ι σ) [] [] h ag af h'):Step C F ι σ h ι σ h':=ix i λb o e=>st.keep b o e (uS b)
theorem Mv (_:Step C (NN F ι σ) [] [] h ag af h'){a}{v}(r:VR C h' (NN (NN F ι σ) ag af) a v):VR C h' (NN F ι σ) a v:=
 r.mono ⟨λ_ _ e _=>e,λ_ _ _ q=> .inl q⟩
structure rh (C:CX)(cl:Cl)(fa:Nat->aO)(d:Nat):Prop where
 call:∀(A:Around),jP A d->∀f as σ x af,cl.call f as σ=S (x,af)->∀(F:aO->Prop) (ι:Lay) (s:aT) (vs:List Value) (R:Result->aT->Prop),aK C F ι σ s.heap->bJ C s.heap (NN F ι σ) ι as vs->
  (∀v h' tk ag,Step C F ι σ s.heap ag af h'->XR C h' (NN F ag af) ag x v->R (.ok (.ret v)) (upd s h' tk))->codeAny C.M A (.call (.ref (fa f)) ⟨vs,[]⟩) R s
 new:∀(A:Around),jP A d->∀c as σ x af,cl.new c as σ=S (x,af)->∀(F:aO->Prop) (ι:Lay) (s:aT) (vs:List Value) (R:Result->aT->Prop),aK C F ι σ s.heap->bJ C s.heap (NN F ι σ) ι as vs->
  (∀v h' tk ag,Step C F ι σ s.heap ag af h'->XR C h' (NN F ag af) ag x v->R (.ok (.ret v)) (upd s h' tk))->codeAny C.M A (.call (.ref (C.cls c)) ⟨vs,[]⟩) R s
set_option genInjectivity false in
structure Mw where
 fa:Nat->aO
 fd:Nat->FuncData
 ns:Nat->List Str
 body:Nat->List PySem.Stmt
 sl:Nat->SL
 items:Nat->List Value
structure EA (C:CX)(P:Prog)(D:Mw):Prop where
 fns:∀f fn,P.fns[f]?=S fn->FnAt C fn (D.fa f) (D.fd f) (D.ns f) (D.body f) (D.sl f) (D.items f)
 init:∀c f,P.init[c]?=S f->findIn C.K (.ref (C.cls c)) "__init__" =S (S (.ref (D.fa f)))/\typeIn C.K (.ref (D.fa f))=S (.type "function")/\makesIn C.K (C.cls c)=ab
theorem Mx {x:X}{o:Option b}(h:x= .v .none->OB o P):OB (match x with| .v .none=>o|_=> .none) P:=by
 cases x with
 |ref=>exact fW
 |v a=>cases a<;>first|exact h rfl|exact fW
theorem My {x y:Option a}(h:OB x P)(k:OB y P):OB (match b with|true=>x|false=>y) P:=by
 cases b
 . exact k
 exact h
def CO (C:CX)(A:Around)(F:aO->Prop)(ι:Lay)(σ:Hp)(s:aT)(cd:Code)(p:X×Hp):Prop:=
 ∀R:Result->aT->Prop,(∀v a c b,Step C F ι σ s.heap b p.2 a->XR C a (NN F b p.2) b p.1 v->R (.ok (.ret v)) (upd s a c))->codeAny C.M A cd R s
def Am (C:CX)(A:Around)(a:aO)(cl:Cl)(fn:Fn):Prop:=
 ∀(F:aO->Prop) ι σ s as b,aK C F ι σ s.heap->bJ C s.heap (NN F ι σ) ι as b->OB (n9 cl fn as σ) (CO C A F ι σ s (.call (.ref a) ⟨b,[]⟩))
variable {aL:Heap}
section
variable {as:List X} {us:List V} {vs:List Value} {a x y:aO} {cl:Cl} {fn:Fn} {c:Nat}
theorem Mz (b:fA as=S us)(hx:bJ C h (NN F ι σ) ι as vs):bJ C h (NN (NN F ι σ) [] []) [] as vs:=by
 have:=((bJ.kz b hx).mono (acH h)).fm (ι:= [])
 rwa[acF b]at this
theorem acI (r:Am C A a cl fn)(i:aK C F ι σ s.heap)(hx:bJ C s.heap (NN F ι σ) ι as vs):
 OB ((fA as).bind λ_=>(n9 cl fn as []).bind λp=>(fz FZ p.2 p.1).map λq=>(.v q.1,σ)) (CO C A F ι σ s (.call (.ref a) ⟨vs,[]⟩)):=
 cv λ_ b=>cv λp o=>fc λ_ u R k=>r _ _ _ s as vs (Ms i) (Mz b hx) p o R λ_ D H _ st I=>
  (De FZ u st.inv I).elim λL O=>k _ D H ι (Mu i st) (Mv (st.trans L) O)
theorem MB (c)(i:aK C F ι σ h):Step C F ι σ h (ι++ [(h.objs.size+1,h.objs.size)]) (σ++ [.obj c []]) ((h.push emptyDict).push (instObj (C.cls c) h.objs.size)):=vL i (λb o e=>eP _ _ b o (eP _ _ b o e)) (Cb (qL _)) (gL _) ⟨dx (jc _),by
 have:=qx (h.push emptyDict) (instObj (C.cls c) h.objs.size) rfl
 rwa[CU]at this,0,[],eP _ _ _ _ (qx h _ rfl),rfl,.nil⟩
def NO (C:CX)(A:Around)(F:aO->Prop)(ι:Lay)(σ:Hp)(s:aT)(o:Heap)(a x:aO)(q:List Value)(p:X×Hp):Prop:=
 ∀R:Result->aT->Prop,(∀v b r k,Step C F ι σ s.heap k p.2 b->XR C b (NN F k p.2) k p.1 v->R (.ok (.ret v)) (upd s b r))->codeAny C.M A (.call (.ref a) ⟨.ref x::q,[]⟩) (InitBack x R) (upd s o s.toks)
theorem acJ (mk:∀ {F ι σ},aK C F ι σ s.heap->Step C F ι σ s.heap (ι++ [(x,y)]) (σ++ [.obj c []]) aL)(r:Am C A a cl fn)(i:aK C F ι σ s.heap)(hx:bJ C s.heap (NN F ι σ) ι as vs):
 OB ((fA as).bind λ_=>(n9 cl fn (.ref 0::as) [.obj c []]).bind λp=>match p.1 with
  | .v .none=>(fz FZ p.2 (.ref 0)).map λq=>(.v q.1,σ)
  |_=> .none) (NO C A F ι σ s aL a x vs):=
 cv λ_ D=>cv λp H=>Mx λhn=>fc λq I R k=>
  have b:=mk (Ms i)
  r _ _ _ _ (.ref 0::as) (.ref x::vs) b.inv ⟨_,_,rfl,⟨_,rfl,rfl⟩,b.fm (Mz D hx)⟩ p H _ λv o L Y st O=>
   (De FZ I st.inv ⟨_,st.ext 0 _ rfl,rfl⟩).elim λQ U=>
    have u:=(b.trans st).trans Q
    ⟨(hn▸O:XR C o _ _ (.v .none) v),k _ o L ι (Mu i u) (Mv u U)⟩
theorem acK (mk:∀ {F ι σ},aK C F ι σ s.heap->Step C F ι σ s.heap (ι++ [(x,y)]) (σ++ [.obj c []]) aL)(r:Am C A a cl fn)(i:aK C F ι σ s.heap)(hx:bJ C s.heap (NN F ι σ) ι as vs):
 OB ((n9 cl fn (.ref σ.length::as) (σ++ [.obj c []])).bind λp=>match p.1 with
  | .v .none=>S (.ref σ.length,p.2)
  |_=> .none) (NO C A F ι σ s aL a x vs):=
 cv λp q=>Mx λhn=>cH λR k=>
  have b:=mk i
  have h0:=i.len▸ymB
  r _ _ _ _ (.ref _::as) (.ref x::vs) b.inv ⟨_,_,rfl,⟨_,h0,rfl⟩,b.fm hx⟩ p q _ λv o u H st D=>
   ⟨(hn▸D:XR C o _ _ (.v .none) v),k _ o u _ (b.trans st) ⟨_,st.ext _ _ h0,rfl⟩⟩
end
theorem acL {C}{P}{D}(K:EA C P D){cl}{d}
 (hb:∀f fn,P.fns[f]?=S fn->∀(A:Around) (env:PySem.Env),jP A d->(∀x,env.kindOf x=(D.fd f).scope.names.lookup x)->BodyOk C A env (D.sl f) (D.body f) λρ σ=>aZ cl fn.body ρ σ):
 rh C ⟨BY cl P,BZ cl P,P.fk⟩ D.fa (d+1):=by
 have L:∀f fn,P.fns[f]?=S fn->∀(A:Around),A.depth<recursionLimit->(∀env,jP (A.deeper env) d)->Am C A (D.fa f) cl fn:=
  λf fn hf A O hr F ι σ s as a i hx p e R q=>acC (K.fns f fn hf) (hb f fn hf) O hr i hx e q
 constructor
 . intro A hr f as σ x u e F ι s a R i hx q
   have r:=λfn hf=>L f fn hf A (by have:=hr.depth;exact Sg this) hr.deeper
   exact(cv λfn hf=>My (acI (r fn hf) i hx) (r fn hf F ι σ s as a i hx)) (x,u) e R q
 . intro A hr c as σ x u e F ι s a R i hx q
   have r:=λf fn hf=>L f fn hf (A.under (.builtin "type.__call__" ⟨.ref (C.cls c)::a,[]⟩)) (show A.depth+1<_ by have:=hr.depth;exact Sh this) λenv=>⟨hr.handled,by have:=hr.depth;show A.depth+1+1+2*d+2<_;exact Si this,by have:=hr.units;show A.units+1+3+8*d+100<_;exact Sj this⟩
   refine(cv (P:=λp=>∀R,(∀v y Q H,Step C F ι σ s.heap H p.2 y->XR C y (NN F H p.2) H p.1 v->R (.ok (.ret v)) (upd s y Q))->codeAny C.M A (.call (.ref (C.cls c)) ⟨a,[]⟩) R s) λf U=>cv λfn hf=>cv λpu _ p Y R k=> ?_) (x,u) e R q
   have I:=λb o e=>i.base b o (C.X b o e)
   have h:=K.init c f U
   exact make_core (makes_of I h.2.2) (looks_findIn I h.1) ((bind_fn I · h.2.1)) (.inl rfl) ((My (acJ (MB c) (r f fn hf) i hx) (acK (MB c) (r f fn hf) i hx)) p Y R k)
noncomputable def tP.nm:tP->Str
 | .len=> "len" | .list=> "list" | .tuple=> "tuple" | .sorted=> "sorted" | .sum=> "sum" | .dict _=> "dict" | .abs=> "abs" | .int=> "int"
variable {cJ:Hp}
def xi (C:CX)(A:Around)(F:aO->Prop)(f:Value)(as:List X)(σ:Hp)(x:X)(c:Hp):Prop:=
 ∀(ι:Lay) (s:aT) (k:List Value) (R:Result->aT->Prop),aK C F ι σ s.heap->bJ C s.heap (NN F ι σ) ι as k->
  (∀v a o b,Step C F ι σ s.heap b c a->XR C a (NN F b c) b x v->R (.ok (.ret v)) (upd s a o))->codeAny C.M A (.call f ⟨k,[]⟩) R s
theorem MD {pos}{xs ys}{y}(hk:keepIn C.K f=ab)(c:args.all notStar=ab)
 (hf:bJ C s.heap (NN F ι σ) ι ys first)(ha:lU C A F ι σ s (spliced (backTo pos (starEach args env))) xs aC)(k:xi C A F f (ys++xs) aC y bj):
 EV C A F ι σ s (callWith pos f first (backTo pos (starEach args env)) []) y bj:=λQ E q=>callWith_of (by rw[sj c];rfl) (keeps_K hk) (yW (sj c) (ha _ _ λx D H I a hx=>⟨λb o e=>a.inv.base b o (C.X b o e),wpAny_call (k _ _ _ _ a.inv ((a.fm hf).append hx) λv L O U r u=>q v _ _ _ (a.trans r) u)⟩))
theorem ME {f}{xs}{y}(hn:∀E a,a f s->wpAny C.M A (eval (.Name x b) env) a E s)(hk:keepIn C.K f=ab)(c:args.all notStar=ab)
 (ha:lU C A F ι σ s (spliced (backTo pos (starEach args env))) xs aC)(k:xi C A F f xs aC y bj):
 EV C A F ι σ s (eval (.Call (.Name x b) args [] pos) env) y bj:=λQ E q=>Jv (hn E _ (MD (ys:= []) hk c rfl ha k Q E q))
theorem acM {o}{c}{fa}{e}{x pos}{args}{xs}{y}(hb:pb e=ab)(D:args.all notStar=ab)(hl:args.length<30)(I:(x.endLine==pos.line)=ab)
 (he:EV C A F ι σ s (eval e env) o aC)(L:n6 aC o=S c)(a:c<6)(hf:findIn C.K (.ref (C.cls c)) name=S (S (.ref fa)))(b:typeIn C.K (.ref fa)=S (.type "function"))(hn:∀f,hE c f=ab->C.fld f≠name)
 (hk:keepIn C.K (.ref fa)=ab)(ha:∀h' O ag,Step C F ι σ s.heap ag aC h'->lU C A F ag aC (upd s h' O) (spliced (backTo pos (starEach args env))) xs bj)(U:xi C A F (.ref fa) (o::xs) bj y cJ):
 EV C A F ι σ s (eval (.Call (.Attribute e name x) args [] pos) env) y cJ:=by
 intro Q E q
 rewrite[arm_eval_Call];rw[Cs hb]
 refine aG (he _ _ λv aL bC bb k H=>aG (qI ?_))
 have r:methodCallForm _ _ (backToKw pos (keywordEach [] env))=true:=Kt D hl
 unfold methodCall
 exact Zrr r (aG (jH (XZ k.inv H L a hf b hn (aG (wpAny_of_eq (by unfold methodCallPos;simp[I]) (have:=MD (ys:= [o]) hk D ⟨v,[],rfl,H,rfl⟩ (ha _ _ _ k) U Q E λu bF de eJ Y hu=>q u _ _ _ (k.trans Y) hu;this))))))
theorem ri (ok:cQ F env)(i:aK C F ι σ s.heap){nm}{b pos}{e}{x y}{fv}(hk:env.kindOf nm=S .globalImplicit)(c:notStar e=ab)(he:EV C A F ι σ s (eval e env) x aC)
 (k:bootBuiltins nm=S fv)(o:(∃T,fv= .type T)\/∃id,fv= .builtin id)(r:nm∈qt)
 (u:∀(Q:Value->aT->Prop) (E:Value->aT->Prop),(∀v h' D ag,Step C F ι σ s.heap ag bj h'->XR C h' (NN F ag bj) ag y v->Q v (upd s h' D))->∀v aL H a,Step C F ι σ s.heap a aC aL->XR C aL (NN F a aC) a x v->wpAny C.M A (call fv [v]) Q E (upd s aL H)):
 EV C A F ι σ s (eval (.Call (.Name nm b) [e] [] pos) env) y bj:=
 λQ E q=>CE o c (y0 ok i hk r k) (he _ _ (u Q E q))
theorem acO (O:A.handled=J)(hr:A.units+80<cLine)(ok:cQ F env)(i:aK C F ι σ s.heap){m:Bool}{f:tP}{np pos:Pos}{e:aI}{x:X}(hk:env.kindOf f.nm=S .globalImplicit)(L:notStar e=ab)
 (he:EV C A F ι σ s (eval e env) x aC):OB ((cB aC f x).bind λr=>Ig m aC r) λy=>EV C A F ι σ s (eval (.Call (.Name f.nm np) [e] [] pos) env) y.1 y.2:=by
 refine UL ?_
 cases f with
 |len=>exact cv λn hn=>fB λhl=>cH (cH (ri ok i hk L he rfl (.inr ⟨_,rfl⟩) (.head _) λQ E q v u o k c hx=>YM c.inv hx hn hl λH tk'=>q _ u tk' k c ⟨H,rfl⟩))
 |list=>exact Ii λxs D=>fB λhl=>cH λy U=>(D.elim (λh=>⟨_,h,.inl rfl⟩) λh=>⟨_,h,.inr rfl⟩:∃a,x= .v a/\(a= .lst xs\/a= .tup xs)).elim λa ha=>ri ok i hk L (x:= .v a) (ha.1▸he) rfl (.inl ⟨_,rfl⟩) (.tail _ (.head _)) λQ E q v u o k c hx=>YN c.inv hx ha.2 hl U λr I Y st hr=>q r I o Y (c.trans st) hr
 |tuple=>exact r7 λxs D=>fB λhl=>cH (cH (ri ok i hk L (x:= .v (.lst xs)) (D▸he) rfl (.inl ⟨_,rfl⟩) (.tail _ (.tail _ (.head _))) λQ E q v u o k c hx=>YO c.inv hx hl λr I st hr=>q r I o k (c.trans st) hr))
 |sorted=>exact cv λxs hq=>fB λhl=>cH λy U=>ri ok i hk L he rfl (.inr ⟨_,rfl⟩) (.tail _ (.tail _ (.tail _ (.head _)))) λQ E q v u o k c hx=>ab5 O (HZ hr) c.inv hx hq hl U λr I H Y st hr=>q r I H Y (c.trans st) hr
 |sum=>exact r7 λxs D=>fc λn hn=>cH (ri ok i hk L (x:= .v (.lst xs)) (D▸he) rfl (.inr ⟨_,rfl⟩) (.tail _ (.tail _ (.tail _ (.tail _ (.head _))))) λQ E q v u o k c hx=>YR O c.inv hx hn λt I H st=>q _ I H k (c.trans st) ⟨t,rfl⟩)
 |dict t=>exact r7 λxs D=>fB λhl=>fc λak hn=>cH (ri ok i hk L (x:= .v (.lst xs)) (D▸he) rfl (.inl ⟨_,rfl⟩) (.tail _ (.tail _ (.tail _ (.tail _ (.tail _ (.head _)))))) λQ E q v u o k c hx=>aaR O hr c.inv hx hl hn λr I H st hr=>q r I H k (c.trans st) hr)
 |abs=>exact vE λn D=>cH (cH (ri ok i hk L (x:= .v (.int n)) (D▸he) (fv:= .builtin "abs") rfl (.inr ⟨_,rfl⟩) (.tail _ (.tail _ (.tail _ (.tail _ (.tail _ (.tail _ (.head _))))))) λQ E q v u o k c hx=>YS (s:=(upd s u o)) (N:=NN F k aC) hx λt H=>q _ u H k c ⟨t,rfl⟩))
 |int=>
  refine lS λa D=> ?_
  have go:∀ {y},_->EV C A F ι σ s (eval (.Call (.Name (tP.int).nm np) [e] [] pos) env) y aC:=λ{y} h4=>ri ok i hk L (x:= .v a) (D▸he) (fv:= .type "int") rfl (.inl ⟨_,rfl⟩) (.tail _ (.tail _ (.tail _ (.tail _ (.tail _ (.tail _ (.tail _ (.head _)))))))) h4
  cases a with
  |int n=>exact cH (cH (go λQ E q v u o k c zq=>ao zq λt hx=>hx▸call_int_int (q _ u o k c ⟨t,rfl⟩)))
  |bool b=>exact cH (cH (go λQ E q v u o k c hx=>(show v=_ from hx)▸call_int_bool (q _ u (o+1) k c ⟨o,rfl⟩)))
  |_=>exact fW
set_option genInjectivity false in
structure MC where
 fns:List (Str×aO)
 fa:Nat->aO
 cls:Nat->aO
 fld:Nat->Str
 s_:List ((Nat×Str)×aO)
 jQ:Nat->Str
inductive rj:V->PySem.Expr->Prop
 |int {n k p}:rj (.int n) (.Constant (.int n) k p)
 |neg {n k p q}:rj (.int (-n)) (.UnaryOp .USub (.Constant (.int n) k p) q)
 |str {x k p}:rj (.str x.cps.toList) (.Constant (.str x) k p)
 |bool {b k p}:rj (.bool b) (.Constant (.bool b) k p)
 |none {k p}:rj .none (.Constant .none k p)
noncomputable def An (c:Prop) [Decidable c]{q:Prop}(h:c->q):Option (PLift q):=if e:c then S ⟨h e⟩else J
def acP (v:V)(e:aI):Option (PLift (rj v e)):=match v with
 | .int n=>((qr e).bind λ⟨p,a⟩=>(cInt p.1).bind λ⟨k,hk⟩=>An (n=k) λh=>by rw[a,hk,h];exact .int)<|>
  (Iq e).bind λ⟨p,a⟩=>(qr p.2.1).bind λ⟨q,c⟩=>(cInt q.1).bind λ⟨k,hk⟩=>An (p.1= .USub/\n= -k) λh=>by rw[a,c,hk,h.1,h.2];exact .neg
 | .str l=>(qr e).bind λ⟨p,a⟩=>(cStr p.1).bind λ⟨x,hx⟩=>An (x.cps.toList=l) λh=>by rw[a,hx,h.symm];exact .str
 | .bool b=>(qr e).bind λ⟨p,a⟩=>(cBool p.1).bind λ⟨x,hx⟩=>An (b=x) λh=>by rw[a,hx,h];exact .bool
 | .none=>(qr e).bind λ⟨p,a⟩=>(Iw p.1).map λh=>⟨by(rw[a,h.1]);exact .none⟩
 |_=>J
noncomputable def isSet (e:aI):Bool:=e.ctorIdx==7
noncomputable def EB (sl:SL):Bool:=decide (sl.map (·.2)).Nodup
def rk (kd:Str->Option NameKind)(sl:SL)(scope:Scope)(t:jC)(a iter:aI):Bool:=
 um scope kd sl (dN t a) &&EB (dN t a++sl) &&ow (dN t a++sl) t a&&wG scope kd a&& !isSet iter
noncomputable def xj (kd:Str->Option NameKind)(es:List aI):Bool:=
 es.all λe=>match e with| .Name x _=>kd x==S .local||kd x==S .cell|_=>ab
noncomputable def rm (kd:Str->Option NameKind)(x:Str):Bool:=kd x==S .local||kd x==S .cell
noncomputable def jR (kd:Str->Option NameKind)(x:Str):Bool:=kd x==S .globalImplicit
def xk (e:aI):Option {x:Str×Pos×List aI×Pos//e= .Call (.Name x.1 x.2.1) x.2.2.1 [] x.2.2.2}:=
 (B4 e).bind λ⟨p,a⟩=>(nl p.2.2.1).bind λk=>(n_ p.1).map λ⟨q,b⟩=>⟨(q.1,q.2,p.2.1,p.2.2.2),by rw[a,b,k.1];rfl⟩
def MF (e:aI):Option {x:aI×Str×Pos×List aI×Pos//e= .Call (.Attribute x.1 x.2.1 x.2.2.1) x.2.2.2.1 [] x.2.2.2.2}:=
 (B4 e).bind λ⟨p,a⟩=>(nl p.2.2.1).bind λk=>(B2 p.1).map λ⟨q,b⟩=>⟨(q.1,q.2.1,q.2.2,p.2.1,p.2.2.2),by rw[a,b,k.1];rfl⟩
def EC (e:aI):Option {x:aI×PySem.CmpOp×aI×Pos//e= .Compare x.1 [x.2.1] [x.2.2.1] x.2.2.2}:=
 (Wy e).bind λ⟨p,a⟩=>(one p.2.1).bind λ⟨o,c⟩=>(one p.2.2.1).map λ⟨b,hb⟩=>⟨(p.1,o,b,p.2.2.2),by rw[a,c,hb];rfl⟩
def MG (e:aI):Option {x:aI×PySem.CmpOp×Nat×Pos×Pos//e= .Compare x.1 [x.2.1] [.Constant .none x.2.2.1 x.2.2.2.1] x.2.2.2.2}:=
 (EC e).bind λ⟨p,a⟩=>(qr p.2.2.1).bind λ⟨q,b⟩=>(Iw q.1).map λn=>⟨(p.1,p.2.1,q.2.1,q.2.2,p.2.2.2),by rw[a,b,n.1];rfl⟩
def MH (e:aI):Option {x:aI×Option aI×Option aI×Pos×Pos//e= .Subscript x.1 (.Slice x.2.1 x.2.2.1 J x.2.2.2.1) x.2.2.2.2}:=
 (B3 e).bind λ⟨p,a⟩=>(Ww p.2.1).bind λ⟨q,b⟩=>if h:q.2.2.1=J then S ⟨(p.1,q.1,q.2.1,q.2.2.2,p.2.2),by rw[a,b,h];rfl⟩else J
noncomputable def two {c:Type}:(l:List c)->Option {x:c×c×List c//l=x.1::x.2.1::x.2.2}
 |a::b::r=>S ⟨(a,b,r),rfl⟩
 |_=>J
def acQ (e:aI):Option {x:PySem.BoolOp×aI×aI×List aI×Pos//e= .BoolOp x.1 (x.2.1::x.2.2.1::x.2.2.2.1) x.2.2.2.2}:=
 (vBool e).bind λ⟨p,a⟩=>(two p.2.1).map λ⟨q,b⟩=>⟨(p.1,q.1,q.2.1,q.2.2,p.2.2),by rw[a,b];rfl⟩
def MI (e:aI):Option {x:aI×aI×aI×List aI×PySem.Scope×Pos//e= .ListComp x.1 [⟨x.2.1,x.2.2.1,x.2.2.2.1,0⟩] x.2.2.2.2.1 x.2.2.2.2.2}:=
 (Iv e).bind λ⟨p,a⟩=>(one p.2.1).bind λ⟨⟨t,i,b,k⟩,c⟩=>if h:k=0 then S ⟨(p.1,t,i,b,p.2.2.1,p.2.2.2),by rw[a,c,h];rfl⟩else J
def vK1 (k:Option aI):Option {x:Str×Nat×Pos×Nat×Pos//k=S (.Tuple [.Constant (.str x.1) x.2.1 x.2.2.1] x.2.2.2.1 x.2.2.2.2)}:=match k with
 |none=>J
 |some k=>(qs k).bind λ⟨t,a⟩=>(one t.1).bind λ⟨c,b⟩=>(qr c).bind λ⟨d,o⟩=>(cStr d.1).map λ⟨w,hw⟩=>⟨(w,d.2.1,d.2.2,t.2.1,t.2.2),by rw[a,b,o,hw];rfl⟩
def vB1 (e:aI):Option {x:Bool×Nat×Pos//e= .Constant (.bool x.1) x.2.1 x.2.2}:=
 (qr e).bind λ⟨d,a⟩=>(cBool d.1).map λ⟨b,hb⟩=>⟨(b,d.2.1,d.2.2),by rw[a,hb];rfl⟩
def vD1 (e:aI):Option {x:(Str×Nat×Pos×Nat×Pos)× (Bool×Nat×Pos)×Pos//e= .Dict [S (.Tuple [.Constant (.str x.1.1) x.1.2.1 x.1.2.2.1] x.1.2.2.2.1 x.1.2.2.2.2)] [.Constant (.bool x.2.1.1) x.2.1.2.1 x.2.1.2.2] x.2.2}:=
 (Iu e).bind λ⟨p,a⟩=>(one p.1).bind λ⟨k,hk⟩=>(one p.2.1).bind λ⟨v,b⟩=>(vK1 k).bind λ⟨x,hx⟩=>(vB1 v).map λ⟨y,c⟩=>⟨(x,y,p.2.2),by rw[a,hk,b,hx,c];rfl⟩
def ED (e:aI):Option {x:Str×Pos×aI×Pos//e= .Call (.Name x.1 x.2.1) [x.2.2.1] [] x.2.2.2}:=
 (xk e).bind λ⟨p,b⟩=>(one p.2.2.1).map λ⟨a,ha⟩=>⟨(p.1,p.2.1,a,p.2.2.2),by rw[b,ha];rfl⟩
def acR (e:aI):Option {x:Str×Pos×aI×aI×Pos//e= .Call (.Name x.1 x.2.1) [x.2.2.1,x.2.2.2.1] [] x.2.2.2.2}:=
 (xk e).bind λ⟨p,b⟩=>(two p.2.2.1).bind λ⟨a,ha⟩=>(nl a.2.2).map λh=>⟨(p.1,p.2.1,a.1,a.2.1,p.2.2.2),by rw[b,ha,h.1];rfl⟩
def acS (e:aI):Option {x:aI×aI×Pos×Pos//e= .Subscript x.1 (.Slice J (S x.2.1) J x.2.2.1) x.2.2.2}:=
 (MH e).bind λ⟨p,a⟩=>match c:p.2.1,k:p.2.2.1 with
  |none,S b=>S ⟨(p.1,b,p.2.2.2),by rw[a,c,k];rfl⟩
  |_,_=>J
def acT (e:aI):Option {x:aI×aI×Pos×Pos//e= .Subscript x.1 (.Slice (S x.2.1) J J x.2.2.1) x.2.2.2}:=
 (MH e).bind λ⟨p,a⟩=>match c:p.2.1,k:p.2.2.1 with
  |some b,J=>S ⟨(p.1,b,p.2.2.2),by rw[a,c,k];rfl⟩
  |_,_=>J
def vD0 (e:aI):Option {x:Pos//e= .Dict [] [] x}:=
 (Iu e).bind λ⟨p,a⟩=>(nl p.1).bind λh=>(nl p.2.1).map λb=>⟨p.2.2,by rw[a,h.1,b.1];rfl⟩
def Ao (o:PySem.BoolOp)(e:aI):Option {x:aI×aI×List aI×Pos//e= .BoolOp o (x.1::x.2.1::x.2.2.1) x.2.2.2}:=
 (acQ e).bind λ⟨p,a⟩=>if h:p.1=o then S ⟨p.2,by rw[a,h];rfl⟩else J
def MJ (e:aI):Option {x:aI×Pos//e= .UnaryOp .Not x.1 x.2}:=
 (Iq e).bind λ⟨p,a⟩=>if h:p.1= .Not then S ⟨p.2,by rw[a,h];rfl⟩else J
def MK (e:aI):Option {x:aI×aI×aI×PySem.Scope×Pos//e= .ListComp x.1 [⟨x.2.1,x.2.2.1,[],0⟩] x.2.2.2.1 x.2.2.2.2}:=
 (MI e).bind λ⟨p,a⟩=>(nl p.2.2.2.1).map λh=>⟨(p.1,p.2.1,p.2.2.1,p.2.2.2.2.1,p.2.2.2.2.2),by rw[a,h.1];rfl⟩
def ML (e:aI):Option {x:aI×aI×aI×aI×PySem.Scope×Pos//e= .ListComp x.1 [⟨x.2.1,x.2.2.1,[x.2.2.2.1],0⟩] x.2.2.2.2.1 x.2.2.2.2.2}:=
 (MI e).bind λ⟨p,a⟩=>(one p.2.2.2.1).map λ⟨c,h⟩=>⟨(p.1,p.2.1,p.2.2.1,c,p.2.2.2.2.1,p.2.2.2.2.2),by rw[a,h];rfl⟩
noncomputable def ro (o:PySem.BoolOp)(b:aI)(r:List aI)(p:Pos):PySem.Expr:=if r.isEmpty then b else .BoolOp o (b::r) p
noncomputable def EE (es:Es):Option {e:E//es= .cons e .nil}:=match es with
 | .cons e .nil=>S ⟨e,rfl⟩
 |_=>J
noncomputable def MM (es:Es):Option (PLift (es= .nil)):=match es with
 | .nil=>S ⟨rfl⟩
 |_=>J
noncomputable def acU (e:E):Option {l:List Nat//e= .cst (.str l)}:=match e with
 | .cst (.str l)=>S ⟨l,rfl⟩
 |_=>J
noncomputable def acV (e:E):Option {l:Bool//e= .cst (.bool l)}:=match e with
 | .cst (.bool l)=>S ⟨l,rfl⟩
 |_=>J
noncomputable def acW (e:E):Option {es:Es//e= .tup es}:=match e with
 | .tup l=>S ⟨l,rfl⟩
 |_=>J
def xm (s:PySem.Stmt):Option {x:aI×aI×Pos//s= .Assign [x.1] x.2.1 x.2.2}:=
 (WA s).bind λ⟨p,a⟩=>(one p.1).map λ⟨t,b⟩=>⟨(t,p.2.1,p.2.2),by rw[a,b];rfl⟩
theorem EF (h:EB sl=ab):iV sl:=by
 have nd:=of_decide_eq_true h
 intro x y i hx c
 have a:=mem_of_lookup hx
 have b:=mem_of_lookup c
 clear hx c h
 induction sl with
 |nil=>cases a
 |cons p sl k=>
  simp only[dz,kB]at nd
  rcases cy.mp a with rfl|a<;>rcases cy.mp b with e|b
  . exact(Prod.mk.inj e).1.symm
  . exact absurd (bX.mpr ⟨_,b,rfl⟩) nd.1
  . exact absurd (bX.mpr ⟨_,a,by rw[e.symm];rfl⟩) nd.1
  exact k nd.2 a b
theorem EG (h:isSet e=ae):∀x,foldedSetIterable e env x=pure x:=by
 intro x
 cases e<;>first|rfl|exact ja h
structure EH (C:CX)(M:MC)(fk:List V):Prop where
 fns:∀x a,M.fns.lookup x=S a->nsIn C.K mainGlobals x=S (S (.ref a))/\(x==("__debug__" :Str))=ae/\keepIn C.K (.ref a)=ab
 s_:∀c x a,M.s_.lookup (c,x)=S a->c<6/\findIn C.K (.ref (C.cls c)) x=S (S (.ref a))/\typeIn C.K (.ref a)=S (.type "function")/\(∀f,hE c f=ab->C.fld f≠x)/\keepIn C.K (.ref a)=ab
 fk:∀g a,fk[g]?=S a->(M.jQ g==("__debug__" :Str))=ae/\∃v,nsIn C.K mainGlobals (M.jQ g)=S (S v)/\∀(h:Heap) (N:aO->Prop),(∀b o,C.h₀.get? b=S o->h.get? b=S o)->(∀b o,C.h₀.get? b=S o->¬N b)->VR C h N a v
 fld:M.fld=C.fld
 cls:M.cls=C.cls
def EI (C:CX)(A:Around)(env:PySem.Env)(sl:SL)(b e:aI)(f:Env->Hp->Option (List V×Hp)):Prop:=
 ∀(F:aO->Prop),cQ F env->∀(ρ:Env) (σ:Hp) (s:aT) (ι:Lay) xs a,aK C F ι σ s.heap->cx C s.heap (NN F ι σ) ι env sl ρ->f ρ σ=S (xs,a)->ov C A b F ι σ s (eval e env) xs a
theorem acX (i:aK C F ι σ s.heap):∀b o,C.h₀.get? b=S o->¬NN F ι σ b:=λb o e q=>by
 rcases q with q|q
 . rw[(i.frames b q).1]at e;exact aD e
 . rw[(i.fresh b q).1]at e;exact aD e
theorem rp {q}(e:o.bind gn=S q):o=S (.v (.bool q.1),q.2):=by
 refine kr e λp a e=> ?_
 have:=Yz e
 rw[a,this];rfl
theorem acY (h:rj a e)(i:aK C F ι σ s.heap):EV C A F ι σ s (eval e env) (.v a) σ:=by
 cases h with
 |int=>exact WK i
 |neg=>exact WL i
 |str=>exact WM i
 |bool=>exact WN i
 |none=>exact B_ i
theorem acZ {neg:Bool}{l}{k}{p pos}{a}{x}(c:a=if neg then .IsNot else .Is)(hl:EV C A F ι σ s (eval l env) x aC):
 EV C A F ι σ s (eval (.Compare l [a] [.Constant .none k p] pos) env) (.v (.bool (tV neg x))) aC:=by
 subst c
 refine Js hl (λo b r st=>B_ st.inv) (λQ E o b r v u i ha y q=> ?_) rfl
 subst y
 exact Ja _ ha (have:=(I_ _ x).symm;Zrr this q b)
theorem ac0 {neg:Bool}{l}{k}{p pos}{a}{x}{c}(o:a=if neg then .IsNot else .Is)(hl:EV C A F ι σ s (eval l env) x aC):
 gb C A F ι σ s (isTrue (.Compare l [a] [.Constant .none k p] pos) env c) (tV neg x) aC:=by
 subst o
 refine Jt hl (λr b y st=>B_ st.inv) (λQ E r b y v u i ha D q=> ?_) rfl
 subst D
 exact Ja _ ha (have:=(I_ _ x).symm;Zrr this q b)
theorem ac1 {c}(hl:gb C A F ι σ s (isTrue a env (eval a env)) ab aC)
 (hr:∀h' u ag,Step C F ι σ s.heap ag aC h'->gb C A F ag aC (upd s h' u) (isTrue (ro .And b rest p) env (eval (ro .And b rest p) env)) c bj):
 gb C A F ι σ s (isTrue (.BoolOp .And (a::b::rest) p) env H) c bj:=by
 refine λQ E q=>EJ (MN (hl _ _ λI x L k=> ?_))
 have:=hr _ x _ k
 cases rest
 . exact MN (this _ _ λy r D o=>have:=q _ r _ (k.trans o);by cases c<;>first|exact this|exact wpAny_allTrue_And_nil this)
 . exact this Q E λy r D o=>q _ _ _ (k.trans o)
theorem ac2 {rest}(hl:gb C A F ι σ s (isTrue a env (eval a env)) ae aC):gb C A F ι σ s (isTrue (.BoolOp .And (a::rest) p) env c) ae aC:=
 λQ E q=>EJ (MN (hl _ _ λk o r b=>q _ _ _ b))
theorem ac3 {c}(hl:gb C A F ι σ s (isTrue a env (eval a env)) ae aC)
 (hr:∀h' u ag,Step C F ι σ s.heap ag aC h'->gb C A F ag aC (upd s h' u) (isTrue (ro .Or b rest p) env (eval (ro .Or b rest p) env)) c bj):
 gb C A F ι σ s (isTrue (.BoolOp .Or (a::b::rest) p) env H) c bj:=by
 refine λQ E q=>EJ (MP (hl _ _ λI x L k=> ?_))
 have:=hr _ x _ k
 cases rest
 . exact MP (this _ _ λy r D o=>have:=q _ r _ (k.trans o);by cases c<;>first|exact this|exact wpAny_allTrue_Or_nil this)
 . exact this Q E λy r D o=>q _ _ _ (k.trans o)
theorem ac4 {rest}(hl:gb C A F ι σ s (isTrue a env (eval a env)) ab aC):gb C A F ι σ s (isTrue (.BoolOp .Or (a::rest) p) env c) ab aC:=
 λQ E q=>EJ (MP (hl _ _ λk o r b=>q _ _ _ b))
theorem MQ {b r}(k:gb C A F ι σ s (isTrue c env (eval c env)) b aC)
 (o:∀h' u ag,Step C F ι σ s.heap ag aC h'->gb C A F ag aC (upd s h' u) (if b then isTrue t env (eval t env)else isTrue f env (eval f env)) r bj):gb C A F ι σ s (isTrue (.IfExp c t f pos) env D) r bj:=by
 refine λQ E q=>aG (k _ _ λH x I a=> ?_)
 have:=o _ x _ a Q E λL O U y=>q _ _ _ (a.trans y)
 cases b<;>exact this
theorem MR (y:A.handled=J){kd}(D:∀x,env.kindOf x=kd x){k b iter}{scope}{p}{t}{m}{f}{g}(c:rk kd sl scope t b iter=ab)
 (H:EI C A env sl b iter g)(o:∀bL,(∀x,bL.kindOf x=fR scope kd x)->sJ C A bL (dN t b++sl) k f)
 (ok:cQ F env)(i:aK C F ι σ s.heap)(fr:cx C s.heap (NN F ι σ) ι env sl ρ){x}(e:((g ρ σ).bind λp=>(mO (λa af=>(bV t a ρ).bind (f · af)) p.1 p.2).bind λq=>kx m q.1 q.2)=S (x,af)):
 sO C A F env ι σ s (.ListComp k [⟨b,iter,[],0⟩] scope p) x af:=by
 refine qc e λxs aC I e=>qc e λzs bj L e=> ?_
 unfold rk at c
 simp only[fY,oB]at c
 refine au c λO Q=>au O λU r=>au U λY c3=>au Y λu c2=> ?_;rw[<-funext D]at u r o
 exact Z6 y o ok i fr u (EF c2) c3 r (EG Q) (H F ok ρ σ s ι xs _ i fr I) L e
theorem MS (I:A.handled=J){kd}(L:∀x,env.kindOf x=kd x){o r b iter}{scope}{p}{t}{m}{f}{c}{g}(k:rk kd sl scope t b iter=ab)
 (Q:EI C A env sl b iter g)(u:∀bL,(∀x,bL.kindOf x=fR scope kd x)->sJ C A bL (dN t b++sl) o f)(y:∀bL,(∀x,bL.kindOf x=fR scope kd x)->wo C A bL (dN t b++sl) r c)
 (ok:cQ F env)(i:aK C F ι σ s.heap)(fr:cx C s.heap (NN F ι σ) ι env sl ρ){x}
 (e:((g ρ σ).bind λp=>(qo (λa af=>(bV t a ρ).bind (c · af)) (λa af=>(bV t a ρ).bind (f · af)) p.1 p.2).bind λq=>kx m q.1 q.2)=S (x,af)):
 sO C A F env ι σ s (.ListComp o [⟨b,iter,[r],0⟩] scope p) x af:=by
 refine qc e λxs aC U e=>qc e λzs bj Y e=> ?_
 unfold rk at k
 simp only[fY,oB]at k
 refine au k λO c5=>au O λax D=>au ax λcu c3=>au cu λH c2=> ?_;rw[<-funext L]at H D u y
 exact Z7 I u y ok i fr H (EF c2) c3 D (EG c5) (Q F ok ρ σ s ι xs _ i fr U) Y e
theorem rh.code (fj:rh C cl fa d){A}(hr:jP A d){F}{f}{as}{σ}{y}(e:cl.call f as σ=S y):xi C A F (.ref (fa f)) as σ y.1 y.2:=
 λι s a R i hx q=>fj.call A hr f as σ _ _ e F ι s a R i hx q
theorem rh.ac5 (fj:rh C cl fa d){A}(hr:jP A d){F}{c}{as}{σ}{y}(e:cl.new c as σ=S y):xi C A F (.ref (C.cls c)) as σ y.1 y.2:=
 λι s a R i hx q=>fj.new A hr c as σ _ _ e F ι s a R i hx q
section
variable {α β:Type} {o:Option α} {P:β->Prop} {x:X}
theorem ac6 {o}{P}(h:OB o λp=>∀b,p.1= .v (.bool b)->P (b,p.2)):OB (o.bind gn) P:=λq e=>h _ (rp e) _ rfl
theorem Ap {b}{o:Option α}{f}{g:β->Option b}{P}(h:∀a,o=S a->OB ((f a).bind g) P):OB ((o.bind f).bind g) P:=(Option.bind_assoc o f g).symm▸cv h
theorem uT {b}{o:Option α}{f:α->β}{g:β->Option b}{P}(h:∀a,o=S a->OB (g (f a)) P):OB ((o.map f).bind g) P:=cv λ_ e=>(Ih e).elim λa e=>e.2▸h a e.1
theorem Aq {o:Option (Bool×α)}{f:Bool×α->Option β}{P}(h:∀s,o=S (ab,s)->OB (f (ab,s)) P)(k:∀s,o=S (ae,s)->OB (f (ae,s)) P):OB (o.bind f) P:=
 cv λa=>a.rec λb s=>b.rec (k s) (h s)
theorem EL {c}{o:Option (Bool×α)}{f:Bool×α->Option β}{g:β->Option c}{P}(h:∀s,o=S (ab,s)->OB ((f (ab,s)).bind g) P)(k:∀s,o=S (ae,s)->OB ((f (ae,s)).bind g) P):OB ((o.bind f).bind g) P:=
 Ap λa=>a.rec λb s=>b.rec (k s) (h s)
theorem ac7 {o:Option (Flow×α)}{f:Flow×α->Option β}{P}(h:∀s,o=S (.next,s)->OB (f (.next,s)) P)(k:∀x s,o=S (.ret x,s)->OB (f (.ret x,s)) P):OB (o.bind f) P:=
 cv λa=>a.rec λb s=>b.rec (h s) λx=>k x s
end
structure Bg (C:CX)(cl:Cl)(d:Nat)(M:MC)(A:Around)(env:PySem.Env)(kd:Str->Option NameKind):Prop where
 fj:rh C cl M.fa d
 MO:EH C M cl.fk
 hr:jP A d
 hk:∀x,env.kindOf x=kd x
variable {M:MC} {kd:Str->Option NameKind}
section
variable {cl:Cl} {d:Nat}
theorem Bg.u2 (B:Bg C cl d M A env kd):A.units+80<cLine:=by have:=B.hr.units;exact TS this
theorem Bg.u1 (B:Bg C cl d M A env kd):A.units+64<cLine:=by have:=B.u2;exact HZ this
theorem Bg.glob (B:Bg C cl d M A env kd){x}(h:jR kd x=ab):env.kindOf x=S .globalImplicit:=by rw[B.hk _];exact eq_of_beq h
theorem Bg.with {b}(B:Bg C cl d M A env kd)(hk:∀x,a.kindOf x=b x):Bg C cl d M A a b:=⟨B.fj,B.MO,B.hr,hk⟩
theorem Bg.fn (B:Bg C cl d M A env kd){F}{ι}{σ}{s}{nm}{a}{p}(h:M.fns.lookup nm=S a)(hk:jR kd nm=ab)(ok:cQ F env)(i:aK C F ι σ s.heap):
 ∀E b,b (.ref a) s->wpAny C.M A (eval (.Name nm p) env) b E s:=dp (B.MO.fns nm a h) λc k o=>λE b q=>IA ok i (B.glob hk) k c q
end
set_option genInjectivity false in
structure Zc (M:MC)(kd:Str->Option NameKind)(sl:SL) where
 C:CX
 cl:Cl
 d:Nat
 A:Around
 env:PySem.Env
 B:Bg C cl d M A env kd
 F:aO->Prop
 ok:cQ F env
 ρ:Env
 σ:Hp
 s:aT
 ι:Lay
 i:aK C F ι σ s.heap
 fr:cx C s.heap (NN F ι σ) ι env sl ρ
def QE (M:MC)(kd:Str->Option NameKind)(sl:SL)(m:E)(ex:aI):Prop:=∀z:Zc M kd sl,OB (az z.cl m z.ρ z.σ) λp=>EV z.C z.A z.F z.ι z.σ z.s (eval ex z.env) p.1 p.2
def QT (M:MC)(kd:Str->Option NameKind)(sl:SL)(m:E)(ex:aI):Prop:=∀z:Zc M kd sl,OB ((az z.cl m z.ρ z.σ).bind gn) λp=>gb z.C z.A z.F z.ι z.σ z.s (isTrue ex z.env (eval ex z.env)) p.1 p.2
def jS (M:MC)(kd:Str->Option NameKind)(sl:SL)(m:Es)(es:List aI):Prop:=es.all notStar=ab/\∀(z:Zc M kd sl) (pos:Pos),OB (fV z.cl m z.ρ z.σ) λp=>lU z.C z.A z.F z.ι z.σ z.s (spliced (backTo pos (starEach es z.env))) p.1 p.2
def kF (M:MC)(kd:Str->Option NameKind)(sl:SL)(m:It)(a ex:aI):Prop:=∀z:Zc M kd sl,OB (iw z.cl m z.ρ z.σ) λp=>ov z.C z.A a z.F z.ι z.σ z.s (eval ex z.env) p.1 p.2
section
variable {p p':Pos} {a b c:aI} {l r o k t f c':E} {nm:Str} {es:Es} {as:List aI}
noncomputable def Zc.at (z:Zc M kd sl){h':Heap}{x:Nat}{q:Lay}{u:Hp}(st:Step z.C z.F z.ι z.σ z.s.heap q u h'):Zc M kd sl:=⟨z.C,z.cl,z.d,z.A,z.env,z.B,z.F,z.ok,z.ρ,u,upd z.s h' x,q,st.inv,z.fr.step z.ok z.i st⟩
theorem QE.ev (h:QE M kd sl o a)(z:Zc M kd sl)(q){x}(e:az z.cl o z.ρ z.σ=S q)(hx:q.1=x):EV z.C z.A z.F z.ι z.σ z.s (eval a z.env) x q.2:=hx▸h z q e
theorem QE.nx (h:QE M kd sl o a)(z:Zc M kd sl){u}(q){x}(e:az z.cl o z.ρ u=S q)(hx:q.1=x):∀h' y ag,Step z.C z.F z.ι z.σ z.s.heap ag u h'->EV z.C z.A z.F ag u (upd z.s h' y) (eval a z.env) x q.2:=λ_ y _ st=>h.ev (z.at st) q e hx
theorem QT.nx (h:QT M kd sl o a)(z:Zc M kd sl){u}{q}(e:(az z.cl o z.ρ u).bind gn=S q):∀h' x ag,Step z.C z.F z.ι z.σ z.s.heap ag u h'->gb z.C z.A z.F ag u (upd z.s h' x) (isTrue a z.env (eval a z.env)) q.1 q.2:=λ_ x _ st=>h (z.at st) q e
theorem jS.nx (h:jS M kd sl es as)(z:Zc M kd sl){pos}{u}{q}(e:fV z.cl es z.ρ u=S q):∀h' x ag,Step z.C z.F z.ι z.σ z.s.heap ag u h'->lU z.C z.A z.F ag u (upd z.s h' x) (spliced (backTo pos (starEach as z.env))) q.1 q.2:=λ_ x _ st=>h.2 (z.at st) _ q e
theorem QE.ok (h:QE M kd sl o a)(B:Bg C cl d M A env kd):sJ C A env sl a λρ σ=>az cl o ρ σ:=λF ok ρ σ s ι x q i fr e=>h ⟨C,cl,d,A,_,B,F,ok,ρ,σ,s,ι,i,fr⟩ _ e
theorem QT.ok (h:QT M kd sl o a)(B:Bg C cl d M A env kd):wo C A env sl a λρ σ=>(az cl o ρ σ).bind gn:=λF ok ρ σ s ι x q i fr e=>h ⟨C,cl,d,A,_,B,F,ok,ρ,σ,s,ι,i,fr⟩ _ e
theorem kF.ok {it}(h:kF M kd sl it b a)(B:Bg C cl d M A env kd):EI C A env sl b a λρ σ=>iw cl it ρ σ:=λF ok ρ σ s ι x q i fr e=>h ⟨C,cl,d,A,_,B,F,ok,ρ,σ,s,ι,i,fr⟩ _ e
theorem ac9 (h:sl.lookup nm=S j/\(rm kd nm||kd nm==S .free)=ab/\(nm== "__debug__")=ae/\(nm== "__classdict__")=ae):QE M kd sl (.var j) (.Name nm p):=
 λz=>fc λy x=>by
  refine WJ z.ok z.i z.fr h.1 ?_ h.2.2.1 h.2.2.2 x
  rw[z.B.hk _]
  have u:=h.2.1
  simp only[rm,lY,beq_iff_eq]at u
  exact u.elim (λq=>q.elim .inl λq=> .inr (.inl q)) λq=> .inr (.inr q)
theorem ada (h:rj v a):QE M kd sl (.cst v) a:=λz=>cH (acY h z.i)
theorem adb (h:jR kd (M.jQ g)=ab):QE M kd sl (.glob g) (.Name (M.jQ g) p):=
 λz=>fc λa ha Q E q=>(z.B.MO.fk g a ha).2.elim λv k=>IA z.ok z.i (z.B.glob h) (z.B.MO.fk g a ha).1 k.1 (q v _ _ _ (.refl z.i) (k.2 _ _ z.i.base (acX z.i)))
theorem ade {f}(h:pb a=ab)(u:QE M kd sl o a):QE M kd sl (.attr o f) (.Attribute a (M.fld f) p):=
 λz=>cv λq x=>fc λw y=>by rw[z.B.MO.fld];exact XT h (u.ev z q x rfl) y
theorem adf (h:CB b=ae)(u:QE M kd sl o a)(hk:QE M kd sl k b):QE M kd sl (.idx o k) (.Subscript a b p):=
 λz=>cv λq x=>cv λr D=>lS λL H=>fc λw I=>Yd (y:=q.1) (u.ev z q x rfl) (hk.nx z r D H) I z.B.u1 h
theorem adg (u:QE M kd sl o a)(hk:QE M kd sl k b):QE M kd sl (.kQ o k) (.Subscript a (.Slice J (S b) J p) p'):=
 λz=>cv λq D=>cv λr H=>lS λx hx=>lS λy I=>fc λw L=>Yo (u.ev z q D hx) (hk.nx z r H I) L
theorem adh (u:QE M kd sl o a)(hk:QE M kd sl k b):QE M kd sl (.vw o k) (.Subscript a (.Slice (S b) J J p) p'):=
 λz=>cv λq D=>cv λr H=>lS λx hx=>lS λy I=>fc λw L=>Yp (u.ev z q D hx) (hk.nx z r H I) L
theorem adi {F}{ι}{σ}{s}{m}{x}{a b}{v u}{y}(i:aK C F ι σ s.heap)(ha:XR C s.heap (NN F ι σ) ι (.v a) v)(hb:XR C s.heap (NN F ι σ) ι (.v b) u)(e:mkBin m (cV x a b) σ=S y):EV C A F ι σ s (binaryOp x.py v u) y.1 y.2:=by
 cases m
 . exact gX e λw q e=>Zrr e.symm (W7 i ha hb q)
 . refine kr e λw q e=> ?_
   cases w<;>first|exact aD e|exact je e▸W_ i ha hb q
theorem adj (hl:QE M kd sl l a)(hr:QE M kd sl r b):QE M kd sl (.bin m u l r) (.BinOp a u.py b p):=
 λz=>cv λq D=>cv λr H=>lS λx hx=>lS λy I w e=>WT (hl.ev z q D hx) (hr.nx z r H I) λ_ _ _ _ _ L ha hb=>adi L ha hb e
theorem adk (h:behindInMarks x.py b=ae)(hl:QE M kd sl l a)(hr:QE M kd sl r b):QE M kd sl (.cmp x l r) (.Compare a [x.py] [b] p):=
 λz=>cv λq y=>cv λr D=>fc λw H=>Js (hl.ev z q y rfl) (hr.nx z r D rfl) (λQ E L O U v u I ha hb q=>I' I ha hb H z.B.u1 q) h
theorem adl (h:behindInMarks x.py b=ae)(hl:QE M kd sl l a)(hr:QE M kd sl r b):QT M kd sl (.cmp x l r) (.Compare a [x.py] [b] p):=
 λz=>Ap λq y=>Ap λr D=>uT λw H=>cH (Jt (hl.ev z q y rfl) (hr.nx z r D rfl) (λQ E L O U v u I ha hb q=>I' I ha hb H z.B.u1 q) h)
theorem adm {neg:Bool}{u}{n}(h:u=if neg then .IsNot else .Is)(hl:QE M kd sl l a):QE M kd sl (.isNone neg l) (.Compare a [u] [.Constant .none n p] p'):=
 λz=>fc λq x=>acZ h (hl.ev z q x rfl)
theorem adn {neg:Bool}{u}{n}(h:u=if neg then .IsNot else .Is)(hl:QE M kd sl l a):QT M kd sl (.isNone neg l) (.Compare a [u] [.Constant .none n p] p'):=
 λz=>uT λq x=>cH (ac0 h (hl.ev z q x rfl))
theorem ado (hl:QE M kd sl l a)(hr:QE M kd sl r b):QE M kd sl (.and l r) (.BoolOp .And [a,b] p):=
 λz=>Aq (λ_ u=>fc λq x=>YB (hl.ev z _ (rp u) rfl) (hr.nx z _ (rp x) rfl)) λ_ u=>cH (YC (hl.ev z _ (rp u) rfl))
theorem adp (hl:QE M kd sl l a)(hr:QE M kd sl r b):QE M kd sl (.or l r) (.BoolOp .Or [a,b] p):=
 λz=>Aq (λ_ u=>cH (YE (hl.ev z _ (rp u) rfl))) λ_ u=>fc λq x=>YD (hl.ev z _ (rp u) rfl) (hr.nx z _ (rp x) rfl)
theorem adq (hl:QT M kd sl l a)(hr:QT M kd sl r (ro .And b rest p)):QT M kd sl (.and l r) (.BoolOp .And (a::b::rest) p):=
 λz=>EL (λ_ u=>uT λq x=>cH (ac1 (hl z _ u) (hr.nx z x))) λ_ u=>cH (ac2 (hl z _ u))
theorem ads (hl:QT M kd sl l a)(hr:QT M kd sl r (ro .Or b rest p)):QT M kd sl (.or l r) (.BoolOp .Or (a::b::rest) p):=
 λz=>EL (λ_ u=>cH (ac4 (hl z _ u))) λ_ u=>uT λq x=>cH (ac3 (hl z _ u) (hr.nx z x))
theorem adt (hl:QE M kd sl l a):QE M kd sl (.not l) (.UnaryOp .Not a p):=λz=>fc λq u=>YF (hl.ev z (.v (.bool q.1),q.2) (rp u) rfl)
theorem adu (hl:QT M kd sl l a):QT M kd sl (.not l) (.UnaryOp .Not a p):=λz=>uT λq u=>cH (YG (hl z q u))
theorem adv (x:QT M kd sl c' a)(y:QE M kd sl t b)(hf:QE M kd sl f c):QE M kd sl (.ite c' t f) (.IfExp a b c p):=
 λz=>Aq (λ_ u q e=>Ju (x z _ u) (y.nx z _ e rfl)) λ_ u q e=>Ju (x z _ u) (hf.nx z _ e rfl)
theorem adw (x:QT M kd sl c' a)(y:QT M kd sl t b)(hf:QT M kd sl f c):QT M kd sl (.ite c' t f) (.IfExp a b c p):=
 λz=>EL (λ_ u q e=>MQ (x z _ u) (y.nx z e)) λ_ u q e=>MQ (x z _ u) (hf.nx z e)
theorem adx (he:jS M kd sl es as):QE M kd sl (.tup es) (.Tuple as n p):=λz=>cv λq u=>fB λhl=>fc λy x=>Yw (he.2 z _ q u) x hl
theorem ady (he:jS M kd sl es as):QE M kd sl (.lst m es) (.List as p):=λz=>cv λq u y e=>Yy (he.2 z _ q u) e
theorem adz {t}:QE M kd sl (.aU m t .nil .nil) (.Dict [] [] p):=λz y e=>aaP z.i e
theorem adA {m}{w}{v}{n1 q n3}{u x D H}:QE M kd sl (.aU m .strs (.cons (.tup (.cons (.cst (.str w.cps.toList)) .nil)) .nil) (.cons (.cst (.bool v)) .nil)) (.Dict [S (.Tuple [.Constant (.str w) n1 u] q x)] [.Constant (.bool v) n3 D] H):=λz y e=>aaQ z.B.u1 z.i e
theorem adB {t}{it}{u}{q}(h:rk kd sl q t b c=ab)(x:kF M kd sl it b c)(he:QE M (fR q kd) (dN t b++sl) u a):QE M kd sl (.comp m t it u) (.ListComp a [⟨b,c,[],0⟩] q p):=
 λz y e=>Ki (MR z.B.hr.handled z.B.hk h (x.ok z.B) (λH D=>he.ok (z.B.with D)) z.ok z.i z.fr e)
theorem adC {t}{it}{u x}{q}{g}(h:rk kd sl q t b c=ab)(D:kF M kd sl it b c)(he:QE M (fR q kd) (dN t b++sl) u a)(H:QT M (fR q kd) (dN t b++sl) x g):QE M kd sl (.iQ m t it x u) (.ListComp a [⟨b,c,[g],0⟩] q p):=
 λz y e=>Ki (MS z.B.hr.handled z.B.hk h (D.ok z.B) (λI L=>he.ok (z.B.with L)) (λI hk=>H.ok (z.B.with hk)) z.ok z.i z.fr e)
theorem adD {f}(h:jR kd f.nm=ab)(hn:notStar a=ab)(ha:QE M kd sl o a):QE M kd sl (.bf m f o) (.Call (.Name f.nm p) [a] [] p'):=
 λz=>cv λq u=>acO z.B.hr.handled z.B.u2 z.ok z.i (z.B.glob h) hn (ha.ev z q u rfl)
theorem adE {f}(h:pb a=ab/\as.length<30/\(p.endLine==p'.line)=ab)(u:QE M kd sl o a)(he:jS M kd sl es as):QE M kd sl (.da o f es) (.Call (.Attribute a f.nm p) as [] p'):=
 λz=>cv λq x=>fB λD=>cv λr H y e=>aau h.1 he.1 h.2.1 h.2.2 (u.ev z q x rfl) D (he.nx z H) λL O v Q I u hx=>aaG I z.B.u1 u hx y e
theorem MU {f}(h:M.fns.lookup nm=S (M.fa f)/\jR kd nm=ab)(he:jS M kd sl es as):QE M kd sl (.call f es) (.Call (.Name nm p) as [] p'):=
 λz=>cv λq u y e=>ME (z.B.fn h.1 h.2 z.ok z.i) (z.B.MO.fns _ _ h.1).2.2 he.1 (he.2 z _ q u) (z.B.fj.code z.B.hr e)
theorem adF {f}(h:M.fns.lookup nm=S (M.fa f)/\jR kd nm=ab)(he:jS M kd sl es as):QT M kd sl (.call f es) (.Call (.Name nm p) as [] p'):=
 λz=>ac6 λq e b hb=>YA ((MU h he).ev z _ e hb) rfl
theorem adG {c f}(h:M.s_.lookup (c,nm)=S (M.fa f)/\pb a=ab/\as.length<30/\(p.endLine==p'.line)=ab)(u:QE M kd sl o a)(he:jS M kd sl es as):QE M kd sl (.bN o c f es) (.Call (.Attribute a nm p) as [] p'):=
 λz=>cv λq x=>fB λD=>cv λr H y e=>BM (z.B.MO.s_ _ _ _ h.1) λI L O Q U=>acM h.2.1 he.1 h.2.2.1 h.2.2.2 (u.ev z q x rfl) D I L O Q U (he.nx z H) (z.B.fj.code z.B.hr e)
theorem adH {c}(h:M.fns.lookup nm=S (M.cls c)/\jR kd nm=ab)(he:jS M kd sl es as):QE M kd sl (.new c es) (.Call (.Name nm p) as [] p'):=
 λz=>cv λq x y e=>by
  have u:=h.1
  rw[z.B.MO.cls]at u
  exact ME (z.B.fn u h.2 z.ok z.i) (z.B.MO.fns _ _ u).2.2 he.1 (he.2 z _ q x) (z.B.fj.ac5 z.B.hr e)
theorem adI:jS M kd sl .nil []:=⟨rfl,λz _=>cH (Yt z.i)⟩
theorem adJ (h:notStar a=ab)(hx:QE M kd sl o a)(hr:jS M kd sl es as):jS M kd sl (.cons o es) (a::as):=
 ⟨by rw[Cm,h];rewrite[hr.1];rfl,λz _=>cv λq u=>fc λr x=>Yu (hx.ev z q u rfl) h (hr.nx z x)⟩
theorem adK (h:isNm b=ab)(hx:QE M kd sl o a):kF M kd sl (.of o) b a:=λz=>cv λq u=>lS λv x=>fc λD y=>JN z.B.hr.handled (hx.ev z q u x) y (.inl h)
theorem adL (hx:QE M kd sl o a):kF M kd sl (.hC o) b a:=λz=>cv λq u=>r7 λv x=>cH (JN z.B.hr.handled (hx.ev z q u x) rfl (.inr ⟨_,rfl⟩))
theorem adM (h:jR kd "range" =ab/\notStar a=ab/\isNm b=ab)(hx:QE M kd sl o a):kF M kd sl (.range o) b (.Call (.Name "range" p) [a] [] p'):=
 λz=>cv λq u=>vE λn hn=>fB λhl=>cH (Zd z.B.hr.handled z.ok z.i (z.B.glob h.1) h.2.1 (hx.ev z q u hn) hl.1 hl.2 h.2.2)
theorem adN (h:jR kd "range" =ab/\notStar a=ab/\notStar c=ab/\isNm b=ab)(hx:QE M kd sl o a)(u:QE M kd sl k c):kF M kd sl (.rV o k) b (.Call (.Name "range" p) [a,c] [] p'):=
 λz=>cv λq x=>cv λr y=>vE λn hn=>vE λm hm=>fB λhl=>cH (Ze z.B.hr.handled z.ok z.i (z.B.glob h.1) h.2.1 h.2.2.1 (hx.ev z q x hn) (u.nx z r y hm) hl.1 hl.2.1 hl.2.2.1 hl.2.2.2 h.2.2.2)
theorem adO (h:jR kd "enumerate" =ab/\notStar a=ab)(hx:QE M kd sl o a):kF M kd sl (.enum o) (.Tuple ts n q) (.Call (.Name "enumerate" p) [a] [] p'):=
 λz=>cv λq u=>r7 λn hn=>fB λhl=>cH (Zf z.B.hr.handled z.ok z.i (z.B.glob h.1) h.2 (hx.ev z q u hn))
end
theorem MW (h:xj kd es=ab):∀x p,.Name x p∈es->kd x=S .local\/kd x=S .cell:=by
 intro x p hm
 have:=cF.mp h _ hm
 simpa using this
theorem SV.ghost {F W}{ι}{σ a c}{s}{env}{sl}{ρ'}{t}{k}(st:Step C F ι σ s.heap ι c s.heap)(hW:∀b,W b->F b)(h:SV C A F W env sl ι c s t k ρ' a):SV C A F W env sl ι σ s t k ρ' a:=
 λQ E q=>h Q E λf o r x u fr hf=>q f o r _ ((st.w W).trans u hW) fr hf
set_option genInjectivity false in
structure Zs (M:MC)(kd:Str->Option NameKind)(sl:SL) extends Zc M kd sl where
 W:aO->Prop
 hW:∀b,W b->F b
 so:∀x,(env.kindOf x=S .local\/env.kindOf x=S .cell)->ig env W x
 ds:iV sl
def QS (M:MC)(kd:Str->Option NameKind)(sl:SL)(m:fj)(st:PySem.Stmt):Prop:=∀z:Zs M kd sl,OB (qq z.cl m z.ρ z.σ) λp=>SV z.C z.A z.F z.W z.env sl z.ι z.σ z.s (exec st z.env) p.1 p.2.1 p.2.2
def kG (M:MC)(kd:Str->Option NameKind)(sl:SL)(m:Ss)(l:List PySem.Stmt):Prop:=∀z:Zs M kd sl,OB (aZ z.cl m z.ρ z.σ) λp=>SV z.C z.A z.F z.W z.env sl z.ι z.σ z.s (execs l z.env) p.1 p.2.1 p.2.2
def QC (M:MC)(kd:Str->Option NameKind)(sl:SL)(m:E)(ex:aI):Prop:=∀z:Zc M kd sl,OB (az z.cl m z.ρ z.σ) λp=>sO z.C z.A z.F z.env z.ι z.σ z.s ex p.1 p.2
section
variable {p p' EM:Pos} {a b c:aI} {x o k:E} {nm:Str} {es:Es} {as:List aI}
noncomputable def Zs.go (z:Zs M kd sl){r:Heap}{y:Nat}{q:Lay}{oy:Env}{u:Hp}(i:aK z.C z.F q u r)(fr:cx z.C r (NN z.F q u) q z.env sl oy):Zs M kd sl:=⟨⟨z.C,z.cl,z.d,z.A,z.env,z.B,z.F,z.ok,oy,u,upd z.s r y,q,i,fr⟩,z.W,z.hW,z.so,z.ds⟩
theorem kG.ok {m}{l}(h:kG M kd sl m l)(B:Bg C cl d M A env kd)(ds:iV sl):BodyOk C A env sl l λρ σ=>aZ cl m ρ σ:=
 λF W ok hW so ρ σ s ι q ρ' r i fr e=>h ⟨⟨C,cl,d,A,_,B,F,ok,ρ,σ,s,ι,i,fr⟩,W,hW,so,ds⟩ _ e
theorem Zs.MX (z:Zs M kd sl){es}(h:xj kd es=ab):∀x p,.Name x p∈es->ig z.env z.W x:=λx p hm=>z.so x (by rw[z.B.hk _];exact MW h x p hm)
theorem adP {t}{it}{r}{q}(h:rk kd sl q t b c=ab)(u:kF M kd sl it b c)(he:QE M (fR q kd) (dN t b++sl) r a):QC M kd sl (.comp m t it r) (.ListComp a [⟨b,c,[],0⟩] q p):=
 λz _ e=>MR z.B.hr.handled z.B.hk h (u.ok z.B) (λD y=>he.ok (z.B.with y)) z.ok z.i z.fr e
theorem adQ {t}{it}{r u}{q}{g}(h:rk kd sl q t b c=ab)(y:kF M kd sl it b c)(he:QE M (fR q kd) (dN t b++sl) r a)(D:QT M (fR q kd) (dN t b++sl) u g):QC M kd sl (.iQ m t it u r) (.ListComp a [⟨b,c,[g],0⟩] q p):=
 λz _ e=>MS z.B.hr.handled z.B.hk h (y.ok z.B) (λH I=>he.ok (z.B.with I)) (λH hk=>D.ok (z.B.with hk)) z.ok z.i z.fr e
theorem Zs.loc (z:Zs M kd sl)(h:rm kd nm=ab):ig z.env z.W nm:=z.so nm (by rw[z.B.hk _];simpa [rm]using h)
theorem adR (h:sl.lookup nm=S j/\rm kd nm=ab/\wM a=ae)(hx:QE M kd sl x a):QS M kd sl (.set j x) (.Assign [.Name nm p] a p'):=
 λz=>fc λq r=>Kl (hx.ev _ q r rfl) z.ok z.i z.fr z.ds h.1 (z.loc h.2.1) z.hW (Kj h.2.2)
theorem adS (h:sl.lookup nm=S j/\rm kd nm=ab)(hx:QE M kd sl x (.ListComp D gens r p))(I:QC M kd sl x (.ListComp D gens r p)):QS M kd sl (.set j x) (.Assign [.Name nm EM] (.ListComp D gens r p) p'):=
 λz=>fc λq H=>by
  have u:=aad (cp:=D) (gens:=gens) (scope:=r) (pos:=p) (py:=EM) (y:=nm) (line:=p'.line) z.ok.kind
  cases hb:Kk _ r p nm _ with
  |true=>rw[hb]at u;exact aaa (I _ q H) z.ok z.i z.fr z.ds h.1 (z.loc h.2) z.hW u
  |false=>rw[hb]at u;exact Kl (hx.ev _ q H rfl) z.ok z.i z.fr z.ds h.1 (z.loc h.2) z.hW u
theorem adT (h:sF sl as is=ab/\xj kd as=ab/\isTup a=ae)(hx:QE M kd sl x a):QS M kd sl (.mG is x) (.Assign [.Tuple as n p] a p'):=
 λz=>cv λq u=>UM λxs y=>fc λoy r=>aal z.B.hr.handled (hx.ev _ q u y) z.ok z.i z.fr z.ds h.1 (z.MX h.2.1) z.hW r (by rw[Aj r,aq _];rfl) (acb h.2.2)
def adU (kd:Str->Option NameKind)(as q:List aI)(is:List Nat):Bool:=Ah kd as q|| ((s8 as).any (Ew kd as q) &&decide is.Nodup&& (is.length==2||is.length==3))
theorem adV {u}(h:sF sl as is=ab/\xj kd as=ab/\adU kd as u is=ab)(he:jS M kd sl es u):QS M kd sl (.ql is es) (.Assign [.Tuple as n p] (.Tuple u n' p') EM):=
 λz=>cv λq H=>fc λoy D=>by
 have hl:=Aj D
 have r:=Kh.mp h.2.2
 refine acp z.B.hr.handled (he.2 _ _ q H) z.ok z.i z.fr z.ds h.1 (z.MX h.2.1) z.hW D ?_ ?_
 . rcases r with r|r
   . unfold Ah at r
     simp only[fY,lY,beq_iff_eq]at r
     have l1:=(za (env:=z.env) (qM h.1)).2.2
     unfold aE;lia
   . simp only[fY,lY,beq_iff_eq]at r
     unfold aE;lia
 . rcases r with r|r
   . exact .inl (acg z.ok.kind z.B.hk r)
   . simp only[fY,lY,beq_iff_eq,decide_eq_true_eq]at r
     refine au r λO I=>au O λL Q=>ah (Cp L) λns U y=> ?_
     obtain ⟨Y,b2,b3⟩:=acf z.ok.kind z.B.hk y
     exact .inr ⟨ns,Y,b3,Q,I⟩
theorem adW (hx:QE M kd sl x a)(u:QE M kd sl o b):QS M kd sl (.dy o f x) (.Assign [.Attribute b (M.fld f) p] a p'):=
 λz=>cv λq y=>cv λr D=>fc λI H=>by rw[z.B.MO.fld];exact aae (hx.ev _ q y rfl) (u.nx _ r D rfl) H z.ok z.i z.fr z.hW
theorem adX (hx:QE M kd sl x a)(u:QE M kd sl o b)(hk:QE M kd sl k c):QS M kd sl (.gk o k x) (.Assign [.Subscript b c p] a p'):=
 λz=>cv λq y=>cv λr D=>cv λt H=>lS λO I=>fc λQ L=>aaj z.B.u1 (hx.ev _ q y rfl) (u.nx _ r D rfl) (hk.nx _ t H I) L z.ok z.i z.fr
theorem adY (h:wM a=ae)(hx:QE M kd sl x a):QS M kd sl (.ex x) (.Expr a p):=λz=>fc λq r=>aam z.ok z.i z.fr (hx.ev _ q r rfl) h
theorem adZ {bt bf}(r:QT M kd sl x a)(u:kG M kd sl t bt)(hf:kG M kd sl f bf):QS M kd sl (.ite x t f) (.If a bt bf p):=
 λz=>Aq (λ_ q y e=>J0 z.hW (r _ _ q) λ_ _ _ st=>u (z.go st.inv (z.fr.step z.ok z.i st)) y e) λ_ q y e=>J0 z.hW (r _ _ q) λ_ _ _ st=>hf (z.go st.inv (z.fr.step z.ok z.i st)) y e
theorem ad0 (h:ow sl t a=ab/\xj kd (qN a)=ab/\isSet b=ae)(r:kF M kd sl it a b)(hb:kG M kd sl m body):QS M kd sl (.cq t it m) (.For a b body [] p):=
 λz=>cv λq u y e=>Zk z.B.hr.handled z.ds (hb.ok z.B z.ds) z.ok z.hW z.so h.1 (λx p hm=>by rw[z.B.hk _];exact MW h.2.1 x p hm) (r _ q u) z.fr z.i e (EG h.2.2)
theorem ad1 (q:QT M kd sl x a)(hb:kG M kd sl m body):QS M kd sl (.mH x m) (.While a body [] p):=
 λz _ e=>Zm (q.ok z.B) (hb.ok z.B z.ds) z.ok z.hW z.so z.fr z.i e
theorem ad2 (hx:QE M kd sl x a):QS M kd sl (.ret x) (.Return (S a) p):=λz=>fc λq r=>Zo z.ok z.i z.fr (hx.ev _ q r rfl)
theorem ad3 {st}:QS M kd sl .raise st:=λz=>fW
theorem ad4:kG M kd sl .nil []:=λz=>cH (Zr z.i z.fr)
theorem ad5 {st}{l}(u:QS M kd sl m st)(hr:kG M kd sl r l):kG M kd sl (.cons m r) (st::l):=
 λz=>ac7 (λ_ q y e=>Zp z.hW (u z _ q) λ_ _ _ st fr=>hr (z.go st.inv fr) y e) λ_ _ q=>cH (Zq (u z _ q))
theorem ad6 {h}{y}{v}(i:aK C F ι σ h)(H:fz FZ σ y=S (v,bj)):Step C F ι σ h ι bj h/\∀u,XR C h (NN F ι σ) ι y u->VR C h (NN F ι bj) v u:=by
 cases y with
 |v a=>
  cases H
  exact⟨.refl i,λu D=>D⟩
 |ref n=>
  by_cases r:∃p,ι[n]?=S p
  . revert r;intro O;refine ao O λp r=> ?_;have:=De FZ H i ⟨p,r,rfl⟩
    refine⟨this.1,λu D=>ah D λq I O=> ?_⟩;clear D;subst O
    rw[r]at I;cases I
    exact this.2
  . refine kr H λc L _=> ?_
    rw[(by
     have:ι[n]?=none:=by
      cases q:ι[n]? with
      |none=>rfl
      |some p=>exact absurd ⟨p,q⟩ r
     rw[Dz]at this ⊢
     exact Zrr i.len.symm this:σ[n]?=J)]at L;exact aD L
theorem ad7 {r}{l}(hr:kG M kd sl r l):kG M kd sl (.cons (.iu j) r) l:=
 λz=>Ap λw q=>uT λv u y e=>have key:=ad6 z.i u;.ghost key.1 z.hW (hr (z.go key.1.inv (aar z.fr key.1 q key.2)) y e)
end
noncomputable def d0 {P Q:Prop} [Decidable P](h:P->Q):Option (PLift Q):=if q:P then S ⟨h q⟩else J
set_option genInjectivity false in
structure Mt (M:MC) where
 e:(kd:Str->Option NameKind)->(sl:SL)->(m:E)->(e:aI)->Option (PLift (QE M kd sl m e))
 t:(kd:Str->Option NameKind)->(sl:SL)->(m:E)->(e:aI)->Option (PLift (QT M kd sl m e))
 l:(kd:Str->Option NameKind)->(sl:SL)->(m:Es)->(e:List aI)->Option (PLift (jS M kd sl m e))
 i:(kd:Str->Option NameKind)->(sl:SL)->(m:It)->(t e:aI)->Option (PLift (kF M kd sl m t e))
def mE {M:MC}(R:Mt M)(kd:Str->Option NameKind)(sl:SL)(m:E)(e:aI):Option (PLift (QE M kd sl m e)):=match m with
 | .var i=>(n_ e).bind λ⟨p,q⟩=>d0 λh=>q▸ac9 h
 | .cst a=>(acP a e).map λh=>⟨ada h.1⟩
 | .glob g=>(n_ e).bind λ⟨p,q⟩=>d0 λ(h:p.1=M.jQ g/\jR kd (M.jQ g)=ab)=>q▸h.1▸adb h.2
 | .attr o f=>(B2 e).bind λ⟨p,q⟩=>(R.e kd sl o p.1).bind λu=>d0 λ(h:p.2.1=M.fld f/\pb p.1=ab)=>q▸h.1▸ade h.2 u.1
 | .idx o k=>(B3 e).bind λ⟨p,q⟩=>(R.e kd sl o p.1).bind λu=>(R.e kd sl k p.2.1).bind λhk=>d0 λh=>q▸adf h u.1 hk.1
 | .kQ o k=>(acS e).bind λ⟨p,q⟩=>(R.e kd sl o p.1).bind λu=>(R.e kd sl k p.2.1).map λhk=>⟨q▸adg u.1 hk.1⟩
 | .vw o k=>(acT e).bind λ⟨p,q⟩=>(R.e kd sl o p.1).bind λu=>(R.e kd sl k p.2.1).map λhk=>⟨q▸adh u.1 hk.1⟩
 | .bin m y l r=>(Wx e).bind λ⟨p,q⟩=>(R.e kd sl l p.1).bind λhl=>(R.e kd sl r p.2.2.1).bind λhr=>d0 λ(h:p.2.1=y.py)=>q▸h▸adj hl.1 hr.1
 | .cmp y l r=>(EC e).bind λ⟨p,q⟩=>(R.e kd sl l p.1).bind λhl=>(R.e kd sl r p.2.2.1).bind λhr=>d0 λ(h:p.2.1=y.py/\behindInMarks y.py p.2.2.1=ae)=>q▸h.1▸adk h.2 hl.1 hr.1
 | .isNone neg l=>(MG e).bind λ⟨p,q⟩=>(R.e kd sl l p.1).bind λhl=>d0 λh=>q▸adm h hl.1
 | .and l r=>(Ao .And e).bind λ⟨p,q⟩=>(R.e kd sl l p.1).bind λhl=>(R.e kd sl r p.2.1).bind λhr=>(nl p.2.2.1).map λh=>⟨by(rw[q,h.1]);exact ado hl.1 hr.1⟩
 | .or l r=>(Ao .Or e).bind λ⟨p,q⟩=>(R.e kd sl l p.1).bind λhl=>(R.e kd sl r p.2.1).bind λhr=>(nl p.2.2.1).map λh=>⟨by(rw[q,h.1]);exact adp hl.1 hr.1⟩
 | .not l=>(MJ e).bind λ⟨p,q⟩=>(R.e kd sl l p.1).map λhl=>⟨q▸adt hl.1⟩
 | .ite c t f=>(Ir e).bind λ⟨p,q⟩=>(R.t kd sl c p.1).bind λY=>(R.e kd sl t p.2.1).bind λht=>(R.e kd sl f p.2.2.1).map λhf=>⟨q▸adv Y.1 ht.1 hf.1⟩
 | .tup es=>(qs e).bind λ⟨p,q⟩=>(R.l kd sl es p.1).map λhe=>⟨q▸adx he.1⟩
 | .lst m es=>(Wz e).bind λ⟨p,q⟩=>(R.l kd sl es p.1).map λhe=>⟨q▸ady he.1⟩
 | .aU m t D H=>((MM D).bind λI=>(MM H).bind λL=>(vD0 e).map λ⟨p,q⟩=>(⟨by(rw[q,I.1,L.1]);exact adz⟩:PLift (QE M kd sl (.aU m t D H) e)))<|>
  ((vD1 e).bind λ⟨p,q⟩=>(EE D).bind λ⟨k,I⟩=>(acW k).bind λ⟨k',L⟩=>(EE k').bind λ⟨O,h3⟩=>(acU O).bind λ⟨w,h4⟩=>(EE H).bind λ⟨v,h5⟩=>(acV v).bind λ⟨b,h6⟩=>
   d0 λ(h:t= .strs/\w=p.1.1.cps.toList/\b=p.2.1.1)=>by rw[q,I,L,h3,h4,h5,h6,h.1,h.2.1,h.2.2];exact adA)
 | .comp m t it Q=>(MK e).bind λ⟨p,q⟩=>(R.i kd sl it p.2.1 p.2.2.1).bind λU=>(R.e (fR p.2.2.2.1 kd) (dN t p.2.1++sl) Q p.1).bind λhe=>d0 λh=>q▸adB h U.1 he.1
 | .iQ m t it c Q=>(ML e).bind λ⟨p,q⟩=>(R.i kd sl it p.2.1 p.2.2.1).bind λU=>(R.e (fR p.2.2.2.2.1 kd) (dN t p.2.1++sl) Q p.1).bind λhe=>(R.t (fR p.2.2.2.2.1 kd) (dN t p.2.1++sl) c p.2.2.2.1).bind λhg=>d0 λh=>q▸adC h U.1 he.1 hg.1
 | .bf m f x=>(ED e).bind λ⟨p,q⟩=>(R.e kd sl x p.2.2.1).bind λhx=>d0 λ(h:p.1=f.nm/\jR kd f.nm=ab/\notStar p.2.2.1=ab)=>q▸h.1▸adD h.2.1 h.2.2 hx.1
 | .da o f es=>(MF e).bind λ⟨p,q⟩=>(R.e kd sl o p.1).bind λu=>(R.l kd sl es p.2.2.2.1).bind λhe=>d0 λ(h:p.2.1=f.nm/\pb p.1=ab/\p.2.2.2.1.length<30/\(p.2.2.1.endLine==p.2.2.2.2.line)=ab)=>q▸h.1▸adE h.2 u.1 he.1
 | .call f es=>(xk e).bind λ⟨p,q⟩=>(R.l kd sl es p.2.2.1).bind λhe=>d0 λh=>q▸MU h he.1
 | .bN o c f es=>(MF e).bind λ⟨p,q⟩=>(R.e kd sl o p.1).bind λu=>(R.l kd sl es p.2.2.2.1).bind λhe=>d0 λh=>q▸adG h u.1 he.1
 | .new c es=>(xk e).bind λ⟨p,q⟩=>(R.l kd sl es p.2.2.1).bind λhe=>d0 λh=>q▸adH h he.1
def mT {M:MC}(R:Mt M)(kd:Str->Option NameKind)(sl:SL)(m:E)(e:aI):Option (PLift (QT M kd sl m e)):=match m with
 | .not l=>(MJ e).bind λ⟨p,a⟩=>(R.t kd sl l p.1).map λhl=>⟨a▸adu hl.1⟩
 | .and l r=>(Ao .And e).bind λ⟨p,a⟩=>(R.t kd sl l p.1).bind λhl=>(R.t kd sl r (ro .And p.2.1 p.2.2.1 p.2.2.2)).map λhr=>⟨a▸adq hl.1 hr.1⟩
 | .or l r=>(Ao .Or e).bind λ⟨p,a⟩=>(R.t kd sl l p.1).bind λhl=>(R.t kd sl r (ro .Or p.2.1 p.2.2.1 p.2.2.2)).map λhr=>⟨a▸ads hl.1 hr.1⟩
 | .ite c t f=>(Ir e).bind λ⟨p,a⟩=>(R.t kd sl c p.1).bind λk=>(R.t kd sl t p.2.1).bind λo=>(R.t kd sl f p.2.2.1).map λhf=>⟨a▸adw k.1 o.1 hf.1⟩
 | .cmp b l r=>(EC e).bind λ⟨p,a⟩=>(R.e kd sl l p.1).bind λhl=>(R.e kd sl r p.2.2.1).bind λhr=>d0 λ(h:p.2.1=b.py/\behindInMarks b.py p.2.2.1=ae)=>a▸h.1▸adl h.2 hl.1 hr.1
 | .isNone neg l=>(MG e).bind λ⟨p,a⟩=>(R.e kd sl l p.1).bind λhl=>d0 λh=>a▸adn h hl.1
 | .call f es=>(xk e).bind λ⟨p,a⟩=>(R.l kd sl es p.2.2.1).bind λhe=>d0 λh=>a▸adF h he.1
 |_=>J
def mEs {M:MC}(R:Mt M)(kd:Str->Option NameKind)(sl:SL)(m:Es)(es:List aI):Option (PLift (jS M kd sl m es)):=match m with
 | .nil=>match es with
  | []=>S ⟨adI⟩
  |_::_=>J
 | .cons x r=>match es with
  | []=>J
  |e::es=>(R.e kd sl x e).bind λhx=>(R.l kd sl r es).bind λhr=>d0 λh=>adJ h hx.1 hr.1
def mIt {M:MC}(R:Mt M)(kd:Str->Option NameKind)(sl:SL)(m:It)(t e:aI):Option (PLift (kF M kd sl m t e)):=match m with
 | .of x=>(R.e kd sl x e).bind λhx=>d0 λh=>adK h hx.1
 | .hC x=>(R.e kd sl x e).map λhx=>⟨adL hx.1⟩
 | .range x=>(ED e).bind λ⟨p,a⟩=>(R.e kd sl x p.2.2.1).bind λhx=>d0 λ(h:p.1= "range" /\jR kd "range" =ab/\notStar p.2.2.1=ab/\isNm t=ab)=>a▸h.1▸adM h.2 hx.1
 | .rV x y=>(acR e).bind λ⟨p,a⟩=>(R.e kd sl x p.2.2.1).bind λhx=>(R.e kd sl y p.2.2.2.1).bind λb=>d0 λ(h:p.1= "range" /\jR kd "range" =ab/\notStar p.2.2.1=ab/\notStar p.2.2.2.1=ab/\isNm t=ab)=>a▸h.1▸adN h.2 hx.1 b.1
 | .enum x=>(ED e).bind λ⟨p,a⟩=>(qs t).bind λ⟨q,c⟩=>(R.e kd sl x p.2.2.1).bind λhx=>d0 λ(h:p.1= "enumerate" /\jR kd "enumerate" =ab/\notStar p.2.2.1=ab)=>a▸c▸h.1▸adO h.2 hx.1
def xn (M:MC):Nat->Mt M
 |0=>⟨λ_ _ _ _=>J,λ_ _ _ _=>J,λ_ _ _ _=>J,λ_ _ _ _ _=>J⟩
 |n+1=>⟨mE (xn M n),mT (xn M n),mEs (xn M n),mIt (xn M n)⟩
noncomputable def ad8 (m:fj):Option {j:Nat//m= .iu j}:=match m with
 | .iu j=>S ⟨j,rfl⟩
 |_=>J
def mC {M:MC}(R:Mt M)(kd:Str->Option NameKind)(sl:SL)(m:E)(e:aI):Option (PLift (QC M kd sl m e)):=match m with
 | .comp m t it a=>(MK e).bind λ⟨p,b⟩=>(R.i kd sl it p.2.1 p.2.2.1).bind λk=>(R.e (fR p.2.2.2.1 kd) (dN t p.2.1++sl) a p.1).bind λhe=>d0 λh=>b▸adP h k.1 he.1
 | .iQ m t it c a=>(ML e).bind λ⟨p,b⟩=>(R.i kd sl it p.2.1 p.2.2.1).bind λk=>(R.e (fR p.2.2.2.2.1 kd) (dN t p.2.1++sl) a p.1).bind λhe=>(R.t (fR p.2.2.2.2.1 kd) (dN t p.2.1++sl) c p.2.2.2.1).bind λo=>d0 λh=>b▸adQ h k.1 he.1 o.1
 |_=>J
def mS {M:MC}(R:Mt M)(kd:Str->Option NameKind)(sl:SL)(rec:(m:Ss)->(l:List PySem.Stmt)->Option (PLift (kG M kd sl m l)))(m:fj)(s:PySem.Stmt):Option (PLift (QS M kd sl m s)):=match m with
 | .set i x=>(xm s).bind λ⟨p,r⟩=>(n_ p.1).bind λ⟨y,L⟩=>(R.e kd sl x p.2.1).bind λhx=>
  (d0 λ(h:sl.lookup y.1=S i/\rm kd y.1=ab/\wM p.2.1=ae)=>(by(rw[r,L]);exact adR h hx.1:QS M kd sl (.set i x) s))<|>
  ((Iv p.2.1).bind λ⟨q,H⟩=>(mC R kd sl x p.2.1).bind λu=>d0 λ(h:sl.lookup y.1=S i/\rm kd y.1=ab)=>by rw[r,L,H];exact adS h (H▸hx.1) (H▸u.1))
 | .mG is x=>(xm s).bind λ⟨p,r⟩=>(qs p.1).bind λ⟨t,D⟩=>(R.e kd sl x p.2.1).bind λhx=>d0 λh=>by rw[r,D];exact adT h hx.1
 | .ql is es=>(xm s).bind λ⟨p,r⟩=>(qs p.1).bind λ⟨t,D⟩=>(qs p.2.1).bind λ⟨v,O⟩=>(R.l kd sl es v.1).bind λhe=>d0 λh=>by rw[r,D,O];exact adV h he.1
 | .dy o f x=>(xm s).bind λ⟨p,r⟩=>(B2 p.1).bind λ⟨a,ha⟩=>(R.e kd sl x p.2.1).bind λhx=>(R.e kd sl o a.1).bind λI=>d0 λ(h:a.2.1=M.fld f)=>by rw[r,ha,h];exact adW hx.1 I.1
 | .gk o k x=>(xm s).bind λ⟨p,r⟩=>(B3 p.1).bind λ⟨a,ha⟩=>(R.e kd sl x p.2.1).bind λhx=>(R.e kd sl o a.1).bind λI=>(R.e kd sl k a.2.1).map λhk=>⟨by(rw[r,ha]);exact adX hx.1 I.1 hk.1⟩
 | .ex x=>(WB s).bind λ⟨p,r⟩=>(R.e kd sl x p.1).bind λhx=>d0 λh=>r▸adY h hx.1
 | .ite c t f=>(WC s).bind λ⟨p,r⟩=>(R.t kd sl c p.1).bind λu=>(rec t p.2.1).bind λD=>(rec f p.2.2.1).map λhf=>⟨r▸adZ u.1 D.1 hf.1⟩
 | .cq t it b=>(WD s).bind λ⟨p,r⟩=>(nl p.2.2.2.1).bind λhn=>(R.i kd sl it p.1 p.2.1).bind λQ=>(rec b p.2.2.1).bind λhb=>d0 λh=>by rw[r,hn.1];exact ad0 h Q.1 hb.1
 | .mH c b=>(WE s).bind λ⟨p,r⟩=>(nl p.2.2.1).bind λhn=>(R.t kd sl c p.1).bind λu=>(rec b p.2.1).map λhb=>⟨by(rw[r,hn.1]);exact ad1 u.1 hb.1⟩
 | .ret x=>(WG s).bind λ⟨p,r⟩=>match h:p.1 with
  |none=>J
  |some e=>(R.e kd sl x e).map λhx=>⟨by(rw[r,h]);exact ad2 hx.1⟩
 | .raise=>S ⟨ad3⟩
 | .iu _=>J
def Ar {M:MC}(R:Mt M)(kd:Str->Option NameKind)(sl:SL):Nat->(m:Ss)->(l:List PySem.Stmt)->Option (PLift (kG M kd sl m l))
 |0=>λ_ _=>J
 |n+1=>λm l=>match m with
  | .nil=>match l with
   | []=>S ⟨ad4⟩
   |_::_=>J
  | .cons x r=>match ad8 x with
   |some ⟨j,a⟩=>(Ar R kd sl n r l).map λhr=>⟨a▸ad7 hr.1⟩
   |none=>match l with
    | []=>J
    |s::l=>(mS R kd sl (Ar R kd sl n) x s).bind λb=>(Ar R kd sl n r l).map λhr=>⟨ad5 b.1 hr.1⟩
def EN (M:MC)(kd:Str->Option NameKind)(sl:SL)(m:Ss)(l:List PySem.Stmt):Option (PLift (kG M kd sl m l)):=Ar (xn M 40) kd sl 80 m l
theorem ad9 (P):∀d,(aQ P d).fk=P.fk:=by
 intro a
 induction a with
 |zero=>
  exact rfl
 |succ b _=>
  exact rfl
theorem aea {p:Prop}{o:Option (PLift p)}(h:o.isSome=ab):p:=(o.get h).1
theorem sound (K:EA C P D)(MO:EH C M P.fk)(a:M.fa=D.fa)
 (hm:∀f fn,P.fns[f]?=S fn->(EN M ((D.fd f).scope.names.lookup ·) (D.sl f) fn.body (D.body f)).isSome=ab):∀d,rh C (aQ P d) D.fa d:=by
 intro b
 induction b with
 |zero=>
  exact⟨λA _ f as σ x c e=>aD e,λA _ f as σ x c e=>aD e⟩
 |succ d k=>
  exact acL K λf fn hf A env hr hk=>(aea (hm f fn hf)).ok ⟨a▸k,by rw[ad9 _ _];exact MO,hr,hk⟩ (K.fns f fn hf).dist
noncomputable def aeb (scope:Scope)(a:Nat)(ns:List Str)(sl:SL):Bool:=
 sl.all λp=>(scope.names.lookup p.1==S .local||scope.names.lookup p.1==S .cell) && (decide (a<=p.2)||ns[p.2]?==S p.1)
noncomputable def MY:Data->Option FuncData
 | .func fd=>S fd
 |_=>J
noncomputable def EO:Data->Option (List Value)
 | .seq a _=>S a.toList
 |_=>J
theorem aec (h:MY d=S fd):d= .func fd:=by cases d<;>(first|exact aD h|cases h);rfl
theorem MZ (h:EO d=S l):∃arr n,d= .seq arr n/\l=arr.toList:=by cases d<;>(first|exact aD h|cases h);exact⟨_,_,rfl,rfl⟩
noncomputable def M0:Value->Option String
 | .type c=>S c
 |_=>J
theorem aed (h:M0 v=S c):v= .type c:=by cases v<;>(first|exact aD h|cases h);rfl
def EP (K:Frag)(a:aO):Option FuncData:=(K.lookup a).bind λo=>MY o.data
def As (K:Frag)(a:aO):Option (List Value):=(K.lookup a).bind λo=>EO o.data
def fdOf (K:Frag)(a:aO):FuncData:=(EP K a).getD default
def bodyOf (K:Frag)(a:aO):List PySem.Stmt:=match(fdOf K a).body with
 | .stmts b=>b
 |_=> []
def itemsOf (K:Frag)(a:aO):List Value:=match(fdOf K a).defaults with
 | .ref T=>(As K T).getD []
 |_=> []
def Au (K:Frag)(a:aO):List Str:=(fdOf K a).params.args.map (·.arg)
def ER (K:Frag)(M:MC)(fn:Fn)(a:aO)(sl:SL):Bool:=
 (EP K a).any λfd=>decide (
  codeIn K fd.code fd.qualname=ab/\fd.closure.isEmpty=ab/\fd.globals=mainGlobals/\fd.builtins=builtinsNs/\fd.scope.isCoroutine=ae/\fd.scope.isGenerator=ae/\(fd.scope.kind== .function)=ab/\
  fd.params.posonlyargs.isEmpty=ab/\fd.params.kwonlyargs.isEmpty=ab/\fd.params.vararg.isNone=ab/\fd.params.kwarg.isNone=ab/\
  (fd.params.args.map (·.arg)).Nodup/\(fd.params.args.map (·.arg)).length=fn.lM/\
  (fd.params.args.map (·.arg)).all (λx=>fd.scope.names.lookup x==S .local||fd.scope.names.lookup x==S .cell)=ab/\
  (match fd.defaults with| .none=>fn.defs.isEmpty| .ref T=>(As K T).any (uR fn.defs)|_=>ae)=ab/\
  fn.defs.length<=fn.lM/\aeb fd.scope fn.lM (fd.params.args.map (·.arg)) sl=ab/\EB sl=ab/\
  (match fd.body with| .stmts b=>(EN M (λx=>fd.scope.names.lookup x) sl fn.body b).isSome|_=>ae)=ab)
theorem Av {a:Type}{l:List a}(h:l.isEmpty=ab):l= []:=Zh.mp h
theorem none_of {a:Type}{o:Option a}(h:o.isNone=ab):o=none:=CZ.mp h
set_option tactic.hygienic true in
theorem M1 {M}{fn}{a}{sl}(h:ER C.K M fn a sl=ab):
 FnAt C fn a (fdOf C.K a) (Au C.K a) (bodyOf C.K a) sl (itemsOf C.K a)/\(EN M (λx=>(fdOf C.K a).scope.names.lookup x) sl fn.body (bodyOf C.K a)).isSome=true:=by
 refine ah ((uQ ..).mp h) λfd u h=> ?_
 have c:fdOf C.K a=fd:=by show(EP _ a).getD _=fd;rw[u];rfl
 refine kr u λO D k=> ?_;obtain ⟨H,I,Y,Ey⟩:=O
 cases aec k
 have h:=of_decide_eq_true h
 have b:=h.2.2.2.2.2.2.2.2.2.2.2.2.2.2.1
 have r:=h.2.2.2.2.2.2.2.2.2.2.2.2.2.2.2.2.2.2
 cases hb:fd.body<;>rw[hb]at r<;>try exact bT r
 next body=>
 rw[c,(by unfold bodyOf;rw[c];rw[hb];rfl:bodyOf _ a=body)];refine Zrr (by unfold Au;rw[c];rfl:Au _ a=fd.params.args.map _) ⟨{obj:=⟨H,I,_,D⟩,cd:=h.1,body:=hb,Mn:=Av h.2.1,glob:=h.2.2.1,blt:=h.2.2.2.1,co:=h.2.2.2.2.1,gen:=h.2.2.2.2.2.1,kind:=eq_of_beq h.2.2.2.2.2.2.1,simple:=⟨Av h.2.2.2.2.2.2.2.1,Av h.2.2.2.2.2.2.2.2.1,none_of h.2.2.2.2.2.2.2.2.2.1,none_of h.2.2.2.2.2.2.2.2.2.2.1,rfl,h.2.2.2.2.2.2.2.2.2.2.2.1⟩,len:=h.2.2.2.2.2.2.2.2.2.2.2.2.1,kinds:= ?_,dflt:= ?_,defs:= ?_,Mo:=h.2.2.2.2.2.2.2.2.2.2.2.2.2.2.2.1,slots:= ?_,dist:=EF h.2.2.2.2.2.2.2.2.2.2.2.2.2.2.2.2.2.1},r⟩
 . intro x hx
   have:=cF.mp h.2.2.2.2.2.2.2.2.2.2.2.2.2.1 x hx
   simpa using this
 . unfold itemsOf
   rw[c]
   cases k:fd.defaults<;>rw[k]at b<;>try exact bT b
   . exact .inl ⟨rfl,rfl⟩
   next T=>
    refine ah ((uQ ..).mp b) λl hl b=>kr hl λo L Q=>dh (MZ Q) λarr n q1 q2=> .inr ⟨T,o,arr,n,rfl,L,q1,?_⟩
    show(As C.K T).getD []=_
    exact Zrr hl q2
 . unfold itemsOf
   rw[c]
   cases k:fd.defaults<;>rw[k]at b<;>try exact bT b
   . have:=Av b
     rw[this];rfl
   next T=>
    refine ah ((uQ ..).mp b) λl hl b=> ?_
    show uR fn.defs ((As C.K T).getD [])=ab
    exact Zrr hl b
 . intro x i hx
   have:=cF.mp h.2.2.2.2.2.2.2.2.2.2.2.2.2.2.2.2.1 _ (mem_of_lookup hx)
   simp only[fY,lY,beq_iff_eq]at this
   refine⟨this.1,λy hi U=> ?_⟩
   rcases this.2 with q|q
   . lia
   . rw[U]at q;exact(je q).symm
def aee (K:Frag)(a:List aO)(b:List SL):Mw where
 fa:=λf=>a.getD f 0
 fd:=λf=>fdOf K (a.getD f 0)
 ns:=λf=>Au K (a.getD f 0)
 body:=λf=>bodyOf K (a.getD f 0)
 sl:=λf=>b.getD f []
 items:=λf=>itemsOf K (a.getD f 0)
def Aw (K:Frag)(M:MC):List Fn->List aO->List SL->Bool
 | [],_,_=>ab
 |fn::r,a,b=>ER K M fn (a.headD 0) (b.headD []) &&Aw K M r a.tail b.tail
theorem aef {K}{M}:∀ {fns:List Fn} {b:List _} {c:List SL} {f:Nat} {fn:Fn},Aw K M fns b c=ab->fns[f]?=S fn->ER K M fn (b.getD f 0) (c.getD f [])=true:=by
 intro k
 induction k with
 |nil=>exact λ_ h=>nomatch h
 |cons g r o=>
  intro b c f fn h hf
  have a:=dF.mp h
  cases f with
  |zero=>
   cases hf
   have:=a.1
   cases b<;>cases c<;>exact this
  |succ f=>
   have:=o a.2 hf
   cases b<;>cases c<;>exact this
noncomputable def Ax (K:Frag)(cls:Nat->aO)(fa:Nat->aO):Nat->List Nat->Bool
 |_,[]=>ab
 |c,f::r=>findIn K (.ref (cls c)) "__init__" ==S (S (.ref (fa f))) &&typeIn K (.ref (fa f))==S (.type "function") &&makesIn K (cls c) &&Ax K cls fa (c+1) r
theorem aeg {K}{cls fa}:∀ {l:List _} {c j f:Nat},Ax K cls fa c l=ab->l[j]?=S f->
 findIn K (.ref (cls (c+j))) "__init__" =S (S (.ref (fa f)))/\typeIn K (.ref (fa f))=S (.type "function")/\makesIn K (cls (c+j))=true:=by
 intro k
 induction k with
 |nil=>exact λ_ h=>nomatch h
 |cons g r o=>
  intro c j f h hf
  have a:=dF.mp h
  cases j with
  |zero=>
   cases hf
   exact have a:=dF.mp a.1;have b:=dF.mp a.1;⟨eq_of_beq b.1,eq_of_beq b.2,a.2⟩
  |succ j=>
   have:=o a.2 hf
   rwa[ET]at this
noncomputable def EU (K:Frag)(l:List (Str×aO)):Bool:=l.all λp=>nsIn K mainGlobals p.1==S (S (.ref p.2)) && !(p.1==("__debug__" :Str)) &&keepIn K (.ref p.2)
def EW (K:Frag)(cls:Nat->aO)(fld:Nat->Str)(l:List ((Nat×Str)×aO)):Bool:=
 l.all λp=>decide (p.1.1<6) &&findIn K (.ref (cls p.1.1)) p.1.2==S (S (.ref p.2)) &&typeIn K (.ref p.2)==S (.type "function") && (List.range 27).all (λf=> !(hE p.1.1 f)||fld f !=p.1.2) &&keepIn K (.ref p.2)
noncomputable def EX:V->Value->Bool
 | .int i,.int j _=>i==j
 | .str l,.str x _=>x.cps.toList==l
 |_,_=>ae
def EY:List V->List Value->Bool
 | [],[]=>ab
 |a::r,v::q=>EX a v&&EY r q
 |_,_=>ae
def aeh (xs:List V)(o:Obj):Bool:=M0 o.cls==S "tuple" &&o.dict.isNone&&o.slots.isEmpty&& (EO o.data).any (EY xs)
def EZ (K:Frag)(a:V)(v:Value):Bool:=match a with
 | .tup xs=>match v with
  | .ref a=>(K.lookup a).any (aeh xs)
  |_=>ae
 |a=>EX a v
def xo (K:Frag)(jQ:Nat->Str):Nat->List V->Bool
 |_,[]=>ab
 |g,a::r=> !(jQ g==("__debug__" :Str)) && (nsIn K mainGlobals (jQ g)).join.any (EZ K a) &&xo K jQ (g+1) r
theorem M4 {a}{v}(e:EX a v=ab):VR C h N a v:=by
 cases a with
 |int i=>cases v with
  |int j t=>cases eq_of_beq e;exact⟨t,rfl⟩
  |_=>exact bT e
 |str l=>cases v with
  |str x t=>cases eq_of_beq e;exact⟨t,rfl⟩
  |_=>exact bT e
 |_=>exact bT e
theorem aei:∀ {xs:List V} {b:List _},EY xs b=ab->bI C h N xs b:=by
 intro c
 induction c with
 |nil=>
  intro b e
  cases b with
  |nil=>rfl
  |cons _ _=>exact bT e
 |cons a r k=>
  intro b e
  cases b with
  |nil=>exact bT e
  |cons v q=>exact⟨v,q,rfl,M4 (dF.mp e).1,k (dF.mp e).2⟩
theorem aej {N}(k:∀b o,C.h₀.get? b=S o->h.get? b=S o)(n:∀b o,C.h₀.get? b=S o->¬N b){a}{v}(e:EZ C.K a v=ab):VR C h N a v:=by
 cases a with
 |tup xs=>
  cases v with
  |ref a=>
   refine ah ((uQ ..).mp e) λo u e=> ?_
   obtain ⟨I,L,Q,sl⟩:=o
   have c:=dF.mp e
   have q:=dF.mp c.1
   have r:=dF.mp q.1
   have x:=Cf.mp q.2
   have y:=CZ.mp r.2
   subst x y
   cases aed (eq_of_beq r.1)
   refine ah ((uQ ..).mp c.2) λl hl D=>dh (MZ hl) λarr m O H=> ?_;subst O;subst H
   exact have h0:=C.X _ _ u;⟨a,_,_,rfl,n _ _ h0,k _ _ h0,aei D⟩
  |_=>exact bT e
 |_=>exact M4 e
theorem aek:∀ {l:List V} {g j:Nat} {a:V},xo C.K jQ g l=ab->l[j]?=S a->
 (jQ (g+j)== "__debug__")=ae/\∃v,nsIn C.K mainGlobals (jQ (g+j))=S (S v)/\EZ C.K a v=true:=by
 intro k
 induction k with
 |nil=>exact λ_ h=>nomatch h
 |cons b r o=>
  intro g j a h hf
  have z:=dF.mp h
  cases j with
  |zero=>
   cases hf
   exact have c:=dF.mp z.1;ah ((uQ ..).mp c.2) λv q u=>⟨(oB _).mp c.1,v,Option.join_eq_some_iff.mp q,u⟩
  |succ j=>
   have:=o z.2 hf
   rwa[ET]at this
theorem ael {P:Prog}(u:EU C.K M.fns=ab)(y:EW C.K C.cls C.fld M.s_=ab)(D:xo C.K M.jQ 0 P.fk=ab)(H:M.fld=C.fld)(I:M.cls=C.cls)(L:∀f,27<=f->∀c,hE c f=ae):EH C M P.fk where
 fns:=λx a hx=>by
  have:=cF.mp u _ (mem_of_lookup hx)
  simp only[fY,beq_iff_eq,oB]at this
  exact⟨this.1.1,this.1.2,this.2⟩
 s_:=λc x a hx=>by
  have:=cF.mp y _ (by
   have:∀ {l:List _},l.lookup (c,x)=S a->((c,x),a)∈l:=by
    intro l
    induction l with
    |nil=>intro h;exact aD h
    |cons p l Q=>
     intro h
     obtain ⟨k,v⟩:=p
     rw[k7]at h
     cases hb:(c,x)==k with
     |true=>rw[hb]at h;cases h;rw[beq_iff_eq.mp hb];exact cT
     |false=>rw[hb]at h;exact dA _ (Q h)
   exact this hx)
  simp only[fY,lY,oB,beq_iff_eq,decide_eq_true_eq,cF,bne_iff_ne,gu]at this
  refine au this λO U=>au O λY a4=>au Y λcu r=>au cu λb o=>⟨b,o,r,λf hf=> ?_,U⟩
  rcases f.lt_or_ge 27 with q|q
  . rcases a4 f q with z|z
    . rw[z]at hf;exact bT hf
    exact z
  . rw[L f q c]at hf;exact bT hf
 fk:=λg a hg=>by
  refine au (aek D hg) λb aF=>ah aF λv o r=> ?_;rw[fb]at b o
  exact⟨b,v,o,λh N k n=>aej k n r⟩
 fld:=H
 cls:=I
noncomputable def E0:List Addr:= [28,75,91,110,117,138,145,152,159,166,173,186,193,200,206,220,227,255,262,269,276,290,297,304,311,325,332,339,346,353,358,379,386,393,400,414,419,426,431,438,445,452,457,464,471,478,483,490,497,504,509,514,519,526,533,538,545,550]
noncomputable def aem:List Addr:= [94,176,237,279,361,403]
noncomputable def M5:List SL:=(([["rows","found","middle","one"],["mask","found","at","left"],["self","number","left","right","level_of","action","line","before"],["self","names","terminal_count","rules","levels","expect","start","rule"],["self"],["self","name"],["self","symbol"],["self","rule","dot"],["self","item"],["self","item"],["self","item","right","dot"],["grammar","number","dot","rule","words"],["grammar","item"],["right","terminal_count","found","symbol"],["pairs","start","lefts","left","parts","begin","names","name","count","rules","right"],["self","number","kernel","symbol"],["self","symbol"],["self","grammar","rows","rule"],["self","kernel","mask","item","symbol"],["self","kernel","found","symbol","number","item"]]:List (List Str))++ ([["self","kernel"],["grammar","kernel"],["grammar","item"],["grammar","items","found","item","symbol","ordered"],["grammar","items","found","item"],["self","grammar","states"],["self","state","symbol"],["self","state","symbols","here","symbol"],["self","state","symbols","found","symbol","here"],["self"],["self"],["self","grammar"],["self","kernel","symbol"],["self","state","behind","symbol"],["self","at"],["grammar"],["automaton","found","state","symbol"],["automaton","state","count","back","found","turn","earlier","here","one"],["automaton","begin","found","queue","at","here","moves","symbol"],["automaton","state"]]:List (List Str))++ ([["automaton","symbols"],["automaton","symbols","state"],["automaton","number"],["script","number","cell"],["pen","many","digit"],["pen","some"],["pen","names","pairs","name","turn","many"],["pairs","found","number","pair"],["groups","most","many","line","known","at","form","number","parts","later"],["groups","most","forms"],["groups","forms","most","found","form","number","parts","dot","word"],["grammar","pairs","shown","one"],["grammar","state","word","due","items","kernel","whole"],["grammar","machine","valid","most","line","firsts","at","word","state","symbol","name","later"],["machine","firsts","most","paths","state","path"],["machine","symbols","state","goals","symbol","aheads","one","goal","many","due","turn"],["pairs","number","dot","name","parts"],["script","drawn","pairs","grammar","groups","most","forms","valid","machine","walked","line","firsts","dues","ways_told","word","state","symbols","due","texts"]]:List (List Str))).map λl=>l.zipIdx
noncomputable def E3:List (Str×aO):= [(bY "transitive",28),(bY "bits",75),(bY "show_rule",186),(bY "show_item",193),(bY "last_terminal",200),(bY "plain_grammar",206),(bY "closure",290),(bY "advanced",297),(bY "kernels_behind",304),(bY "complete_rules",311),(bY "build",414),(bY "predecessors",419),(bY "states_before",426),(bY "paths_in_breadth",431),(bY "shortest_path",438),(bY "is_viable",445),(bY "valid_items",452),(bY "show_state",457),(bY "_law_pen",464),(bY "_law_draw",471),(bY "_law_pick",478),(bY "_law_pairs",483),(bY "_law_groups",490),(bY "_law_forms",497),(bY "_law_reach",504),(bY "_law_valid",509),(bY "_law_rules_told",514),(bY "_law_state_right",519),(bY "_law_walked",526),(bY "_law_paths_right",533),(bY "_law_back_right",538),(bY "_law_text",545),(bY "law",550),(bY "Rule",94),(bY "Grammar",176),(bY "LrState",237),(bY "Closer",279),(bY "Automaton",361),(bY "Builder",403)]
noncomputable def E4:List ((Nat×Str)×aO):= [((1,bY "symbol_count"),117),((1,bY "number"),138),((1,bY "rules_of"),145),((1,bY "item"),152),((1,bY "rule_of"),159),((1,bY "dot_of"),166),((1,bY "after"),173),((2,bY "goto"),227),((3,bY "wanted"),262),((3,bY "added"),269),((3,bY "close"),276),((4,bY "goto"),332),((4,bY "walk"),339),((4,bY "path"),346),((4,bY "final_state"),353),((4,bY "transition_count"),358),((5,bY "number_of"),386),((5,bY "expand"),393),((5,bY "built"),400)]
noncomputable def M6:List Str:= ["number","left","right","level_of","action","line","before","names","terminal_count","rules","levels","expect","start","by_left","offsets","owners","item_count","kernel","symbol","items","moves","reductions","grammar","firsts","states","closer","numbers"]
def l9 (f:Nat):Str:=M6.getD f ⟨(List.replicate (f+1) 0).toArray⟩
def lq (c:Nat):Addr:=aem.getD c 0
def ta (f:Nat):Addr:=E0.getD f 0
noncomputable def E5 (g:Nat):Str:=(["NONE","END","OWN_TERMINALS"]:List Str).getD g "?"
def tM:MC:= {fns:=E3,fa:=ta,cls:=lq,fld:=l9,s_:=E4,jQ:=E5}
theorem aen:∀f g,l9 f=l9 g->f=g:=by
 have b:∀f,27<=f->(l9 f).cps.size=f+1:=λf hf=>by
  unfold l9
  have:M6[f]?=none:=eU hf
  rw[Em,this]
  simp
 have c:∀f,f<27->(l9 f).cps.size<20:=by decide+kernel
 intro f g e
 rcases f.lt_or_ge 27 with hf|hf<;>rcases g.lt_or_ge 27 with a|a
 . exact(by decide+kernel:∀f,f<27->∀g,g<27->l9 f=l9 g->f=g) f hf g a e
 . exact absurd (e_ (mU a) (b g a▸e▸c f hf)) (by decide)
 . exact absurd (e_ (mU hf) (b f hf▸e▸c g a)) (by decide)
 . exact qR ((b f hf).symm.trans (e▸b g a))
theorem M8:∀f,27<=f->∀c,hE c f=false:=by
 intro f hf c
 rcases c with _|_|_|_|_|_|c
 . exact decide_eq_false (TM hf)
 . exact decide_eq_false λh=>absurd (bp hf h.2) (by decide)
 . exact decide_eq_false λh=>h.elim (λh=>absurd (h▸hf) (by decide)) λh=>absurd (bp hf h.2) (by decide)
 . exact decide_eq_false λh=>h.elim (λh=>absurd (h▸hf) (by decide)) λh=>absurd (h▸hf) (by decide)
 . exact decide_eq_false λh=>h.elim (λh=>absurd (h▸hf) (by decide)) λh=>absurd (h▸hf) (by decide)
 . exact decide_eq_false λh=>h.elim (λh=>absurd (h▸hf) (by decide)) λh=>absurd (bp hf h.2) (by decide)
 rfl
def E6 (K:Frag)(c:Nat):Bool:=
 findIn K (.ref (lq c)) "__getattribute__" ==S (S (.builtin "object.__getattribute__")) &&findIn K (.ref (lq c)) "__getattr__" ==S J&&
 findIn K (.ref (lq c)) "__setattr__" ==S (S (.builtin "object.__setattr__")) &&plainOver K (lq c) && (clsIn K (lq c)).any (·.hasDict) &&makesIn K (lq c)
def M9 (K:Frag)(c:Nat):Bool:=(List.range 27).all λf=> !(hE c f)||findIn K (.ref (lq c)) (l9 f)==S J
def M' (K:Frag):Bool:=qt.all λx=>nsIn K mainGlobals x==S J
structure Az (K:Frag):Prop where
 cls:(List.range 6).all (E6 K)=ab
 fld:(List.range 6).all (M9 K)=ab
 blt:M' K=ab
 fnt:EU K E3=ab
 mtt:EW K lq l9 E4=ab
 glt:xo K E5 0 prog.fk=ab
 ini:Ax K lq ta 0 prog.init=ab
 fns:Aw K tM prog.fns E0 M5=ab
def E7 {K:Frag}(k:Az K)(prog:Program)(w:World)(h₀:Heap){p:Program}{loose:List Str}{mg mb:Str->Option Value}(T:TopRead p loose mg mb h₀)(X:K.In h₀):CX where
 prog:=prog
 w:=w
 K:=K
 h₀:=h₀
 p:=p
 loose:=loose
 mg:=mg
 mb:=mb
 T:=T
 X:=X
 cls:=lq
 fld:=l9
 B5:=aen
 yI:=λc o=>by
  have:=cF.mp k.cls c (gu.mpr o)
  unfold E6 at this
  simp only[fY,beq_iff_eq]at this
  ((refine au this λO f=> ?_;clear this);refine au O λr e=> ?_;clear O;refine au r λu d=> ?_;clear r;refine au u λy c=> ?_;clear u;refine au y λa b=> ?_;clear y)
  exact⟨a,b,c,d,e,f⟩
 B6:=λc f h=>by
  have o:=Co h
  have hf:f<27:=by
   rcases uL f 27 with q|q
   . exact q
   . rw[M8 f q c]at h;exact bT h
  have:=cF.mp k.fld c (gu.mpr o)
  have:=cF.mp this f (gu.mpr hf)
  rw[h]at this
  simpa using this
 Iy:=λx hx=>by
  have:=cF.mp k.blt x hx
  simpa using this
theorem aeo {K}(k:Az K)(a)(w)(h₀){p}{loose}{mg mb}(T:TopRead p loose mg mb _)(X)(d):
 rh (E7 k a w h₀ T X) (aQ prog d) ta d:=have at_:=λf fn hf=>aef k.fns hf;sound (by
 refine⟨λf fn hf=>(M1 (at_ f fn hf)).1,λc f b=> ?_⟩
 have:=aeg k.ini b
 rwa[fb]at this:EA (E7 k a w _ T X) _ (aee K _ _)) (ael (M:=tM) k.fnt k.mtt k.glt rfl rfl M8) rfl (λf fn hf=>(M1 (C:=E7 k a w _ T X) (at_ f fn hf)).2) d
end
def Do (o:RS)(Q:Env->Hp->Prop)(R:X->Hp->Prop):Prop:=match o with
 |some (.next,ρ,σ)=>Q ρ σ
 |some (.ret x,_,σ)=>R x σ
 |none=>False
theorem aJ {α b:Type}{o}{a}{f:α->Option b}{r}(h:o=S a)(k:f a=r):o.bind f=r:=Zrr h k
theorem bP {α b:Type}{o}{a}{f:α->b}(h:o=S a):o.map f=S (f a):=by rw[h];rfl
theorem b8 {α:Type}{c} [Decidable c]{a b:α}(h:c):(if c then a else b)=a:=if_pos h
theorem jl {σ}{o}(h:o=S (.v (.bool b),σ)):o.bind gn=S (b,σ):=aJ h rfl
variable {ρ ρ':Env} {σ:Hp}
section
variable {cl:Cl} {aR bW rq M_:Hp} {e e1 e2 e3 o l r c t f:E} {es:Es} {x y z:X} {a b:V} {k:Nat} {p q:Bool} {it:It} {xs ys:List X} {vs:List V}
theorem aa (h:slot ρ i=S x):az cl (.var i) ρ σ=S (x,σ):=bP h
theorem aP:az cl (.cst a) ρ σ=S (.v a,σ):=rfl
theorem lr (h:cl.fk[g]?=S a):az cl (.glob g) ρ σ=S (.v a,σ):=bP h
theorem a_ {f}(u:az cl o ρ σ=S (y,aR))(D:ef aR y f=S x):az cl (.attr o f) ρ σ=S (x,aR):=aJ u (bP D)
theorem bu (u:az cl o ρ σ=S (y,aR))(D:az cl e ρ aR=S (.v a,bW))(H:bZ bW y a=S x):az cl (.idx o e) ρ σ=S (x,bW):=aJ u (aJ D (bP H))
theorem pI (u:az cl o ρ σ=S (.v a,aR))(D:az cl e ρ aR=S (.v b,bW)){v}(H:mJ a b=S v):az cl (.kQ o e) ρ σ=S (.v v,bW):=aJ u (aJ D (bP H))
theorem aep (u:az cl o ρ σ=S (.v a,aR))(D:az cl e ρ aR=S (.v b,bW)){v}(H:tQ a b=S v):az cl (.vw o e) ρ σ=S (.v v,bW):=aJ u (aJ D (bP H))
theorem b9 (u:az cl l ρ σ=S (.v a,aR))(D:az cl r ρ aR=S (.v b,bW)){v}(H:cV I a b=S v):az cl (.bin ae I l r) ρ σ=S (.v v,bW):=aJ u (aJ D (bP H))
theorem aeq (u:az cl l ρ σ=S (.v a,aR))(D:az cl r ρ aR=S (.v b,bW))(H:cV I a b=S (.lst vs)):az cl (.bin ab I l r) ρ σ=S (.ref bW.length,bW++ [.lst (vs.map .v)]):=aJ u (aJ D (aJ H rfl))
theorem br (u:az cl l ρ σ=S (x,aR))(D:az cl r ρ aR=S (y,bW))(H:cO bW I x y=S p):az cl (.cmp I l r) ρ σ=S (.v (.bool p),bW):=aJ u (aJ D (bP H))
theorem tb (h:az cl e ρ σ=S (x,aR))(u:tV n x=p):az cl (.isNone n e) ρ σ=S (.v (.bool p),aR):=u▸bP h
theorem Na (u:az cl l ρ σ=S (.v (.bool ae),aR)):az cl (.and l r) ρ σ=S (.v (.bool ae),aR):=aJ (jl u) rfl
theorem xp (u:az cl l ρ σ=S (.v (.bool ab),aR))(D:az cl r ρ aR=S (.v (.bool q),bW)):az cl (.and l r) ρ σ=S (.v (.bool q),bW):=aJ (jl u) (bP (jl D))
theorem aer (u:az cl l ρ σ=S (.v (.bool ab),aR)):az cl (.or l r) ρ σ=S (.v (.bool ab),aR):=aJ (jl u) rfl
theorem jT (u:az cl l ρ σ=S (.v (.bool ae),aR))(D:az cl r ρ aR=S (.v (.bool q),bW)):az cl (.or l r) ρ σ=S (.v (.bool q),bW):=aJ (jl u) (bP (jl D))
theorem xt (u:az cl l ρ σ=S (.v (.bool p),σ))(D:p=ab->az cl r ρ σ=S (.v (.bool q),σ)):az cl (.and l r) ρ σ=S (.v (.bool (p&&q)),σ):=by
 cases p
 . exact Na u
 exact xp u (D rfl)
theorem aes (u:az cl l ρ σ=S (.v (.bool p),σ))(D:p=ae->az cl r ρ σ=S (.v (.bool q),σ)):az cl (.or l r) ρ σ=S (.v (.bool (p||q)),σ):=by
 cases p
 . exact jT u (D rfl)
 exact aer u
theorem xw (h:az cl e ρ σ=S (.v (.bool p),aR)):az cl (.not e) ρ σ=S (.v (.bool !p),aR):=bP (jl h)
theorem AA (u:az cl c ρ σ=S (.v (.bool ab),aR))(D:az cl t ρ aR=S (x,bW)):az cl (.ite c t f) ρ σ=S (x,bW):=aJ (jl u) D
theorem AD (u:az cl c ρ σ=S (.v (.bool ae),aR))(D:az cl f ρ aR=S (x,bW)):az cl (.ite c t f) ρ σ=S (x,bW):=aJ (jl u) D
theorem eY (h:fV cl es ρ σ=S (xs,aR))(hl:xs.length<aE)(u:fA xs=S vs):az cl (.tup es) ρ σ=S (.v (.tup vs),aR):=aJ h ((b8 hl).trans (bP u))
theorem fS (h:fV cl es ρ σ=S (xs,aR))(hl:xs.length<aE)(u:fA xs=S vs):az cl (.lst ae es) ρ σ=S (.v (.lst vs),aR):=aJ h ((b8 hl).trans (bP u))
theorem iG (h:fV cl es ρ σ=S (xs,aR))(hl:xs.length<aE):az cl (.lst ab es) ρ σ=S (.ref aR.length,aR++ [.lst xs]):=aJ h (b8 hl)
theorem jm {t}(D:iw cl it ρ σ=S (vs,aR))(H:mO (λa af=>(bV t a ρ).bind (az cl e · af)) vs aR=S (xs,bW))(hl:xs.length<aE){u}(I:fA xs=S u):az cl (.comp ae t it e) ρ σ=S (.v (.lst u),bW):=aJ D (aJ H ((b8 hl).trans (bP I)))
theorem E8 {t}(u:iw cl it ρ σ=S (vs,aR))(D:mO (λa af=>(bV t a ρ).bind (az cl e · af)) vs aR=S (xs,bW))(hl:xs.length<aE):az cl (.comp ab t it e) ρ σ=S (.ref bW.length,bW++ [.lst xs]):=aJ u (aJ D (b8 hl))
theorem xx {t}(D:iw cl it ρ σ=S (vs,aR))(H:qo (λa af=>(bV t a ρ).bind λρ'=>(az cl c ρ' af).bind gn) (λa af=>(bV t a ρ).bind (az cl e · af)) vs aR=S (xs,bW))(hl:xs.length<aE){u}(I:fA xs=S u):az cl (.iQ ae t it c e) ρ σ=S (.v (.lst u),bW):=aJ D (aJ H ((b8 hl).trans (bP I)))
theorem cw {f}(h:az cl e ρ σ=S (x,aR))(u:cB aR f x=S (.val a)):az cl (.bf m f e) ρ σ=S (.v a,aR):=aJ h (aJ u rfl)
theorem iH {f}(h:az cl e ρ σ=S (x,aR))(u:cB aR f x=S (.items vs)):az cl (.bf ae f e) ρ σ=S (.v (.lst vs),aR):=aJ h (aJ u rfl)
theorem Nb {f}(h:az cl e ρ σ=S (x,aR))(u:cB aR f x=S (.items vs)):az cl (.bf ab f e) ρ σ=S (.ref aR.length,aR++ [.lst (vs.map .v)]):=aJ h (aJ u rfl)
theorem d7 {f}(h:az cl o ρ σ=S (x,aR))(u:r5 aR x=S f.ty)(D:fV cl es ρ aR=S (xs,bW))(H:gJ bW f x xs=S (y,rq)):az cl (.da o f es) ρ σ=S (y,rq):=aJ h ((b8 u).trans (aJ D H))
theorem c6 {f}(h:fV cl es ρ σ=S (xs,aR))(u:cl.call f xs aR=S (x,bW)):az cl (.call f es) ρ σ=S (x,bW):=aJ h u
theorem cX {c f}(h:az cl o ρ σ=S (x,aR))(u:n6 aR x=S c)(D:fV cl es ρ aR=S (xs,bW))(H:cl.call f (x::xs) bW=S (y,rq)):az cl (.bN o c f es) ρ σ=S (y,rq):=aJ h ((b8 u).trans (aJ D H))
theorem rt {c}(h:fV cl es ρ σ=S (xs,aR))(u:cl.new c xs aR=S (x,bW)):az cl (.new c es) ρ σ=S (x,bW):=aJ h u
theorem aA:fV cl .nil ρ σ=S ([],σ):=rfl
theorem aj (h:az cl e ρ σ=S (x,aR))(u:fV cl es ρ aR=S (xs,bW)):fV cl (.cons e es) ρ σ=S (x::xs,bW):=aJ h (bP u)
theorem c7 (h:az cl e ρ σ=S (.v a,aR))(u:kT a=S vs):iw cl (.of e) ρ σ=S (vs,aR):=aJ h (bP u)
theorem oL (h:az cl e ρ σ=S (.v (.lst vs),aR)):iw cl (.hC e) ρ σ=S (vs,aR):=aJ h rfl
theorem E9 (h:az cl e ρ σ=S (.v (.lst vs),aR))(hl:vs.length<aE):iw cl (.enum e) ρ σ=S (lR 0 vs,aR):=aJ h (b8 hl)
variable {Q:Env->Hp->Prop} {R:X->Hp->Prop} {ss B tt ff:Ss} {s:fj}
theorem bk (h:Q ρ σ):Do (aZ cl .nil ρ σ) Q R:=h
theorem ru (h:qq cl s ρ σ=S (.next,ρ',aR))(k:Do (aZ cl ss ρ' aR) Q R):Do (aZ cl (.cons s ss) ρ σ) Q R:=have:aZ cl (.cons s ss) ρ σ=aZ cl ss _ _:=aJ h rfl;Zrr this k
theorem bz (h:az cl e ρ σ=S (x,aR))(k:Do (aZ cl ss (ρ.set i (S x)) aR) Q R):Do (aZ cl (.cons (.set i e) ss) ρ σ) Q R:=ru (bP h) k
theorem fF (h:az cl e ρ σ=S (x,aR))(k:Do (aZ cl ss ρ aR) Q R):Do (aZ cl (.cons (.ex e) ss) ρ σ) Q R:=ru (bP h) k
theorem cb (h:az cl e ρ σ=S (x,aR))(k:R x aR):Do (aZ cl (.cons (.ret e) ss) ρ σ) Q R:=have:aZ cl (.cons (.ret e) ss) ρ σ=S _:=aJ (bP h) rfl;Zrr this k
theorem l_ (h:slot ρ i=S x)(u:fz FZ σ x=S (a,aR))(k:Do (aZ cl ss (ρ.set i (S (.v a))) aR) Q R):Do (aZ cl (.cons (.iu i) ss) ρ σ) Q R:=ru (aJ h (bP u)) k
theorem dU {f}(u:az cl e ρ σ=S (x,aR))(D:az cl o ρ aR=S (y,bW))(H:r6 bW y f x=S rq)(k:Do (aZ cl ss ρ rq) Q R):Do (aZ cl (.cons (.dy o f e) ss) ρ σ) Q R:=ru (aJ u (aJ D (bP H))) k
theorem jU (u:az cl e ρ σ=S (x,aR))(D:az cl o ρ aR=S (y,bW))(H:az cl r ρ bW=S (.v a,rq))(I:mM rq y a x=S M_)(k:Do (aZ cl ss ρ M_) Q R):Do (aZ cl (.cons (.gk o r e) ss) ρ σ) Q R:=ru (aJ u (aJ D (aJ H (bP I)))) k
theorem AE (h:fV cl es ρ σ=S (xs,aR))(u:gZ is xs ρ=S ρ')(k:Do (aZ cl ss ρ' aR) Q R):Do (aZ cl (.cons (.ql is es) ss) ρ σ) Q R:=ru (aJ h (bP u)) k
theorem xy (h:az cl e ρ σ=S (.v (.tup vs),aR))(u:gZ is (vs.map .v) ρ=S ρ')(k:Do (aZ cl ss ρ' aR) Q R):Do (aZ cl (.cons (.mG is e) ss) ρ σ) Q R:=ru (aJ h (bP u)) k
theorem Do.mono {o}{u}{D}(h:Do o Q R)(q:∀ρ σ,Q ρ σ->u ρ σ)(r:∀x σ,R x σ->D x σ):Do o u D:=by
 rcases o with _| ⟨_|x,ρ,σ⟩
 . exact h
 . exact q _ _ h
 exact r _ _ h
theorem E_ (h:Do (qq cl s ρ σ) P R)(k:∀ρ' af,P ρ' af->Do (aZ cl ss ρ' af) Q R):Do (aZ cl (.cons s ss) ρ σ) Q R:=by
 rcases q:qq cl s ρ σ with _| ⟨_|x,ρ',af⟩
 . rw[q]at h;exact h.elim
 . rw[q]at h
   exact ru q (k _ _ h)
 . rw[q]at h
   exact have:aZ cl (.cons s ss) ρ σ=S _:=aJ q rfl;Zrr this h
theorem aet (h:az cl c ρ σ=S (.v (.bool p),aR))(kt:p=ab->Do (aZ cl tt ρ aR) Q R)(u:p=ae->Do (aZ cl ff ρ aR) Q R):Do (qq cl (.ite c tt ff) ρ σ) Q R:=by
 have e:qq cl (.ite c tt ff) ρ σ=match p with|true=>aZ cl tt ρ aR|false=>aZ cl ff ρ aR:=aJ (jl h) (by cases p<;>rfl)
 rw[e]
 cases p
 . exact u rfl
 exact kt rfl
theorem jV (h:az cl c ρ σ=S (.v (.bool p),aR))(kt:p=ab->Do (aZ cl tt ρ aR) P R)(u:p=ae->Do (aZ cl ff ρ aR) P R)(k:∀ρ' af,P ρ' af->Do (aZ cl ss ρ' af) Q R):Do (aZ cl (.cons (.ite c tt ff) ss) ρ σ) Q R:=E_ (aet h kt u) k
theorem gw (h:az cl c ρ σ=S (.v (.bool ae),aR))(k:Do (aZ cl ss ρ aR) Q R):Do (aZ cl (.cons (.ite c tt .nil) ss) ρ σ) Q R:=jV (P:=λρ' u=>ρ'=ρ/\u=aR) h nofun (λ_=>bk ⟨rfl,rfl⟩) (by lia)
theorem uU (h:az cl c ρ σ=S (.v (.bool ab),aR))(u:Do (aZ cl tt ρ aR) P R)(k:∀ρ' af,P ρ' af->Do (aZ cl ss ρ' af) Q R):Do (aZ cl (.cons (.ite c tt ff) ss) ρ σ) Q R:=jV h (λ_=>u) nofun k
end
theorem aeu {A:Type}{t}{b}{R}(o)(xs)(I:List A->Env->Hp->Prop)
 (step:∀done a rest ρ σ,xs=done++a::rest->I done ρ σ->∃k,bV t (o a) ρ=S k/\Do (b k σ) (I (done++ [a])) R):
 ∀(rest done:List A),xs=done++rest->∀ρ σ,I done ρ σ->Do (n8 t b (rest.map o) ρ σ) (I xs) R:=by
 intro r
 induction r with
 |nil=>
  intro done e ρ σ i
  rw[dg]at e;subst e
  exact i
 |cons a rest u=>
  refine λdone e ρ σ i=>ah (step _ a _ ρ σ e i) λk q c=> ?_
  rcases h:b _ σ with _| ⟨_|x,y,D⟩
  . rw[h]at c;exact c.elim
  . rw[h]at c
    exact have:n8 t b ((a::rest).map _) ρ σ=n8 t b _ _ _:=aJ q (aJ h rfl);Zrr this (u _ (by simp[e]) _ _ c)
  . rw[h]at c
    exact have:n8 t b ((a::rest).map _) ρ σ=S _:=aJ q (aJ h rfl);Zrr this c
theorem Nc {A:Type}{cl}{t}{it}{B b}{ρ}{σ c}{Q}{R}(k)(xs)
 (I:List A->Env->Hp->Prop)(q:iw cl it ρ σ=S (xs.map k,c))(init:I [] ρ c)
 (step:∀done a rest ρ σ,xs=done++a::rest->I done ρ σ->∃o,bV t (k a) ρ=S o/\Do (aZ cl B o σ) (I (done++ [a])) R)
 (post:∀ρ σ,I xs ρ σ->Do (aZ cl b ρ σ) Q R):Do (aZ cl (.cons (.cq t it B) b) ρ σ) Q R:=E_ (have:qq cl (.cq t it B) ρ σ=n8 t _ _ ρ _:=aJ q rfl;Zrr this (aeu _ xs I step xs [] rfl ρ _ init)) post
theorem Fb {done rest}{a}(h: .range n=done++a::rest):a<n:=by
 have:a∈List.range n:=by rw[h];simp
 simpa using this
theorem Nd {done rest}{a}(h: .range n=done++a::rest):done= .range a/\a<n:=by
 have ha:=Fb h
 refine⟨?_,ha⟩
 have hl:=by
  have:(List.range n)[done.length]?=S a:=by rw[h];simp
  rw[dk]at this
  refine ao this λq e=> ?_;simpa using e
 have:(List.range n).take a=done:=by rw[h,hl.symm];simp
 rw[this.symm,List.take_range]
 lia
theorem Fc {it}{B b}{ρ}{σ c}{Q}{R}(o)(n)
 (I:Nat->Env->Hp->Prop)(r:iw cl it ρ σ=S ((List.range n).map o,c))(init:I 0 ρ c)
 (step:∀k ρ σ,k<n->I k ρ σ->∃q,bV t (o k) ρ=S q/\Do (aZ cl B q σ) (I (k+1)) R)
 (post:∀ρ σ,I n ρ σ->Do (aZ cl b ρ σ) Q R):Do (aZ cl (.cons (.cq t it B) b) ρ σ) Q R:=by
 refine Nc _ _ (λdone=>I done.length) r init ?_ ?_
 . refine λdone a rest ρ σ h i=>au (Nd h) λO ha=> ?_;subst O
   simp only[cP,aY]at i ⊢
   exact step a ρ σ ha i
 . intro ρ σ i
   rw[cP]at i
   exact post ρ σ i
theorem aev {T:Type}{c}{b}{Q}{R}(I:T->Env->Hp->Prop)(m:T->Nat)
 (step:∀s ρ σ,I s ρ σ->∃g,c ρ σ=S (g,σ)/\(g=ae->Q ρ σ)/\(g=ab->Do (b ρ σ) (λρ' af=>∃q,m q<m s/\I q ρ' af) R)):
 ∀(k:Nat) s ρ σ,I s ρ σ->m s<k->Do (qp c b k ρ σ) Q R:=by
 intro u
 induction u with
 |zero=>
  exact λs ρ σ _ h=>absurd h (HG _)
 |succ k y=>
  refine λs ρ σ i h=>cD (step s ρ σ i) λg r D a=> ?_
  cases g with
  |false=>
   have:qp c b (k+1) ρ σ=S _:=aJ r rfl
   rw[this];exact D rfl
  |true=>
   have a:=a rfl
   rcases o:b ρ σ with _| ⟨_|x,H,U⟩
   . rw[o]at a;exact a.elim
   . rw[o]at a
     exact ah a λq L O=>have:qp c b (k+1) ρ σ=qp c b k _ _:=aJ r (aJ o rfl);Zrr this (y q _ _ O (d_ L (fU h)))
   . rw[o]at a
     exact have:qp c b (k+1) ρ σ=S _:=aJ r (aJ o rfl);Zrr this a
theorem aew {T:Type}{cl}{c}{B a}{ρ}{σ}{Q}{R}(I:T->Env->Hp->Prop)(m:T->Nat)(s)
 (init:I s ρ σ)(hm:m s<W)
 (step:∀s ρ σ,I s ρ σ->∃g,az cl c ρ σ=S (.v (.bool g),σ)/\(g=ae->Do (aZ cl a ρ σ) Q R)/\(g=ab->Do (aZ cl B ρ σ) (λρ' af=>∃b,m b<m s/\I b ρ' af) R)):
 Do (aZ cl (.cons (.mH c B) a) ρ σ) Q R:=E_ (aev I m (λs ρ σ i=>cD (step s ρ σ i) λg k o q=>⟨g,jl k,o,q⟩) W s ρ σ init hm) λ_ _ h=>h
def Pk (I:(Env->Hp->Prop)->Prop)(ρ:Env)(σ:Hp):Prop:=∀K,I K->K ρ σ
def Fd (t:jC)(a:V)(b:Env->Hp->RS)(K:Env->Hp->Prop)(R:X->Hp->Prop)(ρ:Env)(σ:Hp):Prop:=∃c,bV t a ρ=S c/\Do (b c σ) K R
theorem bt {ρ c}{σ}(h:bV t a ρ=S c)(k:Do (b c σ) K R):Fd t a b K R ρ σ:=⟨_,h,k⟩
theorem kq {K:Env->Hp->Prop}{ρ}{σ a}(h:K ρ a)(e:σ=a):K ρ σ:=e▸h
theorem d8 {A:Type}{cl:Cl}{t:jC}{it:It}{B c:Ss}{ρ:Env}{σ o:Hp}{Q:Env->Hp->Prop}{R:X->Hp->Prop}(b:A->V)(xs:List A)
 (I:List A->(Env->Hp->Prop)->Prop)(q:iw cl it ρ σ=S (xs.map b,o))(init:∀K,I [] K->K ρ o)
 (step:∀done a rest K,I (done++ [a]) K->xs=done++a::rest->I done (Fd t (b a) (aZ cl B) K R))
 (post:I xs λρ σ=>Do (aZ cl c ρ σ) Q R)(ref:∀d K,(∀ρ σ,Pk (I d) ρ σ->K ρ σ)->I d K:=by intro _ _ h;intros;apply h;intro _ k;apply k<;>assumption):Do (aZ cl (.cons (.cq t it B) c) ρ σ) Q R:=
 Nc b xs (λd=>Pk (I d)) q init (λ_ _ _ _ _ e h=>h _ (step _ _ _ _ (ref _ _ λ_ _ h=>h) e)) λ_ _ h=>h _ post
theorem uV {cl:Cl}{t:jC}{it:It}{B b:Ss}{ρ:Env}{σ c:Hp}{Q:Env->Hp->Prop}{R:X->Hp->Prop}(a:Nat->V)(n:Nat)
 (I:Nat->(Env->Hp->Prop)->Prop)(o:iw cl it ρ σ=S ((List.range n).map a,c))(init:∀K,I 0 K->K ρ c)
 (step:∀k K,I (k+1) K->k<n->I k (Fd t (a k) (aZ cl B) K R))
 (post:I n λρ σ=>Do (aZ cl b ρ σ) Q R)(ref:∀d K,(∀ρ σ,Pk (I d) ρ σ->K ρ σ)->I d K:=by intro _ _ h;intros;apply h;intro _ k;apply k<;>assumption):Do (aZ cl (.cons (.cq t it B) b) ρ σ) Q R:=
 Fc a n (λd=>Pk (I d)) o init (λ_ _ _ e h=>h _ (step _ _ (ref _ _ λ_ _ h=>h) e)) λ_ _ h=>h _ post
def Nf (cl:Cl)(c:E)(B a:Ss)(K Q:Env->Hp->Prop)(R:X->Hp->Prop)(ρ:Env)(σ:Hp):Prop:=∃g,az cl c ρ σ=S (.v (.bool g),σ)/\(g=ae->Do (aZ cl a ρ σ) Q R)/\(g=ab->Do (aZ cl B ρ σ) K R)
theorem wt {B a}{K Q}{R}{ρ}{σ}(g)(h:az cl c ρ σ=S (.v (.bool g),σ))(b:g=ae->Do (aZ cl a ρ σ) Q R)(k:g=ab->Do (aZ cl B ρ σ) K R):Nf cl c B a K Q R ρ σ:=⟨g,h,b,k⟩
theorem uW {T:Type}{cl:Cl}{c:E}{B b:Ss}{ρ:Env}{σ:Hp}{Q:Env->Hp->Prop}{R:X->Hp->Prop}(I:T->(Env->Hp->Prop)->Prop)(m:T->Nat)(s:T)
 (init:∀K,I s K->K ρ σ)(hm:m s<W)(step:∀s K,(∀a,m a<m s->I a K)->I s (Nf cl c B b K Q R))(ref:∀d K,(∀ρ σ,Pk (I d) ρ σ->K ρ σ)->I d K:=by intro _ _ h;intros;apply h;intro _ k;apply k<;>assumption):
 Do (aZ cl (.cons (.mH c B) b) ρ σ) Q R:=
 aew (λd=>Pk (I d)) m s init hm λs _ _ h=>h _ (step s (λρ σ=>∃a,m a<m s/\Pk (I a) ρ σ) λa l=>ref _ _ λ_ _ q=>⟨a,l,q⟩)
theorem tc {cl:Cl}{c:E}{b o q:Ss}{ρ:Env}{σ a:Hp}{Q:Env->Hp->Prop}{R:X->Hp->Prop}{p:Bool}(I:(Env->Hp->Prop)->Prop)(h:az cl c ρ σ=S (.v (.bool p),a))
 (kt:∀K,I K->p=ab->Do (aZ cl b ρ a) K R)(r:∀K,I K->p=ae->Do (aZ cl o ρ a) K R)(k:I λρ σ=>Do (aZ cl q ρ σ) Q R)
 (ref:∀(_:Unit) K,(∀ρ σ,Pk I ρ σ->K ρ σ)->I K:=by intro _ _ h;intros;apply h;intro _ k;apply k<;>assumption):Do (aZ cl (.cons (.ite c b o) q) ρ σ) Q R:=
 jV (P:=Pk I) h (kt _ (ref () _ λ_ _ h=>h)) (r _ (ref () _ λ_ _ h=>h)) λ_ _ h=>h _ k
theorem jX (k)(σ)(a):fz k σ (.v a)=S (a,σ):=by cases k<;>rfl
def Fz (a:V)(x:X)(σ:Hp):Prop:=∃b,fz FZ σ x=S (a,b)
theorem c8 {a b}{σ}(h:b=a):Fz a (.v b) σ:=⟨σ,by rw[h];rfl⟩
theorem xA {D}(h:0<D):aQ P D=⟨BY (aQ P (D - 1)) P,BZ (aQ P (D - 1)) P,P.fk⟩:=by
 cases D with
 |zero=>exact absurd h (vK 0)
 |succ d=>rfl
theorem lu:(aQ P D).fk=P.fk:=by cases D<;>rfl
theorem xB {fn}{ρ}{as}{σ}{K}(a:frameOf fn as=S ρ)(hr:Do (aZ cl fn.body ρ σ) (λ_ af=>K (.v .none) af) K):∃x af,n9 cl fn as σ=S (x,af)/\K x af:=by
 rcases h:aZ cl _ ρ σ with _| ⟨_|x,ρ',af⟩
 . rw[h]at hr;exact hr.elim
 . rw[h]at hr;exact⟨_,_,aJ a (bP h),hr⟩
 . rw[h]at hr;exact⟨_,_,aJ a (bP h),hr⟩
theorem oM {as}{b}{σ}{a}(c:0<D)(hf:prog.fns[f]?=S fn)(k:fn.pure=ab)(o:fA as=S b)
 (q:frameOf fn as=S ρ)(hr:Do (aZ (aQ prog (D - 1)) fn.body ρ []) (λ_ _=>a= .none) (Fz a)):(aQ prog D).call f as σ=S (.v a,σ):=by
 refine dh (xB q (hr.mono (λ_ σ h=>c8 h.symm) λ_ _ h=>h)) λx H r u=>ao u λI y=> ?_;rw[xA c]
 exact aJ hf (Zrr k (aJ o (aJ r (bP y))))
theorem ec {as}{vs}{σ}{a}(c:0<D)(hf:prog.fns[f]?=S fn)(k:fn.pure=ab)(o:fA as=S vs)
 (q:frameOf fn as=S ρ)(hr:∀(T:X->Hp->Prop),(∀ {x b},Fz a x b->T x b)->Do (aZ (aQ prog (D - 1)) fn.body ρ []) (λ_ _=>False) T):(aQ prog D).call f as σ=S (.v a,σ):=
 oM c hf k o q ((hr _ λh=>h).mono (λ_ _ h=>h.elim) λ_ _ h=>h)
theorem AF {as}{σ}{K}(a:0<D)(hf:prog.fns[f]?=S fn)(b:fn.pure=ae)
 (c:frameOf fn as=S ρ)(hr:Do (aZ (aQ prog (D - 1)) fn.body ρ σ) (λ_ af=>K (.v .none) af) K):∃x af,(aQ prog D).call f as σ=S (x,af)/\K x af:=by
 refine dh (xB c hr) λx q k o=>⟨x,_,?_,o⟩
 rw[xA a]
 exact aJ hf (Zrr b k)
theorem Fe {as}{vs}{σ}{a}(b:0<D)(k:prog.init[c]?=S f)(hf:prog.fns[f]?=S fn)
 (o:prog.vx[c]?=S ab)(q:fA as=S vs)(r:frameOf fn (.ref 0::as)=S ρ)
 (hr:Do (aZ (aQ prog (D - 1)) fn.body ρ [.obj c []]) (λ_ af=>Fz a (.ref 0) af) λ_ _=>False):(aQ prog D).new c as σ=S (.v a,σ):=by
 refine bo (xB (K:=λx af=>x= .v _/\Fz a _ af) r (hr.mono (λ_ σ h=>⟨rfl,h⟩) λ_ _ h=>h.elim)) λx I u O y=>ao y λL H=> ?_;subst O
 rw[xA b]
 exact aJ k (aJ hf (aJ o (aJ q (aJ u (bP H)))))
theorem aex {as}{σ}{K:X->Hp->Prop}(a:0<D)(b:prog.init[c]?=S f)(hf:prog.fns[f]?=S fn)
 (k:prog.vx[c]?=S ae)(o:frameOf fn (.ref σ.length::as)=S ρ)
 (hr:Do (aZ (aQ prog (D - 1)) fn.body ρ (σ++ [.obj c []])) (λ_ af=>K (.ref σ.length) af) λ_ _=>False):∃x af,(aQ prog D).new c as σ=S (x,af)/\K x af:=by
 refine bo (xB (K:=λx af=>x= .v _/\K _ af) o (hr.mono (λ_ σ h=>⟨rfl,h⟩) λ_ _ h=>h.elim)) λx u q O r=> ?_;subst O
 refine⟨_,_,?_,r⟩
 rw[xA a]
 exact aJ b (aJ hf (aJ k (aJ q rfl)))
theorem Ff {as}{σ}{K:X->Hp->Prop}(b:0<D)(hf:prog.fns[f]?=S fn)(c:fn.pure=ae)
 (k:frameOf fn as=S ρ)(hr:∀T,(∀ {x a},K x a->T x a)->Do (aZ (aQ prog (D - 1)) fn.body ρ σ) (λ_ _=>False) T):∃x a,(aQ prog D).call f as σ=S (x,a)/\K x a:=
 AF b hf c k ((hr K λh=>h).mono (λ_ _ h=>h.elim) λ_ _ h=>h)
theorem aey {as}{σ a}(c:0<D)(hf:prog.fns[f]?=S fn)(k:fn.pure=ae)(o:frameOf fn as=S ρ)
 (hr:∀Q,(∀ρ,Q ρ a)->Do (aZ (aQ prog (D - 1)) fn.body ρ σ) Q λ_ _=>False):(aQ prog D).call f as σ=S (.v .none,a):=by
 refine bo (AF (K:=λx b=>x= .v _/\b=a) c hf k o ((hr (λ_ b=>b=a) λ_=>rfl).mono (λ_ _ h=>⟨rfl,h⟩) λ_ _ h=>h.elim)) λx b h O q=> ?_;subst O;subst q
 exact h
theorem Ng {as}{x}{σ a}(c:0<D)(hf:prog.fns[f]?=S fn)(k:fn.pure=ae)(o:frameOf fn as=S ρ)
 (hr:∀T,T x a->Do (aZ (aQ prog (D - 1)) fn.body ρ σ) (λ_ _=>False) T):(aQ prog D).call f as σ=S (x,a):=by
 refine bo (AF c hf k o ((hr (λy b=>y=x/\b=a) ⟨rfl,rfl⟩).mono (λ_ _ h=>h.elim) λ_ _ h=>h)) λy b h O q=> ?_;subst O;subst q
 exact h
theorem Fg {as}{σ a}(k:0<D)(o:prog.init[c]?=S f)(hf:prog.fns[f]?=S fn)
 (q:prog.vx[c]?=S ae)(r:frameOf fn (.ref σ.length::as)=S ρ)
 (hr:∀Q,(∀ρ,Q ρ a)->Do (aZ (aQ prog (D - 1)) fn.body ρ (σ++ [.obj c []])) Q λ_ _=>False):(aQ prog D).new c as σ=S (.ref σ.length,a):=by
 refine bo (aex (K:=λx b=>x= .ref _/\b=a) k o hf q r ((hr (λ_ b=>b=a) λ_=>rfl).mono (λ_ _ h=>⟨rfl,h⟩) λ_ _ h=>h.elim)) λx b h O u=> ?_;subst O;subst u
 exact h
noncomputable def nV (n:Nat):V:= .int (n:Int)
theorem fT (l):fA (l.map .v)=S l:=by
 induction l with
 |nil=>rfl
 |cons a l b=>exact bP b
theorem xC (k)(σ)(l):jD (fz k) σ (l.map .v)=S (l,σ):=by
 induction l with
 |nil=>rfl
 |cons a l b=>exact aJ (jX _ _ _) (bP b)
theorem oN {k n}{σ}{c}(h:σ[n]?=S c):fz (k+1) σ (.ref n)=Ic (fz k) (σ.set n .dead) c:=aJ h rfl
theorem jn (h:σ[n]?=S (.lst (l.map .v))):fz FZ σ (.ref n)=S (.lst l,σ.set n .dead):=aJ h (bP (xC _ _ l))
theorem Fh (k)(σ)(l:List (c×V)):jD (λσ p=>(fz k σ p.2).map λq=>((p.1,q.1),q.2)) σ (l.map λp=>(p.1,.v p.2))=S (l,σ):=by
 induction l with
 |nil=>rfl
 |cons a l b=>exact aJ (bP (jX _ _ _)) (bP b)
theorem Fi (h:σ[n]?=S (.aU t (l.map λp=>(p.1,.v p.2)))):fz FZ σ (.ref n)=S (.aU t l,σ.set n .dead):=aJ h (bP (Fh _ _ l))
theorem Nh (h:σ[n]?=S (.obj c (l.map λp=>(p.1,.v p.2)))):fz FZ σ (.ref n)=S (.obj c l,σ.set n .dead):=aJ h (bP (Fh _ _ l))
theorem aez (n:Nat):mN 0 n=(List.range n).map nV:=by
 unfold mN nV
 simp
theorem jo {A:Type}{f}(c)(g)(xs:List A)(σ)(h:∀a∈xs,f (c a) σ=S (g a,σ)):
 mO f (xs.map c) σ=S (xs.map g,σ):=by
 induction xs with
 |nil=>rfl
 |cons a xs k=>exact aJ (h a cT) (bP (k λb hb=>h b (dA _ hb)))
theorem xD {A:Type}{c}{f}(r)(p)(g)(xs:List A)(σ)
 (k:∀a∈xs,c (r a) σ=S (p a,σ))(h:∀a∈xs,p a=ab->f (r a) σ=S (g a,σ)):qo c f (xs.map r) σ=S ((xs.filter p).map g,σ):=by
 induction xs with
 |nil=>rfl
 |cons a xs o=>
  have o:=o (λb hb=>k b (dA _ hb)) λb hb=>h b (dA _ hb)
  have k:=k a cT
  cases q:p a with
  |true=>rw[pJ q];rw[q]at k;exact aJ k (aJ (h a cT q) (bP o))
  |false=>refine Zrr (pK (by exact Zrr q gq)) ?_;rw[q]at k;exact aJ k o
theorem Fj (xs):∀k,lR k xs=(xs.zipIdx k).map λp=> .tup [.int p.2,p.1]:=by
 induction xs with
 |nil=>intro k;rfl
 |cons a xs b=>intro k;simp[UK,b]
theorem aiB:eqv (.int a) (.int b)=S (decide (a=b)):=rfl
theorem aeA:cO σ .eq (.v (.int a)) (.v (.int b))=S (decide (a=b)):=rfl
theorem aiC:cO σ .ne (.v (.int a)) (.v (.int b))=S !decide (a=b):=rfl
theorem td:cO σ .eq (.v (nV a)) (.v (nV b))=S (decide (a=b)):=congrArg _ (decide_eq_decide.mpr pL)
theorem pM:cO σ .lt (.v (nV a)) (.v (nV b))=S (decide (a<b)):=congrArg S (by simp)
theorem Fo:cO σ .le (.v (nV a)) (.v (nV b))=S (decide (a<=b)):=congrArg S (by simp)
theorem uX:cO σ (.gt ()) (.v (nV a)) (.v (nV b))=S (decide (b<a)):=congrArg S (by simp)
theorem nq:cV .add (nV a) (nV b)=S (nV (a+b)):=rfl
theorem AG {a b}(h:b<=a):cV .sub (nV a) (nV b)=S (nV (a - b)):=by
 show S _=S (V.int _)
 rw[Int.ofNat_sub h];rfl
theorem AH:cV .bor (nV a) (nV b)=S (nV (a|||b)):=rfl
theorem Ni:cV .band (nV a) (nV b)=S (nV (a&&&b)):=rfl
theorem Nj:cV .shr (nV a) (nV b)=S (nV (a>>>b)):=rfl
theorem Nk (h:b<=1000000):cV .shl (.int 1) (nV b)=S (nV (1<<<b)):=by
 show(if 0<=(b:Int)/\(b:Int)<=1000000/\0<=1/\1<2^62 then S _ else J).map _=_
 refine Zrr (if_pos ⟨by lia,by lia,by simp,by simp⟩) ?_;rewrite[nV];rw[Nl _ _]
 simp
theorem AI (h:a.length+b.length<aE):cV .add (.tup a) (.tup b)=S (.tup (a++b)):=b8 h
theorem nu (h:a.length+b.length<aE):cV .add (.lst a) (.lst b)=S (.lst (a++b)):=b8 h
theorem Nm (h:a.length+b.length<aE):cV .add (.str a) (.str b)=S (.str (a++b)):=b8 h
theorem Fp (h:n<k)(hl:n<aE):lP n k=S n:=by
 have:=by exact_mod_cast hl
 simp[lP,h,this]
theorem aw (h:n<4194304):n<aE:=h
theorem dB {α:Type}{xs:List α}{n}{a}(h:xs[n]?=S a):n<xs.length:=(dk.mp h).1
theorem jq {n}{a}(hl:n<aE)(h:xs[n]?=S a):bZ σ (.v (.lst xs)) (nV n)=S (.v a):=bP (aJ (Fp (dB h) hl) h)
theorem xE {n}{a}(hl:n<aE)(h:xs[n]?=S a):bZ σ (.v (.tup xs)) (nV n)=S (.v a):=bP (aJ (Fp (dB h) hl) h)
theorem Fq (h:σ[r]?=S c):bZ σ (.ref r) i=match(generalizing:=false) c with
 | .lst xs=>match i with| .int i=>(lP i xs.length).bind (xs[·]?)|_=>J
 | .aU t a=>if dR t i then ck i a else J
 |_=>none:=aJ h rfl
theorem lx {n}{a}(hr:σ[r]?=S (.lst xs))(hl:n<aE)(h:xs[n]?=S a):bZ σ (.ref r) (nV n)=S a:=(Fq hr).trans (aJ (Fp (dB h) hl) h)
theorem Ft {k}{a}(hr:σ[r]?=S (.aU t b))(hk:dR t k=ab)(h:ck k b=S a):bZ σ (.ref r) k=S a:=(Fq hr).trans ((b8 hk).trans h)
theorem xF {k a}(hk:dR t k=ab)(h:ck k b=S a):bZ σ (.v (.aU t b)) k=S (.v a):=(b8 hk).trans (bP h)
theorem Nn (h:σ[r]?=S c):mM σ (.ref r) k x=match(generalizing:=false) c with
 | .lst xs=>match k with| .int i=>if 0<=i/\i<xs.length/\i<aE then S (σ.set r (.lst (xs.set i.toNat x)))else J|_=>J
 | .aU t a=>if dR t k/\a.length<aE then S (σ.set r (.aU t (d9 k x a)))else J
 |_=>none:=aJ h rfl
theorem xG {n}{x}(hr:σ[r]?=S (.lst xs))(hn:n<xs.length)(hl:n<aE):mM σ (.ref r) (nV n) x=S (σ.set r (.lst (xs.set n x))):=by
 have:n<(aE:Int):=by exact_mod_cast hl
 exact(Nn hr).trans (b8 ⟨qK _,by exact_mod_cast hn,this⟩)
theorem rz {k}{x}(hr:σ[r]?=S (.aU t ak))(hk:dR t k=ab)(hl:ak.length<aE):mM σ (.ref r) k x=S (σ.set r (.aU t (d9 k x ak))):=(Nn hr).trans (b8 ⟨hk,hl⟩)
theorem Np {x}(h:σ[n]?=S (.lst xs))(hl:xs.length<aE):gJ σ .append (.ref n) [x]=S (.v .none,σ.set n (.lst (xs++ [x]))):=aJ h (b8 hl)
theorem gy (h:σ[n]?=S (.lst xs)):r5 σ (.ref n)=S "list" :=aJ h rfl
theorem Nq (h:σ[n]?=S (.aU t xs)):r5 σ (.ref n)=S "dict" :=aJ h rfl
theorem pN (h:σ[n]?=S (.lst xs)):vy σ (.ref n)=S xs.length:=aJ h rfl
theorem eC (hn:vy σ x=S n)(hl:n<aE):cB σ .len x=S (.val (nV n)):=aJ hn (b8 hl)
theorem AJ (hl:xs.length<aE):cB σ .list (.v (.lst xs))=S (.items xs):=b8 hl
theorem Fu (hl:xs.length<aE):cB σ .list (.v (.tup xs))=S (.items xs):=b8 hl
theorem xH (hl:xs.length<aE):cB σ .tuple (.v (.lst xs))=S (.val (.tup xs)):=b8 hl
theorem Fv {f}{r:Option a}(h:f n=r):rZ (.v (.int n)) f=r:=h
theorem pO (h:az cl e ρ σ=S (.v (nV n),af))(hn:n<aE):iw cl (.range e) ρ σ=S ((List.range n).map nV,af):=by
 rw[(aez _).symm]
 exact aJ h (Fv (b8 ⟨by exact_mod_cast hn,by lia⟩))
theorem aiD {c:Type}{a b:c}(h:S a=S b):a=b:=by lia
noncomputable def ny (m:Nat)(f:List Nat)(o:Nat):List Nat:=if(f.getD o 0).testBit m then f.set o (f.getD o 0|||f.getD m 0)else f
def pP (n:Nat)(f:List Nat)(m:Nat):List Nat:=(List.range n).foldl (ny m) f
def trans (dD:List Nat):List Nat:=(List.range dD.length).foldl (pP dD.length) dD
theorem Fw (m)(f)(o):(ny m f o).length=f.length:=by unfold ny;split<;>simp
theorem pQ {A:Type}(g:List _->A->List Nat)(h:∀f a,(g f a).length=f.length)(l:List A):∀f,(l.foldl g f).length=f.length:=by
 induction l with
 |nil=>intro f;rfl
 |cons a l b=>intro f;rw[kW,b _,h _ _];rfl
theorem Fx (n)(f)(m):(pP n f m).length=f.length:=pQ _ (Fw m) _ _
theorem aeB (a):(trans a).length=a.length:=pQ _ (Fx _) _ _
theorem Nr:decide (x>>>m&&&1=1)=x.testBit m:=by simp
theorem getD_some {l:List _}{i}(h:i<l.length):l[i]?=S (l.getD i 0):=by
 simp[List.getD,dr h]
theorem Nt {A:Type}(g)(f:A)(k):(List.range (k+1)).foldl g f=g ((List.range k).foldl g f) k:=by
 rw[kI,g8];rfl
def cN (f:List Nat):Cell:= .lst ((f.map nV).map .v)
theorem Fy {f:List _}{i}(h:i<f.length):((f.map nV).map X.v)[i]?=S (.v (nV (f.getD i 0))):=by
 rw[bw,bw,getD_some h];rfl
theorem Nu {f:List _}{i v}:((f.map nV).map .v).set i (.v (nV v))=((f.set i v).map nV).map X.v:=by
 rw[xI,xI];rfl
theorem aeC {D}(Q:1<=D){dD}(hl:dD.length<aE)(σ):
 (aQ prog D).call 0 [.v (.lst (dD.map nV))] σ=S (.v (.lst ((trans dD).map nV)),σ):=by
 refine oM (ρ:= [S (.v (.lst (dD.map nV))),J,J,J]) Q rfl rfl rfl rfl (bz (Nb (rfl) (AJ (by rw[aq _];assumption))) ?_)
 have L:∀f,f.length=dD.length->vy [cN f] (.ref 0)=S dD.length:=λf h=>by rw[pN rfl];simp[h]
 refine Fc nV dD.length (λk ρ σ=>∃y b,ρ= [S (.v (.lst (dD.map nV))),S (.ref 0),y,b]/\σ= [cN ((List.range k).foldl (pP dD.length) dD)]) (pO (cw (aa rfl) (eC (L _ rfl) hl)) hl) ⟨_,_,rfl,rfl⟩ ?_ ?_
 . intro m ρ σ hm O;refine dh O λy b c r=> ?_;clear O;subst c;subst r
   have H:((List.range m).foldl (pP dD.length) dD).length=dD.length:=pQ _ (Fx _) _ _
   rw[Nt _ _ _]
   generalize (List.range m).foldl (pP dD.length) dD=I at H ⊢
   refine⟨_,rfl,Fc nV dD.length (λk ρ σ=>∃b,ρ= [S (.v (.lst (dD.map nV))),S (.ref 0),S (.v (nV m)),b]/\σ= [cN ((List.range k).foldl (ny m) I)]) (pO (cw (aa rfl) (eC (L _ H) hl)) hl) ⟨_,rfl,rfl⟩ ?_ ?_⟩
   . intro o ρ σ u O;refine ah O λb c r=> ?_;clear O;subst c;subst r
     have x:((List.range o).foldl (ny m) I).length=dD.length:=by rw[pQ _ (Fw m) _ _,H];rfl
     rw[Nt _ _ _]
     generalize (List.range o).foldl (ny m) I=a at x ⊢
     refine⟨_,rfl,?_⟩
     have U:bZ [cN a] (.ref 0) (nV o)=_:=lx rfl (gY u hl) (Fy (x▸u))
     have Y:bZ [cN a] (.ref 0) (nV m)=_:=lx rfl (gY hm hl) (Fy (x▸hm))
     have b1:= @Nj (a.getD o 0) m
     have b2:= @Ni (a.getD o 0>>>m) 1
     have b3:= @AH (a.getD o 0) (a.getD m 0)
     have c1:cO [cN a] .eq (.v (nV (a.getD o 0>>>m&&&1))) (.v (.int 1))=S ((a.getD o 0).testBit m):=Zrr Nr.symm td
     refine jV (br (b9 (b9 (bu (aa rfl) (aa rfl) ‹_›) (aa rfl) ‹_›) aP ‹_›) aP ‹_›) ?_ ?_ λ_ _ h=>bk h
     . refine λq=>jU (b9 (bu (aa rfl) (aa rfl) ‹_›) (bu (aa rfl) (aa rfl) ‹_›) ‹_›) (rfl) (rfl) (xG rfl (by simpa [x]using u) (gY u hl)) (bk ⟨_,rfl,?_⟩)
       rewrite[ny];rw[if_pos q,Nu];rfl
     . refine λq=>bk ⟨_,rfl,?_⟩
       rewrite[ny];exact Zrr (if_neg (by exact Zrr q gq)) rfl
   . intro ρ σ O;refine ah O λb c r=> ?_;clear O;subst c;subst r
     exact bk ⟨_,_,rfl,rfl⟩
 . intro ρ σ O;refine dh O λy b c r=> ?_;clear O;subst c;subst r
   exact cb (aa rfl) ⟨_,jn rfl⟩
set_option genInjectivity false in
structure Gm where
 fG:List (List Nat)
 nT:Nat
 rs:List (Nat×List Nat)
noncomputable def nR (G:Gm):Nat:=G.rs.length
noncomputable def lhs (G:Gm)(r:Nat):Nat:=(G.rs.getD r (0,[])).1
noncomputable def rhs (G:Gm)(r:Nat):List Nat:=(G.rs.getD r (0,[])).2
noncomputable def nm (G:Gm)(x:Nat):List Nat:=G.fG.getD x []
noncomputable def nS (G:Gm):Nat:=G.fG.length
noncomputable def lA (l:List (Nat×List Nat))(r:Nat):Nat:=((l.take r).map λp=>p.2.length+1).sum
def off (G:Gm)(r:Nat):Nat:=lA G.rs r
noncomputable def pR:Nat->List (Nat×List Nat)->List Nat
 |_,[]=> []
 |k,p::l=>List.replicate (p.2.length+1) k++pR (k+1) l
theorem FA:pR k (p::l)= .replicate (p.2.length+1) k++pR (k+1) l:=rfl
def ma (G:Gm):List Nat:=pR 0 G.rs
def fu (G:Gm)(x:Nat):List Nat:=(List.range (nR G)).filter λr=>lhs G r==x
noncomputable def pS (nT:Nat)(l:List Nat):Int:=l.foldl (λf x=>if x<nT then(x:Int)else f) (-1)
def fH (G:Gm)(r:Nat):V:= .obj 0 [(0,nV r),(1,nV (lhs G r)),(2,.tup ((rhs G r).map nV)),(3,.int (pS G.nT (rhs G r))),(4,.none),(5,.int 0),(6,.int 0)]
def vG (G:Gm):V:= .obj 1 [(7,.lst (G.fG.map .str)),(8,nV G.nT),(9,.lst ((List.range (nR G)).map (fH G))),(10,.aU .str []),(11,.none),(12,nV (G.nT+1)),
 (13,.lst ((List.range (nS G)).map λx=> .lst ((fu G x).map nV))),(14,.lst ((List.range (nR G)).map λr=>nV (off G r))),(15,.lst ((ma G).map nV)),(16,nV (ma G).length)]
structure WF (G:Gm):Prop where
 nd:G.fG.Nodup
 ok:∀s∈G.fG,mI s=ab/\s.length<=10
 big:nS G<=9
 n0:G.fG[0]?=S [36,101,110,100]
 n1:G.fG[1]?=S [101,114,114,111,114]
 nA:G.fG[G.nT]?=S [36,97,99,99,101,112,116]
 nB:G.fG[G.nT+1]?=S [83]
 tT:3<=G.nT
 r0:G.rs[0]?=S (G.nT,[G.nT+1,0])
 rl:∀r,0<r->r<nR G->G.nT<lhs G r/\lhs G r<nS G/\(rhs G r).length<=3/\∀x∈rhs G r,x<nS G/\x≠0/\x≠1/\x≠G.nT
 nr:nR G<=7
 Nv:∀A,G.nT<A->A<nS G->∃r,r<nR G/\lhs G r=A/\∀x∈rhs G r,x<G.nT
def Vd (G:Gm)(p:Nat×Nat):Prop:=p.1<nR G/\p.2<=(rhs G p.1).length
def gz (G:Gm)(p:Nat×Nat):Nat:=off G p.1+p.2
def cK (G:Gm)(p:Nat×Nat):Option Nat:=(rhs G p.1)[p.2]?
def gB (o:Option Nat):V:=match o with|some x=>nV x|none=> .int (-1)
theorem nz {r}(h:r<nR G):G.rs[r]?=S (lhs G r,rhs G r):=by
 rw[a h];rfl
where
 a {b:Type} {l:List b} {i:Nat} {d:b} (h:i<l.length):l[i]?=S (l.getD i d):=by
  rewrite[List.getD];rw[dr h];rfl
theorem pT {x}(h:x<nS G):G.fG[x]?=S (nm G x):=by
 rw[nm,List.getD,dr h];rfl
theorem WF.xJ (w:WF G):0<nR G:=by
 have:=w.r0
 rw[dk]at this
 exact this.1
theorem WF.oO (w:WF G):lhs G 0=G.nT/\rhs G 0= [G.nT+1,0]:=by
 have:=nz w.xJ
 rw[w.r0]at this
 simp at this
 exact⟨this.1.symm,this.2.symm⟩
theorem WF.AL (w:WF G):G.nT+1<nS G:=by
 have:=w.nB
 rw[dk]at this
 exact this.1
theorem WF.len (w:WF G){r}(h:r<nR G):(rhs G r).length<=3:=by
 rcases r.eq_zero_or_pos with rfl|q
 . rw[w.oO.2];simp
 exact(w.rl r q h).2.2.1
theorem WF.sym (w:WF G){r}(h:r<nR G):∀x∈rhs G r,x<nS G/\x≠1/\x≠G.nT:=by
 rcases r.eq_zero_or_pos with rfl|q
 . rw[w.oO.2]
   intro x hx
   have:=w.AL
   have:=w.tT
   simp at hx
   rcases hx with rfl|rfl<;>(refine⟨?_,?_,?_⟩<;>(first|assumption|lia))
 exact λx hx=>have:=(w.rl r q h).2.2.2 x hx;⟨this.1,this.2.2.1,this.2.2.2⟩
theorem WF.jY (w:WF G){r}(h:r<nR G):G.nT<=lhs G r/\lhs G r<nS G:=by
 rcases r.eq_zero_or_pos with rfl|q
 . rw[w.oO.1]
   have:=w.AL
   exact Uz this
 . have:=w.rl r q h
   exact⟨(b_ this.1),this.2.1⟩
theorem aeE:∀(l:List _) (k r d:Nat) (p:Nat×List _),l[r]?=S p->d<=p.2.length->(pR k l)[lA l r+d]?=S (k+r):=by
 intro b
 induction b with
 |nil=>exact λ_ _ _ _ h=>nomatch h
 |cons q l c=>
  intro k r d p h a
  cases r with
  |zero=>
   cases h
   have e:lA (q::l) 0+d=d:=d.zero_add
   rw[e];refine Zrr (eQ (by rw[AM];exact qS a)) ?_;rw[Ak,if_pos (qS a)];rfl
  |succ r=>
   have e:lA (q::l) (r+1)+d=q.2.length+1+ (lA l r+d):=(q.2.length+1).add_assoc (lA l r) d
   rw[e];refine Zrr (iE (by simp)) ?_;rw[AM,l7 _ _];rewrite[c _ r d p h a];rw[ET _ _ _];rfl
theorem aeF (h:Vd G p):(ma G)[gz G p]?=S p.1:=by
 have:=aeE _ 0 _ _ _ (nz h.1) h.2
 rw[fb]at this
 exact this
theorem aeG (l)(h:∀p∈l,p.2.length<=3):∀r,lA l r<=4*r:=by
 induction l with
 |nil=>intro r;simp[lA]
 |cons q l a=>
  intro r
  cases r with
  |zero=>simp[lA]
  |succ r=>
   have e:lA (q::l) (r+1)=q.2.length+1+lA l r:=rfl
   have:=a (λp b=>h p (by simp[b])) r
   have:=h q (by simp)
   exact SX e ‹_› this
theorem WF.Nw (w:WF G)(r):off G r<=4*r:=by
 refine aeG _ (λp c=>ao (w5 c) λi b=>ao b λa e=> ?_) r;clear b
 have:=nz a
 rw[dr a,e]at this
 simp at this
 subst this
 exact w.len a
theorem WF.aeH (w:WF G){p}(h:Vd G p):gz G p<100:=by
 have:=w.Nw p.1
 have:=w.len h.1
 have:=w.nr
 have:=h.1
 have:=h.2
 unfold gz
 exact RL ‹_› ‹_› ‹_› ‹_› this
theorem xK {σ}:ef σ (.v (vG G)) 7=S (.v (.lst (G.fG.map .str))):=rfl
theorem aiE {σ}:ef σ (.v (vG G)) 8=S (.v (nV G.nT)):=rfl
theorem xM {σ}:ef σ (.v (vG G)) 9=S (.v (.lst ((List.range (nR G)).map (fH G)))):=rfl
theorem aiF {σ}:ef σ (.v (vG G)) 13=S (.v (.lst ((List.range (nS G)).map λx=> .lst ((fu G x).map nV)))):=rfl
theorem aiG {σ}:ef σ (.v (vG G)) 14=S (.v (.lst ((List.range (nR G)).map λr=>nV (off G r)))):=rfl
theorem aiH {σ}:ef σ (.v (vG G)) 15=S (.v (.lst ((ma G).map nV))):=rfl
theorem jr {σ}:n6 σ (.v (vG G))=S 1:=rfl
theorem Nx {σ}:ef σ (.v (fH G r)) 0=S (.v (nV r)):=rfl
theorem FC {σ}:ef σ (.v (fH G r)) 1=S (.v (nV (lhs G r))):=rfl
theorem xN {σ}:ef σ (.v (fH G r)) 2=S (.v (.tup ((rhs G r).map nV))):=rfl
theorem AN (w:WF G){σ}{r}(h:r<nR G):bZ σ (.v (.lst ((List.range (nR G)).map (fH G)))) (nV r)=S (.v (fH G r)):=jq (aw (by have:=w.nr;exact dw (ee h this) (by decide))) (by simp[h])
theorem FD (w:WF G){σ}{r}(h:r<nR G):bZ σ (.v (.lst ((List.range (nR G)).map λr=>nV (off G r)))) (nV r)=S (.v (nV (off G r))):=jq (aw (by have:=w.nr;exact dw (ee h this) (by decide))) (by simp[h])
theorem aeI (w:WF G){σ}{x}(h:x<nS G):bZ σ (.v (.lst ((List.range (nS G)).map λx=> .lst ((fu G x).map nV)))) (nV x)=S (.v (.lst ((fu G x).map nV))):=jq (aw (by have:=w.big;exact dw (ee h this) (by decide))) (by simp[h])
theorem FE (w:WF G){σ}{p}(h:Vd G p):bZ σ (.v (.lst ((ma G).map nV))) (nV (gz G p))=S (.v (nV p.1)):=jq (aw (by have:=w.aeH h;exact dw this (by decide))) (by simp[aeF h])
theorem AO (w:WF G){σ}{x}(h:x<nS G):bZ σ (.v (.lst (G.fG.map .str))) (nV x)=S (.v (.str (nm G x))):=jq (aw (by have:=w.big;exact dw (ee h this) (by decide))) (by simp[pT h])
variable {G:Gm} {D:Nat}
theorem aeJ (w:WF G)(a:1<=D):(aQ prog D).call 4 [.v (vG G)] σ=S (.v (nV (nS G)),σ):=oM (ρ:= [S _]) a rfl rfl rfl rfl (have e:∀σ,cB σ _ (.v (.lst _))=S (.val (nV (nS G))):=λσ=>eC (by rewrite[nS];rw[aq (f:=V.str).symm];rfl) (aw (by have:=w.big;exact bx this (by decide)));cb (cw (a_ (aa rfl) (by apply_assumption)) (by apply_assumption)) (c8 rfl))
theorem aeK (w:WF G){x}(hx:x<nS G)(a:1<=D):(aQ prog D).call 6 [.v (vG G),.v (nV x)] σ=S (.v (.lst ((fu G x).map nV)),σ):=oM a rfl rfl rfl rfl (have i:=λσ=>aeI (σ:=σ) w hx;have e:∀σ,cB σ _ _=S (.items ((fu G x).map nV)):=λσ=>AJ (aw (by
 have:=jZ (λr=>lhs G r==x) (.range (nR G))
 have:=w.nr
 rw[aq _];rewrite[fu]
 rw[cP]at*
 lia));cb (iH (bu (a_ (aa rfl) (by apply_assumption)) (aa rfl) (by apply_assumption)) (by apply_assumption)) (c8 rfl))
theorem uY (w:WF G){r d}(hr:r<nR G)(a:1<=D):(aQ prog D).call 7 [.v (vG G),.v (nV r),.v (nV d)] σ=S (.v (nV (gz G (r,d))),σ):=oM a rfl rfl rfl rfl (have i:=λσ=>FD (σ:=σ) w hr;have b:= @nq;cb (b9 (bu (a_ (aa rfl) (by apply_assumption)) (aa rfl) (by apply_assumption)) (aa rfl) (by apply_assumption)) (c8 rfl))
theorem AP (w:WF G){p}(h:Vd G p)(a:1<=D):(aQ prog D).call 8 [.v (vG G),.v (nV (gz G p))] σ=S (.v (nV p.1),σ):=oM a rfl rfl rfl rfl (have i:=λσ=>FE (σ:=σ) w h;cb (bu (a_ (aa rfl) (by apply_assumption)) (aa rfl) (by apply_assumption)) (c8 rfl))
theorem Ny:cV .sub (nV (gz G p)) (nV (off G p.1))=S (nV p.2):=(AG ((off G _).le_add_right _)).trans (congrArg (λn=>S _) (l7 _ _))
theorem FG (w:WF G){p}(h:Vd G p)(a:1<=D):(aQ prog D).call 9 [.v (vG G),.v (nV (gz G p))] σ=S (.v (nV p.2),σ):=oM a rfl rfl rfl rfl (have i:=λσ=>FE (σ:=σ) w h;have c:=λσ=>FD (σ:=σ) w h.1;have b:=Ny;cb (b9 (aa rfl) (bu (a_ (aa rfl) (by apply_assumption)) (bu (a_ (aa rfl) (by apply_assumption)) (aa rfl) (by apply_assumption)) (by apply_assumption)) ‹_›) (c8 rfl))
theorem FH (w:WF G){p}(h:Vd G p)(a:1<=D):(aQ prog D).call 10 [.v (vG G),.v (nV (gz G p))] σ=S (.v (gB (cK G p)),σ):=by
 refine oM a rfl rfl rfl rfl ?_
 have i:=λσ=>FE (σ:=σ) w h
 have k:=λσ=>FD (σ:=σ) w h.1
 have o:=λσ=>AN (σ:=σ) w h.1
 have b:cV .sub (nV (gz G p)) (nV (off G p.1))=S (nV p.2):=Ny
 have hl:(rhs G p.1).length<aE:=aw (by have:=w.len h.1;exact bx this (by decide))
 have e:∀σ,cB σ .len (.v (.tup ((rhs G p.1).map nV)))=S (.val (nV (rhs G p.1).length)):=λσ=>eC (congrArg S (aq _)) hl
 refine bz (a_ (bu (a_ (aa rfl) (by apply_assumption)) (bu (a_ (aa rfl) (by apply_assumption)) (aa rfl) (by apply_assumption)) (by apply_assumption)) (by apply_assumption)) (bz (b9 (aa rfl) (bu (a_ (aa rfl) (by apply_assumption)) (bu (a_ (aa rfl) (by apply_assumption)) (aa rfl) (by apply_assumption)) (by apply_assumption)) ‹_›) ?_)
 have c:∀σ,cO σ .lt (.v (nV p.2)) (.v (nV (rhs G p.1).length))=_:=λσ=>pM
 by_cases q:p.2<(rhs G p.1).length
 . rw[decide_eq_true q]at c
   exact have g:cK G p=S ((rhs G p.1)[p.2]):=dr q;have r:∀σ,bZ σ (.v (.tup ((rhs G p.1).map nV))) (nV p.2)=S (.v (gB (cK G p))):=λσ=>xE (gY q hl) (by rw[bw,dr q,g];rfl);cb (AA (br (aa rfl) (cw (aa rfl) (by apply_assumption)) (by apply_assumption)) (bu (aa rfl) (aa rfl) (by apply_assumption))) (c8 rfl)
 . rw[decide_eq_false q]at c
   have g:cK G p=none:=eU (gg q)
   exact cb (AD (br (aa rfl) (cw (aa rfl) (by apply_assumption)) (by apply_assumption)) aP) (c8 (by rw[g];rfl))
theorem aeL (w:WF G){p}(h:Vd G p)(k:2<=D):(aQ prog D).call 22 [.v (vG G),.v (nV (gz G p))] σ=S (.v (nV (gz G (p.1,p.2+1))),σ):=oM (d_ yqJ k) rfl rfl rfl rfl (have a:1<=D - 1:=yoG k;have o:=λσ=>AP (σ:=σ) w h a;have q:=λσ=>FG (σ:=σ) w h a;have r:=λσ=>uY (σ:=σ) (d:=p.2+1) w h.1 a;have b:= @nq _ 1;have c:=λσ=>jr (G:=G) (σ:=σ);cb (cX (aa rfl) (by apply_assumption) (aj (cX (aa rfl) (by apply_assumption) (aj (aa rfl) aA) (by apply_assumption)) (aj (b9 (cX (aa rfl) (by apply_assumption) (aj (aa rfl) aA) (by apply_assumption)) aP ‹_›) aA)) (by apply_assumption)) (c8 rfl))
theorem eq_str (a b):gI (.str a) (.str b)=decide (a=b):=rfl
theorem AQ (w:WF G){x}(hx:x<nS G)(a:1<=D):(aQ prog D).call 5 [.v (vG G),.v (.str (nm G x))] σ=S (.v (nV x),σ):=by
 refine oM a rfl rfl rfl rfl ?_
 have mem:=eX (pT hx)
 exact have k:∀σ,cO σ .isIn (.v (.str (nm G x))) (.v (.lst (G.fG.map .str)))=S true:=λσ=>(b8 ⟨((w.ok _ mem).1),(by
  simp only[nC,cF]
  exact λs b=>(w.ok _ b).1)⟩).trans (congrArg S (by
  simp only[yQ,Ai,Function.comp_apply,eq_str,decide_eq_true_eq]
  exact⟨_,mem,rfl⟩));have o:∀σ,gJ σ .index (.v (.lst (G.fG.map .str))) [.v (.str (nm G x))]=S (.v (nV x),σ):=λσ=>bP ((b8 ⟨rfl,H9,(aw (by have:=w.big;unfold nS at this;simp;lia))⟩).trans (by
  refine Zrr (propext Kv) ⟨by simpa [nS]using hx,?_,?_⟩
  . simp only[AR,eq_str,decide_eq_true_eq]
    have:=pT hx
    rw[dr hx]at this
    exact je this
  . intro j c
    simp only[AR,eq_str,decide_eq_true_eq]
    intro e
    have:=pT hx
    rw[dr hx,<-e]at this
    have:=(FI w.nd).mp (je this)
    exact SM c this));have t:∀σ,r5 σ (.v (.lst (G.fG.map .str)))=S mF.index.ty:=λ_=>rfl;cb (AA (br (aa rfl) (a_ (aa rfl) (by apply_assumption)) (by apply_assumption)) (d7 (a_ (aa rfl) (by apply_assumption)) (by apply_assumption) (aj (aa rfl) aA) (by apply_assumption))) (c8 rfl)
inductive gE (G:Gm):List Nat->Nat->Prop
 |top:gE G [] G.nT
 |go {α β γ:List Nat} {r A:Nat}:gE G α (lhs G r)->r<nR G->rhs G r=β++A::γ->gE G (α++β) A
def VP (G:Gm)(w:List Nat)(p:Nat×Nat):Prop:=∃a,gE G a (lhs G p.1)/\Vd G p/\w=a++ (rhs G p.1).take p.2
def bE (G:Gm)(w:List Nat):Prop:=∃p,VP G w p
theorem VP.vd (h:VP G w p):Vd G p:=by
 revert h;intro O;exact cD O λa _ h _=>h
theorem take_snoc {a:Type}{l:List a}{d}(h):l.take (d+1)=l.take d++ [l[d]]:=by simp
theorem rA {X r d}:VP G (w++ [X]) (r,d+1)↔VP G w (r,d)/\cK G (r,d)=S X:=by
 constructor
 . intro O;refine cD O λk o b c=> ?_;have a:d<(rhs G r).length:=b.2
   rw[take_snoc a,<-bM]at c
   have:=qZ c rfl
   refine⟨⟨k,o,⟨b.1,(b_ ‹_›)⟩,this.1⟩,?_⟩
   simp only[cK]
   rw[dr a]
   have:=this.2
   simp at this
   rw[this];rfl
 . intro O;refine au O λu q=>cD u λk o b c=> ?_;simp only[cK]at q
   rw[dk]at q
   refine ao q λa e=>⟨k,o,⟨b.1,a⟩,?_⟩
   rw[take_snoc a,(bM _ _ _).symm,c.symm,e];rfl
theorem tg:VP G w (r,0)↔gE G w (lhs G r)/\r<nR G:=by
 constructor
 . intro O;refine cD O λk a b c=> ?_;simp at c
   exact Zrr c ⟨a,b.1⟩
 . intro O;exact au O λa b=>⟨w,a,⟨b,dM _⟩,by simp⟩
theorem xO (h:VP G w p)(ha:cK G p=S A):gE G w A:=by
 refine cD h λk a b O=> ?_;clear h;subst O
 rw[cK,dk]at ha
 refine ao ha λc e=> .go (γ:=(rhs G p.1).drop (p.2+1)) a b.1 ?_
 rw[e.symm,(ou c).symm,iZ _ _];rfl
theorem AU {r A}(h:gE G b (lhs G r))(hr:r<nR G)(e:rhs G r=a++A::γ):
 VP G (b++a) (r,a.length)/\cK G (r,a.length)=S A:=by
 refine⟨⟨b,h,⟨hr,by simp[e]⟩,by simp[e]⟩,by simp[cK,e]⟩
theorem FJ (h:gE G w A):w= []/\A=G.nT\/∃p,VP G w p/\cK G p=S A:=by
 cases h with
 |top=>exact .inl ⟨rfl,rfl⟩
 |go a b c=>exact .inr ⟨_,AU a b c⟩
theorem AV (h:cK G p=S A):A∈rhs G p.1:=eX h
theorem Nz (wf:WF G){w}(h:gE G w G.nT):w= []:=by
 rcases FJ h with h| ⟨p,a,b⟩
 . exact h.1
 exact absurd rfl (wf.sym a.vd.1 _ (AV b)).2.2
theorem aeM:¬VP G [] (r,d+1):=by
 intro O;refine cD O λc _ a b=> ?_;have:=congrArg List.length b
 have k:=a.2
 simp at this
 lia
theorem rB (wf:WF G){w}:VP G w (0,0)↔w= []:=by
 rw[tg,wf.oO.1]
 constructor
 . intro h;exact Nz wf h.1
 . intro O;subst O;exact⟨.top,wf.xJ⟩
theorem xP (wf:WF G):bE G []:=⟨_,(rB wf).mpr rfl⟩
theorem aeN (h:gE G b A):∀w X,b=w++ [X]->∃p,VP G w p/\cK G p=S X:=by
 induction h with
 |top=>intro w X e;simp at e
 | @go x c γ r A k o q u=>
  intro w X e
  rcases c.eq_nil_or_concat with rfl| ⟨y,Y,rfl⟩
  . rw[dg]at e
    exact u w X e
  . rw[AW,<-bM]at e
    have:=qZ e rfl
    have a:=this.2
    simp at a
    subst a
    refine Zrr this.1.symm ⟨_,AU k o (γ:=A::γ) ?_⟩
    rw[q];simp
theorem oP {X}:bE G (w++ [X])↔∃p,VP G w p/\cK G p=S X:=by
 constructor
 . intro O;refine ao O λa h=> ?_;obtain ⟨r,d⟩:=a
   cases d with
   |zero=>exact aeN (tg.mp h).1 w X rfl
   |succ d=>exact⟨_,rA.mp h⟩
 . intro O;refine ao O λa h=> ?_;obtain ⟨r,d⟩:=a
   exact⟨_,rA.mpr h⟩
theorem th {X}(h:bE G (w++ [X])):bE G w:=ah (oP.mp h) λp h _=>⟨p,h⟩
theorem xQ (wf:WF G){w}{X}(h:bE G (w++ [X])):X<nS G/\X≠1/\X≠G.nT:=ah (oP.mp h) λp a b=>wf.sym a.vd.1 _ (AV b)
theorem AX (wf:WF G){r}(h:r<nR G)(e:lhs G r=G.nT):r=0:=by
 rcases r.eq_zero_or_pos with q|q
 . exact q
 . have:=(wf.rl r q h).1;exact Ul e this
noncomputable def pU:Nat->List (Nat×List Nat)->List (Nat×Nat)
 |_,[]=> []
 |k,p::l=>(List.range (p.2.length+1)).map (λd=>(k,d))++pU (k+1) l
theorem FK:pU k (p::l)=(List.range (p.2.length+1)).map (λd=>(k,d))++pU (k+1) l:=rfl
def ti (G:Gm):List (Nat×Nat):=pU 0 G.rs
theorem NB:∀(l:List _) (k:Nat) (p:Nat×Nat),p∈pU k l↔∃i q,p.1=k+i/\l[i]?=S q/\p.2<=q.2.length:=by
 intro r
 induction r with
 |nil=>
  exact λk p=>⟨λh=>(nomatch h),(bo · λ_ _ _ h _=>nomatch h)⟩
 |cons q l u=>
  intro k p
  rw[FK,propext b5,propext (u _ p)]
  constructor
  . rintro (h| ⟨i,c,b,a,o⟩)
    . simp at h
      revert h;intro O;refine ah O λd h x=> ?_;clear O;subst x
      exact⟨0,q,rfl,rfl,(fU ‹_›)⟩
    exact⟨i+1,c,by exact Ug b,by simpa using a,o⟩
  . intro O;refine bo O λi c b a o=> ?_;cases i with
    |zero=>
     simp at a;subst a
     refine .inl ?_
     simp
     exact⟨_,by exact qS ‹_›,by ext<;>simp;exact Uh b⟩
    |succ i=>exact .inr ⟨i,c,by exact Ui b,by simpa using a,o⟩
theorem NC:p∈ti G↔Vd G p:=by
 rw[ti,NB]
 constructor
 . intro O;refine bo O λi q b a k=> ?_;have c:=by
    rw[dk]at a;exact a.1
   rw[nz c]at a
   simp at a
   subst a
   have:p.1=i:=TF b
   rewrite[Vd];exact Zrr this ⟨c,k⟩
 . intro O;exact au O λb a=>⟨_,_,by exact TG,nz b,a⟩
def ik (p q:Nat×Nat):Prop:=p.1<q.1\/(p.1=q.1/\p.2<q.2)
theorem aeO:∀(l:List _) (k:Nat) (p:Nat×Nat),p∈pU k l->k<=p.1:=by
 intro l k p h
 rw[NB]at h
 revert h;intro O;exact dh O λi q h _=>(Rw h)
theorem aeP:∀(l:List _) (k:Nat),(pU k l).Pairwise ik:=by
 intro c
 induction c with
 |nil=>
  exact λk=> .nil
 |cons q l o=>
  refine λk=>Zrr (propext gc) ⟨Zrr (propext i5) (ND.imp λh=> .inr ⟨rfl,h⟩),o _,?_⟩
  . intro a ha b hb
    simp at ha
    refine ah ha λd _ O=> ?_;clear ha;subst O
    exact have:=aeO _ _ _ hb;.inl (this)
theorem aeQ (G):(ti G).Pairwise ik:=aeP _ _
theorem NF {r}(h:r<nR G):off G (r+1)=off G r+ ((rhs G r).length+1):=by
 unfold off lA
 rw[FL,nz h]
 simp
theorem aeR {r s}(h:r<=s):off G r<=off G s:=by
 induction h with
 |refl=>exact ba _
 | @step m hm a=>
  refine bp a ?_
  rcases m.lt_or_ge _ with q|q
  . rw[NF q];exact dO _ _
  . unfold off lA
    rw[f_ q];exact Zrr (f_ (k9 q)) (ba _)
theorem xR (a:Vd G p)(h:ik p q):gz G p<gz G q:=by
 unfold gz
 rcases h with h| ⟨b,c⟩
 . have:=aeR (G:=G) h
   rw[NF a.1]at this
   exact d_ (iY (qS a.2) _) (bp this (dO ..))
 exact b▸iY c _
theorem NG:ik p q\/p=q\/ik q p:=
 (ypO p.1 q.1).elim (λh=> .inl (.inl h)) λh=>h.elim (λe=>(ypO p.2 q.2).elim (λh=> .inl (.inr ⟨e,h⟩)) λh=>h.elim (λf=> .inr (.inl (v9 e f))) λh=> .inr (.inr (.inr ⟨e.symm,h⟩))) λh=> .inr (.inr (.inl h))
theorem NH (a:Vd G p)(b:Vd G q)(h:gz G p=gz G q):p=q:=by
 rcases NG (q:=q)with l|e|l
 . have:=xR a l;exact Rp h this
 . exact e
 . have:=xR b l;exact Rq h this
theorem aiI (a:Vd G p)(b:Vd G q):gz G p<gz G q↔ik p q:=by
 constructor
 . intro h
   rcases NG with l|e|l
   . exact l
   . subst e;exact Rr h
   . have:=xR b l;exact Rt h this
 exact xR a
theorem FN:¬ik p p:=by simp[ik]
theorem rC {l:List _}(h:l.Pairwise ik):l.Nodup:=h.imp λ{a b} h e=>by subst e;exact FN h
theorem aeS (h:ik p q):¬ik q p:=λk=>h.elim (λh=>k.elim (K4 h) λk=>fM h k.1) λh=>k.elim (λk=>fM k h.1) λk=>K4 h.2 k.2
theorem FO:∀ {l m:List _},l.Pairwise ik->m.Pairwise ik->(∀p,p∈l↔p∈m)->l=m:=by
 intro o
 induction o with
 |nil=>exact λ{m} _ _ h=>(ylE.mpr λp c=>nomatch (h p).mpr c).symm
 |cons a l r=>
  intro m hl hm h
  cases m with
  |nil=>exact nomatch (h a).mp cT
  |cons b m=>
   have hl:=sZ.mp hl
   have hm:=sZ.mp hm
   have e:a=b:=(cy.mp ((h a).mp cT)).elim (λq=>q) λq=>(cy.mp ((h b).mpr cT)).elim (λk=>k.symm) λk=>absurd (hl.1 b k) (aeS (hm.1 a q))
   subst e
   rewrite[r hl.2 hm.2 λp=>⟨λc=>(cy.mp ((h p).mp (dA _ c))).resolve_left λq=>FN (q▸hl.1 p c),λc=>(cy.mp ((h p).mpr (dA _ c))).resolve_left λq=>FN (q▸hm.1 p c)⟩];rfl
open Classical in
def bD (G:Gm)(w:List Nat):List (Nat×Nat):=(ti G).filter λp=>decide (VP G w p)
noncomputable def gf (p:Nat×Nat):Bool:=decide (0<p.2)||decide (p.1=0)
def aW (G:Gm)(w:List Nat):List (Nat×Nat):=(bD G w).filter gf
theorem kJ:p∈bD G w↔VP G w p:=by
 simp only[bD,fI,decide_eq_true_eq,NC]
 exact⟨λh=>h.2,λh=>⟨h.vd,h⟩⟩
theorem js:p∈aW G w↔VP G w p/\gf p=true:=by
 simp only[aW,fI,kJ]
theorem me (G)(w):(bD G w).Pairwise ik:=(aeQ G).filter _
theorem rD (G)(w):(aW G w).Pairwise ik:=(me G w).filter _
theorem aeT (wf:WF G){w c}(h:∀p,gf p=ab->VP G w p->VP G c p){o}{A}(v:gE G o A):o=w->A≠G.nT->gE G c A:=by
 induction v with
 |top=>intro _ q;exact absurd rfl q
 | @go I x L r A y a u H=>
  intro e q
  have b:=AU y a u
  rw[e]at b
  by_cases k:gf (r,x.length)=ab
  . exact xO (h _ k b.1) b.2
  . simp[gf]at k
    refine au k λO hr=> ?_;clear k;subst O
    rw[dg]at e
    have:=H e λq=>hr (AX wf a q)
    have:=this.go a u
    rwa[dg]at this
theorem NI (wf:WF G){w a}(h:∀p,gf p=ab->VP G w p->VP G a p){p}(v:VP G w p):VP G a p:=by
 by_cases k:gf p=ab
 . exact h p k v
 . obtain ⟨r,d⟩:=p
   simp[gf]at k
   refine au k λO hr=> ?_;clear k;subst O
   rw[tg]at v ⊢
   exact⟨aeT wf h v.1 rfl λq=>hr (AX wf v.2 q),v.2⟩
theorem NJ (e:aW G w=aW G a):∀p,gf p=ab->VP G w p->VP G a p:=by
 intro p k v
 have:=js.mpr ⟨v,k⟩
 rw[e,js]at this
 exact this.1
theorem NK (wf:WF G){w a}(e:aW G w=aW G a):bD G w=bD G a:=by
 refine FO (me G w) (me G a) λp=> ?_
 rw[kJ];exact Zrr (propext kJ) ⟨NI wf (NJ e),NI wf (NJ e.symm)⟩
theorem FP (e:bD G w=bD G a):aW G w=aW G a:=by rewrite[aW];rw[e];rfl
theorem AY (e:bD G w=bD G a){p}:VP G w p↔VP G a p:=by rw[kJ.symm,e,propext kJ];rfl
theorem aeU (e:bD G w=bD G a):bE G w↔bE G a:=by
 constructor<;>(intro O;refine ao O λp h=> ?_)
 . exact⟨p,(AY e).mp h⟩
 exact⟨p,(AY e).mpr h⟩
theorem NL (wf:WF G){w a}(e:bD G w=bD G a)(X):aW G (w++ [X])=aW G (a++ [X]):=by
 refine FO (rD G _) (rD G _) λp=> ?_
 rw[js,propext js]
 obtain ⟨r,d⟩:=p
 cases d with
 |zero=>
  by_cases hr:r=0
  . subst hr
    rw[rB wf,propext (rB wf)]
    simp
  simp[gf,hr]
 |succ d=>rw[rA,propext rA,propext (AY e)];rfl
theorem uZ (e:bD G w=bD G a)(X):bE G (w++ [X])↔bE G (a++ [X]):=by
 rw[oP,propext oP]
 simp only[AY e]
theorem aeV {X}(h:bE G (w++ [X])):∃r d,(r,d+1)∈aW G (w++ [X])/\VP G w (r,d)/\cK G (r,d)=S X:=by
 refine ah (oP.mp h) λO a b=> ?_;obtain ⟨r,d⟩:=O
 exact⟨r,d,js.mpr ⟨rA.mpr ⟨a,b⟩,rfl⟩,a,b⟩
theorem aeW {X Y}(h:bE G (w++ [X]))(e:aW G (w++ [X])=aW G (v++ [Y])):X=Y:=by
 refine bo (aeV h) λr d a _ b=> ?_
 rw[e,js]at a
 have:=(rA.mp a.1).2
 rw[b]at this
 exact je this
theorem aiJ (wf:WF G){w}{X}:aW G (w++ [X])≠aW G []:=by
 intro e
 have:=js.mpr ⟨(rB wf).mpr rfl,rfl⟩
 rw[<-e,js,rB wf]at this
 simp at this
open Classical in
def bS (G:Gm)(w:List Nat):List Nat:=(List.range (nS G)).filter λX=>decide (bE G (w++ [X]))
def addW (G:Gm)(l:List (List Nat))(y:List Nat):List (List Nat):=if aW G y∈l.map (aW G)then l else l++ [y]
def c_ (G:Gm)(l:List (List Nat))(w:List Nat)(a:List Nat):List (List Nat):=a.foldl (λl X=>addW G l (w++ [X])) l
def Bq (G:Gm):Nat->List (List Nat)
 |0=> [[]]
 |a+1=>((Bq G a)[a]?).elim (Bq G a) λw=>c_ G (Bq G a) w (bS G w)
theorem pV (e:(Bq G a)[a]?=o):Bq G (a+1)=o.elim (Bq G a) λw=>c_ G (Bq G a) w (bS G w):=e▸rfl
theorem i6 (wf:WF G){w}{X}:X∈bS G w↔bE G (w++ [X]):=by
 simp only[bS,fI,gu,decide_eq_true_eq]
 exact⟨λh=>h.2,λh=>⟨(xQ wf h).1,h⟩⟩
structure BI (G:Gm)(l:List (List Nat)):Prop where
 nd:(l.map (aW G)).Nodup
 u0:∀w∈l,bE G w
theorem FQ {l}{y}:l<+:addW G l y:=by
 unfold addW
 split
 . exact FR
 exact tj _ _
theorem pW:∀(a:List _) (l:List _),l<+:c_ G l w a:=by
 intro b
 induction b with
 |nil=>
  exact λl=>FR
 |cons X a c=>
  exact λl=>FQ.trans (c _)
theorem aeX (h:BI G l)(v:bE G y):BI G (addW G l y):=by
 unfold addW
 split
 . exact h
 . rename_i q
   constructor
   . rw[bK];refine Zrr (propext qH) ⟨h.nd,by simp,?_⟩
     intro a ha b hb e
     simp at hb
     subst hb
     exact q (e▸ha)
   . intro w hw
     rcases b5.mp hw with hw|hw
     . exact h.u0 w hw
     . simp at hw;subst hw;exact v
theorem aeY:aW G y∈ (addW G l y).map (aW G):=by
 unfold addW
 split
 . assumption
 simp
theorem aeZ:∀(a:List _) (l:List _),BI G l->(∀X∈a,bE G (w++ [X]))->BI G (c_ G l w a):=by
 intro b
 induction b with
 |nil=>
  exact λl h _=>h
 |cons X a c=>
  exact λl h v=>c _ (aeX h (v X (by simp))) λY k=>v Y (by simp[k])
theorem ae0:∀(a:List _) (l:List _),∀X∈a,aW G (w++ [X])∈ (c_ G l w a).map (aW G):=by
 intro b
 induction b with
 |nil=>
  intro l X h
  simp at h
 |cons Y a c=>
  intro l X h
  rcases cy.mp h with rfl|h
  . exact((pW a _).map _).subset aeY
  exact c _ X h
theorem NP (wf:WF G):∀a,BI G (Bq G a):=by
 intro c
 induction c with
 |zero=>
  exact⟨LY _ _,by
   intro w hw
   rewrite[dm.mp hw]
   exact xP wf⟩
 |succ a b=>
  cases e:(Bq G a)[a]? with
  |some w=>rw[pV e];exact aeZ _ _ b λX k=>(i6 wf).mp k
  |none=>rw[pV e];exact b
theorem NQ (a):Bq G a<+:Bq G (a+1):=by
 cases e:(Bq G a)[a]? with
 |some w=>rw[pV e];exact pW _ _
 |none=>rw[pV e];exact FR
theorem ae1 {a b}(h:a<=b):Bq G a<+:Bq G b:=by
 induction h with
 |refl=>exact FR
 |step _ c=>exact c.trans (NQ _)
noncomputable def subs {b:Type}:List b->List (List b)
 | []=> [[]]
 |a::l=>subs l++ (subs l).map (a:: ·)
theorem FT {l:List b}:subs (a::l)=subs l++ (subs l).map (a:: ·):=rfl
theorem ae2:∀l:List k,(subs l).length=2^l.length:=by
 intro b
 induction b with
 |nil=>
  exact rfl
 |cons a l c=>
  rw[FT,aY,aq _,c,Nat.pow_succ _ _];exact UB
theorem ae3 {s l:List c}(h:s.Sublist l):s∈subs l:=by
 induction h with
 |slnil=>exact dm.mpr rfl
 |cons a _ b=>rw[FT,propext b5];exact .inl b
 |cons_cons a _ b=>rw[FT,propext b5];exact .inr (bX.mpr ⟨_,b,rfl⟩)
theorem nD {b:Type} [DecidableEq b]:∀ {l m:List b},l.Nodup->(∀x∈l,x∈m)->l.length<=m.length:=by
 intro c
 induction c with
 |nil=>
  intro m _ _
  exact dM _
 |cons a l k=>
  intro m hn h
  rw[kB]at hn
  have ha:=h a (by simp)
  have:=k hn.2 λx hx=>have o:x≠a:=λe=>hn.1 (e▸hx);(List.mem_erase_of_ne o).mpr (h x (by simp[hx]))
  rw[List.length_erase_of_mem ha]at this
  exact eO (List.length_pos_of_mem ha)▸mU this
theorem ae4:∀(l:List _) (k:Nat),(∀p∈l,p.2.length<=3)->((pU k l).filter λp=>decide (0<p.2)).length<=3*l.length:=by
 intro a
 induction a with
 |nil=>
  exact λk _=>ba _
 |cons q l b=>
  intro k h
  have c:=b (k+1) λp o=>h p (by simp[o])
  have r:=h q (by simp)
  rw[FK,j_ _ _,aY,yqF,aq _]
  have:((List.range (q.2.length+1)).filter ((λp:Nat×Nat=>decide (0<p.2)) ∘λd=>(k,d))).length<=q.2.length:=by
   rw[El];have:=jZ ((λp:Nat×Nat=>decide (0<p.2)) ∘λd=>(k,d)) (.map .succ (.range q.2.length))
   simpa using this
  simp only[jG]
  exact UG c r this
theorem NR (wf:WF G):∀p∈G.rs,p.2.length<=3:=by
 refine λp c=>ao (w5 c) λi b=>ao b λa e=> ?_;clear b
 have:=nz a
 rw[dr a,e]at this
 simp at this
 subst this
 exact wf.len a
theorem NS (wf:WF G):aW G []= [(0,0)]:=by
 refine FO (rD G _) (by simp) λp=> ?_
 rw[js]
 obtain ⟨r,d⟩:=p
 cases d with
 |zero=>
  by_cases hr:r=0
  . subst hr;simp[rB wf,gf]
  simp[gf,hr]
 |succ d=>simp[aeM]
theorem ae5 (wf:WF G)(w):aW G w∈ [(0,0)]::subs ((ti G).filter λp=>decide (0<p.2)):=by
 rcases w.eq_nil_or_concat with rfl| ⟨v,X,rfl⟩
 . rw[NS wf];simp
 exact dA _ (ae3 (Zrr AW (Zrr (by
  rw[List.filter_eq_self]
  intro p a
  rw[js]at a
  obtain ⟨r,d⟩:=p
  cases d with
  |zero=>
   simp[gf]at a
   refine au a λh O=> ?_;clear a;subst O
   rw[rB wf]at h
   simp at h
  |succ d=>simp:(aW G _).filter _=aW G _).symm (have s:=yoJ.trans yoJ;s.filter _))))
theorem FU (wf:WF G)(a):(Bq G a).length<=2^21+1:=by
 have b:=nD (NP wf a).nd λx hx=>by
  refine ah (bX.mp hx) λw _ O=> ?_;subst O
  exact ae5 wf w
 rw[aq,jG,ae2]at b
 have c:=ae4 _ 0 (NR wf)
 have:((ti G).filter λp=>decide (0<p.2)).length<=21:=by
  have:=wf.nr
  unfold nR at this
  exact bp c (gh 3 this)
 have:=yoC (show 0<2 by exact yB _) this
 exact bp b (mU this)
structure Fin (G:Gm)(ws:List (List Nat)):Prop where
 eq:ws=Bq G ws.length
 lt:∀a,a<ws.length->a<(Bq G a).length
 le:ws.length<=2^21+1
theorem least {P:Nat->Prop}:∀n,(∃N,P N/\N<=n/\∀a,a<N->¬P a)\/∀a,a<=n->¬P a:=by
 intro b
 induction b with
 |zero=>
  by_cases h:P 0
  . exact .inl ⟨0,h,ba _,λa ha=>by lia⟩
  exact .inr λa ha=>by lia
 |succ n c=>
  rcases c with ⟨N,k,r,o⟩|h
  . exact .inl ⟨N,k,by exact k9 ‹_›,o⟩
  . by_cases q:P (n+1)
    . exact .inl ⟨_,q,ba _,λa ha=>h a (fU ‹_›)⟩
    exact .inr λa ha=>by
     refine(a.lt_or_ge (n+1)).elim (λl=>h a (fU ‹_›)) λl=> ?_
     . have:a=n+1:=TA ha l
       subst this;exact q
theorem ae6 (wf:WF G):∃ws,Fin G ws:=by
 rcases least (P:=λN=>(Bq G N).length<=N) _ with ⟨N,b,k,c⟩|h
 . have hl:(Bq G N).length=N:=by
    rcases N with _|n
    . cases b
    . have a:=c n (H4)
      have:=(NQ (G:=G) n).length_le
      exact Ud b a this
   refine⟨_,⟨by rw[hl];rfl,?_,Zrr hl k⟩⟩
   intro a ha
   rw[hl]at ha
   have:=c a ha
   exact jd this
 exact absurd (FU wf _) (h _ (ba _))
variable {ws:List (List Nat)}
def stN (G:Gm)(ws:List (List Nat))(w:List Nat):Nat:=(ws.map (aW G)).idxOf (aW G w)
theorem Fin.BI (f:Fin G ws)(wf:WF G):BI G ws:=by rw[f.eq];exact NP wf _
theorem Fin.pre (f:Fin G ws){a}(h:a<=ws.length):Bq G a<+:ws:=by
 have:=ae1 (G:=G) h
 rw[<-f.eq]at this
 exact this
theorem Fin.pos (f:Fin G ws):0<ws.length:=by
 rcases ws.length.eq_zero_or_pos with q|q
 . have:=f.eq
   rw[q]at this
   rw[this]at q
   cases q
 exact q
theorem nE {α:Type}{l m:List α}(h:l<+:m){i}(a:i<l.length):l[i]?=m[i]?:=by
 refine ao h λt O=> ?_;clear h;subst O
 rw[eQ a];rfl
theorem Fin.get (f:Fin G ws){a}(h:a<ws.length):(Bq G a)[a]?=ws[a]?:=nE (f.pre (b_ ‹_›)) (f.lt a h)
theorem Fin.zero (f:Fin G ws):ws[0]?=S []:=by
 rw[(f.get f.pos).symm];rfl
theorem Fin.next (f:Fin G ws){a}{w}(h:ws[a]?=S w):Bq G (a+1)=c_ G (Bq G a) w (bS G w):=by
 rw[pV ((f.get (by
  rw[dk]at h;exact h.1)).trans h)];rfl
theorem NT {b:Type} [BEq b] [LawfulBEq b]{l:List b}(nd:l.Nodup){i}{a}(h:l[i]?=S a):l.idxOf a=i:=by
 rw[dk]at h
 refine ao h λc O=> ?_;clear h;subst O
 exact nd.idxOf_getElem _ c
theorem Fin.xS (f:Fin G ws)(wf:WF G){t}{w}(h:ws[t]?=S w):stN G ws w=t:=by
 refine NT (f.BI wf).nd ?_
 rw[bw,h];rfl
theorem FW (h:aW G w∈ws.map (aW G)):∃v,ws[stN G ws w]?=S v/\aW G v=aW G w:=by
 have hl:=NU h
 have e:=NV hl
 rw[AR]at e
 rw[aq]at hl
 exact⟨_,dr hl,e⟩
theorem Fin.closed (f:Fin G ws)(wf:WF G){t:Nat}{w}{X}(h:ws[t]?=S w)(v:bE G (w++ [X])):aW G (w++ [X])∈ws.map (aW G):=by
 have:=ae0 (G:=G) (w:=w) _ (Bq G t) X ((i6 wf).mpr v)
 rw[<-f.next h]at this
 exact((f.pre (by
  rw[dk]at h;exact h.1)).map _).subset this
theorem snoc_ind {P:List Nat->Prop}(h0:P [])(a:∀w X,P w->P (w++ [X]))(w):P w:=by
 have:∀n (w:List _),w.length=n->P w:=by
  intro n
  induction n with
  |zero=>intro w e;rw[List.length_eq_zero_iff]at e;subst e;exact h0
  |succ n b=>
   intro w e
   rcases w.eq_nil_or_concat with rfl| ⟨v,X,rfl⟩
   . exact h0
   . rw[AW]at e ⊢
     simp at e
     exact a v X (b v e)
 exact this _ w rfl
theorem Fin.st (f:Fin G ws)(wf:WF G){w}(v:bE G w):∃u,ws[stN G ws w]?=S u/\bD G u=bD G w:=by
 have:aW G w∈ws.map (aW G):=by
  induction w using snoc_ind with
  |h0=>exact bX.mpr ⟨[],eX f.zero,rfl⟩
  |a w X c=>
   exact ah (FW (c (th v))) λu a b=>have e:=NK wf b;Zrr (NL wf e _).symm (f.closed wf a ((uZ e X).mpr v))
 exact ah (FW this) λu a b=>⟨u,a,NK wf b⟩
theorem aiK (e:bD G w=bD G a):stN G ws w=stN G ws a:=by
 unfold stN
 rw[FP e];rfl
theorem Fin.xT (f:Fin G ws)(wf:WF G){w}(v:bE G w):stN G ws w<ws.length:=by
 refine ah (f.st wf v) λu h _=> ?_
 rw[dk]at h
 exact h.1
theorem Fin.AZ (f:Fin G ws)(wf:WF G){w u}{X}(e:bD G u=bD G w):stN G ws (u++ [X])=stN G ws (w++ [X]):=by
 unfold stN
 rw[NL wf e X];rfl
theorem Fin.xU (f:Fin G ws)(wf:WF G):stN G ws []=0:=f.xS wf f.zero
theorem Fin.ae7 (f:Fin G ws)(wf:WF G){w a}(v:bE G w)(c:bE G a)(e:stN G ws w=stN G ws a):bD G w=bD G a:=by
 refine ah (f.st wf v) λu b k=>ah (f.st wf c) λr o q=> ?_
 rw[e,o]at b
 cases b
 rw[k.symm,q];rfl
theorem Fin.add (f:Fin G ws)(wf:WF G){l}{y}(h:addW G l y<+:ws):
 addW G l y=l/\stN G ws y<l.length\/addW G l y=l++ [y]/\stN G ws y=l.length/\ws[l.length]?=S y:=by
 unfold addW at h ⊢
 split at h
 . rename_i q
   refine Zrr (if_pos q) (.inl ⟨rfl,ah (FW q) λv a b=> ?_⟩)
   have hl:=by
    rw[dk]at a;exact a.1
   rw[nE h hl]at a
   have:stN G ws y=stN G l y:=by
    have:=f.xS wf a
    unfold stN at this ⊢
    rw[b]at this;exact this
   exact Zrr this hl
 . rename_i q
   rw[if_neg q]
   have e:ws[l.length]?=S y:=by
    refine Qw (nE h (by simp)) ?_;simp
   exact .inr ⟨rfl,f.xS wf e,e⟩
theorem ae8:dc (nV a) (nV b)=decide (a<b):=by
 show decide _=_
 simp
theorem A0 {l t:List _}(p:l.Perm t)(s:t.Pairwise (· <= ·)):gm (l.map nV)=t.map nV:=by
 refine Ed xb ?_ (p.symm.map nV) ?_
 . refine λx hx=>ah (bX.mp hx) λn _ O=> ?_;subst O
   rfl
 . unfold pG
   exact Zrr (propext i5) (s.imp λ{a b} h=>by rw[ae8];simp;assumption)
def vI (G:Gm)(p:Nat×Nat):V:=nV (gz G p)
theorem tm {l t:List _}(p:l.Perm t)(c:∀x∈t,Vd G x)(s:t.Pairwise ik):gm (l.map (vI G))=t.map (vI G):=by
 have:=A0 (p.map _) (by
  refine Zrr (propext i5) (s.imp_of_mem λ{a b} ha hb h=>b_ (xR (c a ha) h)))
 rw[b4,b4]at this
 exact this
theorem u3 {a:Type} [DecidableEq a]{l t:List a}(b:l.Nodup)(c:t.Nodup)(h:∀x,x∈l↔x∈t):l.Perm t:=by
 rw[List.perm_ext_iff_of_nodup b c];exact h
noncomputable def Rm (b:Nat->Nat->Bool):Nat->Nat->Nat->Bool
 |0,o,x=>b o x
 |m+1,o,x=>Rm b m o x|| (Rm b m o m&&Rm b m m x)
theorem FX:Rm b (m+1) o x=(Rm b m o x||Rm b m o m&&Rm b m m x):=rfl
noncomputable def rowsOf (f:List Nat)(o x:Nat):Bool:=(f.getD o 0).testBit x
theorem NW (h:b o x=ab):∀m,Rm b m o x=true:=by
 intro a
 induction a with
 |zero=>
  exact h
 |succ m c=>
  rw[FX,c];rfl
theorem ae9:∀ {m k o x:Nat},k<m->Rm b m o k=ab->Rm b m k x=ab->Rm b m o x=true:=by
 intro y
 induction y with
 |zero=>
  exact QY
 |succ m H=>
  intro k o x h a c
  simp only[FX,lY,fY]at a c ⊢
  rcases k.lt_or_ge m with l|l
  . have t:=λo x (p:Rm b m o k=ab) (q:Rm b m k x=ab)=>H l p q
    rcases a with a| ⟨a,u⟩<;>rcases c with c| ⟨c,r⟩
    . exact .inl (t _ _ a c)
    . exact .inr ⟨t _ _ a c,r⟩
    . exact .inr ⟨a,t _ _ u c⟩
    exact .inr ⟨a,r⟩
  . have:k=m:=QZ h l
    subst this
    rcases a with a| ⟨a,u⟩<;>rcases c with c| ⟨c,r⟩
    . exact .inr ⟨a,c⟩
    . exact .inr ⟨a,r⟩
    . exact .inr ⟨a,c⟩
    exact .inr ⟨a,r⟩
theorem afa {T:Nat->Nat->Prop}(hb:∀o x,b o x=ab->T o x)(c:∀o k x,T o k->T k x->T o x):∀m o x,Rm b m o x=ab->T o x:=by
 intro q
 induction q with
 |zero=>
  exact λo x h=>hb o x h
 |succ m a=>
  intro o x h
  simp only[FX,lY,fY]at h
  rcases h with h| ⟨h,r⟩
  . exact a o x h
  exact c _ _ _ (a _ _ h) (a _ _ r)
theorem NY {o a x v}(b:o<f.length):rowsOf (f.set o v) a x=if a=o then v.testBit x else rowsOf f a x:=by
 unfold rowsOf
 by_cases h:a=o
 . subst h
   simp[List.getD,b]
 . rw[if_neg h]
   simp[List.getD,vV h]
theorem afb {m o}{f}(c:o<f.length)(a x):rowsOf (ny m f o) a x=if a=o then rowsOf f o x||rowsOf f o m&&rowsOf f m x else rowsOf f a x:=by
 unfold ny
 split
 . rename_i q
   rw[NY c]
   have b:rowsOf f o m=true:=q
   by_cases h:a=o
   . rw[if_pos h,if_pos h,b,FY _ _ _];rfl
   . rw[if_neg h,if_neg h];rfl
 . rename_i q
   have b:rowsOf f o m=false:=(Bool.not_eq_true _).mp q
   by_cases h:a=o
   . subst h;rw[b];simp
   . rw[if_neg h];rfl
theorem afc (k)(hk:k<=f.length)(o x):
 rowsOf ((List.range k).foldl (ny m) f) o x=if o<k then rowsOf f o x||rowsOf f o m&&rowsOf f m x else rowsOf f o x:=by
 induction k generalizing o x with
 |zero=>simp
 |succ k a=>
  have a:=λo x=>a (b_ hk) o x
  rw[kI,g8,kW,F0];rewrite[afb (by rw[pQ _ (Fw m) _ _];exact hk)]
  rw[a _ _,a _ _,a _ _,a _ _]
  by_cases h:o=k
  . subst h
    simp only[vK,if_false,jc,if_true]
    split
    . cases rowsOf f o x<;>cases rowsOf f o m<;>cases rowsOf f m x<;>cases rowsOf f m m<;>rfl
    rfl
  . rw[if_neg h]
    by_cases l:o<k
    . rw[if_pos l];exact Zrr (if_pos (q8 l)) rfl
    . rw[if_neg l];exact Zrr (if_neg (by lia)) rfl
theorem afd (o x)(c:o<a.length):rowsOf (trans a) o x=Rm (rowsOf a) a.length o x:=by
 have:∀k,k<=a.length->∀o x,o<a.length->rowsOf ((List.range k).foldl (pP a.length) a) o x=Rm (rowsOf a) k o x:=by
  intro k
  induction k with
  |zero=>intro _ o x _;rfl
  |succ k b=>
   intro hk o x c
   have b:=b (b_ hk)
   have hl:((List.range k).foldl (pP a.length) _).length=a.length:=pQ _ (Fx _) _ _
   rw[kI,g8,kW,F0]
   unfold pP
   unfold pP at hl b
   rewrite[afc _ (by rw[hl];exact ba _)];rw[if_pos c,b _ _ c,b _ _ c];refine Zrr (b _ _ (hk)) ?_;rewrite[Rm];rfl
 exact this _ (ba _) o x c
def lB (G:Gm)(f:List Nat)(r:Nat):List Nat:=match(rhs G r)[0]? with
 |some y=>f.set (lhs G r) (f.getD (lhs G r) 0|||1<<<y)
 |none=>f
def lD (G:Gm):List Nat:=(List.range (nR G)).foldl (lB G) (List.replicate (nS G) 0)
theorem F1 (G)(f)(r):(lB G f r).length=f.length:=by unfold lB;split<;>simp
theorem A1 (G):(lD G).length=nS G:=by rewrite[lD];rw[pQ _ (F1 G) _ _];simp
theorem NZ:(1<<<x).testBit y=decide (x=y):=by
 rw[Nl _ _,HC _,Nat.testBit_two_pow];rfl
theorem N0 (wf:WF G){o x}:rowsOf (lD G) o x=ab↔∃r,r<nR G/\lhs G r=o/\(rhs G r)[0]?=S x:=by
 have:∀k,k<=nR G->∀o x,rowsOf ((List.range k).foldl (lB G) (.replicate (nS G) 0)) o x=ab↔∃r,r<k/\lhs G r=o/\(rhs G r)[0]?=S x:=by
  intro k
  induction k with
  |zero=>
   intro _ o x
   simp[rowsOf,List.getD,Ak]
   split<;>simp
  |succ k b=>
   intro hk o x
   have b:=b (b_ hk)
   have hl:((List.range k).foldl (lB G) (.replicate (nS G) 0)).length=nS G:=by rw[pQ _ (F1 G) _ _];simp
   rw[kI,g8,kW,F0]
   generalize (List.range k).foldl (lB G) _=f at b hl
   have u:=(wf.jY hk).2
   have e:rowsOf (lB G f k) o x=ab↔rowsOf f o x=ab\/lhs G k=o/\(rhs G k)[0]?=S x:=by
    unfold lB
    split
    . rename_i y H
      refine Zrr (NY (ee u (aN hl.symm))) (Zrr H (if h:o=lhs G k then ?_ else Zrr (if_neg h) (have:lhs G k≠o:=λe=>h e.symm;by simp[this])))
      . subst h
        rw[FY _ _ _,NZ]
        simp[rowsOf]
    . rename_i hn
      rw[hn];simp
   rw[e,propext (b _ _)]
   constructor
   . rintro (⟨r,c,a⟩| ⟨c,a⟩)
     . exact⟨r,by exact q8 c,a⟩
     exact⟨k,by exact H4,c,a⟩
   . intro O;refine ah O λr c a=> ?_;clear O
     refine if q:r=k then ?_ else .inl ⟨r,by lia,a⟩
     . subst q;exact .inr a
 exact this _ (ba _) o x
def FF (G:Gm)(o x:Nat):Bool:=rowsOf (trans (lD G)) o x
theorem F2 {o x}(a:o<nS G):FF G o x=Rm (rowsOf (lD G)) (nS G) o x:=by
 unfold FF
 refine Zrr (afd _ _ (by rw[A1 _];exact a)) ?_;rw[A1 _];rfl
def wants (G:Gm)(a:List (Nat×Nat)):Nat:=a.foldl (λm p=>match cK G p with|some x=>m|||1<<<x||| (trans (lD G)).getD x 0|none=>m) 0
theorem afe:(wants G a).testBit y=ab↔∃p∈a,∃x,cK G p=S x/\(x=y\/FF G x y=ab):=by
 unfold wants
 have:∀(a:List _) (m:Nat),(a.foldl (λm p=>match cK G p with|some x=>m|||1<<<x||| (trans (lD G)).getD x 0|none=>m) m).testBit y=ab↔
  m.testBit y=ab\/∃p∈a,∃x,cK G p=S x/\(x=y\/FF G x y=ab):=by
  intro a
  induction a with
  |nil=>intro m;simp
  |cons p a b=>
   intro m
   rw[kW,propext (b _)]
   cases h:cK G p with
   |none=>simp[h]
   |some x=>
    rw[FY _ _ _,FY _ _ _,NZ]
    simp only[lY,decide_eq_true_eq,cy,exists_eq_or_imp,h,jF,exists_eq_left',FF,rowsOf,or_assoc]
 rw[this a 0]
 simp
theorem tn (wf:WF G){p}{x}(h:p.1<nR G)(e:cK G p=S x):x<nS G:=(wf.sym h x (AV e)).1
theorem N1 (wf:WF G){w}{y}:(wants G (aW G w)).testBit y=ab↔∃q,VP G w q/\cK G q=S y:=by
 rw[afe]
 constructor
 . intro O;refine ah O λp c H=>ah H λx hx h=> ?_;clear H;clear O
   rw[js]at c
   rcases h with rfl|h
   . exact⟨p,c.1,hx⟩
   . rw[F2 (tn wf c.1.vd.1 hx)]at h
     refine afa (T:=λX Y=>(∃q,VP G w q/\cK G q=S X)->∃q,VP G w q/\cK G q=S Y) ?_ ?_ _ _ _ h ⟨p,c.1,hx⟩
     . intro o z hb O;refine ah O λq I F3=> ?_;rw[N0 wf]at hb
       exact cD hb λr u a L=>⟨_,tg.mpr ⟨Zrr a (xO I F3),u⟩,L⟩
     . intro o k z u a h;exact a (u h)
 . intro O;exact ah O λq I hy=>(by
    intro Q A v
    induction v with
    |top=>intro _ h;exact absurd rfl h
    | @go α β γ r A u a L ih=>
     intro e hA
     have U:=AU u a L
     rw[e]at U
     refine if k:gf _=ab then⟨_,js.mpr ⟨U.1,k⟩,A,U.2,.inl rfl⟩else ?_
     . simp[gf]at k
       refine au k λO hr=> ?_;clear k;subst O
       rw[dg]at e
       refine ah (ih e λq=>hr (AX wf a q)) λp c H=>ah H λx hx h=> ?_;have xl:=tn wf (js.mp c).1.vd.1 hx
       have b:=(N0 wf).mpr ⟨r,a,rfl,by rw[L];rfl⟩
       refine⟨p,c,x,hx,.inr ?_⟩
       rcases h with rfl|h
       . rw[F2 xl];exact NW b _
       . rw[F2 xl]at h ⊢
         exact ae9 (wf.jY a).2 h (NW b _):∀(Q:List _) (A:Nat),gE G Q A->Q=w->A≠G.nT->∃p∈aW G w,∃x,cK G p=S x/\(x=A\/FF G x A=ab)) w y (xO I hy) rfl (wf.sym I.vd.1 y (AV hy)).2.2
theorem aff (wf:WF G){w}:(List.range (nS G)).filter (wants G (aW G w)).testBit=bS G w:=by
 refine ypC λX a=> ?_
 rw[qB,propext (N1 wf),propext oP.symm]
 simp only[decide_eq_true_eq]
theorem afg (wf:WF G){w}:wants G (aW G w)<2^nS G:=by
 refine Nat.lt_pow_two_of_testBit _ λi a=> ?_
 cases h:(wants G _).testBit i with
 |false=>rfl
 |true=>
  refine ah ((N1 wf).mp h) λq b c=> ?_
  have:=tn wf b.vd.1 c
  exact SU a this
def pX (G:Gm)(w:List Nat):List (Nat×Nat):=(bD G w).filter λp=> !gf p
theorem N2:p∈pX G w↔VP G w p/\gf p=false:=by
 simp only[pX,fI,kJ,oB]
theorem A2 (G)(w):(pX G w).Pairwise ik:=(me G w).filter _
theorem afh (G)(w):(aW G w++pX G w).Perm (bD G w):=List.filter_append_perm _ _
theorem rE:∀p∈bD G w,Vd G p:=λp h=>(kJ.mp h).vd
theorem pY:∀p∈aW G w,Vd G p:=λp h=>(js.mp h).1.vd
theorem A3:∀p∈pX G w,Vd G p:=λp h=>(N2.mp h).1.vd
def xW (G:Gm)(w:List Nat):List (Nat×Nat):=(bS G w).flatMap λX=>((fu G X).map λr=>(r,0)).filter λp=> !decide (p∈aW G w)
theorem pZ {X r}:r∈fu G X↔r<nR G/\lhs G r=X:=by
 simp[fu]
theorem N3 (G)(X):(fu G X).Nodup:= .filter _ F4
theorem p5 (G)(w):(bS G w).Pairwise (· < ·):=ND.filter _
theorem F5 (wf:WF G)(w):(xW G w).Perm (pX G w):=by
 refine u3 ?_ (rC (A2 G w)) λp=> ?_
 . unfold xW List.Nodup
   refine Zrr (propext F6) ⟨λX _=> .filter _ (Zrr (propext i5) ((N3 G X).imp λ{a b} h e=>h (by simpa using e))),?_⟩
   . refine(p5 G w).imp λ{a b} h x hx y H e=> ?_
     simp only[fI,bX,pZ]at hx H
     refine au hx λO _=> ?_;clear hx;refine ah O λr c o=> ?_;clear O;refine au c λ_ u=> ?_;clear c;subst o
     refine au H λO _=> ?_;clear H;refine ah O λr' c o=> ?_;clear O;lia
 . rw[N2]
   simp only[xW,oQ,fI,bX,pZ,i6 wf,js,oB,decide_eq_false_iff_not]
   constructor
   . intro O;refine cD O λX Q c I=> ?_;clear O;refine ah c λr o U=> ?_;clear c;refine au o λu Y=> ?_;clear o;subst Y;subst U
     refine ah (oP.mp Q) λq hq F3=> ?_
     have v:=tg.mpr ⟨xO hq F3,u⟩
     refine⟨v,?_⟩
     cases k:gf _ with
     |false=>rfl
     |true=>exact absurd ⟨v,k⟩ I
   . intro O;refine au O λv k=> ?_;clear O
     obtain ⟨r,d⟩:=p
     simp[gf]at k
     refine au k λO hr=> ?_;clear k;subst O
     have L:=tg.mp v
     rcases FJ L.1 with ⟨_,h⟩| ⟨q,u,I⟩
     . exact absurd (AX wf L.2 h) hr
     exact⟨_,oP.mpr ⟨q,u,I⟩,⟨r,⟨L.2,rfl⟩,rfl⟩,by simp[gf,hr]⟩
section
noncomputable def num (w:List Nat):Nat:=w.foldl (λa x=>a*16+ (x+1)) 0
theorem lE {X}:num (w++ [X])=num w*16+ (X+1):=by rewrite[num];rw[g8];rfl
theorem snoc_cases (w:List Nat):w= []\/∃v X,w=v++ [X]:=by
 rcases w.eq_nil_or_concat with h| ⟨v,X,h⟩
 . exact .inl h
 exact .inr ⟨v,X,by rw[h,AW];rfl⟩
theorem N4 {X Y}(h:num u<num v)(a:X<16):num (u++ [X])<num (v++ [Y]):=by rw[lE,lE];exact TN h a
theorem afi {X}(h:num u<=num v):num (u++ [X])<=num (v++ [X]):=by rw[lE,lE];exact Uc h
theorem F7:∀(v u:List _),(∀x∈v,x<16)->num u<=num v->u.length<=v.length:=by
 refine snoc_ind (P:=λv=>∀u,(∀x∈v,x<16)->num u<=num v->u.length<=v.length) ?_ ?_
 . intro u _ h
   rcases snoc_cases u with rfl| ⟨a,X,rfl⟩
   . exact ba _
   . rw[lE]at h;exact absurd h (by show¬_<=0;exact SN)
 . intro v Y c u b h
   rcases snoc_cases u with rfl| ⟨a,X,rfl⟩
   . exact dM _
   . have k:=b Y (by simp)
     rw[lE,lE]at h
     have:=c a (λx hx=>b x (fg _ hx)) (by lia)
     rw[aY];exact Zrr aY (D2 this 1)
structure Qu (Q:Nat->List (List Nat)):Prop where
 z:Q 0= [[]]
 s:∀a u,(Q a)[a]?=S u->∃Ys:List Nat,Ys.Pairwise (· < ·)/\(∀X∈Ys,X<16)/\Q (a+1)=Q a++Ys.map (λX=>u++ [X])
 n:∀a,(Q a)[a]?=J->Q (a+1)=Q a
variable {Q:Nat->List (List Nat)}
def tq (l:List (List Nat)):Prop:=l.Pairwise λu v=>num u<num v
theorem tu (h:tq l){i j:Nat}{u v}(a:l[i]?=S u)(b:l[j]?=S v)(c:i<j):num u<num v:=by
 refine ao (dk.mp a) λk o=>ao (dk.mp b) λq r=> ?_
 have:=Lh.mp h i j k q c
 rwa[o,r]at this
theorem Qu.inv (q:Qu Q):∀a,tq (Q a)/\∀y∈Q a,y= []\/∃i v Y,i<a/\(Q a)[i]?=S v/\y=v++ [Y]/\Y<16:=by
 intro a
 induction a with
 |zero=>
  exact Zrr q.z ⟨LY _ _,λy h=> .inl (dm.mp h)⟩
 |succ a x=>
  refine au x λo r=> ?_;cases e:(Q a)[a]? with
  |none=>
   refine Zrr (q.n a e) ⟨o,λy b=>(r y b).imp id λh=> ?_⟩
   revert h;intro O;exact iO O λi v Y c h=>⟨i,v,Y,yA c,h⟩
  |some u=>
   refine cD (q.s a u e) λYs s1 H I=>Zrr I ⟨gc.mpr ⟨o,i5.mpr (s1.imp λh=> ?_),λy b z L=> ?_⟩,λy b=> ?_⟩
   . rw[lE,lE];exact iY (KY h) _
   . refine ah (bX.mp L) λX _ O=> ?_;subst O
     rcases r y b with rfl| ⟨i,v,Y,c,k,rfl,U⟩
     . rw[lE];exact Nat.add_pos_right _ (yB _)
     exact N4 (tu o k e c) U
   . rcases b5.mp b with b|b
     . rcases r y b with h| ⟨i,v,Y,c,k,h⟩
       . exact .inl h
       exact(λ{i v y R} c k h=>by revert h;intro O;exact ao O λY h=> .inr ⟨i,v,Y,yA c,(eQ (dk.mp k).1).trans k,h⟩:∀ {i v y R},i<a->(Q a)[i]?=S v->(∃Y,y=v++ [Y]/\Y<16)->y= []\/∃i v Y,i<a+1/\(Q a++R)[i]?=S v/\y=v++ [Y]/\Y<16) c k ⟨Y,h⟩
     . refine ah (bX.mp b) λX hX O=> ?_;subst O
       exact .inr ⟨a,u,X,a.lt_succ_self,(eQ (dk.mp e).1).trans e,rfl,H X hX⟩
theorem Qu.below (q:Qu Q){a}{u y}{X}(e:(Q a)[a]?=S u)(b:y∈Q a):num y<num (u++ [X]):=by
 refine au (q.inv a) λc k=> ?_
 rcases k y b with rfl| ⟨i,v,Y,o,r,rfl,x⟩
 . rw[lE];show 0<_;exact Ri
 exact N4 (tu c r e o) x
theorem N5:∀(a:List _) (l:List _),∃b:List _,b.Sublist a/\c_ G l u a=l++b.map λX=>u++ [X]:=by
 intro k
 induction k with
 |nil=>
  exact λl=>⟨[],.refl _,by rw[qG,dg _];rfl⟩
 |cons X a o=>
  refine λl=>ah (o (addW G l (u++ [X]))) λb c q=> ?_
  rw[(rfl:c_ G l u _=c_ G (addW G l _) u a),q];rewrite[addW]
  split
  . exact⟨b,c.cons _,rfl⟩
  exact⟨_,c.cons_cons _,by simp⟩
theorem N6 (wf:WF G){u}:∀X∈bS G u,X<16:=λX h=>by
 have:=(fI.mp h).1
 have:=gu.mp this
 have:=wf.big
 exact dw (ee ‹_› this) (by decide)
theorem N7 (wf:WF G):Qu (Bq G):=⟨rfl,λa u e=>ah (N5 (G:=G) (u:=u) _ _) λc b k=>⟨c,(p5 G u).sublist b,λX o=>N6 wf X (b.subset o),(pV e).trans k⟩,λa e=>pV e⟩
theorem Fin.z7 (f:Fin G ws)(wf:WF G):tq ws:=by rw[f.eq];exact((N7 wf).inv _).1
theorem mf (wf:WF G){u}(v:bE G u):∀x∈u,x<nS G:=by
 revert v
 refine snoc_ind (P:=λu=>bE G u->∀x∈u,x<nS G) (λ_ x h=>nomatch h) (λw X a v x hx=> ?_) u
 rcases b5.mp hx with hx|hx
 . exact a (th v) x hx
 . rw[dm.mp hx];exact(xQ wf v).1
theorem Fin.first (f:Fin G ws)(wf:WF G){w}(v:bE G w):∃u,ws[stN G ws w]?=S u/\bD G u=bD G w/\num u<=num w:=by
 revert v
 refine snoc_ind (P:=λw=>bE G w->∃u,ws[stN G ws w]?=S u/\bD G u=bD G w/\num u<=num w) (λ_=>⟨[],by rw[f.xU wf];exact f.zero,rfl,ba _⟩) (λw X r v=> ?_) w
 . refine cD (r (th v)) λu b k x=>ah (f.st wf v) λz a y=>⟨z,a,y,bp ?_ (afi x)⟩
   rw[<-f.AZ wf k]at a
   have ha:=(dk.mp b).1
   refine e9 (LZ ((i6 wf).mpr ((uZ k X).mpr v))) λdone rest o=> ?_
   have H:c_ G (Bq G (stN G ws w)) u (done++ [X])=addW G (c_ G (Bq G (stN G ws w)) u done) (u++ [X]):=by rewrite[c_];rw[g8];rfl
   have pre:addW G (c_ G (Bq G (stN G ws w)) u done) (u++ [X])<+:ws:=by
    refine .trans ?_ (f.pre (yM ha))
    have e:c_ G _ u _=c_ G (c_ G (Bq G (stN G ws w)) u (done++ [X])) u rest:=g8 ..
    rw[f.next b,o,H.symm,done.append_cons X rest];exact Zrr e (pW _ _)
   rcases f.add wf pre with ⟨e,hlt⟩| ⟨_,I,L⟩
   . refine ah (N5 (G:=G) (u:=u) done (Bq G (stN G ws w))) λYs s1 q=> ?_
     rw[e,q]at pre
     rw[q]at hlt
     rw[<-nE pre hlt]at a
     rcases b5.mp (eX a)with c|c
     . exact b_ ((N7 wf).below ((f.get ha).trans b) c)
     . refine ah (bX.mp c) λY U O=> ?_;subst O
       have:=p5 G u
       rw[o,gc]at this
       have:=this.2.2 Y (s1.subset U) X cT
       rw[lE,lE];exact Rk this
   . rw[I,L]at a
     cases a
     exact ba _
def LW (G:Gm)(k:Nat):Nat->List (List Nat)
 |0=> [[]]
 |a+1=>((LW G k a)[a]?).elim (LW G k a) λw=>LW G k a++ (if w.length<k then(bS G w).map (λX=>w++ [X])else [])
theorem u4 (e:(LW G k a)[a]?=o):LW G k (a+1)=o.elim (LW G k a) λw=>LW G k a++if w.length<k then(bS G w).map λX=>w++ [X]else []:=e▸rfl
theorem xX (h:(LW G k a)[a]?=S w):LW G k (a+1)=LW G k a++if w.length<k then(bS G w).map λX=>w++ [X]else []:=u4 h
theorem N8 (wf:WF G)(k):Qu (LW G k):=by
 refine⟨rfl,λa u e=> ?_,λa e=>u4 e⟩
 rw[xX e]
 split
 . exact⟨_,p5 G u,N6 wf,rfl⟩
 exact⟨[],.nil,λX h=>(nomatch h),rfl⟩
theorem F8 (wf:WF G)(k):∀a,∀w∈LW G k a,bE G w/\w.length<=k:=by
 intro c
 induction c with
 |zero=>
  intro w h
  rewrite[dm.mp h];exact⟨xP wf,dM _⟩
 |succ a b=>
  intro w h
  cases e:(LW G k a)[a]? with
  |none=>rw[u4 e]at h;exact b w h
  |some u=>
   rw[xX e]at h
   rcases b5.mp h with h|h
   . exact b w h
   . split at h
     . refine ah (bX.mp h) λX o O=> ?_;subst O
       refine⟨(i6 wf).mp o,?_⟩
       rw[aY,ed];lia
     cases h
theorem N9 (a):LW G k a<+:LW G k (a+1):=by
 cases e:(LW G k a)[a]? with
 |none=>rw[u4 e];exact A4 _
 |some u=>rw[xX e];exact tj _ _
theorem A5 {k a b}(h:a<=b):LW G k a<+:LW G k b:=by
 induction h with
 |refl=>exact A4 _
 |step _ c=>exact c.trans (N9 _)
theorem afj (wf:WF G){k a}(ha:(LW G k a).length<=a){w}(v:bE G w)(hw:w.length<=k):w∈LW G k a:=by
 revert v hw
 refine snoc_ind (P:=λw=>bE G w->w.length<=k->w∈LW G k a) (λ_ _=>(A5 a.zero_le).subset (dm.mpr rfl)) (λw X b v hw=> ?_) w
 . rw[aY,ed]at hw
   refine ao (uF (b (th v) (by lia))) λi o=> ?_
   have hlt:=(dk.mp o).1
   have q:(LW G k i)[i]?=S w:=Zrr (nE (A5 (show i<=a by exact b_ (ee hlt ha))) (by
    refine jd λh=> ?_
    rw[(λj c=>by
     induction c with
     |refl=>rfl
     | @step m c b=>
      exact have r:i<=m:=c;Zrr (u4 (eU (by rw[b];exact bp ‹_› ‹_›))) b:∀j,i<=j->LW G k j=LW G k i) a (b_ (ee hlt ha))]at hlt
    lia)) o
   refine(A5 (show i+1<=a by exact ee hlt ha)).subset ?_
   rw[xX q];exact Zrr (if_pos (by lia)) (ij _ (bX.mpr ⟨X,(i6 wf).mpr v,rfl⟩))
noncomputable def oR:Nat->List (List Nat)
 |0=> [[]]
 |k+1=> []::(List.range 9).flatMap λx=>(oR k).map (x:: ·)
theorem afk:oR (k+1)= []::(List.range 9).flatMap λx=>(oR k).map (x:: ·):=rfl
theorem A6:∀(k:Nat) (w:List _),(∀x∈w,x<9)->w.length<=k->w∈oR k:=by
 intro k
 induction k with
 |zero=>exact λw _ hl=>dm.mpr (qA (Nat.eq_zero_of_le_zero hl))
 |succ k a=>
  intro w h hl
  cases w with
  |nil=>exact cT
  |cons x w=>exact dA _ (oQ.mpr ⟨x,gu.mpr (h x cT),bX.mpr ⟨w,a w (λy b=>h y (dA _ b)) (Xz hl),rfl⟩⟩)
theorem aiL:∀k,(oR (k+1)).length=1+9* (oR k).length:=λk=>by
 rw[afk,jG,List.length_flatMap,n4 _ _]
 have:(List.range 9).map (λx=>((oR k).map (x:: ·)).length)= .replicate 9 (oR k).length:=by
  refine gP λi=> ?_
  rw[bw,Ak]
  rcases i.lt_or_ge 9 with h|h
  . rw[iI h,if_pos h,ua _ _,aq _];rfl
  exact Zrr (eU (Zrr cP h)) (Zrr (if_neg (mD h)) rfl)
 rw[this,List.sum_replicate_nat];rfl
theorem F9:(oR 3).length=820:=rfl
theorem afl:(oR 4).length=7381:=rfl
theorem F_ (h:tq l):l.Nodup:=h.imp λh e=>by rw[e]at h;exact vK _ h
theorem Ga (wf:WF G){k}(hk:k<=3)(a):(LW G k a).length<=820:=Zrr F9.symm (nD (F_ ((N8 wf k).inv a).1) λw hw=>have:=F8 wf k a w hw;A6 3 w (λx hx=>d_ (mf wf this.1 x hx) wf.big) (iP this.2 hk))
end
noncomputable def eZ (n:Nat)(w:List Nat):List Nat:=(w.reverse.dropWhile λx=>decide (x<n)).reverse
theorem strip_nil:eZ n []= []:=rfl
theorem u5 {X}:eZ n (v++ [X])=if X<n then eZ n v else v++ [X]:=by
 rewrite[eZ];rw[zZ,List.reverse_singleton,List.singleton_append,List.dropWhile_cons]
 by_cases h:X<n
 . rw[if_pos (decide_eq_true h),if_pos h];rfl
 . refine Zrr (if_neg (by rw[decide_eq_false h];exact gq)) ?_;rw[if_neg h,xh,z0 _];rfl
theorem afm:∀t,(∀x∈t,x<n)->eZ n (a++t)=eZ n a:=by
 refine snoc_ind λ_=>by simp λt X b h=> ?_
 rw[(bM _ _ _).symm,u5];exact Zrr (if_pos (h X (by simp))) (b λx hx=>h x (fg _ hx))
theorem Gb (w):(eZ n w= []/\∀x∈w,x<n)\/∃a B t,eZ n w=a++ [B]/\n<=B/\w=a++ [B]++t/\∀x∈t,x<n:=by
 refine snoc_ind (P:=λw=>(eZ n w= []/\∀x∈w,x<n)\/∃a B t,eZ n w=a++ [B]/\n<=B/\w=a++ [B]++t/\∀x∈t,x<n) (.inl ⟨rfl,λ_ h=>nomatch h⟩) (λw X k=> ?_) w
 rw[u5]
 by_cases h:X<n
 . rw[if_pos h]
   rcases k with ⟨b,c⟩| ⟨a,B,t,b,c,o,q⟩
   . exact .inl ⟨b,λx hx=>(b5.mp hx).elim (c x) λe=>by rw[dm.mp e];assumption⟩
   exact .inr ⟨a,B,t++ [X],b,c,by rw[(bM _ _ _).symm,o.symm];rfl,λx hx=>(b5.mp hx).elim (q x) λe=>by rw[dm.mp e];assumption⟩
 exact Zrr (if_neg h) (.inr ⟨w,X,[],rfl,gg h,by simp,λ_ h=>nomatch h⟩)
theorem N_ (w):(eZ n w).length<=w.length:=by
 rcases Gb w with ⟨a,_⟩| ⟨c,B,t,a,_,b,_⟩
 . rw[a];exact dM _
 . rw[a]
   have:=congrArg List.length b
   rw[aY]at this
   lia
theorem Oa {B}(c:n<=B)(a):∃b,eZ n (u++ [B]++a)=u++ [B]++b/\b.length<=a.length:=by
 refine snoc_ind (P:=λa=>∃b,eZ n (u++ [B]++a)=u++ [B]++b/\b.length<=a.length) ⟨[],by rw[dg _,u5];exact Zrr (if_neg (mD c)) rfl,ba _⟩ (λa X k=> ?_) a
 rw[(bM _ _ _).symm];exact Zrr u5 (if h:X<n then Zrr (if_pos h) (ah k λb o q=>⟨_,o,by rw[aY];exact Su q⟩)else Zrr (if_neg h) ⟨_,by rw[bM _ _ _];rfl,ba _⟩)
theorem Ob (h:gE G a (lhs G r))(hr:r<nR G):bE G a:=⟨_,tg.mpr ⟨h,hr⟩⟩
theorem Oc (v)(h:bE G (u++v)):bE G u:=by
 revert h
 refine snoc_ind (P:=λv=>bE G _->bE G u) (λh=>by rwa[dg]at h) (λv X a h=>a (th (by rw[bM _ _ _];assumption))) v
theorem step_sound {r B}(h:gE G q (lhs G r))(hr:r<nR G)(e:eZ G.nT (q++rhs G r)=o++ [B]):gE G o B:=by
 rcases Gb _ with ⟨k,_⟩| ⟨Y,B',t,k,_,u,h3⟩
 . rw[k]at e;simp at e
 . rw[e]at k
   have x:=qZ k rfl
   rw[<-x.1,<-(iy x.2).1]at u
   have y:∀c,q=o++ [B]++c->gE G o B:=λc e=>by
    have v:=Ob h hr
    rw[e]at v
    exact ah (oP.mp (Oc c v)) λp L O=>xO L O
   rcases Od.mp u with ⟨Q,b,H⟩| ⟨U,b,H⟩
   . rcases snoc_cases Q with rfl| ⟨a,X,rfl⟩
     . rw[dg]at b
       exact y [] (by rw[dg _,b];rfl)
     . rw[<-bM]at b
       have I:=qZ b rfl
       rw[I.1];exact Zrr (iy I.2).1 (h.go hr (by rw[H,bM _ _ _];rfl))
   exact y U b
structure Fs (G:Gm)(ml:Nat)(L:List (List Nat)):Prop where
 nd:L.Nodup
 ok:∀w∈L,w.length<=ml/\∃α A,w=α++ [A]/\gE G α A/\G.nT<=A
 st: [G.nT]∈L
def nH (G:Gm)(b:Nat)(L:List (List Nat))(w:List Nat):Prop:=∀a A r,w=a++ [A]->r<nR G->lhs G r=A->eZ G.nT (a++rhs G r)= []\/b<(eZ G.nT (a++rhs G r)).length\/eZ G.nT (a++rhs G r)∈L
theorem A7 (wf:WF G){a}{A}(h:gE G a A):A<nS G:=by
 rcases FJ h with ⟨_,rfl⟩| ⟨p,b,c⟩
 . have:=wf.AL;exact gr ‹_›
 exact tn wf b.vd.1 c
theorem Oe (wf:WF G){c}{A}(h:gE G c A):∀x∈c,x<nS G/\x≠G.nT:=by
 cases h with
 |top=>exact λ_ h=>nomatch h
 |go o k q=>
  have v:=Ob o k
  intro x hx
  rcases b5.mp hx with hx|hx
  . refine e9 (LZ hx) λa b e=> ?_
    rw[e,Of]at v
    exact have:=xQ wf (Oc b v);⟨this.1,this.2.2⟩
  exact have:=wf.sym k x (by rw[q];exact fg _ hx);⟨this.1,this.2.2⟩
theorem Og (wf:WF G){q}{L}(f:Fs G q L)(c:∀w∈L,nH G q L w):∀(n:Nat) (u:List _) (B:Nat) (a:List _),a.length<=n->G.nT<=B->u++ [B]++a∈L->u++ [B]∈L
 |n,u,B,a,hn,x,h=>by
  rcases snoc_cases a with rfl| ⟨a,A,rfl⟩
  . rwa[dg]at h
  cases n with
   |zero=>simp at hn
   |succ n=>
    rw[<-bM]at h
    refine au (f.ok _ h) λhl O=>bo O λY A' e b Q=> ?_;have y:=qZ e rfl
    have H:=(iy y.2).1
    rw[<-y.1,<-H]at b
    rw[<-H]at Q
    have og:A≠G.nT:=λz=>by
     rw[z]at b
     have:=Nz wf b
     simp at this
    refine cD (wf.Nv A (by lia) (A7 wf b)) λr hr k U=> ?_
    have o:eZ _ _=eZ _ (u++ [B]++a):=afm _ U
    refine ah (Oa (u:=u) x a) λrF I k2=> ?_
    rw[aY,ed]at hn
    rcases c _ h _ A r rfl hr k with z|z|z
    . rw[o,I]at z;simp at z
    . rw[o]at z
      have:=N_ (n:=G.nT) (u++ [B]++a)
      rw[aY]at hl
      lia
    . rw[o,I]at z
      exact Og wf f c n u B _ (by lia) x z
set_option tactic.hygienic true in
theorem afn (wf:WF G){m}{L}(f:Fs G (m+3) L)(c:∀w∈L,nH G (m+3) L w){a}{A}(h:gE G a A):G.nT<=A->a.length<=m->a++ [A]∈L:=by
 induction h with
 |top=>intro _ _;exact f.st
 |go O b H I=>
  rename_i a k o r A
  intro q hl
  rw[aY]at hl
  have x:a++rhs G r=a++k++ [A]++o:=by rw[H];simp
  refine ah (Oa (u:=a++k) q o) λQ y _=> ?_
  rcases c _ (I (wf.jY b).1 (by lia)) a _ r rfl b rfl with z|z|z
  . rw[x,y]at z;simp at z
  . have:=N_ (n:=G.nT) (a++rhs G r)
    have:=wf.len b
    rw[aY]at*
    lia
  . rw[x,y]at z
    exact Og wf f c _ _ _ _ (ba _) q z
theorem dH {D k}(h:k+1<=D):k<=D - 1:=yoG h
theorem dE {D k}(h:k+1<=D):0<D:=d_ k.succ_pos h
noncomputable def cL (l:List V):Cell:= .lst (l.map .v)
theorem i7 (h:σ[n]?=S (cL l))(hl:l.length<aE):gJ σ .append (.ref n) [.v a]=S (.v .none,σ.set n (cL (l++ [a]))):=by
 refine Zrr (Np h (by rw[aq _];assumption)) ?_;rewrite[cL];rw[bK];rfl
theorem shift_pos {m k n}(hm:m<2^n)(h:0<m>>>k):k<n:=by
 rw[W0]at h
 rcases k.lt_or_ge n with q|q
 . exact q
 . have:=d_ hm (yoC yqJ q)
   rw[Nat.div_eq_of_lt this]at h;lia
theorem afo {m k n}(hk:k<=n)(h:m>>>k=0):(List.range n).filter m.testBit=(List.range k).filter m.testBit:=by
 obtain ⟨d,rfl⟩:∃d,n=k+d:=⟨n - k,(Sv hk)⟩
 rw[yqL,j_ _ _,(by
  refine Zrr (propext xg) λx hx=>ah (bX.mp hx) λy _ O=> ?_;subst O
  have:(m>>>k).testBit y=m.testBit _:=Nat.testBit_shiftRight ..
  rw[this.symm];rw[h];rw[Nat.zero_testBit _];exact gq:((List.range d).map _).filter _= []),dg _];rfl
theorem afp {D m n}(c:1<=D)(hm:m<2^n)(hn:n<=1000){σ}:(aQ prog D).call 1 [.v (nV m)] σ=S (.v (.lst (((List.range n).filter m.testBit).map nV)),σ):=by
 refine ec c rfl rfl rfl rfl λT b=> ?_
 refine bz (iG aA (aw (eM _))) (bz aP (bz (aa rfl) ?_))
 refine uW (λk Z=>k<=n->Z [S (.v (nV m)),S (.ref 0),S (.v (nV k)),S (.v (nV (m>>>k)))] [cL (((List.range k).filter m.testBit).map nV)]) (λk=>n - k) 0
  (λZ a=>a (dM _)) (by show n - 0<2^22;exact RM hn) ?_
 intro k Z a hk
 refine wt (decide (0<m>>>k)) (br (aa rfl) aP (uX)) (λh=> ?_) (λh=> ?_)
 . have:=uz (of_decide_eq_false h)
   rw[afo hk this]at b
   exact cb (aa rfl) (b ⟨_,jn rfl⟩)
 . have hlt:=shift_pos hm (of_decide_eq_true h)
   have o:= @Ni (m>>>k) 1
   have r:∀σ,cO σ .eq (.v (nV (m>>>k&&&1))) (.v (.int 1))=S (m.testBit k):=λσ=>by rw[Nr.symm];exact td
   have hl:(((List.range k).filter m.testBit).map nV).length<aE:=aw (by
    have:=jZ m.testBit (List.range k)
    rw[cP]at this
    rw[aq _];lia)
   refine tc (λZ=>Z [S (.v (nV m)),S (.ref 0),S (.v (nV k)),S (.v (nV (m>>>k)))] [cL (((List.range (k+1)).filter m.testBit).map nV)]) (br (b9 (aa rfl) aP ‹_›) aP (by apply_assumption)) ?_ ?_ ?_
   . intro Z a q
     refine fF (d7 (aa rfl) (gy rfl) (aj (aa rfl) aA) (i7 rfl hl)) (bk (kq a ?_))
     rw[kI,j_ _ _,pJ q]
     simp
   . intro Z a q
     refine bk (kq a ?_)
     rw[kI,j_ _ _];refine Zrr (pK (by rw[q];exact gq)) ?_
     simp
   . have u:cV .shr (nV (m>>>k)) (.int 1)=S (nV (m>>>(k+1))):=(Nj).trans (rfl)
     have x:= @nq k 1
     exact bz (rfl) (bz (rfl) (bk (a (k+1) (q6 hlt) (hlt))))
def vC (G:Gm):V:= .obj 3 [(22,vG G),(23,.lst ((trans (lD G)).map nV))]
theorem A8 {σ}:n6 σ (.v (vC G))=S 3:=rfl
theorem aiM (h:x<n):1<<<x<2^n:=by
 rw[Nl _ _,HC _];exact Nat.pow_lt_pow_right (by decide) h
theorem Oh {G:Gm}(w:WF G){D:Nat}(I:2<=D){σ:Hp}:(aQ prog D).new 3 [.v (vG G)] σ=S (.v (vC G),σ):=by
 refine Fe (dE I) rfl rfl rfl rfl rfl ?_
 have L:=dH I
 have Y:=λσ=>aeJ (σ:=σ) w L
 have c1:=λσ=>jr (G:=G) (σ:=σ)
 have k:nS G<aE:=aw (by have:=w.big;exact bx this (by decide))
 have O:cV .mul (.lst [.int 0]) (nV (nS G))=S (.lst ((List.replicate (nS G) 0).map nV)):=by
  have h:0<=(nS G:Int)/\ [V.int 0].length* (nS G:Int).toNat<aE/\(nS G:Int)<(aE:Int):=⟨qK _,by simpa using k,by exact_mod_cast k⟩
  refine(b8 h).trans (congrArg S (congrArg V.lst ?_))
  show(List.replicate (nS G) [V.int 0]).flatten=_
  rw[yoR]
  induction nS G with
  |zero=>rfl
  |succ n Q=>rw[IE,List.flatten_cons,Q];rfl
 refine dU (aa rfl) (aa rfl) rfl ?_
 refine bz (aeq (fS (aj aP aA) (aw (by decide)) rfl) (cX (aa rfl) (by apply_assumption) aA (by apply_assumption)) O) ?_
 have hg:=λσ=>xM (G:=G) (σ:=σ)
 refine d8 (fH G) (List.range (nR G)) (λdone Z=>∀o,Z [S (.ref 0),S (.v (vG G)),S (.ref 1),o] [.obj 3 [(22,.v (vG G))],cN (done.foldl (lB G) (List.replicate (nS G) 0))]) (c7 (rfl) rfl) ?_ ?_ ?_
 . intro Z a
   exact a _
 . intro done r rest Z a U o
   have hr:=Fb U
   refine bt rfl ?_
   rw[g8,kW,F0]at a
   have u:(done.foldl (lB G) (List.replicate (nS G) 0)).length=nS G:=by rw[pQ _ (F1 G) _ _];simp
   generalize done.foldl (lB G) (List.replicate (nS G) 0)=f at u a ⊢
   have hw:=w.jY hr
   have hl:(rhs G r).length<aE:=aw (by have:=w.len hr;exact bx this (by decide))
   have e2:∀σ,cB σ .len (.v (.tup ((rhs G r).map nV)))=S (.val (nV (rhs G r).length)):=λσ=>eC (congrArg S (aq _)) hl
   have c2:∀σ,cO σ (.gt ()) (.v (nV (rhs G r).length)) (.v (.int 0))=_:=λσ=>uX
   refine jV (br (cw (a_ (aa rfl) (by apply_assumption)) (by apply_assumption)) aP (by apply_assumption)) ?_ ?_ λ_ _ h=>bk h
   . intro q
     have q:=of_decide_eq_true q
     obtain ⟨y,x⟩:∃y,(rhs G r)[0]?=S y:=⟨_,dr q⟩
     have H:=(w.sym hr y (eX x)).1
     have i0:∀σ,bZ σ (.v (.tup ((rhs G r).map nV))) (.int 0)=S (.v (nV y)):=λσ=>xE (aw (by decide)) (by(rw[bw,x]);rfl)
     have i1:∀c,bZ [c,cN f] (.ref 1) (nV (lhs G r))=_:=λc=>lx rfl (gY hw.2 k) (Fy (u▸hw.2))
     have b1:=Nk (b:=y) (by have:=w.big;exact b_ (dw (ee H this) (by decide)))
     have b2:= @AH (f.getD (lhs G r) 0) (1<<<y)
     refine jU (b9 (bu (aa rfl) (a_ (aa rfl) (by apply_assumption)) (by apply_assumption)) (b9 aP (bu (a_ (aa rfl) (by apply_assumption)) aP (by apply_assumption)) ‹_›) ‹_›) (rfl) (rfl) (xG rfl (by simpa [u]using hw.2) (gY hw.2 k)) (bk (kq (a _) ?_))
     rewrite[lB];rw[x,Nu];rfl
   . intro q
     have q:=of_decide_eq_false q
     refine bk (kq (a _) ?_)
     rewrite[lB];refine Zrr (eU (by lia)) ?_;rfl
 . intro o
   refine l_ rfl (jn rfl) ?_
   have t1:=(aeC (dD:=lD G) L (by rw[A1 _];exact k))
   refine dU (c6 (aj (aa rfl) aA) (by apply_assumption)) (aa rfl) rfl (bk ⟨_,Nh rfl⟩)
theorem xY:cO σ .ge (.v (gB o)) (.v (.int 0))=S o.isSome:=by
 cases o with
 |none=>rfl
 |some x=>exact congrArg _ (decide_eq_true (qK x))
theorem afq (w:WF G){c}(H:∀p∈c,Vd G p)(u:2<=D){K}(I:kT K=S (c.map (vI G))):(aQ prog D).call 18 [.v (vC G),.v K] σ=S (.v (nV (wants G c)),σ):=by
 refine ec (dE u) rfl rfl rfl rfl λT L=>bz aP (d8 (vI G) c (λdone Z=>∀k o,Z [S (.v (vC G)),S (.v K),S (.v (nV (wants G done))),k,o] []) (c7 (aa rfl) I) (λZ a=>a _ _) ?_ ?_)
 . intro done p rest Z a O k o
   have y:=H p (by rw[O];simp)
   have Q:=λσ=>jr (G:=G) (σ:=σ)
   have U:=λσ=>FH (σ:=σ) w y (dH u)
   refine bt rfl (bz (cX (a_ (aa rfl) (by apply_assumption)) (by apply_assumption) (aj (aa rfl) aA) (by apply_assumption)) ?_)
   have hw:wants G (done++ [p])=(match cK G p with|some x=>wants G done|||1<<<x||| (trans (lD G)).getD x 0|none=>wants G done):=by
    unfold wants
    rw[g8];rfl
   refine jV (br (aa rfl) aP xY) ?_ ?_ λ_ _ h=>bk h
   . refine λq=>ao (ug.mp q) λx hx=> ?_
     have r:=tn w y.1 hx
     rw[hw,hx]at a
     exact Zrr hx (have Y:∀σ,bZ σ (.v (.lst ((trans (lD G)).map nV))) (nV x)=S (.v (nV ((trans (lD G)).getD x 0))):=λσ=>jq (gY r (aw (by have:=w.big;exact bx this (by decide)))) (by rw[bw];exact Zrr (getD_some (by rw[aeB _,A1 _];exact r)) rfl);bz (b9 (b9 (aa rfl) (b9 aP (aa rfl) (Nk (b:=x) (by have:=w.big;exact b_ (dw (ee r this) (by decide))))) (@AH (wants G done) (1<<<x))) (bu (a_ (aa rfl) (by apply_assumption)) (aa rfl) (by apply_assumption)) (@AH (wants G done|||1<<<x) ((trans (lD G)).getD x 0))) (bk (a _ _)))
   . intro q
     rw[hw,(by cases h:cK G p with
      |none=>rfl
      |some x=>rw[h]at q;exact ja q:cK G p=J)]at a
     exact bk (a _ _)
 exact λk o=>cb (aa rfl) (L (c8 rfl))
theorem Oi {l:List V}(h:∀x∈l,isInt x=ab):l.all (isData 4)=true:=by
 rw[cF]
 intro x hx
 have:=h x hx
 cases x<;>first|rfl|exact bT this
theorem lF {l:List _}:∀x∈l.map (vI G),isInt x=true:=λx hx=>by
 refine ah (bX.mp hx) λp _ O=> ?_;subst O;rfl
theorem afr {a:List _}(b:∀p∈a,Vd G p){p}(c:Vd G p):mK (vI G p) (a.map (vI G))=S (decide (p∈a)):=by
 refine(b8 ⟨rfl,Oi lF⟩).trans (congrArg _ ?_)
 rw[qB,yQ,propext Ai,decide_eq_true_eq]
 constructor
 . intro O;refine ah O λq k h=> ?_;have:=pL.mp (of_decide_eq_true h)
   rw[(NH (b q k) c this).symm];assumption
 exact λh=>⟨p,h,decide_eq_true rfl⟩
def nI (G:Gm)(a:List (Nat×Nat))(b:List Nat):List (Nat×Nat):=b.flatMap λX=>((fu G X).map λr=>(r,0)).filter λp=> !decide (p∈a)
theorem oS (h:∀x∈l,isInt x=ab)(hl:l.length<aE):mL l=true:=by
 unfold mL
 rw[cF.mpr h,decide_eq_true hl];rfl
theorem mh (a:rX σ x=S l)(h:mL l=ab):cB σ .sorted x=S (.items (gm l)):=aJ a (b8 h)
theorem u6 (w:WF G){l:List _}(h:l.Nodup)(b:∀p∈l,Vd G p):l.length<=28:=by
 have a:=nD h λx hx=>NC.mpr (b x hx)
 have:∀(l:List _) k,(∀p∈l,p.2.length<=3)->(pU k l).length<=4*l.length:=by
  intro l
  induction l with
  |nil=>intro k _;exact ba _
  |cons q l c=>
   intro k h
   have:=c (k+1) λp o=>h p (dA _ o)
   have:=h q cT
   rw[FK,aY,aq _,cP,jG]
   exact Sw ‹_› this
 have r:=this _ 0 (NR w)
 have u:G.rs.length<=7:=w.nr
 unfold ti at a
 exact Sx a r u
theorem afs (w:WF G){u:List Nat}(I:3<=D):(aQ prog D).call 19 [.v (vC G),.v (.tup ((aW G u).map (vI G)))] σ=S (.v (.lst ((pX G u).map (vI G))),σ):=by
 refine ec (dE I) rfl rfl rfl rfl λT Q=> ?_
 have k:=dH I
 have hS:nS G<aE:=aw (by have:=w.big;exact bx this (by decide))
 have c1:=λσ=>A8 (G:=G) (σ:=σ)
 have U:=λσ=>jr (G:=G) (σ:=σ)
 have e1:=λσ=>afq (σ:=σ) w (pY) k (K:= .tup ((aW G u).map (vI G))) rfl
 have e2:∀σ,(aQ prog (D - 1)).call 1 [.v (nV (wants G (aW G u)))] σ=S (.v (.lst ((bS G u).map nV)),σ):=λσ=>by
  rw[(aff w).symm]
  exact afp (bp (by decide) k) (afg w) (by have:=w.big;exact b_ (bx this (by decide)))
 refine bz (iG aA (aw (eM _))) ?_
 refine d8 nV (bS G u) (λdone Z=>∀x b c,Z [S (.v (vC G)),S (.v (.tup ((aW G u).map (vI G)))),S (.ref 0),x,b,c] [cL ((nI G (aW G u) done).map (vI G))]) (c7 (c6 (aj (cX (aa rfl) (by apply_assumption) (aj (aa rfl) aA) (by apply_assumption)) aA) (by apply_assumption)) rfl) (λZ a=>a _ _ _) ?_ ?_
 . intro done X rest Z a L x b c
   have Y:=by
    have:X∈bS G u:=by rw[L];simp
    exact gu.mp (fI.mp this).1
   refine bt rfl ?_
   have e3:=λσ=>aeK (σ:=σ) w Y (bp (by decide) k:1<=D - 1)
   refine d8 nV (fu G X) (λo Z=>∀b c,Z [S (.v (vC G)),S (.v (.tup ((aW G u).map (vI G)))),S (.ref 0),S (.v (nV X)),b,c] [cL ((nI G (aW G u) done++ (o.map λr=>(r,0)).filter λp=> !decide (p∈aW G u)).map (vI G))]) (c7 (cX (a_ (aa rfl) (by apply_assumption)) (by apply_assumption) (aj (aa rfl) aA) (by apply_assumption)) rfl) (λZ a=>kq (a _ _) (by simp)) ?_ ?_
   . intro o r J7 Z a O b c
     have hr:=by
      have:r∈fu G X:=by rw[O];simp
      exact(pZ.mp this).1
     have hp:Vd G (r,0):=⟨hr,dM _⟩
     have e4:=λσ=>uY (σ:=σ) (d:=0) w hr (bp (by decide) k:1<=D - 1)
     refine bt rfl (bz (cX (a_ (aa rfl) (by apply_assumption)) (U _) (aj (aa rfl) (aj aP aA)) (e4 _)) ?_)
     have i1:∀σ,cO σ .ir (.v (nV (gz G (r,0)))) (.v (.tup ((aW G u).map (vI G))))=S (!decide ((r,0)∈aW G u)):=λσ=>bP (afr pY hp)
     have hl:((nI G (aW G u) done++ (o.map λr=>(r,0)).filter λp=> !decide (p∈aW G u)).map (vI G)).length<aE:=aw (by
      have h1:(nI G (aW G u) done++ (o.map λr=>(r,0)).filter λp=> !decide (p∈aW G u)).length<=(xW G u).length:=by
       have:xW G u=nI G (aW G u) (bS G u):=rfl
       rw[this,L];rewrite[nI,nI];rw[p6,A_,aY,aY,aY,O,bK,j_ _ _,aY]
       exact Tz
      have y:=(F5 w u).length_eq
      have H:=u6 w (rC (A2 G u)) A3
      rw[aq _];exact bx (iP (iP h1 (aN y)) H) (by decide))
     refine jV (br (aa rfl) (aa rfl) (by apply_assumption)) ?_ ?_ λ_ _ h=>bk h
     . intro q
       refine fF (d7 (aa rfl) (gy rfl) (aj (aa rfl) aA) (i7 rfl hl)) (bk (kq (a _ _) ?_))
       rw[(bK (f:=λr=>(r,0))),j_ _ _,u7,(pJ (p:=λp=> !decide (p∈aW G u)) q),xZ,(bM _ _ _).symm,bK (l₂:= [(r,0)])]
       rfl
     . intro q
       refine bk (kq (a _ _) ?_)
       rw[(bK (f:=λr=>(r,0))),j_ _ _,u7];refine Zrr (pK (by rw[q];exact gq)) ?_;rw[xZ,dg _];rfl
   . intro b c
     refine bk (kq (a _ _ _) ?_)
     rewrite[nI,nI];rw[p6,Ba _ _];rfl
 . intro x b c
   have hs:gm ((nI G (aW G u) (bS G u)).map (vI G))=(pX G u).map (vI G):=tm (F5 w u) A3 (A2 G u)
   refine cb (iH (aa rfl) (mh (fT _) (oS lF (aw ?_)))) (Q (c8 (by(rw[hs];rfl))))
   have y:(nI G (aW G u) (bS G u)).length=_:=(F5 w u).length_eq
   have H:=u6 w (rC (A2 G u)) A3
   rw[aq _];exact bx (iP (aN y) H) (by decide)
def cls (G:Gm)(u:List Nat):List (Nat×Nat):=aW G u++pX G u
theorem oT:∀p∈cls G u,Vd G p:=λp h=>(b5.mp h).elim (pY p) (A3 p)
theorem tv (u):(cls G u).Perm (bD G u):=afh G u
theorem Oj (u):(cls G u).Nodup:=(tv u).nodup_iff.mpr (rC (me G u))
theorem rG (w:WF G)(u):(cls G u).length<=28:=u6 w (Oj u) oT
theorem Ge (w:WF G)(u):(aW G u).length<=28:=u6 w (rC (rD G u)) pY
theorem Ol (w:WF G){u}(a:4<=D):(aQ prog D).call 20 [.v (vC G),.v (.tup ((aW G u).map (vI G)))] σ=S (.v (.lst ((cls G u).map (vI G))),σ):=ec (dE a) rfl rfl rfl rfl λT b=>have c:=λσ=>A8 (G:=G) (σ:=σ);have k:=λσ=>afs (σ:=σ) (u:=u) w (dH a);cb (b9 (iH (aa rfl) ((λσ=>by
 refine Zrr (mh rfl (oS lF (aw (by have:=Ge w u;rw[aq _];exact bx this (by decide))))) ?_;rw[tm (.refl _) pY (rD G u)];rfl:∀σ,cB σ _ _=S _) _)) (cX (aa rfl) (by apply_assumption) (aj (aa rfl) aA) (by apply_assumption)) (by
 rw[nu,cls,bK];rfl
 have:=rG w u
 rw[cls,aY]at this
 exact aw (by rw[aq _,aq _];lia))) (b (c8 rfl))
theorem aft (w:WF G){u}(a:5<=D):(aQ prog D).call 21 [.v (vG G),.v (.tup ((aW G u).map (vI G)))] σ=S (.v (.lst ((cls G u).map (vI G))),σ):=ec (dE a) rfl rfl rfl rfl λT c=>have b:=dH a;cb (cX (rt (aj (aa rfl) aA) (Oh w (bp (by simp) b))) A8 (aj (aa rfl) aA) (Ol w b)) (c (c8 rfl))
def kK (G:Gm)(p:Nat×Nat):Bool:=(cK G p).isNone&&decide (p.1≠0)
theorem afu:cO σ .lt (.v (gB o)) (.v (.int 0))=S o.isNone:=by
 cases o with
 |none=>rfl
 |some x=>exact congrArg _ (decide_eq_false (lT.mpr (qK x)))
theorem afv:cO σ .ne (.v (nV n)) (.v (.int 0))=S (decide (n≠0)):=by
 refine(congrArg (Option.map _) (td:cO σ _ _ _=S _)).trans (congrArg S ?_)
 by_cases q:n=0<;>simp
theorem x6 {b:Type}{l:List b}{f:b->Nat}:∀x∈l.map λa=>nV (f a),isInt x=true:=λx hx=>by
 refine ah (bX.mp hx) λp _ O=> ?_;subst O;rfl
theorem afw (w:WF G){u}(k:2<=D):(aQ prog D).call 24 [.v (vG G),.v (.lst ((cls G u).map (vI G)))] σ=S (.v (.lst (((bD G u).filter (kK G)).map λp=>nV p.1)),σ):=by
 refine ec (dE k) rfl rfl rfl rfl λT I=> ?_
 have len:∀ {l:List _},l.length<=28->((l.filter (kK G)).map λp=>nV p.1).length<aE:=λ{l} h=>aw (by
  have:=jZ (kK G) l
  rw[aq _];exact bx (iP this h) (by decide))
 refine bz (iG aA (aw (eM _))) (d8 _ _ (λdone Z=>∀o,Z [S (.v (vG G)),S (.v (.lst ((cls G u).map (vI G)))),S (.ref 0),o] [cL ((done.filter (kK G)).map λp=>nV p.1)]) (c7 (rfl) rfl) (λZ c=>c _) ?_ ?_)
 . intro done p rest Z c x o
   have y:=oT p (by rw[x];simp)
   have r:=λσ=>jr (G:=G) (σ:=σ)
   have H:=λσ=>AP (σ:=σ) w y (dH k)
   refine bt rfl (jV (p:=kK G p)
    (xt (br (cX (rfl) (r _) (rfl) ((λσ=>FH (σ:=σ) w y (dH k)) _)) aP afu) λ_=>br (cX (rfl) (r _) (rfl) (H _)) aP afv) ?_ ?_ λ_ _ h=>bk h)
   . refine λq=>fF (d7 (aa rfl) (gy rfl) (aj (cX (rfl) (r _) (rfl) (H _)) aA) (i7 rfl (len (by
     have:=rG w u
     rw[x,aY]at this
     lia)))) (bk (kq (c _) ?_))
     rw[j_ _ _,pJ q,bK];rfl
   . refine λq=>bk (kq (c _) ?_)
     rw[j_ _ _];refine Zrr (pK (by exact Zrr q gq)) ?_;rw[xZ,dg _];rfl
 . intro o
   have L:gm (((cls G u).filter (kK G)).map λp=>nV p.1)=((bD G u).filter (kK G)).map λp=>nV p.1:=by
    have h:=A0 (t:=((bD G u).filter (kK G)).map _) (((tv u).filter _).map _) (Zrr (propext i5) (((me G u).filter _).imp λ{a b} h=>h.elim b_ λh=>aN h.1))
    rwa[b4,b4]at h
   exact cb (iH (aa rfl) (mh (fT _) (oS x6 (len (rG w u))))) (I (c8 (by rw[L];rfl)))
abbrev KB:=List (Nat×List (Nat×Nat))
noncomputable def mi (X:Nat)(p:Nat×Nat):KB->KB
 | []=> [(X,[p])]
 |e::r=>if e.1=X then(X,e.2++ [p])::r else e::mi X p r
theorem Gf {X}{p}{e}{r:KB}:mi X p (e::r)=if e.1=X then(X,e.2++ [p])::r else e::mi X p r:=rfl
noncomputable def mj (p:Nat×Nat):Nat×Nat:=(p.1,p.2+1)
def oU (G:Gm)(a:KB)(p:Nat×Nat):KB:=match cK G p with
 |some X=>mi X (mj p) a
 |none=>a
def fw (G:Gm)(l:List (Nat×Nat)):KB:=l.foldl (oU G) []
def g9 (k:Nat)(a:KB):List (V×X):=(a.zipIdx k).map λe=>(nV e.1.1,.ref (e.2+1))
def tw (G:Gm)(a:KB):Hp:=a.map λe=>cL (e.2.map (vI G))
def fJ (G:Gm)(a:KB):Hp:= .aU .int (g9 0 a)::tw G a
theorem x7:dK (nV a) (nV b)=decide (a=b):=decide_eq_decide.mpr pL
theorem mm {r:List (V×b)}:ck k ((a,x)::r)=if dK a k then S x else ck k r:=rfl
theorem tx {x y}{r:List (V×b)}:d9 k x ((a,y)::r)=if dK a k then(a,x)::r else(a,y)::d9 k x r:=rfl
noncomputable def dP (X:Nat):KB->Option Nat
 | []=>J
 |e::r=>if e.1=X then S 0 else(dP X r).map (· +1)
theorem afx {X}:dP X []=none:=rfl
theorem kg {X}{e}{r:KB}:dP X (e::r)=if e.1=X then S 0 else(dP X r).map (· +1):=rfl
theorem Bb {X}:∀(a:KB) (k:Nat),ck (nV X) (g9 k a)=(dP X a).map λj=> .ref (k+j+1):=by
 intro b
 induction b with
 |nil=>
  exact λk=>rfl
 |cons e r c=>
  intro k
  rewrite[g9];rw[Gg,dz,mm,x7,kg]
  by_cases h:e.1=X
  . rw[if_pos (decide_eq_true h),if_pos h];rfl
  . refine Zrr (if_neg (by rw[decide_eq_false h];exact gq)) ?_;rw[if_neg h]
    have:=c (k+1)
    rw[g9]at this
    rw[this]
    cases dP X r with
    |none=>rfl
    |some j=>simp only[ua];lia
theorem Bc {X}:∀ {a:KB} {j:Nat},dP X a=S j->∃l,a[j]?=S (X,l):=by
 intro b
 induction b with
 |nil=>exact λh=>nomatch h
 |cons e r c=>
  intro j h
  rw[kg]at h
  by_cases q:e.1=X
  . rw[if_pos q]at h;cases h;exact⟨_,by rw[q.symm];rfl⟩
  . rw[if_neg q]at h
    refine gX h λi k O=> ?_;subst O
    exact c k
theorem Gh {X}{p}:∀ {a:KB},dP X a=J->mi X p a=a++ [(X,[p])]:=by
 intro b
 induction b with
 |nil=>
  exact λ_=>rfl
 |cons e r c=>
  intro h
  rw[kg]at h
  split at h
  . exact kO h
  . rename_i q
    rw[Gf,if_neg q,c (Gi.mp h)];rfl
theorem Gj {X}{p}{l}:∀ {a:KB} {j:Nat},dP X a=S j->a[j]?=S (X,l)->mi X p a=a.set j (X,l++ [p]):=by
 intro c
 induction c with
 |nil=>
  intro _ h _
  exact aD h
 |cons e r k=>
  intro j h b
  rw[kg]at h
  rw[Gf]
  split at h
  . cases h
    cases b
    rw[if_pos rfl];rfl
  . rename_i q
    rw[if_neg q]
    cases q2:dP X r with
    |none=>rw[q2]at h;exact aD h
    |some i=>
     rw[q2]at h;cases h
     rewrite[k q2 b];rfl
theorem afy {X}{l}:g9 0 (a++ [(X,l)])=g9 0 a++ [(nV X,.ref (a.length+1))]:=by
 rewrite[g9];rw[Om];simp[g9]
theorem afz {k j}{X}{l b}(h:a[j]?=S (X,l)):g9 k (a.set j (X,b))=g9 k a:=by
 rw[g9,g9]
 refine gP λi=> ?_
 rw[bw,bw,lG,lG,rH]
 split
 . rename_i q
   subst q
   rw[h]
   split
   . rfl
   . rename_i q;exact absurd (dB h) q
 rfl
theorem Oo {l:List _}{X}:∀ {c:KB},(∃p,cK G p=S X/\p∈l)\/dP X c≠J↔dP X (l.foldl (oU G) c)≠none:=by
 have k:∀ {Y:Nat} {p:Nat×Nat} {c:KB},dP X (mi Y p c)≠J↔X=Y\/dP X c≠none:=by
  intro Y p c
  induction c with
  |nil=>
   show dP X [(Y,[p])]≠J↔_
   exact if h:Y=X then by simp[h,kg]else by simp[h,vV h,kg]
  |cons e r o=>
   rw[Gf]
   split
   . rename_i q
     rw[kg,kg];exact Zrr q (if h:Y=X then by simp[h]else by simp[vV h])
   . rw[kg,kg]
     by_cases h:e.1=X
     . simp[h]
     . simp only[h,if_false,ne_eq,Gi]
       exact o
 induction l with
 |nil=>intro c;simp
 |cons q l o=>
  intro c
  rw[kW,propext o.symm];rewrite[oU]
  cases h:cK G q with
  |none=>
   constructor
   . rintro (⟨p,b,a⟩|a)
     . rcases cy.mp a with rfl|a
       . rw[h]at b;exact aD b
       exact .inl ⟨p,b,a⟩
     exact .inr a
   . rintro (⟨p,b,a⟩|a)
     . exact .inl ⟨p,b,dA _ a⟩
     exact .inr a
  |some Y=>
   rw[k]
   constructor
   . rintro (⟨p,b,a⟩|a)
     . rcases cy.mp a with rfl|a
       . rw[h]at b;cases b;exact .inr (.inl rfl)
       exact .inl ⟨p,b,a⟩
     exact .inr (.inr a)
   . rintro (⟨p,b,a⟩|rfl|a)
     . exact .inl ⟨p,b,dA _ a⟩
     . exact .inl ⟨q,h,cT⟩
     exact .inr a
structure Be (G:Gm)(l:List (Nat×Nat))(kb:KB):Prop where
 nd:(kb.map (·.1)).Nodup
 bD:∀X is,(X,is)∈kb->is=(l.filter λp=>decide (cK G p=S X)).map mj
theorem Gk {b:Type}{P:List b->Prop}(h0:P [])(c:∀l a,P l->P (l++ [a]))(l):P l:=by
 rw[l.reverse_reverse.symm]
 induction l.reverse with
 |nil=>exact h0
 |cons a l k=>rw[xh];exact c _ _ k
theorem Bf (l):Be G l (fw G l):=by
 refine Gk (P:=λl=>Be G l (fw G l)) ⟨Bh,λX is h=>by cases h⟩ ?_ l
 . intro l p c
   have e:fw G (l++ [p])=oU G (fw G l) p:=by rewrite[fw];rw[g8];rfl
   rw[e]
   have keep:∀X,cK G p≠S X->(l++ [p]).filter (λp=>decide (cK G p=S X))=l.filter λp=>decide (cK G p=S X):=λX h=>by
    rw[j_ _ _];refine Zrr (pK (by simpa using h)) ?_;simp
   have more:∀X,cK G p=S X->(l++ [p]).filter (λp=>decide (cK G p=S X))=(l.filter λp=>decide (cK G p=S X))++ [p]:=λX h=>by
    rw[j_ _ _];exact Zrr (pJ (by simpa using h)) rfl
   rewrite[oU]
   cases h:cK G p with
   |none=>exact⟨c.nd,λX is hm=>Zrr (keep X (by rw[h];simp)) (c.bD X is hm)⟩
   |some Y=>
    cases q:dP Y (fw G l)with
    |none=>
     have Oq:=λis hm=>by
      have:∀ {u:KB},(Y,is)∈u->dP Y u≠none:=λ{u} hm=>by
       induction u with
       |nil=>cases hm
       |cons e r c=>
        rw[kg]
        split
        . simp
        . rename_i ne
          rcases cy.mp hm with rfl|hm
          . exact absurd rfl ne
          simpa using c hm
      exact this hm q
     show Be G _ (mi Y (mj p) (fw G l))
     rw[Gh q]
     constructor
     . rw[bK];refine Zrr (propext qH) ⟨c.nd,by simp,λa ha b hb e=> ?_⟩
       simp at hb
       subst hb e
       refine ah (bX.mp ha) λO hm x=> ?_;obtain ⟨_,is⟩:=O;subst x
       exact Oq is hm
     . intro X is hm
       rcases b5.mp hm with hm|hm
       . exact Zrr (keep X (by rw[h];intro e;cases e;exact Oq is hm)) (c.bD X is hm)
       . simp at hm
         refine au hm λO x=> ?_;clear hm;subst O;subst x
         rw[more X h];exact Zrr (xg.mpr λy H=>by simpa using (λy H e=>(Oo).mp (.inl ⟨y,e,H⟩) q) y H) rfl
    |some j=>
     refine ao (Bc q) λI k=> ?_
     show Be G _ (mi Y (mj p) (fw G l))
     refine Zrr (Gj q k) ⟨(by
      refine Zrr xI (gP λi=> ?_)
      rw[rH]
      split
      . rename_i L;subst L
        rw[bw,k]
        split
        . rfl
        . rename_i z;rw[aq]at z;exact absurd (dB k) z
      rfl:((fw G l).set j (Y,I++ [mj p])).map (·.1)=(fw G l).map (·.1))▸c.nd,λX is hm=>ao (uF hm) λi o=> ?_⟩
     rw[rH]at o
     split at o
     . rw[if_pos (dB k)]at o
       cases o
       rw[more _ h,bK,(c.bD _ _ (eX k)).symm];rfl
     . rename_i L
       rewrite[keep X ?_]
       . exact c.bD X is (eX o)
       . rw[h];intro e;cases e
         have Q:((fw G l).map (·.1))[j]?=S Y:=by rw[bw,k];rfl
         have U:((fw G l).map (·.1))[i]?=S Y:=by rw[bw,o];rfl
         rw[dr (dB Q)]at Q
         rw[dr (dB U)]at U
         exact L ((FI c.nd).mp ((je Q).trans (je U).symm))
theorem tA:∀ {a:List (V×o)},ck k a=J->d9 k x a=a++ [(k,x)]:=by
 intro b
 induction b with
 |nil=>
  exact λ_=>rfl
 |cons u r c=>
  intro h
  rw[mm]at h
  split at h
  . exact kO h
  . rename_i q
    rw[tx,if_neg q,c h];rfl
theorem tB {X}{g:Nat->c}:∀ {l:List _},ck (nV X) (l.map λY=>(nV Y,g Y))=if X∈l then S (g X)else none:=by
 intro a
 induction a with
 |nil=>
  exact rfl
 |cons Y l b=>
  rw[dz,mm,x7,b]
  by_cases h:Y=X
  . rw[if_pos (decide_eq_true h)];refine Zrr (if_pos (Zrr h cT)) ?_;rw[h];rfl
  . refine Zrr (if_neg (by rw[decide_eq_false h];exact gq)) ?_
    by_cases q:X∈l
    . rw[if_pos q,if_pos (dA _ q)];rfl
    . rw[if_neg q];rewrite[if_neg λz=>(cy.mp z).elim (λe=>h e.symm) q];rfl
theorem Gl {k}(hr:σ[r]?=S (.aU t a))(hk:dR t k=ab):n7 σ k (.ref r)=S (ck k a).isSome:=aJ hr (b8 hk)
theorem afA (hr:σ[r]?=S (cL l)):rX σ (.ref r)=S l:=aJ hr (fT l)
theorem Ot {a}(hr:σ[r]?=S (.aU t a)):rX σ (.ref r)=S (keysOf a):=aJ hr rfl
theorem tC {t}:az cl (.aU ab t .nil .nil) ρ σ=S (.ref σ.length,σ++ [.aU t []]):=rfl
theorem Ou:(fJ G a).length=a.length+1:=by rewrite[fJ];rw[jG];rewrite[tw];rw[aq _];rfl
theorem Gn {j X}{l}(h:a[j]?=S (X,l)):(fJ G a)[j+1]?=S (cL (l.map (vI G))):=by
 rewrite[fJ];rw[List.getElem?_cons_succ];rewrite[tw];rw[bw,h];rfl
theorem afB {j X}{l a}(h:b[j]?=S (X,l)):(fJ G b).set (j+1) (cL (a.map (vI G)))=fJ G (b.set j (X,a)):=by
 rw[fJ,fJ,afz h,tw,tw,xI];rfl
theorem afC {X}(h:dP X a=J):(fJ G a++ [Cell.lst []]).set 0 (.aU .int (d9 (nV X) (.ref (fJ G a).length) (g9 0 a)))=fJ G (a++ [(X,[])]):=by
 refine Zrr (tA (by rw[Bb _ _,h];rfl)) ?_;rw[Ou,fJ,fJ,afy,tw,tw,bK];rfl
theorem afD (w:WF G)(u):((fw G (cls G u)).map (·.1)).Perm (bS G u):=by
 refine u3 (Bf _).nd (.imp dx (p5 G u)) λX=> ?_
 rw[i6 w,propext oP,propext (by
  have:∀a,X∈a.map (·.1)↔dP X a≠none:=λa=>by
   induction a with
   |nil=>simp[afx]
   |cons e r k=>
    rw[kg];rw[dz];rw[propext cy];exact Zrr (propext k) (if h:e.1=X then by simp[h]else by simp[h,vV h])
  exact this _:X∈ (fw G _).map _↔dP X _≠J)];rewrite[fw];rw[Oo.symm]
 constructor
 . rintro (⟨p,b,c⟩|h)
   . exact⟨p,kJ.mp ((tv u).mem_iff.mp c),b⟩
   exact absurd rfl h
 . intro O;exact ah O λp b c=> .inl ⟨p,c,(tv u).mem_iff.mpr (kJ.mpr b)⟩
theorem afE (w:WF G)(u)(X):(((cls G u).filter λp=>decide (cK G p=S X)).map mj).Perm (aW G (u++ [X])):=by
 refine u3 (by
  rw[rI];exact Zrr (propext i5) (((Oj u).filter _).imp λh e=>h ((by
  intro O;obtain ⟨a,b⟩:=O;intro x;intro h
  have c:=congrArg Prod.fst h
  have o:=congrArg Prod.snd h
  simp[mj]at c o
  rw[c,o];rfl:∀p q,mj p=mj q->p=q) _ _ e))) (rC (rD G _)) λp=> ?_
 rw[js,propext bX]
 constructor
 . intro O;refine ah O λx h y=> ?_;subst y
   exact au (fI.mp h) λc o=>⟨rA.mpr ⟨kJ.mp ((tv u).mem_iff.mp c),of_decide_eq_true o⟩,rfl⟩
 . intro O;refine au O λh k=> ?_;clear O
   obtain ⟨r,d⟩:=p
   cases d with
   |zero=>
    have e:=by simpa [gf]using k
    subst e
    exact absurd ((rB w).mp h) (by simp)
   |succ d=>
    exact au (rA.mp h) λc o=>⟨_,fI.mpr ⟨(tv u).mem_iff.mpr (kJ.mpr c),decide_eq_true o⟩,rfl⟩
theorem rJ (h:n7 σ k o=S b):cO σ .ir (.v k) o=S !b:=bP h
theorem Ov (w:WF G){l}(h:∀p∈l,Vd G p):(fw G l).length<=9:=by
 have c:=nD (Bf l).nd λX o=>by
  refine ah (bX.mp o) λO hm r=> ?_;subst r
  have:=λl=>by
   refine Gk (P:=λl=>(∀p∈l,Vd G p)->∀e∈fw G l,e.1<nS G) (λ_ e h=>by cases h) ?_ l
   intro l p a k e he
   have a:=a λp b=>k p (fg _ b)
   have b:=k p (by simp)
   rw[fw,g8]at he
   change e∈oU G (fw G l) p at he
   rw[oU]at he
   cases q:cK G p with
   |none=>rw[q]at he;exact a e he
   |some Y=>
    rw[q]at he
    change e∈mi Y _ _ at he
    cases z:dP Y _ with
    |none=>
     rw[Gh z]at he
     refine(b5.mp he).elim (a e) λhe=> ?_
     . simp at he;subst he;exact tn w b.1 q
    |some j=>
     refine ao (Bc z) λis u=> ?_
     rw[Gj z u]at he
     rcases List.mem_or_eq_of_mem_set he with he|rfl
     . exact a e he
     exact tn w b.1 q
  exact gu.mpr (this l h _ hm)
 rw[aq,cP]at c
 exact bp c w.big
def eE (G:Gm)(u:List Nat):V:= .tup ((aW G u).map (vI G))
theorem afF (w:WF G){D}(u:2<=D){done}{p}{X}{K}(x:∀q∈done,Vd G q)(y:Vd G p)(U:cK G p=S X)
 {a}(c:a=fw G done)(hl:∀X l,(X,l)∈a->l.length<aE){Q}{R}(H:Q [S (.v (vG G)),S (.v K),S (.ref 0),S (.v (vI G p)),S (.v (nV X)),J] (fJ G (mi X (mj p) a))):
 Do (aZ (aQ prog D) (.cons (.ite (.cmp .ir (.var 4) (.var 2)) (.cons (.gk (.var 2) (.var 4) (.lst ab .nil)) .nil) .nil) (.cons (.ex (.da (.idx (.var 2) (.var 4)) .append (.cons (.call 22 (.cons (.var 0) (.cons (.var 3) .nil))) .nil))) .nil))
  [S (.v (vG G)),S (.v K),S (.ref 0),S (.v (vI G p)),S (.v (nV X)),J] (fJ G a)) Q R:=by
 refine tc (p:= !(dP X a).isSome) (λZ=>∀b j l,dP X b=S j->b[j]?=S (X,l)->l.length<aE->b.set j (X,l++ [mj p])=mi X (mj p) a->Z [S (.v (vG G)),S (.v K),S (.ref 0),S (.v (vI G p)),S (.v (nV X)),J] (fJ G b))
  (br (aa rfl) (aa rfl) (rJ ((Gl rfl rfl).trans (by rw[Bb _ _];cases dP X a<;>rfl)))) ?_ ?_ ?_
 . intro Z k q
   have q:dP X a=none:=by cases z:dP X a with
    |none=>rfl
    |some j=>rw[z]at q;exact bT q
   refine jU (iG aA (aw (eM _))) (aa rfl) (aa rfl) (rz rfl rfl (aw (by have:=Ov w x;rw[<-c]at this;rewrite[g9];rw[aq _,u9];lia))) (bk (kq (k _ a.length [] ?_ ?_ (aw (eM _)) ?_) (afC q)))
   . have:∀a,dP X a=J->dP X (a++ [(X,[])])=S a.length:=λa=>by
      induction a with
      |nil=>intro _;simp[kg]
      |cons e r I=>
       intro h
       rw[kg]at h
       split at h
       . exact kO h
       . rename_i z
         rw[CT];rewrite[dP];rw[if_neg z,I (Gi.mp h)];rfl
     exact this a q
   . simp
   . rw[Gh q];simp
 . intro Z k q
   obtain ⟨j,z⟩:∃j,dP X a=S j:=by cases z:dP X a with
    |none=>rw[z]at q;exact ja q
    |some j=>exact⟨j,rfl⟩
   exact ao (Bc z) λl h=>bk (k a j l z h (hl _ _ (eX h)) (Gj z h).symm)
 . refine λb j l L o Y O=>fF (d7 (bu (aa rfl) (aa rfl) (Ft rfl rfl (by rw[Bb _ _,L];simp))) (gy (Gn o)) (aj (c6 (aj (aa rfl) (aj (aa rfl) aA)) ((λσ=>aeL (σ:=σ) w y u) _)) aA) (i7 (Gn o) (by rw[aq _];assumption))) (bk (kq H ?_))
   rw[O.symm,(afB o).symm,bK];rfl
theorem afG (w:WF G){u:List Nat}(L:3<=D):(aQ prog D).call 23 [.v (vG G),.v (.lst ((cls G u).map (vI G)))] σ=S (.v (.aU .int ((bS G u).map λX=>(nV X,eE G (u++ [X])))),σ):=by
 refine ec (dE L) rfl rfl rfl rfl λT hT=> ?_
 have jO:∀l,l<+:cls G u->∀X is,(X,is)∈fw G l->is.length<aE:=λl hl X is hm=>by
  rw[(Bf l).bD X is hm,aq _]
  have:=jZ (λp=>decide (cK G p=S X)) l
  have:=hl.length_le
  have:=rG w u
  exact aw (bx (iP (iP ‹_› ‹_›) this) (by decide))
 refine bz tC ?_
 refine d8 (vI G) (cls G u) (λdone Z=>∀k o,Z [S (.v (vG G)),S (.v (.lst ((cls G u).map (vI G)))),S (.ref 0),k,o,J] (fJ G (fw G done))) (c7 (rfl) rfl) ?_ ?_ ?_
 . intro Z b
   exact b _ _
 . intro done p rest Z b y k o
   have hv:=λq hq=>oT q (by rw[y];exact fg _ hq)
   have H:=oT p (by rw[y];simp)
   have c1:=λσ=>jr (G:=G) (σ:=σ)
   have e1:=λσ=>FH (σ:=σ) w H (bp (by decide) (dH L))
   have e:fw G (done++ [p])=oU G (fw G done) p:=by rewrite[fw];rw[g8];rfl
   refine bt rfl (bz (cX (rfl) (c1 _) (aj (aa rfl) aA) (e1 _)) ?_)
   rw[e]at b
   refine jV (br (aa rfl) aP xY) ?_ ?_ λ_ _ h=>bk h
   . intro q
     refine ao (ug.mp q) λX Q=> ?_
     rw[Q]
     exact afF w (dH L) hv H Q rfl (jO done ⟨_,y.symm⟩) (kq (b _ _) (by(rewrite[oU];rw[Q];rfl)))
   . intro q
     have q:cK G p=none:=by cases z:cK G p with
      |none=>rfl
      |some j=>rw[z]at q;exact ja q
     refine bk (kq (b _ _) ?_)
     rewrite[oU];rw[q];rfl
 . intro k o
   have Ow:=Ov w (λp H=>oT (u:=u) p H)
   have qT:=Bf (G:=G) (cls G u)
   have U:=afD w u
   have Ox:=jO _ (A4 _)
   generalize fw G (cls G u)=a at Ow qT U Ox
   have hs:gm (keysOf (g9 0 a))=(bS G u).map nV:=by
    have:keysOf (g9 0 a)=(a.map (·.1)).map nV:=by
     rewrite[keysOf,g9];rw[b4,b4]
     refine gP λi=> ?_
     rw[bw,bw,lG]
     cases a[i]?<;>rfl
    rw[this]
    exact A0 U ((p5 G u).imp b_)
   have Y:mL (keysOf (g9 0 a))=true:=oS (λx hx=>by
    (refine ah (bX.mp hx) λe he O=> ?_;obtain rfl:=O)
    (refine ah (bX.mp he) λq _ O=> ?_;obtain rfl:=O)
    rfl) (aw (by(rewrite[keysOf,g9];rw[aq _,aq _,u9]);exact bx Ow (by decide)))
   have hlk:(fJ G a).length=a.length+1:=Ou
   refine bz tC ?_
   have g0:∀c,(fJ G a++ [c])[0]?=S (.aU .int (g9 0 a)):=λc=>rfl
   have b1:=λc=>(mh (Ot (g0 c)) Y).trans (by(rw[hs];rfl))
   refine d8 nV (bS G u) (λdone Z=>∀k o,Z [S (.v (vG G)),S (.v (.lst ((cls G u).map (vI G)))),S (.ref 0),k,o,S (.ref (fJ G a).length)] (fJ G a++ [.aU .int (done.map λX=>(nV X,.v (eE G (u++ [X]))))])) (c7 (iH (aa rfl) (b1 _)) rfl) ?_ ?_ ?_
   . intro Z b
     exact b _ _
   . intro done X rest Z b y k o
     refine bt rfl ?_
     obtain ⟨j,is,I,jM⟩:∃j is,a[j]?=S (X,is)/\dP X a=S j:=by
      have hm:X∈a.map (·.1):=U.mem_iff.mpr (by rw[y];simp)
      have:∀a:KB,X∈a.map (·.1)->dP X a≠none:=λa=>by
       induction a with
       |nil=>intro h;cases h
       |cons e r ih=>
        intro h
        rw[kg]
        split
        . simp
        . rename_i z
          rw[ne_eq _ _,propext Gi]
          exact ih ((cy.mp h).resolve_left λe=>z e.symm)
      cases z:dP X a with
      |none=>exact absurd z (this a hm)
      |some j=>
       refine ao (Bc z) λl hl=> ?_
       exact⟨j,l,hl,rfl⟩
     have his:=qT.bD X is (eX I)
     have hsk:gm (is.map (vI G))=(aW G (u++ [X])).map (vI G):=by
      rw[his];exact tm (afE w u X) pY (rD G _)
     have i1:∀c,bZ (fJ G a++ [c]) (.ref 0) (nV X)=S (.ref (j+1)):=λc=>Ft (g0 c) rfl (by(rw[Bb _ _,jM]);simp)
     have gj:∀c,(fJ G a++ [c])[j+1]?=S (cL (is.map (vI G))):=λc=>by
      have:=dB I
      refine Zrr (eQ (by rw[hlk];exact q7 this)) ?_;exact Gn I
     have b2:=λc=>(mh (afA (gj c)) (oS lF (by rw[aq _];exact Ox _ _ (eX I)))).trans (by(rw[hsk];rfl))
     have b3:∀σ,cB σ .tuple (.v (.lst ((aW G (u++ [X])).map (vI G))))=S (.val (eE G (u++ [X]))):=λσ=>xH (aw (by have:=Ge w (u++ [X]);rw[aq _];exact bx this (by decide)))
     have gl:∀c,(fJ G a++ [c])[(fJ G a).length]?=S c:=λc=>by simp
     have x_:(done.map λX=>(nV X,Tactic.X.v (eE G (u++ [X])))).length<aE:=aw (by
      have h1:(bS G u).length<=(List.range (nS G)).length:=jZ _ _
      have h2:(bS G u).length=done.length+ (rest.length+1):=by rw[y,aY,jG];rfl
      rw[cP]at h1
      have:=w.big
      rw[aq _];lia)
     refine jU (cw (iH (bu (aa rfl) (aa rfl) (i1 _)) (b2 _)) (b3 _)) (aa rfl) (aa rfl) (rz (gl _) rfl x_) (bk (kq (b _ _) ?_))
     have nX:=λh=>by
      have:=List.Pairwise.imp dx (p5 G u)
      rw[y,gc]at this
      exact this.2.2 X h X cT rfl
     refine Zrr (tA (by(rw[tB,if_neg nX];rfl))) ?_;rw[w_ _ _ (ba _),kE _,bK];rfl
   . intro k o
     exact cb (aa rfl) (hT ⟨_,Fi (by
      rw[iE (ba _),kE _]
      show S (Cell.aU KT.int ((bS G u).map λX=>(nV X,Tactic.X.v (eE G (u++ [X])))))=_
      rw[b4];rfl)⟩)
theorem Gp {A:Type} [DecidableEq A]{f}:∀ {l m:List A},(∀a∈l,∀b∈m,gI (f a) (f b)=decide (a=b))->lN (l.map f) (m.map f)=decide (l=m):=by
 intro c
 induction c with
 |nil=>
  intro m _
  cases m with
  |nil=>rfl
  |cons b m=>exact(decide_eq_false nofun).symm
 |cons a l k=>
  intro m h
  cases m with
  |nil=>exact(decide_eq_false nofun).symm
  |cons b m=>
   show(gI _ _&&lN _ _)=_
   rw[h a cT b cT,k λx hx y o=>h x (dA _ hx) y (dA _ o),propext qB,propext dF,propext decide_eq_true_iff,propext decide_eq_true_iff,propext decide_eq_true_iff,List.cons.injEq _ _ _ _];rfl
theorem Bi (h:σ[n]?=S (.obj c a))(hf:hE c f=ab)(hl:n5 f a=S x):ef σ (.ref n) f=S x:=aJ h ((b8 hf).trans hl)
theorem Gq {x}(h:σ[n]?=S (.obj c a))(hf:(decide (a.length<64) &&hE c f)=ab):r6 σ (.ref n) f x=S (σ.set n (.obj c (lO f x a))):=aJ h (b8 ⟨of_decide_eq_true (dF.mp hf).1,(dF.mp hf).2⟩)
theorem rK {σ r:Hp}{c f}{a}{x}(hf:(decide (a.length<64) &&hE c f)=ab):r6 (σ++ .obj c a::r) (.ref σ.length) f x=S (σ++ .obj c (lO f x a)::r):=by
 refine Zrr (Gq (by rw[iE (ba _),kE _];rfl) hf) ?_;rw[w_ _ _ (ba _),kE _];rfl
set_option genInjectivity false in
structure Rc where
 w:List Nat
 it:List V
 rd:List V
 mv:List (Nat×Nat)
def stC (G:Gm)(t:Nat)(r:Rc):Cell:= .obj 2 [(0,.v (nV t)),(17,.v (eE G r.w)),(18,.v (gB r.w.getLast?)),(19,.v (.lst r.it)),(20,.ref (2*t+4)),(21,.v (.lst r.rd))]
def i8 (r:Rc):Cell:= .aU .int (r.mv.map λp=>(nV p.1,.v (nV p.2)))
def tl (G:Gm):Nat->List Rc->Hp
 |_,[]=> []
 |t,r::l=>stC G t r::i8 r::tl G (t+1) l
theorem oV:tl G t (r::l)=stC G t r::i8 r::tl G (t+1) l:=rfl
def i9 (G:Gm)(k:Nat)(L:List Rc):List (V×X):=(L.zipIdx k).map λp=>(eE G p.1.w,.v (nV p.2))
noncomputable def rL (n:Nat):Cell:= .lst ((List.range n).map λt=> .ref (2*t+3))
def bO (G:Gm):Cell:= .obj 5 [(22,.v (vG G)),(25,.v (vC G)),(24,.ref 1),(26,.ref 2)]
def bH (G:Gm)(L:List Rc):Hp:=bO G::rL L.length:: .aU (.ints ()) (i9 G 0 L)::tl G 0 L
def nJ (G:Gm)(L:List Rc)(y:List Nat):List Rc:=if aW G y∈L.map (λr=>aW G r.w)then L else L++ [⟨y,[],[],[]⟩]
theorem afH:dK (eE G u) (eE G v)=decide (aW G u=aW G v):=Gp λa ha b hb=>decide_eq_decide.mpr ⟨λh=>NH (pY a ha) (pY b hb) (pL.mp h),λh=>by rw[h];rfl⟩
theorem Gr:∀(L:List Rc) (k:Nat),ck (eE G y) (i9 G k L)=if aW G y∈L.map λr=>aW G r.w then S (.v (nV (k+ (L.map λr=>aW G r.w).idxOf (aW G y))))else none:=by
 intro b
 induction b with
 |nil=>
  exact λ_=>rfl
 |cons r L c=>
  intro k
  have a:=c (k+1)
  rw[i9]at a ⊢
  rw[Gg,dz,mm,afH,a,dz]
  by_cases h:aW G r.w=aW G y
  . rw[if_pos (decide_eq_true h)];refine Zrr (if_pos (Zrr h cT)) ?_;rw[h];simp
  . refine Zrr (if_neg (by rw[decide_eq_false h];exact gq)) ?_
    by_cases q:aW G y∈L.map λr=>aW G r.w
    . rw[if_pos (dA _ q),List.idxOf_cons];refine Zrr (show(aW G _==aW G y)=ae from by simpa using h) ?_;rw[cond_false _ _]
      lia
    . rw[if_neg q];rewrite[if_neg λz=>(cy.mp z).elim (λe=>h e.symm) q];rfl
theorem afI (L):(ck (eE G y) (i9 G 0 L)).isSome=decide (aW G y∈L.map λr=>aW G r.w):=by
 rw[Gr _ _]
 by_cases q:aW G y∈L.map λr=>aW G r.w
 . rw[if_pos q,decide_eq_true q];rfl
 . rw[if_neg q,decide_eq_false q];rfl
theorem Gs:dR (.ints ()) (eE G y)=true:=cF.mpr lF
theorem afJ:i9 G 0 (L++ [r])=i9 G 0 L++ [(eE G r.w,.v (nV L.length))]:=by
 rewrite[i9];rw[Om];simp[i9]
theorem afK:∀ {L:List Rc} {k:Nat},tl G k (L++ [r])=tl G k L++ [stC G (k+L.length) r,i8 r]:=by
 intro b
 induction b with
 |nil=>
  exact rfl
 |cons a L c=>
  intro k
  rw[CT,oV,c,k.add_right_comm 1 _];rfl
theorem Oy:∀ {L:List Rc} {k:Nat},(tl G k L).length=2*L.length:=by
 intro b
 induction b with
 |nil=>
  exact rfl
 |cons a L c=>
  rw[oV,jG,jG,c,jG];exact Sf
theorem Oz:∀ {L:List Rc} {k t:Nat},(tl G k L)[2*t]?=L[t]?.map (stC G (k+t))
 | [],_,_=>rfl
 |a::L,k,0=>rfl
 |a::L,k,t+1=>by
  show(tl G _ L)[2*t]?=_
  rw[Oz,k.add_right_comm 1 _];rfl
theorem OA:∀ {L:List Rc} {k t:Nat},(tl G k L)[2*t+1]?=L[t]?.map i8
 | [],_,_=>rfl
 |a::L,k,0=>rfl
 |a::L,k,t+1=>OA (t:=t)
theorem afL {r b}(h:b.mv=r.mv):∀ {L:List Rc} {k t:Nat},L[t]?=S r->(tl G k L).set (2*t) (stC G (k+t) b)=tl G k (L.set t b):=by
 intro c
 induction c with
 |nil=>exact λe=>nomatch e
 |cons a L o=>
  intro k t e
  cases t with
  |zero=>cases e;rw[yoP,oV,oV,i8,i8,h];rfl
  |succ t=>rw[Bj,oV,oV,(o e).symm,k.add_right_comm 1 _];rfl
theorem afM {r b}(h:b.w=r.w/\b.it=r.it/\b.rd=r.rd):∀ {L:List Rc} {k t:Nat},L[t]?=S r->(tl G k L).set (2*t+1) (i8 b)=tl G k (L.set t b):=by
 intro c
 induction c with
 |nil=>exact λe=>nomatch e
 |cons a L o=>
  intro k t e
  cases t with
  |zero=>cases e;rw[yoP,oV,oV,stC,stC,h.1,h.2.1,h.2.2];rfl
  |succ t=>rw[Bj,oV,oV,(o e).symm];rfl
theorem OC {r a}(h:a.w=r.w){L}{k t}(e:L[t]?=S r):i9 G k (L.set t a)=i9 G k L:=by
 rw[i9,i9]
 refine gP λi=> ?_
 rw[bw,bw,lG,lG,rH]
 split
 . rename_i q
   subst q
   rw[e]
   split
   . show S (eE G _,.v _)=S (eE G _,X.v _)
     rw[h];rfl
   . rename_i q;exact absurd (dB e) q
 rfl
theorem tD (h:L[t]?=S r):(bH G L)[2*t+3]?=S (stC G t r):=by
 show(tl G 0 L)[2*t]?=_
 rw[Oz,h,fb _];rfl
theorem OD (h:L[t]?=S r):(bH G L)[2*t+4]?=S (i8 r):=by
 show(tl G 0 L)[2*t+1]?=_
 rw[OA,h];rfl
theorem OE (h:L[t]?=S r)(hw:r'.w=r.w)(hm:r'.mv=r.mv):(bH G L).set (2*t+3) (stC G t r')=bH G (L.set t r'):=by
 show _::_::_::(tl G 0 L).set _ _=_
 have:=afL (G:=G) hm (k:=0) h
 rw[fb]at this
 rw[this];rewrite[bH];rw[OC hw h,Bk];rfl
theorem afN (h:L[t]?=S r)(hw:r'.w=r.w/\r'.it=r.it/\r'.rd=r.rd):(bH G L).set (2*t+4) (i8 r')=bH G (L.set t r'):=by
 show _::_::_::(tl G 0 L).set _ _=_
 rw[afM hw h];rewrite[bH];rw[OC hw.1 h,Bk];rfl
theorem afO (b:1<=D)(a:σ.length=2*t+3):(aQ prog D).new 2 [.v (nV t),.v (eE G y),.v (gB y.getLast?)] σ=S (.ref (2*t+3),σ++ [stC G t ⟨y,[],[],[]⟩,i8 ⟨y,[],[],[]⟩]):=by
 refine Zrr a.symm (Fg b rfl rfl rfl rfl λQ k=>dU (aa rfl) (aa rfl) (rK rfl) (dU (aa rfl) (aa rfl) (rK rfl) (dU (aa rfl) (aa rfl) (rK rfl) (dU (fS aA (aw (eM _)) rfl) (aa rfl) (rK rfl) (dU (tC.trans (by rw[(λc d=>by simp:∀c d,σ++ [c]++ [d]=σ++c:: [d]) _ _];rfl)) (aa rfl) (rK rfl) (dU (fS aA (aw (eM _)) rfl) (aa rfl) (rK rfl) (bk (kq (k _) ?_))))))))
 rw[aY,a];rfl
theorem OF (w:WF G)(f:Fin G ws){L:List Rc}{y:List Nat}(h:addW G (L.map Rc.w) y<+:ws)(o:2<=D):
 (aQ prog D).call 32 [.ref 0,.v (eE G y),.v (gB y.getLast?)] (bH G L)=S (.v (nV (stN G ws y)),bH G (nJ G L y)):=by
 have hl:L.length<aE:=aw (by
  have I:=FQ|>.trans h|>.length_le
  have:=f.le
  rw[aq]at I
  lia)
 have c:(L.map Rc.w).map (aW G)=L.map (λr=>aW G r.w):=by rw[b4];rfl
 refine Ng (ρ:= [S (.ref 0),S (.v (eE G y)),S (.v (gB y.getLast?))]) (dE o) rfl rfl rfl λT O=> ?_
 have u:∀a b l,cB (a::rL L.length::b::l) .len (.ref 1)=S (.val (nV L.length)):=λa b l=>eC (by rw[(pN rfl)];simp) hl
 refine tc (λZ=>Z [S (.ref 0),S (.v (eE G y)),S (.v (gB y.getLast?))] (bH G (nJ G L y))) (br (aa rfl) (a_ (aa rfl) rfl) (rJ ((Gl rfl Gs).trans (by(rw[afI _];rfl))))) ?_ ?_ ?_
 . intro Z k q
   have q:aW G y∉L.map (λr=>aW G r.w):=by simpa using q
   have Q:ck (eE G y) (i9 G 0 L)=none:=by rw[Gr _ _,if_neg q];rfl
   refine jU (cw (a_ (aa rfl) rfl) (u _ _ _)) (a_ (aa rfl) rfl) (aa rfl) (rz rfl Gs (by(rewrite[i9];rw[aq _,u9]);exact hl)) ?_
   rw[tA Q]
   refine fF (d7 (a_ (aa rfl) rfl) (gy rfl) (aj (rt (aj (cw (a_ (aa rfl) rfl) (u _ _ _)) (aj (aa rfl) (aj (aa rfl) aA))) (afO (dH o) ?_)) aA) (Np rfl (by(rw[aq _,cP]);exact hl))) (bk (kq k ?_))
   . show(tl G 0 L).length+1+1+1=_
     rw[Oy];rfl
   . rewrite[nJ];rw[if_neg q]
     show bO G::Cell.lst ((List.range L.length).map (λt=>X.ref (2*t+3))++ [.ref (2*L.length+3)])::Cell.aU (.ints ()) (i9 G 0 L++ [(eE G y,.v (nV L.length))])::(tl G 0 L++ [stC G L.length ⟨y,[],[],[]⟩,i8 ⟨y,[],[],[]⟩])=
      bO G::rL (L++ [(⟨y,[],[],[]⟩:Rc)]).length:: .aU (.ints ()) (i9 G 0 (L++ [⟨y,[],[],[]⟩]))::tl G 0 (L++ [⟨y,[],[],[]⟩])
     rw[afJ,afK,aY,fb _];rewrite[rL];rw[ed,kI,bK]
     rfl
 . intro Z k q
   have q:aW G y∈L.map (λr=>aW G r.w):=by simpa using q
   refine bk (kq k ?_)
   rewrite[nJ];rw[if_pos q];rfl
 . have U:ck (eE G y) (i9 G 0 (nJ G L y))=S (.v (nV (stN G ws y))):=by
    rw[Gr _ _]
    rw[addW,c]at h
    have x:∀M:List Rc,M.map Rc.w<+:ws->aW G y∈M.map (λr=>aW G r.w)->(M.map (λr=>aW G r.w)).idxOf (aW G y)=stN G ws y:=λM H hm=>by
     have c:(M.map Rc.w).map (aW G)=M.map (λr=>aW G r.w):=by rw[b4];rfl
     refine ao H λt Y=> ?_;clear H
     rewrite[stN];rw[Y.symm,bK,c,List.idxOf_append,if_pos hm];rfl
    by_cases q:aW G y∈L.map (λr=>aW G r.w)
    . rw[if_pos q]at h
      rewrite[nJ];rw[if_pos q,if_pos q,x L h q,fb _];rfl
    . rw[if_neg q]at h
      have hm:aW G y∈ (L++ [(⟨y,[],[],[]⟩:Rc)]).map (λr=>aW G r.w):=by simp
      rewrite[nJ];rw[if_neg q,if_pos hm];refine Zrr (x _ (by rw[bK];exact h) hm) ?_;rw[fb _];rfl
   exact cb (bu (a_ (aa rfl) rfl) (aa rfl) (Ft rfl Gs U)) O
def mn (G:Gm)(w:List Nat):List V:=((bD G w).filter (kK G)).map λp=>nV p.1
def ip (G:Gm)(w:List Nat):List V:=(cls G w).map (vI G)
def iJ (G:Gm)(ws:List (List Nat))(w a:List Nat):Rc:=⟨w,ip G w,mn G w,a.map λX=>(X,stN G ws (w++ [X]))⟩
noncomputable def mk (P:Nat->List Nat->Rc)(W:List (List Nat)):List Rc:=W.zipIdx.map λp=>P p.2 p.1
def P0 (G:Gm)(ws:List (List Nat))(a t:Nat)(w:List Nat):Rc:=if t<a then iJ G ws w (bS G w)else⟨w,[],[],[]⟩
def P1 (G:Gm)(ws:List (List Nat))(a:Nat)(b:List Nat)(t:Nat)(w:List Nat):Rc:=if t=a then iJ G ws w b else P0 G ws a t w
theorem p7 {W}{t}:(mk P W)[t]?=W[t]?.map (P t):=by
 rewrite[mk];rw[bw,lG,fb _];cases W[t]?<;>rfl
theorem OG (h:∀t w,(P t w).w=w){W}:(mk P W).map Rc.w=W:=by
 refine gP λt=> ?_
 rw[bw,p7]
 cases W[t]? with
 |none=>rfl
 |some w=>exact congrArg _ (h t w)
theorem afP {W}{y}:mk P (W++ [y])=mk P W++ [P W.length y]:=by
 rewrite[mk];rw[Om,bK,fb _];rfl
theorem OH {P P'}{W}{a}{w}(h:W[a]?=S w)(ne:∀t v,t≠a->P' t v=P t v):(mk P W).set a (P' a w)=mk P' W:=by
 refine gP λt=> ?_
 rw[rH,p7,p7]
 split
 . rename_i q
   subst q
   rw[h];exact Zrr (if_pos (by rewrite[mk];rw[aq _,u9];exact dB h)) rfl
 . rename_i q
   cases W[t]? with
   |none=>rfl
   |some v=>exact congrArg _ (ne t v λe=>q e.symm).symm
theorem mk_congr {W}(h:∀t v,W[t]?=S v->P t v=P' t v):mk P W=mk P' W:=by
 refine gP λt=> ?_
 rw[p7,p7]
 cases e:W[t]? with
 |none=>rfl
 |some v=>exact congrArg _ (h t v e)
theorem afQ {P}(h:∀t w,(P t w).w=w){W}{y}(a:P W.length y=⟨y,[],[],[]⟩):nJ G (mk P W) y=mk P (addW G W y):=by
 have e:(mk P W).map (λr=>aW G r.w)=W.map (aW G):=by
  have:=congrArg (List.map (aW G)) (OG h (W:=W))
  rwa[b4]at this
 rw[nJ,addW,e]
 split
 . rfl
 . rw[afP,a];rfl
theorem afR:∀t w,(P0 G ws a t w).w=w:=λt w=>by rewrite[P0];split<;>rfl
theorem OI:∀t w,(P1 G ws a b t w).w=w:=λt w=>by
 rewrite[P1];split
 . rfl
 exact afR t w
theorem Gv (w:WF G)(u):(bS G u).length<=9:=by
 have h:(bS G u).length<=(List.range _).length:=jZ _ _
 rw[cP]at h
 exact bp h w.big
theorem OJ {b:Type}{l}{a:b}:(l++ [a]).getLast?=S a:=by simp
theorem afS {X}{l:List Nat}(h:l=done++X::rest)(s:l.Pairwise (· < ·)):X∉done:=λa=>by
 rw[h,gc]at s
 exact vK _ (s.2.2 X a X cT)
theorem afT (w:WF G)(f:Fin G ws){a}{u}(h:ws[a]?=S u)(I:5<=D):
 (aQ prog D).call 33 [.ref 0,.ref (2*a+3)] (bH G (mk (P0 G ws a) (Bq G a)))=S (.v .none,bH G (mk (P0 G ws (a+1)) (Bq G (a+1)))):=by
 have b:=(f.get (dB h)).trans h
 have h0:(mk (P0 G ws a) (Bq G a))[a]?=S ⟨u,[],[],[]⟩:=by rw[p7,b];simp[P0]
 have c:=dH I
 have hlt:=dB b
 refine aey (dE I) rfl rfl rfl λQ hQ=> ?_
 refine dU (cX (a_ (aa rfl) rfl) A8 (aj (a_ (aa rfl) (Bi (tD h0) rfl rfl)) aA) (Ol w c)) (aa rfl) ((Gq (tD h0) rfl).trans (congrArg S (OE (r':=⟨u,ip G u,[],[]⟩) h0 rfl rfl))) ?_
 have CI:=dB h0
 have o:((mk (P0 G ws a) (Bq G a)).set a ⟨u,ip G u,[],[]⟩)[a]?=S ⟨u,ip G u,[],[]⟩:=by rw[rH,if_pos rfl,if_pos CI];rfl
 refine dU (c6 (aj (a_ (aa rfl) rfl) (aj (a_ (aa rfl) (Bi (tD o) rfl rfl)) aA)) (afw w (bp (by decide) c))) (aa rfl) ((Gq (tD o) rfl).trans (congrArg S (OE (r':=⟨u,ip G u,mn G u,[]⟩) o rfl rfl))) ?_
 have e2:((mk (P0 G ws a) (Bq G a)).set a ⟨u,ip G u,[],[]⟩).set a ⟨u,ip G u,mn G u,[]⟩=mk (P1 G ws a []) (Bq G a):=by
  have:=OH (P':=P1 G ws a []) b (λt v q=>if_neg q)
  rw[P1,if_pos rfl]at this
  rw[lX _];exact this
 rw[e2]
 have h2:(mk (P1 G ws a []) (Bq G a))[a]?=S (iJ G ws u []):=by rw[p7,b];simp[P1]
 refine bz (c6 (aj (a_ (aa rfl) rfl) (aj (a_ (aa rfl) (Bi (tD h2) rfl rfl)) aA)) (afG w (bp (by decide) c))) ?_
 refine d8 nV (bS G u) (λdone Z=>∀r,Z [S (.ref 0),S (.ref (2*a+3)),S (.v (.aU .int ((bS G u).map λX=>(nV X,eE G (u++ [X]))))),r] (bH G (mk (P1 G ws a done) (c_ G (Bq G a) u done)))) (c7 (aa rfl) ?_) (λZ x=>x _) ?_ ?_
 . show S (keysOf _)=_
   rewrite[keysOf];rw[b4];rfl
 . intro done X rest Z x k r
   refine bt rfl ?_
   have nX:=afS k (p5 G u)
   have mX:X∈bS G u:=by rw[k];simp
   have O:c_ G (Bq G a) u (done++ [X])=addW G (c_ G (Bq G a) u done) (u++ [X]):=by rewrite[c_];rw[g8];rfl
   have pre:addW G (c_ G (Bq G a) u done) (u++ [X])<+:ws:=by
    refine .trans ?_ (f.pre (yM (dB ‹ws[a]?=S u›)))
    have e:c_ G (Bq G a) u ((done++ [X])++rest)=c_ G (c_ G (Bq G a) u (done++ [X])) u rest:=g8 ..
    rw[(f.next ‹ws[a]?=S u›),k,O.symm,done.append_cons X rest,e]
    exact pW _ _
   have hW:(c_ G (Bq G a) u done)[a]?=S u:=(nE (pW _ _) hlt).symm.trans b
   have y:nJ G (mk (P1 G ws a done) (c_ G (Bq G a) u done)) (u++ [X])=mk (P1 G ws a done) (c_ G (Bq G a) u (done++ [X])):=by
    rw[O]
    have U:=dB hW
    refine afQ OI ?_
    rewrite[P1];refine Zrr (if_neg (fM U)) ?_;rewrite[P0];refine Zrr (if_neg (mD (b_ U))) ?_;rfl
   have n1:=OF w f (L:=mk (P1 G ws a done) (c_ G (Bq G a) u done)) (by rw[OG OI];exact pre) (bp (by decide) c)
   rw[OJ,y]at n1
   have uh:(c_ G (Bq G a) u (done++ [X]))[a]?=S u:=(nE (pW _ _) hlt).symm.trans b
   have H:(mk (P1 G ws a done) (c_ G (Bq G a) u (done++ [X])))[a]?=S (iJ G ws u done):=by rw[p7,uh];simp[P1]
   have i1:bZ (bH G (mk (P1 G ws a done) (c_ G (Bq G a) u done))) (.v (.aU .int ((bS G u).map λX=>(nV X,eE G (u++ [X]))))) (nV X)=S (.v (eE G (u++ [X]))):=xF rfl (tB.trans (if_pos mX))
   have p8:((iJ G ws u done).mv.map λp=>(nV p.1,Tactic.X.v (nV p.2))).length<aE:=aw (by
    have:=Gv w u
    rw[k,aY]at this
    rw[aq _];rewrite[iJ];rw[aq _];lia)
   refine jU (cX (aa rfl) rfl (aj (bu (aa rfl) (aa rfl) i1) (aj (aa rfl) aA)) n1) (a_ (aa rfl) (Bi (tD H) rfl rfl)) (aa rfl) ((rz (OD H) rfl p8).trans (congrArg S ((congrArg (((bH G _).set (2*a+4))) ?_).trans (afN (r':=iJ G ws u (done++ [X])) H ⟨rfl,rfl,rfl⟩)))) (bk (kq (x _) ?_))
   . have e:((iJ G ws u done).mv.map λp=>(nV p.1,Tactic.X.v (nV p.2)))=done.map λY=>(nV Y,Tactic.X.v (nV (stN G ws (u++ [Y])))):=by rewrite[iJ];rw[b4];rfl
     rw[e,tA (tB.trans (if_neg nX))];rewrite[i8,iJ];rw[b4,bK];rfl
   . have:=OH (P:=P1 G ws a done) (P':=P1 G ws a (done++ [X])) uh (λt v q=>by rewrite[P1,P1];rw[if_neg q,if_neg q];rfl)
     rw[P1,if_pos rfl]at this
     rw[this];rfl
 . intro r
   refine bk (kq (hQ _) ?_)
   rw[(f.next ‹ws[a]?=S u›)]
   refine congrArg (bH G) (mk_congr λt v e=> ?_)
   rewrite[P1,P0,P0]
   by_cases q:t=a
   . subst q
     have hW:=(nE (pW (G:=G) (w:=u) (bS G u) (Bq G t)) hlt).symm.trans b
     rw[hW]at e;cases e
     rw[if_pos rfl,if_pos (jc _)];rfl
   . rw[if_neg q]
     by_cases z:t<a
     . rw[if_pos z];refine Zrr (if_pos (q8 z)) ?_;rfl
     . rw[if_neg z];refine Zrr (if_neg (by lia)) ?_;rfl
theorem afV (w:WF G)(a:3<=D):(aQ prog D).new 5 [.v (vG G)] []=S (.ref 0,bH G []):=Fg (dE a) rfl rfl rfl rfl λQ b=>dU (aa rfl) (aa rfl) rfl (dU (rt (aj (aa rfl) aA) (Oh w (dH a))) (aa rfl) rfl (dU (iG aA (aw (eM _))) (aa rfl) rfl (dU tC (aa rfl) rfl (bk (b _)))))
def tE (G:Gm):Cell:= .obj 4 [(22,.v (vG G)),(24,.ref 1)]
theorem afW (a:1<=D):(aQ prog D).new 4 [.v (vG G),.ref 1] σ=S (.ref σ.length,σ++ [tE G]):=Fg a rfl rfl rfl rfl λQ b=>dU (aa rfl) (aa rfl) (rK rfl) (dU (aa rfl) (aa rfl) (rK rfl) (bk (b _)))
theorem afX (w:WF G)(f:Fin G ws)(r:6<=D):(aQ prog D).call 34 [.ref 0] (bH G [])=S (.ref (bH G (mk (P0 G ws ws.length) ws)).length,bH G (mk (P0 G ws ws.length) ws)++ [tE G]):=by
 have b:=dH r
 refine Ng (dE r) rfl rfl rfl λT x=> ?_
 have n1:=OF w f (by
  have:=f.pre (dM _)
  refine Zrr (show addW G ([].map Rc.w) []=Bq G 0 from rfl) ?_;assumption) (bp (by simp) b)
 rw[show nJ G [] []=mk (P0 G ws 0) (Bq G 0) from rfl]at n1
 have y:eE G []= .tup [nV (gz G (0,0))]:=by rewrite[eE];rw[NS w];rfl
 rw[y]at n1
 have H:=λσ=>uY (σ:=σ) (d:=0) w w.xJ (bp (by decide) b)
 refine fF (cX (aa rfl) rfl (aj (eY (aj (cX (a_ (aa rfl) rfl) jr (aj aP (aj aP aA)) (H _)) aA) (aw (by simp)) rfl) (aj (lr (by rw[lu];rfl)) aA)) n1) ?_
 refine bz aP ?_
 refine uW (λa Z=>a<=ws.length->Z [S (.ref 0),S (.v (nV a))] (bH G (mk (P0 G ws a) (Bq G a)))) (λa=>ws.length - a) 0 (λZ c=>c (dM _)) (by have:=f.le;show _ - 0<2^22;exact HJ this) ?_
 intro a Z c ha
 have I:=FU w a
 have k:(mk (P0 G ws a) (Bq G a)).length=(Bq G a).length:=by rewrite[mk];rw[aq _,u9];rfl
 refine wt (decide (a<(Bq G a).length)) (br (aa rfl) (cw (a_ (aa rfl) rfl) (eC (pN rfl) (by(rw[aq _,cP,k]);exact aw (q3 I)))) (by(rw[aq _,cP,k]);exact pM)) (λq=> ?_) (λq=> ?_)
 . have q:=of_decide_eq_false q
   have:a=ws.length:=by
    rcases uL a ws.length with z|z
    . exact absurd (f.lt a z) q
    . exact cj ha z
   subst this
   rw[f.eq.symm]
   exact cb (rt (aj (a_ (aa rfl) rfl) (aj (a_ (aa rfl) rfl) aA)) (afW (bp (by decide) b))) x
 . have q:=of_decide_eq_true q
   have o:a<ws.length:=by
    rcases a.lt_or_ge ws.length with z|z
    . exact z
    . have:a=ws.length:=cj ha z
      subst this
      rw[<-f.eq]at q;assumption
   obtain ⟨u,L⟩:∃u,ws[a]?=S u:=⟨_,dr o⟩
   have x1:=afT w f L b
   have O:bZ (bH G (mk (P0 G ws a) (Bq G a))) (.ref 1) (nV a)=S (.ref (2*a+3)):=lx rfl (aw (by lia)) (by(rw[k,bw,iI q]);rfl)
   exact fF (cX (aa rfl) rfl (aj (bu (a_ (aa rfl) rfl) (aa rfl) O) aA) x1) (bz (b9 (aa rfl) aP (@nq a 1)) (bk (c (a+1) (q6 o) (o))))
theorem Gx {A B:Type}{c k}{g}(b:A->c)(val:A->k)(P:List A->Hp->Prop)(step:∀a rest σ,P (a::rest) σ->∃af,g σ (b a)=S (val a,af)/\P rest af):
 ∀l σ,P l σ->∃af,jD g σ (l.map b)=S (l.map val,af)/\P [] af:=by
 intro o
 induction o with
 |nil=>
  exact λσ h=>⟨σ,rfl,h⟩
 |cons a l q=>
  exact λσ h=>ah (step a l σ h) λI r u=>ah (q _ u) λx y H=>⟨x,aJ r (bP y),H⟩
def rM (G:Gm)(ws:List (List Nat))(w:List Nat):V:= .aU .int ((bS G w).map λX=>(nV X,nV (stN G ws (w++ [X]))))
def gF (G:Gm)(ws:List (List Nat))(t:Nat)(w:List Nat):V:= .obj 2 [(0,nV t),(17,eE G w),(18,gB w.getLast?),(19,.lst (ip G w)),(20,rM G ws w),(21,.lst (mn G w))]
def kM (G:Gm)(ws:List (List Nat)):List V:=ws.zipIdx.map λp=>gF G ws p.2 p.1
def vM (G:Gm)(ws:List (List Nat)):V:= .obj 4 [(22,vG G),(24,.lst (kM G ws))]
theorem iK {σ b c}{x}{a}{r}{q:List (Nat×V)}(h:fz k σ x=S (a,b))(o:jD (λσ p=>(fz k σ p.2).map λq=>((p.1,q.1),q.2)) b r=S (q,c)):
 jD (λσ p=>(fz k σ p.2).map λq=>((p.1,q.1),q.2)) σ ((f,x)::r)=S ((f,a)::q,c):=aJ (bP h) (bP o)
theorem afY {w}(b:σ[2*t+3]?=S (stC G t (iJ G ws w (bS G w))))(c:σ[2*t+4]?=S (i8 (iJ G ws w (bS G w)))):fz (k+2) σ (.ref (2*t+3))=S (gF G ws t w,(σ.set (2*t+3) .dead).set (2*t+4) .dead):=by
 refine(oN b).trans (bP (iK (jX _ _ _) (iK (jX _ _ _) (iK (jX _ _ _) (iK (jX _ _ _) (iK ?_ (iK (jX _ _ _) rfl)))))))
 have a:(σ.set (2*t+3) .dead)[2*t+4]?=S _:=Zrr (dG (UA)) c
 rw[(by rw[i8,iJ];rw[b4];rw[b4];rfl:i8 _= .aU _ (((bS G w).map λX=>(nV X,nV _)).map λp=>(p.1,.v p.2)))]at a
 exact(oN a).trans (bP (Fh _ _ _))
theorem afZ (w:WF G)(f:Fin G ws)(u:7<=D):(aQ prog D).call 35 [.v (vG G)] σ=S (.v (vM G ws),σ):=by
 refine ec (ρ:= [S (.v (vG G))]) (dE u) rfl rfl rfl rfl λT U=> ?_
 have x:=dH u
 refine cb (cX (rt (aj (aa rfl) aA) (afV w (bp (by decide) x))) rfl aA (afX w f x)) ?_
 have y:(mk (P0 G ws ws.length) ws).length=ws.length:=by rewrite[mk];rw[aq _,u9];rfl
 have I:∀t v,ws[t]?=S v->(mk (P0 G ws ws.length) ws)[t]?=S (iJ G ws v (bS G v)):=λt v e=>by rw[p7,e,ua _ _];rewrite[P0];rw[if_pos (dB e)];rfl
 have c:(bH G (mk (P0 G ws ws.length) ws)).length=2*ws.length+3:=by
  show(tl G 0 _).length+1+1+1=_
  rw[Oy,y];rfl
 generalize L:bH G (mk (P0 G ws ws.length) ws)=H at c
 have Y:H[1]?=S (rL ws.length):=by
  rw[L.symm]
  show S (rL (mk _ ws).length)=_
  rw[y];rfl
 have gs:∀t v,ws[t]?=S v->H[2*t+3]?=S (stC G t (iJ G ws v (bS G v)))/\H[2*t+4]?=S (i8 (iJ G ws v (bS G v))):=λt v e=>by
  rw[L.symm];exact⟨tD (I t v e),OD (I t v e)⟩
 have g2:((H++ [tE G]).set H.length .dead)[1]?=S (rL ws.length):=by
  refine Zrr (dG (RW c)) ?_;refine Zrr (eQ (RX c)) ?_;exact Y
 refine ah (Gx (B:=Unit) (g:=fz 6) (λp=> .ref (2*p.2+3)) (λp=>gF G ws p.2 p.1)
  (λl σ=>(∃k,l=(ws.drop k).zipIdx k)/\∀p∈l,σ[2*p.2+3]?=S (stC G p.2 (iJ G ws p.1 (bS G p.1)))/\σ[2*p.2+4]?=S (i8 (iJ G ws p.1 (bS G p.1))))
  (λa rest σ ⟨⟨k,hk⟩,O⟩=>by
   have ha:=O a cT
   refine⟨_,afY ha.1 ha.2,⟨k+1,?_⟩,λp o=> ?_⟩
   . cases q:ws.drop k with
     |nil=>rw[q]at hk;cases hk
     |cons b r=>
      rw[q,Gg]at hk
      rw[yqN.symm,q]
      exact(iy hk).2
   . have:a.2<p.2:=by
      cases q:ws.drop k with
      |nil=>rw[q]at hk;cases hk
      |cons b r=>
       rw[q,Gg]at hk
       have h1:=(iy hk).1
       rw[(iy hk).2]at o
       have:=List.le_snd_of_mem_zipIdx o
       rw[h1];exact this
     refine Zrr (dG (by lia)) ?_;refine Zrr (dG (RY this)) ?_;refine Zrr (dG (RZ this)) ?_;refine Zrr (dG (by lia)) ?_
     exact O p (dA _ o))
  ws.zipIdx (((H++ [tE G]).set H.length .dead).set 1 .dead) ⟨⟨0,rfl⟩,λp o=>by
   refine au (List.mem_zipIdx o|>λh=>⟨h.2.1,h.2.2⟩) λq1 q2=> ?_
   have Q:=Bl.mp o
   have:=dB Q
   have g:=gs _ _ Q
   refine Zrr (dG (R0)) ?_;refine Zrr (dG (R1 c q1)) ?_;refine Zrr (eQ (R2 c q1)) ?_;refine Zrr (dG (R3)) ?_;refine Zrr (dG (by lia)) ?_;refine Zrr (eQ (R4 c q1)) ?_
   exact g⟩) λaf m1 _=> ?_
 have r1:(List.range ws.length).map (λt=>Tactic.X.ref (2*t+3))=ws.zipIdx.map λp=> .ref (2*p.2+3):=by
  refine gP λi=> ?_
  rw[bw,bw,lG]
  rcases uL i ws.length with z|z
  . rw[iI z,dr z,fb _];rfl
  . refine Zrr (eU (by rw[cP];exact z)) ?_;rw[eU z];rfl
 have u_:((H++ [tE G]).set H.length .dead)[1]?=S (.lst (ws.zipIdx.map λp=> .ref (2*p.2+3))):=by rw[g2];rewrite[rL];rw[r1];rfl
 have gA:(H++ [tE G])[H.length]?=S (tE G):=by rw[iE (ba _),kE _];rfl
 exact U ⟨_,(oN gA).trans (bP (iK (jX _ _ _) (iK ((oN u_).trans (bP m1)) rfl)))⟩
open Classical in
def gS (G:Gm)(ws:List (List Nat))(w:List Nat):Option Nat:=if bE G w then S (stN G ws w)else J
theorem kN (v:bE G w):gS G ws w=S (stN G ws w):=if_pos v
theorem lH (v:¬bE G w):gS G ws w=none:=if_neg v
theorem af0 (h:ws[t]?=S u):(kM G ws)[t]?=S (gF G ws t u):=by
 rewrite[kM];rw[bw,lG,h,fb _];rfl
theorem Gy:(kM G ws).length=ws.length:=by rewrite[kM];rw[aq _,u9];rfl
theorem Fin.lim (f:Fin G ws){t}{u}(h:ws[t]?=S u):t<aE:=have:=f.le;have:=dB h;aw (Us ‹_› this)
theorem rN (f:Fin G ws){t}{u}(h:ws[t]?=S u):bZ σ (.v (.lst (kM G ws))) (nV t)=S (.v (gF G ws t u)):=jq (f.lim h) (af0 h)
theorem af1 {k}{d}(hk:dR t k=ab):gJ σ .get (.v (.aU t b)) [.v k,d]=S (match ck k b with|some a=> .v a|none=>d,σ):=b8 hk
theorem lI:ef σ (.v (vM G ws)) 24=S (.v (.lst (kM G ws))):=rfl
theorem OL:ef σ (.v (vM G ws)) 22=S (.v (vG G)):=rfl
theorem rO:ef σ (.v (gF G ws t u)) 20=S (.v (rM G ws u)):=rfl
theorem nK:n6 σ (.v (vM G ws))=S 4:=rfl
theorem af2:n6 σ (.v (gF G ws t u))=S 2:=rfl
theorem af3 (w:WF G){t X}{u}(a:1<=D):(aQ prog D).call 16 [.v (gF G ws t u),.v (nV X)] σ=S (.v (gB (gS G ws (u++ [X]))),σ):=ec a rfl rfl rfl rfl λT b=>cb (d7 (a_ (aa rfl) rO) rfl (aj (aa rfl) (aj (lr (by rw[lu];rfl)) aA)) ((λσ=>by
 refine(af1 rfl).trans ?_
 rw[tB]
 by_cases h:X∈bS G u
 . rw[if_pos h,kN ((i6 w).mp h)];rfl
 . rw[if_neg h];rewrite[lH λv=>h ((i6 w).mpr v)];rfl:∀σ,gJ σ _ _ _=S _) _)) (b (c8 rfl))
theorem af4 (w:WF G)(f:Fin G ws){t X}{u}(h:ws[t]?=S u)(a:2<=D):(aQ prog D).call 26 [.v (vM G ws),.v (nV t),.v (nV X)] σ=S (.v (gB (gS G ws (u++ [X]))),σ):=ec (dE a) rfl rfl rfl rfl λT b=>cb (cX (bu (a_ (aa rfl) lI) (aa rfl) (rN f h)) af2 (aj (aa rfl) aA) (af3 w (dH a))) (b (c8 rfl))
theorem tG (v)(h:bE G (u++v)):bE G u:=by
 revert h
 refine Gk (P:=λv=>bE G _->bE G u) (λh=>by rwa[dg]at h) (λv X a h=>a (th (by rw[bM _ _ _];assumption))) v
theorem Bm:cO σ .eq (.v (gB o)) (.v (.int (-1)))=S o.isNone:=by
 cases o with
 |none=>rfl
 |some x=>
  have:¬(x:Int)= -1:=by lia
  exact congrArg _ (decide_eq_false this)
theorem Gz (w:WF G)(f:Fin G ws){u}{X}(v:bE G u)(a:2<=D):(aQ prog D).call 26 [.v (vM G ws),.v (nV (stN G ws u)),.v (nV X)] σ=S (.v (gB (gS G ws (u++ [X]))),σ):=by
 refine ah (f.st w v) λb h e=> ?_
 have:=af4 (σ:=σ) (X:=X) w f h a
 by_cases q:bE G (u++ [X])
 . rwa[kN ((uZ e X).mpr q),f.AZ w e,<-kN q]at this
 rwa[lH λz=>q ((uZ e X).mp z),<-lH q]at this
theorem ya (w:WF G)(f:Fin G ws){u}{K}(r:kT K=S (u.map nV))(k:3<=D):(aQ prog D).call 27 [.v (vM G ws),.v (.int 0),.v K] σ=S (.v (gB (gS G ws u)),σ):=by
 refine ec (dE k) rfl rfl rfl rfl λT o=>bz (aa rfl) (d8 nV u (λdone Z=>∀c,Z [S (.v (vM G ws)),S (.v (.int 0)),S (.v K),S (.v (gB (gS G ws done))),c] []) (c7 (aa rfl) r) ?_ ?_ ?_)
 . intro Z a
   rw[kN (xP w),f.xU w]at a
   exact a _
 . refine λdone X rest Z a x c=>bt rfl ?_
   have b:∀σ,cO σ _ (.v (gB (gS G ws done))) _=_:=λσ=>Bm
   by_cases q:bE G done
   . rw[kN q]at b ⊢
     refine gw (br (aa rfl) (lr (by rw[lu];rfl)) (b _)) (bz (cX (aa rfl) nK (aj (aa rfl) (aj (aa rfl) aA)) (Gz w f q (dH k))) (bk (a _)))
   . rw[lH q]at b ⊢
     exact uU (P:=λ_ _=>False) (br (aa rfl) (lr (by rw[lu];rfl)) (b _)) (cb (lr (by rw[lu];rfl)) (o (c8 (Zrr (lH λv=>q (tG _ (by rw[x.symm];assumption))) rfl)))) λ_ _ h=>h.elim
 exact λc=>cb (aa rfl) (o (c8 rfl))
def g_ (G:Gm)(ws:List (List Nat))(w:List Nat):List Nat:=(List.range (w.length+1)).map λi=>stN G ws (w.take i)
theorem OM (w:WF G)(f:Fin G ws):g_ G ws []= [0]:=by rewrite[g_];simp[f.xU w]
theorem ON {X}:g_ G ws (u++ [X])=g_ G ws u++ [stN G ws (u++ [X])]:=by
 rw[g_,g_,aY,ed,kI,bK]
 congr 1
 . exact vb λi a=>Zrr (GA (by have:=gu.mp a;exact fU ‹_›)) rfl
 . rw[u7];exact Zrr (f_ (by simp)) rfl
theorem yb:(g_ G ws u).length=u.length+1:=by rewrite[g_];rw[aq _,cP];rfl
theorem GB:(g_ G ws u)[u.length]?=S (stN G ws u):=by
 rewrite[g_];rw[bw];simp
theorem GC {n m:Nat}(h:m=n+1):lP (-1) m=S n:=by
 have e:(-1:Int)+m=n:=h▸(Cd ..).trans (ynI n 1)
 unfold lP
 exact Zrr (if_neg (by decide)) (Zrr (if_pos ⟨e▸qK n,by decide⟩) (congrArg S (congrArg Int.toNat e)))
theorem OO {n}(hr:σ[r]?=S (.lst xs))(hl:xs.length=n+1)(h:xs[n]?=S a):bZ σ (.ref r) (.int (-1))=S a:=(Fq hr).trans (aJ (GC hl) h)
theorem GD {n}(hl:xs.length=n+1)(h:xs[n]?=S a):bZ σ (.v (.lst xs)) (.int (-1))=S (.v a):=bP (aJ (GC hl) h)
set_option tactic.hygienic true in
theorem OP (w:WF G)(f:Fin G ws){u x}(hv:bE G u)(hx:∀X r,x=X::r->¬bE G (u++ [X])){K}(Q:kT K=S ((u++x).map nV))(hl:u.length<1000)(I:3<=D):
 (aQ prog D).call 28 [.v (vM G ws),.v (.int 0),.v K] σ=S (.v (.lst ((g_ G ws u).map nV)),σ):=by
 refine ec (dE I) rfl rfl rfl rfl λT L=>bz (iG (aj (aa rfl) aA) (aw (by simp))) ?_
 have out:∀done,bE G done->(∃rest,u++x=done++rest/\∀X r,rest=X::r->¬bE G (done++ [X]))->done=u:=by
  intro done k O;refine ah O λrest e hr=> ?_;clear O
  rcases Od.mp e with ⟨a,rfl,rfl⟩| ⟨c,rfl,rfl⟩
  . cases a with
    |nil=>rw[dg _];rfl
    |cons Y a=>exact absurd (tG a (by(rw[bM _ _ _];assumption))) (hx Y _ rfl)
  cases c with
   |nil=>rw[dg _];rfl
   |cons Y c=>exact absurd (tG c (by(rw[bM _ _ _];assumption))) (hr Y _ rfl)
 refine d8 nV (u++x) (λdone Z=>∀o y,bE G done->Z [S (.v (vM G ws)),S (.v (.int 0)),S (.v K),S (.ref 0),o,y] [cN (g_ G ws done)]) (c7 (aa rfl) Q) ?_ ?_ ?_
 . intro Z H
   exact kq (H _ _ (xP w)) (by rw[OM w f];rfl)
 . intro done X rest Z H k o y v
   refine bt rfl ?_
   have U:bZ [cN (g_ G ws done)] (.ref 0) (.int (-1))=S (.v (nV (stN G ws done))):=OO rfl (by(rw[aq _,aq _,yb];rfl)) (by(rw[bw,bw,GB]);rfl)
   refine bz (cX (aa rfl) nK (aj (bu (aa rfl) aP U) (aj (aa rfl) aA)) (Gz w f v (dH I))) ?_
   have b:∀σ,cO σ .eq (.v (gB (gS G ws (done++ [X])))) (.v (.int (-1)))=_:=λσ=>Bm
   by_cases q:bE G (done++ [X])
   . rw[kN q]at b ⊢
     have x_:¬1000<(done++ [X]).length:=λh=>by
      have:u.length<done.length:=by rw[aY,ed]at h;lia
      rcases Od.mp k with ⟨a,rfl,_⟩| ⟨c,rfl,_⟩
      . cases a with
        |nil=>rw[dg]at this;lia
        |cons Y a=>
         rename_i e
         have z:=e
         exact hx Y _ z (tG a (by(rw[bM _ _ _];assumption)))
      . rw[aY]at this;lia
     refine gw (br (aa rfl) (lr (by rw[lu];rfl)) (b _)) (fF (d7 (aa rfl) (gy rfl) (aj (aa rfl) aA) (i7 rfl ?_)) (bk (kq (H _ _ q) ?_)))
     . rw[aq _,yb];rw[aY,ed]at x_;exact aw (by lia)
     . show [cL ((g_ G ws done).map nV++ [nV (stN G ws (done++ [X]))])]= [cL ((g_ G ws (done++ [X])).map nV)]
       rw[ON,bK];rfl
   . rw[lH q]at b ⊢
     refine uU (P:=λ_ _=>False) (br (aa rfl) (lr (by rw[lu];rfl)) (b _)) (cb (aa rfl) ?_) λ_ _ h=>h.elim
     refine Zrr (out done v ⟨X::rest,k,λY r e=>by lia⟩) ?_
     exact L ⟨_,jn rfl⟩
 . intro o y v
   refine Zrr (out (u++x) v ⟨[],by simp,λX r e=>by lia⟩) ?_
   exact cb (aa rfl) (L ⟨_,jn rfl⟩)
theorem af5 (w:WF G)(f:Fin G ws)(a:4<=D):(aQ prog D).call 29 [.v (vM G ws)] σ=S (.v (gB (gS G ws [G.nT+1,0])),σ):=by
 refine ec (dE a) rfl rfl rfl rfl λT b=>cb (cX (aa rfl) nK (aj aP (aj (a_ (bu (a_ (a_ (aa rfl) OL) xM) aP ((λσ=>AN w w.xJ:∀σ,bZ σ _ _=S _) _)) xN) aA)) (ya w f rfl (dH a))) (b (c8 ?_))
 rw[w.oO.2];rfl
theorem af6:∀(l:List _) (k:Nat),tS (l.map nV) k=S ((k+l.sum:Nat):Int):=by
 intro b
 induction b with
 |nil=>
  exact λk=>rfl
 |cons a l c=>
  intro k
  show tS _ (k+a)=_
  rw[(Int.natCast_add _ _).symm,c _,w3 _ _ _];rfl
def GF (G:Gm)(ws:List (List Nat)):Nat:=(ws.map λw=>(bS G w).length).sum
theorem OQ (w:WF G)(f:Fin G ws){cl}{ρ}{i}{e}(he:az cl e ρ σ=S (.v (.lst (kM G ws)),σ))(b:i<ρ.length):az cl (.bf ae .sum (.comp ae (.one i) (.of e) (.bf ae .len (.attr (.var i) 20)))) ρ σ=S (.v (nV (GF G ws)),σ):=by
 have g:mO (λa c=>(bV (.one i) a ρ).bind (az cl (.bf ae _ (.attr (.var i) 20)) · c)) (kM G ws) σ=S _:=jo _ _ _ _ λp k=>by
  refine aJ rfl (cw (a_ (aa (x:= .v (gF G ws p.2 p.1)) ?_) rO) (eC (congrArg _ (aq _)) (aw (by have:=Gv w p.1;exact bx this (by decide)))))
  rewrite[slot];rw[oj b];rfl
 rw[(by
  rw[b4];refine Zrr b4 (gP λi=> ?_)
  rw[bw];rw[bw];rw[lG]
  cases ws[i]?<;>rfl:(ws.zipIdx.map λp=>Tactic.X.v _)=((ws.map λw=>(bS G w).length).map nV).map .v)]at g
 refine cw (jm (c7 he rfl) g (by rw[aq _,aq _,aq _];have:=f.le;exact aw (q3 this)) (fT _)) (bP ?_)
 have:=af6 (ws.map λw=>(bS G w).length) 0
 rwa[fb]at this
theorem af7 (w:WF G)(f:Fin G ws)(a:1<=D):(aQ prog D).call 30 [.v (vM G ws)] σ=S (.v (nV (GF G ws)),σ):=ec (dE a) rfl rfl rfl rfl λT b=>cb (OQ w f (a_ (aa rfl) lI) (jc _)) (b (c8 rfl))
theorem OR (w:WF G)(f:Fin G ws){u}{K}(b:kT K=S (u.map nV))(a:4<=D):(aQ prog D).call 40 [.v (vM G ws),.v K] σ=S (.v (.bool (gS G ws u).isSome),σ):=ec (dE a) rfl rfl rfl rfl λT c=>cb (br (cX (aa rfl) nK (aj aP (aj (aa rfl) aA)) (ya w f b (dH a))) (lr (by rw[lu];rfl)) ((λσ=>by
 cases gS G ws u with
 |none=>rfl
 |some x=>exact congrArg (Option.map _) (Bm (σ:=σ) (o:=S x)):∀σ,cO σ _ _ _=S _) _)) (c (c8 rfl))
def tH (G:Gm)(ws:List (List Nat))(u:List Nat):List V:=match gS G ws u with
 |some _=>(bD G u).map (vI G)
 |none=> []
theorem yc:ef σ (.v (gF G ws t u)) 19=S (.v (.lst (ip G u))):=rfl
theorem OS (w:WF G)(u):(bD G u).length<=28:=u6 w (rC (me G u)) rE
theorem OT (w:WF G){u v}(e:bD G u=bD G v):cB σ .sorted (.v (.lst (ip G u)))=S (.items ((bD G v).map (vI G))):=by
 refine Zrr (mh rfl (oS lF (aw (by have:=rG w u;rw[aq _];exact bx this (by decide))))) ?_;rw[tm (tv u) rE (me G u),e];rfl
theorem OU (w:WF G)(f:Fin G ws){u}{K}(k:kT K=S (u.map nV))(c:4<=D):(aQ prog D).call 41 [.v (vM G ws),.v K] σ=S (.v (.lst (tH G ws u)),σ):=by
 refine ec (ρ:= [S _,S _,J]) (dE c) rfl rfl rfl rfl λT a=>bz (cX (aa rfl) nK (aj aP (aj (aa rfl) aA)) (ya w f k (dH c))) ?_
 have b:∀σ,cO σ _ (.v (gB (gS G ws u))) _=_:=λσ=>Bm
 by_cases q:bE G u
 . rw[tH,kN q]at a;rw[kN q]at b ⊢
   exact ah (f.st w q) λo h e=>gw (br (aa rfl) (lr (by rw[lu];rfl)) (b _)) (cb (iH (a_ (bu (a_ (aa rfl) lI) (aa rfl) (rN f h)) yc) (OT w e)) (a (c8 rfl)))
 . rw[tH,lH q]at a;rw[lH q]at b ⊢
   exact uU (P:=λ_ _=>False) (br (aa rfl) (lr (by rw[lu];rfl)) (b _)) (cb (fS aA (aw (eM _)) rfl) (a (c8 rfl))) λ_ _ h=>h.elim
noncomputable def lJ:List (List Nat)->List Nat
 | []=> []
 | [s]=>s
 |s::t::r=>s++ [32]++lJ (t::r)
theorem OV:lJ (s::t::r)=s++ [32]++lJ (t::r):=rfl
theorem GG:∀l,vB [32] (l.map .str)=S (lJ l)
 | []=>rfl
 | [s]=>rfl
 |s::t::r=>bP (GG _)
theorem GH:∀l,(∀s∈l,s.length<=10)->(lJ l).length<=11*l.length
 | [],_=>ba _
 | [s],h=>by have:=h s cT;show s.length<=11;exact k9 ‹_›
 |s::t::r,h=>by
  have a:=h s cT
  have b:=GH _ λx hx=>h x (dA _ hx)
  have c:(s::t::r).length=(t::r).length+1:=rfl
  rw[OV,aY,aY,ed,c]
  exact S2 a b
def nL (G:Gm)(p:Nat×Nat):List (List Nat):=((rhs G p.1).map (nm G)).take p.2++ [[46]]++ ((rhs G p.1).map (nm G)).drop p.2
def lK (G:Gm)(p:Nat×Nat):List Nat:=nm G (lhs G p.1)++ [32,58,32]++lJ (nL G p)
def nM (G:Gm)(r:Nat):V:= .tup [.str (nm G (lhs G r)),.tup (((rhs G r).map (nm G)).map .str)]
def iM (G:Gm):List V:=(List.range (nR G)).map (nM G)
theorem af8 (h:(lJ l).length<aE):gJ σ .join (.v (.str [32])) [.v (.lst (l.map .str))]=S (.v (.str (lJ l)),σ):=aJ (GG l) (b8 ⟨h,aw (by decide)⟩)
theorem af9 (h:(lJ l).length<aE):gJ σ .join (.v (.str [32])) [.v (.tup (l.map .str))]=S (.v (.str (lJ l)),σ):=aJ (GG l) (b8 ⟨h,aw (by decide)⟩)
theorem GI (w:WF G){x}(h:x<nS G):(nm G x).length<=10:=(w.ok _ (eX (pT h))).2
theorem GJ (w:WF G){p}(h:Vd G p):(nL G p).length<=4/\∀s∈nL G p,s.length<=10:=by
 constructor
 . have:=w.len h.1
   have b:=aY (as:=((rhs G p.1).map (nm G)).take p.2) (bs:=((rhs G p.1).map (nm G)).drop p.2)
   rw[iZ,aq]at b
   rewrite[nL];rw[aY,aY,ed];lia
 . intro s a
   have:∀s∈ (rhs G p.1).map (nm G),s.length<=10:=λs a=>by
    refine ah (bX.mp a) λx hx O=> ?_;subst O
    exact GI w (w.sym h.1 x hx).1
   rcases b5.mp a with a|a
   . rcases b5.mp a with a|a
     . exact this s (oC a)
     . rw[dm.mp a];decide
   exact this s (zW a)
theorem OW (w:WF G){p}(h:Vd G p):cV .add (.str (nm G (lhs G p.1))) (.str [32,58,32])=S (.str (nm G (lhs G p.1)++ [32,58,32]))/\
 (lJ (nL G p)).length<aE/\cV .add (.str (nm G (lhs G p.1)++ [32,58,32])) (.str (lJ (nL G p)))=S (.str (lK G p)):=by
 have b:=GI w (w.jY h.1).2
 have a:=GJ w h
 have c:=GH _ a.2
 have k: [32,58,32].length=3:=rfl
 refine⟨Nm (aw (T6 b)),aw (T7 a c),Nm (aw (by rw[aY];exact HY b a c))⟩
theorem aga (w:WF G){p}(h:Vd G p)(b:1<=D):(aQ prog D).call 11 [.v (vG G),.v (nV p.1),.v (nV p.2)] σ=S (.v (.str (lK G p)),σ):=by
 refine ec b rfl rfl rfl rfl λT c=> ?_
 refine dp (OW w h) λk q r=> ?_
 have hl:=w.len h.1
 refine bz (bu (a_ (aa rfl) xM) (aa rfl) (AN w h.1)) ?_
 have g:=jo (f:=λa u=>(bV (.one 5) a [S (.v (vG G)),S (.v (nV p.1)),S (.v (nV p.2)),S (.v (fH G p.1)),J,J]).bind (az (aQ prog (D - 1)) (.idx (.attr (.var 0) 7) (.var 5)) · u)) nV (λx=> .v (.str (nm G x))) (rhs G p.1) [] λx hx=>
  aJ rfl (bu (a_ (aa rfl) xK) (aa rfl) (AO w (w.sym h.1 x hx).1))
 refine bz (E8 (c7 (a_ (aa rfl) xN) rfl) g (by rw[aq _];exact aw (bx hl (by decide)))) ?_
 refine uU (P:=λρ σ=>ρ= [S (.v (vG G)),S (.v (nV p.1)),S (.v (nV p.2)),S (.v (fH G p.1)),S (.ref 0),J]/\σ= [cL ((nL G p).map .str)]) (br (aa rfl) aP (xY (o:=S p.2))) (fF (d7 (aa rfl) (gy rfl) (aj (aa rfl) (aj aP aA)) (y:= .v .none) ?_) (bk ⟨rfl,rfl⟩)) ?_
 . have H:((rhs G p.1).map (λx=>X.v (.str (nm G x)))).length<aE/\0<=(p.2:Int)/\(p.2:Int)<=((rhs G p.1).map (λx=>X.v (.str (nm G x)))).length:=by
    rw[aq _]
    exact⟨aw (bx hl (by decide)),qK _,by exact_mod_cast h.2⟩
   refine(b8 H).trans ?_
   have e:(rhs G p.1).map (λx=>X.v (.str (nm G x)))=(((rhs G p.1).map (nm G)).map .str).map .v:=by rw[b4,b4];rfl
   show S (X.v .none,[Cell.lst (_++ [.v (.str [46])]++_)])=_
   rw[e,y8 _];rewrite[nL,cL];rw[bK,bK,bK,bK,Bn,Bn,OX,OX]
   rfl
 . (intro _ _ O;refine au O λI L=> ?_;clear O;obtain rfl:=I;obtain rfl:=L)
   refine l_ rfl (jn rfl) ?_
   refine cb (b9 (b9 (bu (a_ (aa rfl) xK) (a_ (aa rfl) FC) (AO w (w.jY h.1).2)) aP k) (d7 aP rfl (aj (aa rfl) aA) (af8 q)) r) (c (c8 rfl))
theorem agb (w:WF G){p}(h:Vd G p)(b:2<=D):(aQ prog D).call 12 [.v (vG G),.v (vI G p)] σ=S (.v (.str (lK G p)),σ):=ec (dE b) rfl rfl rfl rfl λT c=>have a:=dH b;cb (c6 (aj (aa rfl) (aj (cX (aa rfl) jr (aj (aa rfl) aA) (AP w h a)) (aj (cX (aa rfl) jr (aj (aa rfl) aA) (FG w h a)) aA))) (aga w h a)) (c (c8 rfl))
theorem agc (w:WF G){p}(h:Vd G p)(b:1<=D):(aQ prog D).call 56 [.v (.lst (iM G)),.v (nV p.1),.v (nV p.2)] σ=S (.v (.str (lK G p)),σ):=by
 refine ec b rfl rfl rfl rfl λT c=>dp (OW w h) λk o q=> ?_
 have hl:=w.len h.1
 have hn:=w.nr
 refine xy (bu (aa rfl) (aa rfl) ((λσ=>jq (aw (by have:=h.1;exact dw (ee this hn) (by decide))) (by rewrite[iM];rw[bw];rewrite[iI h.1];rfl):∀σ,bZ σ (.v (.lst (iM G))) (nV p.1)=S (.v (nM G p.1))) _)) rfl ?_
 have a:(((rhs G p.1).map (nm G)).map V.str).length=(rhs G p.1).length:=by simp
 have cl:lQ p.2 (((rhs G p.1).map (nm G)).map V.str).length=p.2:=by
  rewrite[lQ];refine Zrr (if_neg (by lia)) ?_;rw[a,y8 _];exact jI h.2
 have r:=(GJ w h).1
 rw[nL,aY,aY,ed]at r
 refine cb (b9 (b9 (aa rfl) aP k) (d7 aP rfl (aj (b9 (b9 (pI (aa rfl) (aa rfl) (by
  refine(b8 (by rw[a];exact aw (bx hl (by decide)))).trans ?_
  rw[cl,Bn];rfl)) (eY (aj aP aA) (aw (by simp)) rfl) (by
  refine Zrr (AI (by rw[aq _,ed];exact aw (by lia))) ?_;rw[bK];rfl:cV .add (.tup ((((rhs G p.1).map (nm G)).take p.2).map .str)) (.tup [.str [46]])=S (.tup ((((rhs G p.1).map (nm G)).take p.2++ [[46]]).map .str)))) (aep (aa rfl) (aa rfl) (by
  refine(b8 (by rw[a];exact aw (bx hl (by decide)))).trans ?_
  rw[cl,OX];rfl)) (by
  refine Zrr (AI (by rw[aq _,aq _,aY,ed];exact aw (by lia))) ?_;rewrite[nL];rw[(bK (l₁:=_++_))];rfl:cV .add (.tup ((((rhs G p.1).map (nm G)).take p.2++ [[46]]).map .str)) (.tup ((((rhs G p.1).map (nm G)).drop p.2).map .str))=S (.tup ((nL G p).map .str)))) aA) (af9 o)) q) (c (c8 rfl))
theorem agd (w:WF G)(f:Fin G ws){t}{u}(h:ws[t]?=S u)(b:3<=D):(aQ prog D).call 42 [.v (vM G ws),.v (nV t)] σ=S (.v (.lst ((cls G u).map λp=> .str (lK G p))),σ):=by
 refine ec (dE b) rfl rfl rfl rfl λT c=> ?_
 have g:=jo (f:=λa k=>(bV (.one 2) a [S (.v (vM G ws)),S (.v (nV t)),J]).bind (az _ (.call 12 (.cons (.attr (.var 0) 22) (.cons (.var 2) _))) · k)) _ _ (cls G u) [] λp o=>
  aJ rfl (c6 (aj (a_ (aa rfl) OL) (aj (aa rfl) aA)) (agb w (oT p o) (dH b)))
 rw[(by rw[b4];rfl:((cls G u).map λp=>X.v _)=((cls G u).map λp=> .str (lK G p)).map .v)]at g
 exact cb (jm (c7 (a_ (bu (a_ (aa rfl) lI) (aa rfl) (rN f h)) yc) rfl) g (by rw[aq _,aq _];have:=rG w u;exact aw (bx this (by decide))) (fT _)) (c (c8 rfl))
noncomputable def sel (a:List (Nat×Nat))(s:Nat):List Nat:=(a.filter λp=>p.1==s).map (·.2)
def eN (n:Nat)(ps:List (Nat×Nat)):List (List Nat):=(List.range n).map (sel ps)
def gC (base:Hp)(g:List (List Nat)):Hp:=base++ (g.map cN++ [.lst ((List.range g.length).map λs=> .ref (base.length+s))])
theorem age:sel (a++ [(s,t)]) i=if s=i then sel a i++ [t]else sel a i:=by
 rewrite[sel];rw[j_ _ _,bK]
 by_cases h:s=i
 . rw[if_pos h];exact Zrr (pJ (by simpa using h)) rfl
 . rw[if_neg h];refine Zrr (pK (by simpa using h)) ?_;rw[xZ,qG,dg _];rfl
theorem jt:(eN n a).length=n:=by rewrite[eN];rw[aq _,cP];rfl
theorem Bo {n s}{a}(h:s<n):(eN n a)[s]?=S (sel a s):=by rewrite[eN];rw[bw,iI h];rfl
theorem OY {a}:(eN n a).set s (sel a s++ [t])=eN n (a++ [(s,t)]):=by
 refine gP λi=> ?_
 rw[rH,jt]
 rcases i.lt_or_ge n with h|h
 . rw[Bo h,Bo h,age]
   by_cases q:s=i
   . subst q;rw[if_pos rfl,if_pos rfl,if_pos h];rfl
   . rw[if_neg q,if_neg q];rfl
 . refine Zrr (eU (Zrr jt h)) (Zrr (eU (Zrr jt h)) ?_)
   by_cases q:s=i
   . rw[if_pos q];exact Zrr (if_neg (mD (iP h (aN q.symm)))) rfl
   . rw[if_neg q];rfl
theorem OZ:(gC base (eN n a))[base.length+n]?=S (.lst ((List.range n).map λs=> .ref (base.length+s))):=by
 rewrite[gC];rw[iE (dO _ _),l7 _ _];refine Zrr (iE (by rw[aq _,jt];exact ba _)) ?_;rw[aq _,jt,kE _];rfl
theorem GK {n s}{a}(h:s<n):(gC base (eN n a))[base.length+s]?=S (cN (sel a s)):=by
 rewrite[gC];rw[iE (dO _ _),l7 _ _];refine Zrr (eQ (by rw[aq _];exact Zrr jt h)) ?_;rw[bw,Bo h];rfl
theorem agf {n s t}{a}(h:s<n):(gC base (eN n a)).set (base.length+s) (cN (sel a s++ [t]))=gC base (eN n (a++ [(s,t)])):=by
 rw[gC,gC,w_ _ _ (dO _ _),l7 _ _];refine Zrr (ynZ _ _ (by rw[aq _];exact Zrr jt h)) ?_;rw[xI.symm,OY,jt,jt];rfl
theorem agg {ρ}{i}:∀(b:List V) (σ:Hp),mO (λa af=>(bV (.one i) a ρ).bind (az cl (.lst ab .nil) · af)) b σ=S ((List.range b.length).map (λj=> .ref (σ.length+j)),σ++List.replicate b.length (.lst [])):=by
 intro c
 induction c with
 |nil=>
  exact λσ=>congrArg _ (σ.append_nil).symm
 |cons a b k=>
  refine λσ=>(aJ (iG aA (aw (eM _)):az cl (.lst ab .nil) (ρ.set i (S (.v a))) σ=S (.ref σ.length,σ++ [.lst []])) (bP (k (σ++ [.lst []])))).trans ?_
  rw[El,dz,b4,bM _ _ _,aY,(vb λj _=>by
   show .ref (σ.length+1+j)=X.ref (σ.length+ (j+1))
   congr 1;exact TC)];rfl
theorem GL {i n}{σ}{it}{vs}(h:iw cl it ρ σ=S (vs,σ))(hn:vs.length=n)(hl:n<aE):az cl (.comp ab (.one i) it (.lst ab .nil)) ρ σ=S (.ref (σ.length+n),gC σ (eN n [])):=by
 refine(E8 h (agg vs σ) (by rw[aq _,cP,hn];assumption)).trans ?_
 have e:(eN n []).map cN= .replicate n (.lst []):=by
  refine Zrr b4 (gP λi=> ?_)
  rw[bw,Ak]
  rcases i.lt_or_ge n with h|h
  . rw[iI h,if_pos h];rfl
  exact Zrr (eU (Zrr cP h)) (Zrr (if_neg (mD h)) rfl)
 rw[aY,AM,hn];rewrite[gC];rw[e,bM _ _ _,jt];rfl
theorem O0 {base σ}{ps}{n s t}{o b c}(k:σ=gC base (eN n ps))(a:s<n)(hn:n<aE)(hl:(sel ps s).length<aE)
 (q:az cl o ρ σ=S (.ref (base.length+n),σ))(r:az cl b ρ σ=S (.v (nV s),σ))(u:az cl c ρ σ=S (.v (nV t),σ)):
 az cl (.da (.idx o b) .append (.cons c .nil)) ρ σ=S (.v .none,gC base (eN n (ps++ [(s,t)]))):=by
 subst k
 refine d7 (bu q r (lx OZ (gY a hn) (by rw[bw,iI a];rfl))) (gy (GK a)) (aj u aA) ((i7 (GK a) (by rw[aq _];assumption)).trans ?_)
 rw[(agf a).symm];rewrite[cN];rw[bK];rfl
def rP (n:Nat)(ps:List (Nat×Nat)):V:= .lst ((List.range n).map λs=> .lst ((sel ps s).map nV))
theorem O1 {n}{ps}:Fz (rP n ps) (.ref (base.length+n)) (gC base (eN n ps)):=ah (Gx (B:=Unit) (g:=fz 7) _ (λs=> .lst ((sel ps s).map nV)) (λl σ=>l.Nodup/\∀s∈l,σ[base.length+s]?=S (cN (sel ps s)))
 (λa rest σ o=>au o λc k=>⟨_,(oN (k a cT)).trans (bP (xC _ _ _)),(kB.mp c).2,λs b=>have:s≠a:=λe=>(kB.mp c).1 (e▸b);Zrr (dG (by lia)) (k s (dA _ b))⟩) _ _ ⟨F4,λs b=>have:=gu.mp b;Zrr (dG (SY this)) GK this⟩) λr q _=>⟨_,(oN OZ).trans (bP q)⟩
def ju (G:Gm)(ws:List (List Nat))(l:List (List Nat×Nat)):List (Nat×Nat):=l.flatMap λp=>(bS G p.1).map λX=>(stN G ws (p.1++ [X]),p.2)
def fx (G:Gm)(ws:List (List Nat)):List (Nat×Nat):=ju G ws ws.zipIdx
theorem O2 (w:WF G){s t}:(s,t)∈fx G ws↔∃u X,ws[t]?=S u/\bE G (u++ [X])/\s=stN G ws (u++ [X]):=by
 rw[fx,ju,propext oQ]
 constructor
 . intro O;refine ah O λa b c=> ?_;clear O;obtain ⟨u,o⟩:=a
   refine ah (bX.mp c) λX k e=> ?_
   cases e
   exact⟨u,X,Bl.mp b,(i6 w).mp k,rfl⟩
 . intro O;refine bo O λu X b c a=> ?_;clear O;subst a
   exact⟨(u,t),Bl.mpr b,bX.mpr ⟨X,(i6 w).mpr c,rfl⟩⟩
theorem agh (w:WF G)(f:Fin G ws){u v}{X Y}(a:bE G (u++ [X]))(b:bE G (v++ [Y]))(e:stN G ws (u++ [X])=stN G ws (v++ [Y])):X=Y:=aeW a (FP (f.ae7 w a b e))
theorem O3 (w:WF G)(f:Fin G ws)(u):((bS G u).map λX=>stN G ws (u++ [X])).Nodup:=by
 rw[rI];refine Zrr (propext i5) ((p5 G u).imp_of_mem ?_)
 intro X Y a b h e
 have:=agh w f ((i6 w).mp a) ((i6 w).mp b) e
 exact HX h this
theorem agi (w:WF G)(f:Fin G ws):(fx G ws).Nodup:=by
 rw[rI,fx,ju,propext F6]
 constructor
 . intro p _
   rw[i5]
   have:=O3 w f p.1
   rw[rI,i5]at this
   exact this.imp λh e=>h (congrArg Prod.fst e)
 . have nd:(ws.zipIdx.map Prod.snd).Nodup:=by rw[List.zipIdx_map_snd _ _];exact List.nodup_range'
   rw[rI,i5]at nd
   refine nd.imp λh x hx y a e=>ah (bX.mp hx) λX _ O=> ?_;subst O
   refine ah (bX.mp a) λY _ O=> ?_;subst O
   exact h (congrArg (λp:Nat×Nat=>p.2) e)
theorem Bp:t∈sel a s↔ (s,t)∈a:=by
 rewrite[sel];rw[bX]
 constructor
 . intro O;refine ah O λk h b=> ?_;clear O;subst b
   refine au (fI.mp h) λo c=> ?_
   have:=by simpa using c
   rw[this.symm];assumption
 exact λh=>⟨_,fI.mpr ⟨h,by simp⟩,rfl⟩
theorem Br (w:WF G){s t}(h:t∈sel (fx G ws) s):t<ws.length:=dh ((O2 w).mp (Bp.mp h)) λu X a _=>dB a
theorem O4 (w:WF G)(f:Fin G ws){ps}(h:ps<+:fx G ws)(s):(sel ps s).length<aE:=by
 have:=nD (by
  rewrite[sel];rw[rI,propext i5]
  have:=((agi w f).sublist h.sublist).filter λp=>p.1==s
  refine .imp_of_mem ?_ this
  intro a b ha hb ne e
  refine ne ?_
  have c:=by simpa using (fI.mp ha).2
  have k:=by simpa using (fI.mp hb).2
  exact v9 (c.trans k.symm) e) λt o=>gu.mpr (Br w (Bp.mpr (h.subset (Bp.mp o))))
 rw[cP]at this
 exact have:=f.le;aw (by lia)
theorem Bs {α:Type}{l:List _}{g:Nat->V}:kT (.aU .int (l.map λX=>(nV X,g X)))=S (l.map nV):=by
 show S _=_
 rewrite[keysOf];rw[b4];rfl
theorem ki (f:Fin G ws):ws.length<aE:=by have:=f.le;exact aw (q3 this)
theorem O5:ef σ (.v (gF G ws t u)) 0=S (.v (nV t)):=rfl
theorem agj {done rest}(h:ws.zipIdx=done++p::rest):ws[p.2]?=S p.1:=Bl.mp (by rw[h];simp)
theorem Bt (w:WF G){u}{X}(h:X∈bS G u):bZ σ (.v (rM G ws u)) (nV X)=S (.v (nV (stN G ws (u++ [X])))):=xF rfl (tB.trans (if_pos h))
theorem O6 {p}{d r}{X}(h:ws.zipIdx=done++p::rest)(a:bS G p.1=d++X::r):ju G ws done++d.map (λX=>(stN G ws (p.1++ [X]),p.2))<+:fx G ws:=by
 rewrite[fx];rw[h];rewrite[ju,ju];rw[p6,A_,a,bK,bM _ _ _]
 exact ylQ _|>.mpr (tj _ _)
theorem O7:ju G ws (done++ [p])=ju G ws done++ (bS G p.1).map λX=>(stN G ws (p.1++ [X]),p.2):=by rewrite[ju];rw[p6,Ba _ _];rfl
theorem O8 (w:WF G)(f:Fin G ws)(q:1<=D):(aQ prog D).call 36 [.v (vM G ws)] σ=S (.v (rP ws.length (fx G ws)),σ):=by
 refine ec (dE q) rfl rfl rfl rfl λT u=>bz (GL (c7 (a_ (aa rfl) lI) rfl) Gy (ki f)) (d8 _ _ (λdone Z=>∀c a,Z [S _,S _,c,a,J] (gC [] (eN _ (ju G ws done)))) (c7 (a_ (aa rfl) lI) rfl) (λZ b=>b _ _) ?_ ?_)
 . refine λdone p rest Z b x c a=>bt rfl (d8 nV _ (λd Z=>∀a,Z [S _,S _,S _,a,J] (gC [] (eN ws.length (ju G ws done++d.map λX=>(stN G ws (p.1++ [X]),p.2))))) (c7 (a_ (aa rfl) rO) (Bs (α:=Unit))) (λZ b=>kq (b _) (by simp)) ?_ ?_)
   . intro d X r Z b k a
     have o:X∈bS G p.1:=by rw[k];simp
     refine bt rfl (fF (O0 rfl (f.xT w ((i6 w).mp o)) (ki f) (O4 w f (O6 x k) _) (aa rfl) (bu (a_ (aa rfl) rO) (aa rfl) (Bt w o)) (a_ (aa rfl) O5)) (bk (kq (b _) ?_)))
     rw[bK,bM _ _ _];rfl
   exact λa=>bk (kq (b _ _) (by rw[O7];rfl))
 exact λc a=>cb (aa rfl) (u O1)
def fh (G:Gm)(ws:List (List Nat))(s:Nat):Nat->List Nat
 |0=> [s]
 |k+1=>(List.range ws.length).filter λt=>decide (∃h∈fh G ws s k,t∈sel (fx G ws) h)
theorem agk:fh G ws s (k+1)=(List.range ws.length).filter λt=>decide (∃h∈fh G ws s k,t∈sel (fx G ws) h):=rfl
theorem O9 (a:s<ws.length):∀k,∀t∈fh G ws s k,t<ws.length:=by
 intro b
 induction b with
 |zero=>
  intro t h
  rewrite[dm.mp h];exact a
 |succ k _=>
  exact λt h=>gu.mp (fI.mp h).1
def dC (a:List Nat):Cell:= .aU .int (a.map λk=>(nV k,.v (.bool ab)))
theorem agl:∀ {a:List (V×u)},ck k a=S x->d9 k x a=a:=by
 intro b
 induction b with
 |nil=>
  exact aD
 |cons c r o=>
  obtain ⟨H,y⟩:=c
  intro h
  rw[mm]at h
  rw[tx]
  split at h
  . rename_i q;cases h;rw[if_pos q];rfl
  . rename_i q;rw[if_neg q,o h];rfl
theorem agm: .aU .int (d9 (nV k) (.v (.bool ab)) (a.map λk=>(nV k,.v (.bool ab))))=dC (if k∈a then a else a++ [k]):=by
 by_cases h:k∈a
 . rw[if_pos h,agl (tB (g:=λ_=>X.v _).trans (if_pos h))];rfl
 . rw[if_neg h,tA (tB.trans (if_neg h))];rewrite[dC];rw[bK];rfl
theorem O':(σ++ [c])[σ.length]?=S c:=by rw[iE (ba _),kE _];rfl
theorem agn {c d:Cell}:(σ++ [c]).set σ.length d=σ++ [d]:=by simp
theorem ago {k n}(nd:a.Nodup)(hk:∀x∈a,x<n)(hn:n<aE):mM (σ++ [dC a]) (.ref σ.length) (nV k) (.v (.bool ab))=S (σ++ [dC (if k∈a then a else a++ [k])]):=by
 have:=nD nd λt b=>gu.mpr (hk t b)
 rw[cP]at this
 exact(rz O' rfl (by rw[aq _];exact e_ ‹_› ‹_›)).trans (by rw[agn,agm];rfl)
theorem agp (w:WF G)(f:Fin G ws){s m}{mv}(hm:mv=nV m)(hs:s<ws.length)(hk:m<aE)(U:2<=D):(aQ prog D).call 37 [.v (vM G ws),.v (nV s),.v mv] σ=S (.v (.lst ((fh G ws s m).map nV)),σ):=by
 refine ec (dE U) rfl rfl rfl rfl λT hT=>bz (c6 (aj (aa rfl) aA) (O8 (σ:= []) w f (dH U))) (bz (fS (aj (aa rfl) aA) (aw (by simp)) rfl) (uV nV m (λi Z=>∀L Q H o σ,Z [S (.v (vM G ws)),S (.v (nV s)),S (.v mv),S (.v (rP ws.length (fx G ws))),S (.v (.lst ((fh G ws s i).map nV))),L,Q,H,o] σ) (pO (aa (by rw[hm];rfl)) hk) (λZ u=>u _ _ _ _ _) ?_ ?_))
 . refine λi Z u hi L Q H o σ=>bt rfl (bz tC (d8 nV (fh G ws s i) (λdone Z=>∀H o k,k.Nodup->(∀x,x∈k↔∃h∈done,x∈sel (fx G ws) h)->Z [S (.v (vM G ws)),S (.v (nV s)),S (.v mv),S (.v (rP ws.length (fx G ws))),S (.v (.lst ((fh G ws s i).map nV))),S (.v (nV i)),S (.ref σ.length),H,o] (σ++ [dC k])) (c7 (aa rfl) rfl) (λZ u=>u _ _ [] Bh (λx=>by simp)) ?_ ?_))
   . intro done h rest Z u hd H o k nd mem
     have Y:=O9 hs i h (by rw[hd];simp)
     refine bt rfl (d8 nV (sel (fx G ws) h) (λd Z=>∀o k,k.Nodup->(∀x,x∈k↔ (∃h∈done,x∈sel (fx G ws) h)\/x∈d)->Z [S (.v (vM G ws)),S (.v (nV s)),S (.v mv),S (.v (rP ws.length (fx G ws))),S (.v (.lst ((fh G ws s i).map nV))),S (.v (nV i)),S (.ref σ.length),S (.v (nV h)),o] (σ++ [dC k])) (c7 (bu (aa rfl) (aa rfl) ((λσ=>jq (gY Y (ki f)) (by rw[bw,iI Y];rfl)) _)) rfl) (λZ u=>u _ k nd (λx=>by rw[mem _];simp)) ?_ ?_)
     . refine λd x r Z u er o k nd I=>bt rfl (jU aP (aa rfl) (aa rfl) (ago nd (λy hy=>by
        rcases(I y).mp hy with ⟨h',_,q⟩|q
        . exact Br w q
        exact Br w (by rw[er];exact fg _ q)) (ki f)) (bk (u _ _ ?_ ?_)))
       . split
         . exact nd
         . rename_i q
           exact Zrr (propext qH) ⟨nd,by simp,λa ha b hb e=>q (by rw[dm.mp hb]at e;rw[e.symm];assumption)⟩
       . intro y
         rw[b5,(propext or_assoc).symm,(propext (I y)).symm,propext dm]
         split
         . rename_i q
           exact⟨.inl,λh=>h.elim id λe=>e▸q⟩
         . rw[b5,propext dm];rfl
     . intro o k nd I
       refine bk (u _ _ k nd (λx=> ?_))
       rw[I _]
       simp only[b5,dm]
       constructor
       . rintro (⟨a,b,c⟩|q)
         . exact⟨a,.inl b,c⟩
         . exact⟨h,.inr rfl,q⟩
       . (intro O;refine ah O λa ax c=> ?_;clear O;obtain b|rfl:=ax)
         . exact .inl ⟨a,b,c⟩
         . exact .inr c
   . intro H o k nd mem
     have sl:(fh G ws s (i+1)).Pairwise (· < ·):=ND.filter _
     have pm:=u3 nd (sl.imp dx) λx=>by
      rw[mem _,agk,propext fI,decide_eq_true_eq,propext gu]
      exact⟨λh=>⟨by(refine ah h λa _ c=> ?_;clear h);exact Br w c,h⟩,λh=>h.2⟩
     have s1:=A0 pm (sl.imp b_)
     have sq:rX (σ++ [dC k]) (.ref σ.length)=S (k.map nV):=(Ot O').trans (by(rewrite[keysOf];rw[b4]);rfl)
     have kl:k.length<aE:=by
      have h1:(fh G ws s (i+1)).length<=(List.range ws.length).length:=jZ _ _
      rw[pm.length_eq]
      rw[cP]at h1
      exact e_ h1 (ki f)
     refine bz (iH (aa rfl) (mh sq (oS (x6) (by(rw[aq _];assumption))))) (bk ?_)
     rw[s1]
     exact u _ _ _ _ _
 . intro L Q H o σ
   exact cb (aa rfl) (hT (c8 rfl))
def Bv (l:List (List Nat)):Prop:=∀(t:Nat) (v:List Nat),l[t]?=S v->v.length<=t
theorem agq (h:Bv l)(a:y.length<=l.length):Bv (addW G l y):=by
 intro t v e
 rw[addW]at e
 split at e
 . exact h t v e
 . rw[List.getElem?_append]at e
   split at e
   . exact h t v e
   . have hl:=dB e
     rw[ed]at hl
     rw[show t - l.length=0 by exact RK hl]at e
     cases e
     exact iP a (gg ‹_›)
theorem agr:∀(a:List _) (l:List _),Bv l->u.length<l.length->Bv (c_ G l u a):=by
 intro b
 induction b with
 |nil=>
  exact λl h _=>h
 |cons X a c=>
  exact λl h k=>have o:=FQ (G:=G) (l:=l) (y:=u++ [X]).length_le;c _ (agq (G:=G) (y:=u++ [X]) h (by rw[aY,ed];exact k)) (d_ ‹_› ‹_›)
theorem ags:∀(a t:Nat) (v:List _),(Bq G a)[t]?=S v->v.length<=t:=by
 intro c
 induction c with
 |zero=>
  intro t v e
  have hl:=dB e
  have:t=0:=by change t<1 at hl;exact q4 hl
  subst this
  cases e;exact dM _
 |succ a b=>
  intro t v e
  cases q:(Bq G a)[a]? with
  |none=>rw[pV q]at e;exact b t v e
  |some u=>
   rw[pV q]at e
   exact have k:=b a u q;have o:=dB q;agr _ _ b (e_ ‹_› ‹_›) t v e
theorem Fin.GO (f:Fin G ws){t}{u:List _}(h:ws[t]?=S u):u.length<=t:=have:=f.eq;ags _ t u (Zrr this.symm h)
def dJ (l:List Nat):V:= .tup (l.map nV)
def oW (W:List (List Nat))(t:Nat):V:=match W[t]? with
 |some w=>dJ w
 |none=> .none
def fC (n:Nat)(W:List (List Nat)):Cell:=cL ((List.range n).map (oW W))
theorem Bw {W}{t}{u}(h:W[t]?=S u):oW W t=dJ u:=by rewrite[oW];rw[h];rfl
theorem agt {W}{t}(h:W.length<=t):oW W t= .none:=by rewrite[oW];rw[eU h];rfl
theorem O_ {n t}{W}{r:Hp}(h:t<n)(hn:n<aE):bZ (fC n W::r) (.ref 0) (nV t)=S (.v (oW W t)):=lx rfl (gY h hn) (by rw[bw,bw,iI h];rfl)
theorem Pa {W}{y}{r:Hp}(h:W.length<n)(hn:n<aE):mM (fC n W::r) (.ref 0) (nV W.length) (.v (dJ y))=S (fC n (W++ [y])::r):=by
 refine(xG rfl (by rw[aq _,aq _];exact Zrr cP h) (gY h hn)).trans (congrArg _ (congrArg _ (congrArg _ (gP λi=> ?_))))
 rw[rH,aq _,aq _,cP,bw,bw,bw,bw]
 by_cases q:W.length=i
 . subst q
   rw[if_pos rfl,if_pos h,iI h]
   show _=S _
   exact Zrr (Bw (by rw[iE (ba _),kE _];rfl)) rfl
 . rw[if_neg q]
   rcases i.lt_or_ge n with z|z
   . rw[iI z]
     show S _=S _
     rw[oW,oW,(by
      refine(i.lt_or_ge _).elim eQ λz=> ?_
      . rw[eU z];exact Zrr (eU (by rw[aY];rw[ed];lia)) rfl:(W++ [y])[i]?=W[i]?)];rfl
   exact Zrr (eU (Zrr cP z)) rfl
theorem agu (f:Fin G ws):(List.range ws.length).map (oW ws)=ws.map dJ:=by
 refine gP λi=> ?_
 rw[bw,bw]
 rcases i.lt_or_ge _ with z|z
 . rw[iI z];exact Zrr (dr z) (congrArg _ (Bw (dr z)))
 . refine Zrr (eU (Zrr cP z)) ?_;rw[eU z];rfl
def qC (n:Nat):Cell:=cN (List.range n)
theorem agv (w:WF G)(f:Fin G ws){cl}{a}{u}{c}(k:ws[a]?=S u){y}{R}{Q}
 (Y:∀c,Do (aZ cl y [S (.v (vM G ws)),S (.v (.int 0)),S (.ref 0),S (.ref 1),S (.v (nV a)),S (.v (nV a)),S (.v (rM G ws u)),c,J] [fC ws.length (Bq G (a+1)),qC (Bq G (a+1)).length]) Q R):
 Do (aZ cl (.cons (.cq (.one 7) (.of (.var 6)) Io) y) [S (.v (vM G ws)),S (.v (.int 0)),S (.ref 0),S (.ref 1),S (.v (nV a)),S (.v (nV a)),S (.v (rM G ws u)),c,J] [fC ws.length (Bq G a),qC (Bq G a).length]) Q R:=by
 have H:=(f.get (dB k)).trans k
 have hlt:=dB H
 have ha:=dB k
 have hn:=ki f
 refine d8 nV (bS G u) (λdone Z=>∀c,Z [S (.v (vM G ws)),S (.v (.int 0)),S (.ref 0),S (.ref 1),S (.v (nV a)),S (.v (nV a)),S (.v (rM G ws u)),c,J] [fC ws.length (c_ G (Bq G a) u done),qC (c_ G (Bq G a) u done).length]) (c7 (aa rfl) (Bs (α:=Unit))) (λZ b=>b _) ?_ ?_
 . refine λdone X rest Z b I c=>bt rfl ?_
   have L:X∈bS G u:=by rw[I];simp
   have O:c_ G (Bq G a) u (done++ [X])=addW G (c_ G (Bq G a) u done) (u++ [X]):=by rewrite[c_];rw[g8];rfl
   have pre:addW G (c_ G (Bq G a) u done) (u++ [X])<+:ws:=by
    refine .trans ?_ (f.pre (yM ha))
    have e:c_ G (Bq G a) u ((done++ [X])++rest)=c_ G (c_ G (Bq G a) u (done++ [X])) u rest:=g8 ..
    rw[f.next k,I,O.symm,done.append_cons X rest];exact Zrr e (pW _ _)
   have hW:(c_ G (Bq G a) u done)[a]?=S u:=(nE (pW _ _) hlt).symm.trans H
   have x:=pre.length_le
   have add:=f.add w pre
   rw[O]at b
   generalize c_ G (Bq G a) u done=W at pre hW x add b ⊢
   have o:∀σ,bZ σ (.v (rM G ws u)) (nV X)=S (.v (nV (stN G ws (u++ [X])))):=λσ=>Bt w L
   have q:=O_ (W:=W) (r:= [qC W.length]) (f.xT w ((i6 w).mp L)) hn
   rcases add with ⟨e,hlt⟩| ⟨e,g5,_⟩
   . rw[e]at b
     rw[(Bw (dr hlt))]at q
     refine gw (tb (bu (aa rfl) (bu (aa rfl) (aa rfl) (o _)) q) rfl) (bk (b _))
   . rw[e]at x b
     rw[aY,ed]at x b
     rw[g5]at o q
     rw[agt (ba _)]at q
     have U:=O_ (W:=W) (r:= [qC W.length]) ha hn
     rw[Bw hW]at U
     have fi:=f.GO k
     refine uU (tb (bu (aa rfl) (bu (aa rfl) (aa rfl) (o _)) q) rfl) (jU (b9 (bu (aa rfl) (aa rfl) U) (eY (aj (aa rfl) aA) (aw (by simp)) rfl) (by
      rewrite[dJ];refine Zrr (AI (by rw[aq _,ed];exact Ue ha hn fi)) ?_;rewrite[dJ];rw[bK];rfl:cV .add (dJ u) (.tup [nV X])=S (dJ (u++ [X])))) (aa rfl) (bu (aa rfl) (aa rfl) (o _)) (Pa x hn) (fF (d7 (aa rfl) (gy rfl) (aj (bu (aa rfl) (aa rfl) (o _)) aA) (i7 rfl (by rw[aq _,cP];lia))) (bk (kq (b _) ?_)))) λ_ _ h=>bk h
     show [fC ws.length (W++ [u++ [X]]),cL ((List.range W.length).map nV++ [nV W.length])]=_
     rewrite[qC,cN];rw[kI,bK];rfl
 . intro c
   exact Zrr ((f.next k).symm) (Y _)
theorem Pb (w:WF G)(f:Fin G ws)(L:1<=D):(aQ prog D).call 38 [.v (vM G ws),.v (.int 0)] σ=S (.v (.lst (ws.map dJ)),σ):=by
 refine ec (dE L) rfl rfl rfl rfl λT O=> ?_
 have hn:=ki f
 have g:=jo (f:=λa Q=>(bV (.one 8) a [S (.v (vM G ws)),S (.v (.int 0)),J,J,J,J,J,J,J]).bind λρ'=>az (aQ prog (D - 1)) (.cst .none) ρ' Q) (λp:List Nat×Nat=>gF G ws p.2 p.1) (λ_=>X.v .none) ws.zipIdx [] λp hp=>rfl
 have U:ws.zipIdx.map (λ_=>X.v .none)=((List.range ws.length).map (oW [])).map .v:=by
  refine gP λi=> ?_
  rw[bw,bw,bw,lG]
  rcases i.lt_or_ge ws.length with z|z
  . rw[iI z,dr z];rfl
  . refine Zrr (eU (l:=List.range ws.length) (by rw[cP];exact z)) ?_;rw[eU z];rfl
 rw[U]at g
 refine bz (E8 (c7 (a_ (aa rfl) lI) rfl) g (by(rw[aq _,aq _,cP]);exact hn)) ?_
 have Y:=Pa (W:= []) (y:= []) (r:= []) f.pos hn
 refine jU (eY aA (aw (eM _)) rfl) (aa rfl) (aa rfl) Y ?_
 refine bz (iG (aj (aa rfl) aA) (aw (by simp))) (bz aP ?_)
 refine uW (λa Z=>a<=ws.length->∀x H b,Z [S (.v (vM G ws)),S (.v (.int 0)),S (.ref 0),S (.ref 1),S (.v (nV a)),x,H,b,J] [fC ws.length (Bq G a),qC (Bq G a).length]) (λa=>ws.length - a) 0 (λZ c=>c (dM _) _ _ _) (by have:=f.le;show _ - 0<2^22;exact HJ this) ?_
 intro a Z c ha x H b
 have Gw:=FU w a
 have k:(Bq G a).length<aE:=aw (q3 Gw)
 refine wt (decide (a<(Bq G a).length)) (br (aa rfl) (cw (aa rfl) (eC (pN rfl) (by(rw[aq _,aq _,cP]);exact k))) (by(rw[aq _,aq _,cP]);exact pM)) (λq=> ?_) (λq=> ?_)
 . have q:=of_decide_eq_false q
   have:a=ws.length:=by
    rcases uL a ws.length with z|z
    . exact absurd (f.lt a z) q
    . exact cj ha z
   subst this
   rw[f.eq.symm]
   exact cb (aa rfl) (O ⟨_,(jn rfl).trans (by(rw[agu f];rfl))⟩)
 . have q:=of_decide_eq_true q
   have o:a<ws.length:=by
    rcases uL a ws.length with z|z
    . exact z
    . have:a=ws.length:=cj ha z
      subst this
      rw[<-f.eq]at q;assumption
   obtain ⟨u,I⟩:∃u,ws[a]?=S u:=⟨_,dr o⟩
   have i1:bZ [fC ws.length (Bq G a),qC (Bq G a).length] (.ref 1) (nV a)=S (.v (nV a)):=lx rfl (e_ ‹_› ‹_›) (by(rw[bw,bw,iI q]);rfl)
   refine bz (bu (aa rfl) (aa rfl) i1) (bz (a_ (bu (a_ (aa rfl) lI) (aa rfl) (rN f I)) rO) ?_)
   refine agv w f I λb=> ?_
   exact bz (b9 (aa rfl) aP (@nq a 1)) (bk (c (a+1) (q6 o) (o) _ _ _))
theorem agw (w:WF G)(f:Fin G ws){t}{u}(h:ws[t]?=S u)(a:2<=D):(aQ prog D).call 39 [.v (vM G ws),.v (nV t)] σ=S (.v (dJ u),σ):=ec (dE a) rfl rfl rfl rfl λT b=>have c:∀σ,bZ σ _ _=S _:=λσ=>jq (f.lim h) (by rw[bw,h];rfl);cb (bu (c6 (aj (aa rfl) (aj aP aA)) (Pb (σ:= []) w f (dH a))) (aa rfl) (c _)) (b (c8 rfl))
theorem Pc (a:1<=D):(aQ prog D).new 0 [.v (nV n),.v (nV l),.v (dJ r),.v (.int i)] σ=S (.v (.obj 0 [(0,nV n),(1,nV l),(2,dJ r),(3,.int i),(4,.none),(5,.int 0),(6,.int 0)]),σ):=Fe a rfl rfl rfl rfl rfl (dU (aa rfl) (aa rfl) rfl (dU (aa rfl) (aa rfl) rfl (dU (aa rfl) (aa rfl) rfl (dU (aa rfl) (aa rfl) rfl (dU (aa rfl) (aa rfl) rfl (dU (aa rfl) (aa rfl) rfl (dU (aa rfl) (aa rfl) rfl (bk ⟨_,Nh rfl⟩))))))))
theorem agx (b:1<=D):(aQ prog D).call 13 [.v (dJ l),.v (nV nT)] σ=S (.v (.int (pS nT l)),σ):=by
 refine ec b rfl rfl rfl rfl λT c=>bz aP (d8 nV l (λdone Z=>∀j σ,Z [S _,S _,S (.v (.int (pS nT done))),j] σ) (c7 (aa rfl) rfl) (λZ a=>a _ _) ?_ ?_)
 . intro done x rest Z a k j σ
   have e:pS nT (done++ [x])=if x<nT then(x:Int)else pS nT done:=by rewrite[pS];rw[g8];rfl
   refine bt rfl (jV (br (aa rfl) (aa rfl) pM) (λq=> ?_) (λq=> ?_) λ_ _ h=>bk h)
   . rw[e,if_pos (of_decide_eq_true q)]at a
     exact bz (aa rfl) (bk (a _ _))
   . rw[e,if_neg (of_decide_eq_false q)]at a
     exact bk (a _ _)
 exact λj σ=>cb (aa rfl) (c (c8 rfl))
theorem agy:∀(l:List _) (k r:Nat) (p:Nat×List _),l[r]?=S p->pR k (l.take (r+1))=pR k (l.take r)++ .replicate (p.2.length+1) (k+r):=by
 intro a
 induction a with
 |nil=>exact λ_ _ _ h=>nomatch h
 |cons q l b=>
  intro k r p h
  cases r with
  |zero=>cases h;rw[Pd];exact dg _
  |succ r=>rw[Pd,Pd,FA,FA];rewrite[b _ r p h];rw[bM _ _ _,k.add_right_comm 1 r];rfl
theorem agz:∀(l:List _) (k:Nat),(pR k l).length=(l.map λp=>p.2.length+1).sum:=by
 intro a
 induction a with
 |nil=>
  exact λ_=>rfl
 |cons q l b=>
  intro k
  rw[FA,aY,AM,b _];rfl
def nN (G:Gm)(k:Nat):List Nat:=pR 0 (G.rs.take k)
theorem Bx:(nN G k).length=off G k:=agz _ _
def i_ (G:Gm)(k:Nat):List (Nat×Nat):=(List.range k).map λr=>(lhs G r,r)
theorem Pe:sel (i_ G k) x=(List.range k).filter λr=>lhs G r==x:=by
 rw[sel,i_,yqF];exact Zrr b4 ((vb λa _=>rfl).trans (List.map_id _))
def GP (G:Gm):List (Nat×X):= [(7,.v (.lst (G.fG.map .str))),(8,.v (nV G.nT)),(9,.v (.lst ((List.range (nR G)).map (fH G)))),(10,.v (.aU .str [])),(11,.v .none),(12,.v (nV (G.nT+1))),(13,.ref (1+nS G)),(14,.ref (1+nS G+1)),(15,.ref (1+nS G+2))]
def iN (G:Gm)(k:Nat):Hp:= .obj 1 (GP G)::
 ((eN (nS G) (i_ G k)).map cN++ [.lst ((List.range (nS G)).map λs=> .ref (1+s)),cN ((List.range k).map (off G)),cN (nN G k)])
theorem vc:(iN G k)[1+nS G+i]?= [.lst ((List.range (nS G)).map λs=> .ref (1+s)),cN ((List.range k).map (off G)),cN (nN G k)][i]?:=by
 rewrite[iN];rw[show 1+nS G+i=nS G+i+1 by exact Um];refine Zrr (iE (by rw[aq _,jt];exact dO _ _)) ?_;rw[aq _,jt,l7 _ _];rfl
theorem Pf {k s}(h:s<nS G):(iN G k)[1+s]?=S (cN (sel (i_ G k) s)):=by
 rewrite[iN];rw[n4 1 s];refine Zrr (eQ (by rw[aq _];exact Zrr jt h)) ?_;rw[bw,Bo h];rfl
theorem agA (w:WF G){k}(hk:k<nR G):(((iN G k).set (1+lhs G k) (cN (sel (i_ G k) (lhs G k)++ [k]))).set (1+nS G+1) (cN ((List.range k).map (off G)++ [off G k]))).set (1+nS G+2) (cN (nN G k++ .replicate ((rhs G k).length+1) k))=iN G (k+1):=by
 have a:i_ G (k+1)=i_ G k++ [(lhs G k,k)]:=by rewrite[i_];rw[kI,bK];rfl
 have b:(List.range (k+1)).map (off G)=(List.range k).map (off G)++ [off G k]:=by rw[kI,bK];rfl
 have c:nN G (k+1)=nN G k++ .replicate ((rhs G k).length+1) k:=by rewrite[nN];rw[agy _ _ _ _ (nz hk),fb _];rfl
 rw[iN,iN,a,b,c,OY.symm,show 1+lhs G k=lhs G k+1 by exact Uv,show 1+nS G+1=nS G+1+1 by exact Uw,show 1+nS G+2=nS G+2+1 by exact Ux]
 have h0:((eN (nS G) (i_ G k)).map cN).length=nS G:=by rw[aq _,jt];rfl
 rw[Bj,Bj,Bj];refine Zrr (ynZ _ _ (Zrr h0 (w.jY hk).2)) (Zrr (w_ _ _ (by rw[Bk,h0];exact dO _ _)) (Zrr (w_ _ _ (by rw[Bk,h0];exact dO _ _)) ?_));rw[Bk,h0,l7 _ _,l7 _ _,xI]
 rfl
theorem agB {a}(h:σ[n]?=S (.lst xs))(hl:xs.length+a.length<aE):gJ σ .extend (.ref n) [.v (.lst a)]=S (.v .none,σ.set n (.lst (xs++a.map .v))):=aJ h (b8 hl)
theorem GQ (h:σ[n]?=S (cN l))(hl:l.length<aE):gJ σ .append (.ref n) [.v (nV a)]=S (.v .none,σ.set n (cN (l++ [a]))):=by
 refine Zrr (i7 h (by rw[aq _];assumption)) ?_;rewrite[cN];rw[bK];rfl
theorem agC (h:σ[n]?=S (cN l))(hl:l.length+m.length<aE):gJ σ .extend (.ref n) [.v (.lst (m.map nV))]=S (.v .none,σ.set n (cN (l++m))):=by
 refine Zrr (agB h (by rw[aq _,aq _,aq _];assumption)) ?_;rewrite[cN];rw[bK,bK];rfl
theorem Pg (h:σ[n]?=S (cN l))(hl:l.length<aE):cB σ .len (.ref n)=S (.val (nV l.length)):=by
 refine eC ((pN h).trans ?_) hl
 rw[aq _,aq _];rfl
theorem agD {a:V}:∀m,(List.replicate m [a]).flatten= .replicate m a:=by simp
theorem agE {n m}(h:m<aE):cV .mul (.lst [nV n]) (nV m)=S (.lst ((List.replicate m n).map nV)):=by
 refine(b8 ⟨qK _,by simpa using h,by exact_mod_cast h⟩).trans (congrArg _ (congrArg _ ?_))
 rw[yoR,agD _];rfl
theorem WF.Ph (w:WF G){k}(h:k<=nR G):off G k<=28:=by
 have:=w.Nw k
 have:=w.nr
 exact TR h ‹_› this
theorem Pj {k n}{σ a}{xs}{vs}(h:σ[n]?=S (.lst xs))(m:jD (fz k) (σ.set n .dead) xs=S (vs,a)):fz (k+1) σ (.ref n)=S (.lst vs,a):=(oN h).trans (bP m)
theorem agF (w:WF G)(hD:1<=D):(aQ prog D).new 1 [.v (.lst (G.fG.map .str)),.v (nV G.nT),.v (.lst ((List.range (nR G)).map (fH G))),.v (.aU .str []),.v .none,.v (nV (G.nT+1))] σ=S (.v (vG G),σ):=by
 refine Fe hD rfl rfl rfl rfl rfl ?_
 have hS:nS G<aE:=aw (by have:=w.big;exact bx this (by decide))
 have hr:=w.nr
 refine dU (aa rfl) (aa rfl) rfl (dU (aa rfl) (aa rfl) rfl (dU (aa rfl) (aa rfl) rfl (dU (aa rfl) (aa rfl) rfl (dU (aa rfl) (aa rfl) rfl (dU (aa rfl) (aa rfl) rfl ?_)))))
 refine dU (GL (c7 (a_ (aa rfl) rfl) rfl) (by rw[aq _];rfl) hS) (aa rfl) rfl ?_
 have eg:(eN (nS G) []).map cN=(eN (nS G) (i_ G 0)).map cN:=rfl
 have lg:((eN (nS G) []).map cN).length=nS G:=by rw[aq _,jt];rfl
 have L1:∀c d:Cell,(c::((eN (nS G) []).map cN++ [d])).length=1+nS G+1:=λc d=>by rw[jG,aY,lg,ed];exact Q3
 have L2:∀c d e:Cell,(c::((eN (nS G) []).map cN++ [d])++ [e]).length=1+nS G+2:=λc d e=>by rw[aY,L1 _ _];rfl
 refine dU ((iG aA (aw (eM _))).trans (congrArg (λn=>S (X.ref n,_)) (L1 _ _))) (aa rfl) rfl ?_
 refine dU ((iG aA (aw (eM _))).trans (congrArg (λn=>S (X.ref n,_)) (L2 _ _ _))) (aa rfl) rfl ?_
 refine d8 (fH G) (List.range (nR G)) (λdone Z=>∀U,Z [S (.ref 0),S (.v (.lst (G.fG.map .str))),S (.v (nV G.nT)),S (.v (.lst ((List.range (nR G)).map (fH G)))),S (.v (.aU .str [])),S (.v .none),S (.v (nV (G.nT+1))),U,J] (iN G done.length)) (c7 (a_ (aa rfl) rfl) rfl) ?_ ?_ ?_
 . intro Z u
   refine kq (u _) ?_
   show _::(((eN (nS G) []).map cN++ [Cell.lst ((List.range (eN (nS G) []).length).map λs=> .ref (1+s))])++ [Cell.lst []]++ [Cell.lst []])=_
   rewrite[iN];rw[jt,bM _ _ _,bM _ _ _]
   rfl
 . intro done k rest Z u hd U
   (refine au (Nd hd) λO hk=> ?_;obtain rfl:=O)
   rw[aY,ed,cP]at u
   rw[cP]
   have hw:=w.jY hk
   have hl:=w.len hk
   have g1:=vc (G:=G) (k:=k) (i:=0)
   have y:=vc (G:=G) (k:=k) (i:=1)
   have o:=vc (G:=G) (k:=k) (i:=2)
   have q:=Pf (k:=k) hw.2
   have I:=w.Ph (b_ hk)
   have sl:(sel (i_ G k) (lhs G k)).length<=k:=by
    have h:((List.range k).filter λr=>lhs G r==lhs G k).length<=(List.range k).length:=jZ _ _
    rw[Pe];rwa[cP]at h
   refine bt rfl ?_
   have i1:bZ (iN G k) (.ref (1+nS G)) (nV (lhs G k))=S (.ref (1+lhs G k)):=lx g1 (gY hw.2 hS) (by(rw[bw,iI hw.2]);rfl)
   refine fF (d7 (bu (a_ (aa rfl) rfl) (a_ (aa rfl) FC) i1) (gy q) (aj (a_ (aa rfl) Nx) aA) (GQ q (aw (dw (ee (bx sl hk) hr) (by decide))))) ?_
   have L:((iN G k).set (1+lhs G k) (cN (sel (i_ G k) (lhs G k)++ [k])))[1+nS G+1]?=S (cN ((List.range k).map (off G))):=by refine Zrr (dG (Q4 hw)) ?_;exact y
   have Q:((iN G k).set (1+lhs G k) (cN (sel (i_ G k) (lhs G k)++ [k])))[1+nS G+2]?=S (cN (nN G k)):=by refine Zrr (dG (Q5 hw)) ?_;exact o
   have Y:ef ((iN G k).set (1+lhs G k) (cN (sel (i_ G k) (lhs G k)++ [k]))) (.ref 0) 14=S (.ref (1+nS G+1)):=by rw[n4 1 _];rfl
   have a15:ef ((iN G k).set (1+lhs G k) (cN (sel (i_ G k) (lhs G k)++ [k]))) (.ref 0) 15=S (.ref (1+nS G+2)):=by rw[n4 1 _];rfl
   refine fF (d7 (a_ (aa rfl) Y) (gy L) (aj (cw (a_ (aa rfl) a15) (Pg Q (by rw[Bx];exact aw (bx I (by decide))))) aA) (GQ L (by(rw[aq _,cP]);exact aw (dw (ee hk hr) (by decide))))) ?_
   rw[Bx]
   have Pl:(((iN G k).set (1+lhs G k) (cN (sel (i_ G k) (lhs G k)++ [k]))).set (1+nS G+1) (cN ((List.range k).map (off G)++ [off G k])))[1+nS G+2]?=S (cN (nN G k)):=by refine Zrr (dG (q9)) ?_;exact Q
   have agG:ef (((iN G k).set (1+lhs G k) (cN (sel (i_ G k) (lhs G k)++ [k]))).set (1+nS G+1) (cN ((List.range k).map (off G)++ [off G k]))) (.ref 0) 15=S (.ref (1+nS G+2)):=by rw[n4 1 (lhs G k),ET 1 (nS G) 1,(n4 (1+1)) _];rfl
   have e2:∀σ,cB σ .len (.v (.tup ((rhs G k).map nV)))=S (.val (nV (rhs G k).length)):=λσ=>eC (congrArg S (aq _)) (aw (bx hl (by decide)))
   refine fF (d7 (a_ (aa rfl) agG) (gy Pl) (aj (b9 (fS (xs:= [.v (nV k)]) (vs:= [nV k]) (aj (a_ (aa rfl) Nx) aA) (aw (by simp)) rfl) (b9 (cw (a_ (aa rfl) xN) (e2 _)) aP (@nq _ 1)) (agE (aw (q5 hl)))) aA) (agC Pl (by(rw[Bx,AM]);exact aw (Q6 hl I)))) (bk (kq (u _) (agA w hk)))
 . intro U
   rw[cP]
   have o:=vc (G:=G) (k:=nR G) (i:=2)
   have I:=w.Ph (ba _)
   have eo:nN G (nR G)=ma G:=by rewrite[nN,nR];rw[Pm];rfl
   refine dU (cw (a_ (aa rfl) rfl) (Pg o (by rw[Bx];exact aw (bx I (by decide))))) (aa rfl) rfl (bk ?_)
   rw[eo]
   have go:=vc (G:=G) (k:=nR G) (i:=0)
   have y:=vc (G:=G) (k:=nR G) (i:=1)
   have q:=λs=>Pf (G:=G) (k:=nR G) (s:=s)
   rw[eo]at o
   generalize hH:iN G (nR G)=H at go y o q
   refine tL (Gx (A:=Nat) (B:=Unit) (g:=fz 6) (λs=>X.ref (1+s)) (λs=>V.lst ((fu G s).map nV))
    (λl σ=>l.Nodup/\(∀s∈l,s<nS G/\σ[1+s]?=S (cN (fu G s)))/\σ[1+nS G+1]?=S (cN ((List.range (nR G)).map (off G)))/\σ[1+nS G+2]?=S (cN (ma G)))
    (λa rest σ zq=>mB zq λh1 h2 h3 h4=>by
     have ha:=h2 a cT
     refine⟨_,(oN ha.2).trans (bP (xC _ _ _)),(kB.mp h1).2,λs b=> ?_,?_,?_⟩
     . have:s≠a:=λe=>(kB.mp h1).1 (e▸b)
       have hb:=h2 s (dA _ b)
       exact⟨hb.1,by refine Zrr (dG (by lia)) ?_;exact hb.2⟩
     . refine Zrr (dG (Q7 ha)) ?_;exact h3
     . refine Zrr (dG (Q8 ha)) ?_;exact h4) (List.range (nS G)) (((H.set 0 (.obj 1 (lO 16 (.v (nV (ma G).length)) (GP G)))).set 0 .dead).set (1+nS G) .dead) ⟨F4,λs b=>by
     have b:=gu.mp b
     refine⟨b,?_⟩
     refine Zrr (dG (Q9 b)) ?_;refine Zrr (dG (q2)) ?_;refine Zrr (dG (q2)) ?_;rw[q s b,Pe];rfl,by refine Zrr (dG (Q_)) ?_;refine Zrr (dG (HH)) ?_;refine Zrr (dG (HH)) ?_;exact y,by refine Zrr (dG (Ra)) ?_;refine Zrr (dG (HI)) ?_;refine Zrr (dG (HI)) ?_;exact o⟩) λaf m1 _ _ L Q=> ?_
   refine⟨_,(oN (c:= .obj 1 (lO 16 (.v (nV (ma G).length)) (GP G))) (oj (by rw[hH.symm];exact eM _))).trans (bP (a:=([(7,.lst (G.fG.map .str)),(8,nV G.nT),(9,.lst ((List.range (nR G)).map (fH G))),(10,.aU .str []),(11,.none),(12,nV (G.nT+1)),
    (13,.lst ((List.range (nS G)).map λx=> .lst ((fu G x).map nV))),(14,.lst ((List.range (nR G)).map λr=>nV (off G r))),(15,.lst ((ma G).map nV)),(16,nV (ma G).length)],(af.set (1+nS G+1) .dead).set (1+nS G+2) .dead)) ?_)⟩
   refine iK (jX _ _ _) (iK (jX _ _ _) (iK (jX _ _ _) (iK (jX _ _ _) (iK (jX _ _ _) (iK (jX _ _ _) (iK (a:= .lst ((List.range (nS G)).map λx=> .lst ((fu G x).map nV))) (Pj ?_ m1) (iK (a:= .lst ((List.range (nR G)).map λr=>nV (off G r))) ?_ (iK (a:= .lst ((ma G).map nV)) (Pj ?_ (xC _ _ _)) (iK (jX _ _ _) rfl)))))))))
   . refine Zrr (dG (q2)) ?_;refine Zrr (dG (q2)) ?_;exact go
   . refine((oN L).trans (bP (xC _ _ _))).trans ?_
     rw[b4];rfl
   . refine Zrr (dG (q9)) ?_;exact Q
def jv (c:Cell):Prop:=∃a b:Int,0<=a/\0<=b/\c= .lst [.v (.int a),.v (.int b)]
noncomputable def NM (n:Nat):List (List Nat):= [[83],[84],[85]].take n
noncomputable def AB:List (List Nat):= [[97],[98]]
noncomputable def gT (p:List Nat×List (List Nat)):V:= .tup [.str p.1,.tup (p.2.map .str)]
abbrev Ps:=List (List Nat×List (List Nat))
structure Dr (n:Nat)(ps:List (List Nat×List (List Nat))):Prop where
 n1:1<=n
 n3:n<=3
 parts:∃base more,ps=base++more/\base.map (·.1)=NM n/\(∀p∈base,p.2.length<=2/\∀s∈p.2,s∈AB)/\∀p∈more,p.1∈NM n/\p.2.length<=3/\∀s∈p.2,s∈NM n++AB++NM n
 len:ps.length<=6
theorem Pn {x y z}(h:σ[p]?=S (.lst [x,y])):mM σ (.ref p) (.int 0) z=S (σ.set p (.lst [z,y])):=xG h (eM _) (aw (by simp))
theorem agH {x y z}(h:σ[p]?=S (.lst [x,y])):mM σ (.ref p) (.int 1) z=S (σ.set p (.lst [x,z])):=xG h (jc 1) (aw (by simp))
theorem GR (h:σ[p]?=S (.lst [x,y])):bZ σ (.ref p) (.int 0)=S x:=lx h (aw (by simp)) rfl
theorem Po {x y}(h:σ[p]?=S (.lst [x,y])):bZ σ (.ref p) (.int 1)=S y:=lx h (aw (by simp)) rfl
theorem set_same (h:σ[p]?=S c):σ.set p c=σ:=by
 refine gP λi=> ?_
 rw[rH]
 by_cases e:p=i
 . subst e;rw[if_pos rfl,if_pos (dB h),h];rfl
 . rw[if_neg e];rfl
theorem GU (h:a.natAbs<2^62\/b.natAbs<2^62):cV .mul (.int a) (.int b)=S (.int (a*b)):=congrArg (Option.map _) (b8 h)
theorem yd {c}(H:jv c)(o:σ[p]?=S c)(I:0<m)(h2:m<1000)(L:1<=D):∃d k,d<m/\jv k/\(aQ prog D).call 44 [.ref p,.v (nV m)] σ=S (.v (nV d),σ.set p k):=by
 refine bo H λa b ha hb O=> ?_;subst O
 refine dh (Ff (f:=44) (ρ:= [S (.ref p),S (.v (nV m)),J]) (as:= [.ref p,.v (nV m)])
  (K:=λx u=>∃d k,d<m/\jv k/\x= .v (nV d)/\u=σ.set p k) L rfl rfl rfl (λT Q=>by
  have hl:=dB o
  refine tc (λZ=>∀a b,0<=a->0<=b->Z [S (.ref p),S (.v (nV m)),J] (σ.set p (.lst [.v (.int a),.v (.int b)]))) (br (bu (aa rfl) aP (GR o)) aP aeA) (λZ r q=> ?_) (λZ r q=> ?_) ?_
  . have s1:(σ.set p (.lst [.v (.int a),.v (.int (b+1))]))[p]?=S (.lst [.v (.int a),.v (.int (b+1))]):=oj hl
    refine jU (b9 (bu (aa rfl) aP (Po o)) aP rfl) (aa rfl) aP (agH o) (jU (b9 (b9 aP (bu (aa rfl) aP (Po s1)) (GU (.inl (by decide)))) aP rfl) (aa rfl) aP (Pn s1) (bk (kq (r (1009* (b+1)+5419) (b+1) (by lia) (by lia)) (by simp))))
  . exact bk (kq (r a b ha hb) (set_same o).symm)
  exact λa b ha hb=>have s1:(σ.set p (.lst [.v (.int a),.v (.int b)]))[p]?=S (.lst [.v (.int a),.v (.int b)]):=oj hl;bz (b9 (bu (aa rfl) aP (GR s1)) (aa rfl) (by
   refine(congrArg (Option.map V.int) (b8 (by lia))).trans (congrArg S (congrArg V.int (Zrr (Int.fmod_eq_emod_of_nonneg _ (by lia)) ?_)));rw[Int.natCast_emod _ _,Y0 ha];rfl)) (jU (b9 (bu (aa rfl) aP (GR s1)) (aa rfl) (by
   exact congrArg (Option.map V.int) (b8 (by lia)))) (aa rfl) aP (Pn s1) (cb (aa rfl) (Q ⟨a.toNat%m,_,Nat.mod_lt _ I,⟨a.fdiv m,b,Zrr (W2 _ (by lia)) Int.ediv_nonneg ha (by lia),hb,rfl⟩,rfl,by simp⟩))))) λx u h y=>o5 y λd k U Y O ax=> ?_;clear y;subst O;subst ax
 exact⟨d,k,U,Y,h⟩
theorem agI {c}{xs}(u:jv c)(y:σ[p]?=S c)(H:0<xs.length)(k:xs.length<1000)(o:2<=D):∃x b,x∈xs/\jv b/\(aQ prog D).call 45 [.ref p,.v (.lst xs)] σ=S (.v x,σ.set p b):=by
 refine bo (yd u y H k (dH o)) λd b q I hr=> ?_
 obtain ⟨a,ha⟩:∃a,xs[d]?=S a:=⟨_,dr q⟩
 refine bo (AF (f:=45) (ρ:= [S _,S _]) (as:= [.ref p,.v _])
  (K:=λx r=>x= .v a/\r=σ.set p b) (dE o) rfl rfl rfl (have L:=eC rfl (aw (dw k (by decide)));cb (bu (aa rfl) (c6 (aj (aa rfl) (aj (cw (aa rfl) L) aA)) hr) (jq (aw (dw (dw q k) (by decide))) ha)) ⟨rfl,rfl⟩)) λx r h O Q=> ?_;subst O;subst Q
 exact⟨a,b,eX ha,I,h⟩
theorem picks {xs:List _}(h1:0<xs.length)(h2:xs.length<1000){f:V->Hp->Option (X×Hp)}
 (hf:∀a c σ,jv c->σ[p]?=S c->∃x b,x∈xs/\jv b/\f a σ=S (.v (.str x),σ.set p b)):
 ∀(q:List V) (c:Cell) (σ:Hp),jv c->σ[p]?=S c->∃(k:List _) (b:Cell),k.length=q.length/\(∀y∈k,y∈xs)/\jv b/\mO f q σ=S ((k.map .str).map .v,σ.set p b):=by
 intro H
 induction H with
 |nil=>
  exact λc σ r o=>⟨[],c,rfl,(λ_ h=>nomatch h),r,by
   rw[set_same o];rfl⟩
 |cons a q I=>
  refine λc σ r o=>bo (hf a c σ r o) λx L hx O Q=>o5 (I L _ O (oj (dB o))) λk U hl hm Y u=>⟨_,U,by rw[jG,hl];rfl,λy hy=>(cy.mp hy).elim (λe=>e▸hx) (hm y),Y,?_⟩
  rw[lX]at u
  exact aJ Q (bP u)
theorem GW {xs:List _}(u:0<xs.length)(y:xs.length<1000)(b:2<=D){c}(k:jv c)(o:σ[p]?=S c):∃x a,x∈xs/\jv a/\(aQ prog D).call 45 [.ref p,.v (.lst (xs.map .str))] σ=S (.v (.str x),σ.set p a):=by
 refine bo (agI k o (xs:=xs.map .str) (by rw[aq _];assumption) (by rw[aq _];assumption) b) λx a hx q e=>ah (bX.mp hx) λs r O=> ?_;subst O
 exact⟨s,a,r,q,e⟩
theorem agJ {ns:List _}(hn:ns.length<=63)(q:1<=D):∃c,jv c/\(aQ prog D).call 43 [.v (.lst (ns.map .int))] []=S (.ref 0,[c]):=by
 refine dh (Ff (f:=43) (as:= [.v _]) (σ:= [])
  (K:=λx k=>∃c,jv c/\x= .ref 0/\k= [c]) q rfl rfl rfl λT r=>bz aP (d8 _ ns (λ_ Z=>∀a j,0<=a->Z [S (.v (.lst (ns.map .int))),S (.v (.int a)),j] []) (c7 (pI (aa rfl) aP (by
   refine(b8 (aw (by rw[aq _];exact bx hn (by decide)))).trans ?_
   rewrite[f_];rfl
   rw[aq _]
   show ns.length<=min 63 _
   exact Uy hn)) rfl) (λZ b=>b 7 _ (by simp)) (λdone n rest Z b I a j ha=>have u:cB [] .abs (.v (.int n))=S _:=rfl;bt rfl (bz (b9 (b9 (b9 (aa rfl) aP (GU (.inr (by simp)))) (b9 aP (cw (cw (aa rfl) rfl) u) (GU (.inl (by simp)))) rfl) (cw (br (aa rfl) aP rfl) rfl) rfl) (bk (b _ _ (by lia))))) λa j ha=>cb (iG (aj (aa rfl) (aj aP aA)) (aw (by simp))) (r ⟨_,⟨a,0,ha,by decide,rfl⟩,rfl,rfl⟩))) λx k h o=>cD o λc y O H=> ?_;clear o;subst O;subst H
 exact⟨c,y,h⟩
theorem Pp {a:List _}(h:a.length<1000):(a.map gT).length<aE:=by rw[aq _];exact aw (dw h (by decide))
theorem Pq {a:List _}(h:a.length<1000):cB σ .tuple (.v (.lst (a.map .str)))=S (.val (.tup (a.map .str))):=xH (by rw[aq _];exact aw (dw h (by decide)))
theorem agK {c:Cell}(hc:jv c)(hD:3<=D):∃n r b,Dr n r/\(aQ prog D).call 46 [.ref 0] [c]=S (.ref 1,[b,cL (r.map gT)]):=by
 have u:=dH hD
 ((refine dh (Ff (f:=46) (as:= [.ref 0])
  (K:=λx Q=>∃n r b,Dr n r/\x= .ref 1/\Q= [b,cL (r.map gT)]) (dE hD) rfl rfl rfl (λT hT=>by
  refine bo (yd (σ:= [c]) (p:=0) (m:=3) hc rfl (by decide) (by decide) (bp (by decide) u)) λd c1 hd wC e1=> ?_
  have hn:∃n,1<=n/\n<=3/\cV .add (.int 1) (nV d)=S (nV n)/\mJ (.lst [.str [83],.str [84],.str [85]]) (nV n)=S (.lst ((NM n).map .str))/\(NM n).length=n:=by
   have:d=0\/d=1\/d=2:=by lia
   rcases this with rfl|rfl|rfl
   . exact⟨1,by decide,by decide,rfl,rfl,rfl⟩
   . exact⟨2,by decide,by decide,rfl,rfl,rfl⟩
   . exact⟨3,by decide,by decide,rfl,rfl,rfl⟩
  refine tL hn λn m9 o b1 s1 q=> ?_;clear hn
  refine bz (pI (fS (aj aP (aj aP (aj aP aA))) (aw (by simp)) rfl) (b9 aP (c6 (aj (aa rfl) (aj aP aA)) e1) b1) s1) ?_
  refine bz (iG aA (aw (eM _))) ?_
  refine d8 V.str (NM n) (λdone Z=>∀(base:Ps) (b:Cell) (y:Option X),base.map (·.1)=done->(∀p∈base,p.2.length<=2/\∀s∈p.2,s∈AB)->jv b->Z [S (.ref 0),S (.v (.lst ((NM n).map .str))),S (.ref 1),y,J,J,J,J] [b,cL (base.map gT)]) (c7 (aa rfl) rfl) ?_ ?_ ?_
  . intro Z H
    exact H [] c1 _ rfl (λ_ h=>(nomatch h)) wC
  . intro done s rest Z H hsp base I y hb qT U
    have Bz:base.length<=3:=by
     have h1:=congrArg List.length hb
     have h2:=congrArg List.length hsp
     rw[aq]at h1
     rw[aY,q]at h2
     lia
    refine bo (yd (σ:= [I,cL (base.map gT)]) (p:=0) (m:=3) U rfl (by decide) (by decide) (bp (by decide) u)) λd2 Y qQ ye e2=> ?_
    refine o5 (picks (p:=0) (xs:=AB) (by decide) (by decide) (f:=λa Q=>(bV (.one 6) a [S (.ref 0),S (.v (.lst ((NM n).map .str))),S (.ref 1),S (.v (.str s)),J,J,J,J]).bind λρ'=>az (aQ prog (D - 1)) (.call 45 (.cons (.var 0) (.cons (.lst ae (.cons (.cst (.str [97])) (.cons (.cst (.str [98])) .nil))) .nil))) ρ' Q)
     (λa c σ hc k=>by
      refine bo (GW (D:=D - 1) (p:=0) (xs:=AB) (by decide) (by decide) u hc k) λx b hx hJ e=> ?_
      exact⟨x,b,hx,hJ,aJ (a:= [S (.ref 0),S (.v (.lst ((NM n).map .str))),S (.ref 1),S (.v (.str s)),J,J,S (.v a),J]) rfl (c6 (aj (aa rfl) (aj (fS (aj aP (aj aP aA)) (aw (by simp)) rfl) aA)) e)⟩)
     ((List.range d2).map nV) Y [Y,cL (base.map gT)] ye rfl) λL c4 yf GX GY e3=> ?_
    rw[aq,cP]at yf
    refine bt rfl (fF (d7 (aa rfl) (gy rfl) (aj (eY (xs:= [.v (.str s),.v (.tup (L.map .str))]) (aj (aa rfl) (aj (cw (jm (pO (c6 (aj (aa rfl) (aj aP aA)) e2) (aw (dw qQ (by decide)))) e3 (by(rw[aq _,aq _,yf]);exact aw (dw qQ (by decide))) (fT _)) (Pq (by lia))) aA)) (aw (by simp)) rfl) aA) (i7 (l:=base.map gT) rfl (Pp (bx Bz (by decide))))) (bk (kq (H (base++ [(s,L)]) c4 _ ?_ ?_ GY) ?_)))
    . rw[bK,hb];rfl
    . intro p k
      rcases b5.mp k with k|k
      . exact qT p k
      . rw[dm.mp k]
        exact⟨by show L.length<=2;lia,GX⟩
    . rw[bK];rfl
  . intro base I y hb qT U
    have Bz:base.length=n:=by
     have h1:=congrArg List.length hb
     rwa[aq,q]at h1
    have bl:∀σ,cB σ .len (.v (.lst ((NM n).map .str)))=S (.val (nV n)):=λσ=>eC ((congrArg S (aq _)).trans (by(rw[q];rfl))) (aw (bx o (by decide)))
    have b6:cV .sub (.int 6) (nV n)=S (nV (6 - n)):=AG (a:=6) (b_ (bx o (by decide)))
    refine bo (yd (D:=D - 1) (σ:= [I,cL (base.map gT)]) (p:=0) (m:=6 - n) U rfl (TU o) (TX) (bp (by decide) u)) λd2 Y qQ ye e2=> ?_
    have b7:cV .add (.int 1) (nV d2)=S (nV (1+d2)):=nq (a:=1)
    refine uV nV (1+d2) (λi Z=>∀(more:Ps) (b:Cell) (y:Option X) (j4:Option X) (j5:Option X),more.length=i->(∀p∈more,p.1∈NM n/\p.2.length<=3/\∀s∈p.2,s∈NM n++AB++NM n)->jv b->Z [S (.ref 0),S (.v (.lst ((NM n).map .str))),S (.ref 1),y,j4,j5,J,J] [b,cL ((base++more).map gT)])
     (pO (b9 aP (c6 (aj (aa rfl) (aj (b9 aP (cw (aa rfl) (bl _)) b6) aA)) e2) b7) (aw (TY qQ))) ?_ ?_ ?_
    . intro Z H
      exact kq (H [] Y _ _ _ rfl (λ_ h=>(nomatch h)) ye) (by rw[dg _];rfl)
    . intro i Z H hi more I y j4 j5 p8 GZ U
      refine bo (GW (D:=D - 1) (σ:= [I,cL ((base++more).map gT)]) (p:=0) (xs:=NM n) (TZ m9 q) (bx (iP (aN q) o) (by decide)) u U rfl) λs Y hs ye e3=> ?_
      refine bo (yd (D:=D - 1) (σ:= [Y,cL ((base++more).map gT)]) (p:=0) (m:=4) ye rfl (by decide) (by decide) (bp (by decide) u)) λm c4 hm GY e4=> ?_
      refine bt rfl (AE (aj (c6 (aj (aa rfl) (aj (aa rfl) aA)) e3) (aj (c6 (aj (aa rfl) (aj aP aA)) e4) aA)) rfl ?_)
      generalize jw:nV m=mv
      generalize hiv:nV i=iv
      have ll:(NM n++AB++NM n).length=n+2+n:=by rw[aY,aY,q];rfl
      have a1:cV .add (.lst ((NM n).map .str)) (.lst [.str [97],.str [98]])=S (.lst ((NM n++AB).map .str)):=by
       refine Zrr (nu (by(rw[aq _,q]);exact aw (by show n+2<_;exact HQ o))) ?_;rw[bK];rfl
      have a2:cV .add (.lst ((NM n++AB).map .str)) (.lst ((NM n).map .str))=S (.lst ((NM n++AB++NM n).map .str)):=by
       refine Zrr (nu (by(rw[aq _,aq _,aY,q]);exact aw (by show n+2+n<_;exact T3 o))) ?_;rw[bK (l₂:=NM n)];rfl
      refine o5 (picks (p:=0) (xs:=NM n++AB++NM n) (H0 ll) (H2 o ll) (f:=λa Q=>(bV (.one 7) a [S (.ref 0),S (.v (.lst ((NM n).map .str))),S (.ref 1),S (.v (.str s)),S (.v iv),S (.v mv),J,J]).bind λρ'=>az (aQ prog (D - 1)) (.call 45 (.cons (.var 0) (.cons (.bin ae .add (.bin ae .add (.var 1) (.lst ae (.cons (.cst (.str [97])) (.cons (.cst (.str [98])) .nil)))) (.var 1)) .nil))) ρ' Q)
       (λa c σ hc k=>by
        refine bo (GW (D:=D - 1) (p:=0) (xs:=NM n++AB++NM n) (H0 ll) (H2 o ll) u hc k) λx b hx hJ e=> ?_
        exact⟨x,b,hx,hJ,aJ (a:= [S (.ref 0),S (.v (.lst ((NM n).map .str))),S (.ref 1),S (.v (.str s)),S (.v iv),S (.v mv),J,S (.v a)]) rfl (c6 (aj (aa rfl) (aj (b9 (b9 (aa rfl) (fS (aj aP (aj aP aA)) (aw (by simp)) rfl) a1) (aa rfl) a2) aA)) e)⟩)
       ((List.range m).map nV) c4 [c4,cL ((base++more).map gT)] GY rfl) λL c5 yf GX hc5 e5=> ?_
      rw[aq,cP]at yf
      refine fF (d7 (aa rfl) (gy rfl) (aj (eY (xs:= [.v (.str s),.v (.tup (L.map .str))]) (aj (aa rfl) (aj (cw (jm (pO (n:=m) (aa (by rw[jw];rfl)) (aw (dw hm (by decide)))) e5 (by(rw[aq _,aq _,yf]);exact aw (dw hm (by decide))) (fT _)) (Pq (by lia))) aA)) (aw (by simp)) rfl) aA) (i7 (l:=(base++more).map gT) rfl (Pp (by rw[aY];exact T4 Bz qQ hi p8)))) (bk (kq (H (more++ [(s,L)]) c5 _ _ _ ?_ ?_ hc5) ?_))
      . rw[aY,p8];rfl
      . intro p k
        rcases b5.mp k with k|k
        . exact GZ p k
        . rw[dm.mp k]
          exact⟨hs,by show L.length<=3;lia,GX⟩
      . rw[(bM _ _ _).symm,(bK (l₁:=base++more))];rfl
    . intro more I y j4 j5 p8 GZ U
      exact cb (aa rfl) (hT ⟨n,base++more,I,⟨m9,o,⟨base,more,rfl,hb,qT,GZ⟩,by rw[aY];exact T5 Bz qQ p8⟩,rfl,rfl⟩))) λx Q h aF=> ?_;refine yy aF λn r b hd O ax=> ?_;clear aF);obtain rfl:=O;obtain rfl:=ax)
 exact⟨n,r,b,hd,h⟩
noncomputable def fK (acc:List (List Nat))(x:List Nat):List (List Nat):=if x∈acc then acc else acc++ [x]
def ve (n:Nat)(acc:List (List Nat))(x:List Nat):List (List Nat):=if x∉NM n/\x∉acc then acc++ [x]else acc
noncomputable def dQ:List (List Nat):= [[36,101,110,100],[101,114,114,111,114],[36,117,110,100,101,102,105,110,101,100]]
noncomputable def nP:List Nat:= [36,97,99,99,101,112,116]
def cC (n:Nat)(l:List (List Nat)):List (List Nat):=l.foldl (ve n) dQ
noncomputable def flat (a:Ps):List (List Nat):=a.flatMap (·.2)
def cA (n:Nat)(t:List (List Nat)):List (List Nat):=t++ [nP]++NM n
def cm (n:Nat)(a:Ps):Gm:=⟨cA n (cC n (flat a)),(cC n (flat a)).length,((cC n (flat a)).length,[(cC n (flat a)).length+1,0])::a.map λp=>((cA n (cC n (flat a))).idxOf p.1,p.2.map (cA n (cC n (flat a))).idxOf)⟩
theorem Pr:∀(l:List _) (c:List _),(∀x∈l,x∈NM n\/x∈AB)->c.Nodup->(∀x∈c,x∈AB)->(∀x∈AB,x∉NM n/\x∉dQ)->
 ∃o,l.foldl (ve n) (dQ++c)=dQ++o/\o.Nodup/\(∀x∈o,x∈AB)/\(∀x∈c,x∈o)/\∀x∈l,x∈NM n\/x∈o:=by
 intro l0
 induction l0 with
 |nil=>
  exact λc _ u H _=>⟨c,rfl,u,H,λ_ h=>h,λ_ h=>nomatch h⟩
 |cons x l Y=>
  intro c h1 u H I
  have hx:=h1 x cT
  have hl:=λy k=>h1 y (dA _ k)
  rw[kW];rewrite[ve]
  by_cases q:x∉NM n/\x∉dQ++c
  . rw[if_pos q];exact Zrr (bM _ _ _) (have xa:=hx.resolve_left q.1;tL (Y _ hl (qH.mpr ⟨u,by simp,λa ha b hb e=>q.2 (ij _ (by rw[dm.mp hb]at e;rw[e.symm];assumption))⟩) (λy k=>(b5.mp k).elim (H y) λh=>by rw[dm.mp h];assumption) I) λo L O Q r U=>⟨_,L,O,Q,λy k=>r y (fg _ k),λy k=>(cy.mp k).elim (λe=> .inr (r y (by rw[e];simp))) (U y)⟩)
  . refine Zrr (if_neg q) (tL (Y c hl u H I) λo L O Q r U=>⟨_,L,O,Q,r,λy k=>(cy.mp k).elim (λe=> ?_) (U y)⟩)
    subst e
    exact hx.elim .inl λhx=>have:=I y hx;.inr (r y (ylG λz=>q ⟨this.1,λw=>(b5.mp w).elim this.2 z⟩))
theorem agL (h:ts.Nodup)(a:∀x∈ts,x∈AB):ts= []\/ts= [[97]]\/ts= [[98]]\/ts= [[97],[98]]\/ts= [[98],[97]]:=by
 have hl:=nD h a
 have m:=λx hx=>by simpa [AB]using a x hx
 match ts,h,hl,m with
 | [],_,_,_=>exact .inl rfl
 | [x],_,_,m=>
  rcases m x (by simp)with rfl|rfl<;>simp
 | [x,y],h,_,m=>
  rcases m x (by simp)with rfl|rfl<;>rcases m y (by simp)with rfl|rfl<;>simp at h ⊢
 |_::_::_::_,_,hl,_=>exact absurd hl (by simp[AB])
structure Pt (n:Nat)(t:List (List Nat)):Prop where
 nd:(cA n t).Nodup
 ok:∀s∈cA n t,mI s=ab/\s.length<=10
 big:(cA n t).length<=9
 n0:(cA n t)[0]?=S [36,101,110,100]
 n1:(cA n t)[1]?=S [101,114,114,111,114]
 nA:(cA n t)[t.length]?=S nP
 nB:(cA n t)[t.length+1]?=S [83]
 tT:3<=t.length
 left:∀s∈NM n,t.length<(cA n t).idxOf s/\(cA n t).idxOf s<(cA n t).length
 low:∀s∈t,s∉dQ->1<(cA n t).idxOf s/\(cA n t).idxOf s<t.length
 all:∀j,j<n->∃s,(NM n)[j]?=S s/\(cA n t).idxOf s=t.length+1+j
 len:(cA n t).length=t.length+1+n
theorem le3 {n:Nat}(a:1<=n)(b:n<=3):n=1\/n=2\/n=3:=(by decide:∀n,n<4->1<=n->n=1\/n=2\/n=3) n (qS b) a
theorem agM (o:1<=n)(q:n<=3){a}(h:a= []\/a= [[97]]\/a= [[98]]\/a= [[97],[98]]\/a= [[98],[97]]):Pt n (dQ++a):=by
 have hn:n=1\/n=2\/n=3:=le3 o q
 refine Qy ((by decide+kernel:∀n∈ [1,2,3],∀a∈ [[],[[97]],[[98]],[[97],[98]],[[98],[97]]],(cA n (dQ++a)).Nodup/\(∀s∈cA n (dQ++a),s.all (λc=>decide (c<55296))=ab/\s.length<=10)/\(cA n (dQ++a)).length<=9/\
  (cA n (dQ++a))[0]?=S _/\(cA n (dQ++a))[1]?=S _/\(cA n (dQ++a))[(dQ++a).length]?=S _/\(cA n (dQ++a))[(dQ++a).length+1]?=S _/\3<=(dQ++a).length/\
  (∀s∈NM n,(dQ++a).length<(cA n (dQ++a)).idxOf s/\(cA n (dQ++a)).idxOf s<(cA n (dQ++a)).length)/\(∀s∈dQ++a,s∉dQ->1<(cA n (dQ++a)).idxOf s/\(cA n (dQ++a)).idxOf s<(dQ++a).length)/\
  (∀j,j<n->(NM n)[j]?=S ((NM n).getD j [])/\(cA n (dQ++a)).idxOf ((NM n).getD j [])=(dQ++a).length+1+j)/\(cA n (dQ++a)).length=(dQ++a).length+1+n) n (by simp;assumption) a (by simp;exact h)) λr b u x y H I L O Q U Y=>⟨r,λs k=>⟨?_,(b s k).2⟩,u,x,y,H,I,L,O,Q,λj hj=>⟨_,U j hj⟩,Y⟩
 have:=b s k
 exact Zrr (fY _ _) ⟨decide_eq_true (aw (bx this.2 (by decide))),this.1⟩
theorem Dr.syms {b:Ps}(d:Dr n b):(∀p∈b,p.1∈NM n/\p.2.length<=3)/\∀x∈flat b,x∈NM n\/x∈AB:=by
 refine o5 d.parts λbase more O o k c=> ?_;subst O
 exact⟨λp a=>(b5.mp a).elim (λa=>⟨o▸bX.mpr ⟨p,a,rfl⟩,by have:=(k p a).1;exact k9 ‹_›⟩) λa=>⟨(c p a).1,(c p a).2.1⟩,λx hx=>ah (oQ.mp hx) λp a hx=>(b5.mp a).elim (λa=> .inr ((k p a).2 x hx)) λa=>have:=(c p a).2.2 x hx;(b5.mp this).elim b5.mp .inl⟩
theorem BA:∀x∈AB,x∉NM n/\x∉dQ:=by
 refine λx hx=>⟨λh=> ?_,?_⟩
 . have:=oC h
   simp[AB]at hx
   rcases hx with rfl|rfl<;>simp at this
 . revert x;decide
theorem Dr.names {a:Ps}(d:Dr n a):Pt n (cC n (flat a))/\∀x∈flat a,x∈NM n\/x∈cC n (flat a)/\x∉dQ:=tL (Pr _ [] d.syms.2 Bh (λ_ h=>nomatch h) BA) λc k o b _ q=>Zrr (by rw[k.symm];rfl:cC n _=dQ++c) ⟨agM d.n1 d.n3 (agL o b),λx hx=>(q x hx).imp id λh=>⟨ij _ h,(BA (n:=n) x (b x h)).2⟩⟩
theorem G0 {n}{a:Ps}(d:Dr n a):WF (cm n a):=by
 refine au d.names λk hx=> ?_
 have hs:=d.syms
 have rl:∀r,0<r->r<nR (cm n a)->∃p∈a,lhs (cm n a) r=(cA n (cC n (flat a))).idxOf p.1/\rhs (cm n a) r=p.2.map (cA n (cC n (flat a))).idxOf:=λr h0 hr=>by
  obtain ⟨r,rfl⟩:∃r',r=r'+1:=⟨r - 1,(HK h0)⟩
  have h:=nz hr
  have h_:r<a.length:=by
   have:nR (cm n a)=a.length+1:=by show(_::_).length=_;simp
   exact RC hr this
  have e:(cm n a).rs[r+1]?=(a.map λp=>((cA n (cC n (flat a))).idxOf p.1,p.2.map (cA n (cC n (flat a))).idxOf))[r]?:=rfl
  rw[h,bw,dr h_,ua]at e
  have e:=je e
  exact⟨a[r],wO h_,congrArg Prod.fst e,congrArg Prod.snd e⟩
 refine⟨k.nd,k.ok,k.big,k.n0,k.n1,k.nA,k.nB,k.tT,rfl,?_,?_,?_⟩
 . intro r h0 hr
   refine cD (rl r h0 hr) λp H e1 c=> ?_
   have b:=k.left p.1 (hs.1 p H).1
   refine⟨e1▸b.1,e1▸b.2,by rw[c,aq _];exact(hs.1 p H).2,?_⟩
   intro x o
   rw[c]at o
   (refine ah (bX.mp o) λs u O=> ?_;obtain rfl:=O)
   show _<(cA n (cC n (flat a))).length/\_/\_/\_≠ (cC n (flat a)).length
   have tT:=k.tT
   rcases hx s (oQ.mpr ⟨p,H,u⟩)with h|h
   . have:=k.left s h
     exact RD tT this
   . have:=k.low s h.1 h.2
     have:=k.len
     exact RE b ‹_›
 . have:nR (cm n a)=a.length+1:=by show(_::_).length=_;simp
   have:=d.len
   exact RF ‹_› this
 . intro A b I
   refine o5 d.parts λbase more e hb L _=> ?_
   have hA:A - (cC n (flat a)).length - 1<n:=by
    have I:A<(cA n (cC n (flat a))).length:=I
    have b:(cC n (flat a)).length<A:=b
    have:=k.len
    exact RG I b this
   refine ah (k.all _ hA) λs Pu pB=> ?_
   rw[<-hb,bw]at Pu
   refine gX Pu λp Q BB=> ?_
   have hj:=dB Q
   have q:∀j,base[j]?=S p->a[j]?=S p:=λj h=>by rw[e,eQ (dB h),h];rfl
   have q:=q _ Q
   have hr:A - (cC n (flat a)).length - 1+1<nR (cm n a):=by
    have:nR (cm n a)=a.length+1:=by show(_::_).length=_;simp
    have:=dB q
    exact RH ‹_› this
   refine⟨_,hr,?_⟩
   have h:=nz hr
   have c:(cm n a).rs[A - (cC n (flat a)).length - 1+1]?=(a.map λp=>((cA n (cC n (flat a))).idxOf p.1,p.2.map (cA n (cC n (flat a))).idxOf))[A - (cC n (flat a)).length - 1]?:=rfl
   rw[h,bw,q,ua]at c
   have c:=je c
   have f1:=congrArg Prod.fst c
   have f2:=congrArg Prod.snd c
   dsimp only at f1 f2
   have b:(cC n (flat a)).length<A:=b
   refine⟨by(rw[f1,BB,pB]);exact RJ b,λx o=> ?_⟩
   rw[f2]at o
   (refine ah (bX.mp o) λy u O=> ?_;obtain rfl:=O)
   have U:=eX Q
   have Y:=(L p U).2 y u
   have x9:=eX q
   rcases hx y (oQ.mpr ⟨p,x9,u⟩)with h|h
   . exact absurd h (BA y Y).1
   . exact(k.low y h.1 h.2).2
theorem Pw (h:s∈cA n (cC n (flat a))):nm (cm n a) ((cA n (cC n (flat a))).idxOf s)=s:=by
 show(cA n _).getD _ []=s
 rewrite[List.getD];rw[dr (NU h),NV _];rfl
theorem BC {l:List _}(hx:mI x=ab)(hl:∀s∈l,mI s=ab):mK (.str x) (l.map .str)=S (decide (x∈l)):=by
 refine(b8 ⟨hx,by
  rw[nC,propext cF];exact hl⟩).trans (congrArg _ ?_)
 rw[qB,yQ,propext Ai,decide_eq_true_eq]
 constructor
 . intro O;refine ah O λy a h=> ?_;have h:decide _=true:=h
   rw[(of_decide_eq_true h).symm];assumption
 exact λh=>⟨x,h,decide_eq_true rfl⟩
theorem Px (hr:σ[r]?=S (cL l)):n7 σ x (.ref r)=mK x l:=aJ hr (aJ (fT l) rfl)
theorem G1 {l:List _}(hx:x∈l)(hl:l.length<1000):gJ σ .index (.v (.lst (l.map .str))) [.v (.str x)]=S (.v (nV (l.idxOf x)),σ):=bP ((b8 ⟨rfl,H9,by rw[aq _];exact aw (dw hl (by decide))⟩).trans (by
 have hlt:=NU hx
 refine Zrr (propext Kv) ⟨by rw[aq _];assumption,?_,?_⟩
 . rw[AR _,eq_str _ _,NV _,decide_eq_true_eq];rfl
 . intro j a
   rw[AR _,eq_str _ _,decide_eq_true_eq]
   intro e
   have:=List.not_of_lt_findIdx a
   simp[e]at this))
noncomputable def km (p:List Nat×List (List Nat)):V:= .tup [.str p.1,.lst (p.2.map .str)]
def oX (l:List (List Nat)):List (List Nat):=l.foldl fK []
theorem agN:oX (l++ [x])=fK (oX l) x:=by rewrite[oX];rw[g8];rfl
theorem agO:∀(l acc:List _),(∀x∈l,x∈acc)->l.foldl fK acc=acc:=by
 intro a
 induction a with
 |nil=>
  exact λ_ _=>rfl
 |cons x l b=>
  intro acc h
  rw[kW];rewrite[fK];rw[if_pos (h x cT)];exact b _ λy c=>h y (dA _ c)
theorem Dr.agP {a:Ps}(d:Dr n a):oX (a.map (·.1))=NM n:=by
 refine o5 d.parts λbase more O b _ c=> ?_;subst O
 rw[bK];rewrite[oX];rw[g8,b]
 show List.foldl _ (oX _) _=_
 exact Zrr (by
  have b:=d.n1
  have c:=d.n3
  have:n=1\/n=2\/n=3:=by lia
  rcases this with rfl|rfl|rfl<;>rfl:oX _=NM n) (agO _ _ λx hx=>by
  refine ah (bX.mp hx) λp k O=> ?_;subst O
  exact(c p k).1)
theorem agQ {L:List _}:∀ {l acc:List _},(∀x∈l,x∈L)->(∀x∈acc,x∈L)->∀x∈l.foldl fK acc,x∈L:=by
 intro c
 induction c with
 |nil=>exact λ_ h=>h
 |cons y l k=>
  intro acc a b
  refine k (λx hx=>a x (dA _ hx)) λx hx=> ?_
  rw[fK]at hx
  split at hx
  . exact b x hx
  exact(b5.mp hx).elim (b x) λh=>dm.mp h▸a y cT
theorem agR {l acc:List _}:(l.foldl fK acc).length<=acc.length+l.length:=by
 induction l generalizing acc with
 |nil=>exact ba _
 |cons y l a=>
  have:=a (acc:=fK acc y)
  have:(fK acc y).length<=acc.length+1:=by rewrite[fK];split<;>simp
  rw[kW,jG];exact R9 ‹_› this
theorem vf:∀s∈NM n,mI s=true:=λs h=>by
 have:=by simpa using oC h
 rcases this with rfl|rfl|rfl<;>rfl
theorem agS (h:s∈NM n):cO σ .eq (.v (.str s)) (.v (.str [101,114,114,111,114]))=S ae/\mJ (.str s) (.int 1)=S (.str s)/\cO σ .isIn (.v (.str s)) (.v (.tup [.str [],.str [36],.str [39]]))=S false:=by
 have:=by simpa using oC h
 rcases this with rfl|rfl|rfl<;>exact⟨rfl,rfl,rfl⟩
theorem agT {n}{k:Ps}(d:Dr n k){r}{R}{Q}
 (H:∀a b,Do (aZ cl r [S (.v (.lst (k.map km))),S (.v .none),S (.ref 0),a,b,J,J,J,J,J,J,J] [cL ((NM n).map .str)]) Q R):
 Do (aZ cl (.cons (.set 2 (.lst ab .nil)) (.cons (.cq (.two 3 4) (.hC (.var 0)) Ik) r)) [S (.v (.lst (k.map km))),S (.v .none),J,J,J,J,J,J,J,J,J,J] []) Q R:=by
 refine bz (iG aA (aw (eM _))) (d8 _ k (λdone Z=>∀a b,Z [S _,S _,S _,a,b,J,J,J,J,J,J,J] [cL ((oX (done.map (·.1))).map .str)]) (oL (aa rfl)) (λZ c=>c _ _) ?_ ?_)
 . intro done p rest Z c o a b
   have u:=(d.syms.1 p (by rw[o];simp)).1
   refine dp (agS (σ:= [cL _]) u) λI L U=>bt rfl (gw (jT (br (aa rfl) aP I) (br (pI (aa rfl) aP L) (eY (aj aP (aj aP (aj aP aA))) (aw (by simp)) rfl) U)) ?_)
   rw[bK,u7,agN]at c
   refine jV (br (aa rfl) (aa rfl) (rJ ((Px rfl).trans (BC (vf _ u) λs Y=>vf s ((agQ (λx hx=>by
    refine ah (bX.mp hx) λq hq O=> ?_;subst O
    exact(d.syms.1 q (by rw[o];exact fg _ hq)).1) λ_ h=>nomatch h:∀x∈oX _,x∈NM n) s Y))))) ?_ ?_ λ_ _ h=>bk h
   . intro q
     have q:=by simpa using q
     refine fF (d7 (aa rfl) (gy rfl) (aj (aa rfl) aA) (i7 rfl (by
     have y:=agR (l:=done.map (·.1)) (acc:= [])
     have h2:=d.len
     rw[o,aY]at h2
     rw[aq]at y
     rw[aq _];rewrite[oX]
     exact aw (by rw[List.length_nil]at y;lia)))) (bk (kq (c _ _) ?_))
     rewrite[fK];rw[if_neg q,bK];rfl
   . intro q
     have q:=by simpa using q
     refine bk (kq (c _ _) ?_)
     rewrite[fK];rw[if_pos q];rfl
 . intro a b
   exact Zrr d.agP (H _ _)
theorem agU:cC n (l++ [x])=ve n (cC n l) x:=by rewrite[cC];rw[g8];rfl
theorem Py {l}(h:∀x∈l,x∈NM n\/x∈AB):(cC n l).length<=5/\∀s∈cC n l,mI s=true:=by
 refine tL (Pr l [] h Bh (λ_ h=>nomatch h) BA) λc k o b _ _=> ?_
 rw[(by rewrite[cC];rw[k.symm];rw[dg _];rfl:cC n l=dQ++c)]
 have:=nD o b
 refine⟨by rw[aY];exact iD this 3,λs a=> ?_⟩
 rcases b5.mp a with a|a
 . rcases cy.mp a with rfl|a
   . rfl
   rcases cy.mp a with rfl|a
   . rfl
   rw[dm.mp a];rfl
 . have:=by simpa [AB]using b s a
   rcases this with rfl|rfl<;>rfl
theorem agV (h:x∈NM n\/x∈AB):mI x=true:=by
 rcases h with h|h
 . exact vf x h
 . have:=by simpa [AB]using h
   rcases this with rfl|rfl<;>rfl
theorem agW {n}{c:Ps}(d:Dr n c){I}{R}{Q}{k o}{u}(hg:cl.fk=prog.fk)
 (kk:∀k o b,Do (aZ cl I [S (.v (.lst (c.map km))),S (.v .none),S (.v (.lst ((NM n).map .str))),k,o,S (.v u),S (.ref 1),b,J,J,J,J] [.dead,cL ((cC n (flat c)).map .str)]) Q R):
 Do (aZ cl (.cons (.set 6 (.bf ab .list (.glob 2))) (.cons (.cq (.two 3 4) (.hC (.var 0)) Il) I)) [S (.v (.lst (c.map km))),S (.v .none),S (.v (.lst ((NM n).map .str))),k,o,S (.v u),J,J,J,J,J,J] [.dead]) Q R:=by
 refine bz (Nb (lr (by rw[hg];rfl)) (Fu (aw (by decide)))) (d8 _ c (λdone Z=>∀k o b,Z [S (.v (.lst (c.map km))),S (.v .none),S (.v (.lst ((NM n).map .str))),k,o,S (.v u),S (.ref 1),b,J,J,J,J] [.dead,cL ((cC n (flat done)).map .str)]) (oL (aa rfl)) ?_ ?_ ?_)
 . exact λZ a=>a _ _ _
 . intro done p rest Z a hd k o b
   have L:=λx hx=>d.syms.2 x (by
    rw[hd];rewrite[flat];rw[p6,A_,(bM _ _ _).symm];exact fg _ hx)
   refine bt rfl (d8 _ _ (λdn Z=>∀b,Z [S (.v (.lst (c.map km))),S (.v .none),S (.v (.lst ((NM n).map .str))),S (.v (.str p.1)),S (.v (.lst (p.2.map .str))),S (.v u),S (.ref 1),b,J,J,J,J] [.dead,cL ((cC n (flat done++dn)).map .str)]) (c7 (aa rfl) rfl) (λZ a=>kq (a _) (by rw[dg _];rfl)) ?_ ?_)
   . refine λdn x r Z a O b=>au (Py (l:=flat _++dn) λy H=>L y ((b5.mp H).elim ((fg _)) λH=>ij _ (by rw[O];exact fg _ H))) λU Y=> ?_
     rw[<-bM,agU]at a
     generalize cC n _=T at U Y a ⊢
     have PA:=agV (L x (ij _ (by rw[O];simp)))
     refine bt rfl (jV
      (xt (br (aa rfl) (aa rfl) (rJ (BC PA vf))) λ_=>br (aa rfl) (aa rfl) (rJ ((Px rfl).trans (BC PA Y)))) ?_ ?_ λ_ _ h=>bk h)
     . intro q
       have q:=by simpa using q
       refine fF (d7 (aa rfl) (gy rfl) (aj (aa rfl) aA) (i7 rfl (by rw[aq _];exact aw (bx U (by decide))))) (bk (kq (a _) ?_))
       rewrite[ve];rw[if_pos q,bK];rfl
     . intro q
       have q:¬(x∉NM n/\x∉T):=by lia
       refine bk (kq (a _) ?_)
       rewrite[ve];rw[if_neg q];rfl
   . refine λb=>bk (kq (a _ _ _) ?_)
     rewrite[flat,flat];rw[p6,Ba _ _];rfl
 exact λk o b=>kk _ _ _
theorem G2:nR (cm n a)=a.length+1:=by show(_::_).length=_;simp
theorem PB {a}{r}{p}(h:a[r]?=S p):lhs (cm n a) (r+1)=(cA n (cC n (flat a))).idxOf p.1/\rhs (cm n a) (r+1)=p.2.map (cA n (cC n (flat a))).idxOf:=by
 have e:(cm n a).rs[r+1]?=(a.map λp=>((cA n _).idxOf _,p.2.map (cA n (cC n (flat a))).idxOf))[r]?:=rfl
 rw[nz (by rw[G2];have:=dB h;exact q7 this),bw,h,ua]at e
 exact have e:=je e;⟨congrArg _ e,congrArg _ e⟩
theorem Dr.mem {a:Ps}(d:Dr n a){p}(h:p∈a):p.1∈cA n (cC n (flat a))/\∀x∈p.2,x∈cA n (cC n (flat a)):=⟨ij _ (d.syms.1 p h).1,λx hx=>(d.names.2 x (oQ.mpr ⟨p,h,hx⟩)).elim (ij _) λh=>fg _ (fg _ h.1)⟩
theorem PC (a:lhs G r=l)(b:rhs G r=q): .obj 0 [(0,nV r),(1,nV l),(2,dJ q),(3,.int (pS G.nT q)),(4,.none),(5,.int 0),(6,.int 0)]=fH G r:=by rewrite[fH];rw[a,b];rfl
theorem agX {n}{b:Ps}(d:Dr n b)(L:1<=D){O}{R}{Q}{c o u}{y}
 (U:∀c o q,Do (aZ (aQ prog D) O [S (.v (.lst (b.map km))),S (.v .none),S (.v (.lst ((NM n).map .str))),c,o,S (.v y),S (.v (.lst ((cm n b).fG.map .str))),u,S (.v (nV (cm n b).nT)),S (.ref 2),q,J] [.dead,.dead,cL ((List.range (nR (cm n b))).map (fH (cm n b)))]) Q R):
 Do (aZ (aQ prog D) (.cons (.cq (.two 3 4) (.hC (.var 0)) Im) O) [S (.v (.lst (b.map km))),S (.v .none),S (.v (.lst ((NM n).map .str))),c,o,S (.v y),S (.v (.lst ((cm n b).fG.map .str))),u,S (.v (nV (cm n b).nT)),S (.ref 2),J,J] [.dead,.dead,cL [fH (cm n b) 0]]) Q R:=by
 have k:=d.names.1
 have Y:(cA n (cC n (flat b))).length<1000:=by have:=k.big;exact bx this (by decide)
 refine d8 km b (λdone Z=>∀c o q,Z [S (.v (.lst (b.map km))),S (.v .none),S (.v (.lst ((NM n).map .str))),c,o,S (.v y),S (.v (.lst ((cm n b).fG.map .str))),u,S (.v (nV (cm n b).nT)),S (.ref 2),q,J] [.dead,.dead,cL ((List.range (done.length+1)).map (fH (cm n b)))]) (oL (aa rfl)) ?_ ?_ ?_
 . intro Z H
   exact H _ _ _
 . intro done p rest Z H I c o q
   have hm:p∈b:=by rw[I];simp
   have hg:b[done.length]?=S p:=by rw[I];simp
   have hl:=d.len
   rw[I,aY]at hl
   refine au (d.mem hm) λm1 m2=> ?_
   refine au (PB (n:=n) hg) λr1 r2=> ?_
   have g:=jo (f:=λa af=>(bV (.one 11) a [S (.v (.lst (b.map km))),S (.v .none),S (.v (.lst ((NM n).map .str))),S (.v (.str p.1)),S (.v (.lst (p.2.map .str))),S (.v y),S (.v (.lst ((cm n b).fG.map .str))),u,S (.v (nV (cm n b).nT)),S (.ref 2),q,J]).bind (az (aQ prog D) (.da (.var 6) .index (.cons (.var 11) .nil)) · af)) .str (λx=> .v (nV ((cA n (cC n (flat b))).idxOf x))) p.2 [.dead,.dead,cL ((List.range (done.length+1)).map (fH (cm n b)))] λx hx=>
    aJ rfl (d7 (aa rfl) rfl (aj (aa rfl) aA) (G1 (m2 x hx) Y))
   have ge:p.2.map (λx=>X.v (nV ((cA n (cC n (flat b))).idxOf x)))=((rhs (cm n b) (done.length+1)).map nV).map .v:=by rw[r2,b4,b4];rfl
   rw[ge]at g
   have PD:(rhs (cm n b) (done.length+1)).length<=3:=by rw[r2,aq _];exact(d.syms.1 p hm).2
   have l1:∀σ,cB σ .tuple (.v (.lst ((rhs (cm n b) (done.length+1)).map nV)))=S (.val (dJ (rhs (cm n b) (done.length+1)))):=λσ=>xH (by rw[aq _];exact aw (bx PD (by decide)))
   refine bt rfl (bz (cw (jm (c7 (aa rfl) rfl) g (by(rw[aq _,aq _]);exact aw (bx PD (by decide))) (fT _)) (l1 _)) ?_)
   have bl:cB [.dead,.dead,cL ((List.range (done.length+1)).map (fH (cm n b)))] .len (.ref 2)=S (.val (nV (done.length+1))):=eC ((pN rfl).trans (by simp)) (aw (by lia))
   have i1:=G1 (σ:= [.dead,.dead,cL ((List.range (done.length+1)).map (fH (cm n b)))]) m1 Y
   rw[<-r1]at i1
   have nr:=Pc (σ:= [.dead,.dead,cL ((List.range (done.length+1)).map (fH (cm n b)))]) (n:=done.length+1) (l:=lhs (cm n b) (done.length+1)) (r:=rhs (cm n b) (done.length+1)) (i:=pS (cm n b).nT (rhs (cm n b) (done.length+1))) L
   rw[PC rfl rfl]at nr
   refine fF (d7 (aa rfl) (gy rfl) (aj (rt (aj (cw (aa rfl) bl) (aj (d7 (aa rfl) rfl (aj (aa rfl) aA) i1) (aj (aa rfl) (aj (c6 (aj (aa rfl) (aj (aa rfl) aA)) (agx L)) aA)))) nr) aA) (i7 rfl (by(rw[aq _,cP]);exact aw (by lia)))) (bk (kq (H _ _ _) ?_))
   rw[aY,ed,(kI (n:=done.length+1)),bK];rfl
 . intro c o q
   rw[G2]at U
   exact U _ _ _
theorem run_plain {n}{b:Ps}(d:Dr n b)(x:2<=D):(aQ prog D).call 14 [.v (.lst (b.map km))] σ=S (.v (vG (cm n b)),σ):=by
 refine ec (dE x) rfl rfl rfl rfl λT U=> ?_
 have c:=dH x
 have k:=d.names.1
 have w:=G0 d
 have Y:=d.n1
 have q:(NM n).length=n:=by rewrite[NM];rw[ie];exact jI d.n3
 have y:(NM n)[0]?=S [83]:=by
  rewrite[NM];refine Zrr (List.getElem?_take_of_lt (R_ Y)) ?_;rfl
 have H:=eX y
 refine agT d λI L=> ?_
 refine l_ rfl (jn rfl) ?_
 have c0:cO [.dead] .eq (.v (.lst ((NM n).map .str))) (.v (.lst []))=S false:=by
  have:isData 4 (.lst ((NM n).map .str))=ab/\isData 4 (.lst [])=true:=⟨by show((NM n).map V.str).all (isData 3)=ab;rw[nC,propext cF];exact vf,rfl⟩
  refine(b8 this).trans (congrArg S ?_)
  show lN ((NM n).map .str) []=ae
  cases h:NM n with
  |nil=>rw[h]at q;simp at q;lia
  |cons a l=>rfl
 have i0:bZ [.dead] (.v (.lst ((NM n).map .str))) (.int 0)=S (.v (.str [83])):=jq (aw (by simp)) (by(rw[bw,y]);rfl)
 refine bz (AD (jT (tb (aa rfl) rfl) (br (aa rfl) (fS aA (aw (eM _)) rfl) c0)) (bu (aa rfl) aP i0)) ?_
 have c1:cO [.dead] .ir (.v (.str [83])) (.v (.lst ((NM n).map .str)))=S false:=(rJ (o:= .v (.lst ((NM n).map .str))) (BC rfl vf)).trans (by rw[decide_eq_true H];rfl)
 refine gw (br (aa rfl) (aa rfl) c1) ?_
 refine agW d lu λI L j7=> ?_
 refine l_ rfl (jn rfl) ?_
 have tl:=(Py d.syms.2).1
 have bl:∀σ,cB σ .len (.v (.lst ((cC n (flat b)).map .str)))=S (.val (nV (cC n (flat b)).length)):=λσ=>eC (congrArg S (aq _)) (aw (bx tl (by decide)))
 refine bz (cw (aa rfl) (bl _)) ?_
 have a1:cV .add (.lst ((cC n (flat b)).map .str)) (.lst [.str [36,97,99,99,101,112,116]])=S (.lst ((cC n (flat b)++ [nP]).map .str)):=by
  refine Zrr (nu (by(rw[aq _,ed]);exact aw (Sa tl))) ?_;rw[bK];rfl
 have a2:cV .add (.lst ((cC n (flat b)++ [nP]).map .str)) (.lst ((NM n).map .str))=S (.lst ((cm n b).fG.map .str)):=by
  refine Zrr (nu (by(rw[aq _,aq _,aY,ed,q]);have:=d.n3;exact aw (Sb tl this))) ?_;rw[bK.symm];rfl
 refine bz (b9 (b9 (aa rfl) (fS (aj aP aA) (aw (by simp)) rfl) a1) (aa rfl) a2) ?_
 have hS:=NT k.nd k.nB
 have O:=λσ=>by
  have:=G1 (σ:=σ) (l:=cA n (cC n (flat b))) (ij _ H) (by have:=k.big;exact bx this (by decide))
  rwa[hS]at this
 have nr:=Pc (σ:= [.dead,.dead]) (n:=0) (l:=(cm n b).nT) (r:= [(cm n b).nT+1,0]) (i:=0) c
 have e0:pS (cm n b).nT [(cm n b).nT+1,0]=0:=by
  have:=w.tT
  show(if 0<(cm n b).nT then(0)else _)=0
  refine Zrr (if_pos (Sd this)) ?_;rfl
 have Q:=PC w.oO.1 w.oO.2
 rw[e0]at Q
 rw[Q]at nr
 refine bz (iG (aj (rt (aj aP (aj (aa rfl) (aj (eY (aj (d7 (aa rfl) rfl (aj (aa rfl) aA) (O _)) (aj (lr (by rw[lu];rfl)) aA)) (aw (by simp)) rfl) (aj (lr (by rw[lu];rfl)) aA)))) nr) aA) (aw (by simp))) ?_
 refine agX d c λI L dW=> ?_
 refine l_ rfl (jn rfl) ?_
 have u:∀ρ σ,az (aQ prog (D - 1)) (.aU ae .str .nil .nil) ρ σ=S (.v (.aU .str []),σ):=λ_ _=>rfl
 exact cb (rt (aj (aa rfl) (aj (aa rfl) (aj (aa rfl) (aj (u _ _) (aj aP (aj (d7 (aa rfl) rfl (aj (aa rfl) aA) (O _)) aA)))))) (agF w c)) (U (c8 rfl))
theorem agZ {a:Ps}(d:Dr n a):iM (cm n a)=gT (nP,[[83],[36,101,110,100]])::a.map gT:=by
 have w:=G0 d
 have b:nm (cm n a) (cm n a).nT=nP:=by
  rewrite[nm,List.getD];rw[w.nA];rfl
 have c:nm (cm n a) ((cm n a).nT+1)= [83]:=by rewrite[nm,List.getD];rw[w.nB];rfl
 have k:nm (cm n a) 0= [36,101,110,100]:=by rewrite[nm,List.getD];rw[w.n0];rfl
 rewrite[iM];rw[G2,El,dz,b4]
 congr 1
 . rewrite[nM];rw[w.oO.1,w.oO.2]
   show V.tup [.str _,.tup [.str _,.str _]]=_
   rw[b,c,k];rfl
 . refine gP λi=> ?_
   rw[bw,bw]
   cases h:a[i]? with
   |none=>exact Zrr (eU (by rw[cP];exact Dz.mp h)) rfl
   |some p=>
    refine Zrr (iI (dB h)) (au (PB (n:=n) h) λo q=>au (d.mem (eX h)) λr u=> ?_)
    show S (nM _ _)=S _
    have e:(p.2.map _).map (nm _)=p.2:=Zrr b4 ((vb λx hx=>Pw (u x hx)).trans (List.map_id _))
    rewrite[nM];rw[o,q,Pw r,e];rfl
theorem ag0 {as}{b}{σ}{P:V->Prop}(c:0<D)(hf:prog.fns[f]?=S fn)(k:fn.pure=ab)(o:fA as=S b)
 (q:frameOf fn as=S ρ)(hr:Do (aZ (aQ prog (D - 1)) fn.body ρ []) (λ_ _=>P .none) λx σ=>∃a,P a/\Fz a x σ):∃a,P a/\(aQ prog D).call f as σ=S (.v a,σ):=by
 refine dh (xB q (hr.mono (λ_ σ h=>⟨_,h,c8 rfl⟩) λ_ _ h=>h)) λx I r u=>ah u λa ha y=>ao y λL H=>⟨a,ha,?_⟩
 rw[xA c]
 exact aJ hf (Zrr k (aJ o (aJ r (bP H))))
theorem yh {as}{b}{σ}{P:V->Prop}(c:0<D)(hf:prog.fns[f]?=S fn)(k:fn.pure=ab)(o:fA as=S b)
 (q:frameOf fn as=S ρ)(hr:∀T,(∀a {x σ},P a->Fz a x σ->T x σ)->Do (aZ (aQ prog (D - 1)) fn.body ρ []) (λ_ _=>False) T):∃a,P a/\(aQ prog D).call f as σ=S (.v a,σ):=
 ag0 c hf k o q ((hr _ λa _ _ r u=>⟨a,r,u⟩).mono (λ_ _ h=>h.elim) λ_ _ h=>h)
theorem PF {g:c->o}{k}:∀ {ak:List _},ck k (ak.map λp=>(p.1,g p.2))=(ck k ak).map g:=by
 intro a
 induction a with
 |nil=>
  exact rfl
 |cons q r b=>
  rw[dz,mm,mm]
  split
  . rfl
  exact b
theorem PG {g:c->o}{k}{x}:∀ {ak:List _},d9 k (g x) (ak.map λp=>(p.1,g p.2))=(d9 k x ak).map λp=>(p.1,g p.2):=by
 intro a
 induction a with
 |nil=>
  exact rfl
 |cons q r b=>
  rw[dz,tx,tx]
  split
  . rfl
  . rw[b];rfl
theorem ag1:∀ {ak:List (V×c)},(d9 k x ak).length<=ak.length+1:=by
 intro a
 induction a with
 |nil=>
  exact ba _
 |cons o r b=>
  rw[tx]
  split
  . exact qL _
  exact mU b
theorem PH (h:s=t):dK (.str s) (.str t)=true:=decide_eq_true h
theorem G3 (h:¬s=t):¬dK (.str s) (.str t)=true:=λz=>h (of_decide_eq_true z)
theorem ag2 {s t}{x}:∀ {ak:List (V×H)},ck (.str t) (d9 (.str s) x ak)=if s=t then S x else ck (.str t) ak:=by
 intro b
 induction b with
 |nil=>
  show(if dK (.str s) _ then S x else J)=_
  by_cases h:s=t
  . rw[if_pos h,if_pos (PH h)];rfl
  . rw[if_neg h,if_neg (G3 h)];rfl
 |cons c r o=>
  obtain ⟨a,y⟩:=c
  rw[tx,mm]
  by_cases q:dK a (.str s)=ab
  . rw[if_pos q,mm]
    have e:=(λ{k u} h=>by
    cases k<;>first|have:=of_decide_eq_true h;rw[this];rfl|exact bT h:∀ {k:V} {u:List _},dK k (.str u)=ab->k= .str u) q
    subst e
    by_cases h:s=t
    . rw[if_pos h,if_pos (PH h)];rfl
    . rw[if_neg h,if_neg (G3 h),if_neg (G3 h)];rfl
  . rw[if_neg q,mm,o]
    by_cases z:dK a (.str t)=ab
    . rw[if_pos z,if_pos z]
      by_cases h:s=t
      . subst h;exact absurd z q
      . rw[if_neg h];rfl
    . rw[if_neg z,if_neg z];rfl
def aV (G:Gm)(w:List Nat):V:= .tup ((w.map (nm G)).map .str)
def nQ (G:Gm)(r:Nat):V:= .tup [nV r,aV G (rhs G r)]
def PI (G:Gm)(x:Nat):V:= .lst ((fu G x).map (nQ G))
theorem PJ (w:WF G){x y}(hx:x<nS G)(b:y<nS G)(h:nm G x=nm G y):x=y:=by
 have a:=pT hx
 rw[h]at a
 exact have:=dk.mp a;ao (dk.mp a) λo c=>ao (dk.mp (pT b)) λq k=>(FI w.nd).mp (c.trans k.symm)
def mu (G:Gm)(k x:Nat):List Nat:=(List.range k).filter λr=>lhs G r==x
structure ag3 (G:Gm)(k:Nat)(ak:List (V×V)):Prop where
 look:∀x,x<nS G->ck (.str (nm G x)) ak=if mu G k x= []then J else S (.lst ((mu G k x).map (nQ G)))
 len:ak.length<=k
theorem PK {k}{d}(h:σ[n]?=S (.aU t ak))(hk:dR t k=ab):gJ σ .get (.ref n) [.v k,d]=S ((ck k ak).getD d,σ):=aJ h (b8 hk)
noncomputable def dX (ak:List (V×V)):List (V×X):=ak.map λp=>(p.1,.v p.2)
theorem ag4:lR 0 (iM G)=(List.range (nR G)).map λr=> .tup [nV r,nM G r]:=by
 rw[Fj _ _]
 refine gP λi=> ?_
 rw[bw,lG];rewrite[iM];rw[bw,bw]
 rcases i.lt_or_ge _ with h|h
 . rw[iI h,fb _];rfl
 exact Zrr (eU (Zrr cP h)) rfl
def tJ (G:Gm)(a:V):Prop:=∃ak,a= .aU .str ak/\∀x,x<nS G->ck (.str (nm G x)) ak=if G.nT<=x then S (PI G x)else J
theorem ag5 (w:WF G)(I:1<=D):∃a,tJ G a/\(aQ prog D).call 47 [.v (.lst (iM G))] σ=S (.v a,σ):=by
 refine yh (dE I) rfl rfl rfl rfl λT L=> ?_
 have hr:=w.nr
 refine bz tC (uV (λr=> .tup [nV r,nM G r]) (nR G) (λk Z=>∀ak b c,ag3 G k ak->Z [S (.v (.lst (iM G))),S (.ref 0),b,c] [.aU .str (dX ak)]) ((E9 (aa rfl) (by rewrite[iM];rw[aq _,cP];exact aw (bx hr (by decide)))).trans (by rw[ag4];rfl)) (λZ o=>o [] _ _ ⟨λx _=>rfl,ba _⟩) ?_ ?_)
 . intro k Z o hk ak b c ok
   have hl:=(w.jY hk).2
   have H:bZ [.aU .str (dX ak)] (.v (nM G k)) (.int 0)=S (.v (.str (nm G (lhs G k)))):=xE (aw (by simp)) rfl
   have sl:=by
    have h:(mu G k (lhs G k)).length<=(List.range k).length:=jZ _ _
    rwa[cP]at h
   have q:∀x,mu G (k+1) x=if lhs G k=x then mu G k x++ [k]else mu G k x:=λx=>by
    rewrite[mu];rw[kI,j_ _ _]
    by_cases h:lhs G k=x
    . rw[if_pos h];refine Zrr (pJ (by simpa using h)) ?_;rfl
    . rw[if_neg h];refine Zrr (pK (by simpa using h)) ?_;rw[xZ,dg _];rfl
   have O:cV .add (.lst ((mu G k (lhs G k)).map (nQ G))) (.lst [nQ G k])=S (.lst ((mu G (k+1) (lhs G k)).map (nQ G))):=by
    refine Zrr (nu (by(rw[aq _,ed]);exact aw (Ta hr hk sl))) ?_;rw[q _,if_pos rfl,bK];rfl
   refine bt rfl (jU (b9 (d7 (aa rfl) (Nq rfl) (aj (bu (aa rfl) aP H) (aj (fS aA (aw (eM _)) rfl) aA)) (by
    rw[PK rfl rfl];rewrite[dX];rw[PF,ok.look _ hl]
    split
    . rename_i h;rw[h];rfl
    . rfl)) (fS (xs:= [.v (nQ G k)]) (aj (eY (aj (aa rfl) (aj (bu (aa rfl) aP (xE (aw (by simp)) rfl)) aA)) (aw (by simp)) rfl) aA) (aw (by simp)) rfl) O) (aa rfl) (bu (aa rfl) aP H) (rz rfl rfl (by(rewrite[dX];rw[aq _]);exact aw (by have:=ok.len;exact dw (ee (bx this hk) hr) (by decide)))) (bk (kq (o (d9 (.str (nm G (lhs G k))) (.lst ((mu G (k+1) (lhs G k)).map (nQ G))) ak) _ _ ⟨λx hx=> ?_,?_⟩) ?_)))
   . rw[ag2]
     by_cases h:lhs G k=x
     . subst h;rw[if_pos rfl];refine Zrr (if_neg (by(rw[q _,if_pos rfl]);simp)) ?_;rfl
     . rewrite[if_neg λe=>h (PJ w hl hx e)];rw[ok.look x hx,q _,if_neg h];rfl
   . have:=ag1 (k:= .str (nm G (lhs G k))) (x:= .lst ((mu G (k+1) (lhs G k)).map (nQ G))) (ak:=ak)
     have:=ok.len
     exact Tb ‹_› this
   . rewrite[dX];rw[PG];rfl
 . intro ak b c ok
   refine cb (aa rfl) (L (.aU .str ak) ⟨ak,rfl,λx hx=> ?_⟩ ⟨_,Fi rfl⟩)
   rw[ok.look x hx]
   by_cases h:G.nT<=x
   . rw[if_pos h];rewrite[if_neg]
     . rfl
     . have:∃r,r<nR G/\lhs G r=x:=by
        rcases ypA h with h|h
        . exact⟨0,w.xJ,w.oO.1.trans h⟩
        . refine cD (w.Nv x h hx) λr u y _=> ?_
          exact⟨r,u,y⟩
       refine ah this λr u y=> ?_;clear this
       have:r∈mu G (nR G) x:=fI.mpr ⟨gu.mpr u,by simpa using y⟩
       exact yoQ this
   . rw[if_neg h];rewrite[if_pos];rfl
     refine xg.mpr λr hr=> ?_
     have:=w.jY (gu.mp hr)
     simp;exact fM (ee (jd h) this.1)
def WS (G:Gm)(w:List Nat):Prop:=∀x∈w,x<nS G
theorem G5 (w:WF G){x}(h:x<nS G):mI (nm G x)=true:=(w.ok _ (eX (pT h))).1
theorem PL (w:WF G){u}(h:WS G u){k}:isData (k+1) (aV G u)=true:=by
 show((u.map _).map _).all (isData k)=ab
 rw[b4,nC,propext cF]
 intro x hx
 have:=G5 w (h x hx)
 cases k<;>exact this
theorem rR:dR .strs (aV G u)=true:=by
 show((u.map _).map _).all isStr=ab
 rw[nC];exact Zrr (propext cF) λ_ _=>rfl
theorem map_inj {A B:Type}{f:A->B}:∀ {u v:List A},(∀a∈u,∀b∈v,f a=f b->a=b)->u.map f=v.map f->u=v:=by
 intro c
 induction c with
 |nil=>exact λ_ h=>(Mk.mp h.symm).symm
 |cons a u k=>
  intro v h e
  cases v with
  |nil=>exact nomatch e
  |cons b v=>
   have e:=iy e
   rw[h a cT b cT e.1,k (λx hx y o=>h x (dA _ hx) y (dA _ o)) e.2];rfl
theorem G6 (w:WF G){u v}(c:WS G u)(k:WS G v):gI (aV G u) (aV G v)=decide (u=v):=by
 show lN _ _=_
 refine Zrr (Gp λa _ b _=>eq_str a b) (decide_eq_decide.mpr ⟨map_inj λa ha b hb e=>PJ w (c a ha) (k b hb) e,λh=>by rw[h];rfl⟩)
theorem yi (w:WF G){u}(h:WS G u):cO σ .ne (.v (aV G u)) (.v (.tup []))=S !decide (u= []):=congrArg (Option.map _) (by
 refine(b8 ⟨PL w h,rfl⟩).trans (congrArg _ ?_)
 cases u<;>rfl:eqv _ _=S _)
theorem yj (w:WF G){a}{g:List _->a}{u}(b:WS G u):∀ {L:List _},(∀v∈L,WS G v)->ck (aV G u) (L.map λv=>(aV G v,g v))=if u∈L then S (g u)else none:=by
 intro c
 induction c with
 |nil=>
  exact λ_=>rfl
 |cons v L k=>
  intro h
  rw[dz,mm,show dK _ _=_ from G6 w (h v cT) b,k λy o=>h y (dA _ o)]
  by_cases e:v=u
  . rw[if_pos (decide_eq_true e)];refine Zrr (if_pos (Zrr e cT)) ?_;rw[e];rfl
  . refine Zrr (if_neg (by rw[decide_eq_false e];exact gq)) ?_
    by_cases q:u∈L
    . rw[if_pos q,if_pos (dA _ q)];rfl
    . rw[if_neg q];rewrite[if_neg λz=>(cy.mp z).elim (λr=>e r.symm) q];rfl
theorem G7 (h:u.length+v.length<1000):cV .add (aV G u) (aV G v)=S (aV G (u++v)):=by
 refine Zrr (AI (by rw[aq _,aq _,aq _,aq _];exact aw (SR h))) ?_;rewrite[aV];rw[bK,bK];rfl
theorem ag6 (n:Nat):lQ (-1) (n+1)=n:=congrArg Int.toNat ((Cd ..).trans (ynI n 1))
theorem G8 {X}(h:u.length<1000):mJ (aV G (u++ [X])) (.int (-1))=S (aV G u):=by
 have hl:(((u++ [X]).map (nm G)).map V.str).length=u.length+1:=by rw[aq _,aq _,aY];rfl
 refine(b8 (by rw[hl];exact aw (Rj h))).trans ?_
 rw[hl,ag6 _,bK,bK];exact Zrr (GA (by rw[aq _,aq _];exact ba _)) (Zrr (f_ (by rw[aq _,aq _];exact ba _)) rfl)
theorem ag7 {n}(hl:xs.length=n+1)(h:xs[n]?=S a):bZ σ (.v (.tup xs)) (.int (-1))=S (.v a):=bP (aJ (GC hl) h)
theorem BD {X}:bZ σ (.v (aV G (u++ [X]))) (.int (-1))=S (.v (.str (nm G X))):=ag7 (by rw[aq _,aq _,aY];rfl) (by rw[bw,bw,iE (ba _),kE _];rfl)
theorem BE (h:u.length<1000):cB σ .len (.v (aV G u))=S (.val (nV u.length)):=eC (congrArg _ ((aq _).trans (aq _))) (aw (dw h (by decide)))
theorem PM {k}(hk:dR t k=ab):n7 σ k (.v (.aU t a))=S (ck k a).isSome:=b8 hk
theorem ag8 (a:tJ G b){x}(hx:x<nS G):n7 σ (.str (nm G x)) (.v b)=S (decide (G.nT<=x)):=by
 refine ah a λc O h=> ?_;clear a;subst O
 refine(PM rfl).trans ?_
 rw[h x hx]
 by_cases q:G.nT<=x
 . rw[if_pos q,decide_eq_true q];rfl
 . rw[if_neg q,decide_eq_false q];rfl
theorem PN (a:tJ G b){x}(hx:x<nS G)(c:G.nT<=x):bZ σ (.v b) (.str (nm G x))=S (.v (PI G x)):=by
 refine ah a λk O h=> ?_;clear a;subst O
 exact xF rfl ((h x hx).trans (if_pos c))
def lC (G:Gm)(L:List (List Nat)):Cell:=cL (L.map (aV G))
def kC (G:Gm)(L:List (List Nat)):Cell:= .aU .strs (L.map λw=>(aV G w,.v (.bool ab)))
theorem Fs.G9 (w:WF G)(f:Fs G k L):∀u∈L,WS G u:=λu c=>by
 refine au (f.ok u c) λ_ a=>bo a λo A O b _=> ?_;clear a;subst O
 intro x hx
 rcases b5.mp hx with hx|hx
 . exact(Oe w b x hx).1
 . rw[dm.mp hx];exact A7 w b
theorem PO (w:WF G)(x):(fu G x).length<=7:=by
 have h:(fu G x).length<=(List.range _).length:=jZ _ _
 rw[cP]at h
 exact bp h w.nr
theorem ag9 (w:WF G){cl:Cl}{H mv U:V}{o:Nat}(hg:tJ G H)(hm:mv=nV o)(p8:o<=6){c:List Nat}{A r:Nat}{Y:V}(hr:r<nR G)(hA:lhs G r=A)(hv:gE G c A)(BF:c.length<=6)
 {L:List (List Nat)}(f:Fs G o L)(hL:L.length<3000000){j9:Option X}{Q:Env->Hp->Prop}{R:X->Hp->Prop}
 (kk:∀I j9,L<+:I->Fs G o I->I.length<=L.length+1->(eZ G.nT (c++rhs G r)= []\/o<(eZ G.nT (c++rhs G r)).length\/eZ G.nT (c++rhs G r)∈I)->
  Q [S (.v H),S (.v mv),S (.v U),S (.ref 0),S (.ref 1),S (.v Y),S (.v (aV G (c++ [A]))),S (.v (nV r)),S (.v (aV G (rhs G r))),j9] [lC G I,kC G I]):
 Do (aZ cl Ip [S (.v H),S (.v mv),S (.v U),S (.ref 0),S (.ref 1),S (.v Y),S (.v (aV G (c++ [A]))),S (.v (nV r)),S (.v (aV G (rhs G r))),j9] [lC G L,kC G L]) Q R:=by
 have ot:=w.len hr
 have aha:=λx hx=>(Oe w hv x hx).1
 have ws0:=λx hx=>(b5.mp hx).elim (aha x) λh=>(w.sym hr x h).1
 generalize G':nV r=rv at kk ⊢
 refine bz (b9 (pI (aa rfl) aP (G8 (bx BF (by decide)))) (aa rfl) (G7 (S4 BF ot))) ?_
 refine uW (λu Z=>eZ G.nT u=eZ G.nT (c++rhs G r)->u.length<=9->WS G u->Z [S (.v H),S (.v mv),S (.v U),S (.ref 0),S (.ref 1),S (.v Y),S (.v (aV G (c++ [A]))),S (.v rv),S (.v (aV G (rhs G r))),S (.v (aV G u))] [lC G L,kC G L]) (λu=>u.length) (c++rhs G r)
  (λZ zk=>zk rfl (by rw[aY];exact S5 BF ot) ws0) (by rw[aY];show _<2^22;exact S6 BF ot) ?_
 intro u Z zk hs fi k
 have fin:∀z,z=eZ G.nT (c++rhs G r)->z.length<=9->WS G z->Do (aZ cl (.cons (.ite (.and (.cmp .ne (.var 9) (.tup .nil)) (.and (.cmp .le (.bf ae .len (.var 9)) (.var 1)) (.cmp .ir (.var 9) (.var 4)))) (.cons (.gk (.var 4) (.var 9) (.cst (.bool ab))) (.cons (.ex (.da (.var 3) .append (.cons (.var 9) .nil))) .nil)) .nil) .nil)
  [S (.v H),S (.v mv),S (.v U),S (.ref 0),S (.ref 1),S (.v Y),S (.v (aV G (c++ [A]))),S (.v rv),S (.v (aV G (rhs G r))),S (.v (aV G z))] [lC G L,kC G L]) Q R:=by
  intro z y hzl PQ
  have wsL:=f.G9 w
  have lk:ck (aV G z) (L.map λw=>(aV G w,X.v (.bool ab)))=if z∈L then S (.v (.bool ab))else none:=yj w PQ wsL
  have hin:n7 [lC G L,kC G L] (aV G z) (.ref 1)=S (decide (z∈L)):=(Gl rfl rR).trans (by
   rw[lk]
   by_cases q:z∈L
   . rw[if_pos q,decide_eq_true q];rfl
   . rw[if_neg q,decide_eq_false q];rfl)
  subst hm
  refine jV (xt (br (aa rfl) (eY aA (aw (eM _)) rfl) (yi w PQ)) λ_=>xt (br (cw (aa rfl) (BE (bx hzl (by decide)))) (aa rfl) Fo) λ_=>br (aa rfl) (aa rfl) (rJ hin)) ?_ ?_ λ_ _ h=>bk h
  . intro q
    obtain ⟨q1,q2,q3⟩:z≠ []/\z.length<=o/\z∉L:=by simpa using q
    (refine e9 ((snoc_cases z).resolve_left q1) λβ B O=> ?_;obtain rfl:=O)
    have hB:G.nT<=B:=by
     rcases Gb (c++rhs G r)with ⟨h1,_⟩| ⟨NA,B',t,h1,h2,_⟩
     . rw[h1]at y;simp at y
     . rw[h1]at y
       rw[(iy (qZ y rfl).2).1];exact h2
    have hvB:=step_sound (hA▸hv) hr y.symm
    refine jU aP (aa rfl) (aa rfl) (rz rfl rR (by rw[aq _];exact aw (dw hL (by decide)))) ?_
    rw[tA (lk.trans (if_neg q3))]
    refine fF (d7 (aa rfl) (gy rfl) (aj (aa rfl) aA) (i7 rfl (by rw[aq _];exact aw (dw hL (by decide))))) (bk (kq (kk (L++ [β++ [B]]) _ (tj _ _) ⟨?_,?_,fg _ f.st⟩ (by rw[aY];exact ba _) (.inr (.inr (by rw[y.symm];simp)))) ?_))
    . rw[qH]
      exact⟨f.nd,by simp,λa ha b hb e=>q3 (by rw[dm.mp hb]at e;rw[e.symm];assumption)⟩
    . intro u k
      rcases b5.mp k with k|k
      . exact f.ok u k
      . rw[dm.mp k]
        exact⟨q2,β,B,rfl,hvB,hB⟩
    . show [cL (L.map (aV G)++ [aV G (β++ [B])]),Cell.aU .strs (L.map (λw=>(aV G w,X.v (.bool ab)))++ [(aV G (β++ [B]),.v (.bool ab))])]=_
      rewrite[lC,kC];rw[bK,bK];rfl
  . intro q
    refine bk (kk L _ (A4 _) f (qL _) ?_)
    rw[y.symm]
    by_cases q1:z= []
    . exact .inl q1
    . by_cases q2:o<z.length
      . exact .inr (.inl q2)
      . refine .inr (.inr (ylG λq3=> ?_))
        simp[q1,q3]at q
        lia
 rcases snoc_cases u with rfl| ⟨v,X,rfl⟩
 . refine wt ae (Na (br (aa rfl) (eY aA (aw (eM _)) rfl) (yi w k))) (λ_=> ?_) nofun
   exact fin [] (by rw[hs.symm];rfl) fi k
 . have hX:=k X (by simp)
   rw[aY,ed]at fi
   have hc:az cl (.and (.cmp .ne (.var 9) (.tup .nil)) (.cmp .ir (.idx (.var 9) (.cst (.int (-1)))) (.var 0))) [S (.v H),S (.v mv),S (.v U),S (.ref 0),S (.ref 1),S (.v Y),S (.v (aV G (c++ [A]))),S (.v rv),S (.v (aV G (rhs G r))),S (.v (aV G (v++ [X])))] [lC G L,kC G L]=S (.v (.bool (!decide (G.nT<=X))),[lC G L,kC G L]):=
    xp (br (aa rfl) (eY aA (aw (eM _)) rfl) ((yi w k).trans (by refine Zrr (decide_eq_false (by simp)) ?_;rfl))) (br (bu (aa rfl) aP BD) (aa rfl) (rJ (ag8 hg hX)))
   refine wt _ hc (λq=> ?_) (λq=> ?_)
   . have q:=by simpa using q
     exact fin (v++ [X]) (by(rw[hs.symm,u5];refine Zrr (if_neg (by lia)) ?_;rfl)) (by(rw[aY,ed]);exact fi) k
   . have q:=by simpa using q
     refine bz (pI (aa rfl) aP (G8 (by lia))) (bk (zk v (by rw[aY];exact jc _) ?_ (by lia) (λx hx=>k x (fg _ hx))))
     rw[hs.symm,u5,if_pos q];rfl
theorem nH.mono {L a}(h:L<+:a){u}(c:nH G b L u):nH G b a u:=λk A r e hr hl=>(c k A r e hr hl).imp id λo=>o.imp id (h.subset ·)
def FoP (G:Gm)(b c:Nat)(a:V):Prop:=(a= .none/\∃L,Fs G b L/\c<L.length)\/∃L,a= .lst (L.map (aV G))/\Fs G b L/\(∀w∈L,nH G b L w)/\L.length<=c+7
theorem ahb {x r}(hr:r<nR G)(h:lhs G r=x):r∈fu G x:=pZ.mpr ⟨hr,h⟩
theorem PR (w:WF G){GV mv nv:V}{k o:Nat}(hg:tJ G GV)(hm:mv=nV k)(hn:nv=nV o)(h1:1<=k)(p8:k<=6)(PT:o<=1000000)(hD:1<=D):∃a,FoP G k o a/\(aQ prog D).call 48 [.v GV,.v mv,.v nv] σ=S (.v a,σ):=by
 refine yh (dE hD) rfl rfl rfl rfl λT hT=> ?_
 have hA:nm G G.nT=nP:=by rewrite[nm,List.getD];rw[w.nA];rfl
 have eS:aV G [G.nT]= .tup [.str nP]:=by show V.tup [.str (nm G G.nT)]=_;rw[hA];rfl
 have eT:∀ρ σ,az (aQ prog (D - 1)) (.tup (.cons (.cst (.str [36,97,99,99,101,112,116])) .nil)) ρ σ=S (.v (aV G [G.nT]),σ):=λρ σ=>by rw[eS];rfl
 have eD:∀ρ σ,az (aQ prog (D - 1)) (.aU ab .strs (.cons (.tup (.cons (.cst (.str [36,97,99,99,101,112,116])) .nil)) .nil) (.cons (.cst (.bool ab)) .nil)) ρ σ=S (.ref σ.length,σ++ [kC G [[G.nT]]]):=λρ σ=>by rewrite[kC];rw[u7,eS];rfl
 refine AE (aj (iG (aj (eT _ _) aA) (aw (by simp))) (aj (eD _ _) (aj aP aA))) rfl ?_
 refine uW (λa Z=>∀L j6 y H I,Fs G k L->(∀u∈L.take a,nH G k L u)->a<=L.length->L.length<=o+7->Z [S (.v GV),S (.v mv),S (.v nv),S (.ref 0),S (.ref 1),S (.v (nV a)),j6,y,H,I] [lC G L,kC G L]) (λa=>o+7 - a) 0 ?_ (by show _<2^22;exact Tf PT) ?_
 . intro Z c
   refine c [[G.nT]] _ _ _ _ ⟨by simp,λu x=> ?_,dm.mpr rfl⟩ (λu x=> ?_) (dM _) (by show 1<=_;exact zQ _ _)
   . rw[dm.mp x];exact⟨h1,[],G.nT,rfl,.top,ba _⟩
   . rw[PU]at x;cases x
 intro a Z c L j6 y H I f hc ha hL
 have bl:∀L:List (List Nat),L.length<=o+14->cB [lC G L,kC G L] .len (.ref 0)=S (.val (nV L.length)):=λL hL=>eC ((pN rfl).trans (by(rw[aq _,aq _];rfl))) (aw (Tg PT hL))
 generalize tK:nV a=av
 refine wt (decide (a<L.length)) (br (aa rfl) (cw (aa rfl) (bl L (Th hL))) (tK▸pM)) (λq=> ?_) (λq=> ?_)
 . have q:a=L.length:=by have:=of_decide_eq_false q;lia
   subst q
   rw[Pm]at hc
   exact cb (aa rfl) (hT (.lst (L.map (aV G))) (.inr ⟨L,rfl,f,hc,hL⟩) ⟨_,jn rfl⟩)
 . have q:=of_decide_eq_true q
   obtain ⟨u,x⟩:∃u,L[a]?=S u:=⟨_,dr q⟩
   ((refine au (f.ok u (eX x)) λfi aF=> ?_;refine bo aF λU A O hv hA=> ?_;clear aF);obtain rfl:=O)
   rw[aY,ed]at fi
   have hAS:=A7 w hv
   have i1:bZ [lC G L,kC G L] (.ref 0) av=S (.v (aV G (U++ [A]))):=tK▸lx rfl (aw (by lia)) (by(rw[bw,bw,x]);rfl)
   refine bz (bu (aa rfl) (aa rfl) i1) ?_
   refine d8 (nQ G) (fu G A) (λdone Z=>∀b y H I,L<+:b->Fs G k b->b.length<=L.length+done.length->(∀r∈done,eZ G.nT (U++rhs G r)= []\/k<(eZ G.nT (U++rhs G r)).length\/eZ G.nT (U++rhs G r)∈b)->Z [S (.v GV),S (.v mv),S (.v nv),S (.ref 0),S (.ref 1),S (.v av),S (.v (aV G (U++ [A]))),y,H,I] [lC G b,kC G b]) (oL (bu (aa rfl) (bu (aa rfl) aP BD) (PN hg hAS hA))) ?_ ?_ ?_
   . intro Z c
     exact c L _ _ _ (A4 _) f (ba _) (λ_ h=>(nomatch h))
   . intro done r rest Z c hd b y H I Q f' sE m7
     have hr:r<nR G/\lhs G r=A:=pZ.mp (by rw[hd];simp)
     have h7:=PO w A
     rw[hd,aY,jG]at h7
     refine bt rfl ?_
     refine ag9 w hg hm p8 hr.1 hr.2 hv (by lia) f' (by lia) λL2 j9' BB f2 sQ pB=> ?_
     refine c L2 _ _ _ (Q.trans BB) f2 (by(rw[aY,ed]);exact Ti sE sQ) λr' h_=> ?_
     rcases b5.mp h_ with h_|h_
     . exact(m7 r' h_).imp id λh=>h.imp id λh=>BB.subset h
     . rw[dm.mp h_];exact pB
   . intro b y H I Q f' sE m7
     have h7:=PO w A
     have c1:∀σ,cO σ (.gt ()) (.v (nV b.length)) (.v nv)=S (decide (o<b.length)):=λσ=>hn▸uX
     refine tc (λZ=>b.length<=o->Z [S (.v GV),S (.v mv),S (.v nv),S (.ref 0),S (.ref 1),S (.v av),S (.v (aV G (U++ [A]))),y,H,I] [lC G b,kC G b]) (br (cw (aa rfl) (bl b (Tj hL sE h7))) (aa rfl) (c1 _)) (λZ c q=> ?_) (λZ c q=> ?_) ?_
     . exact cb aP (hT .none (.inl ⟨rfl,b,f',of_decide_eq_true q⟩) (c8 rfl))
     . exact bk (c (gg (of_decide_eq_false q)))
     . intro PW
       have q':=d_ q Q.length_le
       refine bz (b9 (aa rfl) aP (tK▸ @nq a 1)) (bk (c (a+1) (Tn PW q') b _ _ _ _ f' (λu Y=> ?_) q' (To PW)))
       rw[FL,(nE Q q).symm.trans x]at Y
       rcases b5.mp Y with Y|Y
       . refine(hc u ?_).mono Q
         ((refine ao Q λt O=> ?_;clear Q);obtain rfl:=O)
         rwa[GA (b_ q)]at Y
       . have e:=by simpa using Y
         intro α' A' r e' hr ot
         rw[e]at e'
         have e1:=qZ e' rfl
         rw[e1.1.symm]
         exact m7 r (ahb hr (by(rw[ot,(iy e1.2).1];rfl)))
def ReP (G:Gm)(a:V):Prop:=∃m L,1<=m/\m<=3/\a= .tup [nV m,.lst (L.map (aV G))]/\Fs G (m+3) L/\(∀w∈L,nH G (m+3) L w)/\L.length<=1000007
theorem ahc:cV (.pow ()) (.int 10) (.int 6)=S (nV 1000000):=rfl
theorem ahd (w:WF G){b}(r:tJ G b)(y:2<=D):∃a,ReP G a/\(aQ prog D).call 49 [.v b] σ=S (.v a,σ):=by
 refine yh (dE y) rfl rfl rfl rfl λT H=> ?_
 have I:=dH y
 refine d8 nV [3,2] (λ_ Z=>∀k o σ,Z [S (.v b),k,o] σ) (c7 (eY (aj aP (aj aP aA)) (aw (by simp)) rfl) rfl) (λZ q=>q _ _ _) ?_ ?_
 . intro done m rest Z q U k o σ
   have hm:=by
    have:m∈ [3,2]:=by rw[U];simp
    simpa using this
   generalize O:nV m=mv
   refine ah (PR (σ:=σ) w r (mv:=nV _) (nv:=nV _) rfl rfl (by simp) (by lia) (by simp) I) λa ha e=>bt rfl (bz (c6 (aj (aa rfl) (aj (b9 (aa (by rw[O.symm];rfl)) aP (@nq m 3)) (aj aP aA))) e) ?_)
   rcases ha with ⟨rfl,_⟩| ⟨L,rfl,f,c,hl⟩
   . exact gw (tb (aa rfl) rfl) (bk (q _ _ _))
   refine uU (P:=λ_ _=>False) (tb (aa rfl) rfl) (cb (eY (xs:= [.v _,.v _]) (aj (aa (by rw[O];rfl)) (aj (aa rfl) aA)) (aw (by simp)) rfl) (H _ ⟨m,L,by lia,by lia,rfl,f,c,by lia⟩ (c8 rfl))) λ_ _ h=>h.elim
 . intro k o σ
   refine ah (PR (σ:=σ) w r (mv:=nV 4) (nv:=nV 1000000) rfl rfl (by simp) (by simp) (by simp) I) λa ha e=> ?_
   rcases ha with ⟨rfl,L,f,hl⟩| ⟨L,rfl,f,c,hl⟩
   . have:=nD f.nd λu Q=>A6 4 u (λx hx=>d_ (f.G9 w u Q x hx) w.big) (f.ok u Q).1
     rw[afl]at this
     lia
   exact cb (eY (aj aP (aj (c6 (aj (aa rfl) (aj aP (aj (b9 aP aP ahc) aA))) e) aA)) (aw (by simp)) rfl) (H _ ⟨1,L,by simp,by simp,rfl,f,c,by assumption⟩ (c8 rfl))
abbrev Tr:=List (List Nat× (Nat×Nat))
def oY (G:Gm)(a:List Nat)(r:Nat):Tr:=(List.range ((rhs G r).length+1)).map λd=>(a++ (rhs G r).take d,(r,d))
def tF (G:Gm)(f:List Nat):Tr:=(fu G (f.getLast?.getD 0)).flatMap (oY G f.dropLast)
noncomputable def gU (m:Nat)(T:Tr):Tr:=T.filter λt=>decide (t.1.length<=m)
def eG (G:Gm)(m:Nat)(L:List (List Nat)):Tr:=gU m (L.flatMap (tF G))
def jx (T:Tr):List (List Nat):=(T.map (·.1)).foldl fK []
noncomputable def jy (T:Tr)(u:List Nat):List (Nat×Nat):=(T.filter λt=>decide (t.1=u)).map (·.2)
def gV (p:Nat×Nat):V:= .tup [nV p.1,nV p.2]
theorem ahe:∀ {l acc:List _} {x:List _},x∈l.foldl fK acc↔x∈acc\/x∈l:=by
 intro b
 induction b with
 |nil=>
  intro acc x
  simp
 |cons y l c=>
  rw[kW,propext c];rewrite[fK]
  split
  . rename_i h
    constructor
    . rintro (a|a)
      . exact .inl a
      exact .inr (dA _ a)
    . rintro (a|a)
      . exact .inl a
      exact(cy.mp a).elim (λe=> .inl (e▸h)) .inr
  . rw[b5,propext dm,propext cy,propext or_assoc];rfl
theorem ahf (h:acc.Nodup):(fK acc y).Nodup:=by
 rewrite[fK]
 split
 . exact h
 . rename_i q
   exact Zrr (propext qH) ⟨h,by simp,λa ha b hb e=>q (by rw[dm.mp hb]at e;rw[e.symm];assumption)⟩
theorem ahg:∀ {l acc:List _},acc.Nodup->(l.foldl fK acc).Nodup:=by
 intro a
 induction a with
 |nil=>
  intro _ h
  exact h
 |cons y l b=>
  intro acc h
  exact b (ahf h)
theorem G_ (T):(jx T).Nodup:=ahg Bh
theorem vg:u∈jx T↔∃p,(u,p)∈T:=by
 rewrite[jx];rw[ahe,propext bX]
 constructor
 . rintro (h| ⟨⟨v,p⟩,h,rfl⟩)
   . cases h
   exact⟨p,h⟩
 . intro O;exact ao O λp h=> .inr ⟨_,h,rfl⟩
theorem yk:p∈jy T u↔ (u,p)∈T:=by
 rewrite[jy];rw[bX]
 constructor
 . intro O;refine ah O λc h a=> ?_;clear O;subst a
   refine au (fI.mp h) λk b=> ?_
   have:=of_decide_eq_true b
   rw[this.symm];assumption
 exact λh=>⟨_,fI.mpr ⟨h,decide_eq_true rfl⟩,rfl⟩
theorem ahh:jx (T++ [(u,p)])=fK (jx T) u:=by rewrite[jx];rw[bK,g8];rfl
theorem ahi {p}:jy (T++ [(u,p)]) v=if v=u then jy T v++ [p]else jy T v:=by
 rewrite[jy];rw[j_ _ _,bK]
 by_cases h:v=u
 . rw[if_pos h];exact Zrr (pJ (by simpa using h.symm)) rfl
 . rw[if_neg h];refine Zrr (pK (by simpa using λe=>h e.symm)) ?_;rw[xZ,qG,dg _];rfl
theorem ahj (h:u∉jx T):jy T u= []:=ylE.mpr λp a=>h (vg.mpr ⟨p,yk.mp a⟩)
theorem yl {L}(x:∀f∈L,∃a A,f=a++ [A]){u}{r d}:(u,(r,d))∈eG G m L↔u.length<=m/\∃a,a++ [lhs G r]∈L/\Vd G (r,d)/\u=a++ (rhs G r).take d:=by
 rw[eG,gU,propext fI,propext oQ,decide_eq_true_eq,propext and_comm]
 refine and_congr_right λ_=> ?_
 constructor
 . intro O;refine ah O λf hf h=> ?_;clear O
   refine e9 (x f hf) λa A O=> ?_;subst O
   refine ah (oQ.mp h) λy b H=> ?_
   rw[Ha,PX]at b
   refine ah (bX.mp H) λI Q e=> ?_
   rw[Hb]at e
   have c:=PY.mp e
   have k:=PY.mp c.2
   have o:=pZ.mp b
   have:y=r:=k.1
   subst this
   have:I=d:=k.2
   subst this
   exact have U:=o.2;⟨a,by rw[U];assumption,⟨o.1,fU (gu.mp Q)⟩,c.1.symm⟩
 . intro O;refine cD O λa hf q Y=> ?_;clear O;subst Y
   refine⟨_,hf,oQ.mpr ⟨r,?_,bX.mpr ⟨d,gu.mpr (qS q.2),?_⟩⟩⟩
   . rw[Ha];exact pZ.mpr ⟨q.1,rfl⟩
   . rw[Hb];rfl
theorem P_ {L}(nd:L.Nodup)(k:∀f∈L,∃o A,f=o++ [A]):(eG G m L).Nodup:=by
 refine .filter _ ?_
 rw[F6]
 have q:∀ {f:List _} {t:List _×Nat×Nat},t∈tF G f->lhs G t.2.1=f.getLast?.getD 0/\t.1=f.dropLast++ (rhs G t.2.1).take t.2.2:=λ{f t} u=>by
  refine ah (oQ.mp u) λr hr h=>ah (bX.mp h) λd _ O=> ?_;subst O
  exact⟨(pZ.mp hr).2,rfl⟩
 constructor
 . intro f _
   rewrite[tF];refine Zrr (propext F6) ⟨λr _=>Zrr (propext i5) (F4.imp λh e=>h (congrArg (λt:List _×Nat×Nat=>t.2.2) e)),?_⟩
   . refine(N3 G _).imp λh x hx y a e=> ?_
     refine ah (bX.mp hx) λ_ _ O=> ?_;subst O
     refine ah (bX.mp a) λ_ _ O=> ?_;subst O
     exact h (congrArg (λt:List _×Nat×Nat=>t.2.1) e)
 . refine nd.imp_of_mem λ{f g} hf H h x hx y a e=>e9 (k f hf) λo A O=> ?_;subst O
   refine e9 (k g H) λU B O=> ?_;subst O
   refine au (q hx) λx1 x2=>au (q a) λb c=> ?_
   rw[<-e]at b c
   rw[Ha,PX]at x1 b
   rw[Hb]at x2 c
   exact have I:A=B:=x1.symm.trans b;have Q:=List.append_cancel_right (x2.symm.trans c);h (by rw[I,Q];rfl)
theorem Hc (w:WF G){m}{L}(f:Fs G (m+3) L)(c:∀u∈L,nH G (m+3) L u){u}(Q:u.length<=m):(jy (eG G m L) u).Perm (bD G u):=by
 have y:∀g∈L,∃o A,g=o++ [A]:=λg U=>au (f.ok g U) λ_ q=>dh q λo A e _=>⟨o,A,e⟩
 refine u3 (by
  rw[rI];refine Zrr (propext i5) (.imp_of_mem ?_ ((P_ f.nd y).filter _))
  intro a b ha hb ne e
  exact have k:=of_decide_eq_true (fI.mp hb).2;ne (v9 ((of_decide_eq_true (fI.mp ha).2).trans k.symm) e)) (rC (me G u)) λp=> ?_
 rw[yk,propext (yl y),propext kJ]
 constructor
 . intro O;refine au O λ_ q=>cD q λo x k r=>au (f.ok _ x) λ_ q=>bo q λY A' e H _=> ?_;have I:=qZ e rfl
   rw[<-I.1,<-(iy I.2).1]at H
   exact⟨o,H,k,r⟩
 . intro O;refine cD O λδ x k r=>⟨Q,δ,afn w f c x (w.jY k.1).1 ?_,k,r⟩
   have:=congrArg List.length r
   rw[aY]at this
   lia
theorem ahk (w:WF G){m}{L}(f:Fs G (m+3) L)(c:∀u∈L,nH G (m+3) L u){u}:u∈jx (eG G m L)↔bE G u/\u.length<=m:=by
 rw[vg]
 constructor
 . intro O;exact ao O λp h=>have hl:=((yl λg a=>au (f.ok g a) λ_ b=>dh b λk A e _=>⟨k,A,e⟩).mp h).1;⟨⟨p,kJ.mp ((Hc w f c hl).mem_iff.mp (yk.mpr h))⟩,hl⟩
 . intro O;exact au O λo hl=>ao o λp h=>⟨p,yk.mp ((Hc w f c hl).mem_iff.mpr (kJ.mpr h))⟩
def dV (G:Gm)(T:Tr):List (V×V):=(jx T).map λu=>(aV G u,.lst ((jy T u).map gV))
theorem ahl (w:WF G){c}{g:List _->c}{u}{x}(k:WS G u):∀ {K:List _},(∀v∈K,WS G v)->K.Nodup->d9 (aV G u) x (K.map λv=>(aV G v,g v))=(fK K u).map λv=>(aV G v,if v=u then x else g v):=by
 intro o
 induction o with
 |nil=>
  intro _ _
  show _= [(aV G u,if u=u then x else g u)]
  rw[if_pos rfl];rfl
 |cons v K r=>
  intro h nd
  rw[dz,tx,show dK _ _=_ from G6 w (h v cT) k]
  have b:=kB.mp nd
  by_cases e:v=u
  . subst e
    rw[if_pos (decide_eq_true rfl)];rewrite[fK];rw[if_pos cT,dz,if_pos rfl]
    congr 1
    exact vb λy a=>by
     have:y≠v:=λe=>b.1 (e▸a)
     rw[if_neg this];rfl
  . refine Zrr (if_neg (by rw[decide_eq_false e];exact gq)) ?_;rw[r (λy a=>h y (dA _ a)) b.2]
    have:fK (v::K) u=v::fK K u:=by
     rewrite[fK,fK]
     by_cases q:u∈K
     . rw[if_pos q,if_pos (dA _ q)];rfl
     . rw[if_neg q];rewrite[if_neg λz=>(cy.mp z).elim (λH=>e H.symm) q];rfl
    rw[this,dz,if_neg e];rfl
theorem ahm (w:WF G){T}{u}{p}(a:∀t∈T,WS G t.1)(b:WS G u):d9 (aV G u) (.lst ((jy T u).map gV++ [gV p])) (dV G T)=dV G (T++ [(u,p)]):=by
 refine Zrr (ahl w b (λv c=>ao (vg.mp c) λq k=>a _ k) (G_ T)) ?_;rewrite[dV];refine Zrr ahh (vb λv _=> ?_)
 rw[ahi]
 by_cases e:v=u
 . subst e;rw[if_pos rfl,if_pos rfl,bK];rfl
 . rw[if_neg e,if_neg e];rfl
theorem ahn (w:WF G){T}{u}(a:∀t∈T,WS G t.1)(b:WS G u):(ck (aV G u) (dX (dV G T))).getD (.v (.lst []))= .v (.lst ((jy T u).map gV)):=by
 rewrite[dX];rw[PF];refine Zrr (yj w b λv c=>ao (vg.mp c) λq k=>a _ k) ?_
 by_cases q:u∈jx T
 . rw[if_pos q];rfl
 . rw[if_neg q,ahj q];rfl
structure p_ (G:Gm)(T:Tr):Prop where
 ws:∀t∈T,WS G t.1
 len:∀t∈T,t.1.length<=3
 vd:∀t∈T,Vd G t.2
 nd:T.Nodup
theorem p_.keys (w:WF G){T}(h:p_ G T):(jx T).length<=820:=Zrr F9.symm (nD (G_ T) λu b=>ao (vg.mp b) λp a=>A6 3 u (λx hx=>d_ (h.ws _ a x hx) w.big) (h.len _ a))
theorem p_.sel (w:WF G){T}(h:p_ G T)(u):(jy T u).length<=28:=by
 refine u6 w ?_ λp c=>h.vd _ (yk.mp c)
 rewrite[jy];rw[rI,propext i5]
 refine .imp_of_mem ?_ (h.nd.filter _)
 intro a b ha hb ne e
 exact have k:=of_decide_eq_true (fI.mp hb).2;ne (v9 ((of_decide_eq_true (fI.mp ha).2).trans k.symm) e)
theorem p_.pre {T b:Tr}(h:p_ G T)(p:b<+:T):p_ G b:=⟨λt a=>h.ws t (p.subset a),λt a=>h.len t (p.subset a),λt a=>h.vd t (p.subset a),h.nd.sublist p.sublist⟩
theorem aho (w:WF G){m}(hm:m<=3){L}(f:Fs G (m+3) L):p_ G (eG G m L):=by
 have k:∀g∈L,∃a A,g=a++ [A]:=λg H=>au (f.ok g H) λ_ b=>dh b λa A e _=>⟨a,A,e⟩
 refine⟨λ⟨u,r,d⟩ c=> ?_,λ⟨u,r,d⟩ c=>bp ((yl k).mp c).1 hm,λ⟨u,r,d⟩ c=> ?_,P_ f.nd k⟩
 . refine au ((yl k).mp c) λ_ b=>cD b λa q o y=> ?_;have:=f.G9 w _ q
   intro x hx
   rw[y]at hx
   exact(b5.mp hx).elim (λhx=>this x (fg _ hx)) λhx=>(w.sym o.1 x (oC hx)).1
 exact au ((yl k).mp c) λ_ b=>cD b λa q o y=>o
theorem vh {fj T}:gU m (fj++T)=gU m fj++gU m T:=j_ _ _
def rS (G:Gm)(T:Tr):Cell:= .aU .strs (dX (dV G T))
theorem ahp (w:WF G){T}{u}{p}(h:p_ G (T++ [(u,p)])){cl}{ρ}{b}{f d k}(c:∀σ,az cl (.var k) ρ σ=S (.v (aV G u),σ))(o:∀σ,az cl (.var f) ρ σ=S (.ref 0,σ))
 (x:∀σ,az cl (.var d) ρ σ=S (.v (nV p.1),σ))(y:∀σ,az cl b ρ σ=S (.v (nV p.2),σ)){q}{R}{Q}(H:Do (aZ cl q ρ [rS G (T++ [(u,p)])]) Q R):
 Do (aZ cl (.cons (.gk (.var f) (.var k) (.bin ae .add (.da (.var f) .get (.cons (.var k) (.cons (.lst ae .nil) .nil))) (.lst ae (.cons (.tup (.cons (.var d) (.cons b .nil))) .nil)))) q) ρ [rS G T]) Q R:=by
 have a:=h.pre (T.prefix_append _)
 have r:WS G u:=h.ws (u,p) (by simp)
 have sl:=a.sel w u
 have I:=a.keys w
 refine jU (b9 (d7 (o _) (Nq rfl) (aj (c _) (aj (fS aA (aw (eM _)) rfl) aA)) ((PK rfl rR).trans (by rw[ahn w a.ws r];rfl))) (fS (aj (eY (aj (x _) (aj (y _) aA)) (aw (by simp)) rfl) aA) (aw (by simp)) rfl) (nu (by rw[aq _,ed];exact aw (TB sl)))) (o _) (c _) (rz rfl rR (by rw[dX,dV,aq _,aq _];exact aw (bx I (by decide)))) ?_
 exact Zrr (by rewrite[dX];rw[PG,ahm w a.ws r];rfl: .aU _ (d9 _ (.v (.lst ((jy T u).map _++ [gV p]))) _)=rS G _) H
theorem Hd {fj T:Tr}(h:fj<+:T):gU m fj<+:gU m T:=by
 refine ao h λt O=> ?_;clear h;subst O
 rw[vh];exact tj _ _
theorem BG {fj T X:Tr}(h:fj<+:T):X++fj<+:X++T:=(ylQ X).mpr h
def itP (G:Gm)(l:List (Nat×Nat)):V:= .lst (l.map gV)
def dY (G:Gm)(u:List Nat):V:= .lst ((bD G u).map gV)
theorem ahq (h:ik p q):dc (gV q) (gV p)=false:=by
 show(if dK _ _ then if dK _ _ then kR [] []else dc _ _ else dc _ _)=ae
 rw[x7,x7];rcases h with h| ⟨a,b⟩
 . exact Zrr (if_neg (by lia)) decide_eq_false (by lia)
 exact Zrr (if_pos (by lia)) (Zrr (if_neg (by lia)) decide_eq_false (by lia))
theorem ahr {l t:List _}(p:l.Perm t)(s:t.Pairwise ik):gm (l.map gV)=t.map gV:=by
 refine Ed xc ?_ (p.symm.map _) ?_
 . refine λx hx=>ah (bX.mp hx) λq _ O=> ?_;subst O
   rfl
 . unfold pG
   exact Zrr (propext i5) (s.imp ahq)
theorem ahs {l:List _}(h:l.length<aE):mL (l.map gV)=true:=by
 unfold mL
 refine Zrr (show(l.map _).all iR=ab from by rw[nC,propext cF];exact λ_ _=>rfl) (Zrr (decide_eq_true (by rw[aq _];assumption)) ?_);rw[Bool.or_true _];rfl
theorem Qb {α:Type}{c g:α->V}{t}(q:∀a,dR t (c a)=ab){l}(inj:∀a∈l,∀b∈l,a≠b->dK (c a) (c b)=ae):∀(r done:List α),l=done++r->l.Nodup->rY t (r.map λa=> .tup [c a,g a]) (done.map λa=>(c a,g a))=S (l.map λa=>(c a,g a)):=by
 intro u
 induction u with
 |nil=>
  intro done e _
  rw[e,dg _];rfl
 |cons a r y=>
  intro done e nd
  have H:ck (c a) (done.map λa=>(c a,g a))=none:=by
   have k:=λd k=>by
    refine inj d (by rw[e];exact fg _ k) a (by rw[e];simp) λz=> ?_
    rw[e,qH]at nd
    exact nd.2.2 d k a cT z
   clear e nd
   induction done with
   |nil=>rfl
   |cons d done o=>
    rw[dz,mm];exact Zrr (k d cT) (o λx hx=>k x (dA _ hx))
  have o:=y (done++ [a]) (by rw[e,bM _ _ _];rfl) nd
  rw[bK]at o
  exact(b8 (q a)).trans (Zrr (tA H) o)
def qa (G:Gm)(m:Nat)(a:V):Prop:=∃K:List (List Nat),K.Nodup/\(∀u,u∈K↔bE G u/\u.length<=m)/\a= .aU .strs (K.map λu=>(aV G u,dY G u))
theorem aht {d}(a:d<=u.length)(h:u.length<1000):mJ (aV G u) (nV d)=S (aV G (u.take d)):=by
 have hl:((u.map (nm G)).map V.str).length=u.length:=by simp
 refine(b8 (by rw[hl];exact aw (dw h (by decide)))).trans ?_
 rw[hl];rewrite[lQ];rw[y8 _,jI a];rewrite[aV];rw[Bn,Bn];rfl
theorem ahu (w:WF G){Y mv:V}(hg:tJ G Y){m:Nat}(jw:mv=nV m)(hm:m<=3){L:List (List Nat)}(f:Fs G (m+3) L)(c:∀u∈L,nH G (m+3) L u)(hL:L.length<=1000007)(hD:1<=D):
 ∃a,qa G m a/\(aQ prog D).call 50 [.v Y,.v (.lst (L.map (aV G))),.v mv] σ=S (.v a,σ):=by
 refine yh (dE hD) rfl rfl rfl rfl λT hT=> ?_
 have BH:=aho w hm f
 generalize Qc:V.lst (L.map (aV G))=FV
 refine bz tC ?_
 refine d8 (aV G) L (λdone Z=>∀j4 Q U y H,Z [S (.v Y),S (.v FV),S (.v mv),S (.ref 0),j4,Q,U,y,H,J] [rS G (eG G m done)]) (c7 (aa rfl) (by rw[Qc.symm];rfl)) ?_ ?_ ?_
 . intro Z x
   exact x _ _ _ _ _
 . intro done g rest Z x hd j4 Q U y H
   ((refine au (f.ok g (by rw[hd];simp)) λQd aF=> ?_;refine bo aF λo A O hv hA=> ?_;clear aF);obtain rfl:=O)
   rw[aY,ed]at Qd
   have eF:tF G (o++ [A])=(fu G A).flatMap (oY G o):=by rewrite[tF];rw[Ha,PX,Hb];rfl
   have Qe:eG G m done++gU m (tF G (o++ [A]))<+:eG G m L:=by
    rewrite[eG,eG];rw[vh.symm]
    refine Hd ?_
    rw[hd,p6,A_]
    exact BG (tj _ _)
   have eT:eG G m (done++ [o++ [A]])=eG G m done++gU m (tF G (o++ [A])):=by rewrite[eG,eG];rw[vh.symm,p6,Ba _ _];rfl
   rw[eT]at x
   generalize eG G m done=T0 at Qe x ⊢
   refine bt rfl ?_
   refine d8 (nQ G) (fu G A) (λdn Z=>∀Q U y H,Z [S (.v Y),S (.v FV),S (.v mv),S (.ref 0),S (.v (aV G (o++ [A]))),Q,U,y,H,J] [rS G (T0++gU m (dn.flatMap (oY G o)))]) (oL (bu (aa rfl) (bu (aa rfl) aP BD) (PN hg (A7 w hv) hA))) ?_ ?_ ?_
   . intro Z x
     exact kq (x _ _ _ _) (by show _= [rS G (T0++ [])];rw[dg _];rfl)
   . intro dn r rs Z x er Q U y H
     have hr:r<nR G/\lhs G r=A:=pZ.mp (by rw[er];simp)
     have ot:=w.len hr.1
     have Qf:T0++gU m (dn.flatMap (oY G o))++gU m (oY G o r)<+:eG G m L:=by
      rw[bM _ _ _,vh.symm]
      refine(BG (Hd ?_)).trans Qe
      rw[eF,er,p6,A_]
      exact BG (tj _ _)
     have eT1:T0++gU m ((dn++ [r]).flatMap (oY G o))=T0++gU m (dn.flatMap (oY G o))++gU m (oY G o r):=by rw[p6,Ba _ _,vh,bM _ _ _];rfl
     rw[eT1]at x
     generalize T0++gU m (dn.flatMap (oY G o))=T1 at Qf x ⊢
     generalize G':nV r=rv
     have eg:nQ G r= .tup [rv,aV G (rhs G r)]:=by rw[G'.symm];rfl
     rw[eg]
     refine bt rfl ?_
     refine uV nV ((rhs G r).length+1) (λk Z=>∀y H,Z [S (.v Y),S (.v FV),S (.v mv),S (.ref 0),S (.v (aV G (o++ [A]))),S (.v rv),S (.v (aV G (rhs G r))),y,H,J] [rS G (T1++gU m ((List.range k).map λd=>(o++ (rhs G r).take d,(r,d))))])
      (pO (b9 (cw (aa rfl) (BE (bx ot (by decide)))) aP (@nq _ 1)) (aw (q5 ot))) ?_ ?_ ?_
     . intro Z x
       exact kq (x _ _) (by show _= [rS G (T1++ [])];rw[dg _];rfl)
     . intro k Z x hk y H
       have ym:T1++gU m ((List.range (k+1)).map λd=>(o++ (rhs G r).take d,(r,d)))<+:eG G m L:=by
        refine(BG (Hd ?_)).trans Qf
        obtain ⟨e,he⟩:∃e,(rhs G r).length+1=(k+1)+e:=⟨(rhs G r).length - k,(Tx hk)⟩
        have hz:List.range ((k+1)+e)=List.range (k+1)++ (List.range e).map (k+1+ ·):=yqL
        rewrite[oY];rw[he,hz,bK]
        exact tj _ _
       rw[kI,bK,vh,<-bM,u7]at ym x
       generalize T1++gU m ((List.range k).map λd=>(o++ (rhs G r).take d,(r,d)))=T2 at ym x ⊢
       generalize BJ:nV k=kv
       refine bt rfl ?_
       refine bz (b9 (pI (aa rfl) aP (G8 (by lia))) (pI (aa rfl) (aa rfl) (BJ▸aht (fU ‹_›) (bx ot (by decide)))) (G7 (by rw[ie];lia))) ?_
       have c1:∀σ,cO σ .le (.v (nV (o++ (rhs G r).take k).length)) (.v mv)=S (decide ((o++ (rhs G r).take k).length<=m)):=λσ=>jw▸Fo
       refine jV (br (cw (aa rfl) (BE (by(rw[aY,ie]);lia))) (aa rfl) (c1 _)) (λq=> ?_) (λq=> ?_) λ_ _ h=>bk h
       . have e1:gU m [(o++ (rhs G r).take k,(r,k))]= [(o++ (rhs G r).take k,(r,k))]:=pJ q
         have ym:T2++ [(o++ (rhs G r).take k,(r,k))]<+:eG G m L:=by rw[e1.symm];exact ym
         rw[e1]at x
         exact ahp w (BH.pre ym) (λ_=>aa rfl) (λ_=>aa rfl) (λ_=>aa (by rw[G'];rfl)) (λ_=>aa (by rw[BJ];rfl)) (bk (x _ _))
       . have e1:gU m [(o++ (rhs G r).take k,(r,k))]= []:=pK (by rw[q];exact gq)
         rw[e1,dg]at x
         exact bk (x _ _)
     . intro y H
       exact bk (x _ _ _ _)
   . intro Q U y H
     exact bk (kq (x _ _ _ _ _) (by(rw[eF];rfl)))
 . intro j4 Q U y H
   have kw:∀u∈jx (eG G m L),WS G u:=λu I=>by refine ao (vg.mp I) λp hp=> ?_;exact BH.ws _ hp
   have kv:∀u,u∈jx (eG G m L)↔bE G u/\u.length<=m:=λu=>ahk w f c
   have kn:=G_ (eG G m L)
   have kl:=BH.keys w
   have ks:=λu I=>Hc w f c ((kv u).mp I).2
   have sl:=(BH.sel w)
   have lk:∀u∈jx (eG G m L),ck (aV G u) (dV G (eG G m L))=S (.lst ((jy (eG G m L) u).map gV)):=λu I=>(yj w (kw u I) kw).trans (if_pos I)
   refine l_ rfl (Fi rfl) ?_
   have ek:kT (.aU .strs (dV G (eG G m L)))=S ((jx (eG G m L)).map (aV G)):=by
    show S (keysOf _)=_
    rewrite[keysOf,dV];rw[b4];rfl
   generalize dV G (eG G m L)=DV at lk ek
   generalize jx (eG G m L)=K at kw kv kn kl ks lk ek
   generalize He:V.aU .strs DV=dv at ek
   have g:=jo (f:=λa af=>(bV (.one 9) a [S (.v Y),S (.v FV),S (.v mv),S (.v dv),j4,Q,U,y,H,J]).bind λρ'=>az (aQ prog (D - 1)) (.tup (.cons (.var 9) (.cons (.bf ae .sorted (.idx (.var 3) (.var 9))) .nil))) ρ' af) (aV G) (λu=>X.v (.tup [aV G u,dY G u])) K [.dead] λu I=>by
    have b1:cB [.dead] .sorted (.v (.lst ((jy (eG G m L) u).map gV)))=S (.items ((bD G u).map gV)):=by
     refine Zrr (mh rfl (ahs (aw (by have:=sl u;exact bx this (by decide))))) ?_;rw[ahr (ks u I) (me G u)];rfl
    refine aJ rfl (eY (aj (aa rfl) (aj (iH (bu (aa rfl) (aa rfl) ?_) b1) aA)) (aw (by simp)) rfl)
    rw[He.symm];exact xF rR (lk u I)
   have e2:K.map (λu=>X.v (.tup [aV G u,dY G u]))=(K.map λu=>V.tup [aV G u,dY G u]).map .v:=by rw[b4];rfl
   rw[e2]at g
   have hd:=Qb (g:=dY G) (λ_=>rR) (λa ha b hb ne=>(G6 w (kw a ha) (kw b hb)).trans (decide_eq_false ne)) K [] rfl kn
   have kL:(K.map λu=>V.tup [aV G u,dY G u]).length<aE:=by rw[aq _];exact aw (bx kl (by decide))
   have b2:cB [.dead] (.dict .strs) (.v (.lst (K.map λu=>V.tup [aV G u,dY G u])))=S (.val (.aU .strs (K.map λu=>(aV G u,dY G u)))):=(b8 kL).trans (bP hd)
   exact cb (cw (jm (c7 (aa rfl) ek) g (by rw[aq _];exact kL) (fT _)) b2) (hT _ ⟨K,kn,kv,rfl⟩ (c8 rfl))
theorem Qg (h:∀a∈l,gI a a=ab):lN l l=true:=by
 induction l with
 |nil=>rfl
 |cons a l c=>exact dF.mpr ⟨h a cT,c λb hb=>h b (dA _ hb)⟩
theorem ahv:∀(k:Nat) (a:V),isData k a=ab->gI a a=true:=by
 intro k
 induction k with
 |zero=>
  intro a h
  cases a with
  |none=>rfl
  |int a=>exact decide_eq_true rfl
  |str s=>exact decide_eq_true rfl
  |_=>exact bT h
 |succ k b=>
  intro a h
  cases a with
  |none=>rfl
  |int a=>exact decide_eq_true rfl
  |str s=>exact decide_eq_true rfl
  |tup xs=>exact Qg λa ha=>b a (cF.mp h a ha)
  |lst xs=>exact Qg λa ha=>b a (cF.mp h a ha)
  |_=>exact bT h
theorem Qh (h:isData 4 a=ab):eqv a a=S true:=(b8 ⟨h,h⟩).trans (congrArg _ (ahv 4 a h))
theorem eq_self (h:isData 4 a=ab):cO σ .eq (.v a) (.v a)=S true:=by
 cases a<;>first|exact Qh h|exact bT h
theorem ne_self (h:isData 4 a=ab):cO σ .ne (.v a) (.v a)=S false:=by
 cases a<;>first|exact congrArg (Option.map _) (Qh h)|exact bT h
theorem vi (h:∀x∈l,isInt x=ab):isData (k+1) (.lst l)=true:=by
 show l.all _=ab
 rw[cF]
 intro x hx
 have:=h x hx
 cases x<;>first|cases k<;>rfl|exact bT this
theorem ahw (w:WF G){r}(h:r<nR G):isData 3 (nM G r)=true:=by
 show(isData 2 _&& (isData 2 (aV G _) &&ab))=ab
 rw[PL w λx hx=>(w.sym h x hx).1,show isData 2 (.str _)=ab from G5 w (w.jY h).2];rfl
theorem ahx (w:WF G)(o:1<=D):(aQ prog D).call 51 [.v (vG G),.v (.lst (iM G))] σ=S (.v (.bool ab),σ):=by
 refine ec (dE o) rfl rfl rfl rfl λT q=> ?_
 have hr:=w.nr
 refine bz (iG aA (aw (eM _))) (d8 _ _ (λdone Z=>∀b,Z [S (.v (vG G)),S (.v (.lst (iM G))),S (.ref 0),b,J] [cL (done.map (nM G))]) (c7 (a_ (aa rfl) xM) rfl) (λZ c=>c _) ?_ ?_)
 . intro done r rest Z c k b
   have hk:=Fb k
   have hl:=w.len hk
   have dl:done.length<=7:=by
    have:=congrArg List.length k
    rw[cP,aY]at this
    lia
   have g:=jo (f:=λa u=>(bV (.one 4) a [S (.v (vG G)),S (.v (.lst (iM G))),S (.ref 0),S (.v (fH G r)),J]).bind (az (aQ prog (D - 1)) (.idx (.attr (.var 0) 7) (.var 4)) · u)) nV _ _ [cL (done.map (nM G))] λx hx=>
    aJ rfl (bu (a_ (aa rfl) xK) (aa rfl) (AO w (w.sym hk x hx).1))
   rw[(by rw[b4];rw[b4];rfl:(rhs G r).map (λx=>X.v (.str (nm G x)))=(((rhs G r).map (nm G)).map .str).map .v)]at g
   refine bt rfl (fF (d7 (aa rfl) (gy rfl) (aj (eY (aj (bu (a_ (aa rfl) xK) (a_ (aa rfl) FC) (AO w (w.jY hk).2)) (aj (cw (jm (c7 (a_ (aa rfl) xN) rfl) g (by rw[aq _,aq _,aq _];exact aw (bx hl (by decide))) (fT _)) (xH (by rw[aq _,aq _];exact aw (bx hl (by decide))))) aA)) (aw (by simp)) rfl) aA) (i7 rfl (by rw[aq _];exact aw (bx dl (by decide))))) (bk (kq (c _) ?_)))
   rw[bK];rfl
 . refine λb=>l_ rfl (jn rfl) (cb (br (aa rfl) (aa rfl) (eq_self ?_)) (q (c8 rfl)))
   refine Zrr (propext cF) λx hx=>ah (bX.mp hx) λr hr O=> ?_;subst O
   exact ahw w (gu.mp hr)
theorem ahy (h:Vd G p):(decide (0<p.1) &&decide (p.2=(rhs G p.1).length))=kK G p:=by
 have a:=h.2
 rw[kK,cK,Bool.and_comm _ _]
 congr 1
 . rw[qB,propext CZ,propext Dz];exact decide_eq_true_iff.trans ⟨λe=>aN e.symm,λz=>cj a z⟩
 exact decide_eq_decide.mpr Nat.pos_iff_ne_zero
theorem ahz (w:WF G){t:Nat}{u:List Nat}(hu:bE G u)(hD:2<=D):(aQ prog D).call 52 [.v (vG G),.v (gF G ws t u),.v (aV G u),.v (dY G u)] σ=S (.v (.bool ab),σ):=by
 refine ec (ρ:= [S (.v (vG G)),S (.v (gF G ws t u)),S (.v (aV G u)),S (.v (dY G u)),J,J,J,J,J,J,J,J,J]) (dE hD) rfl rfl rfl rfl λT hT=> ?_
 have Q:=dH hD
 have il:=OS w u
 have U:=λσ=>jr (G:=G) (σ:=σ)
 generalize L:gF G ws t u=k
 have Qi:∀σ,ef σ (.v k) 19=S (.v (.lst (ip G u))):=λσ=>L▸yc
 have Hf:∀σ,ef σ (.v k) 17=S (.v (eE G u)):=λσ=>L▸rfl
 have r:∀σ,ef σ (.v k) 18=S (.v (gB u.getLast?)):=λσ=>L▸rfl
 have Y:∀σ,ef σ (.v k) 21=S (.v (.lst (mn G u))):=λσ=>L▸rfl
 have g1:=jo (f:=λa o=>(bV (.two 7 8) a [S (.v (vG G)),S (.v k),S (.v (aV G u)),S (.v (dY G u)),J,J,J,J,J,J,J,J,J]).bind λρ'=>az (aQ prog (D - 1)) (.bN (.var 0) 1 7 (.cons (.var 7) (.cons (.var 8) .nil))) ρ' o) gV (λp=>X.v (vI G p)) (bD G u) [] λp q=>
  aJ rfl (cX (aa rfl) (U _) (aj (aa rfl) (aj (aa rfl) aA)) (uY w (rE p q).1 Q))
 rw[show(bD G u).map (λp=>X.v (vI G p))=((bD G u).map (vI G)).map .v from by rw[b4];rfl]at g1
 have s1:∀σ,cB σ .sorted (.v (.lst ((bD G u).map (vI G))))=S (.items ((bD G u).map (vI G))):=λσ=>by
  refine Zrr (mh rfl (oS lF (by rw[aq _];exact aw (bx il (by decide))))) ?_;rw[tm (.refl _) rE (me G u)];rfl
 refine bz (iH (jm (oL (aa rfl)) g1 (by(rw[aq _,aq _]);exact aw (bx il (by decide))) (fT _)) (s1 _)) ?_
 generalize Hg:V.lst ((bD G u).map (vI G))=y
 have g2:=xD (c:=λa o=>(bV (.two 9 10) a [S (.v (vG G)),S (.v k),S (.v (aV G u)),S (.v (dY G u)),S (.v y),J,J,J,J,J,J,J,J]).bind λρ'=>(az (aQ prog (D - 1)) (.or (.cmp (.gt ()) (.var 10) (.cst (.int 0))) (.cmp .eq (.var 9) (.cst (.int 0)))) ρ' o).bind gn)
  (f:=λa o=>(bV (.two 9 10) a [S (.v (vG G)),S (.v k),S (.v (aV G u)),S (.v (dY G u)),S (.v y),J,J,J,J,J,J,J,J]).bind λρ'=>az (aQ prog (D - 1)) (.bN (.var 0) 1 7 (.cons (.var 9) (.cons (.var 10) .nil))) ρ' o) gV gf (λp=>X.v (vI G p)) (bD G u) []
  (λp q=>aJ rfl (jl (aes (br (aa rfl) aP (uX)) λ_=>br (aa rfl) aP (td))))
  (λp q _=>aJ rfl (cX (aa rfl) (U _) (aj (aa rfl) (aj (aa rfl) aA)) (uY w (rE p q).1 Q)))
 rw[show((bD G u).filter gf).map (λp=>X.v (vI G p))=((aW G u).map (vI G)).map .v from by rw[b4];rfl]at g2
 have O:=Ge w u
 have s2:∀σ,cB σ .sorted (.v (.lst ((aW G u).map (vI G))))=S (.items ((aW G u).map (vI G))):=λσ=>by
  refine Zrr (mh rfl (oS lF (by rw[aq _];exact aw (bx O (by decide))))) ?_;rw[tm (List.Perm.refl _) pY (rD G u)];rfl
 refine bz (iH (xx (oL (aa rfl)) g2 (by(rw[aq _,aq _]);exact aw (bx O (by decide))) (fT _)) (s2 _)) ?_
 generalize H:V.lst ((aW G u).map (vI G))=I
 have g3:=xD (c:=λa o=>(bV (.two 11 12) a [S (.v (vG G)),S (.v k),S (.v (aV G u)),S (.v (dY G u)),S (.v y),S (.v I),J,J,J,J,J,J,J]).bind λρ'=>(az (aQ prog (D - 1)) (.and (.cmp (.gt ()) (.var 11) (.cst (.int 0))) (.cmp .eq (.var 12) (.bf ae .len (.attr (.idx (.attr (.var 0) 9) (.var 11)) 2)))) ρ' o).bind gn)
  (f:=λa o=>(bV (.two 11 12) a [S (.v (vG G)),S (.v k),S (.v (aV G u)),S (.v (dY G u)),S (.v y),S (.v I),J,J,J,J,J,J,J]).bind λρ'=>az (aQ prog (D - 1)) (.var 11) ρ' o) gV (kK G) (λp=>X.v (nV p.1)) (bD G u) []
  (λp q=>aJ rfl (jl (by
   have hv:=rE p q
   have b:∀σ,cB σ .len (.v (.tup ((rhs G p.1).map nV)))=S (.val (nV (rhs G p.1).length)):=λσ=>eC (congrArg S (aq _)) (aw (by have:=w.len hv.1;exact bx this (by decide)))
   rw[(ahy hv).symm]
   exact xt (br (aa rfl) aP (uX)) λ_=>br (aa rfl) (cw (a_ (bu (a_ (aa rfl) xM) (aa rfl) (AN w hv.1)) xN) (b _)) td)))
  (λp q _=>aJ rfl (aa rfl))
 have rl:(mn G u).length<=28:=by
  have:=jZ (kK G) (bD G u)
  rewrite[mn];rw[aq _];exact bp ‹_› ‹_›
 rw[show((bD G u).filter (kK G)).map (λp=>X.v (nV p.1))=(mn G u).map .v from by rewrite[mn];rw[b4];rfl]at g3
 refine bz (xx (oL (aa rfl)) g3 (by rw[aq _];exact aw (bx rl (by decide))) (fT _)) ?_
 have d4:isData 4 y=true:=Hg▸vi lF
 have d5:isData 4 I=true:=H▸vi lF
 have d6:isData 4 (.lst (mn G u))=true:=vi x6
 have t1:∀σ,cB σ .sorted (.v (.lst (ip G u)))=S (.items ((bD G u).map (vI G))):=λσ=>OT w rfl
 have t2:∀σ,cB σ .list (.v (eE G u))=S (.items ((aW G u).map (vI G))):=λσ=>Fu (by rw[aq _];exact aw (bx O (by decide)))
 have cl:=rG w u
 have t3:∀σ,cB σ .list (.v (.lst (ip G u)))=S (.items (ip G u)):=λσ=>AJ (by(rewrite[ip];rw[aq _]);exact aw (bx cl (by decide)))
 have t4:∀σ,cB σ .list (.v (.lst (mn G u)))=S (.items (mn G u)):=λσ=>AJ (aw (bx rl (by decide)))
 have t5:∀σ,cB σ .len (.v I)=S (.val (nV (aW G u).length)):=λσ=>H▸eC (congrArg S (aq _)) (aw (bx O (by decide)))
 have t6:mJ (.lst (ip G u)) (nV (aW G u).length)=S I:=by
  have hl:(ip G u).length=(cls G u).length:=aq _
  have hkc:(aW G u).length<=(cls G u).length:=by rewrite[cls];rw[aY];exact dO _ _
  refine(b8 (by rw[hl];exact aw (bx cl (by decide)))).trans ?_
  rw[hl];rewrite[lQ];refine Zrr (if_neg (by lia)) ?_;rw[y8 _,jI hkc];rewrite[ip,cls];rw[bK];refine Zrr (GA (by rw[aq _];exact ba _)) ?_;refine Zrr (f_ (by rw[aq _];exact ba _)) ?_;rw[H];rfl
 refine gw (jT (br (iH (a_ (aa rfl) (Qi _)) (t1 _)) (aa (by rw[Hg];rfl)) (Hg▸ne_self d4)) (jT (br (iH (a_ (aa rfl) (Hf _)) (t2 _)) (aa (by rw[H];rfl)) (H▸ne_self d5)) (br (pI (iH (a_ (aa rfl) (Qi _)) (t3 _)) (cw (aa rfl) (t5 _)) t6) (aa rfl) (ne_self d5)))) ?_
 refine cb (aR:= []) (xp (br (iH (a_ (aa rfl) (Y _)) (t4 _)) (aa rfl) (eq_self d6)) ?_) (hT (c8 rfl))
 rcases snoc_cases u with rfl| ⟨v,X,rfl⟩
 . exact br (a_ (aa rfl) (r _)) (AD (br (aa rfl) (eY aA (aw (eM _)) rfl) (yi w λx hx=>nomatch hx)) aP) rfl
 . have hw:=mf w hu
   have r:=r []
   rw[OJ]at r
   exact br (a_ (aa rfl) r) (AA (br (aa rfl) (eY aA (aw (eM _)) rfl) ((yi w hw).trans (by refine Zrr (decide_eq_false (by simp)) ?_;rfl))) (cX (aa rfl) (U _) (aj (bu (aa rfl) aP BD) aA) (AQ w (hw X (by simp)) Q))) (td.trans (by(rw[decide_eq_true rfl];rfl)))
def mw (G:Gm)(ws:List (List Nat))(u:List Nat):V:= .tup [aV G u,nV (stN G ws u)]
def jz (G:Gm)(ws L:List (List Nat)):Cell:=cL (L.map (mw G ws))
structure oZ (ws done:List (List Nat))(f:Nat):Prop where
 le:f<=ws.length
 Hh:∀t,t<f->∀u,ws[t]?=S u->u∈done
 out:∀u,ws[f]?=S u->u∉done
theorem oZ.step (w:WF G)(f:Fin G ws){m a n}{F}(U:tq F)(all:∀u,bE G u->u.length<=m->u∈F)(mem:∀u∈F,bE G u/\u.length<=m)(h:oZ ws (F.take a) n){u}(r:F[a]?=S u):
 ∃v,ws[stN G ws u]?=S v/\bD G v=bD G u/\((stN G ws u=n/\v=u/\oZ ws (F.take (a+1)) (n+1))\/(stN G ws u<n/\oZ ws (F.take (a+1)) n)):=by
 have hm:=mem u (eX r)
 have yp:∀x∈u,x<16:=λx hx=>by have:=mf w hm.1 x hx;have:=w.big;exact dw (ee ‹_› this) (by decide)
 have below:∀z,bE G z->num z<=num u->z=u\/z∈F.take a:=λz vz b=>by
  refine ao (uF (all z vz (bp (F7 u z yp b) hm.2))) λi k=> ?_
  rcases i.lt_trichotomy a with q|q|q
  . exact .inr (eX (by(rw[w9,if_pos q]);exact k))
  . subst q;rw[r]at k;cases k;exact .inl rfl
  . exact absurd (tu U r k q) (mD b)
 have H:∀z∈F.take a,num z<num u:=λz b=>by
  refine ao (uF b) λi k=> ?_
  rw[w9]at k
  split at k
  . rename_i q;exact tu U k r q
  . exact aD k
 have I:F.take (a+1)=F.take a++ [u]:=by rw[FL,r];rfl
 refine cD (f.first w hm.1) λv o BK Y=> ?_
 have vv:=(f.BI w).u0 v (eX o)
 refine⟨v,o,BK,?_⟩
 rw[I]
 have jL:=f.z7 w
 have L:∀t z,ws[t]?=S z->bE G z:=λt z b=>(f.BI w).u0 z (eX b)
 rcases(stN G ws u).lt_trichotomy n with q|q|q
 . refine .inr ⟨q,h.le,λt O z b=>fg _ (h.Hh t O z b),λz b c=> ?_⟩
   rcases b5.mp c with c|c
   . exact h.out z b c
   . rw[dm.mp c]at b
     have:=f.xS w b
     exact HX q this
 . have e:=(below v vv Y).resolve_right (h.out v (q▸o))
   refine .inl ⟨q,e,?_⟩
   subst e
   refine⟨by have:=(dk.mp o).1;exact bx (aN q.symm) this,λt O z b=> ?_,λz b c=> ?_⟩
   . rcases yC (fU O)with Q|Q
     . exact fg _ (h.Hh t Q z b)
     . rw[Q,<-q,o]at b;cases b;simp
   . have y:=tu jL o b (TO q)
     rcases b5.mp c with c|c
     . have:=H z c;exact TP y this
     . rw[dm.mp c]at y;lia
 . exfalso
   have hlt:=(dk.mp o).1
   have b:ws[n]?=S ws[n]:=dr (dw q hlt)
   have y:=tu jL b o q
   rcases below _ (L _ _ b) (b_ (ee y Y))with e|e
   . rw[e]at y;lia
   . exact h.out _ b e
theorem ahD (w:WF G):lR 0 (G.fG.map .str)=(List.range (nS G)).map λx=> .tup [nV x,.str (nm G x)]:=by
 rw[Fj _ _]
 refine gP λi=> ?_
 rw[bw,lG,bw,bw]
 rcases i.lt_or_ge _ with h|h
 . rw[iI h,pT h,fb _];rfl
 . refine Zrr (eU (Zrr cP h)) ?_;rw[eU h];rfl
theorem ahE (w:WF G){m}{b}(c:qa G m b){u}(k:WS G u)(hl:u.length<=m):n7 σ (aV G u) (.v b)=S (gS G ws u).isSome:=by
 refine cD c λK nd a O=> ?_;clear c;subst O
 refine(PM rR).trans (congrArg _ ?_)
 rewrite[yj w k λv o=>mf w ((a v).mp o).1]
 by_cases q:bE G u
 . rw[if_pos ((a u).mpr ⟨q,hl⟩),kN q];rfl
 . rewrite[if_neg λz=>q ((a u).mp z).1];rw[lH q];rfl
theorem yq (w:WF G){m}{a}(b:qa G m a){u}(v:bE G u)(hl:u.length<=m):bZ σ (.v a) (aV G u)=S (.v (dY G u)):=by
 refine cD b λK nd c O=> ?_;clear b;subst O
 exact xF rR ((yj w (mf w v) λv k=>mf w ((c v).mp k).1).trans (if_pos ((c u).mpr ⟨v,hl⟩)))
theorem Qk (w:WF G){u}{x}(h:u.length<900):cV .add (aV G u) (.tup [.str (nm G x)])=S (aV G (u++ [x])):=G7 (v:= [x]) (by show u.length+1<1000;exact Uu h)
theorem ahF (w:WF G)(f:Fin G ws){m}{H mv O}(hV:qa G m H)(hm:m<=3)(hD:2<=D){u}(v:bE G u)(U:u.length<m){L}(hL:L.length<=820){y}{c o r}{ss}{R}{Q}{I}(mA:I=nV (stN G ws u))
 (kk:∀c o r,Do (aZ (aQ prog D) ss [S (.v (vG G)),S (.v (vM G ws)),S (.v H),S (.v mv),S (.ref 0),S (.ref 1),S (.v O),S (.v (aV G u)),S (.v I),c,o,r] [jz G ws (L++ (bS G u).map λX=>u++ [X]),y]) Q R):
 Do (aZ (aQ prog D) (.cons (.cq (.two 9 10) (.enum (.attr (.var 0) 7)) B1) ss) [S (.v (vG G)),S (.v (vM G ws)),S (.v H),S (.v mv),S (.ref 0),S (.ref 1),S (.v O),S (.v (aV G u)),S (.v I),c,o,r] [jz G ws L,y]) Q R:=by
 generalize Y:vM G ws=MV
 have hb:=w.big
 have sel:=λk=>by
  have:=jZ (λX=>(gS G ws (u++ [X])).isSome) (List.range k)
  rwa[cP]at this
 refine uV (λx=> .tup [nV x,.str (nm G x)]) (nS G) (λk Z=>∀c o r,Z [S (.v (vG G)),S (.v MV),S (.v H),S (.v mv),S (.ref 0),S (.ref 1),S (.v O),S (.v (aV G u)),S (.v I),c,o,r] [jz G ws (L++ ((List.range k).filter λX=>(gS G ws (u++ [X])).isSome).map λX=>u++ [X]),y])
  ((E9 (a_ (aa rfl) xK) (by rw[aq _];exact aw (by unfold nS at hb;lia))).trans (by(rw[ahD w];rfl))) ?_ ?_ ?_
 . intro Z a
   exact kq (a _ _ _) (by rw[List.range_zero];show _= [jz G ws (L++ []),y];rw[dg _];rfl)
 . intro k Z a hk c o r
   have wu:=λx hx=>(b5.mp hx).elim (mf w v x) λe=>by rw[dm.mp e];assumption
   have sk:=sel k
   rw[kI,j_,bK]at a
   generalize ((List.range k).filter λX=>(gS G ws (u++ [X])).isSome)=fj at sk a ⊢
   generalize BJ:nV k=kv
   refine bt rfl ?_
   have g1:=λσ=>Gz (σ:=σ) (X:=k) w f v hD
   rw[Y,<-mA,BJ]at g1
   have cM:∀σ,n6 σ (.v MV)=S 4:=λσ=>Y▸nK
   refine bz (cX (aa rfl) (cM _) (aj (aa rfl) (aj (aa rfl) aA)) (g1 _)) ?_
   have i1:=λσ=>ahE (σ:=σ) (ws:=ws) w hV wu (by(rw[aY,ed]);exact U)
   have cn:∀b:Bool,∀σ,cO σ .ne (.v (.bool b)) (.v (.bool b))=S false:=λb σ=>by cases b<;>rfl
   have cI:=i1
   refine gw (br (br (aa rfl) aP xY) (br (b9 (aa rfl) (eY (aj (aa rfl) aA) (aw (by simp)) rfl) (Qk w (dw (ee U hm) (by decide)))) (aa rfl) (cI _)) (cn _ _)) ?_
   refine jV
    (br (aa rfl) aP xY) (λq=> ?_) (λq=> ?_) λ_ _ h=>bk h
   . have vk:=ylH λz=>by rw[lH z]at q;exact bT q
     have e1:([k]).filter (λX=>(gS G ws (u++ [X])).isSome)= [k]:=pJ q
     rw[e1]at a
     rw[kN vk]
     refine fF (d7 (aa rfl) (gy rfl) (aj (eY (aj (b9 (aa rfl) (eY (aj (aa rfl) aA) (aw (by simp)) rfl) (Qk w (dw (ee U hm) (by decide)))) (aj (aa rfl) aA)) (aw (by simp)) rfl) aA) (i7 rfl (by(rw[aq _,aY,aq _]);exact aw (S3 hL hb hk sk)))) (bk (kq (a _ _ _) ?_))
     show [cL ((L++fj.map (λX=>u++ [X])).map (mw G ws)++ [mw G ws (u++ [k])]),y]=_
     rewrite[jz];rw[(bM _ _ _).symm,(bK (l₁:=L++_))];rfl
   . have e1:([k]).filter (λX=>(gS G ws (u++ [X])).isSome)= []:=pK (by rw[q];exact gq)
     rw[e1,qG,dg]at a
     exact bk (a _ _ _)
 . intro c o r
   have e:((List.range (nS G)).filter λX=>(gS G ws (u++ [X])).isSome)=bS G u:=ypC λX _=>by
    by_cases q:bE G (u++ [X])
    . rw[kN q];simp[q]
    . rw[lH q];simp[q]
   rw[e,Y.symm]
   exact kk _ _ _
def WaP (G:Gm)(ws:List (List Nat))(m:Nat)(a:V):Prop:=∃F n,tq F/\F≠ []/\(∀u,u∈F↔bE G u/\u.length<=m)/\oZ ws F n/\a= .tup [.lst (F.map (mw G ws)),.lst ((ws.take n).map (aV G))]
theorem Hj:isData 4 (dY G u)=true:=by
 show((bD G u).map _).all _=ab
 rw[nC];exact Zrr (propext cF) λ_ _=>rfl
theorem ahG (w:WF G)(f:Fin G ws){m:Nat}{I mv:V}(hV:qa G m I)(hm:m<=3)(jw:mv=nV m)(hD:3<=D):∃a,WaP G ws m a/\(aQ prog D).call 53 [.v (vG G),.v (vM G ws),.v I,.v mv] σ=S (.v a,σ):=by
 refine yh (dE hD) rfl rfl rfl rfl λT hT=> ?_
 have bQ:=dH hD
 have Fl:=Ga w hm 821
 have Fm:=F8 w m 821
 have Fs:=((N8 w m).inv 821).1
 have Fa:∀u,bE G u->u.length<=m->u∈LW G m 821:=λu v h=>afj w (by with_reducible exact k9 ‹_›) v h
 have e0:∀cl ρ σ,az cl (.lst ab (.cons (.tup (.cons (.tup .nil) (.cons (.cst (.int 0)) .nil))) .nil)) ρ σ=S (.ref σ.length,σ++ [jz G ws [[]]]):=λcl ρ σ=>by
  rewrite[jz];rw[u7];rewrite[mw];rw[f.xU w];rfl
 refine AE (aj (e0 _ _ _) (aj (iG aA (aw (eM _))) (aj aP aA))) rfl ?_
 refine uW (λa Z=>∀n j7 j8 o r y,a<=(LW G m a).length->oZ ws ((LW G m 821).take a) n->Z [S (.v (vG G)),S (.v (vM G ws)),S (.v I),S (.v mv),S (.ref 0),S (.ref 1),S (.v (nV a)),j7,j8,o,r,y] [jz G ws (LW G m a),lC G (ws.take n)]) (λa=>821 - a) 0
  (λZ b=>b 0 _ _ _ _ _ (dM _) ⟨dM _,λt ht=>absurd ht (HG _),λu _ h=>by rw[PU]at h;cases h⟩) (by show _<2^22;exact T9) ?_
 intro a Z b n j7 j8 o r y ha hn
 have al:=Ga w hm a
 have bl:cB [jz G ws (LW G m a),lC G (ws.take n)] .len (.ref 0)=S (.val (nV (LW G m a).length)):=eC ((pN rfl).trans (by(rw[aq _,aq _];rfl))) (aw (by exact bx al (by decide)))
 generalize tK:nV a=Y
 refine wt (decide (a<(LW G m a).length)) (br (aa rfl) (cw (aa rfl) bl) (tK▸pM)) (λq=> ?_) (λq=> ?_)
 . have q:=of_decide_eq_false q
   have stop:∀j,a<=j->LW G m j=LW G m a:=λj hj=>by
    induction hj with
    |refl=>rfl
    | @step k hj ih=>
     have wB:=hj
     refine Zrr (u4 (eU (by rw[ih];lia))) ?_;exact ih
   have e:=stop 821 (by exact b_ (bx (iP ha al) (by decide)))
   rw[e]at hn Fs Fm Fa Fl
   rw[f_ (by lia)]at hn
   refine l_ rfl (jn rfl) (l_ rfl (jn rfl) ?_)
   refine cb (eY (aj (aa rfl) (aj (aa rfl) aA)) (aw (by simp)) rfl) (hT _ ⟨LW G m a,n,Fs,?_,λu=>⟨Fm u,λh=>Fa u h.1 h.2⟩,hn,rfl⟩ (c8 rfl))
   exact yoQ (Fa [] (xP w) (dM _))
 . have q:=of_decide_eq_true q
   obtain ⟨u,hu⟩:∃u,(LW G m a)[a]?=S u:=⟨_,dr q⟩
   have nW:=(nE (A5 (show a<=821 by lia)) q).symm.trans hu
   refine au (F8 w m a u (eX hu)) λU fi=> ?_
   refine cD (hn.step w f Fs Fa Fm nW) λv hv BK Ql=> ?_
   have vv:=(aeU BK).mpr U
   have i1:bZ [jz G ws (LW G m a),lC G (ws.take n)] (.ref 0) Y=S (.v (mw G ws u)):=tK▸lx rfl (aw (by lia)) (by(rw[bw,bw,hu]);rfl)
   refine xy (bu (aa rfl) (aa rfl) i1) rfl ?_
   have ahH:=(dk.mp hv).1
   have fy:=ki f
   have Qm:∀k,k<=ws.length->∀c,cB [c,lC G (ws.take k)] .len (.ref 1)=S (.val (nV k)):=λk hk c=>(eC ((pN (xs:=((ws.take k).map (aV G)).map .v) rfl).trans (by(rw[aq _,aq _,ie,jI hk];rfl))) (by with_reducible exact e_ ‹_› ‹_›))
   have cS:∀k σ,cO σ .eq (.v (nV (stN G ws u))) (.v (nV k))=_:=λk σ=>td
   have cG:∀k σ,cO σ (.gt ()) (.v (nV (stN G ws u))) (.v (nV k))=_:=λk σ=>uX
   have iS:∀σ,bZ σ (.v (.lst (kM G ws))) (nV (stN G ws u))=S (.v (gF G ws (stN G ws u) v)):=λσ=>rN f hv
   have iF:∀k,stN G ws u<k->∀c,bZ [c,lC G (ws.take k)] (.ref 1) (nV (stN G ws u))=S (.v (aV G v)):=λk hk c=>lx rfl (by exact dw ahH fy) (by(rw[bw,bw,w9,if_pos hk,hv]);rfl)
   have hvl:v.length<=m:=by
    have yp:∀x∈u,x<16:=λx hx=>by have:=mf w U x hx;have:=w.big;exact dw (ee ‹_› this) (by decide)
    refine cD (f.first w U) λv' fo _ ahI=> ?_
    rw[hv]at fo;cases fo
    exact bp (F7 u v yp ahI) fi
   have mc:∀σ,ef σ (.v (vM G ws)) 24=S (.v (.lst (kM G ws))):=λσ=>lI
   have ahJ:u=v->∀t σ,(aQ prog (D - 1)).call 52 [.v (vG G),.v (gF G ws t v),.v (aV G u),.v (dY G u)] σ=S (.v (.bool ab),σ):=λe t σ=>by subst e;exact ahz w U bQ
   have Hk:∀ {o r y:Option X} {k:Nat} {L:List (List Nat)} {ss:Ss} {R:X->Hp->Prop} {Q:Env->Hp->Prop},u.length<m->L.length<=820->(∀o r y,Do (aZ (aQ prog (D - 1)) ss [S (.v (vG G)),S (.v (vM G ws)),S (.v I),S (.v mv),S (.ref 0),S (.ref 1),S (.v Y),S (.v (aV G u)),S (.v (nV (stN G ws u))),o,r,y] [jz G ws (L++ (bS G u).map λX=>u++ [X]),lC G (ws.take k)]) Q R)->
    Do (aZ (aQ prog (D - 1)) (.cons (.cq (.two 9 10) (.enum (.attr (.var 0) 7)) B1) ss) [S (.v (vG G)),S (.v (vM G ws)),S (.v I),S (.v mv),S (.ref 0),S (.ref 1),S (.v Y),S (.v (aV G u)),S (.v (nV (stN G ws u))),o,r,y] [jz G ws L,lC G (ws.take k)]) Q R:=λO h2 kk=>ahF w f hV hm bQ U O h2 rfl kk
   generalize mA:nV (stN G ws u)=sv at cS cG iS iF Hk
   generalize o3:vM G ws=MV at mc Hk b
   refine tc (λZ=>∀H,stN G ws u<H->H<=ws.length->oZ ws ((LW G m 821).take (a+1)) H->Z [S (.v (vG G)),S (.v MV),S (.v I),S (.v mv),S (.ref 0),S (.ref 1),S (.v Y),S (.v (aV G u)),S (.v sv),o,r,y] [jz G ws (LW G m a),lC G (ws.take H)])
    (br (aa rfl) (cw (aa rfl) (Qm n hn.le _)) (cS n _)) (λZ b q=> ?_) (λZ b q=> ?_) ?_
   . have q:=of_decide_eq_true q
     rcases Ql with ⟨O,h2,h3⟩| ⟨O,_⟩
     . refine gw (xw (p:=ab) (c6 (aj (aa rfl) (aj (bu (a_ (aa rfl) (mc _)) (aa rfl) (iS _)) (aj (aa rfl) (aj (bu (aa rfl) (aa rfl) (yq w hV U fi)) aA)))) (ahJ h2.symm _ _))) ?_
       refine fF (d7 (aa rfl) (gy rfl) (aj (aa rfl) aA) (i7 (l:=(ws.take n).map (aV G)) rfl (by(rw[aq _,ie]);have:=hn.le;rw[jI hn.le];with_reducible exact e_ ‹_› ‹_›))) (bk (kq (b (n+1) (by lia) h3.le h3) ?_))
       show [jz G ws (LW G m a),cL ((ws.take n).map (aV G)++ [aV G u])]=_
       rewrite[lC];rw[FL,O.symm,hv,h2,bK];rfl
     . lia
   . have q:=of_decide_eq_false q
     rcases Ql with ⟨O,_⟩| ⟨O,h3⟩
     . exact absurd O q
     . exact bk (b n O hn.le h3)
   . intro H hlt iW w4
     have eqi:dY G v=dY G u:=by rewrite[dY,dY];rw[BK];rfl
     refine gw (jT (br (aa rfl) (cw (aa rfl) (Qm H iW _)) ((cG H _).trans (by(refine Zrr (decide_eq_false (by exact mD (b_ hlt))) ?_;rfl)))) (br (bu (aa rfl) (bu (aa rfl) (aa rfl) (iF H hlt _)) (yq w hV vv hvl)) (bu (aa rfl) (aa rfl) (yq w hV U fi)) (eqi▸ne_self Hj))) ?_
     have c3:∀σ,cO σ .lt (.v (nV u.length)) (.v mv)=S (decide (u.length<m)):=λσ=>jw▸pM
     have lw:=xX (G:=G) hu
     have al':=Ga w hm (a+1)
     have next:∀o r y,Do (aZ (aQ prog (D - 1)) (.cons (.set 6 (.bin ae .add (.var 6) (.cst (.int 1)))) .nil) [S (.v (vG G)),S (.v MV),S (.v I),S (.v mv),S (.ref 0),S (.ref 1),S (.v Y),S (.v (aV G u)),S (.v sv),o,r,y] [jz G ws (LW G m (a+1)),lC G (ws.take H)]) Z T:=λo r y=>by
      refine bz (b9 (aa rfl) aP (tK▸ @nq a 1)) (bk (b (a+1) (by lia) H _ _ _ _ _ ?_ w4))
      have:=(N9 (G:=G) (k:=m) a).length_le
      lia
     refine tc (λZ=>∀o r y,Z [S (.v (vG G)),S (.v MV),S (.v I),S (.v mv),S (.ref 0),S (.ref 1),S (.v Y),S (.v (aV G u)),S (.v sv),o,r,y] [jz G ws (LW G m (a+1)),lC G (ws.take H)]) (br (cw (aa rfl) (BE (by exact bx (iP fi hm) (by decide)))) (aa rfl) (c3 _)) (λZ b q=> ?_) (λZ b q=> ?_) ?_
     . have q:=of_decide_eq_true q
       rw[if_pos q]at lw
       rw[lw]at b
       exact Hk q al λo r y=>bk (b _ _ _)
     . have q:=of_decide_eq_false q
       rw[if_neg q,dg]at lw
       rw[lw]at b
       exact bk (b _ _ _)
     . exact next
theorem yr:cO σ .ne (.v (nV a)) (.v (nV b))=S !decide (a=b):=congrArg (Option.map _) (congrArg S (decide_eq_decide.mpr pL))
theorem Qn {k}:isData (k+1) (dJ u)=true:=by
 show(u.map nV).all _=ab
 rw[nC,propext cF]
 intro x _
 cases k<;>rfl
theorem yt {l:List _}{k}:isData (k+1) (.lst (l.map nV))=true:=vi x6
theorem aiN:kT (.lst l)=S l:=rfl
theorem ahK:lR 0 (ws.map dJ)=ws.zipIdx.map λp=> .tup [nV p.2,dJ p.1]:=by
 rw[Fj _ _]
 refine gP λi=> ?_
 rw[bw,lG,bw,bw,lG]
 cases ws[i]?<;>rfl
theorem ahL (w:WF G)(f:Fin G ws){m n:Nat}{F:List (List Nat)}(hF:∀u,u∈F↔bE G u/\u.length<=m)(hn:oZ ws F n){mv:V}(jw:mv=nV m)(L:4<=D):(aQ prog D).call 54 [.v (vM G ws),.v (.lst ((ws.take n).map dJ)),.v mv] σ=S (.v (.bool ab),σ):=by
 refine ec (dE L) rfl rfl rfl rfl λT hT=> ?_
 have k:=dH L
 have b:=ki f
 have e1:=Pb (σ:= []) w f (bp (by decide) k)
 refine bz (c6 (aj (aa rfl) (aj aP aA)) e1) ?_
 have Q:∀σ,cB σ .len (.v (.lst (ws.map dJ)))=S (.val (nV ws.length)):=λσ=>eC (congrArg S (aq _)) b
 have b2:∀σ,cB σ .len (.v (.lst (kM G ws)))=S (.val (nV ws.length)):=λσ=>eC (congrArg S Gy) b
 have U:∀σ,cB σ .len (.v (.lst ((ws.take n).map dJ)))=S (.val (nV n)):=λσ=>eC (congrArg S (by(rw[aq _,ie,jI hn.le];rfl))) (e_ hn.le b)
 refine gw (br (cw (aa rfl) (Q _)) (cw (a_ (aa rfl) lI) (b2 _)) (yr.trans (by rw[decide_eq_true rfl];rfl))) ?_
 refine d8 (λp:List Nat×Nat=> .tup [nV p.2,dJ p.1]) ws.zipIdx (λ_ Z=>∀o r,Z [S (.v (vM G ws)),S (.v (.lst ((ws.take n).map dJ))),S (.v mv),S (.v (.lst (ws.map dJ))),o,r] []) ((E9 (aa rfl) (by rw[aq _];exact b)).trans (by(rw[ahK];rfl))) (λZ y=>y _ _) ?_ ?_
 . (intro done O;obtain ⟨u,t⟩:=O;intro rest Z y hd o r)
   have a:ws[t]?=S u:=agj hd
   have Y:=(f.BI w).u0 u (eX a)
   have ht:=f.xS w a
   have Qo:=λσ=>ya (σ:=σ) (K:=dJ u) w f rfl k
   rw[kN Y,ht]at Qo
   have ul:=e_ (f.GO a) (gY (dB a) b)
   have bl:∀σ,cB σ .len (.v (dJ u))=S (.val (nV u.length)):=λσ=>eC (congrArg S (aq _)) ul
   refine bt rfl (gw (jT (tb (aa rfl) rfl) (br (cX (aa rfl) nK (aj aP (aj (aa rfl) aA)) (Qo _)) (aa rfl) (yr.trans (by rw[decide_eq_true rfl];rfl)))) (gw ?_ (bk (y _ _))))
   rcases t.lt_or_ge n with q|q
   . have H:∀σ,bZ σ (.v (.lst ((ws.take n).map dJ))) (nV t)=S (.v (dJ u)):=λσ=>jq (f.lim a) (by(rw[bw,w9,if_pos q,a]);rfl)
     exact AA (br (aa rfl) (cw (aa rfl) (U _)) (pM.trans (by(rw[decide_eq_true q];rfl)))) (br (aa rfl) (bu (aa rfl) (aa rfl) (H _)) (ne_self Qn))
   . have I:¬u.length<=m:=λz=>by
      have hlt:=dB a
      have c:ws[n]?=S ws[n]:=dr (by with_reducible exact e_ ‹_› ‹_›)
      have vz:=(f.BI w).u0 _ (eX c)
      have yp:∀x∈u,x<16:=λx hx=>by have:=mf w Y x hx;have:=w.big;exact dw (ee ‹_› this) (by decide)
      have iW:num ws[n]<=num u:=by
       rcases ypA q with e|q
       . subst e;rw[c]at a;rw[je a];exact ba _
       . exact b_ (tu (f.z7 w) c a q)
      have:=F7 u _ yp iW
      exact hn.out _ c ((hF _).mpr ⟨vz,by with_reducible exact bp ‹_› ‹_›⟩)
     have c1:∀σ,cO σ .le (.v (nV u.length)) (.v mv)=S false:=λσ=>jw▸Fo.trans (by(rw[decide_eq_false I];rfl))
     exact AD (br (aa rfl) (cw (aa rfl) (U _)) (pM.trans (by(refine Zrr (decide_eq_false (by exact mD q)) ?_;rfl)))) (br (cw (aa rfl) (bl _)) (aa rfl) (c1 _))
 . intro o r
   have hp:=f.pos
   obtain ⟨u,a⟩:∃u,ws[ws.length - 1]?=S u:=⟨_,dr (by exact Ru hp)⟩
   have e2:=agw (σ:= []) w f a (bp (by decide) k)
   have H:bZ [] (.v (.lst (ws.map dJ))) (.int (-1))=S (.v (dJ u)):=GD (n:=ws.length - 1) (by rw[aq _];exact HK hp) (by(rw[bw,a]);rfl)
   have bs:cV .sub (nV ws.length) (.int 1)=S (nV (ws.length - 1)):=AG (by lia)
   exact cb (br (c6 (aj (aa rfl) (aj (b9 (cw (aa rfl) (Q _)) aP bs) aA)) e2) (bu (aa rfl) aP H) (eq_self Qn)) (hT (c8 rfl))
theorem ahN (w:WF G)(f:Fin G ws){u}(v:bE G u):∀j,j<=u.length->stN G ws (u.take (u.length - j))∈fh G ws (stN G ws u) j:=by
 intro c
 induction c with
 |zero=>
  intro _
  rw[Pm];exact dm.mpr rfl
 |succ j o=>
  intro h
  have a:=λk=>tG (u.drop k) (by rw[iZ _ _];assumption)
  have hk:u.length - (j+1)<u.length:=RN h
  have e:u.take (u.length - j)=u.take _++ [u[u.length - (j+1)]]:=Zrr (show u.length - j=u.length - (j+1)+1 by exact RO h) (take_snoc hk)
  refine ah (f.st w (a _)) λz q b=>fI.mpr ⟨gu.mpr (f.xT w (a _)),decide_eq_true ⟨_,o (b_ h),Bp.mpr ((O2 w).mpr ⟨z,u[u.length - (j+1)],q,?_,?_⟩)⟩⟩
  . refine(uZ b _).mpr ?_
    rw[e.symm];exact a _
  . rw[e];exact(f.AZ w b).symm
theorem Qp {l:List _}:mK (nV t) (l.map nV)=S (decide (t∈l)):=by
 refine(b8 ⟨rfl,Oi x6⟩).trans (congrArg _ ?_)
 rw[qB,yQ,propext Ai,decide_eq_true_eq]
 constructor
 . intro O;refine ah O λy a h=> ?_;rw[(pL.mp (of_decide_eq_true h)).symm];assumption
 exact λh=>⟨t,h,decide_eq_true rfl⟩
theorem ahO (h:isData 4 (.lst l)=ab):cO σ .ne (.v (.lst l)) (.v (.lst []))=S !decide (l= []):=congrArg (Option.map _) (by
 refine(b8 ⟨h,rfl⟩).trans (congrArg _ ?_)
 cases l<;>rfl:eqv _ _=S _)
theorem ahP (w:WF G)(f:Fin G ws){cl}{u x y H I L Q U Y}{s i}(hs:s<ws.length){b k}(hg:b=rP ws.length (fx G ws))(hb:k= .lst ((fh G ws s i).map nV)):
 az cl (.iQ ae (.one 14) (.range (.bf ae .len (.var 5))) (.cmp .ne (.iQ ae (.one 15) (.of (.var 9)) (.cmp .isIn (.var 14) (.idx (.var 5) (.var 15))) (.var 15)) (.lst ae .nil)) (.var 14))
  [u,x,y,H,I,S (.v b),L,Q,U,S (.v k),Y,J,J,J,J,J] σ=S (.v (.lst ((fh G ws s (i+1)).map nV)),σ):=by
 have fy:=ki f
 have bll:(fh G ws s i).length<aE:=by
  cases i with
  |zero=>exact aw (by show 1<_;exact by decide)
  |succ i=>
   have o:(fh G ws s (i+1)).length<=(List.range ws.length).length:=jZ _ _
   rw[cP]at o
   exact e_ o fy
 have g:=xD (c:=λa r=>(bV (.one 14) a [u,x,y,H,I,S (.v b),L,Q,U,S (.v k),Y,J,J,J,J,J]).bind λρ'=>(az cl (.cmp .ne (.iQ ae (.one 15) (.of (.var 9)) (.cmp .isIn (.var 14) (.idx (.var 5) (.var 15))) (.var 15)) (.lst ae .nil)) ρ' r).bind gn)
  (f:=λa r=>(bV (.one 14) a [u,x,y,H,I,S (.v b),L,Q,U,S (.v k),Y,J,J,J,J,J]).bind (az cl (.var 14) · r)) nV (λt=>decide (∃h∈fh G ws s i,t∈sel (fx G ws) h)) (λt=> .v (nV t)) (.range ws.length) σ
  (λt _=>aJ rfl (jl (by
   refine br ((λt=>by
  have g:=xD (c:=λa r=>(bV (.one 15) a [u,x,y,H,I,S (.v b),L,Q,U,S (.v k),Y,J,J,J,S (.v (nV t)),J]).bind λρ'=>(az cl (.cmp .isIn (.var 14) (.idx (.var 5) (.var 15))) ρ' r).bind gn)
   (f:=λa r=>(bV (.one 15) a [u,x,y,H,I,S (.v b),L,Q,U,S (.v k),Y,J,J,J,S (.v (nV t)),J]).bind (az cl (.var 15) · r)) nV (λh=>decide (t∈sel (fx G ws) h)) (λh=> .v (nV h)) (fh G ws s i) σ
   (λh hh=>aJ rfl (jl (have hlt:=O9 hs i h hh;have c1:cO σ .isIn (.v (nV t)) (.v (.lst ((sel (fx G ws) h).map nV)))=S (decide (t∈sel (fx G ws) h)):=Qp;br (aa rfl) (bu (aa rfl) (aa rfl) (hg▸jq (gY hlt fy) (by rw[bw,iI hlt];rfl))) c1)))
   (λh hh _=>aJ rfl (aa rfl))
  rw[show((fh G ws s i).filter λh=>decide (t∈sel (fx G ws) h)).map (λh=>X.v (nV h))=(((fh G ws s i).filter λh=>decide (t∈sel (fx G ws) h)).map nV).map .v from by rw[b4];rfl]at g
  exact xx (c7 (aa rfl) (hb▸rfl)) g (by rw[aq _,aq _];exact e_ (jZ _ _) bll) (fT _):∀t,az cl (.iQ ae (.one 15) (.of (.var 9)) (.cmp .isIn (.var 14) (.idx (.var 5) (.var 15))) (.var 15)) [u,x,y,H,I,S (.v b),L,Q,U,S (.v k),Y,J,J,J,S (.v (nV t)),J] σ=S (.v (.lst (((fh G ws s i).filter λh=>decide (t∈sel (fx G ws) h)).map nV)),σ)) t) (fS aA (aw (eM _)) rfl) ((ahO yt).trans (congrArg S ?_))
   rw[qB,oB _,propext decide_eq_false_iff_not,decide_eq_true_eq,propext Mk];refine Zrr (propext xg) (⟨λh=>ylH λz=>h λa ha q=>z ⟨a,ha,of_decide_eq_true q⟩,?_⟩)
   . intro O;refine ah O λh o h2=> ?_;exact λz=>z h o (decide_eq_true h2))))
  (λt _ _=>aJ rfl (aa rfl))
 rw[show((List.range ws.length).filter λt=>decide (∃h∈fh G ws s i,t∈sel (fx G ws) h)).map (λt=>X.v (nV t))=((fh G ws s (i+1)).map nV).map .v from by rw[b4];rfl]at g
 refine xx (pO (cw (aa rfl) (hg▸eC (congrArg S ((aq _).trans cP)) fy)) fy) g ?_ (fT _)
 have o:(fh G ws s (i+1)).length<=(List.range ws.length).length:=jZ _ _
 rw[cP]at o
 rw[aq _,aq _]
 exact e_ o fy
theorem Qq:isData 4 (rP n ps)=true:=by
 show((List.range n).map λs=> .lst ((sel ps s).map nV)).all (isData 3)=ab
 rw[nC];exact Zrr (propext cF) λs _=>yt
theorem ahQ (w:WF G)(f:Fin G ws){u:List Nat}(v:bE G u)(q:u.length<=3){sv:V}(Q:sv=nV (stN G ws u))(hD:4<=D):(aQ prog D).call 55 [.v (vM G ws),.v (.lst (u.map nV)),.v sv] σ=S (.v (.bool ab),σ):=by
 refine ec (dE hD) rfl rfl rfl rfl λT hT=> ?_
 have y:=dH hD
 have fy:=ki f
 have H:=λσ=>lI (G:=G) (ws:=ws) (σ:=σ)
 refine bz (iG (aj aP aA) (aw (by simp))) ?_
 refine d8 nV u (λdone Z=>∀o,Z [S (.v (vM G ws)),S (.v (.lst (u.map nV))),S (.v sv),S (.ref 0),o,J,J,J,J,J,J,J,J,J,J,J] [cN (g_ G ws done)]) (c7 (aa rfl) rfl) ?_ ?_ ?_
 . intro Z c
   exact kq (c _) (by rw[OM w f];rfl)
 . intro done X rest Z c I o
   have vX:=tG rest (by(rw[(Of _ _ _).symm,I.symm]);exact v)
   have vd:=th vX
   refine ah (f.st w vd) λz U vj=> ?_
   have Y:=(i6 w).mpr ((uZ vj X).mpr vX)
   have x_:done.length<=3:=by
    have:=congrArg List.length I
    rw[aY]at this
    lia
   have i0:bZ [cN (g_ G ws done)] (.ref 0) (.int (-1))=S (.v (nV (stN G ws done))):=OO rfl (by(rw[aq _,aq _,yb];rfl)) (by(rw[bw,bw,GB]);rfl)
   have i2:∀σ,bZ σ (.v (rM G ws z)) (nV X)=S (.v (nV (stN G ws (done++ [X])))):=λσ=>(Bt w Y).trans (by(rw[f.AZ w vj];rfl))
   refine bt rfl (fF (d7 (aa rfl) (gy rfl) (aj (bu (a_ (bu (a_ (aa rfl) (H _)) (bu (aa rfl) aP i0) (rN f U)) rO) (aa rfl) (i2 _)) aA) (GQ rfl (by rw[yb];exact aw (by exact q5 x_)))) (bk (kq (c _) ?_)))
   show [cN (g_ G ws done++ [stN G ws (done++ [X])])]=_
   rw[ON];rfl
 . intro o
   refine l_ rfl (jn rfl) ?_
   have p1:=OP (σ:= [.dead]) (x:= []) (K:= .lst (u.map nV)) w f v (λX r h=>nomatch h) (by rw[dg _];rfl) (by exact bx q (by decide)) y
   have p2:=OP (σ:= [.dead]) (K:= .lst ((u++ [1,1]).map nV)) w f v (λX r h z=>by
    have h:=(iy h).1
    subst h
    exact(xQ w z).2.1 rfl) rfl (by exact bx q (by decide)) y
   have a1:cV .add (.lst (u.map nV)) (.lst [.int 1,.int 1])=S (.lst ((u++ [1,1]).map nV)):=by
    refine Zrr (nu (by rw[aq _];exact aw (by show u.length+2<_;exact HQ q))) ?_;rw[bK];rfl
   have i1:bZ [.dead] (.v (.lst ((g_ G ws u).map nV))) (.int (-1))=S (.v (nV (stN G ws u))):=GD (by(rw[aq _,yb];rfl)) (by(rw[bw,GB]);rfl)
   have c0:cO [.dead] .ne (.v (nV (stN G ws u))) (.v sv)=S false:=by rw[Q];exact yr.trans (by simp)
   refine gw (jT (br (bu (aa rfl) aP i1) (aa rfl) c0) (jT (br (cX (aa rfl) nK (aj aP (aj (aa rfl) aA)) p1) (aa rfl) (ne_self yt)) (br (cX (aa rfl) nK (aj aP (aj (b9 (aa rfl) (fS (aj aP (aj aP aA)) (aw (by simp)) rfl) a1) aA)) p2) (aa rfl) (ne_self yt)))) ?_
   refine bz (GL (c7 (a_ (aa rfl) (H _)) rfl) Gy fy) ?_
   generalize Qd:V.lst ((g_ G ws u).map nV)=L
   refine d8 (λp:List Nat×Nat=>gF G ws p.2 p.1) ws.zipIdx (λdone Z=>∀O k,Z [S (.v (vM G ws)),S (.v (.lst (u.map nV))),S (.v sv),S (.v L),o,S (.ref ([Cell.dead].length+ws.length)),O,k,J,J,J,J,J,J,J,J] (gC [.dead] (eN ws.length (ju G ws done)))) (c7 (a_ (aa rfl) (H _)) rfl) ?_ ?_ ?_
   . intro Z c
     exact c _ _
   . intro done p rest Z c I O k
     refine bt rfl ?_
     have sl:=Gv w p.1
     have gd:=O3 w f p.1
     have zB:=Qb (g:=λ_=>V.bool ab) (t:= .int) (λ_=>rfl) (λa _ b _ ne=>x7.trans (decide_eq_false ne)) _ [] rfl gd
     have b2:∀σ,cB σ (.dict .int) (.v (.lst (((bS G p.1).map λX=>stN G ws (p.1++ [X])).map λs=>V.tup [nV s,.bool ab])))=S (.val (.aU .int (((bS G p.1).map λX=>stN G ws (p.1++ [X])).map λs=>(nV s,V.bool ab)))):=λσ=>(b8 (by(rw[aq _,aq _]);exact aw (by exact bx sl (by decide)))).trans (bP zB)
     generalize GN:gC [.dead] (eN ws.length (ju G ws done))=σg
     have g:=jo (f:=λa af=>(bV (.one 12) a [S (.v (vM G ws)),S (.v (.lst (u.map nV))),S (.v sv),S (.v L),o,S (.ref ([Cell.dead].length+ws.length)),S (.v (gF G ws p.2 p.1)),k,J,J,J,J,J,J,J,J]).bind λρ'=>az (aQ prog (D - 1)) (.tup (.cons (.idx (.attr (.var 6) 20) (.var 12)) (.cons (.cst (.bool ab)) .nil))) ρ' af) nV (λX=>Tactic.X.v (.tup [nV (stN G ws (p.1++ [X])),.bool ab])) (bS G p.1) σg λX hX=>
      aJ rfl (eY (aj (bu (a_ (aa rfl) rO) (aa rfl) (Bt w hX)) (aj aP aA)) (aw (by simp)) rfl)
     rw[show(bS G p.1).map (λX=>Tactic.X.v (.tup [nV (stN G ws (p.1++ [X])),.bool ab]))=(((bS G p.1).map λX=>stN G ws (p.1++ [X])).map λs=>V.tup [nV s,.bool ab]).map .v from by rw[b4];rw[b4];rfl]at g
     refine d8 (λX=>nV (stN G ws (p.1++ [X]))) (bS G p.1) (λd Z=>∀k,Z [S (.v (vM G ws)),S (.v (.lst (u.map nV))),S (.v sv),S (.v L),o,S (.ref ([Cell.dead].length+ws.length)),S (.v (gF G ws p.2 p.1)),k,J,J,J,J,J,J,J,J] (gC [.dead] (eN ws.length (ju G ws done++d.map λX=>(stN G ws (p.1++ [X]),p.2)))))
      (c7 (cw (jm (c7 (a_ (aa rfl) rO) (Bs (α:=Unit))) g (by(rw[aq _,aq _,aq _]);exact aw (by exact bx sl (by decide))) (fT _)) (b2 _)) ?_) ?_ ?_ ?_
     . rw[Bs (α:=Unit),b4];rfl
     . exact λZ c=>kq (c _) (by(rw[qG,dg _,GN];rfl))
     . intro d X r Z c er k
       have Y:X∈bS G p.1:=by rw[er];simp
       generalize hx:nV (stN G ws (p.1++ [X]))=xv
       refine bt rfl (fF (O0 rfl (f.xT w ((i6 w).mp Y)) fy (O4 w f (O6 I er) _) (aa rfl) (aa (by rw[hx];rfl)) (a_ (aa rfl) O5)) (bk (kq (c _) ?_)))
       rw[bK,bM _ _ _];rfl
     . intro k
       exact bk (kq (c _ _) (by(rw[O7];rfl)))
   . intro O k
     refine bz (OQ w f (a_ (aa rfl) (H _)) (by show 13<16;exact by decide)) ?_
     refine ao (O1 (base:= [.dead]) (n:=ws.length) (ps:=ju G ws ws.zipIdx)) λbW U=> ?_
     refine l_ rfl U ?_
     have q1:=O8 (D:=D - 1) (σ:=bW) w f (bp (by decide) y)
     have q2:=af7 (D:=D - 1) (σ:=bW) w f (bp (by decide) y)
     generalize htr:nV (GF G ws)=tr at q2
     have dtr:cO bW .ne (.v tr) (.v tr)=S false:=by rw[htr.symm];exact yr.trans (by simp)
     generalize Hl:rP ws.length (ju G ws ws.zipIdx)=gv
     have dgv:isData 4 gv=true:=Hl▸Qq
     refine gw (jT (br (c6 (aj (aa rfl) aA) q1) (aa (by rw[Hl.symm];rfl)) (ne_self Qq)) (br (cX (aa rfl) nK aA q2) (aa rfl) dtr)) ?_
     refine bz (fS (xs:= [.v sv]) (aj (aa rfl) aA) (aw (by simp)) rfl) ?_
     have hs:=f.xT w v
     have bl:∀σ,cB σ .len (.v (.lst (u.map nV)))=S (.val (nV u.length)):=λσ=>eC (congrArg S (aq _)) (aw (by exact bx q (by decide)))
     refine uV nV u.length (λi Z=>∀dW σ,Z [S (.v (vM G ws)),S (.v (.lst (u.map nV))),S (.v sv),S (.v L),o,S (.v gv),O,k,S (.v tr),S (.v (.lst ((fh G ws (stN G ws u) i).map nV))),dW,J,J,J,J,J] σ) (pO (cw (aa rfl) (bl _)) (aw (by exact bx q (by decide)))) ?_ ?_ ?_
     . intro Z c
       subst Q
       exact c _ _
     . intro i Z c hi dW σ
       exact bt rfl (bz (ahP w f hs Hl.symm rfl) (bk (c _ _)))
     . intro dW σ
       have r1:=agp (D:=D - 1) (σ:=σ) w f (m:=u.length) rfl hs (aw (by exact bx q (by decide))) (bp (by decide) y)
       have m0:0∈fh G ws (stN G ws u) u.length:=by
        have:=ahN w f v u.length (ba _)
        rwa[kE,PU,f.xU w]at this
       have c1:cO σ .isIn (.v (.int 0)) (.v (.lst ((fh G ws (stN G ws u) u.length).map nV)))=S true:=(Qp (t:=0)).trans (by(rw[decide_eq_true m0];rfl))
       exact cb (xp (br (c6 (aj (aa rfl) (aj (aa (by rw[Q];rfl)) (aj (cw (aa rfl) (bl _)) aA))) r1) (aa rfl) (eq_self yt)) (br aP (aa rfl) c1)) (hT (c8 rfl))
theorem ahR (a:p 32=ab):∀l,(∀s∈l,s.all p=ab)->(lJ l).all p=true:=by
 intro b
 induction b with
 |nil=>exact λ_=>rfl
 |cons s l c=>
  intro h
  cases l with
  |nil=>exact h s cT
  |cons t r=>
   rw[OV,Hm,Hm,h s cT,c λx hx=>h x (dA _ hx)];exact(CY _).trans ((CY _).trans a)
theorem ahS (w:WF G){p}(h:Vd G p):mI (lK G p)=true:=by
 have o:=GI w (w.jY h.1).2
 have b:=GJ w h
 have q:=GH _ b.2
 have c:∀x,x<nS G->(nm G x).all _=true:=λx hx=>(dF.mp (G5 w hx)).2
 refine dF.mpr ⟨decide_eq_true ?_,?_⟩
 . rewrite[lK];rw[aY];exact Zrr aY (have: [32,58,32].length=3:=rfl;aw (HY o b q))
 . rewrite[lK];rw[Hm,Hm];rewrite[c _ (w.jY h.1).2,ahR rfl _ λs a=> ?_]
   . rfl
   . have k:∀s∈ (rhs G _).map (nm G),s.all _=true:=λs a=>by
      refine ah (bX.mp a) λx hx O=> ?_;subst O
      exact c x (w.sym h.1 x hx).1
     rcases b5.mp a with a|a
     . refine(b5.mp a).elim (λa=>k s (oC a)) λa=> ?_
       . rw[dm.mp a];rfl
     exact k s (zW a)
theorem ahT:gI (gV p) (gV q)=decide (p=q):=by
 show(decide _&& (decide _&&ab))=_
 rw[CY _,propext qB,propext dF,decide_eq_true_eq,decide_eq_true_eq,decide_eq_true_eq,propext PY]
 exact and_congr pL pL
theorem ahU (h:bD G u≠bD G v):eqv (dY G u) (dY G v)=S false:=by
 refine(b8 ⟨Hj,Hj⟩).trans (congrArg _ ?_)
 show lN _ _=ae
 exact Zrr (Gp λa _ b _=>ahT) (decide_eq_false h)
theorem ahV {n:Nat}:mN 1 n=(List.range (n - 1)).map λi=>nV (i+1):=by
 have:=Int.toNat_sub n 1
 rewrite[mN];exact Zrr this (vb λi _=>congrArg _ (Cd 1 i))
theorem ahW {e}{n}(h:az cl e ρ σ=S (.v (nV n),σ))(hn:n<aE):iw cl (.rV (.cst (.int 1)) e) ρ σ=S ((List.range (n - 1)).map λi=>nV (i+1),σ):=Zrr ahV.symm (have a:(1:Int)<aE/\ -(aE:Int)<1/\(n:Int)<aE/\ -(aE:Int)<n:=⟨by decide,by decide,by exact_mod_cast hn,by
 have:0<aE:=by decide
 lia⟩;aJ h (Fv (Fv (if_pos a))))
theorem ahX:isData 4 (gB o)=true:=by cases o<;>rfl
theorem ahY (w:WF G)(f:Fin G ws)(n):((ws.take n).map (dY G)).Nodup:=by
 have h:=(f.BI w).nd
 rw[rI,i5]at h ⊢
 exact(h.sublist (uH n ws)).imp λ{u v} h e=>h (have:=V.lst.inj e;have c:=map_inj (λa _ b _ e=>by
  exact have e:=V.tup.inj e;have c:=(iy (iy e).2).1;v9 (pL.mp (V.int.inj (iy e).1)) (pL.mp (V.int.inj c))) this;FP c)
def iq (G:Gm)(ws:List (List Nat))(n:Nat):List V:=gm ((ws.take n).map (dY G))
theorem ahZ:(iq G ws n).length<=ws.length:=by
 rewrite[iq];rw[(uO _).length_eq,aq _,ie];exact qj _ _
theorem ah0 (w:WF G)(f:Fin G ws){n i}{a b}(ha:(iq G ws n)[i]?=S a)(hb:(iq G ws n)[i+1]?=S b):eqv a b=S false:=by
 have c:=uO ((ws.take n).map (dY G))
 have ne:a≠b:=λe=>by
  subst e
  refine ao (dk.mp ha) λq k=>ao (dk.mp hb) λr o=> ?_
  have:=(FI (c.nodup_iff.mpr (ahY w f n))).mp (k.trans o.symm)
  exact Sy this
 refine ah (bX.mp (c.mem_iff.mp (eX ha))) λu _ O=> ?_;subst O
 refine ah (bX.mp (c.mem_iff.mp (eX hb))) λv _ O=> ?_;subst O
 exact ahU λe=>ne (by rw[dY,dY,e];rfl)
theorem ah1 (f:Fin G ws){n}:cB σ .sorted (.v (.lst ((ws.take n).map (dY G))))=S (.items (iq G ws n)):=by
 refine mh rfl ?_
 have a:((ws.take n).map (dY G)).all rW=true:=by
  rw[nC,propext cF]
  intro u _
  show((bD G u).map _).all _=ab
  rw[nC];exact Zrr (propext cF) λ_ _=>rfl
 unfold mL
 rw[a,decide_eq_true (by
  rw[aq _];rw[ie];exact e_ (qj _ _) (ki f)),Bool.or_true _];rfl
theorem ah2 (w:WF G)(f:Fin G ws){SV DV PV GV mv FV VD MV WV LV KV}{σ}{m n}(k:qa G m VD){F}(o:∀u,u∈F↔bE G u/\u.length<=m)(hn:oZ ws F n)(r:KV= .lst ((ws.take n).map (aV G))):
 az (aQ prog (D - 1)) (.bf ae .sorted (.comp ae (.one 21) (.of (.var 11)) (.idx (.var 7) (.var 21)))) [S (.v SV),S (.v DV),S (.v PV),S (.v (vG G)),S (.v GV),S (.v mv),S (.v FV),S (.v VD),S (.v MV),S (.v WV),S (.v LV),S (.v KV),J,J,J,J,J,J,J,J,J,J,J,J,J,J,J,J,J] σ=S (.v (.lst (iq G ws n)),σ):=by
 have mem:∀u∈ws.take n,bE G u/\u.length<=m:=λu b=>by
  refine ao (uF b) λt c=> ?_
  rw[w9]at c
  split at c
  . rename_i q;exact(o u).mp (hn.Hh t q u c)
  exact aD c
 have g:=jo (f:=λa x=>(bV (.one 21) a [S (.v SV),S (.v DV),S (.v PV),S (.v (vG G)),S (.v GV),S (.v mv),S (.v FV),S _,S (.v MV),S (.v WV),S (.v LV),S (.v KV),J,J,J,J,J,J,J,J,J,J,J,J,J,J,J,J,J]).bind (az (aQ prog (D - 1)) (.idx (.var 7) (.var 21)) · x)) _ _ _ σ λu b=>
  aJ rfl (bu (aa rfl) (aa rfl) (yq w k (mem u b).1 (mem u b).2))
 rw[show(ws.take n).map (λu=>X.v _)=((ws.take n).map (dY G)).map .v from by rw[b4];rfl]at g
 exact iH (jm (c7 (aa rfl) (r▸rfl)) g (by rw[aq _,aq _,ie];exact e_ (qj _ _) (ki f)) (fT _)) (ah1 f)
theorem ah3 (w:WF G)(f:Fin G ws)(y:2<=D){SV DV PV GV mv FV VD MV WV LV KV UV}{σ}{n}(H:KV= .lst ((ws.take n).map (aV G))):
 az (aQ prog (D - 1)) (.comp ae (.one 22) (.of (.var 11)) (.bf ae .tuple (.comp ae (.one 23) (.of (.var 22)) (.bN (.var 3) 1 5 (.cons (.var 23) .nil))))) [S (.v SV),S (.v DV),S (.v PV),S (.v (vG G)),S (.v GV),S (.v mv),S (.v FV),S (.v VD),S (.v MV),S (.v WV),S (.v LV),S (.v KV),S (.v UV),J,J,J,J,J,J,J,J,J,J,J,J,J,J,J,J] σ=S (.v (.lst ((ws.take n).map dJ)),σ):=by
 have o:=ki f
 have ok:∀u∈ws.take n,WS G u/\u.length<aE:=λu c=>have q:=oC c;ao (uF q) λt r=>⟨mf w ((f.BI w).u0 u q),e_ (f.GO r) (gY (dB r) o)⟩
 have g:=jo (f:=λa k=>(bV (.one 22) a [S (.v SV),S (.v DV),S (.v PV),S (.v (vG G)),S (.v GV),S (.v mv),S (.v FV),S (.v VD),S (.v MV),S (.v WV),S (.v LV),S (.v KV),S (.v UV),J,J,J,J,J,J,J,J,J,J,J,J,J,J,J,J]).bind (az (aQ prog (D - 1)) (.bf ae .tuple (.comp ae (.one 23) (.of (.var 22)) (.bN (.var 3) 1 5 (.cons (.var 23) .nil)))) · k)) _ _ _ σ λu c=>
  aJ rfl ((λu c=>by
  have g:=jo (f:=λa k=>(bV (.one 23) a [S (.v SV),S (.v DV),S (.v PV),S (.v (vG G)),S (.v GV),S (.v mv),S (.v FV),S (.v VD),S (.v MV),S (.v WV),S (.v LV),S (.v KV),S (.v UV),J,J,J,J,J,J,J,J,J,S (.v (aV G u)),J,J,J,J,J,J]).bind (az (aQ prog (D - 1)) (.bN (.var 3) 1 5 (.cons (.var 23) .nil)) · k)) _ _ u σ λx hx=>
  aJ rfl (cX (aa rfl) jr (aj (aa rfl) aA) (AQ w ((ok u c).1 x hx) (dH y)))
  rw[show u.map (λx=>X.v (nV x))=(u.map nV).map .v from by rw[b4];rfl]at g
  exact have b:cB σ _ _=S _:=xH (by rw[aq _];exact(ok u c).2);cw (jm (c7 (aa rfl) (show kT (aV G u)=S (u.map (.str ∘ nm G)) from congrArg S b4)) g (by rw[aq _,aq _];exact(ok u c).2) (fT _)) b:∀u∈ws.take n,az _ _ [S (.v SV),S (.v DV),S (.v PV),S (.v (vG G)),S (.v GV),S (.v mv),S (.v FV),S (.v VD),S (.v MV),S (.v WV),S (.v LV),S (.v KV),S (.v UV),J,J,J,J,J,J,J,J,J,S (.v (aV G u)),J,J,J,J,J,J] σ=S (.v (dJ u),σ)) u c)
 rw[show(ws.take n).map (λu=>X.v (dJ u))=((ws.take n).map dJ).map .v from by rw[b4];rfl]at g
 exact jm (c7 (aa rfl) (H▸rfl)) g (by rw[aq _,aq _,ie];exact e_ (qj _ _) o) (fT _)
theorem ah4 (w:WF G)(f:Fin G ws){SV DV PV GV mv FV VD MV WV LV KV UV TV}{σ}{n}(o:UV= .lst (iq G ws n)):
 az (aQ prog (D - 1)) (.iQ ae (.one 24) (.rV (.cst (.int 1)) (.bf ae .len (.var 12))) (.cmp .eq (.idx (.var 12) (.bin ae .sub (.var 24) (.cst (.int 1)))) (.idx (.var 12) (.var 24))) (.var 24)) [S (.v SV),S (.v DV),S (.v PV),S (.v (vG G)),S (.v GV),S (.v mv),S (.v FV),S (.v VD),S (.v MV),S (.v WV),S (.v LV),S (.v KV),S (.v UV),S (.v TV),J,J,J,J,J,J,J,J,J,J,J,J,J,J,J] σ=S (.v (.lst []),σ):=by
 have x:=ki f
 have dl:=ahZ (G:=G) (ws:=ws) (n:=n)
 have b:cB σ .len (.v UV)=S (.val (nV (iq G ws n).length)):=o▸eC rfl (e_ ‹_› ‹_›)
 have g:=xD (c:=λa r=>(bV (.one 24) a [S (.v SV),S (.v DV),S (.v PV),S (.v (vG G)),S (.v GV),S (.v mv),S (.v FV),S (.v VD),S (.v MV),S (.v WV),S (.v LV),S (.v KV),S (.v UV),S (.v TV),J,J,J,J,J,J,J,J,J,J,J,J,J,J,J]).bind λρ'=>(az (aQ prog (D - 1)) (.cmp .eq (.idx (.var 12) (.bin ae .sub (.var 24) (.cst (.int 1)))) (.idx (.var 12) (.var 24))) ρ' r).bind gn)
  (f:=λa r=>(bV (.one 24) a [S (.v SV),S (.v DV),S (.v PV),S (.v (vG G)),S (.v GV),S (.v mv),S (.v FV),S (.v VD),S (.v MV),S (.v WV),S (.v LV),S (.v KV),S (.v UV),S (.v TV),J,J,J,J,J,J,J,J,J,J,J,J,J,J,J]).bind (az (aQ prog (D - 1)) (.var 24) · r)) (λi=>nV (i+1)) (λ_=>ae) (λi=> .v (nV (i+1))) (.range ((iq G ws n).length - 1)) σ
  (λi k=>aJ rfl (jl (by
   have k:=gu.mp k
   have ha:(iq G ws n)[i]?=S (iq G ws n)[i]:=dr (R5 k)
   have hb:(iq G ws n)[i+1]?=S (iq G ws n)[i+1]:=dr (R6 k)
   have y:bZ σ (.v UV) (nV i)=S (.v (iq G ws n)[i]):=o▸jq (R7 x dl k) ha
   have H:bZ σ (.v UV) (nV (i+1))=S (.v (iq G ws n)[i+1]):=o▸jq (R8 x dl k) hb
   have bs:cV .sub (nV (i+1)) (.int 1)=S (nV i):=AG (by simp)
   have q:=ah0 w f ha hb
   have I:cO σ .eq (.v (iq G ws n)[i]) (.v (iq G ws n)[i+1])=S false:=by
    have L:=(uO ((ws.take n).map (dY G))).mem_iff.mp (eX ha)
    refine ah (bX.mp L) λu _ e=> ?_
    rw[<-e]at q ⊢
    exact q
   exact br (bu (aa rfl) (b9 (aa rfl) aP bs) y) (bu (aa rfl) (aa rfl) H) I)))
  (λi _ h=>nomatch h)
 rw[show(List.range ((iq G ws n).length - 1)).filter (λ_=>ae)= [] from xg.mpr λ_ _ h=>nomatch h]at g
 exact xx (ahW (cw (aa rfl) b) (e_ ‹_› ‹_›)) g (aw (by show 0<_;exact yB _)) rfl
theorem ah5 (w:WF G)(b:2<=D){SV DV PV GV mv FV VD MV WV LV KV UV TV sv}{σ}{u}(c:WS G u)(hl:u.length<=3):
 az (aQ prog (D - 1)) (.comp ae (.one 25) (.of (.var 14)) (.bN (.var 3) 1 5 (.cons (.var 25) .nil))) [S (.v SV),S (.v DV),S (.v PV),S (.v (vG G)),S (.v GV),S (.v mv),S (.v FV),S (.v VD),S (.v MV),S (.v WV),S (.v LV),S (.v KV),S (.v UV),S (.v TV),S (.v (aV G u)),S (.v sv),J,J,J,J,J,J,J,J,J,J,J,J,J] σ=S (.v (.lst (u.map nV)),σ):=by
 have g:=jo (f:=λa k=>(bV (.one 25) a [S (.v SV),S (.v DV),S (.v PV),S _,S (.v GV),S (.v mv),S (.v FV),S (.v VD),S (.v MV),S (.v WV),S (.v LV),S (.v KV),S (.v UV),S (.v TV),S (.v (aV G u)),S (.v sv),J,J,J,J,J,J,J,J,J,J,J,J,J]).bind (az _ (.bN (.var 3) 1 5 (.cons (.var 25) _)) · k)) _ _ u σ λx hx=>
  aJ rfl (cX (aa rfl) jr (aj (aa rfl) aA) (AQ w (c x hx) (dH b)))
 rw[show u.map (λx=>X.v _)=(u.map nV).map .v from by rw[b4];rfl]at g
 exact jm (c7 (aa rfl) (show kT (aV G u)=S _ from congrArg _ b4)) g (by rw[aq _,aq _];exact aw (bx hl (by decide))) (fT _)
theorem ah6 (w:WF G)(c:2<=D){SV DV PV GV mv FV VD MV WV LV KV UV TV sv}{σ}{m}(k:qa G m VD){u}(o:bE G u)(hl:u.length<=m):
 az (aQ prog (D - 1)) (.bf ae .sorted (.comp ae (.two 26 27) (.hC (.idx (.var 7) (.var 14))) (.bN (.var 3) 1 7 (.cons (.var 26) (.cons (.var 27) .nil))))) [S (.v SV),S (.v DV),S (.v PV),S (.v (vG G)),S (.v GV),S (.v mv),S (.v FV),S (.v VD),S (.v MV),S (.v WV),S (.v LV),S (.v KV),S (.v UV),S (.v TV),S (.v (aV G u)),S (.v sv),S (.v (.lst (u.map nV))),J,J,J,J,J,J,J,J,J,J,J,J] σ=S (.v (.lst ((bD G u).map (vI G))),σ):=by
 have b:=OS w u
 have g:=jo (f:=λa q=>(bV (.two 26 27) a [S (.v SV),S (.v DV),S (.v PV),S _,S (.v GV),S (.v mv),S (.v FV),S (.v VD),S (.v MV),S (.v WV),S (.v LV),S (.v KV),S (.v UV),S (.v TV),S (.v (aV G u)),S (.v sv),S (.v (.lst (u.map nV))),J,J,J,J,J,J,J,J,J,J,J,J]).bind (az _ (.bN (.var 3) 1 7 (.cons (.var 26) (.cons (.var 27) _))) · q)) gV (λp=> .v (vI G p)) (bD G u) σ λp r=>
  aJ rfl (cX (aa rfl) jr (aj (aa rfl) (aj (aa rfl) aA)) (uY w (rE p r).1 (dH c)))
 rw[show(bD G u).map (λp=>X.v _)=((bD G u).map (vI G)).map .v from by rw[b4];rfl]at g
 exact iH (jm (oL (bu (aa rfl) (aa rfl) (yq w k o hl))) g (by rw[aq _,aq _];exact aw (bx b (by decide))) (fT _)) (by
  refine Zrr (mh rfl (oS lF (by rw[aq _];exact aw (bx b (by decide))))) ?_;rw[tm (.refl _) rE (me G u)];rfl)
theorem ah7 (w:WF G)(f:Fin G ws)(k:2<=D){SV DV PV GV mv FV VD MV WV LV KV UV TV sv}{σ}{u z}{t}(o:MV=vM G ws)(q:sv=nV t)(r:ws[t]?=S z)(x:PV= .lst (iM G)):
 az (aQ prog (D - 1)) (.comp ae (.one 28) (.of (.attr (.idx (.attr (.var 8) 24) (.var 15)) 19)) (.call 56 (.cons (.var 2) (.cons (.bN (.var 3) 1 8 (.cons (.var 28) .nil)) (.cons (.bN (.var 3) 1 9 (.cons (.var 28) .nil)) .nil))))) [S (.v SV),S (.v DV),S (.v PV),S (.v (vG G)),S (.v GV),S (.v mv),S (.v FV),S (.v VD),S (.v MV),S (.v WV),S (.v LV),S (.v KV),S (.v UV),S (.v TV),S (.v (aV G u)),S (.v sv),S (.v (.lst (u.map nV))),S (.v (.lst ((bD G u).map (vI G)))),J,J,J,J,J,J,J,J,J,J,J] σ=S (.v (.lst ((cls G z).map λp=> .str (lK G p))),σ):=by
 have cl:=rG w z
 have b:=dH k
 have g:=jo (f:=λa y=>(bV (.one 28) a [S (.v SV),S (.v DV),S (.v PV),S _,S (.v GV),S (.v mv),S (.v FV),S (.v VD),S (.v MV),S (.v WV),S (.v LV),S (.v KV),S (.v UV),S (.v TV),S (.v (aV G u)),S (.v sv),S (.v (.lst (u.map nV))),S (.v (.lst ((bD G u).map (vI G)))),J,J,J,J,J,J,J,J,J,J,J]).bind (az _ (.call 56 (.cons (.var 2) (.cons (.bN (.var 3) 1 8 (.cons (.var 28) _)) (.cons (.bN (.var 3) 1 9 (.cons (.var 28) _)) _)))) · y)) (vI G) _ (cls G z) σ λp c=>
  aJ rfl (c6 (aj (aa (by rw[x];rfl)) (aj (cX (aa rfl) jr (aj (aa rfl) aA) (AP w (oT p c) b)) (aj (cX (aa rfl) jr (aj (aa rfl) aA) (FG w (oT p c) b)) aA))) (agc w (oT p c) b))
 rw[show(cls G z).map (λp=>X.v _)=((cls G z).map λp=> .str (lK G p)).map .v from by rw[b4];rfl]at g
 exact jm (c7 (a_ (bu (a_ (aa (by rw[o];rfl)) lI) (aa (by rw[q];rfl)) (rN f r)) yc) rfl) g (by rw[aq _,aq _];exact aw (by exact bx cl (by decide))) (fT _)
noncomputable def Qt:Ss:=(.cons (.mG [14,15] (.idx (.var 10) (.cst (.int (-1))))) (.cons (.set 16 (.comp ae (.one 25) (.of (.var 14)) (.bN (.var 3) 1 5 (.cons (.var 25) .nil)))) (.cons (.set 17 (.bf ae .sorted (.comp ae (.two 26 27) (.hC (.idx (.var 7) (.var 14))) (.bN (.var 3) 1 7 (.cons (.var 26) (.cons (.var 27) .nil)))))) (.cons (.ite (.or (.cmp .ne (.call 41 (.cons (.var 8) (.cons (.var 16) .nil))) (.var 17)) (.or (.not (.call 40 (.cons (.var 8) (.cons (.var 16) .nil)))) (.call 40 (.cons (.var 8) (.cons (.bin ae .add (.var 16) (.lst ae (.cons (.cst (.int 1)) .nil))) .nil))))) (.cons (.ret (.cst (.bool ae))) .nil) .nil) (.cons (.ite (.cmp .ne (.call 41 (.cons (.var 8) (.cons (.bin ae .add (.var 16) (.lst ae (.cons (.cst (.int 1)) (.cons (.cst (.int 0)) .nil)))) .nil))) (.lst ae .nil)) (.cons (.ret (.cst (.bool ae))) .nil) .nil) (.cons (.ite (.or (.cmp .ne (.bN (.var 8) 4 29 .nil) (.bN (.var 8) 4 27 (.cons (.cst (.int 0)) (.cons (.lst ae (.cons (.bN (.var 3) 1 5 (.cons (.cst (.str [83])) .nil)) (.cons (.cst (.int 0)) .nil))) .nil)))) (.not (.call 55 (.cons (.var 8) (.cons (.var 16) (.cons (.var 15) .nil)))))) (.cons (.ret (.cst (.bool ae))) .nil) .nil) (.cons (.set 18 (.comp ae (.one 28) (.of (.attr (.idx (.attr (.var 8) 24) (.var 15)) 19)) (.call 56 (.cons (.var 2) (.cons (.bN (.var 3) 1 8 (.cons (.var 28) .nil)) (.cons (.bN (.var 3) 1 9 (.cons (.var 28) .nil)) .nil)))))) (.cons (.ret (.and (.cmp .eq (.call 42 (.cons (.var 8) (.cons (.var 15) .nil))) (.var 18)) (.cmp .eq (.call 21 (.cons (.var 3) (.cons (.attr (.idx (.attr (.var 8) 24) (.var 15)) 17) .nil))) (.attr (.idx (.attr (.var 8) 24) (.var 15)) 19)))) .nil))))))))
def ah8:Ss:=(.cons (.ite (.or (.isNone ae (.var 9)) (.cmp .ne (.bf ae .len (.idx (.var 9) (.cst (.int 0)))) (.bf ae .len (.var 7)))) (.cons (.ret (.cst (.bool ae))) .nil) .nil) (.cons (.mG [10,11] (.var 9)) (.cons (.set 12 (.bf ae .sorted (.comp ae (.one 21) (.of (.var 11)) (.idx (.var 7) (.var 21))))) (.cons (.set 13 (.comp ae (.one 22) (.of (.var 11)) (.bf ae .tuple (.comp ae (.one 23) (.of (.var 22)) (.bN (.var 3) 1 5 (.cons (.var 23) .nil)))))) (.cons (.ite (.or (.cmp .ne (.iQ ae (.one 24) (.rV (.cst (.int 1)) (.bf ae .len (.var 12))) (.cmp .eq (.idx (.var 12) (.bin ae .sub (.var 24) (.cst (.int 1)))) (.idx (.var 12) (.var 24))) (.var 24)) (.lst ae .nil)) (.not (.call 54 (.cons (.var 8) (.cons (.var 13) (.cons (.var 5) .nil)))))) (.cons (.ret (.cst (.bool ae))) .nil) .nil) Qt)))))
theorem ah9 (w:WF G)(f:Fin G ws){SV DV PV GV mv FV VD MV WV LV KV UV TV:V}{σ:Hp}{m:Nat}(hV:qa G m VD)(qb:m<=3)(rT:V.lst (iM G)=PV)(c:vM G ws=MV){F:List (List Nat)}(yu:F≠ [])(hF:∀u,u∈F↔bE G u/\u.length<=m)(vn:V.lst (F.map (mw G ws))=LV){Q:Env->Hp->Prop}{T:X->Hp->Prop}(hT:∀ {x af},Fz (.bool ab) x af->T x af):
 Do (aZ (aQ prog 19) Qt [S (.v SV),S (.v DV),S (.v PV),S (.v (vG G)),S (.v GV),S (.v mv),S (.v FV),S (.v VD),S (.v MV),S (.v WV),S (.v LV),S (.v KV),S (.v UV),S (.v TV),J,J,J,J,J,J,J,J,J,J,J,J,J,J,J] σ) Q T:=by
 have cn:isData 4 (.lst [])=true:=rfl
 obtain ⟨k,u,o⟩:∃k u,F=k++ [u]:=by
  rcases List.eq_nil_or_concat F with h| ⟨k,u,h⟩
  . exact absurd h yu
  . exact⟨k,u,by rw[h,AW];rfl⟩
 have iL:∀σ,bZ σ (.v LV) (.int (-1))=S (.v (mw G ws u)):=λσ=>vn▸GD (by(rw[o,aq _,aY]);rfl) (by(rw[o,bw,iE (ba _),kE _]);rfl)
 refine au ((hF u).mp (by rw[o];simp)) λa q=> ?_
 have wu:=mf w a
 refine ah (f.st w a) λz y vj=> ?_
 generalize b:nV (stN G ws u)=sv
 have ew:mw G ws u= .tup [aV G u,sv]:=by rewrite[mw];rw[b];rfl
 rw[ew]at iL
 refine xy (bu (aa rfl) aP (iL _)) rfl ?_
 have H:=ah5 (D:=20) (SV:=SV) (DV:=DV) (PV:=PV) (GV:=GV) (mv:=mv) (FV:=FV) (VD:=VD) (MV:=MV) (WV:=WV) (LV:=LV) (KV:=KV) (UV:=UV) (TV:=TV) (sv:=sv) (σ:=σ) w (by decide) wu (bp ‹_› ‹_›)
 refine bz H ?_
 have I:=ah6 (D:=20) (SV:=SV) (DV:=DV) (PV:=PV) (GV:=GV) (mv:=mv) (FV:=FV) (MV:=MV) (WV:=WV) (LV:=LV) (KV:=KV) (UV:=UV) (TV:=TV) (sv:=sv) (σ:=σ) w (by decide) hV a q
 refine bz I ?_
 have n1:∀r,¬bE G (u++1::r):=λr v=>by
  rw[Of]at v
  exact(xQ w (tG r v)).2.1 rfl
 have s1:cV .add (.lst (u.map nV)) (.lst [.int 1])=S (.lst ((u++ [1]).map nV)):=by
  refine Zrr (nu (by(rw[aq _,ed]);exact aw (SD qb q))) ?_;rw[bK];rfl
 have s2:cV .add (.lst (u.map nV)) (.lst [.int 1,.int 0])=S (.lst ((u++ [1,0]).map nV)):=by
  refine Zrr (nu (by rw[aq _];exact aw (by show u.length+2<_;exact SE qb q))) ?_;rw[bK];rfl
 have L:=OU (D:=19) (σ:=σ) (K:= .lst (u.map nV)) w f rfl (by decide)
 rw[show tH G ws u=(bD G u).map (vI G) from by rewrite[tH];rw[kN a];rfl]at L
 have O:=OR (D:=19) (σ:=σ) (K:= .lst (u.map nV)) w f rfl (by decide)
 rw[kN a]at O
 have U:=OR (D:=19) (σ:=σ) (K:= .lst ((u++ [1]).map nV)) w f rfl (by decide)
 rw[lH (n1 [])]at U
 have Y:=OU (D:=19) (σ:=σ) (K:= .lst ((u++ [1,0]).map nV)) w f rfl (by decide)
 rw[show tH G ws (u++ [1,0])= [] from by rewrite[tH];rw[lH (n1 [0])];rfl]at Y
 have f5:=af5 (D:=19) (σ:=σ) w f (by decide)
 have f6:=ya (D:=19) (σ:=σ) (u:= [G.nT+1,0]) (K:= .lst [nV (G.nT+1),.int 0]) w f rfl (by decide)
 have f7:=ahQ (D:=19) (σ:=σ) w f a (bp ‹_› ‹_›) b.symm (by decide)
 have f8:=agd (D:=19) (σ:=σ) w f y (by decide)
 have f9:=aft (D:=19) (σ:=σ) (u:=z) w (by decide)
 have nB:nm G (G.nT+1)= [83]:=by rewrite[nm,List.getD];rw[w.nB];rfl
 have Ho:=AQ (D:=19) (σ:=σ) w w.AL (by decide)
 rw[nB]at Ho
 generalize hnB:nV (G.nT+1)=nb at f6 Ho
 have Qv:∀σ,ef σ (.v MV) 24=S (.v (.lst (kM G ws))):=λσ=>c▸lI
 have cM:∀σ,n6 σ (.v MV)=S 4:=λσ=>c▸nK
 have iz:∀σ,bZ σ (.v (.lst (kM G ws))) sv=S (.v (gF G ws (stN G ws u) z)):=λσ=>b▸rN f y
 have Hf:∀σ t,ef σ (.v (gF G ws t z)) 17=S (.v (.tup ((aW G z).map (vI G)))):=λ_ _=>rfl
 rw[c]at L O U Y f5 f6 f7 f8
 rw[b]at f8
 have dI:isData 4 (.lst ((bD G u).map (vI G)))=true:=vi lF
 refine gw (jT (br (c6 (aj (aa rfl) (aj (aa rfl) aA)) L) (aa rfl) (ne_self dI)) (jT (xw (c6 (aj (aa rfl) (aj (aa rfl) aA)) O)) (c6 (aj (aa rfl) (aj (b9 (aa rfl) (fS (aj aP aA) (aw (by simp)) rfl) s1) aA)) U))) ?_
 refine gw (br (c6 (aj (aa rfl) (aj (b9 (aa rfl) (fS (aj aP (aj aP aA)) (aw (by simp)) rfl) s2) aA)) Y) (fS aA (aw (eM _)) rfl) (ne_self cn)) ?_
 refine gw (jT (br (cX (aa rfl) (cM _) aA f5) (cX (aa rfl) (cM _) (aj aP (aj (fS (aj (cX (aa rfl) jr (aj aP aA) Ho) (aj aP aA)) (aw (by simp)) rfl) aA)) f6) (ne_self ahX)) (xw (c6 (aj (aa rfl) (aj (aa rfl) (aj (aa rfl) aA))) f7))) ?_
 have e18:=ah7 (D:=20) (SV:=SV) (DV:=DV) (GV:=GV) (mv:=mv) (FV:=FV) (VD:=VD) (WV:=WV) (LV:=LV) (KV:=KV) (UV:=UV) (TV:=TV) (u:=u) (σ:=σ) w f (by decide) c.symm b.symm y rT.symm
 refine bz e18 ?_
 have dT:isData 4 (.lst ((cls G z).map λp=>V.str (lK G p)))=true:=by
  show((cls G z).map λp=>V.str (lK G p)).all (isData 3)=ab
  rw[nC,propext cF]
  exact λp hp=>ahS w (oT p hp)
 have dC:isData 4 (.lst (ip G z))=true:=vi lF
 exact cb (aR:=σ) (xp (br (c6 (aj (aa rfl) (aj (aa rfl) aA)) f8) (aa rfl) (eq_self dT)) (br (c6 (aj (aa rfl) (aj (a_ (bu (a_ (aa rfl) (Qv _)) (aa rfl) (iz _)) (Hf _ _)) aA)) f9) (a_ (bu (a_ (aa rfl) (Qv _)) (aa rfl) (iz _)) yc) (eq_self dC))) (hT (c8 rfl))
theorem aia (w:WF G)(f:Fin G ws){SV DV PV GV mv FV VD MV LV KV}{σ}{m n}(b:qa G m VD)(o:m<=3)(L:nV m=mv)(U: .lst (iM G)=PV)(q:vM G ws=MV){F}(Fs:tq F)(Y:F≠ [])(a:∀u,u∈F↔bE G u/\u.length<=m)(hn:oZ ws F n)(r: .lst (F.map (mw G ws))=LV)(y: .lst ((ws.take n).map (aV G))=KV){Q}{T}(hT:∀ {x H},Fz (.bool ab) x H->T x H):
 Do (aZ (aQ prog 19) ah8 [S (.v SV),S (.v DV),S (.v PV),S (.v (vG G)),S (.v GV),S (.v mv),S (.v FV),S (.v VD),S (.v MV),S (.v (.tup [LV,KV])),J,J,J,J,J,J,J,J,J,J,J,J,J,J,J,J,J,J,J] σ) Q T:=by
 have I:F.length<=820:=Zrr F9.symm (nD (F_ Fs) λu hu=>have:=(a u).mp hu;A6 3 u (λx hx=>d_ (mf w this.1 x hx) w.big) (iP this.2 o))
 have b1:∀σ,cB σ .len (.v LV)=S (.val (nV F.length)):=λσ=>r▸eC (congrArg S (aq _)) (aw (bx I (by decide)))
 have b2:∀σ,cB σ .len (.v VD)=S (.val (nV F.length)):=λσ=>by
  refine cD b λK nd hK O=> ?_;clear b;subst O
  exact have:=(u3 nd (F_ Fs) λu=>(hK u).trans (a u).symm).length_eq;eC (congrArg S ((aq _).trans this)) (aw (bx I (by decide)))
 have c9:cO σ .ne (.v (nV F.length)) (.v (nV F.length))=S false:=yr.trans (by simp)
 refine gw (jT (tb (aa rfl) rfl) (br (cw (bu (aa rfl) aP ((λσ=>xE (aw (by simp)) rfl) _)) (b1 _)) (cw (aa rfl) (b2 _)) c9)) (xy (aa rfl) rfl ?_)
 generalize hWV:V.tup [LV,KV]=WV
 refine bz (ah2 (D:=20) (SV:=SV) (DV:=DV) (PV:=PV) (GV:=GV) (mv:=mv) (FV:=FV) (MV:=MV) (WV:=WV) (LV:=LV) (σ:=σ) w f b a hn y.symm) ?_
 generalize c:V.lst (iq G ws n)=UV
 refine bz (ah3 (D:=20) (SV:=SV) (DV:=DV) (PV:=PV) (GV:=GV) (mv:=mv) (FV:=FV) (VD:=VD) (MV:=MV) (WV:=WV) (LV:=LV) (UV:=UV) (σ:=σ) w f (by simp) y.symm) ?_
 have k:=ahL (D:=19) (σ:=σ) w f a hn L.symm (by simp)
 generalize hTV:V.lst ((ws.take n).map dJ)=TV at k
 rw[q]at k
 exact gw (jT (br (ah4 (D:=20) (SV:=SV) (DV:=DV) (PV:=PV) (GV:=GV) (mv:=mv) (FV:=FV) (VD:=VD) (MV:=MV) (WV:=WV) (LV:=LV) (KV:=KV) (TV:=TV) (σ:=σ) w f c.symm) (fS aA (aw (eM _)) rfl) (ne_self rfl)) (xw (c6 (aj (aa rfl) (aj (aa rfl) (aj (aa rfl) aA))) k))) (ah9 w f b o U q Y a r hT)
theorem aib {ns:List Int}(r:ns.length<=63):(aQ prog 20).call 57 [.v (.lst (ns.map .int))] []=S (.v (.bool ab),[]):=by
 refine ec (ρ:= [S (.v (.lst (ns.map .int))),J,J,J,J,J,J,J,J,J,J,J,J,J,J,J,J,J,J,J,J,J,J,J,J,J,J,J,J]) (by decide) rfl rfl rfl rfl λT hT=> ?_
 refine ah (agJ (D:=19) r (by decide)) λc0 sH U=> ?_
 refine iO (agK (D:=19) sH (by decide)) λk b c d e2=> ?_
 generalize hSV:V.lst (ns.map .int)=SV at U
 refine bz (c6 (aj (c6 (aj (aa rfl) aA) U) aA) e2) ?_
 refine l_ rfl (jn (l:=b.map gT) rfl) ?_
 have w:=G0 d
 have pe:=agZ d
 have dl:=d.len
 have a1:cV .add (.lst [gT (nP,[[83],[36,101,110,100]])]) (.lst (b.map gT))=S (.lst (iM (cm k b))):=by
  refine Zrr (nu (by(rw[aq _,ed]);exact aw (Q0 dl))) ?_;rw[pe];rfl
 refine bz (b9 (fS (xs:= [.v (gT (nP,[[83],[36,101,110,100]]))]) (aj (eY (xs:= [.v (.str nP),.v (.tup [.str [83],.str [36,101,110,100]])]) (aj aP (aj (eY (xs:= [.v (.str [83]),.v (.str [36,101,110,100])]) (aj aP (aj aP aA)) (aw (by simp)) rfl) aA)) (aw (by simp)) rfl) aA) (aw (by simp)) rfl) (aa rfl) a1) ?_
 generalize o:V.lst (iM (cm k b))=PV
 have pl:∀p∈b,p.2.length<1000:=λp u=>by have:=(d.syms.1 p u).2;exact bx this (by decide)
 generalize He:V.lst (b.map gT)=Y
 have g:=jo (f:=λa af=>(bV (.two 19 20) a [S (.v SV),S (.v Y),S (.v PV),J,J,J,J,J,J,J,J,J,J,J,J,J,J,J,J,J,J,J,J,J,J,J,J,J,J]).bind λρ'=>az (aQ prog 19) (.tup (.cons (.var 19) (.cons (.bf ae .list (.var 20)) .nil))) ρ' af) gT (λp=>X.v (km p)) b [c,.dead] λp u=>
  aJ (a:= [S (.v SV),S (.v Y),S (.v PV),J,J,J,J,J,J,J,J,J,J,J,J,J,J,J,J,S (.v (.str p.1)),S (.v (.tup (p.2.map .str))),J,J,J,J,J,J,J,J]) rfl (eY (xs:= [.v (.str p.1),.v (.lst (p.2.map .str))]) (aj (aa rfl) (aj (iH (aa rfl) (Fu (by rw[aq _];have:=pl p u;exact aw (dw this (by decide))))) aA)) (aw (by simp)) rfl)
 rw[show b.map (λp=>X.v (km p))=(b.map km).map .v from by rw[b4];rfl]at g
 refine bz (c6 (aj (jm (oL (aa (by rw[He.symm];rfl))) g (by(rw[aq _,aq _]);exact aw (bx dl (by decide))) (fT _)) aA) (run_plain d (by decide))) ?_
 generalize cm k b=G at w o
 have e3:=ahx (D:=19) (σ:= [c,.dead]) w (by decide)
 rw[o]at e3
 refine gw (xw (p:=ab) (c6 (aj (aa rfl) (aj (aa rfl) aA)) e3)) ?_
 refine ah (ag5 (D:=19) (σ:= [c,.dead]) w (by decide)) λGV hG e4=> ?_
 rw[o]at e4
 refine bz (c6 (aj (aa rfl) aA) e4) ?_
 (refine ah (ahd (D:=19) (σ:= [c,.dead]) w hG (by decide)) λRV O e5=> ?_;refine kP O λm L w0 x y fL H I=> ?_;clear O;obtain rfl:=y)
 generalize Q:nV m=mv at e5
 refine xy (vs:= [mv,.lst (L.map (aV G))]) (c6 (aj (aa rfl) aA) e5) rfl ?_
 refine ah (ahu (D:=19) (σ:= [c,.dead]) w hG Q.symm x fL H I (by decide)) λVD hV e6=> ?_
 generalize Qc:V.lst (L.map (aV G))=FV at e6
 refine ao (ae6 w) λws f=> ?_
 have e7:=afZ (D:=19) (σ:= [c,.dead]) w f (by decide)
 (refine ah (ahG (D:=19) (σ:= [c,.dead]) w f hV x Q.symm (by decide)) λWV O q=> ?_;refine yx O λF n Fs yu hF hn y=> ?_;clear O;obtain rfl:=y)
 generalize o3:vM G ws=MV at e7 q
 refine AE (aj (c6 (aj (aa rfl) (aj (aa rfl) (aj (aa rfl) aA))) e6) (aj (c6 (aj (aa rfl) aA) e7) aA)) rfl ?_
 generalize vn:V.lst (F.map (mw G ws))=LV at q
 generalize BL:V.lst ((ws.take n).map (aV G))=KV at q
 refine bz (c6 (aj (aa rfl) (aj (aa rfl) (aj (aa rfl) (aj (aa rfl) aA)))) q) ?_
 exact aia w f hV x Q o o3 Fs yu hF hn vn BL hT
section
open PySem PySem.W PySem.Calls PyProof.Rows
open PySem PySem.W PySem.Calls PyProof.Rows
def Hr (p:Program)(w:World):Nat->SharedT->Thread->Option SharedT
 |0,_,_=>J
 |n+1,s,t=>match through t with
  |true=>S s
  |false=>match PySem.W.Fast.tw6613529449190102663 11 (S (.ref 6)) t with
   |false=>J
   |true=>match PySem.W.Fast.tw10156331382660048174 (PySem.W.Fast.tw11892475500146522536 PySem.W.Fast.tw14364793385576792824) p w s t with
    |some (a,b)=>Hr p w n a b
    |none=>J
theorem aic {p:Program}{w:World}:∀ {n:Nat} {s a:SharedT} {t:Thread},Hr p w n s t=S a->topRun treeTable p w 11 (S (.ref 6)) n s.abs t=S a.abs:=by
 intro k
 induction k with
 |zero=>exact λh=>nomatch h
 |succ n o=>
  intro s a t h
  unfold topRun
  have h:(match through t with|true=>_|false=>_)=_:=h
  cases c:through t with
  |true=>rewrite[c]at h;cases h;rfl
  |false=>
   rewrite[c,<-PySem.W.Fast.te6613529449190102663]at h
   dsimp only at h ⊢
   cases hk:stepOk 11 (S (.ref 6)) t with
   |false=>rewrite[hk]at h;cases h
   |true=>
    rewrite[hk,<-PySem.W.Fast.te10156331382660048174,<-PySem.W.Fast.te11892475500146522536,<-PySem.W.Fast.te14364793385576792824]at h
    dsimp only at h ⊢
    cases b:stepT (denote treeTable) p w s t with
    |none=>rewrite[b]at h;cases h
    |some x=>
     rewrite[b]at h
     rewrite[stepT_spec b]
     exact o h
def T0 (P:Params):BT:=(boot_heap P).objs.toList.zipIdx.foldl (λt x=>t.ins x.2 x.1) .nil
def Hs (w:World)(os:OsState):SharedT:=⟨T0 w.params,11,(boot_heap w.params).life,#[],boot_drawn,boot_toks,os⟩
noncomputable abbrev pw:=PySem.Challenge.pw_nn0370_01
noncomputable def qv:Program:=view pw [49]
def lz:List Str:=pw.boundNames.filter λn=> !(PySem.W.Fast.sEq n "law")
noncomputable def md:List Str:=importedModules pw.main.body
def lk1 (w:World)(s:aT):Bool:=staticsOk md (boot_heap w.params) s.heap&&namesBound pw s.heap&&gensDone s&&laidKept (boot_heap w.params) s.heap
noncomputable def Ht (h:Heap):Frag:=(h.objs.toList.zipIdx.filter λx=> !x.1.isFreed).map λx=>(x.2,x.1)
def yv (K:Frag):Bool:=(List.range 6).all (E6 K) && ((List.range 6).all (M9 K) && (M' K&& (EU K E3&& (EW K lq l9 E4&& (xo K E5 0 prog.fk&& (Ax K lq ta 0 prog.init&& (Aw K tM prog.fns E0 M5&&nsIn K mainGlobals (bY "law")==S (S (.ref (ta 57))))))))))
theorem aid (w:World):(λos=>(Hr pw w 4000 (Hs w os) (topStub pw)).map (λs=>(lk1 w s.abs,PySem.W.Fast.tw4187177175401517315 qv lz md (λ_=>ab) ab s.abs,yv (Ht s.abs.heap))))=λ_=>S (ab,openGood qv lz,ab):=by kernel_rfl
theorem aie (h:Heap):(Ht h).In h:=λa o e=>by
 have m:∀l:List (aO×Obj),l.lookup a=S o->(a,o)∈l:=λl=>by
  induction l with
  |nil=>exact λe=>nomatch e
  |cons p l b=>
   intro e
   rewrite[k7]at e
   cases q:a==p.1 with
   |true=>rewrite[q]at e;cases e;rewrite[eq_of_beq q];exact .head _
   |false=>rewrite[q]at e;exact .tail _ (b e)
 obtain ⟨x,hx,e⟩:=bX.mp (m _ e)
 cases e
 have hx:=fI.mp hx
 have this:=Bl.mp hx.1
 rewrite[eK]at this
 exact Heap.get?_some_iff.mpr ⟨this,by simpa using hx.2⟩
theorem aif {K:Frag}(h:yv K=ab):Az K/\nsIn K mainGlobals (bY "law")=S (S (.ref (ta 57))):=by
 unfold yv at h
 simp only[fY]at h
 exact⟨⟨h.1,h.2.1,h.2.2.1,h.2.2.2.1,h.2.2.2.2.1,h.2.2.2.2.2.1,h.2.2.2.2.2.2.1,h.2.2.2.2.2.2.2.1⟩,eq_of_beq h.2.2.2.2.2.2.2.2⟩
theorem aih (w:World):(λos=>(Hs w os).abs)=λos=>⟨boot_heap w.params,#[],boot_drawn,boot_toks,os⟩:=by kernel_rfl
theorem aii (w:World):((boot_heap w.params).isNs mainGlobals&& (#[]:Array GenState).size==0,(boot_heap w.params).objs.size,(boot_heap w.params).nsMap mainGlobals "__annotations__")=(ab,11,S (.ref 6)):=by kernel_rfl
theorem aij {p q:Program}{loose:List Str}{N m:Nat}{a}{Xt}{c:aT->Bool}{H:Params->Heap}{d k}(o:∀w:World,(fencedOpening treeTable p w N).map (λs=>(s.heap,s.gens,s.drawn,s.toks))=S (H w.params,Array.mk [],d,k))
 (b:∀w:World,((H w.params).isNs mainGlobals&& (#[]:Array GenState).size==0,(H w.params).objs.size,(H w.params).nsMap mainGlobals "__annotations__")=(ab,m,a))
 (r:∀w os,∃s,topRun treeTable p w m a N ⟨H w.params,#[],d,k,os⟩ (topStub p)=S s/\(staticsOk (importedModules p.main.body) (H w.params) s.heap&&namesBound p s.heap&&gensDone s&&laidKept (H w.params) s.heap,openSeen q loose (importedModules p.main.body) Xt ab s,c s)=(ab,openGood q loose,ab)):
 LeftO p q loose Xt c (λ_=>ab) N:=λw=>by
 obtain ⟨⟨h,u,d,k,os⟩,e,y⟩:=qe.mp (o w)
 obtain ⟨rfl,rfl,rfl,rfl⟩:h=_/\u=_/\d=_/\k=_:=by simpa only[kY,jF]using y
 obtain ⟨s,t,g⟩:=r w os
 have z:topFrom treeTable p w N ⟨H w.params,Array.mk [],d,k,os⟩=S s:=by
  unfold topFrom
  dsimp only
  rewrite[show((H w.params).isNs mainGlobals&& (#[]:Array GenState).size==0)=ab from congrArg Prod.fst (b w),show(H w.params).objs.size=m from congrArg (λx=>x.2.1) (b w),show(H w.params).nsMap mainGlobals "__annotations__" =a from congrArg (λx=>x.2.2) (b w),t]
  dsimp only[Option.bind]
  rewrite[show(staticsOk (importedModules p.main.body) (H w.params) s.heap&&namesBound p s.heap&&gensDone s&&laidKept (H w.params) s.heap)=ab from congrArg Prod.fst g]
  rfl
 unfold openEnds
 rewrite[e]
 dsimp only[Option.bind]
 rewrite[z]
 exact congrArg S (congrArg Prod.snd g)
theorem left:LeftO pw qv lz (λ_=>ab) (λs=>yv (Ht s.heap)) (λ_=>ab) 4000:=aij (boot_open (by kernel_rfl) (by decide) (λs=>by kernel_rfl)) aii λw os=>by
 obtain ⟨s,a,b⟩:=qe.mp (congrFun (aid w) os)
 have t:=aic a
 rewrite[show(Hs w os).abs=_ from congrFun (aih w) os]at t
 refine⟨_,t,?_⟩
 rewrite[PySem.W.Fast.te4187177175401517315]
 exact b
theorem aik {C:CX}{h:Heap}{N:aO->Prop}{a ns}(i:IntsAre a ns):bI C h N (ns.map V.int) a:=by
 induction i with
 |nil=>rfl
 |cons n t _ b=>exact⟨_,_,rfl,⟨_,rfl⟩,b⟩
theorem ail {P:Params}{h:Heap}{a:aO}{xs:List WData}(w:Well P h (.ref a) (.list xs)):∃b:List Value,h.get? a=S {cls:= .type "list",data:= .seq b.toArray}:=by
 cases w;exact⟨_,‹_›⟩
theorem aim {w:World}{h:Heap}{args b as cls}(x:PySem.Challenge.rw_nn0370_01.row.claim.pre args=ab)(y:WData.layableAll args=ab)(H:ReadsAllW PySem.Challenge.rw_nn0370_01.row.records cls h b args as)(I:WellAll w.params h b args):
 ∃ns a c n,b= [.ref a]/\h.get? a=S (seqObj "list" c n)/\IntsAre c.toList ns/\ns.length<=63:=by
 refine au (pre_splitW x) λL O=> ?_
 refine bo (hasAllW_cons (e:= .list .int) (es:= []) L) λd r Q U Y=> ?_
 cases hasAllW_nil Y
 subst Q
 refine cD (open_plain (.list .int) rfl U (layW_cons y).1) λp e2 h5 _=> ?_
 refine ao (has_list_int h5) λns e3=> ?_
 subst e3
 subst e2
 refine tN (readsAllW_cons_inv H) λv c tU yF e4 _ h6 h7=> ?_
 cases (readsAllW_nil_inv h7).1
 subst e4
 refine bU (reads_list_items (reads_of_readsW _ h6)) λa l bs e5 _ hL hr=> ?_
 subst e5
 have hl:=condW_of (holds_andW O).1 (w_sealed (.not (.lt (.lit (.int 63)) (.len (.arg 0)))) J (.yes (.list (ns.map .int)) .nil) .nil .nil (res_none J) rfl (v_not (v_lt v_lit (v_len_ints_list (v_arg rfl)))))
 refine ao (ail (wellAll_head I).1) λus q=>cD hL λo u _ k=>ao k λn k=> ?_
 rewrite[q]at u
 cases u
 cases k
 exact⟨_,_,_,_,rfl,q,(readsAll_intsAre hr).1,Cx.mp (lT.mp (of_decide_eq_false ((oB _).mp hl)))⟩
theorem ain {K:Frag}(x:Az K){p loose mg mb}{w:World}{P:Program}{s:aT}(TT:TopRead p loose mg mb s.heap)(y:K.In s.heap){ns a k n}(H:s.heap.get? a=S (seqObj "list" k n))(I:IntsAre k.toList ns)(hl:ns.length<=63){Q E}{fa r}(L:Value.ref fa= .ref (ta 57))(O:r= [.ref a])(q:∀h' u,(∀b o,s.heap.get? b=S o->h'.get? b=S o)->Q (.bool ab) (upd s h' u)):wpAny (model P w) callerA (PySem.call (.ref fa) r) Q E s:=by
 rewrite[L,O]
 refine wpAny_call ((aeo x P w s.heap TT y 20).call callerA ⟨rfl,by decide,by decide⟩ 57 _ [] _ _ (aib hl) (λ_=>False) [] s _ _ ?_ ⟨_,[],rfl,⟨a,n,_,rfl,λq=>q.elim (λq=>q) (uS a),H,aik I⟩,rfl⟩ ?_)
 . exact⟨rfl,λ_ _ e=>e,λn p c e _=>by simp at e,λn m p q c d e _ _ _ _ _=>by simp at e,λb q=>absurd q (uS b),λb q=>q.elim⟩
 . intro v h' u Y st U
   cases (show v= .bool ab from U)
   exact q _ _ λb o e=>st.keep b o e (uS b)
theorem aiO:PySem.Challenge.rw_nn0370_01.Holds:=by
 refine holds_law (by kernel_rfl) λb=>holds_open (q:=qv) (loose:=lz) (Xt:=λ_=>ab) (XP:=λ_ _=>True) (YP:=λ_ h=>∃K:Frag,yv K=ab/\K.In h) left (λw s e=>⟨_,e,aie _⟩) (λw h u x k=>x.imp λK x=>⟨x.1,x.2.keeps k⟩) (λ_ _=>trivial) (λ_ _ _ _ _=>trivial) (by rfl) (by rfl) (by rfl) (λs _=>recFacts_nil (by rfl)) (by rfl) b (by decide+kernel) ⟨rfl,rfl,rfl,rfl,rfl,by decide+kernel⟩ ⟨[.list []],by decide+kernel,by decide+kernel⟩ ?_
 intro w m8 dS mg mb G Y fa o pm cd doc dV kV _ _ _ _ c y args l8 as H I L O _
 refine ah Y λK Q r=>au (aif Q) λU kl=>tN (aim H I L O) λns a vs n e hL hI hl=> ?_
 exact ain U (topRead_of G.T) r hL hI hl (je (c.symm.trans (mg_of r G.T.g kl))) e λu tk keep=>GoodW.toG ⟨.inl ⟨.bool ab,.bool ab,[],rfl,λ_=>rfl,.bool ab,by kernel_rfl,λ_=>⟨.nil,λ_ h=>nomatch h⟩⟩,keep,rfl,y⟩
end
end Mine.Tactic
theorem PySem.Challenge.cw_nn0370_01_holds : PySem.Challenge.rw_nn0370_01.Holds := by
 exact Mine.Tactic.aiO
